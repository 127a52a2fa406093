import PyProof.Rows.All
import Wide.All
import OpenK.AllK
import Wide.FinOn
import PySem.Challenge.RW_stayedform_k20_verdicts
import HandS.ForSpec
import HandS.Comp
import HandS.ForDict
import HandS.Iter
import HandS.Text
import HandS.Wide
import HandS.TupAny
import HandS.IsInst
import HandS.Deep
import HandS.More
import HandS.StrMore
import HandS.TupMul
import HandS.Star
import HandS.Zip
import HandS.Exc
import HandS.ExcInit
import HandS.ExcField
import HandS.TryOnly
import HandS.GenList
import HandS.ExcOwn
import HandS.Style
import HandS.Strs
import KE.GoesEnum
import KE.KUnpackStar
import HandS.Call
import PyProof.Conv_bool
import HandS.Defaults
import HandS.ExcIs
import Wide.Txt
import HandS.ForList
set_option Elab.async false
set_option linter.all false
set_option maxRecDepth 100000
set_option maxHeartbeats 4000000
/-! # 1. A small language of values, its syntax and its meaning (own work) -/
namespace SF
open PySem

/-- values: tuples are data, lists, dicts and instances stand in the store -/
inductive W where
  | non | bl (b : Bool) | int (i : Int) | str (s : List Nat) | tup (ws : List W) | ref (l : Nat)
  deriving Inhabited
inductive Ky where | int (i : Int) | str (s : List Nat)
  deriving DecidableEq
inductive WO where
  | lst (ws : List W) | ro (ws : List W) | dic (kvs : List (Ky × W)) | dit (kvs : List (List Ky × W)) | ins (nm : Str) (fs : List (Str × W))
  deriving Inhabited
abbrev Sg := List WO
structure Xn where
  cls : Nat
  fs : List W
inductive R (α : Type) where
  | ok (a : α) (S : Sg)
  | ex (x : Xn) (S : Sg)
  | st
def R.bind {α β : Type} (r : R α) (f : α → Sg → R β) : R β := match r with
  | .ok a S => f a S
  | .ex x S => .ex x S
  | .st => .st
@[simp] theorem R.bind_ok {α β : Type} (a : α) (S : Sg) (f : α → Sg → R β) : (R.ok a S).bind f = f a S := rfl
@[simp] theorem R.bind_ex {α β : Type} (x : Xn) (S : Sg) (f : α → Sg → R β) : (R.ex x S : R α).bind f = .ex x S := rfl
@[simp] theorem R.bind_st {α β : Type} (f : α → Sg → R β) : (R.st : R α).bind f = .st := rfl

/-! ### data -/
mutual
def toD (f : Nat → Option PyData) : W → Option PyData
  | .non => some .none
  | .bl b => some (.bool b)
  | .int i => some (.int i)
  | .str s => some (.str ⟨s.toArray⟩)
  | .tup ws => match toDs f ws with
    | some ds => some (.tuple ds)
    | none => none
  | .ref l => f l
def toDs (f : Nat → Option PyData) : List W → Option (List PyData)
  | [] => some []
  | w :: ws => match toD f w, toDs f ws with
    | some d, some ds => some (d :: ds)
    | _, _ => none
end
def listAt (S : Sg) (l : Nat) : Option (List W) := match S[l]? with
  | some (.lst ws) => some ws
  | some (.ro ws) => some ws
  | _ => none
def refD (S : Sg) : Nat → Nat → Option PyData
  | 0, _ => none
  | n + 1, l => match listAt S l with
    | some ws => match toDs (refD S n) ws with
      | some ds => some (.list ds)
      | none => none
    | none => none
def datum (S : Sg) (w : W) : Option PyData := toD (refD S 4) w
def eqW (a b : W) (S : Sg) : Option Bool := match datum S a, datum S b with
  | some d, some e => if SeqAt.shaped d && SeqAt.shaped e then some (PyData.eqv d e) else none
  | _, _ => none
def flatW : W → Bool
  | .non | .bl _ | .int _ | .str _ => true
  | _ => false
def flatEq : W → W → Bool
  | .non, .non => true
  | .bl a, .bl b => a == b
  | .bl a, .int j => (if a then 1 else 0) == j
  | .int i, .bl b => i == (if b then 1 else 0)
  | .int i, .int j => i == j
  | .str s, .str t => s == t
  | _, _ => false
def lenMax : Nat := 16777216
/-- the items of a list or a tuple -/
def seqAt (w : W) (S : Sg) : Option (List W) := match w with
  | .tup ws => some ws
  | .ref l => listAt S l
  | _ => none
def ofO {α β : Type} (o : Option α) (f : α → R β) : R β := match o with
  | some a => f a
  | none => .st
def newL (ws : List W) (S : Sg) : R W := if ws.length ≤ lenMax then .ok (.ref S.length) (S ++ [.lst ws]) else .st
def newT (ws : List W) (S : Sg) : R W := if ws.length ≤ lenMax then .ok (.tup ws) S else .st

/-! ### instances: fields by name, set once -/
def fldW (w : W) (f : Str) (S : Sg) : Option W := match w with
  | .ref l => match S[l]? with
    | some (.ins _ fs) => fs.lookup f
    | _ => none
  | _ => none
/-- an instance of the class of that name, without a field m -/
def isIns (nm m : Str) (w : W) (S : Sg) : Bool := match w with
  | .ref l => match S[l]? with
    | some (.ins c fs) => c == nm && (fs.lookup m).isNone
    | _ => false
  | _ => false

/-- what the language calls by itself, and what must come back -/
inductive Dk where | bool | len | str
  deriving DecidableEq
def Dk.m : Dk → Str
  | .bool => "__bool__" | .len => "__len__" | .str => "__str__"
def Dk.f : Dk → Str
  | .bool => "bool" | .len => "len" | .str => "str"
def Dk.ok : Dk → W → Bool
  | .bool, .bl _ => true
  | .len, .int i => decide (0 ≤ i) && decide (i < 2 ^ 62)
  | .str, .str _ => true
  | _, _ => false

/-! ### operators -/
inductive Bo where | add | sub | mul | fdiv | mod | pow
  deriving DecidableEq
inductive Co where | eq | ne | lt | le | gt | ge | inn | nin | iss | isn
  deriving DecidableEq
def bigOk (i : Int) : Bool := decide (i.natAbs < 2 ^ 5000)
def repOk (n : Nat) (k : Int) : Bool := decide (0 < n) && decide (0 ≤ k) && decide (k ≤ 1000) && decide (n ≤ 1000)
def binW (o : Bo) (x y : W) (S : Sg) : R W := match o, x, y with
  | .add, .int i, .int j => .ok (.int (i + j)) S
  | .add, .str s, .str t => if s.length + t.length ≤ lenMax then .ok (.str (s ++ t)) S else .st
  | .add, .tup s, .tup t => newT (s ++ t) S
  | .add, .ref a, .ref b => match S[a]?, S[b]? with
    | some (.lst s), some (.lst t) => newL (s ++ t) S
    | _, _ => .st
  | .sub, .int i, .int j => .ok (.int (i - j)) S
  | .mul, .int i, .int j => if bigOk i && bigOk j then .ok (.int (i * j)) S else .st
  | .mul, .str s, .int k => if repOk s.length k then .ok (.str (List.replicate k.toNat s).flatten) S else .st
  | .mul, .tup s, .int k => if repOk s.length k then newT (List.replicate k.toNat s).flatten S else .st
  | .mul, .ref a, .int k => match S[a]? with
    | some (.lst s) => if repOk s.length k then newL (List.replicate k.toNat s).flatten S else .st
    | _ => .st
  | .fdiv, .int i, .int j => if decide (0 < j) && bigOk j then .ok (.int (i / j)) S else .st
  | .mod, .int i, .int j => if decide (0 < j) then .ok (.int (i % j)) S else .st
  | .pow, .int i, .int j => if decide (0 ≤ j) && decide (j ≤ 60) && decide (i.natAbs < 2 ^ 400) then .ok (.int (i ^ j.toNat)) S else .st
  | _, _, _ => .st
/-! ### keys of dicts: ints and texts, or tuples of them -/
def kyOf : W → Option Ky
  | .int i => some (.int i)
  | .str s => some (.str s)
  | _ => none
def kysOf : List W → Option (List Ky)
  | [] => some []
  | w :: ws => match kyOf w, kysOf ws with
    | some k, some ks => some (k :: ks)
    | _, _ => none
def kytOf : W → Option (List Ky)
  | .tup ws => kysOf ws
  | _ => none
def kvGet {κ : Type} [DecidableEq κ] (kvs : List (κ × W)) (k : κ) : Option W := (kvs.find? fun kv => decide (kv.1 = k)).map (·.2)
def kvPut {κ : Type} [DecidableEq κ] (kvs : List (κ × W)) (k : κ) (v : W) : List (κ × W) :=
  if (kvs.any fun kv => decide (kv.1 = k)) = true then kvs.map (fun kv => if kv.1 = k then (kv.1, v) else kv) else kvs ++ [(k, v)]
def Ky.w : Ky → W
  | .int i => .int i
  | .str s => .str s
def inSeq (x : W) (ws : List W) : Option Bool := if flatW x && ws.all flatW then some (ws.any fun y => flatEq y x) else none
def inW (x y : W) (S : Sg) : Option Bool := match x, y with
  | .str [c], .str t => some (decide (c ∈ t))
  | x, .tup ws => inSeq x ws
  | x, .ref l => match S[l]? with
    | some (.lst ws) => inSeq x ws
    | some (.ro ws) => inSeq x ws
    | some (.dic kvs) => (kyOf x).map fun k => (kvGet kvs k).isSome
    | _ => none
  | _, _ => none
def isNonW : W → Bool
  | .non => true
  | _ => false
def cmpW (o : Co) (x y : W) (S : Sg) : Option Bool := match o with
  | .eq => eqW x y S
  | .ne => (eqW x y S).map (!·)
  | .lt => match x, y with
    | .int i, .int j => some (decide (i < j))
    | _, _ => none
  | .le => match x, y with
    | .int i, .int j => some (decide (i ≤ j))
    | _, _ => none
  | .gt => match x, y with
    | .int i, .int j => some (decide (j < i))
    | _, _ => none
  | .ge => match x, y with
    | .int i, .int j => some (decide (j ≤ i))
    | _, _ => none
  | .inn => inW x y S
  | .nin => (inW x y S).map (!·)
  | .iss => if isNonW y then some (isNonW x) else none
  | .isn => if isNonW y then some (!isNonW x) else none
/-- truth -/
def truW (w : W) (S : Sg) : Option Bool := match w with
  | .non => some false
  | .bl b => some b
  | .int i => some (i != 0)
  | .str s => if s.length ≤ lenMax then some (!s.isEmpty) else none
  | .tup ws => some (!ws.isEmpty)
  | .ref l => (listAt S l).map (!·.isEmpty)

/-! ### what is built in -/
inductive Ty where | bool | int | str | tuple | list
  deriving DecidableEq
inductive Bi where | int | abs | max2 | min2 | len | list | tuple | all | any | sum | ord | str
  deriving DecidableEq
inductive Me where | append | split | join | strip1
  deriving DecidableEq
def isTy (S : Sg) (w : W) : Ty → Option Bool
  | .bool => match w with
    | .bl _ => some true
    | .ref l => (listAt S l).map fun _ => false
    | _ => some false
  | .int => match w with
    | .bl _ => some true
    | .int _ => some true
    | .ref l => (listAt S l).map fun _ => false
    | _ => some false
  | .str => match w with
    | .str _ => some true
    | .ref l => (listAt S l).map fun _ => false
    | _ => some false
  | .tuple => match w with
    | .tup _ => some true
    | .ref l => (listAt S l).map fun _ => false
    | _ => some false
  | .list => match w with
    | .ref l => (listAt S l).map fun _ => true
    | _ => some false
def isTys (S : Sg) (w : W) : List Ty → Option Bool
  | [] => some false
  | t :: ts => match isTy S w t, isTys S w ts with
    | some a, some b => some (a || b)
    | _, _ => none
def itemW (x y : W) (S : Sg) : Option W := match x, y with
  | .str s, .int i => if s.length ≤ lenMax then (L2.ixN s.length i).bind fun k => (s[k]?).map fun c => .str [c] else none
  | .tup ws, .int i => (L2.ixN ws.length i).bind fun k => ws[k]?
  | .ref l, k => match S[l]?, k with
    | some (.lst ws), .int i => (L2.ixN ws.length i).bind fun k => ws[k]?
    | some (.ro ws), .int i => (L2.ixN ws.length i).bind fun k => ws[k]?
    | some (.dic kvs), k => (kyOf k).bind fun k => kvGet kvs k
    | _, _ => none
  | _, _ => none
def strsOf : List W → Option (List Str)
  | [] => some []
  | .str s :: ws => (strsOf ws).map (⟨s.toArray⟩ :: ·)
  | _ => none
def boolsOf : List W → Option (List Bool)
  | [] => some []
  | .bl b :: ws => (boolsOf ws).map (b :: ·)
  | _ => none
def intsOf : List W → Option (List Int)
  | [] => some []
  | .int b :: ws => (intsOf ws).map (b :: ·)
  | _ => none
def wS (s : Str) : W := .str s.cps.toList
def ded (xs : List Str) : List Str := xs.foldl (fun σ v => if σ.any (· == v) then σ else σ ++ [v]) []
def biInt : List W → Sg → R W
  | [.int i], S => .ok (.int i) S
  | [.bl k], S => .ok (.int (if k then 1 else 0)) S
  | _, _ => .st
def biAbs : List W → Sg → R W
  | [.int i], S => .ok (.int (if i < 0 then -i else i)) S
  | _, _ => .st
def biMax2 : List W → Sg → R W
  | [.int i, .int j], S => .ok (.int (if j > i then j else i)) S
  | _, _ => .st
def biMin2 : List W → Sg → R W
  | [.int i, .int j], S => .ok (.int (if j < i then j else i)) S
  | _, _ => .st
def lenW (w : W) (S : Sg) : Option Nat := match w with
  | .str s => if s.length ≤ lenMax then some s.length else none
  | .tup ws => some ws.length
  | .ref l => match S[l]? with
    | some (.lst ws) => some ws.length
    | some (.ro ws) => some ws.length
    | some (.dic kvs) => some kvs.length
    | _ => none
  | _ => none
def biLen : List W → Sg → R W
  | [w], S => ofO (lenW w S) fun n => .ok (.int n) S
  | _, _ => .st
/-- the items of a list, a tuple, or a dict's keys -/
def itemsW (w : W) (S : Sg) : Option (List W) := match w with
  | .tup ws => some ws
  | .ref l => match S[l]? with
    | some (.lst ws) => some ws
    | some (.ro ws) => some ws
    | some (.dic kvs) => some (kvs.map (·.1.w))
    | _ => none
  | _ => none
def biList : List W → Sg → R W
  | [w], S => ofO (itemsW w S) fun ws => newL ws S
  | _, _ => .st
def biTuple : List W → Sg → R W
  | [w], S => ofO (seqAt w S) fun ws => newT ws S
  | _, _ => .st
def biAll : List W → Sg → R W
  | [.ref l], S => ofO (listAt S l) fun ws => ofO (boolsOf ws) fun bs => .ok (.bl (bs.all id)) S
  | _, _ => .st
def biAny : List W → Sg → R W
  | [.ref l], S => ofO (listAt S l) fun ws => ofO (boolsOf ws) fun bs => .ok (.bl (bs.any id)) S
  | _, _ => .st
def biSum : List W → Sg → R W
  | [.ref l], S => ofO (listAt S l) fun ws => ofO (intsOf ws) fun bs => .ok (.int bs.sum) S
  | _, _ => .st
def biOrd : List W → Sg → R W
  | [.str [c]], S => .ok (.int c) S
  | _, _ => .st
def tsS (i : Int) : Str := toString i
/-- a number's text -/
def tsI (i : Int) : List Nat := (tsS i).cps.toList
def biStr : List W → Sg → R W
  | [.int i], S => if decide (-(2 ^ 62) ≤ i) && decide (i < 2 ^ 62) then .ok (.str (tsI i)) S else .st
  | _, _ => .st
/-- len(set(xs)) -/
def biLenset : List W → Sg → R W
  | [w], S => ofO (seqAt w S) fun ws => ofO (strsOf ws) fun xs => if xs.length ≤ 1000 then .ok (.int (ded xs).length) S else .st
  | _, _ => .st
def biW : Bi → List W → Sg → R W
  | .int => biInt
  | .abs => biAbs
  | .max2 => biMax2
  | .min2 => biMin2
  | .len => biLen
  | .list => biList
  | .tuple => biTuple
  | .all => biAll
  | .any => biAny
  | .sum => biSum
  | .ord => biOrd
  | .str => biStr
def meAppend : W → List W → Sg → R W
  | .ref l, [w], S => match S[l]? with
    | some (.lst xs) => if xs.length < lenMax then .ok .non (S.set l (.lst (xs ++ [w]))) else .st
    | _ => .st
  | _, _, _ => .st
def meSplit : W → List W → Sg → R W
  | .str s, [.str t], S => if t.length ≠ 0 ∧ s.length + 2 ≤ lenMax then newL ((Txt.split ⟨s.toArray⟩ ⟨t.toArray⟩).map wS) S else .st
  | _, _, _ => .st
def meJoin : W → List W → Sg → R W
  | .str s, [w], S => ofO (seqAt w S) fun ws => ofO (strsOf ws) fun xs =>
    if (xs.map (·.length)).sum + xs.length * s.length ≤ lenMax then .ok (wS (Txt.join ⟨s.toArray⟩ xs)) S else .st
  | _, _, _ => .st
def meStrip1 : W → List W → Sg → R W
  | .str s, [.str t], S => if s.length ≤ lenMax then .ok (wS (Txt.stripChars ⟨s.toArray⟩ ⟨t.toArray⟩)) S else .st
  | _, _, _ => .st
/-- methods without arguments -/
inductive Me0 where | strip | rstrip
  deriving DecidableEq
def me0W : Me0 → W → Sg → R W
  | .strip, .str s, S => if s.length ≤ lenMax then .ok (wS (Txt.strip ⟨s.toArray⟩)) S else .st
  | .rstrip, .str s, S => if s.length ≤ lenMax then .ok (wS (Txt.rstrip ⟨s.toArray⟩)) S else .st
  | _, _, _ => .st
/-- the receiver is of the method's kind -/
def meTy : Me → W → Sg → Bool
  | .append, .ref l, S => match S[l]? with
    | some (.lst _) => true
    | _ => false
  | .split, .str _, _ => true
  | .join, .str _, _ => true
  | .strip1, .str _, _ => true
  | _, _, _ => false
def meW : Me → W → List W → Sg → R W
  | .append => meAppend
  | .split => meSplit
  | .join => meJoin
  | .strip1 => meStrip1
end SF
namespace SF
open PySem
/-! ### syntax -/
mutual
inductive Tg where
  | na (i : Nat)
  | tu (ts : Tgs)
inductive Tgs where
  | nil
  | cons (t : Tg) (ts : Tgs)
  | star (i : Nat) (ts : Tgs)
end
mutual
inductive E where
  | var (i : Nat)
  | con (w : W)
  | gl (g : Nat)
  | neg (a : E)
  | bin (o : Bo) (a b : E)
  | cmp (o : Co) (a b : E)
  | ch (o p : Co) (a b c : E)
  | bo (isAnd : Bool) (bs : Eb)
  | nt (a : E)
  | ite (c : Tt) (a b : E)
  | call (sh : Nat) (es ks : Es)
  | bi (b : Bi) (es : Es)
  | me (m : Me) (o : E) (es : Es)
  | me0 (m : Me0) (o : E)
  | rev (a : E)
  | isi (a : E) (ty : Ty)
  | fld (a : E) (f : Str)
  | blo (a : E)
  | slf (nm m : Str) (a : E)
  | dun (d : Dk) (h : Nat) (nm : Str) (a : E)
  | mk (nm : Str) (fs : List Str) (es : Es)
  | isis (a : E) (tys : List Ty)
  | lset (a : E)
  | tup (es : Es)
  | lst (es : Es)
  | dic0 (tups : Bool)
  | ix (a b : E)
  | sl (a : E) (lo hi : Oe)
  | comp (elt : E) (tg : Tg) (it : It) (cond : Ot) (own : List Nat)
inductive Es where
  | nil
  | cons (e : E) (es : Es)
  | star (e : E) (es : Es)
inductive Eb where
  | one (e : E)
  | cons (e : E) (bs : Eb)
inductive Tt where
  | val (e : E)
  | bo (isAnd : Bool) (ts : Tb)
  | nt (t : Tt)
  | cmp (o : Co) (a b : E)
  | ch (o p : Co) (a b c : E)
inductive Tb where
  | one (t : Tt)
  | cons (t : Tt) (ts : Tb)
inductive Ot where
  | no
  | so (t : Tt)
inductive Oe where
  | no
  | so (e : E)
inductive It where
  | seq (e : E)
  | rng (e : E)
  | rng2 (a b : E)
  | enm (e : E)
  | zip (a b : E)
end
mutual
inductive XE where
  | con (v : W)
  | fld (m k : Nat)
  | tup (xs : XEs)
  | lst (xs : XEs)
inductive XEs where
  | nil
  | cons (x : XE) (xs : XEs)
end
/-- except C as slot: slots stored, what is returned -/
structure Hd where
  cls : Nat
  sl : Option Nat
  as : List (Nat × XE)
  fin : Option XE
mutual
inductive St where
  | asg (tg : Tg) (e : E)
  | seti (o i e : E)
  | aug (i : Nat) (sub : Bool) (e : E)
  | par (i j : Nat) (e1 e2 : E)
  | par3 (i j l : Nat) (e1 e2 e3 : E)
  | ifs (c : Tt) (a b : Ss)
  | fr (tg : Tg) (it : It) (b : Ss)
  | wh (c : Tt) (b : Ss)
  | rt (e : E)
  | rtN
  | ex (e : E)
  | brk
  | cnt
  | pas
  | bad
  | rs (m : Nat) (es : Es)
  | ty (b : Ss) (hs : List Hd)
  | gb (i h : Nat) (es ks : Es)
inductive Ss where
  | nil
  | cons (s : St) (ss : Ss)
end

/-! ### meaning -/
/-- what is built in raises nothing here -/
def R.np {α : Type} (r : R α) : R α := match r with
  | .ok a S => .ok a S
  | _ => .st
@[simp] theorem R.np_ok {α : Type} (a : α) (S : Sg) : (R.ok a S).np = .ok a S := rfl
@[simp] theorem R.np_st {α : Type} : (R.st : R α).np = .st := rfl
abbrev En := List (Option W)
/-- what a call site binds: the function, how many stand by position, the rest from the keywords' values or the defaults -/
inductive Fi where
  | kw (j : Nat)
  | df (w : W)
structure Sh where
  fn : Nat
  np : Nat
  ks : List Str
  fill : List Fi
def fillA (ws zs : List W) : List Fi → Option (List W)
  | [] => some ws
  | .kw j :: r => match zs[j]? with
    | some z => fillA (ws ++ [z]) zs r
    | none => none
  | .df w :: r => fillA (ws ++ [w]) zs r
structure Cn where
  cl : Nat → List W → Sg → R W
  gl : Nat → Option W
  sh : Nat → Option Sh
  fuel : Nat
  kl : Nat → Option (Nat × List Nat)
  dp : Nat
inductive Src where
  | fix (ws : List W)
  | lis (l : Nat)
  | rng (lo : Int) (n : Nat)
  | enm (s : Src)
  | zip (a b : Src)
/-- what stands at a turn: no answer, the end, an item -/
def Src.at : Src → Nat → Sg → Option (Option W)
  | .fix ws, i, _ => some ws[i]?
  | .lis l, i, S => (listAt S l).map (·[i]?)
  | .rng lo n, i, _ => some (if i < n then some (.int (lo + i)) else none)
  | .enm s, i, S => (s.at i S).map (Option.map fun w => .tup [.int i, w])
  | .zip a b, i, S => match a.at i S, b.at i S with
    | some (some x), some (some y) => some (some (.tup [x, y]))
    | some _, some _ => some none
    | _, _ => none
def Src.len : Src → Sg → Nat
  | .fix ws, _ => ws.length
  | .lis l, S => ((listAt S l).getD []).length
  | .rng _ n, _ => n
  | .enm s, S => s.len S
  | .zip a b, S => min (a.len S) (b.len S)
def srcOf (w : W) (S : Sg) : Option Src := match w with
  | .tup ws => some (.fix ws)
  | .ref l => (listAt S l).map fun _ => .lis l
  | _ => none
def small62 (i : Int) : Bool := decide (-(2 ^ 62) ≤ i) && decide (i < 2 ^ 62)
def rngOf (w : W) : Option Src := match w with
  | .int j => if small62 j then some (.rng 0 j.toNat) else none
  | _ => none
def rng2Of (v w : W) : Option Src := match v, w with
  | .int i, .int j => if small62 i && small62 j then some (.rng i (j - i).toNat) else none
  | _, _ => none
def tgsLen : Tgs → Nat
  | .nil => 0
  | .cons _ ts => tgsLen ts + 1
  | .star _ ts => tgsLen ts + 1
/-- where the star stands -/
def starIx : Tgs → Option Nat
  | .nil => none
  | .cons _ ts => (starIx ts).map (· + 1)
  | .star _ _ => some 0
mutual
def asgT : Tg → W → En → Sg → R En
  | .na i, w, σ, S => .ok (σ.set i (some w)) S
  | .tu ts, w, σ, S => match starIx ts with
    | none => match w with
      | .tup ws => asgTs ts ws σ S
      | _ => .st
    | some i => match seqAt w S with
      | some ws => if tgsLen ts ≤ ws.length + 1 ∧ ws.length ≤ lenMax then
          asgTs ts (ws.take i ++ [.ref S.length] ++ (ws.drop i).drop (ws.length - i - (tgsLen ts - 1 - i))) σ (S ++ [.lst ((ws.drop i).take (ws.length - i - (tgsLen ts - 1 - i)))])
        else .st
      | none => .st
def asgTs : Tgs → List W → En → Sg → R En
  | .nil, [], σ, S => .ok σ S
  | .cons t ts, w :: ws, σ, S => (asgT t w σ S).bind fun σ' S' => asgTs ts ws σ' S'
  | .star i ts, w :: ws, σ, S => asgTs ts ws (σ.set i (some w)) S
  | _, _, _, _ => .st
end
def ofB {α : Type} (o : Option Bool) (S : Sg) (f : Bool → R α) : R α := match o with
  | some b => f b
  | none => .st
def wipeE (σ : En) : List Nat → En
  | [] => σ
  | v :: vs => (wipeE σ vs).set v none
/-- one turn after another: x is what stands at the turn's number -/
def compGo (src : Src) (D : Nat) (turn : W → Sg → R (Option W)) : Nat → Nat → Sg → R W
  | 0, i, S => match src.at i S with
    | some none => .ok (.ref D) S
    | _ => .st
  | k + 1, i, S => match src.at i S with
    | some (some w) => match turn w S with
      | .ok (some y) S1 => match S1[D]? with
        | some (.lst acc) => if acc.length < lenMax then compGo src D turn k (i + 1) (S1.set D (.lst (acc ++ [y]))) else .st
        | _ => .st
      | .ok none S1 => compGo src D turn k (i + 1) S1
      | _ => .st
    | _ => .st
def setW (o i v : W) (S : Sg) : R Unit := match o with
  | .ref l => match S[l]?, i with
    | some (.lst ws), .int j => match L2.ixN ws.length j with
      | some k => .ok () (S.set l (.lst (ws.set k v)))
      | none => .st
    | some (.dic kvs), k => match kyOf k with
      | some q => if kvs.length < lenMax then .ok () (S.set l (.dic (kvPut kvs q v))) else .st
      | none => .st
    | _, _ => .st
  | _ => .st
def revW (w : W) (S : Sg) : R W := match w with
  | .ref l => ofO (listAt S l) fun ws => newL ws.reverse S
  | _ => .st
def sliceW (w : W) (lo hi : Option Int) (S : Sg) : R W := match w with
  | .str s => if s.length ≤ lenMax then .ok (wS (L2.cutS ⟨s.toArray⟩ lo hi)) S else .st
  | .tup ws => newT ((ws.drop (HT.sIx ws.length 0 lo)).take (HT.sIx ws.length ws.length hi - HT.sIx ws.length 0 lo)) S
  | .ref l => ofO (listAt S l) fun ws => newL ((ws.drop (HT.sIx ws.length 0 lo)).take (HT.sIx ws.length ws.length hi - HT.sIx ws.length 0 lo)) S
  | _ => .st
section
variable (c : Cn)
mutual
def ev : E → En → Sg → R W
  | .var i, σ, S => match σ[i]? with
    | some (some w) => .ok w S
    | _ => .st
  | .con w, _, S => .ok w S
  | .gl g, _, S => ofO (c.gl g) fun w => .ok w S
  | .neg a, σ, S => (ev a σ S).bind fun x S => match x with
    | .int i => .ok (.int (-i)) S
    | _ => .st
  | .bin o a b, σ, S => (ev a σ S).bind fun x S => (ev b σ S).bind fun y S => (binW o x y S).np
  | .cmp o a b, σ, S => (ev a σ S).bind fun x S => (ev b σ S).bind fun y S => ofB (cmpW o x y S) S fun k => .ok (.bl k) S
  | .ch o p a b d, σ, S => (ev a σ S).bind fun x S => (ev b σ S).bind fun y S => ofB (cmpW o x y S) S fun k =>
      if k then (ev d σ S).bind fun z S => ofB (cmpW p y z S) S fun k => .ok (.bl k) S else .ok (.bl false) S
  | .bo an es, σ, S => evB an es σ S
  | .nt a, σ, S => (ev a σ S).bind fun x S => match x with
    | .bl k => .ok (.bl (!k)) S
    | _ => .st
  | .ite t a b, σ, S => (evT t σ S).bind fun k S => if k then ev a σ S else ev b σ S
  | .call h es ks, σ, S => ofO (c.sh h) fun sh => (evs es σ S).bind fun ws S => (evs ks σ S).bind fun zs S =>
      if ws.length = sh.np ∧ zs.length = sh.ks.length then ofO (fillA ws zs sh.fill) fun xs => c.cl sh.fn xs S else .st
  | .bi b es, σ, S => (evs es σ S).bind fun ws S => (biW b ws S).np
  | .me m o es, σ, S => (ev o σ S).bind fun x S => if meTy m x S then (evs es σ S).bind fun ws S => (meW m x ws S).np else .st
  | .me0 m o, σ, S => (ev o σ S).bind fun x S => (me0W m x S).np
  | .rev a, σ, S => (ev a σ S).bind fun x S => (revW x S).np
  | .isi a ty, σ, S => (ev a σ S).bind fun x S => ofO (isTy S x ty) fun k => .ok (.bl k) S
  | .isis a tys, σ, S => (ev a σ S).bind fun x S => ofO (isTys S x tys) fun k => .ok (.bl k) S
  | .fld a f, σ, S => (ev a σ S).bind fun x S => ofO (fldW x f S) fun w => .ok w S
  | .blo a, σ, S => (ev a σ S).bind fun x S => match x with
    | .bl k => .ok (.bl k) S
    | _ => .st
  | .slf nm m a, σ, S => (ev a σ S).bind fun x S => if isIns nm m x S then .ok x S else .st
  | .dun d h nm a, σ, S => ofO (c.sh h) fun sh => (ev a σ S).bind fun x S => if isIns nm d.m x S then (c.cl sh.fn [x] S).bind fun w S => if d.ok w then .ok w S else .st else .st
  | .mk nm fs es, σ, S => (evs es σ S).bind fun ws S => if ws.length = fs.length ∧ 0 < fs.length then .ok (.ref S.length) (S ++ [.ins nm (fs.zip ws)]) else .st
  | .lset a, σ, S => (ev a σ S).bind fun x S => (biLenset [x] S).np
  | .tup es, σ, S => (evs es σ S).bind fun ws S => (newT ws S).np
  | .lst es, σ, S => (evs es σ S).bind fun ws S => (newL ws S).np
  | .dic0 t, _, S => .ok (.ref S.length) (S ++ [if t then .dit [] else .dic []])
  | .ix a b, σ, S => (ev a σ S).bind fun x S => (ev b σ S).bind fun y S => ofO (itemW x y S) fun w => .ok w S
  | .sl a lo hi, σ, S => (ev a σ S).bind fun x S => (evO lo σ S).bind fun l S => (evO hi σ S).bind fun h S => (sliceW x l h S).np
  | .comp elt tg it cond own, σ, S => (evI it σ S).bind fun src S =>
      compGo src S.length (fun w S => (asgT tg w (wipeE σ own) S).np.bind fun σ' S => (evC cond σ' S).bind fun k S =>
        if k then (ev elt σ' S).bind fun y S => .ok (some y) S else .ok none S) (src.len S) 0 (S ++ [.lst []])
def evs : Es → En → Sg → R (List W)
  | .nil, _, S => .ok [] S
  | .cons e es, σ, S => (ev e σ S).bind fun w S => (evs es σ S).bind fun ws S => .ok (w :: ws) S
  | .star e es, σ, S => (ev e σ S).bind fun w S => ofO (seqAt w S) fun vs => (evs es σ S).bind fun ws S => .ok (vs ++ ws) S
/-- and, or: each but the last one True or False -/
def evB (an : Bool) : Eb → En → Sg → R W
  | .one e, σ, S => ev e σ S
  | .cons e es, σ, S => (ev e σ S).bind fun w S => match w with
    | .bl k => if k = an then evB an es σ S else .ok (.bl k) S
    | _ => .st
/-- as a test -/
def evT : Tt → En → Sg → R Bool
  | .val e, σ, S => (ev e σ S).bind fun w S => ofB (truW w S) S fun k => .ok k S
  | .bo an ts, σ, S => evBT an ts σ S
  | .nt t, σ, S => (evT t σ S).bind fun k S => .ok (!k) S
  | .cmp o a b, σ, S => (ev a σ S).bind fun x S => (ev b σ S).bind fun y S => ofB (cmpW o x y S) S fun k => .ok k S
  | .ch o p a b d, σ, S => (ev a σ S).bind fun x S => (ev b σ S).bind fun y S => ofB (cmpW o x y S) S fun k =>
      if k then (ev d σ S).bind fun z S => ofB (cmpW p y z S) S fun k => .ok k S else .ok false S
def evBT (an : Bool) : Tb → En → Sg → R Bool
  | .one t, σ, S => evT t σ S
  | .cons t ts, σ, S => (evT t σ S).bind fun k S => if k = an then evBT an ts σ S else .ok k S
def evC : Ot → En → Sg → R Bool
  | .no, _, S => .ok true S
  | .so t, σ, S => evT t σ S
def evO : Oe → En → Sg → R (Option Int)
  | .no, _, S => .ok none S
  | .so e, σ, S => (ev e σ S).bind fun w S => match w with
    | .int i => .ok (some i) S
    | _ => .st
def evI : It → En → Sg → R Src
  | .seq e, σ, S => (ev e σ S).bind fun w S => ofO (srcOf w S) fun s => .ok s S
  | .rng e, σ, S => (ev e σ S).bind fun w S => ofO (rngOf w) fun s => .ok s S
  | .rng2 a b, σ, S => (ev a σ S).bind fun v S => (ev b σ S).bind fun w S => ofO (rng2Of v w) fun s => .ok s S
  | .enm e, σ, S => (ev e σ S).bind fun w S => ofO (srcOf w S) fun s => .ok (.enm s) S
  | .zip a b, σ, S => (ev a σ S).bind fun v S => (ev b σ S).bind fun w S => ofO (srcOf v S) fun s => ofO (srcOf w S) fun t => .ok (.zip s t) S
end
inductive Fl where
  | nx (σ : En)
  | rt (w : W)
  | bk (σ : En)
  | ct (σ : En)
inductive RS where
  | ok (f : Fl) (S : Sg)
  | ex (x : Xn) (σ : En) (S : Sg)
  | st
def R.go {α : Type} (r : R α) (σ : En) (f : α → Sg → RS) : RS := match r with
  | .ok a S => f a S
  | .ex x S => .ex x σ S
  | .st => .st
@[simp] theorem R.go_ok {α : Type} (a : α) (S : Sg) (σ : En) (f : α → Sg → RS) : (R.ok a S).go σ f = f a S := rfl
@[simp] theorem R.go_ex {α : Type} (x : Xn) (S : Sg) (σ : En) (f : α → Sg → RS) : (R.ex x S : R α).go σ f = .ex x σ S := rfl
@[simp] theorem R.go_st {α : Type} (σ : En) (f : α → Sg → RS) : (R.st : R α).go σ f = .st := rfl
def RS.then (r : RS) (f : En → Sg → RS) : RS := match r with
  | .ok (.nx σ) S => f σ S
  | r => r
@[simp] theorem RS.then_nx (σ : En) (S : Sg) (f : En → Sg → RS) : (RS.ok (.nx σ) S).then f = f σ S := rfl
@[simp] theorem RS.then_rt (w : W) (S : Sg) (f : En → Sg → RS) : (RS.ok (.rt w) S).then f = .ok (.rt w) S := rfl
@[simp] theorem RS.then_bk (σ : En) (S : Sg) (f : En → Sg → RS) : (RS.ok (.bk σ) S).then f = .ok (.bk σ) S := rfl
@[simp] theorem RS.then_ct (σ : En) (S : Sg) (f : En → Sg → RS) : (RS.ok (.ct σ) S).then f = .ok (.ct σ) S := rfl
@[simp] theorem RS.then_ex (x : Xn) (σ : En) (S : Sg) (f : En → Sg → RS) : (RS.ex x σ S).then f = .ex x σ S := rfl
@[simp] theorem RS.then_st (f : En → Sg → RS) : RS.st.then f = .st := rfl
/-! what an except suite makes -/
mutual
def evX (x : Xn) : XE → Sg → R W
  | .con v, S => if flatW v then .ok v S else .st
  | .fld m k, S => if x.cls = m then ofO x.fs[k]? fun w => .ok w S else .st
  | .tup xs, S => (evXs x xs S).bind newT
  | .lst xs, S => (evXs x xs S).bind newL
def evXs (x : Xn) : XEs → Sg → R (List W)
  | .nil, S => .ok [] S
  | .cons e es, S => (evX x e S).bind fun w S => (evXs x es S).bind fun ws S => .ok (w :: ws) S
end
def hdGo (x : Xn) (fin : Option XE) : List (Nat × XE) → En → Sg → RS
  | [], σ, S => match fin with
    | none => .ok (.nx σ) S
    | some e => match evX x e S with
      | .ok w S => .ok (.rt w) S
      | _ => .st
  | (j, e) :: r, σ, S => match evX x e S with
    | .ok w S => hdGo x fin r (σ.set j (some w)) S
    | _ => .st
def RS.clr (r : RS) (o : Option Nat) : RS := match o with
  | none => r
  | some i => match r with
    | .ok (.nx σ) S => .ok (.nx (σ.set i none)) S
    | r => r
def slE (σ : En) : Option Nat → En
  | none => σ
  | some i => σ.set i none
def hdsGo (kl : Nat → Option (Nat × List Nat)) (x : Xn) : List Hd → En → Sg → RS
  | [], σ, S => .ex x σ S
  | h :: hs, σ, S => match kl x.cls with
    | some k => if h.cls ∈ k.2 then (hdGo x h.fin h.as (slE σ h.sl) S).clr h.sl else hdsGo kl x hs σ S
    | none => .st
def forGo (src : Src) (turn : W → En → Sg → RS) : Nat → Nat → En → Sg → RS
  | 0, i, σ, S => match src.at i S with
    | some none => .ok (.nx σ) S
    | _ => .st
  | k + 1, i, σ, S => match src.at i S with
    | some (some w) => match turn w σ S with
      | .ok (.nx σ1) S1 => forGo src turn k (i + 1) σ1 S1
      | .ok (.ct σ1) S1 => forGo src turn k (i + 1) σ1 S1
      | .ok (.bk σ1) S1 => .ok (.nx σ1) S1
      | r => r
    | _ => .st
def whGo (test : En → Sg → R Bool) (body : En → Sg → RS) : Nat → En → Sg → RS
  | 0, _, _ => .st
  | k + 1, σ, S => (test σ S).go σ fun b S1 => if b then match body σ S1 with
      | .ok (.nx σ1) S1 => whGo test body k σ1 S1
      | .ok (.ct σ1) S1 => whGo test body k σ1 S1
      | .ok (.bk σ1) S1 => .ok (.nx σ1) S1
      | r => r
    else .ok (.nx σ) S1
/-- a generator's first item: (item,), or None -/
def gbW : W → Option (Option W)
  | .non => some none
  | .tup [v] => some (some v)
  | _ => none
mutual
def exS : St → En → Sg → RS
  | .asg tg e, σ, S => (ev c e σ S).go σ fun w S => (asgT tg w σ S).np.go σ fun σ' S => .ok (.nx σ') S
  | .seti o i e, σ, S => (ev c e σ S).go σ fun w S => (ev c o σ S).go σ fun x S => (ev c i σ S).go σ fun y S => (setW x y w S).np.go σ fun _ S => .ok (.nx σ) S
  | .aug i sub e, σ, S => match σ[i]? with
    | some (some (.int a)) => (ev c e σ S).go σ fun y S => match y with
      | .int b => .ok (.nx (σ.set i (some (.int (if sub then a - b else a + b))))) S
      | _ => .st
    | _ => .st
  | .par i j e1 e2, σ, S => (ev c e1 σ S).go σ fun v S => (ev c e2 σ S).go σ fun w S => .ok (.nx ((σ.set i (some v)).set j (some w))) S
  | .par3 i j l e1 e2 e3, σ, S => (ev c e1 σ S).go σ fun u S => (ev c e2 σ S).go σ fun v S => (ev c e3 σ S).go σ fun w S => .ok (.nx (((σ.set i (some u)).set j (some v)).set l (some w))) S
  | .ifs t a b, σ, S => (evT c t σ S).go σ fun k S => if k then exs a σ S else exs b σ S
  | .fr tg it b, σ, S => (evI c it σ S).go σ fun src S => forGo src (fun w σ S => (asgT tg w σ S).np.go σ fun σ' S => exs b σ' S) (src.len S) 0 σ S
  | .wh t b, σ, S => whGo (evT c t) (exs b) c.fuel σ S
  | .rt e, σ, S => (ev c e σ S).go σ fun w S => .ok (.rt w) S
  | .rtN, _, S => .ok (.rt .non) S
  | .ex e, σ, S => (ev c e σ S).go σ fun _ S => .ok (.nx σ) S
  | .brk, σ, S => .ok (.bk σ) S
  | .cnt, σ, S => .ok (.ct σ) S
  | .pas, σ, S => .ok (.nx σ) S
  | .bad, _, _ => .st
  | .rs m es, σ, S => if 2 ≤ c.dp then (evs c es σ S).go σ fun ws S => match c.kl m with
    | some k => if ws.length = k.1 then .ex ⟨m, ws⟩ σ S else .st
    | none => .st
    else .st
  | .ty b hs, σ, S => match exs b σ S with
    | .ex x σ S => hdsGo c.kl x hs σ S
    | r => r
  | .gb i h es ks, σ, S => (ev c (.call h es ks) σ S).go σ fun w S => match gbW w with
    | some (some v) => .ok (.nx (σ.set i (some v))) S
    | some none => .ok (.nx σ) S
    | none => .st
def exs : Ss → En → Sg → RS
  | .nil, σ, S => .ok (.nx σ) S
  | .cons s ss, σ, S => (exS s σ S).then fun σ S => exs ss σ S
end
end
/-- a function: parameters first, then the other names -/
structure Fn where
  np : Nat
  ns : Nat
  body : Ss
  /-- 0 a def, 1 one that is called by the way of its name's underlines (one level deeper), 2 an __init__ (self stands ahead, unbound) -/
  kd : Nat
structure Pg where
  fns : List Fn
  gls : List W
  shs : List Sh
  fuel : Nat
  kl : List (Nat × List Nat)
/-- a call, so many calls deep -/
def runF (P : Pg) : Nat → Nat → List W → Sg → R W
  | 0, _, _, _ => .st
  | n + 1, f, ws, S => match P.fns[f]? with
    | none => .st
    | some fn => if ws.length = fn.np then
        match fn.kd with
        | 0 => match exs { cl := runF P n, gl := fun g => P.gls[g]?, sh := fun h => P.shs[h]?, fuel := P.fuel, kl := fun m => P.kl[m]?, dp := n } fn.body (ws.map some ++ List.replicate (fn.ns - fn.np) none) S with
          | .ok (.rt w) S1 => .ok w S1
          | .ok (.nx _) S1 => .ok .non S1
          | .ex x _ S1 => .ex x S1
          | _ => .st
        | 1 => match n with
          | 0 => .st
          | 1 => .st
          | n + 2 => match exs { cl := runF P n, gl := fun g => P.gls[g]?, sh := fun h => P.shs[h]?, fuel := P.fuel, kl := fun m => P.kl[m]?, dp := n } fn.body (ws.map some ++ List.replicate (fn.ns - fn.np) none) S with
            | .ok (.rt w) S1 => .ok w S1
            | .ok (.nx _) S1 => .ok .non S1
            | .ex x _ S1 => .ex x S1
            | _ => .st
        | _ => match n with
          | 0 => .st
          | n + 1 => match exs { cl := runF P n, gl := fun g => P.gls[g]?, sh := fun h => P.shs[h]?, fuel := P.fuel, kl := fun m => P.kl[m]?, dp := n } fn.body (none :: (ws.map some ++ List.replicate (fn.ns - fn.np - 1) none)) S with
            | .ok (.rt w) S1 => .ok w S1
            | .ok (.nx _) S1 => .ok .non S1
            | .ex x _ S1 => .ex x S1
            | _ => .st
      else .st
abbrev cn (P : Pg) (n : Nat) : Cn := { cl := runF P n, gl := fun g => P.gls[g]?, sh := fun h => P.shs[h]?, fuel := P.fuel, kl := fun m => P.kl[m]?, dp := n }
end SF
namespace SF
open PySem L2
/-! # 2. How the store of the small language stands in the abstract heap -/
section rel
variable (K : PySem.W.Frag)
mutual
inductive RW (L : List Addr) (H : Hp) : W → V → Prop
  | non : RW L H .non .non
  | bl (b : Bool) : RW L H (.bl b) (.bl b)
  | int (i : Int) : RW L H (.int i) (.int i)
  | str (s : List Nat) : RW L H (.str s) (.str ⟨s.toArray⟩)
  | tup {ws : List W} {a : Addr} {xs : List V} (h : SqT K H a xs) (r : RWs L H ws xs) : RW L H (.tup ws) (.ref a)
  | ref {l : Nat} {a : Addr} (h : L[l]? = some a) : RW L H (.ref l) (.ref a)
inductive RWs (L : List Addr) (H : Hp) : List W → List V → Prop
  | nil : RWs L H [] []
  | cons {w : W} {v : V} {ws : List W} {vs : List V} (h : RW L H w v) (r : RWs L H ws vs) : RWs L H (w :: ws) (v :: vs)
end
/-- how a key stands -/
def Ky.k : Ky → Key
  | .int i => .inl i
  | .str s => .inr ⟨s.toArray⟩
inductive RKs {κ κ' : Type} (f : κ → κ') (L : List Addr) (H : Hp) : List (κ × W) → List (κ' × V) → Prop
  | nil : RKs f L H [] []
  | cons {k : κ} {w : W} {v : V} {ks : List (κ × W)} {qs : List (κ' × V)} (h : RW K L H w v) (r : RKs f L H ks qs) : RKs f L H ((k, w) :: ks) ((f k, v) :: qs)
def WO.mut : WO → Bool
  | .ro _ => false
  | .ins _ _ => false
  | _ => true
/-- a list that nobody writes -/
def RoL (H : Hp) (a : Addr) (xs : List V) : Prop := (∃ o, H a = some (.frz o (.lst xs))) ∨
    ∃ (o : Obj) (its : Array Value) (n : Nat), K.lookup a = some o ∧ o.cls = .type "list" ∧ o.dict = none ∧ o.data = .seq its n ∧ its.size ≤ sizeLine ∧ Vals xs its.toList
/-- a field as it stands -/
def RF (L : List Addr) (H : Hp) : Option W → Option V → Prop
  | some w, some v => RW K L H w v
  | none, none => True
  | _, _ => False
def RO (L : List Addr) (H : Hp) (o : WO) (a : Addr) : Prop := match o with
  | .lst ws => ∃ xs, H a = some (.lst xs) ∧ RWs K L H ws xs
  | .ro ws => ∃ xs, RoL K H a xs ∧ RWs K L H ws xs
  | .dic kvs => ∃ ks, H a = some (.dK ks) ∧ RKs K Ky.k L H kvs ks
  | .dit kvs => ∃ ks, H a = some (.dT ks) ∧ RKs K (List.map Ky.k) L H kvs ks
  | .ins nm fs => fs ≠ [] ∧ ∃ (C dx : Addr) (l : List (Str × V)), PySem.W.nsIn K mainGlobals nm = some (some (.ref C)) ∧ H a = some (.ins C dx l) ∧ (∀ f, RF K L H (fs.lookup f) (l.lookup f)) ∧ Cls K C ∧ ∀ f w, fs.lookup f = some w → NoAttr K C f
structure Rl (L : List Addr) (H : Hp) (S : Sg) : Prop where
  len : L.length = S.length
  ob : ∀ (i : Nat) (o : WO) (a : Addr), S[i]? = some o → L[i]? = some a → RO K L H o a
  inj : ∀ (i j : Nat) (a : Addr) (o u : WO), S[i]? = some o → S[j]? = some u → L[i]? = some a → L[j]? = some a → o.mut = true → u.mut = true → i = j
structure Ex (L : List Addr) (H : Hp) (L' : List Addr) (H' : Hp) : Prop where
  pre : ∃ M, L' = L ++ M
  tup : ∀ a xs, SqT K H a xs → SqT K H' a xs
  ins : ∀ a C dx l, H a = some (.ins C dx l) → H' a = some (.ins C dx l)
end rel
section
variable {K : PySem.W.Frag} {L L' L1 : List Addr} {H H' H1 : Hp} {S S' : Sg}
theorem Ex.refl : Ex K L H L H := ⟨⟨[], by simp⟩, fun _ _ h => h, fun _ _ _ _ h => h⟩
theorem Ex.trans (a : Ex K L H L1 H1) (b : Ex K L1 H1 L' H') : Ex K L H L' H' := by
  obtain ⟨M, e⟩ := a.pre
  obtain ⟨N, f⟩ := b.pre
  exact ⟨⟨M ++ N, by rw [f, e, List.append_assoc]⟩, fun x xs h => b.tup x xs (a.tup x xs h), fun x C dx l h => b.ins x C dx l (a.ins x C dx l h)⟩
theorem Ex.at (e : Ex K L H L' H') {i : Nat} {a : Addr} (h : L[i]? = some a) : L'[i]? = some a := by
  obtain ⟨M, rfl⟩ := e.pre
  have hl : i < L.length := (List.getElem?_eq_some_iff.mp h).1
  rw [List.getElem?_append_left hl]
  exact h
mutual
theorem RW.mono (e : Ex K L H L' H') : ∀ {w : W} {v : V}, RW K L H w v → RW K L' H' w v
  | _, _, .non => .non
  | _, _, .bl b => .bl b
  | _, _, .int i => .int i
  | _, _, .str s => .str s
  | _, _, .tup h r => .tup (e.tup _ _ h) (RWs.mono e r)
  | _, _, .ref h => .ref (e.at h)
theorem RWs.mono (e : Ex K L H L' H') : ∀ {ws : List W} {vs : List V}, RWs K L H ws vs → RWs K L' H' ws vs
  | _, _, .nil => .nil
  | _, _, .cons h r => .cons (RW.mono e h) (RWs.mono e r)
end
theorem RF.mono (e : Ex K L H L' H') : ∀ {o : Option W} {p : Option V}, RF K L H o p → RF K L' H' o p
  | some w, some v, h => RW.mono e h
  | none, none, _ => trivial
  | some _, none, h => h.elim
  | none, some _, h => h.elim
theorem RKs.mono {κ κ' : Type} {f : κ → κ'} (e : Ex K L H L' H') {ks : List (κ × W)} {qs : List (κ' × V)} (r : RKs K f L H ks qs) : RKs K f L' H' ks qs := by
  induction r with
  | nil => exact .nil
  | cons h _ ih => exact .cons (h.mono e) ih
theorem RWs.length {ws : List W} {vs : List V} (r : RWs K L H ws vs) : ws.length = vs.length := by
  induction ws generalizing vs with
  | nil => cases r; rfl
  | cons w ws ih => cases r with | cons h r => simp [ih r]
theorem RWs.get {ws : List W} {vs : List V} (r : RWs K L H ws vs) : ∀ {i : Nat} {w : W}, ws[i]? = some w → ∃ v, vs[i]? = some v ∧ RW K L H w v := by
  induction ws generalizing vs with
  | nil => intro i w h; simp at h
  | cons x ws ih =>
    cases r with
    | cons h r =>
      intro i w e
      cases i with
      | zero => simp at e; subst e; exact ⟨_, rfl, h⟩
      | succ i => simpa using ih r (by simpa using e)
theorem RWs.none {ws : List W} {vs : List V} (r : RWs K L H ws vs) {i : Nat} (h : ws[i]? = Option.none) : vs[i]? = Option.none := by
  rw [List.getElem?_eq_none_iff] at *
  rw [← r.length]; exact h
theorem RWs.append {ws us : List W} {vs ts : List V} (r : RWs K L H ws vs) (q : RWs K L H us ts) : RWs K L H (ws ++ us) (vs ++ ts) := by
  induction ws generalizing vs with
  | nil => cases r; exact q
  | cons w ws ih => cases r with | cons h r => exact .cons h (ih r)
theorem RWs.take {ws : List W} {vs : List V} (r : RWs K L H ws vs) : ∀ n, RWs K L H (ws.take n) (vs.take n) := by
  induction ws generalizing vs with
  | nil => cases r; intro n; simp; exact .nil
  | cons w ws ih =>
    cases r with
    | cons h r =>
      intro n
      cases n with
      | zero => exact .nil
      | succ n => exact .cons h (ih r n)
theorem RWs.drop {ws : List W} {vs : List V} (r : RWs K L H ws vs) : ∀ n, RWs K L H (ws.drop n) (vs.drop n) := by
  induction ws generalizing vs with
  | nil => cases r; intro n; simp; exact .nil
  | cons w ws ih =>
    cases r with
    | cons h r =>
      intro n
      cases n with
      | zero => exact .cons h r
      | succ n => exact ih r n
theorem RWs.set {ws : List W} {vs : List V} (r : RWs K L H ws vs) {w : W} {v : V} (h : RW K L H w v) : ∀ n, RWs K L H (ws.set n w) (vs.set n v) := by
  induction ws generalizing vs with
  | nil => cases r; intro n; simp; exact .nil
  | cons x ws ih =>
    cases r with
    | cons q r =>
      intro n
      cases n with
      | zero => exact .cons h r
      | succ n => exact .cons q (ih r n)

theorem RWs.reverse {ws : List W} {vs : List V} (r : RWs K L H ws vs) : RWs K L H ws.reverse vs.reverse := by
  induction ws generalizing vs with
  | nil => cases r; exact .nil
  | cons w ws ih =>
    cases r with
    | cons h r =>
      rw [List.reverse_cons, List.reverse_cons]
      exact (ih r).append (.cons h .nil)
theorem Rl.addr (r : Rl K L H S) {l : Nat} {o : WO} (h : S[l]? = some o) : ∃ a, L[l]? = some a ∧ RO K L H o a := by
  have hl : l < L.length := by rw [r.len]; exact (List.getElem?_eq_some_iff.mp h).1
  exact ⟨L[l], List.getElem?_eq_getElem hl, r.ob _ _ _ h (List.getElem?_eq_getElem hl)⟩
theorem RoL.sql {a : Addr} {xs : List V} (h : RoL K H a xs) : SqL K H a xs := by
  rcases h with ⟨o, h⟩ | h
  · exact .inl (.inr ⟨o, h⟩)
  · exact .inr h
theorem Rl.list (r : Rl K L H S) {l : Nat} {ws : List W} (h : listAt S l = some ws) : ∃ a xs, L[l]? = some a ∧ SqL K H a xs ∧ RWs K L H ws xs := by
  unfold listAt at h
  split at h
  · rename_i e
    cases h
    obtain ⟨a, ha, xs, h1, h2⟩ := r.addr e
    exact ⟨a, xs, ha, SqL.of h1, h2⟩
  · rename_i e
    cases h
    obtain ⟨a, ha, xs, h1, h2⟩ := r.addr e
    exact ⟨a, xs, ha, h1.sql, h2⟩
  · cases h
/-- what may be written is no tuple and not locked -/
def Tk (H : Hp) (a : Addr) : Prop := ∃ o, H a = some o ∧ match o with
  | .lst _ => True
  | .dK _ => True
  | .dT _ => True
  | _ => False
theorem Tk.tup {H : Hp} {a : Addr} {xs : List V} (h : Tk H a) (e : H a = some (.tup xs)) : False := by
  obtain ⟨o, h1, h2⟩ := h; rw [e] at h1; cases h1; exact h2
theorem Tk.frz {H : Hp} {a : Addr} {ob : Obj} {u : HO} (h : Tk H a) (e : H a = some (.frz ob u)) : False := by
  obtain ⟨o, h1, h2⟩ := h; rw [e] at h1; cases h1; exact h2
theorem Tk.none {H : Hp} {a : Addr} (h : Tk H a) (e : H a = Option.none) : False := by
  obtain ⟨o, h1, h2⟩ := h; rw [e] at h1; cases h1
/-- where a mutable thing stands -/
theorem Rl.tracked (r : Rl K L H S) {l : Nat} {o : WO} {a : Addr} (h : S[l]? = some o) (ha : L[l]? = some a) (hm : o.mut = true) : Tk H a := by
  have q := r.ob _ _ _ h ha
  cases o with
  | lst ws => obtain ⟨xs, e, _⟩ := q; exact ⟨_, e, trivial⟩
  | ro ws => cases hm
  | dic ks => obtain ⟨xs, e, _⟩ := q; exact ⟨_, e, trivial⟩
  | dit ks => obtain ⟨xs, e, _⟩ := q; exact ⟨_, e, trivial⟩
  | ins c fs => cases hm
theorem ex_new {p : Addr} {o : HO} {M : List Addr} (hp : H p = none) : Ex K L H (L ++ M) (upd H p o) := by
  refine ⟨⟨M, rfl⟩, fun a xs h => ?_, fun a C dx l h => by rw [upd_ne (ne_of_none h hp)]; exact h⟩
  rcases h with h | h
  · left
    rcases h with h | ⟨u, h⟩
    · exact .inl (by rw [upd_ne (ne_of_none h hp)]; exact h)
    · exact .inr ⟨u, by rw [upd_ne (ne_of_none h hp)]; exact h⟩
  · exact .inr h
theorem ex_new0 {p : Addr} {o : HO} (hp : H p = none) : Ex K L H L (upd H p o) := by
  have := ex_new (K := K) (L := L) (M := []) (o := o) hp
  simpa using this
theorem ex_write {a : Addr} {o : HO} (ha : Tk H a) : Ex K L H L (upd H a o) := by
  refine ⟨⟨[], by simp⟩, fun b xs h => ?_, fun b C dx l h => ?_⟩
  rotate_left
  · rw [upd_ne ?_]; exact h
    intro e; subst e
    obtain ⟨o, h1, h2⟩ := ha
    rw [h] at h1; cases h1; exact h2
  rcases h with h | h
  · left
    rcases h with h | ⟨u, h⟩
    · refine .inl ?_
      rw [upd_ne ?_]; exact h
      intro e; subst e
      exact ha.tup h
    · refine .inr ⟨u, ?_⟩
      rw [upd_ne ?_]; exact h
      intro e; subst e
      exact ha.frz h
  · exact .inr h
/-- the same thing at the same place -/
theorem RO.mono {o : WO} {a : Addr} (h : RO K L H o a) (e : Ex K L H L' H') (k : H a ≠ none → H' a = H a) : RO K L' H' o a := by
  cases o with
  | lst ws =>
    obtain ⟨xs, h1, h2⟩ := h
    exact ⟨xs, by rw [k (by rw [h1]; simp)]; exact h1, h2.mono e⟩
  | ro ws =>
    obtain ⟨xs, h1, h2⟩ := h
    refine ⟨xs, ?_, h2.mono e⟩
    rcases h1 with ⟨u, h1⟩ | h1
    · exact .inl ⟨u, by rw [k (by rw [h1]; simp)]; exact h1⟩
    · exact .inr h1
  | dic ks =>
    obtain ⟨xs, h1, h2⟩ := h
    exact ⟨xs, by rw [k (by rw [h1]; simp)]; exact h1, h2.mono e⟩
  | dit ks =>
    obtain ⟨xs, h1, h2⟩ := h
    exact ⟨xs, by rw [k (by rw [h1]; simp)]; exact h1, h2.mono e⟩
  | ins c fs =>
    obtain ⟨hn, C, dx, l, h1, h2, h3, h4⟩ := h
    exact ⟨hn, C, dx, l, h1, e.ins _ _ _ _ h2, fun f => (h3 f).mono e, h4⟩
/-- a new thing in the store -/
theorem Rl.push (r : Rl K L H S) {p : Addr} (hp : H p = none) {o : WO} {u : HO} (h : RO K (L ++ [p]) (upd H p u) o p) (hu : o.mut = true) : Rl K (L ++ [p]) (upd H p u) (S ++ [o]) := by
  have hx : Ex K L H (L ++ [p]) (upd H p u) := ex_new hp
  refine ⟨by simp [r.len], fun i v a hv ha => ?_, fun i j a v w hi hj li lj mv mw => ?_⟩
  · by_cases hi : i < S.length
    · rw [List.getElem?_append_left hi] at hv
      rw [List.getElem?_append_left (by rw [r.len]; exact hi)] at ha
      refine (r.ob _ _ _ hv ha).mono hx fun q => upd_ne fun e => q ?_
      subst e; exact hp
    · have e : i = S.length := by
        have := (List.getElem?_eq_some_iff.mp hv).1
        simp at this; omega
      subst e
      rw [List.getElem?_append_right (Nat.le_refl _), Nat.sub_self] at hv
      rw [List.getElem?_append_right (by rw [r.len]; exact Nat.le_refl _), r.len, Nat.sub_self] at ha
      simp at hv ha
      subst hv ha
      exact h
  · have lt : ∀ {k : Nat} {v : WO}, (S ++ [o])[k]? = some v → k < S.length ∨ (k = S.length ∧ v = o) := fun {k v} e => by
      by_cases hk : k < S.length
      · exact .inl hk
      · right
        have := (List.getElem?_eq_some_iff.mp e).1
        simp at this
        have ek : k = S.length := by omega
        subst ek
        rw [List.getElem?_append_right (Nat.le_refl _), Nat.sub_self] at e
        simp at e
        exact ⟨rfl, e.symm⟩
    have oldne : ∀ {k : Nat} {v : WO}, k < S.length → (S ++ [o])[k]? = some v → v.mut = true → (L ++ [p])[k]? = some a → (L ++ [p])[S.length]? = some a → False := fun {k v} hk hv hm h1 h2 => by
      rw [List.getElem?_append_left hk] at hv
      rw [List.getElem?_append_left (by rw [r.len]; exact hk)] at h1
      rw [List.getElem?_append_right (by rw [r.len]; exact Nat.le_refl _), r.len, Nat.sub_self] at h2
      simp at h2
      subst h2
      exact (r.tracked hv h1 hm).none hp
    rcases lt hi with a1 | ⟨a1, b1⟩ <;> rcases lt hj with a2 | ⟨a2, b2⟩
    · rw [List.getElem?_append_left a1] at hi
      rw [List.getElem?_append_left a2] at hj
      rw [List.getElem?_append_left (by rw [r.len]; exact a1)] at li
      rw [List.getElem?_append_left (by rw [r.len]; exact a2)] at lj
      exact r.inj i j a v w hi hj li lj mv mw
    · subst a2; exact (oldne a1 hi mv li lj).elim
    · subst a1; exact (oldne a2 hj mw lj li).elim
    · rw [a1, a2]
/-- a thing of the store is written -/
theorem Rl.write (r : Rl K L H S) {l : Nat} {a : Addr} {o o' : WO} {u : HO} (hS : S[l]? = some o) (hL : L[l]? = some a) (hm : o.mut = true) (h : RO K L (upd H a u) o' a) (hm' : o'.mut = true) : Rl K L (upd H a u) (S.set l o') ∧ Ex K L H L (upd H a u) := by
  have hx : Ex K L H L (upd H a u) := ex_write (r.tracked hS hL hm)
  have hl : l < S.length := (List.getElem?_eq_some_iff.mp hS).1
  refine ⟨⟨by simp [r.len], fun i v b hv hb => ?_, fun i j b v w hi hj li lj mv mw => ?_⟩, hx⟩
  · rw [List.getElem?_set] at hv
    split at hv
    · rename_i e
      subst e
      cases hv
      rw [hL] at hb
      cases hb
      exact h
    · rename_i e
      have ro := r.ob _ _ _ hv hb
      by_cases hvm : v.mut = true
      · exact ro.mono hx fun q => upd_ne fun z => e (by subst z; exact r.inj l i b o v hS hv hL hb hm hvm)
      · cases v with
        | ro ws =>
          obtain ⟨xs, h1, h2⟩ := ro
          refine ⟨xs, ?_, h2.mono hx⟩
          rcases h1 with ⟨z, h1⟩ | h1
          · refine .inl ⟨z, ?_⟩
            rw [upd_ne ?_]; exact h1
            intro q; subst q
            exact (r.tracked hS hL hm).frz h1
          · exact .inr h1
        | lst _ => exact absurd rfl hvm
        | dic _ => exact absurd rfl hvm
        | dit _ => exact absurd rfl hvm
        | ins _ fs =>
          obtain ⟨hn, C, dx, l', h1, h2, h3, h4⟩ := ro
          exact ⟨hn, C, dx, l', h1, hx.ins _ _ _ _ h2, fun f => (h3 f).mono hx, h4⟩
  · have back : ∀ {k : Nat} {v : WO}, (S.set l o')[k]? = some v → v.mut = true → ∃ v', S[k]? = some v' ∧ v'.mut = true := fun {k v} e m => by
      rw [List.getElem?_set] at e
      split at e
      · rename_i z
        subst z
        exact ⟨o, hS, hm⟩
      · exact ⟨v, e, m⟩
    obtain ⟨v', h1, m1⟩ := back hi mv
    obtain ⟨w', h2, m2⟩ := back hj mw
    exact r.inj i j b v' w' h1 h2 li lj m1 m2
end
end SF
set_option Elab.async false
set_option linter.all false
set_option maxRecDepth 100000
set_option maxHeartbeats 4000000
namespace SF
open PySem L2
/-! # 3. Operators and what is built in: the model does what the small language says -/
def Res (K : PySem.W.Frag) (L : List Addr) (H : Hp) (r : R W) (Q : VK) : Prop := match r with
  | .ok w S' => ∀ L' H' v, Ex K L H L' H' → Rl K L' H' S' → RW K L' H' w v → Q v H'
  | _ => False
def rB (K : PySem.W.Frag) (f : W → W → Sg → R W) : R2 := fun x y H Q => ∃ L S wx wy, Rl K L H S ∧ RW K L H wx x ∧ RW K L H wy y ∧ Res K L H (f wx wy S) Q
def boolR (o : Option Bool) (S : Sg) : R W := ofB o S fun k => .ok (.bl k) S
def rC (K : PySem.W.Frag) (f : W → W → Sg → Option Bool) : R2 := rB K fun x y S => boolR (f x y S) S
section
variable {K : PySem.W.Frag} {L : List Addr} {H : Hp} {S : Sg} {Q : VK}
theorem Res.same {w : W} (r : Rl K L H S) (h : Res K L H (.ok w S) Q) {v : V} (q : RW K L H w v) : Q v H := h L H v .refl r q
theorem Res.newT {ws : List W} (r : Rl K L H S) (h : Res K L H (newT ws S) Q) {xs : List V} (q : RWs K L H ws xs) : xs.length ≤ sizeLine ∧ ∀ p, H p = none → Q (.ref p) (upd H p (.tup xs)) := by
  unfold SF.newT at h
  split at h
  · rename_i hl
    refine ⟨by rw [← q.length]; exact hl, fun p hp => h L _ _ (ex_new0 hp) ?_ (.tup (.inl (.inl upd_same)) (q.mono (ex_new0 hp)))⟩
    refine ⟨r.len, fun i o a hi ha => (r.ob i o a hi ha).mono (ex_new0 hp) fun z => upd_ne fun e => z (by subst e; exact hp), r.inj⟩
  · exact h.elim
theorem rl_new {ws : List W} (r : Rl K L H S) {xs : List V} (q : RWs K L H ws xs) {p : Addr} (hp : H p = none) : Rl K (L ++ [p]) (upd H p (.lst xs)) (S ++ [.lst ws]) :=
  r.push hp (show RO K _ _ (.lst ws) p from ⟨xs, upd_same, q.mono (ex_new hp)⟩) rfl
theorem rl_tup (r : Rl K L H S) {p : Addr} {u : HO} (hp : H p = none) : Rl K L (upd H p u) S :=
  ⟨r.len, fun i o a hi ha => (r.ob i o a hi ha).mono (ex_new0 hp) fun z => upd_ne fun e => z (by subst e; exact hp), r.inj⟩
theorem at_new (r : Rl K L H S) (p : Addr) : (L ++ [p])[S.length]? = some p := by
  rw [← r.len, List.getElem?_append_right (Nat.le_refl _), Nat.sub_self]; rfl
theorem Res.newL {ws : List W} (r : Rl K L H S) (h : Res K L H (newL ws S) Q) {xs : List V} (q : RWs K L H ws xs) : xs.length ≤ sizeLine ∧ ∀ p, H p = none → Q (.ref p) (upd H p (.lst xs)) := by
  unfold SF.newL at h
  split at h
  · rename_i hl
    exact ⟨by rw [← q.length]; exact hl, fun p hp => h (L ++ [p]) _ _ (ex_new hp) (rl_new r q hp) (.ref (at_new r p))⟩
  · exact h.elim
theorem lenMax_eq : lenMax = sizeLine := by decide +kernel

mutual
theorem toD_dp {f : Nat → Option PyData} (hf : ∀ l d a, f l = some d → L[l]? = some a → Dp K H (.ref a) d) : ∀ {w : W} {v : V} {d : PyData}, toD f w = some d → RW K L H w v → Dp K H v d
  | .non, _, d, h, .non => by simp [toD] at h; subst h; exact .non
  | .bl b, _, d, h, .bl _ => by simp [toD] at h; subst h; exact .bl b
  | .int i, _, d, h, .int _ => by simp [toD] at h; subst h; exact .int i
  | .str s, _, d, h, .str _ => by simp [toD] at h; subst h; exact .str _
  | .tup ws, _, d, h, .tup hs r => by
    simp only [toD] at h
    split at h
    · rename_i ds e
      cases h
      exact .tup hs (toDs_dp hf e r)
    · cases h
  | .ref l, _, d, h, .ref ha => hf _ _ _ h ha
theorem toDs_dp {f : Nat → Option PyData} (hf : ∀ l d a, f l = some d → L[l]? = some a → Dp K H (.ref a) d) : ∀ {ws : List W} {vs : List V} {ds : List PyData}, toDs f ws = some ds → RWs K L H ws vs → DpAll K H vs ds
  | [], _, ds, h, .nil => by simp [toDs] at h; subst h; exact .nil
  | w :: ws, _, ds, h, .cons hw r => by
    simp only [toDs] at h
    split at h
    · rename_i d ds' e1 e2
      cases h
      exact .cons (toD_dp hf e1 hw) (toDs_dp hf e2 r)
    · cases h
end
theorem refD_dp (r : Rl K L H S) : ∀ (n l : Nat) (d : PyData) (a : Addr), refD S n l = some d → L[l]? = some a → Dp K H (.ref a) d
  | 0, _, _, _, h, _ => by simp [refD] at h
  | n + 1, l, d, a, h, ha => by
    simp only [refD] at h
    split at h
    · rename_i ws e
      split at h
      · rename_i ds e2
        cases h
        obtain ⟨b, xs, hb, hq, hr⟩ := r.list e
        rw [ha] at hb
        cases hb
        exact .lst hq (toDs_dp (refD_dp r n) e2 hr)
      · cases h
    · cases h
theorem datum_dp (r : Rl K L H S) {w : W} {v : V} {d : PyData} (h : datum S w = some d) (q : RW K L H w v) : Dp K H v d := toD_dp (refD_dp r 4) h q
theorem eqW_spec (r : Rl K L H S) {a b : W} {x y : V} {k : Bool} (h : eqW a b S = some k) (ha : RW K L H a x) (hb : RW K L H b y) : ∃ d e, Dp K H x d ∧ Dp K H y e ∧ SeqAt.shaped d = true ∧ SeqAt.shaped e = true ∧ PyData.eqv d e = k := by
  unfold eqW at h
  split at h
  · rename_i d e h1 h2
    split at h
    · rename_i hs
      cases h
      rw [Bool.and_eq_true] at hs
      exact ⟨d, e, datum_dp r h1 ha, datum_dp r h2 hb, hs.1, hs.2, rfl⟩
    · cases h
  · cases h
theorem flat_v {w : W} {v : V} (h : flatW w = true) (q : RW K L H w v) : flatV v = true := by
  cases q <;> first | rfl | (simp [flatW] at h)
theorem flat_vs {ws : List W} {vs : List V} (h : ws.all flatW = true) (q : RWs K L H ws vs) : vs.all flatV = true := by
  induction ws generalizing vs with
  | nil => cases q; rfl
  | cons w ws ih =>
    cases q with
    | cons h1 h2 =>
      simp only [List.all_cons, Bool.and_eq_true] at h ⊢
      exact ⟨flat_v h.1 h1, ih h.2 h2⟩

theorem flat_eq {a b : W} {x y : V} (ha : flatW a = true) (qa : RW K L H a x) (qb : RW K L H b y) : eqV x y = flatEq a b := by
  cases qa <;> cases qb <;> first
    | rfl
    | (simp [flatW] at ha; done)
    | (rename_i s t
       show ((⟨s.toArray⟩ : Str) == ⟨t.toArray⟩) = (s == t)
       by_cases e : s = t
       · subst e; simp
       · rw [beq_eq_false_iff_ne.mpr e, beq_eq_false_iff_ne.mpr]
         intro z
         injection z with z
         exact e (by simpa using congrArg Array.toList z))
theorem any_eq {x : W} {v : V} (q : RW K L H x v) : ∀ {ws : List W} {vs : List V}, ws.all flatW = true → RWs K L H ws vs → inV v vs = ws.any fun y => flatEq y x
  | [], _, _, .nil => rfl
  | w :: ws, _, h, .cons h1 h2 => by
    simp only [List.all_cons, Bool.and_eq_true] at h
    have ih := any_eq q h.2 h2
    unfold inV at ih ⊢
    rw [List.any_cons, List.any_cons, flat_eq h.1 h1 q, ih]
end
section
open PySem.Spec PyProof.Rows
theorem tuple_mul1 (l : Addr) (items : Array Value) (n : Nat) (dd : Option Addr) (sl : Array (Option Value)) (u : Tok) :
    Meets (Builtin.«tuple.__mul__» ⟨[.ref l, .int 1 u], []⟩) (fun _ R s => s.heap.get? l = some { cls := .type "tuple", dict := dd, data := .seq items n, slots := sl } ∧
      R (.ok (.ret (Value.ref l))) s) :=
  .of_wp fun prog w A R s h => by
    obtain ⟨hp, g, d, tk, os⟩ := s
    obtain ⟨hl, h⟩ := h
    have f1 := AutoSeq1.idx_int
    have c1 : (items.isEmpty || (1 : Int) == 1) = true := by rw [show ((1 : Int) == 1) = true from rfl, Bool.or_true]
    wp_walk using wpAny_loadPart' hl
    repeat (first
      | (refine wpAny_ite_false (decide_eq_false (by decide)) ?_; wp_walk using wpAny_loadPart' hl)
      | (refine wpAny_ite_true (decide_eq_true (by rw [c1])) ?_; wp_walk using wpAny_loadPart' hl))
    exact ⟨_, rfl, h⟩
theorem tuple_mul0 (l : Addr) (items : Array Value) (n : Nat) (dd : Option Addr) (sl : Array (Option Value)) (u : Tok) (hi : items.isEmpty = false) :
    Meets (Builtin.«tuple.__mul__» ⟨[.ref l, .int 0 u], []⟩) (fun _ R s => s.heap.get? l = some { cls := .type "tuple", dict := dd, data := .seq items n, slots := sl } ∧
      R (.ok (.ret (Value.ref s.heap.objs.size))) { s with heap := s.heap.push { cls := Value.type "tuple", data := Data.seq #[] }, toks := s.toks }) :=
  .of_wp fun prog w A R s h => by
    obtain ⟨hp, g, d, tk, os⟩ := s
    obtain ⟨hl, h⟩ := h
    have f1 := AutoSeq1.idx_int
    have c1 : (items.isEmpty || (0 : Int) == 1) = false := by rw [hi]; rfl
    have c2 : (decide ((0 : Int) ≤ 0) || items.isEmpty) = true := rfl
    wp_walk using wpAny_loadPart' hl
    repeat (first
      | (refine wpAny_ite_false (decide_eq_false (by decide)) ?_; wp_walk using wpAny_loadPart' hl)
      | (refine wpAny_ite_false (decide_eq_false (by rw [c1]; exact Bool.false_ne_true)) ?_; wp_walk using wpAny_loadPart' hl)
      | (refine wpAny_ite_true (decide_eq_true (by rw [c2])) ?_; wp_walk using wpAny_loadPart' hl))
    exact ⟨_, rfl, h⟩
def rRepA (K : PySem.W.Frag) : R2 := fun x y H Q => ∃ l k xs, x = .ref l ∧ y = .int k ∧ SqT K H l xs ∧ xs ≠ [] ∧ 0 ≤ k ∧ k ≤ 1000 ∧ xs.length ≤ 1000 ∧ (k = 1 → Q (.ref l) H) ∧ (k ≠ 1 → ∀ p, H p = none → Q (.ref p) (upd H p (.tup (List.replicate k.toNat xs).flatten)))
theorem op_repA {X : Cx} : OpR X (binaryOp .Mult) (rRepA X.K) := by
  intro pins s σ H x y v u Q I rx ry h
  obtain ⟨l, k, xs, rfl, rfl, hT, hne, h1, h2, hz, q1, q2⟩ := h
  by_cases hk : 2 ≤ k
  · exact op_repT pins s σ H _ _ v u Q I rx ry ⟨l, k, xs, rfl, rfl, hT, hne, hk, h2, hz, q2 (by omega)⟩
  cases rx
  obtain ⟨t, rfl⟩ := ry
  obtain ⟨its, r, ⟨⟨cls, dd, data, sl⟩, ho, hc, n, hd⟩, hs⟩ := I.tuple hT
  simp only at hc hd
  subst hc hd
  have hle : its.length = xs.length := r.length.symm
  have hn : its ≠ [] := fun e => hne (by
    rw [e] at hle
    exact List.eq_nil_of_length_eq_zero hle.symm)
  have hi : its.toArray.isEmpty = false := by
    cases its with
    | nil => exact absurd rfl hn
    | cons a b => rfl
  have hk2 : k = 0 ∨ k = 1 := by omega
  rcases hk2 with rfl | rfl
  · refine wpAny_binaryOp_repeat_ref (T := "tuple") (U := "int") (by decide) ⟨_, ho, rfl⟩ (fun s' => typeIs_int s' 0 t) noFill_tuple_mul F.fills_int_mul F.slot_int_rmul repeat_tuple F.slot_int_index.lookup
      (call_meets F.slot_int_rmul (typeIs_int s 0 t) F.entry_int_rmul (F.args_int_rmul_2 _ _) (int_rmul_tuple 0 t l its.toArray n dd sl)
        ⟨ho, rfl, ⟨_, ho, rfl⟩, call_meets F.slot_tuple_mul ⟨_, ho, rfl⟩ F.entry_tuple_mul (F.args_tuple_mul_2 _ _) (tuple_mul0 l its.toArray n dd sl t hi) ⟨ho, ?_⟩⟩)
    refine ⟨.ref s.heap.objs.size, _, I.laid (t' := s.toks) (o := .tup []) (fun b ob q => Heap.get?_push_of_some _ q) (Nat.le_refl _) ?_, rfl, q2 (by decide) _ (I.hok.fresh (Nat.le_refl _))⟩
    exact ⟨Nat.zero_le _, [], .nil, IsTup.new _ _⟩
  · refine wpAny_binaryOp_repeat_ref (T := "tuple") (U := "int") (by decide) ⟨_, ho, rfl⟩ (fun s' => typeIs_int s' 1 t) noFill_tuple_mul F.fills_int_mul F.slot_int_rmul repeat_tuple F.slot_int_index.lookup
      (call_meets F.slot_int_rmul (typeIs_int s 1 t) F.entry_int_rmul (F.args_int_rmul_2 _ _) (int_rmul_tuple 1 t l its.toArray n dd sl)
        ⟨ho, rfl, ⟨_, ho, rfl⟩, call_meets F.slot_tuple_mul ⟨_, ho, rfl⟩ F.entry_tuple_mul (F.args_tuple_mul_2 _ _) (tuple_mul1 l its.toArray n dd sl t) ⟨ho, ?_⟩⟩)
    exact ⟨.ref l, H, I, rfl, q1 rfl⟩
end
section
variable {K : PySem.W.Frag} {L : List Addr} {H : Hp}
theorem RWs.rep {ws : List W} {xs : List V} (r : RWs K L H ws xs) : ∀ n : Nat, RWs K L H (List.replicate n ws).flatten (List.replicate n xs).flatten
  | 0 => .nil
  | n + 1 => by
    rw [List.replicate_succ, List.replicate_succ, List.flatten_cons, List.flatten_cons]
    exact r.append (RWs.rep r n)
theorem rep_len {α : Type} (n : Nat) (s : List α) : (List.replicate n s).flatten.length = n * s.length := by
  induction n with
  | zero => simp
  | succ n ih => rw [List.replicate_succ, List.flatten_cons, List.length_append, ih, Nat.succ_mul, Nat.add_comm]
theorem rep_ok {n : Nat} {k : Int} (h : repOk n k = true) : 0 < n ∧ 0 ≤ k ∧ k ≤ 1000 ∧ n ≤ 1000 := by
  unfold repOk at h
  simp only [Bool.and_eq_true, decide_eq_true_eq] at h
  exact ⟨h.1.1.1, h.1.1.2, h.1.2, h.2⟩
end
section
variable {X : Cx}
theorem opr_false {f : Value → Value → Sem Value} {r : R2} (h : ∀ x y H Q, ¬ r x y H Q) : OpR X f r := fun _ _ _ _ _ _ _ _ _ _ _ _ q => absurd q (h _ _ _ _)
theorem or_add : OpR X (binaryOp .Add) (rB X.K (binW .add)) := by
  rintro pins s σ H x y v u Q I rx ry ⟨L, S, wx, wy, hR, h1, h2, h⟩
  cases h1 <;> cases h2 <;> first | exact h.elim | skip
  case int.int i j => exact op_add pins s σ H _ _ v u Q I rx ry ⟨i, j, rfl, rfl, h.same hR (.int _)⟩
  case str.str a b =>
    simp only [binW] at h
    split at h
    · rename_i hl
      refine op_add_str pins s σ H _ _ v u Q I rx ry ⟨_, _, rfl, rfl, ?_, ?_⟩
      · show a.toArray.size + b.toArray.size ≤ sizeLine
        simpa [lenMax_eq] using hl
      · have := h.same hR (.str (a ++ b))
        have e : (⟨(a ++ b).toArray⟩ : Str) = (⟨a.toArray⟩ : Str) ++ ⟨b.toArray⟩ := by
          show _ = Str.mk (a.toArray ++ b.toArray)
          simp
        rw [← e]; exact this
    · exact h.elim
  case tup.tup ws a xs hs r ws' b ys hs' r' =>
    simp only [binW] at h
    have hl := h
    unfold newT at hl
    split at hl
    · rename_i hl'
      rw [List.length_append, r.length, r'.length, lenMax_eq] at hl'
      refine op_catA pins s σ H _ _ v u Q I rx ry ⟨_, _, _, _, rfl, rfl, hs, hs', hl', fun e => ?_, fun e e' => ?_, fun e e' p hp => ?_⟩
      · subst e; cases r; exact hl.same hR (.tup hs' r')
      · subst e'; cases r'; rw [List.append_nil] at hl; exact hl.same hR (.tup hs r)
      · exact (Res.newT hR h (r.append r')).2 p hp
    · exact hl.elim
  case ref.ref l a ha l' b hb =>
    simp only [binW] at h
    split at h
    · rename_i ss tt e1 e2
      obtain ⟨a', h1, xs, k1, r1⟩ := hR.addr e1
      obtain ⟨b', h2, ys, k2, r2⟩ := hR.addr e2
      rw [ha] at h1; cases h1
      rw [hb] at h2; cases h2
      have q := Res.newL hR h (r1.append r2)
      refine op_cat pins s σ H _ _ v u Q I rx ry ⟨_, _, xs, ys, rfl, rfl, k1, k2, ?_, q.2⟩
      simpa using q.1
    · exact h.elim
theorem or_sub : OpR X (binaryOp .Sub) (rB X.K (binW .sub)) := by
  rintro pins s σ H x y v u Q I rx ry ⟨L, S, wx, wy, hR, h1, h2, h⟩
  cases h1 <;> cases h2 <;> first | exact h.elim | skip
  case int.int i j => exact op_sub pins s σ H _ _ v u Q I rx ry ⟨i, j, rfl, rfl, h.same hR (.int _)⟩
theorem big_lt {i : Int} (h : bigOk i = true) : i.natAbs < 2 ^ 5000 := of_decide_eq_true h
theorem op_mul_str : OpR X (binaryOp .Mult) (fun x y H Q => ∃ i k, x = .str i ∧ y = .int k ∧ MulOk i k ∧ Q (.str (Txt.mul i k)) H) := by
  intro pins s σ H x y v u Q I rx ry h
  obtain ⟨i, k, rfl, rfl, hok, q⟩ := h
  obtain ⟨t, rfl⟩ := rx
  obtain ⟨t', rfl⟩ := ry
  exact SB.mul hok fun t' _ => ⟨.str (Txt.mul i k), H, I.tok _, ⟨_, rfl⟩, q⟩
theorem fold_app (s : List Nat) : ∀ (n : Nat) (a : Array Nat), (List.replicate n s.toArray).foldl (· ++ ·) a = (a.toList ++ (List.replicate n s).flatten).toArray
  | 0, a => by simp
  | n + 1, a => by rw [List.replicate_succ, List.replicate_succ, List.foldl_cons, fold_app s n, List.flatten_cons]; simp
theorem mul_txt {s : List Nat} {k : Int} (h0 : 0 < s.length) (h1 : 0 ≤ k) : Txt.mul ⟨s.toArray⟩ k = ⟨(List.replicate k.toNat s).flatten.toArray⟩ := by
  unfold Txt.mul
  split
  · rename_i h
    have : k.toNat = 0 := by omega
    rw [this]; rfl
  · split
    · rename_i h2
      rw [Bool.or_eq_true] at h2
      rcases h2 with h2 | h2
      · have : k = 1 := by simpa using h2
        subst this
        simp
      · have : s.length = 0 := by simpa [Str.length] using h2
        omega
    · rw [fold_app]; simp
theorem or_mul : OpR X (binaryOp .Mult) (rB X.K (binW .mul)) := by
  rintro pins s σ H x y v u Q I rx ry ⟨L, S, wx, wy, hR, h1, h2, h⟩
  cases h1 <;> cases h2 <;> first | exact h.elim | skip
  case int.int i j =>
    simp only [binW] at h
    split at h
    · rename_i hb
      rw [Bool.and_eq_true] at hb
      exact op_mulW pins s σ H _ _ v u Q I rx ry ⟨i, j, rfl, rfl, wide_mul (big_lt hb.1) (big_lt hb.2) (by decide) (by decide) (by decide), h.same hR (.int _)⟩
    · exact h.elim
  case str.int a k =>
    simp only [binW] at h
    split at h
    · rename_i hb
      obtain ⟨b1, b2, b3, b4⟩ := rep_ok hb
      have hl : (⟨a.toArray⟩ : Str).length = a.length := by simp [Str.length]
      refine op_mul_str pins s σ H _ _ v u Q I rx ry ⟨_, k, rfl, rfl, ⟨?_, fun _ _ => ?_, fun _ _ => ?_⟩, ?_⟩
      · rw [Bool.or_eq_false_iff, decide_eq_false_iff_not, decide_eq_false_iff_not]; omega
      · rw [hl]
        have : (1000 : Int) ≤ (2 ^ 63 - 1) / k := by
          rw [Int.le_ediv_iff_mul_le (by omega)]; omega
        omega
      · rw [hl]
        have : a.length * k.toNat ≤ 1000 * 1000 := Nat.mul_le_mul (by omega) (by omega)
        unfold Builtin.Str.tooLong
        simp [sizeLine]; omega
      · rw [mul_txt b1 b2]; exact h.same hR (.str _)
    · exact h.elim
  case tup.int ws a xs hs r k =>
    simp only [binW] at h
    split at h
    · rename_i hb
      obtain ⟨b1, b2, b3, b4⟩ := rep_ok hb
      refine op_repA pins s σ H _ _ v u Q I rx ry ⟨_, _, _, rfl, rfl, hs, fun e => ?_, b2, b3, by rw [← r.length]; exact b4, fun e => ?_, fun e p hp => ?_⟩
      · subst e; cases r; exact absurd b1 (Nat.lt_irrefl 0)
      · subst e
        have e2 : (List.replicate (Int.toNat 1) ws).flatten = ws := by simp
        rw [e2] at h
        unfold newT at h
        split at h
        · exact h.same hR (.tup hs r)
        · exact h.elim
      · exact (Res.newT hR h (r.rep k.toNat)).2 p hp
    · exact h.elim
  case ref.int l a ha k =>
    simp only [binW] at h
    split at h
    · rename_i ss e1
      split at h
      · rename_i hb
        obtain ⟨b1, b2, b3, b4⟩ := rep_ok hb
        obtain ⟨a', h1, xs, k1, r1⟩ := hR.addr e1
        rw [ha] at h1; cases h1
        have q := Res.newL hR h (r1.rep k.toNat)
        have qz := q.1
        rw [rep_len, Nat.mul_comm] at qz
        exact op_rep pins s σ H _ _ v u Q I rx ry ⟨_, k, xs, rfl, rfl, k1, by omega, by omega, qz, q.2⟩
      · exact h.elim
    · exact h.elim
theorem or_fdiv : OpR X (binaryOp .FloorDiv) (rB X.K (binW .fdiv)) := by
  rintro pins s σ H x y v u Q I rx ry ⟨L, S, wx, wy, hR, h1, h2, h⟩
  cases h1 <;> cases h2 <;> first | exact h.elim | skip
  case int.int i j =>
    simp only [binW] at h
    split at h
    · rename_i hb
      rw [Bool.and_eq_true] at hb
      exact op_fdivW pins s σ H _ _ v u Q I rx ry ⟨i, j, rfl, rfl, wide_div (of_decide_eq_true hb.1) (big_lt hb.2) (by decide) (by decide), h.same hR (.int _)⟩
    · exact h.elim
theorem or_mod : OpR X (binaryOp .Mod) (rB X.K (binW .mod)) := by
  rintro pins s σ H x y v u Q I rx ry ⟨L, S, wx, wy, hR, h1, h2, h⟩
  cases h1 <;> cases h2 <;> first | exact h.elim | skip
  case int.int i j =>
    simp only [binW] at h
    split at h
    · rename_i hb
      exact op_mod pins s σ H _ _ v u Q I rx ry ⟨i, j, rfl, rfl, of_decide_eq_true hb, h.same hR (.int _)⟩
    · exact h.elim
theorem or_pow : OpR X (binaryOp .Pow) (rB X.K (binW .pow)) := by
  rintro pins s σ H x y v u Q I rx ry ⟨L, S, wx, wy, hR, h1, h2, h⟩
  cases h1 <;> cases h2 <;> first | exact h.elim | skip
  case int.int i j =>
    simp only [binW] at h
    split at h
    · rename_i hb
      rw [Bool.and_eq_true, Bool.and_eq_true] at hb
      obtain ⟨t, rfl⟩ := rx
      obtain ⟨t', rfl⟩ := ry
      refine PyProof.Rows.pow_int (of_decide_eq_true hb.1.1) ?_ ⟨.int (i ^ j.toNat), H, I.tok _, ⟨_, rfl⟩, h.same hR (.int _)⟩
      have h0 := of_decide_eq_true hb.1.1
      have h6 := of_decide_eq_true hb.1.2
      have h4 : i.natAbs < 2 ^ 400 := of_decide_eq_true hb.2
      have hbits : Builtin.Int.intBits i ≤ 401 := by
        show (if (i == 0) = true then 0 else i.natAbs.log2 + 1) ≤ 401
        split
        · omega
        · have := PySem.Flt.log2_lt_of (by decide : 0 < 400) h4
          omega
      have a1 : ((Builtin.Int.intBits i : Nat) : Int) * j ≤ 401 * 60 := Int.mul_le_mul (by omega) h6 h0 (by decide)
      exact Int.le_trans a1 (by decide)
    · exact h.elim

theorem boolR_ok {o : Option Bool} {S : Sg} {K : PySem.W.Frag} {L : List Addr} {H : Hp} {Q : VK} (hR : Rl K L H S) (h : Res K L H (boolR o S) Q) : ∃ k, o = some k ∧ Q (.bl k) H := by
  unfold boolR ofB at h
  split at h
  · rename_i k
    exact ⟨k, rfl, h.same hR (.bl k)⟩
  · exact h.elim
theorem or_eq (hu : X.A.units + 64 < cLine) : OpR X (compareOp .Eq) (rC X.K (cmpW .eq)) := by
  rintro pins s σ H x y v u Q I rx ry ⟨L, S, wx, wy, hR, h1, h2, h⟩
  obtain ⟨k, e, q⟩ := boolR_ok hR h
  obtain ⟨d, e', a1, a2, a3, a4, a5⟩ := eqW_spec hR (k := k) e h1 h2
  exact op_eqD hu pins s σ H _ _ v u Q I rx ry ⟨d, e', a1, a2, a3, a4, by rw [a5]; exact q⟩
theorem or_ne (hu : X.A.units + 64 < cLine) : OpR X (compareOp .NotEq) (rC X.K (cmpW .ne)) := by
  rintro pins s σ H x y v u Q I rx ry ⟨L, S, wx, wy, hR, h1, h2, h⟩
  obtain ⟨k, e, q⟩ := boolR_ok hR h
  obtain ⟨k', e2, e3⟩ := Option.map_eq_some_iff.mp (show (eqW wx wy S).map (!·) = some k from e)
  obtain ⟨d, e', a1, a2, a3, a4, a5⟩ := eqW_spec hR e2 h1 h2
  exact op_neD hu pins s σ H _ _ v u Q I rx ry ⟨d, e', a1, a2, a3, a4, by rw [a5, e3]; exact q⟩
theorem or_lt : OpR X (compareOp .Lt) (rC X.K (cmpW .lt)) := by
  rintro pins s σ H x y v u Q I rx ry ⟨L, S, wx, wy, hR, h1, h2, h⟩
  obtain ⟨k, e, q⟩ := boolR_ok hR h
  cases h1 <;> cases h2 <;> first | (cases e; done) | skip
  all_goals first | (exact op_lt pins s σ H _ _ v u Q I rx ry ⟨_, _, rfl, rfl, by cases e; exact q⟩) | (simp [cmpW] at e)
theorem or_le : OpR X (compareOp .LtE) (rC X.K (cmpW .le)) := by
  rintro pins s σ H x y v u Q I rx ry ⟨L, S, wx, wy, hR, h1, h2, h⟩
  obtain ⟨k, e, q⟩ := boolR_ok hR h
  cases h1 <;> cases h2
  all_goals first | (exact op_le pins s σ H _ _ v u Q I rx ry ⟨_, _, rfl, rfl, by cases e; exact q⟩) | (simp [cmpW] at e)
theorem or_gt : OpR X (compareOp .Gt) (rC X.K (cmpW .gt)) := by
  rintro pins s σ H x y v u Q I rx ry ⟨L, S, wx, wy, hR, h1, h2, h⟩
  obtain ⟨k, e, q⟩ := boolR_ok hR h
  cases h1 <;> cases h2
  all_goals first | (exact op_gt pins s σ H _ _ v u Q I rx ry ⟨_, _, rfl, rfl, by cases e; exact q⟩) | (simp [cmpW] at e)
theorem or_ge : OpR X (compareOp .GtE) (rC X.K (cmpW .ge)) := by
  rintro pins s σ H x y v u Q I rx ry ⟨L, S, wx, wy, hR, h1, h2, h⟩
  obtain ⟨k, e, q⟩ := boolR_ok hR h
  cases h1 <;> cases h2
  all_goals first | (exact op_ge pins s σ H _ _ v u Q I rx ry ⟨_, _, rfl, rfl, by cases e; exact q⟩) | (simp [cmpW] at e)
theorem inSeq_spec {K : PySem.W.Frag} {L : List Addr} {H : Hp} {x : W} {y : V} {ws : List W} {vs : List V} {k : Bool} (h : inSeq x ws = some k) (q : RW K L H x y) (r : RWs K L H ws vs) : flatV y = true ∧ vs.all flatV = true ∧ inV y vs = k := by
  unfold inSeq at h
  split at h
  · rename_i hb
    rw [Bool.and_eq_true] at hb
    cases h
    exact ⟨flat_v hb.1 q, flat_vs hb.2 r, any_eq q hb.2 r⟩
  · cases h
/-! ### keys -/
theorem kyOf_spec {K : PySem.W.Frag} {L : List Addr} {H : Hp} {x : W} {v : V} {k : Ky} (h : kyOf x = some k) (q : RW K L H x v) : v = kV k.k := by
  cases q <;> cases h <;> rfl
theorem Ky.k_inj {a b : Ky} (h : a.k = b.k) : a = b := by
  cases a <;> cases b <;> simp [Ky.k] at h ⊢ <;> exact h
section
variable {κ κ' : Type} [DecidableEq κ] [DecidableEq κ'] {f : κ → κ'} {K : PySem.W.Frag} {L : List Addr} {H : Hp}
theorem rks_find (hf : ∀ a b, f a = f b → a = b) {ks : List (κ × W)} {qs : List (κ' × V)} (r : RKs K f L H ks qs) (k : κ) : match kvGet ks k with
    | some w => ∃ v, valV qs (f k) = some v ∧ RW K L H w v
    | none => valV qs (f k) = none := by
  induction r with
  | nil => rfl
  | @cons a w v ks qs h r ih =>
    by_cases e : a = k
    · subst e
      have e1 : kvGet ((a, w) :: ks) a = some w := by simp [kvGet, List.find?_cons]
      rw [e1]
      exact ⟨v, by simp [valV, List.find?_cons], h⟩
    · have e1 : kvGet ((a, w) :: ks) k = kvGet ks k := by simp [kvGet, List.find?_cons, e]
      have e2 : valV ((f a, v) :: qs) (f k) = valV qs (f k) := by
        have : ¬ f a = f k := fun z => e (hf _ _ z)
        simp [valV, List.find?_cons, this]
      rw [e1, e2]
      exact ih
theorem rks_any (hf : ∀ a b, f a = f b → a = b) {ks : List (κ × W)} {qs : List (κ' × V)} (r : RKs K f L H ks qs) (k : κ) : (ks.any fun kv => decide (kv.1 = k)) = qs.any fun kv => decide (kv.1 = f k) := by
  induction r with
  | nil => rfl
  | @cons a w v ks qs h r ih =>
    rw [List.any_cons, List.any_cons, ih]
    congr 1
    by_cases e : a = k
    · subst e; simp
    · have : ¬ f a = f k := fun z => e (hf _ _ z)
      simp [e, this]
theorem rks_map (hf : ∀ a b, f a = f b → a = b) {ks : List (κ × W)} {qs : List (κ' × V)} (r : RKs K f L H ks qs) (k : κ) {w : W} {v : V} (q : RW K L H w v) :
    RKs K f L H (ks.map fun kv => if kv.1 = k then (kv.1, w) else kv) (qs.map fun kv => if kv.1 = f k then (kv.1, v) else kv) := by
  induction r with
  | nil => exact .nil
  | @cons a w' v' ks qs h r ih =>
    rw [List.map_cons, List.map_cons]
    by_cases e : a = k
    · subst e
      rw [if_pos rfl, if_pos rfl]
      exact .cons q ih
    · rw [if_neg e, if_neg (fun z => e (hf _ _ z))]
      exact .cons h ih
theorem rks_app {ks : List (κ × W)} {qs : List (κ' × V)} (r : RKs K f L H ks qs) (k : κ) {w : W} {v : V} (q : RW K L H w v) : RKs K f L H (ks ++ [(k, w)]) (qs ++ [(f k, v)]) := by
  induction r with
  | nil => exact .cons q .nil
  | cons h r ih => exact .cons h ih
theorem rks_put (hf : ∀ a b, f a = f b → a = b) {ks : List (κ × W)} {qs : List (κ' × V)} (r : RKs K f L H ks qs) (k : κ) {w : W} {v : V} (q : RW K L H w v) : RKs K f L H (kvPut ks k w) (putK qs (f k) v) := by
  unfold kvPut putK
  rw [rks_any hf r k]
  split
  · exact rks_map hf r k q
  · exact rks_app r k q
end
theorem rks_len {κ κ' : Type} {f : κ → κ'} {K : PySem.W.Frag} {L : List Addr} {H : Hp} {ks : List (κ × W)} {qs : List (κ' × V)} (r : RKs K f L H ks qs) : ks.length = qs.length := by
  induction r with
  | nil => rfl
  | cons _ _ ih => simp [ih]
theorem inW_spec {K : PySem.W.Frag} {L : List Addr} {H : Hp} {S : Sg} (hR : Rl K L H S) {a b : W} {x y : V} {k : Bool} (h : inW a b S = some k) (h1 : RW K L H a x) (h2 : RW K L H b y) :
    (∃ (c : Nat) (z : Str), x = .str ⟨#[c]⟩ ∧ y = .str z ∧ decide (c ∈ z.cps.toList) = k) ∨ (∃ p xs, y = .ref p ∧ (SqL K H p xs ∨ SqT K H p xs) ∧ flatV x = true ∧ xs.all flatV = true ∧ inV x xs = k) ∨
    ∃ p o, y = .ref p ∧ DGet H p x o ∧ o.isSome = k := by
  unfold inW at h
  split at h
  · rename_i c t
    cases h1; cases h2; cases h
    exact .inl ⟨c, _, rfl, rfl, by simp⟩
  · rename_i ws _
    right; left
    cases h2 with
    | tup hs r =>
      obtain ⟨f1, f2, f3⟩ := inSeq_spec h h1 r
      exact ⟨_, _, rfl, .inr hs, f1, f2, f3⟩
  · rename_i l _
    right
    cases h2 with
    | ref hb =>
      split at h
      · rename_i ws e
        obtain ⟨p, hp, xs, hq, r⟩ := hR.addr e
        rw [hp] at hb; cases hb
        obtain ⟨f1, f2, f3⟩ := inSeq_spec h h1 r
        exact .inl ⟨_, _, rfl, .inl (SqL.of hq), f1, f2, f3⟩
      · rename_i ws e
        obtain ⟨p, hp, xs, hq, r⟩ := hR.addr e
        rw [hp] at hb; cases hb
        obtain ⟨f1, f2, f3⟩ := inSeq_spec h h1 r
        exact .inl ⟨_, _, rfl, .inl hq.sql, f1, f2, f3⟩
      · rename_i kvs e
        obtain ⟨p, hp, qs, hq, r⟩ := hR.addr e
        rw [hp] at hb; cases hb
        obtain ⟨q, e1, e2⟩ := Option.map_eq_some_iff.mp h
        have hk := kyOf_spec e1 h1
        subst hk
        refine .inr ⟨_, _, rfl, DGet.k hq, ?_⟩
        have z := rks_find (fun _ _ => Ky.k_inj) r q
        split at z
        · rename_i w e3
          obtain ⟨v, e4, _⟩ := z
          rw [e4, ← e2, e3]; rfl
        · rename_i e3
          rw [z, ← e2, e3]; rfl
      · cases h
  · cases h
theorem or_in (hu : X.A.units + 64 < cLine) : OpR X (compareOp .In) (rC X.K (cmpW .inn)) := by
  rintro pins s σ H x y v u Q I rx ry ⟨L, S, wx, wy, hR, h1, h2, h⟩
  obtain ⟨k, e, q⟩ := boolR_ok hR h
  rcases inW_spec hR e h1 h2 with ⟨c, z, e1, e2, e3⟩ | ⟨p, xs, e1, e2, e3, e4, e5⟩ | ⟨p, o, e1, e2, e3⟩
  · exact op_in_sign pins s σ H _ _ v u Q I rx ry ⟨c, z, e1, e2, by rw [e3]; exact q⟩
  · exact op_in_seq pins s σ H _ _ v u Q I rx ry ⟨p, xs, e1, e2, e3, e4, by rw [if_neg (by decide), e5]; exact q⟩
  · subst e1
    cases ry
    exact d_in (by omega) I e2 rx fun s' I' => ⟨.bl o.isSome, H, I', rfl, by rw [e3]; exact q⟩
theorem or_nin (hu : X.A.units + 64 < cLine) : OpR X (compareOp .NotIn) (rC X.K (cmpW .nin)) := by
  rintro pins s σ H x y v u Q I rx ry ⟨L, S, wx, wy, hR, h1, h2, h⟩
  obtain ⟨k, e, q⟩ := boolR_ok hR h
  obtain ⟨k', e', rfl⟩ := Option.map_eq_some_iff.mp (show (inW wx wy S).map (!·) = some k from e)
  rcases inW_spec hR e' h1 h2 with ⟨c, z, e1, e2, e3⟩ | ⟨p, xs, e1, e2, e3, e4, e5⟩ | ⟨p, o, e1, e2, e3⟩
  · exact op_notIn_sign pins s σ H _ _ v u Q I rx ry ⟨c, z, e1, e2, by rw [e3]; exact q⟩
  · exact op_notIn_seq pins s σ H _ _ v u Q I rx ry ⟨p, xs, e1, e2, e3, e4, by rw [if_pos rfl, e5]; exact q⟩
  · subst e1
    cases ry
    exact d_notIn (by omega) I e2 rx fun s' I' => ⟨.bl (!o.isSome), H, I', rfl, by rw [e3]; exact q⟩
theorem nonW_iff {K : PySem.W.Frag} {L : List Addr} {H : Hp} {x : W} {v : V} (q : RW K L H x v) : isNonW x = decide (v = .non) := by cases q <;> simp [isNonW]
theorem or_iss : OpR X (compareOp .Is) (rC X.K (cmpW .iss)) := by
  rintro pins s σ H x y v u Q I rx ry ⟨L, S, wx, wy, hR, h1, h2, h⟩
  obtain ⟨k, e, q⟩ := boolR_ok hR h
  have e' : (if isNonW wy then some (isNonW wx) else none) = some k := e
  split at e'
  · rename_i hn
    cases e'
    rw [nonW_iff h2] at hn
    exact op_isN pins s σ H _ _ v u Q I rx ry ⟨of_decide_eq_true hn, by rw [← nonW_iff h1]; exact q⟩
  · cases e'
theorem or_isn : OpR X (compareOp .IsNot) (rC X.K (cmpW .isn)) := by
  rintro pins s σ H x y v u Q I rx ry ⟨L, S, wx, wy, hR, h1, h2, h⟩
  obtain ⟨k, e, q⟩ := boolR_ok hR h
  have e' : (if isNonW wy then some (!isNonW wx) else none) = some k := e
  split at e'
  · rename_i hn
    cases e'
    rw [nonW_iff h2] at hn
    exact op_notN pins s σ H _ _ v u Q I rx ry ⟨of_decide_eq_true hn, by rw [← nonW_iff h1]; exact q⟩
  · cases e'
/-- an operator of the text -/
def opB : Bo → Operator
  | .add => .Add | .sub => .Sub | .mul => .Mult | .fdiv => .FloorDiv | .mod => .Mod | .pow => .Pow
def opC : Co → CmpOp
  | .eq => .Eq | .ne => .NotEq | .lt => .Lt | .le => .LtE | .gt => .Gt | .ge => .GtE | .inn => .In | .nin => .NotIn | .iss => .Is | .isn => .IsNot
theorem or_b (o : Bo) : OpR X (binaryOp (opB o)) (rB X.K (binW o)) := by
  cases o
  · exact or_add
  · exact or_sub
  · exact or_mul
  · exact or_fdiv
  · exact or_mod
  · exact or_pow
theorem or_c (hu : X.A.units + 64 < cLine) (o : Co) : OpR X (compareOp (opC o)) (rC X.K (cmpW o)) := by
  cases o
  · exact or_eq hu
  · exact or_ne hu
  · exact or_lt
  · exact or_le
  · exact or_gt
  · exact or_ge
  · exact or_in hu
  · exact or_nin hu
  · exact or_iss
  · exact or_isn
theorem truW_spec {K : PySem.W.Frag} {L : List Addr} {H : Hp} {S : Sg} (hR : Rl K L H S) {w : W} {v : V} {k : Bool} (h : truW w S = some k) (q : RW K L H w v) : TruV K v H k := by
  cases q with
  | non => cases h; rfl
  | bl b => cases h; rfl
  | int i => cases h; rfl
  | str s =>
    have h' : (if s.length ≤ lenMax then some (!s.isEmpty) else none) = some k := h
    split at h'
    · rename_i hl
      cases h'
      refine ⟨by rw [← lenMax_eq]; show s.toArray.size ≤ lenMax; simpa using hl, ?_⟩
      show (!s.isEmpty) = (((s.toArray.size : Nat) : Int) != 0)
      cases s <;> simp <;> omega
    · cases h'
  | tup hs r =>
    cases h
    refine .inr (.inl ⟨_, hs, ?_⟩)
    have := r.length
    rename_i ws a xs
    cases ws <;> cases xs <;> simp_all
  | ref ha =>
    obtain ⟨ws, e, e2⟩ := Option.map_eq_some_iff.mp (show (listAt S _).map (!·.isEmpty) = some k from h)
    obtain ⟨p, xs, hp, hq, r⟩ := hR.list e
    rw [ha] at hp; cases hp
    refine .inl ⟨_, hq, ?_⟩
    have := r.length
    rw [← e2]
    cases ws <;> cases xs <;> simp_all
end
end SF
set_option Elab.async false
set_option linter.all false
set_option maxRecDepth 100000
set_option maxHeartbeats 4000000
namespace SF
open PySem L2
def rL (K : PySem.W.Frag) (f : List W → Sg → R W) : List V → Hp → VK → Prop := fun xs H Q => ∃ L S ws, Rl K L H S ∧ RWs K L H ws xs ∧ Res K L H (f ws S) Q
def rM (K : PySem.W.Frag) (f : W → List W → Sg → R W) : V → List V → Hp → VK → Prop := fun x xs H Q => ∃ L S w ws, Rl K L H S ∧ RW K L H w x ∧ RWs K L H ws xs ∧ Res K L H (f w ws S) Q
section
variable {K : PySem.W.Frag} {L : List Addr} {H : Hp} {S : Sg} {Q : VK}
theorem seq_spec (hR : Rl K L H S) {w : W} {v : V} {ws : List W} (h : seqAt w S = some ws) (q : RW K L H w v) : ∃ p xs, v = .ref p ∧ (SqL K H p xs ∨ SqT K H p xs) ∧ RWs K L H ws xs := by
  cases q <;> try (cases h; done)
  case tup hs r => cases h; exact ⟨_, _, rfl, .inr hs, r⟩
  case ref ha =>
    obtain ⟨p, xs, hp, hq, r⟩ := hR.list h
    rw [ha] at hp; cases hp
    exact ⟨_, _, rfl, .inl hq, r⟩
theorem ofO_ok {α : Type} {o : Option α} {f : α → R W} (h : Res K L H (ofO o f) Q) : ∃ a, o = some a ∧ Res K L H (f a) Q := by
  cases o with
  | none => exact h.elim
  | some a => exact ⟨a, rfl, h⟩
theorem bools_spec : ∀ {ws : List W} {xs : List V} {bs : List Bool}, boolsOf ws = some bs → RWs K L H ws xs → xs = bs.map V.bl
  | [], _, bs, h, .nil => by simp [boolsOf] at h; subst h; rfl
  | .bl b :: ws, _, bs, h, .cons (.bl _) r => by
    simp only [boolsOf, Option.map_eq_some_iff] at h
    obtain ⟨bs', e, rfl⟩ := h
    rw [bools_spec e r]; rfl
  | .non :: _, _, _, h, _ => by simp [boolsOf] at h
  | .int _ :: _, _, _, h, _ => by simp [boolsOf] at h
  | .str _ :: _, _, _, h, _ => by simp [boolsOf] at h
  | .tup _ :: _, _, _, h, _ => by simp [boolsOf] at h
  | .ref _ :: _, _, _, h, _ => by simp [boolsOf] at h
theorem ints_spec : ∀ {ws : List W} {xs : List V} {bs : List Int}, intsOf ws = some bs → RWs K L H ws xs → xs = bs.map V.int
  | [], _, bs, h, .nil => by simp [intsOf] at h; subst h; rfl
  | .int b :: ws, _, bs, h, .cons (.int _) r => by
    simp only [intsOf, Option.map_eq_some_iff] at h
    obtain ⟨bs', e, rfl⟩ := h
    rw [ints_spec e r]; rfl
  | .non :: _, _, _, h, _ => by simp [intsOf] at h
  | .bl _ :: _, _, _, h, _ => by simp [intsOf] at h
  | .str _ :: _, _, _, h, _ => by simp [intsOf] at h
  | .tup _ :: _, _, _, h, _ => by simp [intsOf] at h
  | .ref _ :: _, _, _, h, _ => by simp [intsOf] at h
theorem strs_spec : ∀ {ws : List W} {xs : List V} {bs : List Str}, strsOf ws = some bs → RWs K L H ws xs → xs = bs.map V.str
  | [], _, bs, h, .nil => by simp [strsOf] at h; subst h; rfl
  | .str b :: ws, _, bs, h, .cons (.str _) r => by
    simp only [strsOf, Option.map_eq_some_iff] at h
    obtain ⟨bs', e, rfl⟩ := h
    rw [strs_spec e r]; rfl
  | .non :: _, _, _, h, _ => by simp [strsOf] at h
  | .bl _ :: _, _, _, h, _ => by simp [strsOf] at h
  | .int _ :: _, _, _, h, _ => by simp [strsOf] at h
  | .tup _ :: _, _, _, h, _ => by simp [strsOf] at h
  | .ref _ :: _, _, _, h, _ => by simp [strsOf] at h
theorem rw_wS (s : Str) : RW K L H (wS s) (.str s) := by
  have := RW.str (K := K) (L := L) (H := H) s.cps.toList
  simpa [wS] using this
theorem rws_strs : ∀ ys : List Str, RWs K L H (ys.map wS) (ys.map V.str)
  | [] => .nil
  | y :: ys => .cons (rw_wS y) (rws_strs ys)
end
section
variable {X : Cx}
theorem cr_int : CallR X (.type "int") (rL X.K biInt) := by
  rintro pins s σ H xs us Q I r ⟨L, S, ws, hR, hw, h⟩
  unfold biInt at h
  split at h
  · obtain _ | ⟨q, _ | _⟩ := hw
    cases q
    exact call_int1 pins s σ H _ us Q I r (.inl ⟨_, rfl, h.same hR (.int _)⟩)
  · obtain _ | ⟨q, _ | _⟩ := hw
    cases q
    exact call_int1 pins s σ H _ us Q I r (.inr ⟨_, rfl, h.same hR (.int _)⟩)
  · exact h.elim
theorem cr_abs : CallR X (.builtin "abs") (rL X.K biAbs) := by
  rintro pins s σ H xs us Q I r ⟨L, S, ws, hR, hw, h⟩
  unfold biAbs at h
  split at h
  · obtain _ | ⟨q, _ | _⟩ := hw
    cases q
    exact call_abs pins s σ H _ us Q I r ⟨_, rfl, h.same hR (.int _)⟩
  · exact h.elim
theorem cr_max2 (hc : X.calm = true) : CallR X (.builtin "max") (rL X.K biMax2) := by
  rintro pins s σ H xs us Q I r ⟨L, S, ws, hR, hw, h⟩
  unfold biMax2 at h
  split at h
  · obtain _ | ⟨q, _ | ⟨q2, _ | _⟩⟩ := hw
    cases q; cases q2
    exact call_max2 hc pins s σ H _ us Q I r ⟨_, _, rfl, h.same hR (.int _)⟩
  · exact h.elim
theorem cr_min2 (hc : X.calm = true) : CallR X (.builtin "min") (rL X.K biMin2) := by
  rintro pins s σ H xs us Q I r ⟨L, S, ws, hR, hw, h⟩
  unfold biMin2 at h
  split at h
  · obtain _ | ⟨q, _ | ⟨q2, _ | _⟩⟩ := hw
    cases q; cases q2
    exact call_min2 hc pins s σ H _ us Q I r ⟨_, _, rfl, h.same hR (.int _)⟩
  · exact h.elim
theorem cr_len : CallR X (.builtin "len") (rL X.K biLen) := by
  rintro pins s σ H xs us Q I r ⟨L, S, ws, hR, hw, h⟩
  unfold biLen at h
  split at h
  · obtain _ | ⟨q, _ | _⟩ := hw
    rename_i w v
    obtain ⟨n, e, h⟩ := ofO_ok h
    have hq := h.same hR (.int _)
    cases q <;> try (cases e; done)
    case str t =>
      have e' : (if t.length ≤ lenMax then some t.length else none) = some n := e
      split at e'
      · rename_i hl
        cases e'
        refine call_len pins s σ H _ us Q I r ⟨_, t.length, rfl, ⟨?_, ?_⟩, hq⟩
        · rw [← lenMax_eq]; show t.toArray.size ≤ lenMax; simpa using hl
        · show t.length = t.toArray.size; simp
      · cases e'
    case tup hs rs =>
      cases e
      exact call_len pins s σ H _ us Q I r ⟨_, _, rfl, .inr ⟨_, hs, rs.length⟩, hq⟩
    case ref l a ha =>
      have e' : lenW (.ref l) S = some n := e
      simp only [lenW] at e'
      split at e' <;> cases e'
      · rename_i ws e1
        obtain ⟨b, hb, ys, k1, k2⟩ := hR.addr e1
        rw [ha] at hb; cases hb
        exact call_len pins s σ H _ us Q I r ⟨_, _, rfl, .inl ⟨_, SqL.of k1, k2.length⟩, hq⟩
      · rename_i ws e1
        obtain ⟨b, hb, ys, k1, k2⟩ := hR.addr e1
        rw [ha] at hb; cases hb
        exact call_len pins s σ H _ us Q I r ⟨_, _, rfl, .inl ⟨_, k1.sql, k2.length⟩, hq⟩
      · rename_i ks e1
        obtain ⟨b, hb, ys, k1, k2⟩ := hR.addr e1
        rw [ha] at hb; cases hb
        exact call_lenD pins s σ H _ us Q I r ⟨_, ys, rfl, k1, by rw [← rks_len k2]; exact hq⟩
  · exact h.elim
theorem cr_tuple : CallR X (.type "tuple") (rL X.K biTuple) := by
  rintro pins s σ H xs us Q I r ⟨L, S, ws, hR, hw, h⟩
  unfold biTuple at h
  split at h
  · obtain _ | ⟨q, _ | _⟩ := hw
    obtain ⟨ws, e, h⟩ := ofO_ok h
    obtain ⟨p, ys, rfl, hq | hq, rr⟩ := seq_spec hR e q
    · exact call_tuple_of pins s σ H _ us Q I r ⟨p, ys, rfl, .inl ⟨hq, (Res.newT hR h rr).2⟩⟩
    · refine call_tuple_of pins s σ H _ us Q I r ⟨p, ys, rfl, .inr ⟨hq, ?_⟩⟩
      unfold newT at h
      split at h
      · exact h.same hR (.tup hq rr)
      · exact h.elim
  · exact h.elim
theorem cr_all' (hc : X.calm = true) : CallR X (.builtin "all") (rL X.K biAll) := by
  rintro pins s σ H xs us Q I r ⟨L, S, ws, hR, hw, h⟩
  unfold biAll at h
  split at h
  · obtain _ | ⟨q, _ | _⟩ := hw
    obtain ⟨ws, e, h⟩ := ofO_ok h
    obtain ⟨bs, e2, h⟩ := ofO_ok h
    cases q with
    | ref ha =>
      obtain ⟨p, ys, hp, hq, rr⟩ := hR.list e
      rw [ha] at hp; cases hp
      have := bools_spec e2 rr
      subst this
      exact cr_all hc pins s σ H _ us Q I r ⟨_, bs, rfl, hq, h.same hR (.bl _)⟩
  · exact h.elim
theorem cr_any' (hc : X.calm = true) : CallR X (.builtin "any") (rL X.K biAny) := by
  rintro pins s σ H xs us Q I r ⟨L, S, ws, hR, hw, h⟩
  unfold biAny at h
  split at h
  · obtain _ | ⟨q, _ | _⟩ := hw
    obtain ⟨ws, e, h⟩ := ofO_ok h
    obtain ⟨bs, e2, h⟩ := ofO_ok h
    cases q with
    | ref ha =>
      obtain ⟨p, ys, hp, hq, rr⟩ := hR.list e
      rw [ha] at hp; cases hp
      have := bools_spec e2 rr
      subst this
      exact cr_any hc pins s σ H _ us Q I r ⟨_, bs, rfl, hq, h.same hR (.bl _)⟩
  · exact h.elim
theorem cr_sum' (hc : X.calm = true) : CallR X (.builtin "sum") (rL X.K biSum) := by
  rintro pins s σ H xs us Q I r ⟨L, S, ws, hR, hw, h⟩
  unfold biSum at h
  split at h
  · obtain _ | ⟨q, _ | _⟩ := hw
    obtain ⟨ws, e, h⟩ := ofO_ok h
    obtain ⟨bs, e2, h⟩ := ofO_ok h
    cases q with
    | ref ha =>
      obtain ⟨p, ys, hp, hq, rr⟩ := hR.list e
      rw [ha] at hp; cases hp
      have := ints_spec e2 rr
      subst this
      exact cr_sum hc pins s σ H _ us Q I r ⟨_, bs, rfl, hq, h.same hR (.int _)⟩
  · exact h.elim
theorem cr_ord : CallR X (.builtin "ord") (rL X.K biOrd) := by
  rintro pins s σ H xs us Q I r ⟨L, S, ws, hR, hw, h⟩
  unfold biOrd at h
  split at h
  · obtain _ | ⟨q, _ | _⟩ := hw
    cases q
    exact call_ord pins s σ H _ us Q I r ⟨_, rfl, rfl, h.same hR (.int _)⟩
  · exact h.elim
theorem cr_str : CallR X (.type "str") (rL X.K biStr) := by
  rintro pins s σ H xs us Q I r ⟨L, S, ws, hR, hw, h⟩
  unfold biStr at h
  split at h
  · obtain _ | ⟨q, _ | _⟩ := hw
    cases q
    split at h
    · rename_i i hb
      rw [Bool.and_eq_true, decide_eq_true_eq, decide_eq_true_eq] at hb
      refine call_str_int pins s σ H _ us Q I r ⟨_, rfl, ?_, ?_⟩
      · by_cases h0 : i.natAbs = 0
        · rw [h0]; decide
        · exact Nat.lt_of_lt_of_le ((Nat.log2_lt h0).mpr (show i.natAbs < 2 ^ 63 by omega)) (by decide)
      · exact h.same hR (.str _)
    · exact h.elim
  · exact h.elim
theorem mr_append : MtR X "list.append" (rM X.K meAppend) := by
  rintro pins s σ H x xs v us Q I rx r ⟨L, S, w, ws, hR, hx, hw, h⟩
  unfold meAppend at h
  split at h
  · split at h
    · rename_i ys e
      split at h
      · rename_i hl
        obtain _ | ⟨q, _ | _⟩ := hw
        cases hx with
        | ref ha =>
          obtain ⟨b, hb, zs, k1, k2⟩ := hR.addr e
          rw [ha] at hb; cases hb
          refine mt_append pins s σ H _ _ v us Q I rx r ⟨_, zs, _, rfl, rfl, k1, by rw [← k2.length]; exact hl, ?_⟩
          obtain ⟨w1, w2⟩ := hR.write (o' := .lst (ys ++ [_])) (u := .lst (zs ++ [_])) e ha rfl ⟨_, upd_same, (k2.append (.cons q .nil)).mono (ex_write ⟨_, k1, trivial⟩)⟩ rfl
          exact h _ _ _ w2 w1 .non
      · exact h.elim
    · exact h.elim
  · exact h.elim
theorem str_len (s : List Nat) : (⟨s.toArray⟩ : Str).length = s.length := by show s.toArray.size = s.length; simp
theorem mr_split : MtR X "str.split" (rM X.K meSplit) := by
  rintro pins s σ H x xs v us Q I rx r ⟨L, S, w, ws, hR, hx, hw, h⟩
  unfold meSplit at h
  split at h
  · split at h
    · rename_i hl
      obtain _ | ⟨q, _ | _⟩ := hw
      cases hx; cases q
      refine mt_split pins s σ H _ _ v us Q I rx r ⟨_, _, rfl, rfl, ?_, ?_, ?_⟩
      · rw [str_len]; simpa using hl.1
      · rw [str_len, ← lenMax_eq]; exact hl.2
      · exact (Res.newL hR h (rws_strs _)).2
    · exact h.elim
  · exact h.elim
theorem mr_join : MtR X "str.join" (rM X.K meJoin) := by
  rintro pins s σ H x xs v us Q I rx r ⟨L, S, w, ws, hR, hx, hw, h⟩
  unfold meJoin at h
  split at h
  · obtain ⟨ws, e, h⟩ := ofO_ok h
    obtain ⟨ys, e2, h⟩ := ofO_ok h
    split at h
    · rename_i hl
      obtain _ | ⟨q, _ | _⟩ := hw
      cases hx
      obtain ⟨p, zs, rfl, hq, rr⟩ := seq_spec hR e q
      have := strs_spec e2 rr
      subst this
      refine mt_join pins s σ H _ _ v us Q I rx r ⟨_, _, ys, rfl, rfl, hq, ?_, h.same hR (rw_wS _)⟩
      rw [str_len]; exact hl
    · exact h.elim
  · exact h.elim
theorem mr_strip1 : MtR X "str.strip" (rM X.K meStrip1) := by
  rintro pins s σ H x xs v us Q I rx r ⟨L, S, w, ws, hR, hx, hw, h⟩
  unfold meStrip1 at h
  split at h
  · split at h
    · rename_i hl
      obtain _ | ⟨q, _ | _⟩ := hw
      cases hx; cases q
      refine mt_stripChars pins s σ H _ _ v us Q I rx r ⟨_, _, rfl, rfl, ?_, h.same hR (rw_wS _)⟩
      rw [str_len, ← lenMax_eq]; exact hl
    · exact h.elim
  · exact h.elim
def rM0 (K : PySem.W.Frag) (f : W → Sg → R W) : V → List V → Hp → VK → Prop := fun x xs H Q => ∃ L S w, xs = [] ∧ Rl K L H S ∧ RW K L H w x ∧ Res K L H (f w S) Q
theorem mr_strip : MtR X "str.strip" (rM0 X.K (me0W .strip)) := by
  rintro pins s σ H x xs v us Q I rx r ⟨L, S, w, rfl, hR, hx, h⟩
  cases hx <;> first | exact h.elim | skip
  simp only [me0W] at h
  split at h
  · rename_i hl
    refine mt_strip pins s σ H _ _ v us Q I rx r ⟨_, rfl, rfl, ?_, h.same hR (rw_wS _)⟩
    rw [str_len, ← lenMax_eq]; exact hl
  · exact h.elim
theorem mr_rstrip : MtR X "str.rstrip" (rM0 X.K (me0W .rstrip)) := by
  rintro pins s σ H x xs v us Q I rx r ⟨L, S, w, rfl, hR, hx, h⟩
  cases hx <;> first | exact h.elim | skip
  simp only [me0W] at h
  split at h
  · rename_i hl
    refine mt_rstrip pins s σ H _ _ v us Q I rx r ⟨_, rfl, rfl, ?_, h.same hR (rw_wS _)⟩
    rw [str_len, ← lenMax_eq]; exact hl
  · exact h.elim
theorem s_toList (s : List Nat) : (⟨s.toArray⟩ : Str).cps.toList = s := by simp
theorem ixr (hu : X.A.units + 64 < cLine) : IxR X fun x y H Q => ∃ L S wx wy, Rl X.K L H S ∧ RW X.K L H wx x ∧ RW X.K L H wy y ∧ Res X.K L H (ofO (itemW wx wy S) fun w => .ok w S) Q := by
  rintro e1 e2 pins s σ H x y v u Q I rx ry ⟨L, S, wx, wy, hR, h1, h2, h0⟩ hs
  obtain ⟨w, e, h⟩ := ofO_ok h0
  clear h0
  unfold itemW at e
  split at e
  · rename_i t i
    split at e
    · rename_i hl
      obtain ⟨k, k1, k2⟩ := Option.bind_eq_some_iff.mp e
      obtain ⟨c, k3, rfl⟩ := Option.map_eq_some_iff.mp k2
      cases h1; cases h2
      refine ix_str e1 e2 pins s σ H _ _ v u Q I rx ry ⟨_, i, c, rfl, rfl, by rw [str_len, ← lenMax_eq]; exact hl, ?_, h.same hR (.str [c])⟩ hs
      rw [s_toList]
      unfold atI
      rw [k1]; exact k3
    · cases e
  · rename_i ws i
    obtain ⟨k, k1, k2⟩ := Option.bind_eq_some_iff.mp e
    cases h2
    cases h1 with
    | tup hs' rs =>
      obtain ⟨v', k3, k4⟩ := rs.get k2
      refine ix_tup e1 e2 pins s σ H _ _ v u Q I rx ry ⟨_, _, i, v', rfl, rfl, hs', ?_, h.same hR k4⟩ hs
      unfold atI
      rw [← rs.length, k1]; exact k3
  · rename_i l
    cases h1 with
    | ref ha =>
      split at e
      · rename_i ws i e2'
        obtain ⟨k, k1, k2⟩ := Option.bind_eq_some_iff.mp e
        obtain ⟨p, hp, ys, hq, rs⟩ := hR.addr e2'
        rw [ha] at hp; cases hp; cases h2
        obtain ⟨v', k3, k4⟩ := rs.get k2
        refine ix_list e1 e2 pins s σ H _ _ v u Q I rx ry ⟨_, ys, i, v', rfl, rfl, SqL.of hq, ?_, h.same hR k4⟩ hs
        unfold atI
        rw [← rs.length, k1]; exact k3
      · rename_i ws i e2'
        obtain ⟨k, k1, k2⟩ := Option.bind_eq_some_iff.mp e
        obtain ⟨p, hp, ys, hq, rs⟩ := hR.addr e2'
        rw [ha] at hp; cases hp; cases h2
        obtain ⟨v', k3, k4⟩ := rs.get k2
        refine ix_list e1 e2 pins s σ H _ _ v u Q I rx ry ⟨_, ys, i, v', rfl, rfl, hq.sql, ?_, h.same hR k4⟩ hs
        unfold atI
        rw [← rs.length, k1]; exact k3
      · rename_i kvs _ e2'
        obtain ⟨k, k1, k2⟩ := Option.bind_eq_some_iff.mp e
        obtain ⟨p, hp, ys, hq, rs⟩ := hR.addr e2'
        rw [ha] at hp; cases hp
        have hk := kyOf_spec k1 h2
        subst hk
        have z := rks_find (fun _ _ => Ky.k_inj) rs k
        rw [k2] at z
        obtain ⟨v', z1, z2⟩ := z
        have g := DGet.k (k := k.k) hq
        rw [z1] at g
        cases rx
        exact PyProof.Rows.tail_any (dict_typeIs I g) PySem.F.slot_dict_getitem.lookup (d_getItem (by omega) I g ry fun w' s' I' rw' => ⟨v', H, I', rw', h.same hR z2⟩) hs
      · cases e
  · cases e
theorem slr : SlR X fun x lo hi H Q => ∃ L S w, Rl X.K L H S ∧ RW X.K L H w x ∧ Res X.K L H (sliceW w lo hi S) Q := by
  rintro pins s σ H x v vl vu lo hi sl Q I rx hs p1 p2 ⟨L, S, w, hR, hw, h⟩
  unfold sliceW at h
  split at h
  · rename_i t
    split at h
    · rename_i hl
      cases hw
      exact sl_str pins s σ H _ v vl vu lo hi sl Q I rx hs p1 p2 ⟨_, rfl, by rw [str_len, ← lenMax_eq]; exact hl, h.same hR (rw_wS _)⟩
    · exact h.elim
  · rename_i ws
    cases hw with
    | tup ht rr =>
      refine sl_tupA pins s σ H _ v vl vu lo hi sl Q I rx hs p1 p2 ⟨_, _, rfl, ht, fun ⟨z1, z2⟩ => ?_, fun _ p hp => ?_⟩
      · rw [rr.length, z1, z2] at h
        rw [List.drop_zero, Nat.sub_zero, ← rr.length, List.take_length] at h
        unfold newT at h
        split at h
        · exact h.same hR (.tup ht rr)
        · exact h.elim
      · have := (Res.newT hR h ((rr.drop _).take _)).2 p hp
        rw [rr.length] at this
        exact this
  · rename_i l
    obtain ⟨ws, e, h⟩ := ofO_ok h
    obtain ⟨a, xs, ha, hq, rr⟩ := hR.list e
    cases hw with
    | ref hb =>
      rw [ha] at hb; cases hb
      refine sl_list pins s σ H _ v vl vu lo hi sl Q I rx hs p1 p2 ⟨_, _, rfl, hq, fun p hp => ?_⟩
      have := (Res.newL hR h ((rr.drop _).take _)).2 p hp
      rw [rr.length] at this
      exact this
  · exact h.elim
def ResU (K : PySem.W.Frag) (L : List Addr) (H : Hp) (r : R Unit) (Q : Hp → Prop) : Prop := match r with
  | .ok _ S' => ∀ L' H', Ex K L H L' H' → Rl K L' H' S' → Q H'
  | _ => False
theorem psr (hu : X.A.units + 64 < cLine) : PSet X fun o i v H Q => ∃ L S wo wi wv, Rl X.K L H S ∧ RW X.K L H wo o ∧ RW X.K L H wi i ∧ RW X.K L H wv v ∧ ResU X.K L H (setW wo wi wv S) Q := by
  rintro pins s σ H o i v ov iv u Q I ro ri rv ⟨L, S, wo, wi, wv, hR, h1, h2, h3, h⟩
  unfold setW at h
  split at h
  · cases h1 with
    | ref ha =>
      split at h
      · rename_i ws j e
        split at h
        · rename_i k ek
          obtain ⟨p, hp, ys, hq, rs⟩ := hR.addr e
          rw [ha] at hp; cases hp; cases h2
          refine set_list pins s σ H _ _ _ ov iv u Q I ro ri rv ⟨_, ys, j, k, rfl, rfl, hq, by rw [← rs.length]; exact ek, ?_⟩
          obtain ⟨w1, w2⟩ := hR.write (o' := .lst (ws.set k wv)) (u := .lst (ys.set k v)) e ha rfl ⟨_, upd_same, (rs.set h3 k).mono (ex_write ⟨_, hq, trivial⟩)⟩ rfl
          exact h _ _ w2 w1
        · exact h.elim
      · rename_i kvs e
        split at h
        · rename_i q eq
          split at h
          · rename_i hl
            obtain ⟨p, hp, ys, hq, rs⟩ := hR.addr e
            rw [ha] at hp; cases hp
            have hk := kyOf_spec eq h2
            subst hk
            cases ro
            have hx : Ex X.K L H L (upd H _ (.dK (putK ys q.k v))) := ex_write ⟨_, hq, trivial⟩
            refine d_setItem (by omega) I (DPut.k hq (by rw [← rks_len rs]; exact hl)) ri rv fun s' I' => ⟨_, I', ?_⟩
            obtain ⟨w1, w2⟩ := hR.write (o' := .dic (kvPut kvs q wv)) (u := .dK (putK ys q.k v)) e ha rfl ⟨_, upd_same, (rks_put (fun _ _ => Ky.k_inj) rs q h3).mono hx⟩ rfl
            exact h _ _ w2 w1
          · exact h.elim
        · exact h.elim
      · exact h.elim
  · exact h.elim
theorem rks_keys {K : PySem.W.Frag} {L L' : List Addr} {H H' : Hp} {ks : List (Ky × W)} {qs : List (Key × V)} (r : RKs K Ky.k L H ks qs) : RWs K L' H' (ks.map (·.1.w)) (qs.map fun kv => kV kv.1) := by
  induction r with
  | nil => exact .nil
  | @cons k _ _ _ _ _ _ ih =>
    refine .cons ?_ ih
    cases k with
    | int i => exact .int i
    | str s => exact .str s
theorem cr_list (hc : X.calm = true) : CallR X (.type "list") (rL X.K biList) := by
  rintro pins s σ H xs us Q I r ⟨L, S, ws, hR, hw, h⟩
  unfold biList at h
  split at h
  · obtain _ | ⟨q, _ | _⟩ := hw
    obtain ⟨ws, e, h'⟩ := ofO_ok h
    clear h
    cases q <;> try (cases e; done)
    case tup hs rs =>
      cases e
      exact call_list_of pins s σ H _ us Q I r ⟨_, _, rfl, .inr hs, (Res.newL hR h' rs).2⟩
    case ref l a ha =>
      have e' : itemsW (.ref l) S = some ws := e
      simp only [itemsW] at e'
      split at e'
      · rename_i e1
        cases e'
        obtain ⟨p, hp, ys, hq, rs⟩ := hR.addr e1
        rw [ha] at hp; cases hp
        exact call_list_of pins s σ H _ us Q I r ⟨_, _, rfl, .inl (SqL.of hq), (Res.newL hR h' rs).2⟩
      · rename_i e1
        cases e'
        obtain ⟨p, hp, ys, hq, rs⟩ := hR.addr e1
        rw [ha] at hp; cases hp
        exact call_list_of pins s σ H _ us Q I r ⟨_, _, rfl, .inl hq.sql, (Res.newL hR h' rs).2⟩
      · rename_i kvs e1
        cases e'
        obtain ⟨p, hp, ys, hq, rs⟩ := hR.addr e1
        rw [ha] at hp; cases hp
        exact call_listD hc pins s σ H _ us Q I r ⟨_, _, rfl, .inl hq, (Res.newL hR h' (rks_keys rs)).2⟩
      · cases e'
  · exact h.elim
end
end SF
set_option Elab.async false
set_option linter.all false
set_option maxRecDepth 100000
set_option maxHeartbeats 4000000
namespace SF
open PySem L2
/-! # 4. What a result asks of the heap behind it -/
/-- an exception class of the text: its name and its fields -/
structure Cl where
  nm : Str
  fs : List Str
structure Zx where
  K : PySem.W.Frag
  mg : Str → Option Value
  cls : List Cl
/-- an exception as it flies -/
def RX (Z : Zx) (L : List Addr) (H : Hp) (x : Xn) (c : Value) (d : Option Addr) : Prop :=
  ∃ (C : Addr) (cl : Cl) (vs : List V), Z.cls[x.cls]? = some cl ∧ Z.mg cl.nm = some (.ref C) ∧ c = .ref C ∧ RWs Z.K L H x.fs vs ∧ vs.length = cl.fs.length ∧
    (cl.fs = [] ∨ ∃ dd l, d = some dd ∧ H dd = some (.xd l) ∧ ∀ (k : Nat) (f : Str), cl.fs[k]? = some f → l.lookup f = vs[k]?)
/-- how the names stand -/
inductive REn (K : PySem.W.Frag) (L : List Addr) (H : Hp) : En → L2.St → Prop
  | nil : REn K L H [] []
  | non {σ : En} {τ : L2.St} {o : Option V} (r : REn K L H σ τ) : REn K L H (none :: σ) (o :: τ)
  | cons {w : W} {v : V} {σ : En} {τ : L2.St} (h : RW K L H w v) (r : REn K L H σ τ) : REn K L H (some w :: σ) (some v :: τ)
section
variable {K : PySem.W.Frag} {L L' : List Addr} {H H' : Hp}
theorem REn.mono (e : Ex K L H L' H') {σ : En} {τ : L2.St} (r : REn K L H σ τ) : REn K L' H' σ τ := by
  induction r with
  | nil => exact .nil
  | non _ ih => exact .non ih
  | cons h _ ih => exact .cons (h.mono e) ih
theorem REn.get {σ : En} {τ : L2.St} (r : REn K L H σ τ) : ∀ {i : Nat} {w : W}, σ[i]? = some (some w) → ∃ v, τ[i]? = some (some v) ∧ RW K L H w v := by
  induction r with
  | nil => intro i w h; simp at h
  | non _ ih =>
    intro i w h
    cases i with
    | zero => simp at h
    | succ i => simpa using ih (by simpa using h)
  | cons h _ ih =>
    intro i w e
    cases i with
    | zero => simp at e; subst e; exact ⟨_, rfl, h⟩
    | succ i => simpa using ih (by simpa using e)
theorem REn.set {σ : En} {τ : L2.St} (r : REn K L H σ τ) {w : W} {v : V} (h : RW K L H w v) : ∀ i, REn K L H (σ.set i (some w)) (τ.set i (some v)) := by
  induction r with
  | nil => intro i; exact .nil
  | non r ih =>
    intro i
    cases i with
    | zero => exact .cons h r
    | succ i => exact .non (ih i)
  | cons q r ih =>
    intro i
    cases i with
    | zero => exact .cons h r
    | succ i => exact .cons q (ih i)
theorem REn.clear {σ : En} {τ : L2.St} (r : REn K L H σ τ) : ∀ i, REn K L H (σ.set i none) (τ.set i none) := by
  induction r with
  | nil => intro i; exact .nil
  | non r ih =>
    intro i
    cases i with
    | zero => exact .non r
    | succ i => exact .non (ih i)
  | cons q r ih =>
    intro i
    cases i with
    | zero => exact .non r
    | succ i => exact .cons q (ih i)
theorem REn.wipe {σ : En} {τ : L2.St} (r : REn K L H σ τ) : ∀ own, REn K L H (wipeE σ own) (L2.wipe τ own)
  | [] => r
  | v :: vs => (r.wipe vs).clear v
theorem REn.length {σ : En} {τ : L2.St} (r : REn K L H σ τ) : σ.length = τ.length := by
  induction r with
  | nil => rfl
  | non _ ih => simp [ih]
  | cons _ _ ih => simp [ih]
end
end SF
set_option Elab.async false
set_option linter.all false
set_option maxRecDepth 100000
set_option maxHeartbeats 4000000
namespace SF
open PySem L2
/-! # 5. The text against the small language's terms -/
structure Ct where
  N : List Str
  sc : Scope
  fns : List Str
  shs : List Sh
  gls : List Str
  cls : List Cl
  gfs : List Str
  nws : List Str
  mts : List (Str × Str)
  dns : List (Str × Str)
def okName (x : Str) : Bool := !(x == ("__debug__" : Str)) && !(x == ("__classdict__" : Str)) && !(x == ("__name__" : Str)) && !(x == ("" : Str))
def visB (sc : Scope) (x : Str) : Bool := match sc.names.lookup x with
  | some .local => true
  | some .cell => true
  | some .free => true
  | _ => false
def locB (sc : Scope) (x : Str) : Bool := match sc.names.lookup x with
  | some .local => true
  | some .cell => true
  | _ => false
def glbB (sc : Scope) (x : Str) : Bool := match sc.names.lookup x with
  | some .globalImplicit => true
  | _ => false
def isB : Bo → Operator → Bool
  | .add, .Add => true
  | .sub, .Sub => true
  | .mul, .Mult => true
  | .fdiv, .FloorDiv => true
  | .mod, .Mod => true
  | .pow, .Pow => true
  | _, _ => false
def isC : Co → CmpOp → Bool
  | .eq, .Eq => true
  | .ne, .NotEq => true
  | .lt, .Lt => true
  | .le, .LtE => true
  | .gt, .Gt => true
  | .ge, .GtE => true
  | .inn, .In => true
  | .nin, .NotIn => true
  | .iss, .Is => true
  | .isn, .IsNot => true
  | _, _ => false
def isBO : Bool → BoolOp → Bool
  | true, .And => true
  | false, .Or => true
  | _, _ => false
theorem isB_eq {o : Bo} {p : Operator} (h : isB o p = true) : p = opB o := by cases o <;> cases p <;> first | rfl | (simp [isB] at h)
theorem isC_eq {o : Co} {p : CmpOp} (h : isC o p = true) : p = opC o := by cases o <;> cases p <;> first | rfl | (simp [isC] at h)
theorem isBO_eq {o : Bool} {p : BoolOp} (h : isBO o p = true) : p = (if o then .And else .Or) := by cases o <;> cases p <;> first | rfl | (simp [isBO] at h)
def biNm : Bi → Str
  | .int => "int" | .abs => "abs" | .max2 => "max" | .min2 => "min" | .len => "len" | .list => "list" | .tuple => "tuple" | .all => "all" | .any => "any" | .sum => "sum" | .ord => "ord" | .str => "str"
def meNm : Me → Str
  | .append => "append" | .split => "split" | .join => "join" | .strip1 => "strip"
def me0Nm : Me0 → Str
  | .strip => "strip" | .rstrip => "rstrip"
def tyNm : Ty → Str
  | .bool => "bool" | .int => "int" | .str => "str" | .tuple => "tuple" | .list => "list"
def chkW : W → Const → Bool
  | .non, .none => true
  | .bl b, .bool c => b == c
  | .int i, .int j => i == j
  | .str s, .str t => s == t.cps.toList
  | _, _ => false
/-- a name that is built in -/
def chkG (c : Ct) (x : Str) : Expr → Bool
  | .Name y _ => y == x && glbB c.sc x
  | _ => false
def isComp : Expr → Bool
  | .ListComp _ _ _ _ => true
  | .SetComp _ _ _ _ => true
  | .DictComp _ _ _ _ _ => true
  | _ => false
def isStar : Expr → Bool
  | .Starred _ _ => true
  | _ => false
def kwNms : List Keyword → List (Option Str)
  | [] => []
  | ⟨n, _, _⟩ :: r => n :: kwNms r
def kwVals : List Keyword → List Expr
  | [] => []
  | ⟨_, e, _⟩ :: r => e :: kwVals r
def chkTys (c : Ct) : List Ty → List Expr → Bool
  | [], [] => true
  | t :: ts, e :: es => chkG c (tyNm t) e && chkTys c ts es
  | _, _ => false
def noNeg (op : CmpOp) (b : Expr) : Bool := !behindInMarks op b
def isSlice : Expr → Bool
  | .Slice _ _ _ _ => true
  | .Tuple _ _ _ => true
  | _ => false
mutual
def chkT (c : Ct) (t : Tg) (x : Expr) : Bool := match t with
  | .na i => match x with
    | .Name x _ => decide (c.N[i]? = some x) && locB c.sc x && okName x
    | _ => false
  | .tu ts => match x with
    | .Tuple es _ _ => chkTs c ts es
    | _ => false
def chkTs (c : Ct) (ts : Tgs) (xs : List Expr) : Bool := match ts with
  | .nil => match xs with
    | [] => true
    | _ => false
  | .cons t ts => match xs with
    | x :: xs => !isStar x && chkT c t x && chkTs c ts xs
    | _ => false
  | .star i ts => match xs with
    | .Starred (.Name x _) _ :: xs => decide (c.N[i]? = some x) && locB c.sc x && okName x && (starIx ts).isNone && chkTs c ts xs
    | _ => false
end
/-! the slots that a target stores -/
mutual
def tgSl : Tg → List Nat
  | .na i => [i]
  | .tu ts => tgsSl ts
def tgsSl : Tgs → List Nat
  | .nil => []
  | .cons t ts => tgSl t ++ tgsSl ts
  | .star i ts => i :: tgsSl ts
end
def isPlain : Expr → Bool
  | .BoolOp _ _ _ => false
  | .UnaryOp .Not _ _ => false
  | .Compare _ _ _ _ => false
  | .IfExp _ _ _ _ => false
  | _ => true
def noSet : Expr → Bool
  | .Set _ _ _ => false
  | _ => true
def isCall0 : Expr → Bool
  | .Call (.Name _ _) [] [] _ => true
  | _ => false
def mkOwn (N : List Str) (own : List Nat) : List (Str × Nat) := own.map fun i => (N.getD i Str.empty, i)
def itPair (it : It) : Bool := match it with
  | .enm _ => true
  | .zip _ _ => true
  | _ => false
def isTup : Expr → Bool
  | .Tuple _ _ _ => true
  | _ => false
/-- a method's receiver, ahead of the arguments -/
def slfB (c : Ct) (sh : Sh) (m : Str) : Es → Bool
  | .cons (.slf nm m' _) _ => m' == m && decide (c.mts[sh.fn]? = some (nm, m)) && okName nm
  | _ => false
def siteB (c : Ct) (sh : Sh) (f : Str) : Bool := decide (c.fns[sh.fn]? = some f) || decide (c.nws[sh.fn]? = some f)
mutual
def chk (c : Ct) (e : E) (x : Expr) : Bool := match e with
  | .var i => match x with
    | .Name x _ => decide (c.N[i]? = some x) && visB c.sc x && okName x
    | _ => false
  | .con w => match x with
    | .Constant k _ _ => chkW w k
    | _ => false
  | .gl g => match x with
    | .Name x _ => decide (c.gls[g]? = some x) && glbB c.sc x && okName x
    | _ => false
  | .neg a => match x with
    | .UnaryOp .USub x _ => chk c a x
    | _ => false
  | .bin o a b => match x with
    | .BinOp x p y _ => isB o p && chk c a x && chk c b y
    | _ => false
  | .cmp o a b => match x with
    | .Compare x [p] [y] _ => isC o p && noNeg p y && chk c a x && chk c b y
    | _ => false
  | .ch o p a b d => match x with
    | .Compare x [q, r] [y, z] _ => isC o q && isC p r && noNeg r z && chk c a x && chk c b y && chk c d z
    | _ => false
  | .bo an bs => match x with
    | .BoolOp p xs _ => isBO an p && chkB c bs xs
    | _ => false
  | .nt a => match x with
    | .UnaryOp .Not x _ => chk c a x
    | _ => false
  | .ite t a b => match x with
    | .IfExp z x y _ => chkTt c t z && chk c a x && chk c b y
    | _ => false
  | .call h es ks => match x with
    | .Call (.Name f _) xs kws _ => (match c.shs[h]? with
      | some sh => siteB c sh f && glbB c.sc f && okName f && decide (kwNms kws = sh.ks.map some) && decide (xs.length = sh.np)
      | none => false) && chkN c es xs && chkN c ks (kwVals kws)
    | .Call (.Attribute o m p) xs kws q => (match c.shs[h]? with
      | some sh => slfB c sh m es && (p.endLine == q.line) && decide (xs.length + kws.length < 20) && !isCall0 o && decide (kwNms kws = sh.ks.map some) && decide (xs.length + 1 = sh.np)
      | none => false) && chkN c es (o :: xs) && chkN c ks (kwVals kws)
    | _ => false
  | .fld a f => match x with
    | .Attribute o g _ => g == f && !isCall0 o && chk c a o
    | _ => false
  | .slf _ _ a => !isComp x && chk c a x
  | .blo a => match x with
    | .Call f [y] [] _ => chkG c "bool" f && !isStar y && chk c a y
    | _ => false
  | .dun d h nm a => match x with
    | .Call f [y] [] _ => chkG c d.f f && (match c.shs[h]? with
      | some sh => decide (d = .bool) && decide (c.dns[sh.fn]? = some (nm, d.m)) && okName nm && sh.ks.isEmpty && sh.fill.isEmpty && decide (sh.np = 1)
      | none => false) && !isStar y && chk c a y
    | _ => false
  | .mk _ _ _ => false
  | .bi b es => match x with
    | .Call f (x :: xs) [] _ => chkG c (biNm b) f && chkN c es (x :: xs)
    | _ => false
  | .lset a => match x with
    | .Call f [.Call g [x] [] _] [] _ => chkG c "len" f && chkG c "set" g && !isStar x && chk c a x
    | _ => false
  | .me m o es => match x with
    | .Call (.Attribute x n p) (y :: ys) [] q => decide (n = meNm m) && (p.endLine == q.line) && decide (ys.length < 20) && !isCall0 x && chk c o x && chkN c es (y :: ys)
    | _ => false
  | .me0 m o => match x with
    | .Call (.Attribute x n p) [] [] q => decide (n = me0Nm m) && (p.endLine == q.line) && !isCall0 x && chk c o x
    | _ => false
  | .rev a => match x with
    | .Subscript x (.Slice none none (some (.UnaryOp .USub (.Constant (.int i) _ _) _)) _) _ => decide (i = 1) && chk c a x
    | _ => false
  | .isi a ty => match x with
    | .Call f [x, t] [] _ => chkG c "isinstance" f && !isStar x && chk c a x && chkG c (tyNm ty) t
    | _ => false
  | .isis a tys => match x with
    | .Call f [x, .Tuple ts _ _] [] _ => chkG c "isinstance" f && !isStar x && decide (0 < tys.length) && decide (tys.length ≤ 9) && chk c a x && chkTys c tys ts
    | _ => false
  | .tup es => match x with
    | .Tuple xs _ _ => chkS c es xs
    | _ => false
  | .lst es => match x with
    | .List xs _ => chkS c es xs
    | _ => false
  | .dic0 _ => match x with
    | .Dict [] [] _ => true
    | _ => false
  | .ix a b => match x with
    | .Subscript x y _ => !isSlice y && chk c a x && chk c b y
    | _ => false
  | .sl a lo hi => match x with
    | .Subscript x (.Slice l h none _) _ => chk c a x && chkO c lo l && chkO c hi h
    | _ => false
  | .comp e tg it cond own => match x with
    | .ListComp x [⟨tx, ix, ifs, 0⟩] sc _ => blkC c.N c.sc sc (mkOwn c.N own) && ((tgSl tg).all fun i => decide (i ∈ own)) && chkI c it ix && (!itPair it || isTup tx) && chkT { c with sc := sc } tg tx &&
        chkC { c with sc := sc } cond ifs && chk { c with sc := sc } e x
    | _ => false
/-- without stars -/
def chkN (c : Ct) (es : Es) (xs : List Expr) : Bool := match es with
  | .nil => match xs with
    | [] => true
    | _ => false
  | .cons e es => match xs with
    | x :: xs => !isStar x && chk c e x && chkN c es xs
    | _ => false
  | .star _ _ => false
/-- with stars -/
def chkS (c : Ct) (es : Es) (xs : List Expr) : Bool := match es with
  | .nil => match xs with
    | [] => true
    | _ => false
  | .cons e es => match xs with
    | x :: xs => !isStar x && chk c e x && chkS c es xs
    | _ => false
  | .star e es => match xs with
    | .Starred x _ :: xs => chk c e x && chkS c es xs
    | _ => false
def chkB (c : Ct) (bs : Eb) (xs : List Expr) : Bool := match bs with
  | .one e => match xs with
    | [x] => chk c e x
    | _ => false
  | .cons e bs => match xs with
    | x :: y :: xs => chk c e x && chkB c bs (y :: xs)
    | _ => false
def chkTt (c : Ct) (t : Tt) (x : Expr) : Bool := match t with
  | .val e => isPlain x && chk c e x
  | .bo an ts => match x with
    | .BoolOp p xs _ => isBO an p && chkTb c ts xs
    | _ => false
  | .nt t => match x with
    | .UnaryOp .Not x _ => chkTt c t x
    | _ => false
  | .cmp o a b => match x with
    | .Compare x [p] [y] _ => isC o p && noNeg p y && chk c a x && chk c b y
    | _ => false
  | .ch o p a b d => match x with
    | .Compare x [q, r] [y, z] _ => isC o q && isC p r && noNeg r z && chk c a x && chk c b y && chk c d z
    | _ => false
def chkTb (c : Ct) (ts : Tb) (xs : List Expr) : Bool := match ts with
  | .one t => match xs with
    | [x] => chkTt c t x
    | _ => false
  | .cons t ts => match xs with
    | x :: y :: xs => chkTt c t x && chkTb c ts (y :: xs)
    | _ => false
def chkC (c : Ct) (o : Ot) (xs : List Expr) : Bool := match o with
  | .no => match xs with
    | [] => true
    | _ => false
  | .so t => match xs with
    | [x] => chkTt c t x
    | _ => false
def chkO (c : Ct) (o : Oe) (x : Option Expr) : Bool := match o with
  | .no => match x with
    | none => true
    | _ => false
  | .so e => match x with
    | some x => chk c e x
    | _ => false
def chkI (c : Ct) (it : It) (x : Expr) : Bool := match it with
  | .seq e => noSet x && chk c e x
  | .rng e => match x with
    | .Call f [x] [] _ => chkG c "range" f && !isStar x && chk c e x
    | _ => false
  | .rng2 a b => match x with
    | .Call f [x, y] [] _ => chkG c "range" f && !isStar x && !isStar y && chk c a x && chk c b y
    | _ => false
  | .enm e => match x with
    | .Call f [x] [] _ => chkG c "enumerate" f && !isStar x && chk c e x
    | _ => false
  | .zip _ _ => false
end
end SF
set_option Elab.async false
set_option linter.all false
set_option maxRecDepth 100000
set_option maxHeartbeats 4000000
/-! # A generator def's first item, and `for x in g(..): break` (own work) -/
namespace L2
open PySem PySem.Spec PyProof.Rows GenW

section
variable {prog : Program} {w : World} {A : Around} {R : GenEnd} {Y : Protocol} {n : Nat} {s₀ : Shared} {fs : List Frame} {s : Shared} {env : Env}
/-- what the loop's code does with an exception -/
abbrev noted1 (env : Env) (x : Value) : Sem PySem.Fin := (do noteFrame x env; theTreesLotGoes x : Sem Unit).bind fun _ => .raise x
/-- a turn of a for loop in a generator -/
theorem seg_forLoop {target : Expr} {it : Value} {body : List Stmt}
    (h : wpAny (model prog w) (A.over (.forLoop target it body [] env) fs) (pyNext it) (fun r s1 => match r with
        | none => Seg (model prog w) A R Y n s₀ (.forLoop target it body [] env) (.pure (.again (.block [] env))) fs s1
        | some v => wpAny (model prog w) (A.over (.forLoop target it body [] env) fs) (letOwnedTupleGo target it v) (fun _ s2 => wpAny (model prog w) (A.over (.forLoop target it body [] env) fs) (assign target env v) (fun _ s3 =>
            Seg (model prog w) A R Y n s₀ (.forLoop target it body [] env) ((execs body env).wrap (fun f => match f with
              | .next | .cont => .pure (.again (.forLoop target it body [] env))
              | .brk => .pure (.done .next)
              | .ret v => .pure (.done (.ret v))) (noted1 env) id id) fs s3)
            (fun x s' => Seg (model prog w) A R Y n s₀ (.forLoop target it body [] env) (noted1 env x) fs s') s2)
          (fun x s' => Seg (model prog w) A R Y n s₀ (.forLoop target it body [] env) (noted1 env x) fs s') s1)
      (fun x s' => Seg (model prog w) A R Y n s₀ (.forLoop target it body [] env) (noted1 env x) fs s') s) :
    Seg (model prog w) A R Y n s₀ (.forLoop target it body [] env) ((model prog w).den (.forLoop target it body [] env)) fs s := by
  show Seg _ A R Y n s₀ _ ((forTurn target it body [] env).onRaise (fun x => do noteFrame x env; theTreesLotGoes x)) fs s
  unfold forTurn
  rw [Sem.onRaise_eq_wrap]
  refine seg_bind_wrap (wpAny_standAt ?_)
  refine seg_bind_wrap (wpAny_onRaise (wpAny_mono h (fun r s1 h1 => ?_) fun x s' hx => wpAny_standAt hx))
  cases r with
  | none => exact h1
  | some v =>
    refine seg_bind_wrap (wpAny_mono h1 (fun _ s2 h2 => ?_) fun x s' hx => hx)
    refine seg_bind_wrap (wpAny_mono h2 (fun _ s3 h3 => ?_) fun x s' hx => hx)
    rw [Sem.bind_eq_wrap', Sem.wrap_wrap]
    have key : ∀ t : Sem PySem.Fin, t = ((execs body env).wrap (fun f => match f with
              | .next | .cont => .pure (.again (.forLoop target it body [] env))
              | .brk => .pure (.done .next)
              | .ret v => .pure (.done (.ret v))) (noted1 env) id id) → Seg (model prog w) A R Y n s₀ (.forLoop target it body [] env) t fs s3 := fun t e => by rw [e]; exact h3
    exact key _ (Sem.wrap_congr (execs body env) _ _ (fun f => by cases f <;> rfl) (fun e => rfl))
end

/-- what a generator's body does up to its first item: Q none at its end, Q (some x) where x is handed out -/
abbrev TG1 := (Option V → Hp → Prop) → L2.St → Hp → Prop
structure G1 (X : Cx) (st : List Stmt) (t : TG1) : Prop where
  run : ∀ (A : Around) (R : GenEnd) (Y : Protocol) (s₀ : Shared) (c : Code) (fs : List Frame) (K : Flow → Sem PySem.Fin) (J : Value → Sem PySem.Fin) (gd : Bool → Bool) (lv : List Value → List Value) (s : Shared) (σ : L2.St) (H : Hp) (Q : Option V → Hp → Prop),
    A.over c fs = X.A → splitAtGen fs = none → fs.any Frame.guarded = false → gd false = false →
    (∀ s' σ' H', Inv X [] σ' H' s' → Q none H' → Seg (model X.prog X.w) A R Y 1 s₀ c (K .next) fs s') →
    (∀ e s', X.xe e s' → Seg (model X.prog X.w) A R Y 1 s₀ c (J e) fs s') →
    (∀ v x σ' H' s' kap, Inv X [] σ' H' s' → RelV x v → Q (some x) H' → Y 0 s₀ v s' kap) →
    Inv X [] σ H s → t Q σ H → Seg (model X.prog X.w) A R Y 1 s₀ c ((execs st X.env).wrap K J gd lv) fs s
section
variable {X : Cx}
theorem g1_imp {st : List Stmt} {t t' : TG1} (h : G1 X st t) (i : ∀ Q σ H, t' Q σ H → t Q σ H) : G1 X st t' :=
  ⟨fun A R Y s₀ c fs K J gd lv s σ H Q a1 a2 a3 a4 a5 a6 a7 I q => h.run A R Y s₀ c fs K J gd lv s σ H Q a1 a2 a3 a4 a5 a6 a7 I (i Q σ H q)⟩
theorem g1_cons {st : Stmt} {rest : List Stmt} {t : TS} {u : TG1} (h : PS X st t) (hr : G1 X rest u) :
    G1 X (st :: rest) (fun Q σ H => t { nx := fun σ' H' => u Q σ' H', rt := fun _ _ => False, bk := fun _ _ => False, ct := fun _ _ => False } σ H) := by
  refine ⟨fun A R Y s₀ c fs K J gd lv s σ H Q ho hsp hfg hgd hK hJ hY I ht => ?_⟩
  refine seg_execs_cons (seg_wrap ?_)
  rw [ho]
  refine wpAny_mono (h.run [] s σ H _ I ht) (fun f s' hs => ?_) fun x s' hx => hJ x s' hx
  cases f with
  | next =>
    obtain ⟨σ', H', I', q⟩ := hs
    exact hr.run A R Y s₀ c fs K J gd lv s' σ' H' Q ho hsp hfg hgd hK hJ hY I' q
  | brk => obtain ⟨_, _, _, q⟩ := hs; exact q.elim
  | cont => obtain ⟨_, _, _, q⟩ := hs; exact q.elim
  | ret u => obtain ⟨_, _, _, _, _, q⟩ := hs; exact q.elim
theorem seg_cameBack1 {A : Around} {R : GenEnd} {Y : Protocol} {c : Code} {fs : List Frame} {K : Flow → Sem PySem.Fin} {J : Value → Sem PySem.Fin} {gd : Bool → Bool} {lv : List Value → List Value} {n : Nat} {s₀ s : Shared} {e : Value}
    (ho : A.over c fs = X.A) (hJ : ∀ e s', X.xe e s' → Seg (model X.prog X.w) A R Y n s₀ c (J e) fs s') (h : cameBackBy (model X.prog X.w) X.A X.env X.xe e s) :
    Seg (model X.prog X.w) A R Y n s₀ c (((Sem.raise e : Sem Flow).onRaise (cameBack X.env)).wrap K J gd lv) fs s := by
  show Seg _ _ _ _ _ _ _ (((cameBack X.env e).bind fun _ => (Sem.raise e : Sem Flow)).wrap K J gd lv) _ _
  rw [Sem.bind_eq_wrap, Sem.wrap_wrap]
  refine seg_wrap ?_
  rw [ho]
  exact wpAny_mono h (fun _ s' hx => hJ e s' hx) fun x s' hx => hJ x s' hx
/-- for t in it: yield e, up to the first item -/
theorem g1_for {tg iter e : Expr} {wi : TI} {g : TG} {te : TE} {yp pos pos2 : Pos} (hp : PassesOwn (model X.prog X.w) X.A X.env X.xe) (hc : X.calm = true) (hi : PI X tg iter wi) (hg : PG X tg g) (he : PE X e te)
    (hco : X.env.scope.isCoroutine = false) (hs : ∀ x, foldedSetIterable iter X.env x = pure x) (hia : interactive X.env = false) :
    G1 X [.For tg iter [.Expr (.Yield (some e) yp) pos2] [] pos] (fun Q σ H => wi σ H fun J H1 => (J.stop 0 H1 ∧ Q none H1) ∨ (J.go 0 H1 ∧ ∀ x H2, J.yld 0 H1 x H2 → g x σ H2 fun σ3 H3 => te σ3 H3 fun y H4 => Q (some y) H4)) := by
  refine ⟨fun A R Y s₀ c fs K J gd lv s σ H Q ho hsp hfg hgd hK hJ hY I h => ?_⟩
  refine seg_execs_cons ?_
  rw [exec_For]
  refine seg_bind_wrap (wpAny_standAt ?_)
  refine seg_bind_wrap ?_
  rw [ho]
  refine wpAny_mono (hi.run [] s σ H _ I h) (fun v s1 h1 => ?_) fun x s' hx => hJ x s' hx
  refine seg_bind_wrap (wpAny_of_eq (hs v) ?_)
  refine seg_bind_wrap (wpAny_standAt ?_)
  refine seg_bind_wrap (wpAny_holding ?_)
  rw [ho]
  refine wpAny_mono h1 (fun itv s2 h2 => ?_) fun x s' hx => hJ x s' hx
  obtain ⟨it, fp, tn, Jt, H2, rfl, I2, T, st2, f2, q⟩ := h2
  refine seg_call fun p => ?_
  have ho2 : ∀ (k : Result → Sem PySem.Fin), A.over (.forLoop tg (.ref it) [.Expr (.Yield (some e) yp) pos2] [] X.env) (.ret k none (gd false) (lv []) c p [] :: fs) = X.A := fun k => (over_loop rfl rfl).trans ho
  have ee : ∀ (x : Value) (s' : Shared), X.xe x s' → Seg (model X.prog X.w) A R Y 1 s₀ (.forLoop tg (.ref it) [.Expr (.Yield (some e) yp) pos2] [] X.env) (noted1 X.env x)
      (.ret (fun r => ((match r with | .ok f => (.pure f : Sem Flow) | .error e => .raise e).onRaise (cameBack X.env)).wrap (fun f : Flow => match f with | .next => (execs [] X.env).wrap K J gd lv | f => K f) J gd lv) none (gd false) (lv []) c p [] :: fs) s' := fun x s' hx => by
    show Seg _ _ _ _ _ _ _ ((do noteFrame x X.env; theTreesLotGoes x : Sem Unit).bind fun _ => .raise x) _ _
    rw [Sem.bind_eq_wrap]
    refine seg_wrap ?_
    rw [ho2]
    refine wpAny_bind (wpAny_mono (hp x s' hx) (fun _ s'' hcb => wpAny_theTreesLotGoes ?_) fun y s'' hcb => ?_)
    · exact seg_leaf (.error x) (seg_cameBack1 ho hJ hcb)
    · exact seg_leaf (.error y) (seg_cameBack1 ho hJ hcb)
  refine seg_forLoop ?_
  rw [ho2]
  rcases q with ⟨stop, qn⟩ | ⟨go, step⟩
  · refine wpAny_mono (T.done X rfl rfl rfl hc 0 [] s2 σ H2 X.xe I2 f2 st2 stop) (fun r s3 ⟨hr, I3⟩ => ?_) fun x s' hx => ee x s' hx
    subst hr
    refine seg_again rfl ?_
    exact seg_leaf (.ok .next) (hK s3 σ H2 I3 qn)
  · refine wpAny_mono (T.item X rfl rfl rfl hc 0 [] s2 σ H2 X.xe I2 f2 st2 go) (fun r s3 ⟨u, hr, h4⟩ => ?_) fun x s' hx => ee x s' hx
    subst hr
    refine wpAny_mono h4 (fun _ s5 ⟨x, H5, I5, r5, y5, st5, fr5⟩ => ?_) fun x s' hx => ee x s' hx
    refine wpAny_mono (hg.run [] s5 σ H5 x u _ I5 r5 (step x H5 y5)) (fun _ s6 ⟨σ6, H6, I6, q6⟩ => ?_) fun x s' hx => ee x s' hx
    refine seg_execs_cons ?_
    refine seg_Expr_Yield (n := 0) ?_ rfl ?_ ?_ hco hia
    · show (splitAtGen fs).map _ = none
      rw [hsp]; rfl
    · show (gd false || fs.any Frame.guarded) = false
      rw [hgd, hfg]; rfl
    · rw [ho2]
      refine wpAny_mono (he.run [] s6 σ6 H6 _ I6 q6) (fun v s7 ⟨y, H7, I7, r7, q7⟩ => ?_) fun x s' hx => ee x s' hx
      exact fun kap _ => hY v y σ6 H7 s7 kap I7 r7 q7
end

/-! ### the def -/
def REnd1 (P : Program) (w : World) (outer : List Env) (H : Hp) (s : Shared) (a : Addr) (g : Nat) (Q : Option V → Hp → Prop) (E : XK) : GenEnd := fun n s₀ r s1 =>
  ((r = .ok (.ret .none) ∨ r = .ok .next) ∧ ∃ H', s1.os = s.os ∧ AllBare s1.gens ∧ Un (frs outer) [] H H' s.heap s1.heap ∧ HOk P w H' s1.heap ∧ Q none H') ∨
  ∃ e, r = .error e ∧ CX P w outer H s E e s1 ∧ s1.heap.IsGen a g
def YItem1 (P : Program) (w : World) (outer : List Env) (H : Hp) (s : Shared) (a : Addr) (g : Nat) (Q : Option V → Hp → Prop) : Protocol := fun n s₀ v s1 kap =>
  ∃ x H', s1.os = s.os ∧ AllBare s1.gens ∧ Un (frs outer) [] H H' s.heap s1.heap ∧ HOk P w H' s1.heap ∧ s1.heap.IsGen a g ∧ RelV x v ∧ Q (some x) H'
/-- room where a generator is woken -/
structure RoomW (k : Nat) (A : Around) : Prop where
  hd : A.handled = none
  dp : A.depth + 3 * k + 5 < recursionLimit
  un : A.units + 16 * k + 199 < cLine
theorem RoomW.deeper {k : Nat} {A : Around} (r : RoomW (k + 1) A) (env : Env) : Room k (A.deeper env) :=
  ⟨r.hd, by have := r.dp; show A.depth + 1 + 3 * k + 5 < _; omega, by have := r.un; show A.units + 3 + 16 * k + 200 < _; omega⟩
theorem Room.in1w {k : Nat} {A : Around} (r : Room k A) : RoomW k A.in1 :=
  ⟨r.hd, by have := r.dp; show A.depth + 3 * k + 5 < _; omega, by have := r.un; show A.units + 1 + 16 * k + 199 < _; omega⟩
/-- what a call of a generator def gives: a generator that has not begun -/
def GMade1 (P : Program) (w : World) (k : Nat) (outer : List Env) (H : Hp) (s : Shared) (Q : Option V → Hp → Prop) (E : XK) (u : Value) (s' : Shared) : Prop :=
  ∃ (a : Addr) (g : Nat) (c : Code), u = .ref a ∧ s.heap.objs.size ≤ a ∧ s'.heap.IsGen a g ∧ s'.gens[g]? = some (.fresh c) ∧ s'.os = s.os ∧ AllBare s'.gens ∧ s'.heap.NoLimit ∧ (∀ b o, s.heap.get? b = some o → s'.heap.get? b = some o) ∧
    ∀ (A : Around) (s2 : Shared), RoomW k A → A.frames = some outer → (∀ b o, s'.heap.get? b = some o → s2.heap.get? b = some o) → s2.os = s.os → AllBare s2.gens →
      Seg (model P w) A (REnd1 P w outer H s a g Q E) (YItem1 P w outer H s a g Q) 1 s2 c ((model P w).den c) [] s2
abbrev SpG1 := List V → Hp → (Option V → Hp → Prop) → XK → Prop
structure GFn1 (P : Program) (w : World) (K : PySem.W.Frag) (mg : Str → Option Value) (base : Heap) (k : Nat) (f : Addr) (fd : FuncData) (ps : List Str) (sp : SpG1) : Prop where
  len : ∀ vs H Q E, sp vs H Q E → vs.length = ps.length
  run : ∀ (A : Around) (outer : List Env) (s : Shared) (H : Hp) (args : Args) (us : List Value) (vs : List V) (Q : Option V → Hp → Prop) (E : XK), Room k A → Env0 P w K mg base A outer s H → BindsTo s fd args (ps.zip us) → Vals vs us → sp vs H Q E →
    codeAny (model P w) A (.call (.ref f) args) (fun r s' => match r with | .ok (.ret u) => GMade1 P w k outer H s Q E u s' | _ => False) s

/-- THE RULE: a generator def's first item, by its body -/
theorem gfn1_of {P : Program} {w : World} {K : PySem.W.Frag} {mg : Str → Option Value} {base : Heap} {k : Nat} {f : Addr} {name qual : Str} {params : Arguments} {body : List Stmt} {scope : Scope} {dV kV doc pm cdv ct oc : Value} {an od : Option Addr}
    {osl : Array (Option Value)} {N ps : List Str} {sp : SpG1} (lk : K.lookup f = some ⟨oc, od, .func (PySem.W.fnOf name qual params body scope dV kV doc pm an cdv ct), osl⟩) (hcd : PySem.W.codeIn K cdv qual = true) (S : GScope N ps scope)
    (len : ∀ vs H Q E, sp vs H Q E → vs.length = ps.length)
    (hbody : ∀ (A : Around) (outer : List Env) (s : Shared) (H : Hp) (vs : List V) (Q : Option V → Hp → Prop) (E : XK) (pn : List (Addr × Obj)), Room k (A.deeper (envOfC qual scope s.heap.objs.size f cdv)) → sp vs H Q E →
      ∃ t, G1 (gcxOf P w K mg base N qual scope f cdv A outer s H E pn) body t ∧ t Q (start N vs) H) :
    GFn1 P w K mg base (k + 1) f (PySem.W.fnOf name qual params body scope dV kV doc pm an cdv ct) ps sp := by
  refine ⟨len, fun A outer s H args us vs Q E hr e0 hb r hsp => ?_⟩
  have hl := len _ _ _ _ hsp
  have KX : K.In s.heap := e0.mod.kin.keeps fun b o e => (e0.bs b o e).1
  have lim : s.heap.NoLimit := e0.mod.nolimit.keeps fun b o e => (e0.bs b o e).1
  have hkind : ∀ y ∈ ps.zip us, scope.names.lookup y.1 = some .local ∨ (scope.names.lookup y.1 = some .cell ∧ ((cellsFrom (s.heap.objs.size + 1) scope.names []).lookup y.1).isSome = true) := fun ⟨n, v⟩ hy => by
    rcases S.par n (List.of_mem_zip hy).1 with q | q
    · exact .inl q
    · exact .inr ⟨q, PySem.W.cellsFrom_some _ _ _ (.inl q)⟩
  refine codeAny_call_generator hr.depth (KX _ _ lk) rfl S.co S.gen rfl (PySem.W.codeRec_of KX hcd) (hb _ _ _ _ ?_)
  refine wpAny_newFunctionEnv_cells S.kind hkind fun env he s1 x => ?_
  subst he
  have lim1 : s1.heap.NoLimit := lim.keeps x.toInCall.keep
  refine ⟨lim1, ?_⟩
  obtain ⟨h1, tk, es1, hk1⟩ := x.done
  have os1 : s1.os = s.os := by rw [es1]
  have gen1 : s1.gens = s.gens := by rw [es1]
  have lt1 : s.heap.objs.size < s1.heap.objs.size := x.toInCall.ns.lt
  have sz1 : s.heap.objs.size ≤ s1.heap.objs.size := Nat.le_of_lt lt1
  have kp1 : ∀ b o, s.heap.get? b = some o → s1.heap.get? b = some o := x.toInCall.keep
  have main : ∀ (go : Obj) (nm qn : Value) (tk2 : Nat), go.cls = .type "generator" → go.data = .fields #[.int s1.gens.size 0, nm, qn] → go.slots = #[] → (∀ h : Heap, (h.push go).get? h.objs.size = some go) →
      GMade1 P w (k + 1) outer H s Q E (.ref s1.heap.objs.size) { s1 with gens := s1.gens.push (.fresh (.func body (envOfC qual scope s.heap.objs.size f cdv))), toks := tk2, heap := s1.heap.push go } := by
    intro go nm qn tk2 hgc hgd0 hgs hgp
    have hgen : ∀ h : Heap, h.get? s1.heap.objs.size = some go → h.IsGen s1.heap.objs.size s1.gens.size := fun h e => ⟨go, nm, qn, e, hgc, hgd0, hgs⟩
    have hpushed : (s1.heap.push go).get? s1.heap.objs.size = some go := hgp _
    refine ⟨s1.heap.objs.size, s1.gens.size, _, rfl, sz1, hgen _ hpushed, Array.getElem?_push_size .., os1, ?_, lim1.keeps fun b o e => Heap.get?_push_of_some _ e, fun b o e => Heap.get?_push_of_some _ (kp1 b o e), ?_⟩
    · exact AllBare.push (by rw [gen1]; exact e0.bare) rfl
    intro Aw s2 hrw hfr hk2 hos hba
    have e0w : Env0 P w K mg base Aw outer s H := ⟨hfr, e0.mod, e0.bs, e0.bsz, e0.funs, e0.frf, e0.hok, e0.bare⟩
    obtain ⟨t, ht, hq⟩ := hbody Aw outer s H vs Q E [(s1.heap.objs.size, go)] (hrw.deeper _) hsp
    have I1 : Inv (gcxOf P w K mg base N qual scope f cdv Aw outer s H E []) [] (start N vs) H s1 := inv_startG S hrw.hd e0w hl r x
    have kp2 : ∀ b o, s1.heap.get? b = some o → s2.heap.get? b = some o := fun b o e => hk2 b o (Heap.get?_push_of_some _ e)
    have I2 : Inv (gcxOf P w K mg base N qual scope f cdv Aw outer s H E []) [] (start N vs) H s2 :=
      I1.call' (ch := []) (hos.trans os1.symm) (Un.kept kp2) (I1.hok.kept kp2) hba fun b z => by simp at z
    have hea : s2.heap.get? s1.heap.objs.size = some go := hk2 s1.heap.objs.size go hpushed
    have hgd : ∀ v, go.data ≠ .cell v := fun v q => by rw [hgd0] at q; cases q
    have I3 : Inv (gcxOf P w K mg base N qual scope f cdv Aw outer s H E [(s1.heap.objs.size, go)]) [] (start N vs) H s2 := by
      refine Inv.pinnedG I2 fun p hp => ?_
      rw [List.append_nil] at hp
      rw [List.mem_singleton.mp hp]
      exact ⟨hea, I1.hok.fresh (Nat.le_refl _), Nat.ne_of_gt lt1, I1.nofs (Nat.le_refl _), hgd⟩
    have pinned : ∀ {s' : Shared} {σ' : L2.St} {H' : Hp}, Inv (gcxOf P w K mg base N qual scope f cdv Aw outer s H E [(s1.heap.objs.size, go)]) [] σ' H' s' → s'.heap.IsGen s1.heap.objs.size s1.gens.size := fun {s' σ' H'} J =>
      hgen _ (J.pin (s1.heap.objs.size, go) (List.mem_append_left _ (List.mem_singleton.mpr rfl))).1
    refine seg_func ?_
    refine ht.run Aw _ _ s2 _ [] _ _ id id s2 (start N vs) H Q over_func rfl rfl rfl (fun s' σ' H' J hQ => ?_) (fun e s' hx => ?_) (fun v y σ' H' s' kap J rv hQ => ?_) I3 hq
    · exact seg_end (.ok (.ret .none)) (.inl ⟨.inl rfl, H', J.os, J.bare, J.base, J.hok, hQ⟩)
    · refine seg_wrap ?_
      rw [over_func]
      refine wpAny_mono (show wpAny (model P w) (Aw.deeper (envOfC qual scope s.heap.objs.size f cdv)) (leaving (envOfC qual scope s.heap.objs.size f cdv) e) (fun _ s'' => CX P w outer H s E e s'' ∧ ∀ p ∈ [(s1.heap.objs.size, go)], s''.heap.get? p.1 = some p.2) (fun _ _ => False) s' from hx) (fun _ s'' q => ?_) fun _ s'' q => q.elim
      exact seg_end (.error e) (.inr ⟨e, rfl, q.1, hgen _ (q.2 (s1.heap.objs.size, go) (List.mem_singleton.mpr rfl))⟩)
    · exact ⟨y, H', J.os, J.bare, J.base, J.hok, pinned J, rv, hQ⟩
  exact main _ _ _ _ rfl rfl rfl fun h => Heap.get?_push_size _ rfl

/-! ### for x in g(..): break -/
/-- an expression whose value is a generator that has not begun -/
abbrev TGen1 := L2.St → Hp → (Option V → Hp → Prop) → Prop
structure PGen1 (X : Cx) (k : Nat) (e : Expr) (tg : TGen1) (E : L2.St → XK) : Prop where
  run : ∀ (pins : List (Addr × Obj)) (s : Shared) (σ : L2.St) (H : Hp) (Q : Option V → Hp → Prop), Inv X pins σ H s → tg σ H Q → wpAny (model X.prog X.w) X.A (eval e X.env)
    (fun u s' => ∃ H1 sc, Inv X pins σ H1 sc ∧ GMade1 X.prog X.w k X.stack H1 sc Q (E σ) u s') X.xe s
theorem ps_gb1 {X : Cx} {k : Nat} {tg iter : Expr} {g : TG} {tn : TGen1} {E : L2.St → XK} {pos bp : Pos} (hp : PassesOwn (model X.prog X.w) X.A X.env X.xe) (hc : X.calm = true) (hi : PGen1 X k iter tn E) (hx : ∀ σ, PassesAt (CX X.prog X.w) X σ (E σ)) (hns : ∀ σ, NoStop X.K (E σ)) (hr : Room k X.A) (hg : PG X tg g)
    (hs : ∀ x, foldedSetIterable iter X.env x = pure x := by intro _; rfl) :
    PS X (.For tg iter [.Break bp] [] pos) (fun D σ H => tn σ H fun o H1 => match o with | none => D.nx σ H1 | some x => g x σ H1 D.nx) := by
  refine ⟨fun pins s σ H D I h => ?_⟩
  refine wpAny_For (thn (hi.run pins s σ H _ I h) fun u s1 ⟨H1, sc, I1, hG⟩ => ?_) hs
  obtain ⟨a, gn, c, rfl, ha1, hgen, hgs, hos, hb, hl, hkp, wake⟩ := hG
  refine wpAny_pyIter_gen hgen ?_
  refine codeAny_forLoop_any (fun n s' => n = 0 ∧ s' = s1) ?_ 0 ⟨rfl, rfl⟩
  rintro n s' ⟨rfl, rfl⟩
  have kin : ∀ {e : Value} {s' : Shared}, CX X.prog X.w X.stack H1 sc (E σ) e s' → X.K.In s'.heap := fun {e s'} hcx => by
    obtain ⟨a, B, H', cls, d, _, fl, _, ub, _⟩ := id hcx
    refine I1.ok.mod.kin.keeps fun b o eb => fl.1 b o (ub.keep b o (I1.bs b o eb).1 (I1.bs b o eb).2 fun hm => ?_)
    rcases List.mem_cons.mp (I1.stkSub b hm) with z | z
    · have h1 := Heap.lt_size eb
      have h2 := Nat.le_trans I1.ok.bsz I1.ok.above
      rw [z] at h1
      exact absurd (Nat.lt_of_lt_of_le h1 h2) (Nat.lt_irrefl _)
    · exact I1.ok.nofr eb z
  refine wpAny_passesOwn hp (next_genG (n := 1) (I1.ok.hd hc) hl hr.depth hgen hgs (F := fun n s₀ s1 => ∃ H', s1.os = sc.os ∧ AllBare s1.gens ∧ Un (frs X.stack) [] H1 H' sc.heap s1.heap ∧ HOk X.prog X.w H' s1.heap ∧ _)
    (Er := fun e s1 => CX X.prog X.w X.stack H1 sc (E σ) e s1 ∧ s1.heap.IsGen a gn) ⟨rfl, wake X.A.in1 _ ?_ ?_ ?_ ?_ ?_⟩ (fun v s2 gs' hbare hv => ?_) (fun s2 hf h' hk => ?_) fun e s2 he => ?_)
  · exact hr.in1w
  · exact I1.ok.frames
  · exact fun b o e => e
  · exact hos
  · exact allBare_setGen hb rfl
  · obtain ⟨x, H', q1, q2, q3, q4, q5, q6, q7⟩ := hv
    obtain ⟨o, nm, qn, ho, hcl, hd, hsl⟩ := q5
    refine go_of (s := s2.setGen gn gs') ho hcl hd (by decide) ?_
    have I2 : Inv X pins σ H' (s2.setGen gn gs') := I1.call' (ch := []) q1 q3 q4 (allBare_setGen q2 hbare) fun b z => by simp at z
    refine wpAny_passesOwn hp (thn (hg.run pins _ σ H' x v _ I2 q6 q7) fun _ s3 ⟨σ3, H3, I3, q⟩ => ?_)
    exact wpAny_execs_cons (wpAny_Break ⟨σ3, H3, I3, q⟩)
  · obtain ⟨H', q1, q2, q3, q4, q5⟩ := hf
    have I2 : Inv X pins σ H' { s2.setGen gn .finished with heap := h' } := I1.call' (ch := []) q1 (q3.trans (Un.kept hk)) (q4.kept hk) (allBare_setGen q2 rfl) fun b z => by simp at z
    exact wpAny_execs_nil ⟨σ, H', I2, q5⟩
  · obtain ⟨hcx, hg2⟩ := he
    refine ⟨hg2, notStop_of (hns σ) (kin hcx) hcx, hx σ pins H1 sc e _ I1 ?_⟩
    obtain ⟨a, B, H', cls, d, z1, fl, z2, ub, z3, z4, z5, z6⟩ := hcx
    exact ⟨a, B, H', cls, d, z1, fl, z2, ub, z3, z4, allBare_setGen z5 rfl, z6⟩
end L2
set_option Elab.async false
set_option linter.all false
set_option maxRecDepth 100000
set_option maxHeartbeats 4000000
namespace SF
open PySem L2
/-! # 6. Expressions: the model does what the small language says -/
/-- what a result asks of the heap behind it -/
def ResG {α β : Type} (Z : Zx) (T : PySem.W.Frag → List Addr → Hp → α → β → Prop) (L : List Addr) (H : Hp) (r : R α) (Q : β → Hp → Prop) (E : XK) : Prop := match r with
  | .ok a S' => ∀ L' H' b, Ex Z.K L H L' H' → Rl Z.K L' H' S' → T Z.K L' H' a b → Q b H'
  | .ex x S' => ∀ L' H' c d, Ex Z.K L H L' H' → Rl Z.K L' H' S' → RX Z L' H' x c d → E c d H'
  | .st => False
def TW : PySem.W.Frag → List Addr → Hp → W → V → Prop := fun K L H w v => RW K L H w v
def TWs : PySem.W.Frag → List Addr → Hp → List W → List V → Prop := fun K L H w v => RWs K L H w v
def TEq {α : Type} : PySem.W.Frag → List Addr → Hp → α → α → Prop := fun _ _ _ a b => b = a
/-- a def's promise: what the small language's function of that number does, so many calls deep -/
def spF (Z : Zx) (P : Pg) (k i : Nat) : Sp := fun vs H Q E => ∃ L S ws fn, Rl Z.K L H S ∧ RWs Z.K L H ws vs ∧ P.fns[i]? = some fn ∧ vs.length = fn.np ∧ ResG Z TW L H (runF P k i ws S) Q E
/-- a call site's def, and how its arguments come to the parameters -/
def CallF (prog : Program) (w : World) (base : Heap) (Z : Zx) (P : Pg) (k : Nat) (c : Ct) : Prop := ∀ (h : Nat) (sh : Sh) (x : Str), P.shs[h]? = some sh → c.fns[sh.fn]? = some x → x ≠ ("" : Str) →
  ∃ (f : Addr) (fd : FuncData) (ps : List Str) (g : List Value → List Value → List Value) (gV : List V → List V → List V), Z.mg x = some (.ref f) ∧ PySem.W.keepIn Z.K (.ref f) = true ∧
    FnOk prog w Z.K Z.mg base (L2.CX prog w) k f fd ps (spF Z P k sh.fn) ∧ KBinds Z.K fd ps sh.ks g gV ∧
    (∀ L H ws zs vs us xs, RWs Z.K L H ws vs → RWs Z.K L H zs us → ws.length = sh.np ∧ zs.length = sh.ks.length → fillA ws zs sh.fill = some xs → RWs Z.K L H xs (gV vs us)) ∧ ∃ fn, P.fns[sh.fn]? = some fn ∧ fn.np = ps.length
/-- what a generator's first item asks of the heap behind it -/
def ResGo (Z : Zx) (L : List Addr) (H : Hp) (r : R W) (Q : Option V → Hp → Prop) (E : XK) : Prop := match r with
  | .ok w S' => match gbW w with
    | some (some w) => ∀ L' H' b, Ex Z.K L H L' H' → Rl Z.K L' H' S' → RW Z.K L' H' w b → Q (some b) H'
    | some none => ∀ L' H', Ex Z.K L H L' H' → Rl Z.K L' H' S' → Q none H'
    | none => False
  | .ex x S' => ∀ L' H' c d, Ex Z.K L H L' H' → Rl Z.K L' H' S' → RX Z L' H' x c d → E c d H'
  | .st => False
def spG (Z : Zx) (P : Pg) (k i : Nat) : SpG1 := fun vs H Q E => ∃ L S ws fn, Rl Z.K L H S ∧ RWs Z.K L H ws vs ∧ P.fns[i]? = some fn ∧ vs.length = fn.np ∧ ResGo Z L H (runF P k i ws S) Q E
def GenF (prog : Program) (w : World) (base : Heap) (Z : Zx) (P : Pg) (k : Nat) (c : Ct) : Prop := ∀ (h : Nat) (sh : Sh) (x : Str), P.shs[h]? = some sh → c.gfs[sh.fn]? = some x → x ≠ ("" : Str) →
  ∃ (f : Addr) (fd : FuncData) (ps : List Str) (g : List Value → List Value → List Value) (gV : List V → List V → List V), Z.mg x = some (.ref f) ∧ PySem.W.keepIn Z.K (.ref f) = true ∧
    GFn1 prog w Z.K Z.mg base k f fd ps (spG Z P k sh.fn) ∧ KBinds Z.K fd ps sh.ks g gV ∧
    (∀ L H ws zs vs us xs, RWs Z.K L H ws vs → RWs Z.K L H zs us → ws.length = sh.np ∧ zs.length = sh.ks.length → fillA ws zs sh.fill = some xs → RWs Z.K L H xs (gV vs us)) ∧ ∃ fn, P.fns[sh.fn]? = some fn ∧ fn.np = ps.length
/-- __init__ of an own class: self and its dict are new; what the small language's function gives back stands there behind it -/
def spI (Z : Zx) (P : Pg) (k i : Nat) (C : Addr) : Sp := fun vs H Q E => ∃ (a dx : Addr) (vs' : List V) (L : List Addr) (H0 : Hp) (S : Sg) (ws : List W) (fn : Fn), vs = .ref a :: vs' ∧ H0 a = none ∧ H0 dx = none ∧ dx ≠ a ∧
  H = upd (upd H0 dx (.own a)) a (.ins C dx []) ∧ Rl Z.K L H0 S ∧ RWs Z.K L H0 ws vs' ∧ P.fns[i]? = some fn ∧ vs'.length = fn.np ∧ ResG Z TW L H0 (runF P k i ws S) (fun v H2 => v = .ref a → Q .non H2) E
def FillOk (Z : Zx) (sh : Sh) (gV : List V → List V → List V) : Prop := ∀ L H ws zs vs us xs, RWs Z.K L H ws vs → RWs Z.K L H zs us → ws.length = sh.np ∧ zs.length = sh.ks.length → fillA ws zs sh.fill = some xs → RWs Z.K L H xs (gV vs us)
/-- a class that is made -/
def NewF (prog : Program) (w : World) (base : Heap) (Z : Zx) (P : Pg) (n : Nat) (c : Ct) : Prop := ∀ (h : Nat) (sh : Sh) (x : Str), P.shs[h]? = some sh → c.nws[sh.fn]? = some x → x ≠ ("" : Str) →
  ∃ (C f : Addr) (fd : FuncData) (ps : List Str) (g : List Value → List Value → List Value) (gV : List V → List V → List V), Z.mg x = some (.ref C) ∧ Mk Z.K C f ∧
    (∀ k, n = k + 1 → FnOk prog w Z.K Z.mg base (L2.CX prog w) k f fd ps (spI Z P n sh.fn C)) ∧ KBinds Z.K fd ps sh.ks g gV ∧
    (∀ L H ws zs vs us xs a, RWs Z.K L H ws vs → RWs Z.K L H zs us → ws.length = sh.np ∧ zs.length = sh.ks.length → fillA ws zs sh.fill = some xs → ∃ ys, gV (.ref a :: vs) us = .ref a :: ys ∧ RWs Z.K L H xs ys) ∧ ∃ fn, P.fns[sh.fn]? = some fn ∧ fn.np + 1 = ps.length
/-- a method -/
def MetF (prog : Program) (w : World) (base : Heap) (Z : Zx) (P : Pg) (n : Nat) (c : Ct) : Prop := ∀ (h : Nat) (sh : Sh) (nm m : Str), P.shs[h]? = some sh → c.mts[sh.fn]? = some (nm, m) → nm ≠ ("" : Str) →
  ∃ (C f : Addr) (fd : FuncData) (ps : List Str) (g : List Value → List Value → List Value) (gV : List V → List V → List V), PySem.W.nsIn Z.K mainGlobals nm = some (some (.ref C)) ∧ Meth Z.K C m f ∧
    FnOk prog w Z.K Z.mg base (L2.CX prog w) n f fd ps (spF Z P n sh.fn) ∧ KBinds Z.K fd ps sh.ks g gV ∧ FillOk Z sh gV ∧ ∃ fn, P.fns[sh.fn]? = some fn ∧ fn.np = ps.length
/-- .. that the language calls by itself -/
def DunF (prog : Program) (w : World) (base : Heap) (Z : Zx) (P : Pg) (n : Nat) (c : Ct) : Prop := ∀ (h : Nat) (sh : Sh) (nm m : Str), P.shs[h]? = some sh → c.dns[sh.fn]? = some (nm, m) → nm ≠ ("" : Str) →
  ∃ (C f : Addr) (fd : FuncData) (ps : List Str) (g : List Value → List Value → List Value) (gV : List V → List V → List V), PySem.W.nsIn Z.K mainGlobals nm = some (some (.ref C)) ∧ PySem.W.findIn Z.K (.ref C) m = some (some (.ref f)) ∧ PySem.W.typeIn Z.K (.ref f) = some (.type "function") ∧
    (∀ k, n = k + 2 → FnOk prog w Z.K Z.mg base (L2.CX prog w) k f fd ps (spF Z P n sh.fn)) ∧ KBinds Z.K fd ps sh.ks g gV ∧ FillOk Z sh gV ∧ ∃ fn, P.fns[sh.fn]? = some fn ∧ fn.np = ps.length ∧ fn.kd = 1
def bltNames : List Str := ["int", "abs", "max", "min", "len", "list", "tuple", "all", "any", "sum", "ord", "set", "isinstance", "range", "enumerate", "zip", "bool", "str"]
/-- __init__(self, f ..): the fields in their sequence -/
def spInit (C : Addr) (fs : List Str) : Sp := fun vs H Q _ => ∃ (a : Addr) (ws : List V), vs = .ref a :: ws ∧ ws.length = fs.length ∧ H a = some (exo a C none) ∧
  ∀ (d : Addr) (H2 : Hp), H d = none → d ≠ a → H2 a = some (exo a C (some d)) → H2 d = some (exd d (fs.zip ws).reverse) → (∀ b, b ≠ a → b ≠ d → H2 b = H b) → Q .non H2
/-- what the written part says of an own class -/
structure ClsF (prog : Program) (w : World) (base : Heap) (Z : Zx) (cl : Cl) (C : Addr) : Prop where
  gC : Z.mg cl.nm = some (.ref C)
  ox : OexC Z.K C
  xf : XfC Z.K C
  nd : cl.fs.Nodup
  sm : cl.fs.length ≤ 900
  no : ∀ f ∈ cl.fs, PySem.W.findIn Z.K (.ref C) f = some none
  ns : PySem.W.subIn Z.K (.ref C) (.type "StopIteration") = some false
  mkI : cl.fs = [] ∨ ∃ (fI : Addr) (fd : FuncData) (ps : List Str), PySem.W.findIn Z.K (.ref C) "__init__" = some (some (.ref fI)) ∧ PySem.W.typeIn Z.K (.ref fI) = some (.type "function") ∧
    FnOk prog w Z.K Z.mg base (L2.CX prog w) 1 fI fd ps (spInit C cl.fs) ∧ Binds Z.K fd ps []
/-- .. of all of them -/
structure ExcF (prog : Program) (w : World) (base : Heap) (Z : Zx) (P : Pg) (cls : List Cl) : Prop where
  eq : Z.cls = cls
  one : ∀ (m : Nat) (cl : Cl), cls[m]? = some cl → ∃ (C : Addr) (up : List Nat), ClsF prog w base Z cl C ∧ P.kl[m]? = some (cl.fs.length, up) ∧
    ∀ (h : Nat) (cl' : Cl) (C' : Addr), cls[h]? = some cl' → Z.mg cl'.nm = some (.ref C') → PySem.W.exmOne Z.K (.ref C) (.ref C') = some (decide (h ∈ up))
structure Gd (X : Cx) (c : Ct) (Z : Zx) (P : Pg) (k : Nat) : Prop where
  N : X.N = c.N
  nd : c.N.Nodup
  vis : ∀ x, visB c.sc x = true → Vis X.env.scope x
  loc : ∀ x, locB c.sc x = true → Loc X.env.scope x ∧ (X.fn x = true ∨ X.env.scope.names.lookup x = some .local)
  glb : ∀ x, glbB c.sc x = true → X.env.kindOf x = some .globalImplicit
  fre : ∀ x, (c.sc.names.lookup x = some .cell ∨ c.sc.names.lookup x = some .free) → (X.env.scope.names.lookup x = some .cell ∨ X.env.scope.names.lookup x = some .free)
  calm : X.calm = true
  room : Room k X.A
  K : X.K = Z.K
  mg : X.mg = Z.mg
  shs : c.shs = P.shs
  calls : CallF X.prog X.w X.base Z P k c
  gens : GenF X.prog X.w X.base Z P k c
  news : NewF X.prog X.w X.base Z P k c
  mets : MetF X.prog X.w X.base Z P k c
  duns : DunF X.prog X.w X.base Z P k c
  gls : ∀ (g : Nat) x w, c.gls[g]? = some x → P.gls[g]? = some w → ∃ u v, X.mg x = some u ∧ RelV v u ∧ ∀ L H, RW Z.K L H w v
  blt : ∀ x ∈ bltNames, X.mg x = none
  exc : ExcF X.prog X.w X.base Z P c.cls
/-! ### names and trees -/
theorem vis_of {sc : Scope} {x : Str} (h : visB sc x = true) : Vis sc x := by
  unfold visB at h
  split at h
  · exact .inl (by assumption)
  · exact .inr (.inl (by assumption))
  · exact .inr (.inr (by assumption))
  · cases h
theorem loc_of {sc : Scope} {x : Str} (h : locB sc x = true) : Loc sc x := by
  unfold locB at h
  split at h
  · exact .inl (by assumption)
  · exact .inr (by assumption)
  · cases h
theorem glb_of {sc : Scope} {x : Str} (h : glbB sc x = true) : sc.names.lookup x = some .globalImplicit := by
  unfold glbB at h
  split at h
  · assumption
  · cases h
theorem okName_of {x : Str} (h : okName x = true) : (x == ("__debug__" : Str)) = false ∧ (x == ("__classdict__" : Str)) = false ∧ x ≠ ("__name__" : Str) := by
  unfold okName at h
  simp only [Bool.and_eq_true, Bool.not_eq_true'] at h
  exact ⟨h.1.1.1, h.1.1.2, fun e => by subst e; simp at h⟩
theorem okName_ne {x : Str} (h : okName x = true) : x ≠ ("" : Str) := by
  unfold okName at h
  simp only [Bool.and_eq_true, Bool.not_eq_true'] at h
  exact fun e => by subst e; simp at h
theorem star_plain {e : Expr} {es : List Expr} {env : Env} (h : isStar e = false) : starEach (e :: es) env = (false, eval e env) :: starEach es env := by
  cases e <;> first | rfl | (simp [isStar] at h)
theorem plain_ix {e : Expr} (h : isSlice e = false) : PlainIx e := by
  intro o i
  cases e <;> first | rfl | (simp [isSlice] at h)
theorem attr_base {o : Expr} {nm : Str} {env : Env} (h : isCall0 o = false) : attributeBase o nm env (eval o env) = eval o env := by
  unfold attributeBase
  split
  · simp [isCall0] at h
  · rfl
theorem isT_plain {e : Expr} {env : Env} (h : isPlain e = true) : ∀ whole, isTrue e env whole = (do let v ← whole; standAt e.pos; holding [v] (truthy v)) := by
  intro w
  cases e <;> first | rfl | (simp [isPlain] at h; done) | skip
  rename_i op a p
  cases op <;> first | rfl | (simp [isPlain] at h)
theorem nm_ne : ∀ x ∈ bltNames, x ≠ ("__name__" : Str) ∧ (x == ("__debug__" : Str)) = false := by decide +kernel
theorem biNm_mem (b : Bi) : biNm b ∈ bltNames := by cases b <;> decide +kernel
theorem tyNm_mem (b : Ty) : tyNm b ∈ bltNames := by cases b <;> decide +kernel
/-! ### the readings -/
section
variable (Z : Zx) (c : Cn) (W : WX)
abbrev ex (σ : L2.St) : XK := fun cl d H => W cl d σ H
def lE (e : E) : TE := fun σ H Q => ∃ L S env, Rl Z.K L H S ∧ REn Z.K L H env σ ∧ ResG Z TW L H (ev c e env S) Q (ex W σ)
def lA (es : Es) : TA := fun σ H Q => ∃ L S env, Rl Z.K L H S ∧ REn Z.K L H env σ ∧ ResG Z TWs L H (evs c es env S) Q (ex W σ)
def lB (an : Bool) (bs : Eb) : TE := fun σ H Q => ∃ L S env, Rl Z.K L H S ∧ REn Z.K L H env σ ∧ ResG Z TW L H (evB c an bs env S) Q (ex W σ)
def lT (t : Tt) : TT := fun σ H Q => ∃ L S env, Rl Z.K L H S ∧ REn Z.K L H env σ ∧ ResG Z TEq L H (evT c t env S) Q (ex W σ)
def lTb (an : Bool) (ts : Tb) : TT := fun σ H Q => ∃ L S env, Rl Z.K L H S ∧ REn Z.K L H env σ ∧ ResG Z TEq L H (evBT c an ts env S) Q (ex W σ)
def lC (o : Ot) : TT := fun σ H Q => ∃ L S env, Rl Z.K L H S ∧ REn Z.K L H env σ ∧ ResG Z TEq L H (evC c o env S) Q (ex W σ)
def lO (o : Oe) : TO := fun σ H Q => ∃ L S env, Rl Z.K L H S ∧ REn Z.K L H env σ ∧ ResG Z TEq L H (evO c o env S) Q (ex W σ)
/-- an iterator gives the items of a source -/
def SR (K : PySem.W.Frag) (L : List Addr) (H : Hp) (src : Src) (J : L2.It) : Prop := ∀ L1 H1 S1 i, Ex K L H L1 H1 → Rl K L1 H1 S1 → match src.at i S1 with
  | none => True
  | some none => J.stop i H1
  | some (some w) => J.go i H1 ∧ ∀ x H2, J.yld i H1 x H2 → Ex K L1 H1 L1 H2 ∧ Rl K L1 H2 S1 ∧ RW K L1 H2 w x
def lI (it : It) : TI := fun σ H Q => ∃ L S env, Rl Z.K L H S ∧ REn Z.K L H env σ ∧ ResG Z SR L H (evI c it env S) Q (ex W σ)
end
section
variable {Z : Zx} {L L' : List Addr} {H H' : Hp} {E : XK}
variable {α β γ δ : Type} {T : PySem.W.Frag → List Addr → Hp → α → β → Prop} {U : PySem.W.Frag → List Addr → Hp → γ → δ → Prop}
theorem ResG.imp {r : R α} {Q Q' : β → Hp → Prop} (h : ResG Z T L H r Q E) (hq : ∀ b H', Q b H' → Q' b H') : ResG Z T L H r Q' E := by
  cases r with
  | ok a S' => exact fun L' H' b e rl t => hq _ _ (h L' H' b e rl t)
  | ex x S' => exact h
  | st => exact h.elim
theorem ResG.ext {r : R α} {Q : β → Hp → Prop} (h : ResG Z T L H r Q E) (e : Ex Z.K L H L' H') : ResG Z T L' H' r Q E := by
  cases r with
  | ok a S2 => exact fun L2 H2 b e2 => h L2 H2 b (e.trans e2)
  | ex x S2 => exact fun L2 H2 c d e2 => h L2 H2 c d (e.trans e2)
  | st => exact h.elim
theorem ResG.bind {r : R α} {f : α → Sg → R γ} {Q : δ → Hp → Prop} (h : ResG Z U L H (r.bind f) Q E) :
    ResG Z T L H r (fun b H' => ∃ L' a S', Ex Z.K L H L' H' ∧ Rl Z.K L' H' S' ∧ T Z.K L' H' a b ∧ r = .ok a S' ∧ ResG Z U L' H' (f a S') Q E) E := by
  cases r with
  | ok a S' =>
    intro L' H' b e rl t
    have h' : ResG Z U L H (f a S') Q E := h
    exact ⟨L', a, S', e, rl, t, rfl, h'.ext e⟩
  | ex x S' => exact h
  | st => exact h.elim
theorem ResG.np {r : R α} {Q : β → Hp → Prop} (h : ResG Z T L H r.np Q E) : ∃ a S', r = .ok a S' ∧ ∀ L' H' b, Ex Z.K L H L' H' → Rl Z.K L' H' S' → T Z.K L' H' a b → Q b H' := by
  cases r with
  | ok a S' => exact ⟨a, S', rfl, h⟩
  | ex x S' => exact h.elim
  | st => exact h.elim
theorem ResG.npX {r : R W} {Q : VK} (h : ResG Z TW L H r.np Q E) : Res Z.K L H r Q := by
  obtain ⟨a, S', rfl, q⟩ := h.np
  exact q
theorem ResG.ofO {o : Option γ} {f : γ → R α} {Q : β → Hp → Prop} (h : ResG Z T L H (SF.ofO o f) Q E) : ∃ a, o = some a ∧ ResG Z T L H (f a) Q E := by
  cases o with
  | none => exact h.elim
  | some a => exact ⟨a, rfl, h⟩
theorem ResG.ofB {o : Option Bool} {S : Sg} {f : Bool → R α} {Q : β → Hp → Prop} (h : ResG Z T L H (SF.ofB o S f) Q E) : ∃ a, o = some a ∧ ResG Z T L H (f a) Q E := by
  cases o with
  | none => exact h.elim
  | some a => exact ⟨a, rfl, h⟩
end
end SF
set_option Elab.async false
set_option linter.all false
set_option maxRecDepth 100000
set_option maxHeartbeats 4000000
namespace SF
open PySem L2
section
variable {X : Cx}
theorem pe_imp {e : Expr} {t t' : TE} (h : PE X e t) (i : ∀ σ H Q, t' σ H Q → t σ H Q) : PE X e t' := ⟨fun pins s σ H Q I q => h.run pins s σ H Q I (i σ H Q q)⟩
theorem pt_imp {e : Expr} {t t' : TT} (h : PT X e t) (i : ∀ σ H Q, t' σ H Q → t σ H Q) : PT X e t' := ⟨fun pins s σ H Q I q => h.run pins s σ H Q I (i σ H Q q)⟩
theorem pw_imp {e : Expr} {t t' : TT} (h : PW X e t) (i : ∀ σ H Q, t' σ H Q → t σ H Q) : PW X e t' := ⟨fun wh pins s σ H Q I q => h.run wh pins s σ H Q I (i σ H Q q)⟩
theorem pa_imp {e : List Expr} {t t' : TA} (h : PA X e t) (i : ∀ σ H Q, t' σ H Q → t σ H Q) : PA X e t' := ⟨fun pos pins s σ H Q I q => h.run pos pins s σ H Q I (i σ H Q q)⟩
theorem pk_imp {e : List Keyword} {t t' : TA} (h : PK X e t) (i : ∀ σ H Q, t' σ H Q → t σ H Q) : PK X e t' := ⟨fun pos pins s σ H Q I q => h.run pos pins s σ H Q I (i σ H Q q)⟩
theorem po_imp {e : Option Expr} {t t' : TO} (h : PO X e t) (i : ∀ σ H Q, t' σ H Q → t σ H Q) : PO X e t' := ⟨fun pins s σ H Q I q => h.run pins s σ H Q I (i σ H Q q)⟩
theorem pi_imp {tg e : Expr} {t t' : TI} (h : PI X tg e t) (i : ∀ σ H Q, t' σ H Q → t σ H Q) : PI X tg e t' := ⟨fun pins s σ H Q I q => h.run pins s σ H Q I (i σ H Q q)⟩
end
section
variable {Z : Zx} {P : Pg} {k : Nat}
theorem gd_units {X : Cx} {c : Ct} (G : Gd X c Z P k) : X.A.units + 64 < cLine := G.room.units
/-- x op y -/
theorem e_bin {X : Cx} {cc : Cn} {Wx : WX} {o : Bo} {a b : E} {x y : Expr} {pos : Pos} (hK : X.K = Z.K) (ha : PE X x (lE Z cc Wx a)) (hb : PE X y (lE Z cc Wx b)) : PE X (.BinOp x (opB o) y pos) (lE Z cc Wx (.bin o a b)) := by
  refine pe_imp (pe_op (or_b o) ha hb) fun σ H Q ⟨L, S, env, hR, hE, h⟩ => ?_
  refine ⟨L, S, env, hR, hE, (ResG.bind (T := TW) h).imp fun v H1 ⟨L1, w1, S1, e1, r1, t1, q1, h1⟩ => ?_⟩
  refine ⟨L1, S1, env, r1, hE.mono e1, (ResG.bind (T := TW) h1).imp fun u H2 ⟨L2, w2, S2, e2, r2, t2, q2, h2⟩ => ?_⟩
  rw [hK]
  exact ⟨L2, S2, w1, w2, r2, t1.mono e2, t2, h2.npX⟩
theorem boolR_of {L : List Addr} {H : Hp} {o : Option Bool} {S : Sg} {Q : VK} {E : XK} (h : ResG Z TW L H (ofB o S fun k => .ok (.bl k) S) Q E) : Res Z.K L H (boolR o S) Q := by
  unfold boolR
  cases o with
  | none => exact h.elim
  | some k => exact h
theorem e_cmp {X : Cx} {cc : Cn} {Wx : WX} {o : Co} {a b : E} {x y : Expr} {pos : Pos} (hK : X.K = Z.K) (hu : X.A.units + 64 < cLine) (hn : noNeg (opC o) y = true) (ha : PE X x (lE Z cc Wx a)) (hb : PE X y (lE Z cc Wx b)) : PE X (.Compare x [opC o] [y] pos) (lE Z cc Wx (.cmp o a b)) := by
  refine pe_imp (pe_cmpR (or_c hu o) ha hb (by simpa [noNeg] using hn)) fun σ H Q ⟨L, S, env, hR, hE, h⟩ => ?_
  refine ⟨L, S, env, hR, hE, (ResG.bind (T := TW) h).imp fun v H1 ⟨L1, w1, S1, e1, r1, t1, q1, h1⟩ => ?_⟩
  refine ⟨L1, S1, env, r1, hE.mono e1, (ResG.bind (T := TW) h1).imp fun u H2 ⟨L2, w2, S2, e2, r2, t2, q2, h2⟩ => ?_⟩
  rw [hK]
  exact ⟨L2, S2, w1, w2, r2, t1.mono e2, t2, boolR_of h2⟩
theorem boolR_k {L : List Addr} {H : Hp} {o : Option Bool} {S : Sg} {R : Bool → Hp → Prop} (h : ∃ k, o = some k ∧ ∀ L' H', Ex Z.K L H L' H' → Rl Z.K L' H' S → R k H') : Res Z.K L H (boolR o S) fun x H' => ∃ k, x = .bl k ∧ R k H' := by
  obtain ⟨k, rfl, h⟩ := h
  exact fun L' H' v e rl t => by cases t; exact ⟨k, rfl, h L' H' e rl⟩
theorem t_cmp {X : Cx} {cc : Cn} {Wx : WX} {o : Co} {a b : E} {x y : Expr} {pos : Pos} (hK : X.K = Z.K) (hu : X.A.units + 64 < cLine) (hn : noNeg (opC o) y = true) (ha : PE X x (lE Z cc Wx a)) (hb : PE X y (lE Z cc Wx b)) : PT X (.Compare x [opC o] [y] pos) (lT Z cc Wx (.cmp o a b)) := by
  refine pt_imp (pt_cmpR (or_c hu o) ha hb (by simpa [noNeg] using hn)) fun σ H Q ⟨L, S, env, hR, hE, h⟩ => ?_
  refine ⟨L, S, env, hR, hE, (ResG.bind (T := TW) h).imp fun v H1 ⟨L1, w1, S1, e1, r1, t1, q1, h1⟩ => ?_⟩
  refine ⟨L1, S1, env, r1, hE.mono e1, (ResG.bind (T := TW) h1).imp fun u H2 ⟨L2, w2, S2, e2, r2, t2, q2, h2⟩ => ?_⟩
  rw [hK]
  refine ⟨L2, S2, w1, w2, r2, t1.mono e2, t2, boolR_k ?_⟩
  obtain ⟨k, ek, h3⟩ := h2.ofB
  exact ⟨k, ek, fun L' H' e rl => h3 L' H' k e rl rfl⟩
theorem ch_core {X : Cx} {cc : Cn} {Wx : WX} {p : Co} {d : E} {σ : L2.St} {L2' : List Addr} {H2 : Hp} {S2 : Sg} {env : En} {w2 : W} {u : V} {Q : VK} {o : Option Bool} (hK : X.K = Z.K) (r2 : Rl Z.K L2' H2 S2) (hE : REn Z.K L2' H2 env σ) (t2 : RW Z.K L2' H2 w2 u)
    (h2 : ResG Z TW L2' H2 (ofB o S2 fun k => if k then (ev cc d env S2).bind fun z S => ofB (cmpW p w2 z S) S fun k => .ok (.bl k) S else .ok (.bl false) S2) Q (ex Wx σ)) :
    Res Z.K L2' H2 (boolR o S2) fun z H3 => ∃ k, z = .bl k ∧ if k = true then lE Z cc Wx d σ H3 fun w' H4 => rC X.K (cmpW p) u w' H4 Q else Q (.bl false) H3 := by
  obtain ⟨k, ek, h3⟩ := h2.ofB
  refine boolR_k ⟨k, ek, fun L' H' e rl => ?_⟩
  cases k with
  | true =>
    rw [if_pos rfl] at h3 ⊢
    refine ⟨L', S2, env, rl, hE.mono e, ((ResG.bind (T := TW) h3).ext e).imp fun v H4 ⟨L4, w4, S4, e4, r4, t4, q4, h4⟩ => ?_⟩
    rw [hK]
    exact ⟨L4, S4, w2, w4, r4, t2.mono e4, t4, boolR_of h4⟩
  | false =>
    rw [if_neg Bool.false_ne_true] at h3 ⊢
    exact h3 L' H' _ e rl (.bl false)
theorem e_ch {X : Cx} {cc : Cn} {Wx : WX} {o p : Co} {a b d : E} {x y z : Expr} {pos : Pos} (hK : X.K = Z.K) (hu : X.A.units + 64 < cLine) (hn : noNeg (opC p) z = true) (ha : PE X x (lE Z cc Wx a)) (hb : PE X y (lE Z cc Wx b)) (hd : PE X z (lE Z cc Wx d)) : PE X (.Compare x [opC o, opC p] [y, z] pos) (lE Z cc Wx (.ch o p a b d)) := by
  refine pe_imp (pe_chain (or_c hu o) (or_c hu p) ha hb hd (by simpa [noNeg, lastMarks] using hn)) fun σ H Q ⟨L, S, env, hR, hE, h⟩ => ?_
  refine ⟨L, S, env, hR, hE, (ResG.bind (T := TW) h).imp fun v H1 ⟨L1, w1, S1, e1, r1, t1, q1, h1⟩ => ?_⟩
  refine ⟨L1, S1, env, r1, hE.mono e1, (ResG.bind (T := TW) h1).imp fun u H2 ⟨L2, w2, S2, e2, r2, t2, q2, h2⟩ => ?_⟩
  have z := ch_core (X := X) hK r2 (hE.mono (e1.trans e2)) t2 h2
  refine ⟨L2, S2, w1, w2, by rw [hK]; exact r2, by rw [hK]; exact t1.mono e2, by rw [hK]; exact t2, ?_⟩
  rw [hK] at z ⊢
  exact z
theorem toBl {α : Type} {L : List Addr} {H : Hp} {E : XK} {r : R α} {f : α → Sg → Option Bool} {Q : Bool → Hp → Prop} (h : ResG Z TEq L H (r.bind fun z S => ofB (f z S) S fun k => .ok k S) Q E) :
    ResG Z TW L H (r.bind fun z S => ofB (f z S) S fun k => .ok (.bl k) S) (fun x H' => ∃ k, x = .bl k ∧ Q k H') E := by
  cases r with
  | st => exact h.elim
  | ex x S' => exact h
  | ok z S' =>
    have h' : ResG Z TEq L H (ofB (f z S') S' fun k => .ok k S') Q E := h
    obtain ⟨k, ek, h3⟩ := h'.ofB
    show ResG Z TW L H (ofB (f z S') S' fun k => .ok (.bl k) S') _ E
    rw [ek]
    exact fun L' H' v e rl t => by cases t; exact ⟨k, rfl, h3 L' H' k e rl rfl⟩
theorem t_ch {X : Cx} {cc : Cn} {Wx : WX} {o p : Co} {a b d : E} {x y z : Expr} {pos : Pos} (hK : X.K = Z.K) (hu : X.A.units + 64 < cLine) (hn : noNeg (opC p) z = true) (ha : PE X x (lE Z cc Wx a)) (hb : PE X y (lE Z cc Wx b)) (hd : PE X z (lE Z cc Wx d)) : PT X (.Compare x [opC o, opC p] [y, z] pos) (lT Z cc Wx (.ch o p a b d)) := by
  refine pt_imp (pt_chain (or_c hu o) (or_c hu p) ha hb hd (by simpa [noNeg, lastMarks] using hn)) fun σ H Q ⟨L, S, env, hR, hE, h⟩ => ?_
  refine ⟨L, S, env, hR, hE, (ResG.bind (T := TW) h).imp fun v H1 ⟨L1, w1, S1, e1, r1, t1, q1, h1⟩ => ?_⟩
  refine ⟨L1, S1, env, r1, hE.mono e1, (ResG.bind (T := TW) h1).imp fun u H2 ⟨L2, w2, S2, e2, r2, t2, q2, h2⟩ => ?_⟩
  have z := ch_core (X := X) (Q := fun x H' => ∃ k, x = .bl k ∧ Q k H') (p := p) (d := d) (cc := cc) (Wx := Wx) (o := cmpW o w1 w2 S2) hK r2 (hE.mono (e1.trans e2)) t2 ?_
  · refine ⟨L2, S2, w1, w2, by rw [hK]; exact r2, by rw [hK]; exact t1.mono e2, by rw [hK]; exact t2, ?_⟩
    rw [hK] at z ⊢
    exact z
  · obtain ⟨k, ek, h3⟩ := h2.ofB
    rw [ek]
    show ResG Z TW L2 H2 (if k = true then _ else _) _ _
    cases k with
    | true =>
      rw [if_pos rfl] at h3 ⊢
      exact toBl h3
    | false =>
      rw [if_neg Bool.false_ne_true] at h3 ⊢
      exact fun L' H' v e rl t => by cases t; exact ⟨false, rfl, h3 L' H' _ e rl rfl⟩

/-- x, a name -/
theorem e_var {X : Cx} {cc : Cn} {Wx : WX} {c : Ct} (G : Gd X c Z P k) {i : Nat} {x : Str} {pos : Pos} (h : (decide (c.N[i]? = some x) && visB c.sc x && okName x) = true) : PE X (.Name x pos) (lE Z cc Wx (.var i)) := by
  simp only [Bool.and_eq_true, decide_eq_true_eq] at h
  obtain ⟨h1, h2, _⟩ := okName_of h.2
  refine pe_imp (pe_var (i := i) (by rw [G.N]; exact h.1.1) (G.vis _ h.1.2) h1 h2) fun σ H Q ⟨L, S, env, hR, hE, h⟩ => ?_
  simp only [ev] at h
  split at h
  · rename_i w e
    obtain ⟨v, ev, rv⟩ := hE.get e
    exact ⟨v, ev, h L H v .refl hR rv⟩
  · exact h.elim
theorem e_con {X : Cx} {cc : Cn} {Wx : WX} {w : W} {q : Const} {j : Nat} {pos : Pos} (h : chkW w q = true) : PE X (.Constant q j pos) (lE Z cc Wx (.con w)) := by
  unfold chkW at h
  split at h
  · exact pe_imp pe_non fun σ H Q ⟨L, S, env, hR, hE, h⟩ => h L H _ .refl hR .non
  · have e := eq_of_beq h
    subst e
    exact pe_imp pe_bl fun σ H Q ⟨L, S, env, hR, hE, h⟩ => h L H _ .refl hR (.bl _)
  · have e := eq_of_beq h
    subst e
    exact pe_imp pe_int fun σ H Q ⟨L, S, env, hR, hE, h⟩ => h L H _ .refl hR (.int _)
  · have e := eq_of_beq h
    subst e
    exact pe_imp pe_str fun σ H Q ⟨L, S, env, hR, hE, h⟩ => h L H _ .refl hR (rw_wS _)
  · cases h
theorem e_gl {X : Cx} {n : Nat} {Wx : WX} {c : Ct} (G : Gd X c Z P k) {i : Nat} {x : Str} {pos : Pos} (h : (decide (c.gls[i]? = some x) && glbB c.sc x && okName x) = true) : PE X (.Name x pos) (lE Z (cn P n) Wx (.gl i)) := by
  simp only [Bool.and_eq_true, decide_eq_true_eq] at h
  obtain ⟨h1, h2, _⟩ := okName_of h.2
  cases e : P.gls[i]? with
  | none =>
    refine ⟨fun pins s σ H Q I ⟨L, S, env, hR, hE, q⟩ => ?_⟩
    obtain ⟨a, ea, _⟩ := ResG.ofO (show ResG Z TW L H (ofO (P.gls[i]?) fun w => .ok w S) Q _ from q)
    rw [e] at ea; cases ea
  | some w =>
    obtain ⟨u, v, m, rv, rw'⟩ := G.gls i x w h.1.1 e
    refine pe_imp (pe_glob (show X.env.kindOf x = some .globalImplicit from G.glb _ h.1.2) m rv h1) fun σ H Q ⟨L, S, env, hR, hE, q⟩ => ?_
    obtain ⟨a, ea, q⟩ := ResG.ofO (show ResG Z TW L H (ofO (P.gls[i]?) fun w => .ok w S) Q _ from q)
    rw [e] at ea; cases ea
    exact q L H v .refl hR (rw' L H)
theorem e_neg {X : Cx} {cc : Cn} {Wx : WX} {a : E} {x : Expr} {pos : Pos} (ha : PE X x (lE Z cc Wx a)) : PE X (.UnaryOp .USub x pos) (lE Z cc Wx (.neg a)) := by
  refine pe_imp (pe_un un_neg ha) fun σ H Q ⟨L, S, env, hR, hE, h⟩ => ?_
  refine ⟨L, S, env, hR, hE, (ResG.bind (T := TW) h).imp fun v H1 ⟨L1, w1, S1, e1, r1, t1, q1, h1⟩ => ?_⟩
  cases t1 <;> first | exact h1.elim | skip
  exact ⟨_, rfl, h1 L1 H1 _ .refl r1 (.int _)⟩
theorem e_nt {X : Cx} {cc : Cn} {Wx : WX} {a : E} {x : Expr} {pos : Pos} (ha : PE X x (lE Z cc Wx a)) : PE X (.UnaryOp .Not x pos) (lE Z cc Wx (.nt a)) := by
  refine pe_imp (pe_not ha) fun σ H Q ⟨L, S, env, hR, hE, h⟩ => ?_
  refine ⟨L, S, env, hR, hE, (ResG.bind (T := TW) h).imp fun v H1 ⟨L1, w1, S1, e1, r1, t1, q1, h1⟩ => ?_⟩
  cases t1 <;> first | exact h1.elim | skip
  exact ⟨_, rfl, h1 L1 H1 _ .refl r1 (.bl _)⟩
theorem e_ite {X : Cx} {cc : Cn} {Wx : WX} {t : Tt} {a b : E} {z x y : Expr} {pos : Pos} (ht : PT X z (lT Z cc Wx t)) (ha : PE X x (lE Z cc Wx a)) (hb : PE X y (lE Z cc Wx b)) : PE X (.IfExp z x y pos) (lE Z cc Wx (.ite t a b)) := by
  refine pe_imp (pe_ifExp ht ha hb) fun σ H Q ⟨L, S, env, hR, hE, h⟩ => ?_
  refine ⟨L, S, env, hR, hE, (ResG.bind (T := TEq) h).imp fun v H1 ⟨L1, w1, S1, e1, r1, t1, q1, h1⟩ => ?_⟩
  cases t1
  cases v with
  | true => rw [if_pos rfl]; exact ⟨L1, S1, env, r1, hE.mono e1, h1⟩
  | false => rw [if_neg Bool.false_ne_true]; exact ⟨L1, S1, env, r1, hE.mono e1, h1⟩
theorem e_tup {X : Cx} {cc : Cn} {Wx : WX} {es : Es} {xs : List Expr} {j : Nat} {pos : Pos} (ha : PA X xs (lA Z cc Wx es)) : PE X (.Tuple xs j pos) (lE Z cc Wx (.tup es)) := by
  refine pe_imp (pe_tup ha) fun σ H Q ⟨L, S, env, hR, hE, h⟩ => ?_
  refine ⟨L, S, env, hR, hE, (ResG.bind (T := TWs) h).imp fun v H1 ⟨L1, w1, S1, e1, r1, t1, q1, h1⟩ => ?_⟩
  exact Res.newT r1 h1.npX t1
theorem e_lst {X : Cx} {cc : Cn} {Wx : WX} {es : Es} {xs : List Expr} {pos : Pos} (ha : PA X xs (lA Z cc Wx es)) : PE X (.List xs pos) (lE Z cc Wx (.lst es)) := by
  refine pe_imp (pe_lst ha) fun σ H Q ⟨L, S, env, hR, hE, h⟩ => ?_
  refine ⟨L, S, env, hR, hE, (ResG.bind (T := TWs) h).imp fun v H1 ⟨L1, w1, S1, e1, r1, t1, q1, h1⟩ => ?_⟩
  exact Res.newL r1 h1.npX t1
theorem e_dic0 {X : Cx} {cc : Cn} {Wx : WX} {t : Bool} {pos : Pos} : PE X (.Dict [] [] pos) (lE Z cc Wx (.dic0 t)) := by
  cases t with
  | false =>
    refine pe_imp pe_dnewK fun σ H Q ⟨L, S, env, hR, hE, h⟩ p hp => ?_
    refine h (L ++ [p]) _ _ (ex_new hp) (hR.push (o := .dic []) hp ⟨[], upd_same, .nil⟩ rfl) (.ref (at_new hR p))
  | true =>
    refine pe_imp pe_dnewT fun σ H Q ⟨L, S, env, hR, hE, h⟩ p hp => ?_
    refine h (L ++ [p]) _ _ (ex_new hp) (hR.push (o := .dit []) hp ⟨[], upd_same, .nil⟩ rfl) (.ref (at_new hR p))
theorem e_ix {X : Cx} {cc : Cn} {Wx : WX} {a b : E} {x y : Expr} {pos : Pos} (hK : X.K = Z.K) (hu : X.A.units + 64 < cLine) (hn : isSlice y = false) (ha : PE X x (lE Z cc Wx a)) (hb : PE X y (lE Z cc Wx b)) : PE X (.Subscript x y pos) (lE Z cc Wx (.ix a b)) := by
  refine pe_imp (pe_ix (ixr hu) ha hb (plain_ix hn)) fun σ H Q ⟨L, S, env, hR, hE, h⟩ => ?_
  refine ⟨L, S, env, hR, hE, (ResG.bind (T := TW) h).imp fun v H1 ⟨L1, w1, S1, e1, r1, t1, q1, h1⟩ => ?_⟩
  refine ⟨L1, S1, env, r1, hE.mono e1, (ResG.bind (T := TW) h1).imp fun u H2 ⟨L2, w2, S2, e2, r2, t2, q2, h2⟩ => ?_⟩
  rw [hK]
  refine ⟨L2, S2, w1, w2, r2, t1.mono e2, t2, ?_⟩
  obtain ⟨a, ea, h3⟩ := h2.ofO
  rw [ea]
  exact h3
theorem e_sl {X : Cx} {cc : Cn} {Wx : WX} {a : E} {lo hi : Oe} {x : Expr} {l h : Option Expr} {p pos : Pos} (hK : X.K = Z.K) (ha : PE X x (lE Z cc Wx a)) (hl : PO X l (lO Z cc Wx lo)) (hh : PO X h (lO Z cc Wx hi)) : PE X (.Subscript x (.Slice l h none p) pos) (lE Z cc Wx (.sl a lo hi)) := by
  refine pe_imp (pe_slice slr ha hl hh) fun σ H Q ⟨L, S, env, hR, hE, h⟩ => ?_
  refine ⟨L, S, env, hR, hE, (ResG.bind (T := TW) h).imp fun v H1 ⟨L1, w1, S1, e1, r1, t1, q1, h1⟩ => ?_⟩
  refine ⟨L1, S1, env, r1, hE.mono e1, (ResG.bind (T := TEq) h1).imp fun u H2 ⟨L2, w2, S2, e2, r2, t2, q2, h2⟩ => ?_⟩
  refine ⟨L2, S2, env, r2, hE.mono (e1.trans e2), (ResG.bind (T := TEq) h2).imp fun u' H3 ⟨L3, w3, S3, e3, r3, t3, q3, h3⟩ => ?_⟩
  cases t2; cases t3
  rw [hK]
  exact ⟨L3, S3, w1, r3, (t1.mono e2).mono e3, h3.npX⟩
theorem e_rev {X : Cx} {cc : Cn} {Wx : WX} {a : E} {x : Expr} {k : Nat} {p1 p2 p3 pos : Pos} (hK : X.K = Z.K) (ha : PE X x (lE Z cc Wx a)) : PE X (.Subscript x (.Slice none none (some (.UnaryOp .USub (.Constant (.int 1) k p1) p2)) p3) pos) (lE Z cc Wx (.rev a)) := by
  refine pe_imp (pe_revL ha) fun σ H Q ⟨L, S, env, hR, hE, h⟩ => ?_
  refine ⟨L, S, env, hR, hE, (ResG.bind (T := TW) h).imp fun v H1 ⟨L1, w1, S1, e1, r1, t1, q1, h1⟩ => ?_⟩
  have h2 := h1.npX
  cases t1 with
  | @ref l p hp =>
    simp only [revW] at h2
    obtain ⟨ws, e, h3⟩ := ofO_ok h2
    obtain ⟨b, xs, hb, hq, hr⟩ := r1.list e
    rw [hp] at hb; cases hb
    rw [hK]
    exact ⟨p, xs, rfl, hq, (Res.newL r1 h3 hr.reverse).2⟩
  | _ => exact h2.elim
theorem o_no {X : Cx} {cc : Cn} {Wx : WX} : PO X none (lO Z cc Wx .no) := po_imp po_none fun σ H Q ⟨L, S, env, hR, hE, h⟩ => h L H _ .refl hR rfl
theorem o_so {X : Cx} {cc : Cn} {Wx : WX} {a : E} {x : Expr} (ha : PE X x (lE Z cc Wx a)) : PO X (some x) (lO Z cc Wx (.so a)) := by
  refine po_imp (po_some ha) fun σ H Q ⟨L, S, env, hR, hE, h⟩ => ?_
  refine ⟨L, S, env, hR, hE, (ResG.bind (T := TW) h).imp fun v H1 ⟨L1, w1, S1, e1, r1, t1, q1, h1⟩ => ?_⟩
  cases t1 <;> first | exact h1.elim | skip
  exact ⟨_, rfl, h1 L1 H1 _ .refl r1 rfl⟩
/-! arguments and items -/
theorem a_nil {X : Cx} {cc : Cn} {Wx : WX} : PA X [] (lA Z cc Wx .nil) := pa_imp pa_nil fun σ H Q ⟨L, S, env, hR, hE, h⟩ => h L H _ .refl hR .nil
theorem a_cons {X : Cx} {cc : Cn} {Wx : WX} {e : E} {es : Es} {x : Expr} {xs : List Expr} (hs : isStar x = false) (ha : PE X x (lE Z cc Wx e)) (hr : PA X xs (lA Z cc Wx es)) : PA X (x :: xs) (lA Z cc Wx (.cons e es)) := by
  refine pa_imp (pa_cons ha hr (star_plain hs)) fun σ H Q ⟨L, S, env, hR, hE, h⟩ => ?_
  refine ⟨L, S, env, hR, hE, (ResG.bind (T := TW) h).imp fun v H1 ⟨L1, w1, S1, e1, r1, t1, q1, h1⟩ => ?_⟩
  refine ⟨L1, S1, env, r1, hE.mono e1, (ResG.bind (T := TWs) h1).imp fun u H2 ⟨L2, w2, S2, e2, r2, t2, q2, h2⟩ => ?_⟩
  exact h2 L2 H2 _ .refl r2 (.cons (t1.mono e2) t2)
theorem a_star {X : Cx} {cc : Cn} {Wx : WX} {e : E} {es : Es} {x : Expr} {xs : List Expr} {p : Pos} (hK : X.K = Z.K) (ha : PE X x (lE Z cc Wx e)) (hr : PA X xs (lA Z cc Wx es)) : PA X (.Starred x p :: xs) (lA Z cc Wx (.star e es)) := by
  refine pa_imp (StX.pa_star ha hr rfl) fun σ H Q ⟨L, S, env, hR, hE, h⟩ => ?_
  refine ⟨L, S, env, hR, hE, (ResG.bind (T := TW) h).imp fun v H1 ⟨L1, w1, S1, e1, r1, t1, q1, h1⟩ => ?_⟩
  obtain ⟨vs, evs', h1⟩ := h1.ofO
  obtain ⟨p', ys, ep, hq, rr⟩ := seq_spec r1 evs' t1
  rw [hK]
  refine ⟨p', ys, ep, hq.symm, L1, S1, env, r1, hE.mono e1, (ResG.bind (T := TWs) h1).imp fun u H2 ⟨L2, w2, S2, e2, r2, t2, q2, h2⟩ => ?_⟩
  exact h2 L2 H2 _ .refl r2 ((rr.mono e2).append t2)
theorem k_nil {X : Cx} {cc : Cn} {Wx : WX} : PK X [] (lA Z cc Wx .nil) := pk_imp pk_nil fun σ H Q ⟨L, S, env, hR, hE, h⟩ => h L H _ .refl hR .nil
theorem k_cons {X : Cx} {cc : Cn} {Wx : WX} {e : E} {es : Es} {x : Expr} {n : Option Str} {p : Pos} {xs : List Keyword} (ha : PE X x (lE Z cc Wx e)) (hr : PK X xs (lA Z cc Wx es)) : PK X (⟨n, x, p⟩ :: xs) (lA Z cc Wx (.cons e es)) := by
  refine pk_imp (pk_cons ha hr) fun σ H Q ⟨L, S, env, hR, hE, h⟩ => ?_
  refine ⟨L, S, env, hR, hE, (ResG.bind (T := TW) h).imp fun v H1 ⟨L1, w1, S1, e1, r1, t1, q1, h1⟩ => ?_⟩
  refine ⟨L1, S1, env, r1, hE.mono e1, (ResG.bind (T := TWs) h1).imp fun u H2 ⟨L2, w2, S2, e2, r2, t2, q2, h2⟩ => ?_⟩
  exact h2 L2 H2 _ .refl r2 (.cons (t1.mono e2) t2)
end
end SF
set_option Elab.async false
set_option linter.all false
set_option maxRecDepth 100000
set_option maxHeartbeats 4000000
namespace SF
open PySem L2
section
variable {Z : Zx} {P : Pg} {k : Nat}
/-! tests -/
theorem t_val {X : Cx} {cc : Cn} {Wx : WX} {a : E} {x : Expr} (hK : X.K = Z.K) (hp : isPlain x = true) (ha : PE X x (lE Z cc Wx a)) : PT X x (lT Z cc Wx (.val a)) := by
  refine pt_imp (pt_truth ha (isT_plain hp)) fun σ H Q ⟨L, S, env, hR, hE, h⟩ => ?_
  refine ⟨L, S, env, hR, hE, (ResG.bind (T := TW) h).imp fun v H1 ⟨L1, w1, S1, e1, r1, t1, q1, h1⟩ => ?_⟩
  obtain ⟨b, eb, h1⟩ := h1.ofB
  rw [hK]
  exact ⟨b, truW_spec r1 eb t1, h1 L1 H1 _ .refl r1 rfl⟩
theorem t_nt {X : Cx} {cc : Cn} {Wx : WX} {t : Tt} {x : Expr} {pos : Pos} (ha : PT X x (lT Z cc Wx t)) : PT X (.UnaryOp .Not x pos) (lT Z cc Wx (.nt t)) := by
  refine pt_imp (pt_not ha) fun σ H Q ⟨L, S, env, hR, hE, h⟩ => ?_
  refine ⟨L, S, env, hR, hE, (ResG.bind (T := TEq) h).imp fun v H1 ⟨L1, w1, S1, e1, r1, t1, q1, h1⟩ => ?_⟩
  cases t1
  exact h1 L1 H1 _ .refl r1 rfl
theorem tb_one {X : Cx} {cc : Cn} {Wx : WX} {an : Bool} {t : Tt} {x : Expr} {pos : Pos} (ha : PT X x (lT Z cc Wx t)) : PW X (.BoolOp (if an then .And else .Or) [x] pos) (lTb Z cc Wx an (.one t)) := by
  cases an
  · exact pw_imp (pw_or1 ha) fun σ H Q h => h
  · exact pw_imp (pw_and1 ha) fun σ H Q h => h
theorem tb_cons {X : Cx} {cc : Cn} {Wx : WX} {an : Bool} {t : Tt} {ts : Tb} {x y : Expr} {xs : List Expr} {pos : Pos} (ha : PT X x (lT Z cc Wx t)) (hb : PW X (.BoolOp (if an then .And else .Or) (y :: xs) pos) (lTb Z cc Wx an ts)) :
    PW X (.BoolOp (if an then .And else .Or) (x :: y :: xs) pos) (lTb Z cc Wx an (.cons t ts)) := by
  cases an
  · refine pw_imp (pw_or ha hb) fun σ H Q ⟨L, S, env, hR, hE, h⟩ => ?_
    refine ⟨L, S, env, hR, hE, (ResG.bind (T := TEq) h).imp fun v H1 ⟨L1, w1, S1, e1, r1, t1, q1, h1⟩ => ?_⟩
    cases t1
    cases v with
    | true => rw [if_pos rfl]; exact (show ResG Z TEq L1 H1 (.ok true S1) Q _ from h1) L1 H1 _ .refl r1 rfl
    | false => rw [if_neg Bool.false_ne_true]; exact ⟨L1, S1, env, r1, hE.mono e1, h1⟩
  · refine pw_imp (pw_and ha hb) fun σ H Q ⟨L, S, env, hR, hE, h⟩ => ?_
    refine ⟨L, S, env, hR, hE, (ResG.bind (T := TEq) h).imp fun v H1 ⟨L1, w1, S1, e1, r1, t1, q1, h1⟩ => ?_⟩
    cases t1
    cases v with
    | false => rw [if_neg Bool.false_ne_true]; exact (show ResG Z TEq L1 H1 (.ok false S1) Q _ from h1) L1 H1 _ .refl r1 rfl
    | true => rw [if_pos rfl]; exact ⟨L1, S1, env, r1, hE.mono e1, h1⟩
theorem eb_cons {X : Cx} {cc : Cn} {Wx : WX} {an : Bool} {t : E} {ts : Eb} {x y : Expr} {xs : List Expr} {pos : Pos} (ha : PE X x (lE Z cc Wx t)) (hb : PE X (.BoolOp (if an then .And else .Or) (y :: xs) pos) (lB Z cc Wx an ts)) :
    PE X (.BoolOp (if an then .And else .Or) (x :: y :: xs) pos) (lB Z cc Wx an (.cons t ts)) := by
  cases an
  · refine pe_imp (pe_or ha hb) fun σ H Q ⟨L, S, env, hR, hE, h⟩ => ?_
    refine ⟨L, S, env, hR, hE, (ResG.bind (T := TW) h).imp fun v H1 ⟨L1, w1, S1, e1, r1, t1, q1, h1⟩ => ?_⟩
    cases t1 <;> first | exact h1.elim | skip
    rename_i b hh
    clear hh
    refine ⟨b, rfl, ?_⟩
    cases b with
    | true => rw [if_pos rfl]; exact (show ResG Z TW L1 H1 (.ok (.bl true) S1) Q _ from h1) L1 H1 _ .refl r1 (.bl _)
    | false => rw [if_neg Bool.false_ne_true]; exact ⟨L1, S1, env, r1, hE.mono e1, h1⟩
  · refine pe_imp (pe_and ha hb) fun σ H Q ⟨L, S, env, hR, hE, h⟩ => ?_
    refine ⟨L, S, env, hR, hE, (ResG.bind (T := TW) h).imp fun v H1 ⟨L1, w1, S1, e1, r1, t1, q1, h1⟩ => ?_⟩
    cases t1 <;> first | exact h1.elim | skip
    rename_i b hh
    clear hh
    refine ⟨b, rfl, ?_⟩
    cases b with
    | false => rw [if_neg Bool.false_ne_true]; exact (show ResG Z TW L1 H1 (.ok (.bl false) S1) Q _ from h1) L1 H1 _ .refl r1 (.bl _)
    | true => rw [if_pos rfl]; exact ⟨L1, S1, env, r1, hE.mono e1, h1⟩
/-! what is built in -/
theorem glx {X : Cx} {c : Ct} (G : Gd X c Z P k) {x : Str} (h : glbB c.sc x = true) : Gl X x := G.glb x h
theorem chkG_of {c : Ct} {x : Str} {e : Expr} (h : chkG c x e = true) : ∃ p, e = .Name x p ∧ glbB c.sc x = true := by
  unfold chkG at h
  split at h
  · simp only [Bool.and_eq_true, beq_iff_eq] at h
    obtain ⟨rfl, h2⟩ := h
    exact ⟨_, rfl, h2⟩
  · cases h
theorem back_plain {es : List Expr} {env : Env} {pos : Pos} (h : ∀ e ∈ es, isStar e = false) : (backTo pos (starEach es env)).any (·.1) = false := by
  induction es with
  | nil => rfl
  | cons e es ih =>
    rw [star_plain (h e List.mem_cons_self)]
    show ((false, _) :: backTo pos (starEach es env)).any (·.1) = false
    rw [List.any_cons, ih fun x hx => h x (List.mem_cons_of_mem _ hx)]
    rfl
theorem chkN_star {c : Ct} : ∀ {es : Es} {xs : List Expr}, chkN c es xs = true → ∀ e ∈ xs, isStar e = false
  | .nil, [], _, e, h => by cases h
  | .nil, _ :: _, h, _, _ => by simp [chkN] at h
  | .cons _ _, [], h, _, _ => by simp [chkN] at h
  | .cons e es, x :: xs, h, y, hy => by
    simp only [chkN, Bool.and_eq_true, Bool.not_eq_true'] at h
    rcases List.mem_cons.mp hy with rfl | hy
    · exact h.1.1
    · exact chkN_star h.2 y hy
  | .star _ _, _, h, _, _ => by simp [chkN] at h
theorem bi_ok {X : Cx} {c : Ct} (G : Gd X c Z P k) (b : Bi) {cc : Cn} {Wx : WX} {es : Es} {p pos : Pos} {x : Expr} {xs : List Expr} (hg : glbB c.sc (biNm b) = true) (hs : ∀ e ∈ x :: xs, isStar e = false) (ha : PA X (x :: xs) (lA Z cc Wx es)) :
    PE X (.Call (.Name (biNm b) p) (x :: xs) [] pos) (lE Z cc Wx (.bi b es)) := by
  have he := star_plain (es := xs) (env := X.env) (hs x List.mem_cons_self)
  have hpl := back_plain (env := X.env) (pos := pos) fun e h => hs e (List.mem_cons_of_mem _ h)
  have hm := G.blt _ (biNm_mem b)
  have hn := nm_ne _ (biNm_mem b)
  have fin : ∀ σ H Q, lE Z cc Wx (.bi b es) σ H Q → tCB (rL X.K (biW b)) (lA Z cc Wx es) σ H Q := fun σ H Q ⟨L, S, env, hR, hE, h⟩ => by
    refine ⟨L, S, env, hR, hE, (ResG.bind (T := TWs) h).imp fun v H1 ⟨L1, w1, S1, e1, r1, t1, q1, h1⟩ => ?_⟩
    rw [G.K]
    exact ⟨L1, S1, w1, r1, t1, h1.npX⟩
  cases b
  · exact pe_imp (pe_callTy cr_int (glx G hg) hm (by decide +kernel) ha hn.1 hn.2 he hpl) fin
  · exact pe_imp (pe_callB cr_abs (glx G hg) hm (by decide +kernel) ha hn.1 hn.2 he hpl) fin
  · exact pe_imp (pe_callB (cr_max2 G.calm) (glx G hg) hm (by decide +kernel) ha hn.1 hn.2 he hpl) fin
  · exact pe_imp (pe_callB (cr_min2 G.calm) (glx G hg) hm (by decide +kernel) ha hn.1 hn.2 he hpl) fin
  · exact pe_imp (pe_callB cr_len (glx G hg) hm (by decide +kernel) ha hn.1 hn.2 he hpl) fin
  · exact pe_imp (pe_callTy (cr_list G.calm) (glx G hg) hm (by decide +kernel) ha hn.1 hn.2 he hpl) fin
  · exact pe_imp (pe_callTy cr_tuple (glx G hg) hm (by decide +kernel) ha hn.1 hn.2 he hpl) fin
  · exact pe_imp (pe_callB (cr_all' G.calm) (glx G hg) hm (by decide +kernel) ha hn.1 hn.2 he hpl) fin
  · exact pe_imp (pe_callB (cr_any' G.calm) (glx G hg) hm (by decide +kernel) ha hn.1 hn.2 he hpl) fin
  · exact pe_imp (pe_callB (cr_sum' G.calm) (glx G hg) hm (by decide +kernel) ha hn.1 hn.2 he hpl) fin
  · exact pe_imp (pe_callB cr_ord (glx G hg) hm (by decide +kernel) ha hn.1 hn.2 he hpl) fin
  · exact pe_imp (pe_callTy cr_str (glx G hg) hm (by decide +kernel) ha hn.1 hn.2 he hpl) fin
theorem back_few {es : List Expr} {env : Env} {pos : Pos} (h : ∀ e ∈ es, isStar e = false) : (backTo pos (starEach es env)).all (fun x => !x.1) = true := by
  induction es with
  | nil => rfl
  | cons e es ih =>
    rw [star_plain (h e List.mem_cons_self)]
    show ((false, _) :: backTo pos (starEach es env)).all (fun x => !x.1) = true
    rw [List.all_cons, ih fun x hx => h x (List.mem_cons_of_mem _ hx)]
    rfl
def meR (K : PySem.W.Frag) (m : Me) : V → List V → Hp → VK → Prop := rM K (meW m)
theorem me_ok {X : Cx} {c : Ct} (G : Gd X c Z P k) (m : Me) {cc : Cn} {Wx : WX} {a : E} {es : Es} {p pos : Pos} {o x : Expr} {xs : List Expr} (hl : (p.endLine == pos.line) = true) (hf : xs.length < 20) (h0 : isCall0 o = false) (hs : ∀ e ∈ x :: xs, isStar e = false) (ho : PE X o (lE Z cc Wx a)) (ha : PA X (x :: xs) (lA Z cc Wx es)) :
    PE X (.Call (.Attribute o (meNm m) p) (x :: xs) [] pos) (lE Z cc Wx (.me m a es)) := by
  have he := star_plain (es := xs) (env := X.env) (hs x List.mem_cons_self)
  have hpl := back_plain (env := X.env) (pos := pos) fun e h => hs e (List.mem_cons_of_mem _ h)
  have hfew : ((backTo pos (starEach (x :: xs) X.env)).all (fun x => !x.1) && (backToKw pos (keywordEach [] X.env)).all (fun x => x.1.isSome)
      && decide ((x :: xs).length + ([] : List Keyword).length + (if ([] : List Keyword).isEmpty then 0 else 1) < 30)) = true := by
    rw [back_few hs]
    simp [backToKw, keywordEach]
    omega
  have hb := attr_base (nm := meNm m) (env := X.env) h0
  have fin : ∀ T, (∀ L S H w v, Rl Z.K L H S → RW Z.K L H w v → meTy m w S = true → tyV Z.K T v H) → ∀ σ H Q, lE Z cc Wx (.me m a es) σ H Q → tBM X.K T (rM X.K (meW m)) (lE Z cc Wx a) (lA Z cc Wx es) σ H Q := fun T hT σ H Q ⟨L, S, env, hR, hE, h⟩ => by
    refine ⟨L, S, env, hR, hE, (ResG.bind (T := TW) h).imp fun v H1 ⟨L1, w1, S1, e1, r1, t1, q1, h1⟩ => ?_⟩
    cases hm : meTy m w1 S1 with
    | false => rw [hm, if_neg Bool.false_ne_true] at h1; exact h1.elim
    | true =>
      rw [hm, if_pos rfl] at h1
      rw [G.K]
      refine ⟨hT _ _ _ _ _ r1 t1 hm, L1, S1, env, r1, hE.mono e1, (ResG.bind (T := TWs) h1).imp fun u H2 ⟨L2, w2, S2, e2, r2, t2, q2, h2⟩ => ?_⟩
      exact ⟨L2, S2, w1, w2, r2, t1.mono e2, t2, h2.npX⟩
  cases m
  · refine pe_imp (pe_bm PySem.F.plainAttrs_list PySem.F.slot_list_append PySem.F.type_list_append mr_append ho ha hb hfew hl he hpl) (fin "list" fun L S H w v hr hw hm => ?_)
    cases hw <;> first | (cases hm; done) | skip
    rename_i l a ha
    simp only [meTy] at hm
    split at hm
    · rename_i ws e
      obtain ⟨b, hb, xs, k1, k2⟩ := hr.addr e
      rw [ha] at hb; cases hb
      exact .inl ⟨rfl, xs, SqL.of k1⟩
    · cases hm
  · refine pe_imp (pe_bm PySem.F.plainAttrs_str PySem.F.slot_str_split PySem.F.type_str_split mr_split ho ha hb hfew hl he hpl) (fin "str" fun L S H w v hr hw hm => ?_)
    cases hw <;> first | (cases hm; done) | rfl
  · refine pe_imp (pe_bm PySem.F.plainAttrs_str PySem.F.slot_str_join PySem.F.type_str_join mr_join ho ha hb hfew hl he hpl) (fin "str" fun L S H w v hr hw hm => ?_)
    cases hw <;> first | (cases hm; done) | rfl
  · refine pe_imp (pe_bm PySem.F.plainAttrs_str PySem.F.slot_str_strip PySem.F.type_str_strip mr_strip1 ho ha hb hfew hl he hpl) (fin "str" fun L S H w v hr hw hm => ?_)
    cases hw <;> first | (cases hm; done) | rfl
theorem me0_ok {X : Cx} {c : Ct} (G : Gd X c Z P k) (m : Me0) {cc : Cn} {Wx : WX} {a : E} {p pos : Pos} {o : Expr} (hl : (p.endLine == pos.line) = true) (h0 : isCall0 o = false) (ho : PE X o (lE Z cc Wx a)) :
    PE X (.Call (.Attribute o (me0Nm m) p) [] [] pos) (lE Z cc Wx (.me0 m a)) := by
  have hb := attr_base (nm := me0Nm m) (env := X.env) h0
  have fin : ∀ σ H Q, lE Z cc Wx (.me0 m a) σ H Q → tBM0 X.K "str" (rM0 X.K (me0W m)) (lE Z cc Wx a) σ H Q := fun σ H Q ⟨L, S, env, hR, hE, h⟩ => by
    refine ⟨L, S, env, hR, hE, (ResG.bind (T := TW) h).imp fun v H1 ⟨L1, w1, S1, e1, r1, t1, q1, h1⟩ => ?_⟩
    rw [G.K]
    have h2 := h1.npX
    refine ⟨?_, L1, S1, w1, rfl, r1, t1, h2⟩
    cases t1 <;> first | rfl | (cases m <;> exact h2.elim)
  cases m
  · exact pe_imp (pe_bm0 PySem.F.plainAttrs_str PySem.F.slot_str_strip PySem.F.type_str_strip mr_strip ho hb (hline := hl)) fin
  · exact pe_imp (pe_bm0 PySem.F.plainAttrs_str PySem.F.slot_str_rstrip PySem.F.type_str_rstrip mr_rstrip ho hb (hline := hl)) fin
end
end SF
set_option Elab.async false
set_option linter.all false
set_option maxRecDepth 100000
set_option maxHeartbeats 4000000
namespace SF
open PySem PySem.Spec PyProof.Rows
/-! # 7. len(set(xs)) of any texts -/
def dedS (σ : List Str) (v : Str) : List Str := if σ.any (· == v) then σ else σ ++ [v]
theorem ded_step (xs : List Str) (v : Str) : ded (xs ++ [v]) = dedS (ded xs) v := by unfold ded; rw [List.foldl_append]; rfl
theorem dedS_any (σ : List Str) (v x : Str) : (dedS σ v).any (· == x) = (σ.any (· == x) || decide (x = v)) := by
  unfold dedS
  by_cases h : σ.any (· == v) = true
  · rw [if_pos h]
    by_cases e : x = v
    · subst e; rw [h]; rfl
    · rw [decide_eq_false e, Bool.or_false]
  · rw [if_neg h, List.any_append]
    by_cases e : x = v
    · subst e; simp
    · have : (v == x) = false := beq_eq_false_iff_ne.mpr fun z => e z.symm
      simp [this, e]
theorem dedS_len (σ : List Str) (v : Str) : (dedS σ v).length = if σ.any (· == v) = true then σ.length else σ.length + 1 := by
  unfold dedS
  split <;> simp
theorem ded_grow : ∀ (xs σ : List Str), (xs.foldl dedS σ).length ≤ σ.length + xs.length
  | [], σ => Nat.le_refl _
  | v :: xs, σ => by
    have ih := ded_grow xs (dedS σ v)
    have e : (dedS σ v).length ≤ σ.length + 1 := by rw [dedS_len]; split <;> omega
    show (xs.foldl dedS (dedS σ v)).length ≤ σ.length + (xs.length + 1)
    omega
theorem ded_len (xs : List Str) : (ded xs).length ≤ xs.length := by
  have z := ded_grow xs []
  rw [List.length_nil, Nat.zero_add] at z
  exact z
theorem take_next {xs : List Str} {i : Nat} (h : i < xs.length) : xs.take (i + 1) = xs.take i ++ [xs.getD i Str.empty] := by
  rw [List.take_add_one, List.getElem?_eq_getElem h, List.getD_eq_getElem?_getD, List.getElem?_eq_getElem h]
  rfl
section
variable {prog : Program} {w : World} {A : Around} {R : Result → Shared → Prop} {it : Addr} {fp wr : List Addr} {G : Array GenState → Array GenState → Prop} {P : Nat → Value → Prop} {St : Nat → Shared → Prop}
abbrev Holds (prog : Program) (w : World) (h : Heap) (a : Addr) (ys : List Str) : Prop := h.SetOf (PySem.strKind prog w) a (fun x => ys.any (· == x)) ys.length
theorem fill_set (xs : List Str) (walk : WalksS prog w A.in1 it fp wr G xs.length P St) (a : Addr) (ha : a ∉ fp) (few : xs.length + 1 < scanBound)
    (is : ∀ i v, P i v → ∃ t, v = .str (xs.getD i Str.empty) t) : ∀ (m i : Nat) (s : Shared), i + m = xs.length → St i s → Holds prog w s.heap a (ded (xs.take i)) →
      (∀ s', Moved (a :: wr) G s s' → Holds prog w s'.heap a (ded xs) → R (.ok (.ret .none)) s') → codeAny (model prog w) A (.builtin "set.update.loop" ⟨[.ref a, .ref it], []⟩) R s := by
  have aw : a ∉ wr := fun z => ha (walk.sub _ z)
  have more : ∀ b ∈ wr, b ∈ a :: wr := fun b z => List.mem_cons_of_mem _ z
  have again : ∀ {h h' : Heap} {ys : List Str}, (∀ o, h.get? a = some o → h'.get? a = some o) → Holds prog w h a ys → Holds prog w h' a ys := by
    rintro h h' ys q ⟨o, es, ep, t, e, r⟩
    exact ⟨o, es, ep, t, q o e, r⟩
  intro m
  induction m with
  | zero =>
    intro i s hi st hs hR
    have hi' : i = xs.length := hi
    subst hi'
    rw [List.take_length] at hs
    refine codeAny_builtin PyProof.Rows.F.entry_set_update_loop ?_
    rw [Around.under_plainId PyProof.Rows.F.plain_set_update_loop _]
    show wpAny _ A.in1 (pyNext (.ref it) >>= _) _ _ s
    exact wpAny_bind (walk.done s _ _ st fun s' mv => wpAny_pure (hR s' (mv.mono more) (again (fun o e => mv.heap a o aw e) hs)))
  | succ m ih =>
    intro i s hi st hs hR
    have lt : i < xs.length := by omega
    refine codeAny_builtin PyProof.Rows.F.entry_set_update_loop ?_
    rw [Around.under_plainId PyProof.Rows.F.plain_set_update_loop _]
    show wpAny _ A.in1 (pyNext (.ref it) >>= _) _ _ s
    refine wpAny_bind (walk.item i s _ _ lt st fun v s' pv st' mv => ?_)
    obtain ⟨t, rfl⟩ := is i v pv
    have hs' := again (fun o e => mv.heap a o aw e) hs
    generalize hx : xs.getD i Str.empty = x
    show wpAny _ A.in1 (holding [Value.str x t] (setAdd a (.str x t)) >>= _) _ _ s'
    refine wpAny_bind (wpAny_holding ?_)
    unfold setAdd
    refine wpAny_holding (wpAny_bind ((PySem.strKind prog w).pyHash (k := x) (strKind_is _ _ _ _) ?_))
    have room : (ded (xs.take i)).length + 1 < scanBound := by
      have := ded_len (xs.take i)
      rw [List.length_take] at this
      omega
    refine wpAny_setAddHashed_of (knd := PySem.strKind prog w) (s := { s' with toks := s'.toks + 1 }) (strKind_is _ _ _ _) rfl hs' room fun h' sb s2 => ?_
    have hs2 : Holds prog w h' a (ded (xs.take (i + 1))) := by
      rw [take_next lt, hx, ded_step]
      exact PyProof.Rows.SetOf_congr s2 (fun y => (dedS_any _ _ _).symm) (dedS_len _ _).symm
    refine wpAny_pure ⟨plainId_quiet PyProof.Rows.F.plain_set_update_loop _, ih (i + 1) _ (by omega) (walk.frame _ s' _ _ st' (Nat.le_succ _) fun b hb o e => ?_) hs2 fun s'' mv' hs'' => ?_⟩
    · rw [sb.2 b fun z => ha (by rw [← z]; exact hb)]; exact e
    · refine hR s'' (Moved.trans walk.gtrans ((mv.mono more).then_heap (Nat.le_succ _) fun b o hb e => ?_) mv') hs''
      rw [sb.2 b fun z => hb (by rw [z]; exact List.mem_cons_self)]; exact e
end
section
variable {prog : Program} {w : World} {A : Around} {E : Value → Shared → Prop} {s : Shared}
/-- the empty set that is filled -/
def fresh (h : Heap) (led : Bool) : Heap := h.push { cls := .type "set", dict := none, data := .set #[] 0 (.fresh 0 0 led) }
theorem set_made {l : Addr} {T : String} {ys : List Str} {Q : Value → Shared → Prop}
    (go : ∀ led, (∀ b o, s.heap.get? b = some o → (fresh s.heap led).get? b = some o) → codeAny (model prog w) A.in1 (.call (.builtin "set.__init__") ⟨[.ref s.heap.objs.size, .ref l], []⟩)
      (wants (fun r s2 => r = .none ∧ ∃ h' tk, s2 = { s with heap := h', toks := tk } ∧ Holds prog w h' s.heap.objs.size ys ∧ ∀ b o, s.heap.get? b = some o → h'.get? b = some o) E) { s with heap := fresh s.heap led })
    (end' : ∀ (h' : Heap) (tk : Nat), Holds prog w h' s.heap.objs.size ys → (∀ b o, s.heap.get? b = some o → h'.get? b = some o) → Q (.ref s.heap.objs.size) { s with heap := h', toks := tk }) :
    wpAny (model prog w) A (call (.type "set") [.ref l]) Q E s := by
  obtain ⟨c, tl, hmro⟩ := PySem.F.called_set.mro
  have hmade := PySem.F.called_set.made
  have hsub := PySem.F.called_set.sub
  refine wpAny_call (codeAny_of_tree ?_)
  show wpAny _ _ (callAny (.type "set") _) _ _ _
  refine wpAny_pure ⟨Code.quiet_builtin _ (by decide +kernel), codeAny_builtin PySem.F.entry_type_call ?_⟩
  rw [Around.under_plain (weight_type_call_type "set" [.ref l] []) rfl]
  have h1 := PySem.F.called_set.notType
  have h2 := PySem.F.called_set.canCreate
  have hct := PySem.F.typeCall_set_1 (.ref l)
  repeat (any_goals (first | assumption | wp_step))
  refine codeAny_mono (code_set_new_1 (.ref l) (E := E) (Q₁ := fun obj s1 => ∃ led : Bool, obj = .ref s.heap.objs.size ∧ s1 = { s with heap := fresh s.heap led }) fun led => ⟨led, rfl, rfl⟩) fun r s1 hr => ?_
  cases r with
  | error e => exact hr
  | ok fl =>
    cases fl with
    | ret obj =>
      obtain ⟨led, rfl, rfl⟩ := hr
      have hS : (fresh s.heap led).get? s.heap.objs.size = some { cls := .type "set", dict := none, data := .set #[] 0 (.fresh 0 0 led) } := Heap.get?_push_size _ rfl
      have hT : Shared.TypeIs { s with heap := fresh s.heap led } (.ref s.heap.objs.size) "set" := ⟨_, hS, rfl⟩
      have hli := PySem.F.called_set.init.lookup
      have hbi := PySem.F.called_set.init.bind (.ref s.heap.objs.size)
      repeat (any_goals (first | assumption | wp_step))
      refine codeAny_mono (go led fun b o e => Heap.get?_push_of_some _ e) fun r2 s2 hr2 => ?_
      cases r2 with
      | error e => exact hr2
      | ok fl2 =>
        cases fl2 with
        | ret r =>
          obtain ⟨rfl, h', tk, rfl, hS', hk'⟩ := hr2
          repeat (any_goals (first | assumption | wp_step))
          exact end' _ _ hS' hk'
        | _ => exact hr2.elim
    | _ => exact hr.elim
theorem texts_at : ∀ {vs : List Value} {xs : List Str}, StrsAre vs xs → ∀ (i : Nat) (v : Value), vs[i]? = some v → ∃ t, v = Value.str (xs.getD i Str.empty) t
  | _, _, .nil, i, v, e => by simp at e
  | _, _, .cons x t r, 0, v, e => ⟨t, by simp at e; rw [← e]; rfl⟩
  | _, _, .cons x t r, i + 1, v, e => by
    obtain ⟨t', q⟩ := texts_at r i v (by simpa using e)
    exact ⟨t', q⟩
theorem init_list {l : Addr} {items : Array Value} {xs : List Str} (hh : A.handled = none) (hl : s.heap.IsList l items) (hi : StrsAre items.toList xs) (few : xs.length + 1 < scanBound) (led : Bool) :
    codeAny (model prog w) A.in1 (.call (.builtin "set.__init__") ⟨[.ref s.heap.objs.size, .ref l], []⟩)
      (wants (fun r s2 => r = .none ∧ ∃ h' tk, s2 = { s with heap := h', toks := tk } ∧ Holds prog w h' s.heap.objs.size (ded xs) ∧ ∀ b o, s.heap.get? b = some o → h'.get? b = some o) E) { s with heap := fresh s.heap led } := by
  have hS : (fresh s.heap led).get? s.heap.objs.size = some { cls := .type "set", dict := none, data := .set #[] 0 (.fresh 0 0 led) } := Heap.get?_push_size _ rfl
  have hT : Shared.TypeIs { s with heap := fresh s.heap led } (.ref s.heap.objs.size) "set" := ⟨_, hS, rfl⟩
  refine codeAny_call_builtin PySem.F.called_set.init.plain PySem.F.entry_set_init (check_set_init_1 hT ?_)
  obtain ⟨⟨c, d, dt, sl⟩, hol, hcl, n, hdl⟩ := hl
  simp only at hcl hdl
  subst hcl; subst hdl
  have hol' : (fresh s.heap led).get? l = some { cls := .type "list", dict := d, data := .seq items n, slots := sl } := Heap.get?_push_of_some _ hol
  have hsls := PySem.F.sub_list_set
  have hslf := PySem.F.sub_list_frozenset
  have hne : (Value.type "list" == Value.type "dict") = false := by decide
  have hl1 : (fresh s.heap led).IsList l items := ⟨_, hol', rfl, n, rfl⟩
  unfold Builtin.«set.__init__» noKeywords Builtin.Frozenset.updateFrom
  generalize hPI : pyIter = PI
  wp_walk
  subst hPI
  refine wpAny_pyIter_list hl1 (wpAny_bind (wpAny_runValue ?_))
  have lt : l < s.heap.objs.size := Heap.lt_size hol
  have sz : (fresh s.heap led).objs.size = s.heap.objs.size + 1 := Heap.size_push _ _
  have ne : l ≠ (fresh s.heap led).objs.size := by rw [sz]; exact Nat.ne_of_lt (Nat.lt_succ_of_lt lt)
  have out : s.heap.objs.size ∉ [(fresh s.heap led).objs.size, l] := by
    rw [sz]
    intro z
    rcases List.mem_cons.mp z with z | z
    · exact absurd z (Nat.ne_of_lt (Nat.lt_succ_self _))
    · exact absurd (List.mem_singleton.mp z) (Nat.ne_of_gt lt)
  have hsz : xs.length = items.size := by rw [← StrsAre.len_eq hi, Array.length_toList]
  have wk := (Walks.list (prog := prog) (w := w) (A := A.in1.in1.in1) (by simp [hh]) _ l ne items).toS
  rw [← hsz] at wk
  refine fill_set xs wk s.heap.objs.size out few (fun i v e => texts_at hi i v (by rw [Array.getElem?_toList]; exact e)) xs.length 0 _ (by omega)
    ⟨⟨_, Heap.get?_push_size _ rfl, rfl, rfl⟩, hl1.push _⟩ ?_ ?_
  · exact PyProof.Rows.SetOf_congr ((PyProof.Rows.setObjOf_fresh (knd := PySem.strKind prog w) led).setOf (Heap.get?_push_of_some _ hS) (by unfold scanBound; omega)) (fun _ => rfl) rfl
  · rintro ⟨h', g', d', tk', os'⟩ mv hS'
    obtain rfl : g' = s.gens := mv.gens
    obtain rfl : d' = s.drawn := mv.drawn
    obtain rfl : os' = s.os := mv.os
    show wpAny _ _ _ _ _ _
    refine wpAny_pure ?_
    show wpAny _ _ (ret Value.none) _ _ _
    refine wpAny_pure ⟨rfl, h', tk', rfl, hS', fun b o e => ?_⟩
    have lb := Heap.lt_size e
    exact mv.heap b o (by
      rw [sz]
      intro z
      rcases List.mem_cons.mp z with z | z
      · exact absurd z (Nat.ne_of_lt lb)
      · exact absurd (List.mem_singleton.mp z) (Nat.ne_of_lt (Nat.lt_succ_of_lt lb))) (Heap.get?_push_of_some _ (Heap.get?_push_of_some _ e))
theorem init_tuple {l : Addr} {items : Array Value} {xs : List Str} (hh : A.handled = none) (hl : s.heap.IsTuple l items) (hi : StrsAre items.toList xs) (few : xs.length + 1 < scanBound) (led : Bool) :
    codeAny (model prog w) A.in1 (.call (.builtin "set.__init__") ⟨[.ref s.heap.objs.size, .ref l], []⟩)
      (wants (fun r s2 => r = .none ∧ ∃ h' tk, s2 = { s with heap := h', toks := tk } ∧ Holds prog w h' s.heap.objs.size (ded xs) ∧ ∀ b o, s.heap.get? b = some o → h'.get? b = some o) E) { s with heap := fresh s.heap led } := by
  have hS : (fresh s.heap led).get? s.heap.objs.size = some { cls := .type "set", dict := none, data := .set #[] 0 (.fresh 0 0 led) } := Heap.get?_push_size _ rfl
  have hT : Shared.TypeIs { s with heap := fresh s.heap led } (.ref s.heap.objs.size) "set" := ⟨_, hS, rfl⟩
  refine codeAny_call_builtin PySem.F.called_set.init.plain PySem.F.entry_set_init (check_set_init_1 hT ?_)
  obtain ⟨⟨c, d, dt, sl⟩, hol, hcl, n, hdl⟩ := hl
  simp only at hcl hdl
  subst hcl; subst hdl
  have hol' : (fresh s.heap led).get? l = some { cls := .type "tuple", dict := d, data := .seq items n, slots := sl } := Heap.get?_push_of_some _ hol
  have hsls := PySem.F.sub_tuple_set
  have hslf := PySem.F.sub_tuple_frozenset
  have hne : (Value.type "tuple" == Value.type "dict") = false := by decide
  have hl1 : (fresh s.heap led).IsTuple l items := ⟨_, hol', rfl, n, rfl⟩
  unfold Builtin.«set.__init__» noKeywords Builtin.Frozenset.updateFrom
  generalize hPI : pyIter = PI
  wp_walk
  subst hPI
  refine wpAny_pyIter_tuple hl1 (wpAny_bind (wpAny_runValue ?_))
  have lt : l < s.heap.objs.size := Heap.lt_size hol
  have sz : (fresh s.heap led).objs.size = s.heap.objs.size + 1 := Heap.size_push _ _
  have ne : l ≠ (fresh s.heap led).objs.size := by rw [sz]; exact Nat.ne_of_lt (Nat.lt_succ_of_lt lt)
  have out : s.heap.objs.size ∉ [(fresh s.heap led).objs.size, l] := by
    rw [sz]
    intro z
    rcases List.mem_cons.mp z with z | z
    · exact absurd z (Nat.ne_of_lt (Nat.lt_succ_self _))
    · exact absurd (List.mem_singleton.mp z) (Nat.ne_of_gt lt)
  have hsz : xs.length = items.size := by rw [← StrsAre.len_eq hi, Array.length_toList]
  have wk := (Walks.tuple (prog := prog) (w := w) (A := A.in1.in1.in1) (by simp [hh]) _ l ne items).toS
  rw [← hsz] at wk
  refine fill_set xs wk s.heap.objs.size out few (fun i v e => texts_at hi i v (by rw [Array.getElem?_toList]; exact e)) xs.length 0 _ (by omega)
    ⟨⟨_, Heap.get?_push_size _ rfl, rfl, rfl⟩, hl1.push _⟩ ?_ ?_
  · exact PyProof.Rows.SetOf_congr ((PyProof.Rows.setObjOf_fresh (knd := PySem.strKind prog w) led).setOf (Heap.get?_push_of_some _ hS) (by unfold scanBound; omega)) (fun _ => rfl) rfl
  · rintro ⟨h', g', d', tk', os'⟩ mv hS'
    obtain rfl : g' = s.gens := mv.gens
    obtain rfl : d' = s.drawn := mv.drawn
    obtain rfl : os' = s.os := mv.os
    show wpAny _ _ _ _ _ _
    refine wpAny_pure ?_
    show wpAny _ _ (ret Value.none) _ _ _
    refine wpAny_pure ⟨rfl, h', tk', rfl, hS', fun b o e => ?_⟩
    have lb := Heap.lt_size e
    exact mv.heap b o (by
      rw [sz]
      intro z
      rcases List.mem_cons.mp z with z | z
      · exact absurd z (Nat.ne_of_lt lb)
      · exact absurd (List.mem_singleton.mp z) (Nat.ne_of_lt (Nat.lt_succ_of_lt lb))) (Heap.get?_push_of_some _ (Heap.get?_push_of_some _ e))
end
end SF
set_option Elab.async false
set_option linter.all false
set_option maxRecDepth 100000
set_option maxHeartbeats 4000000
namespace SF
open PySem L2
section
variable {Z : Zx} {P : Pg} {k : Nat}
theorem strs_are {L : List Addr} {H : Hp} : ∀ {ys : List Str} {us : List Value}, Vals (ys.map V.str) us → PyProof.Rows.StrsAre us ys
  | [], _, .nil => .nil
  | y :: ys, _, .cons r t => by
    obtain ⟨q, rfl⟩ := r
    exact .cons y q (strs_are (L := L) (H := H) t)
/-- len(set(xs)) -/
theorem lset_ok {X : Cx} {c : Ct} (G : Gd X c Z P k) {cc : Cn} {Wx : WX} {a : E} {p p2 q pos : Pos} {x : Expr} (g1 : glbB c.sc "len" = true) (g2 : glbB c.sc "set" = true) (hs : isStar x = false) (ha : PE X x (lE Z cc Wx a)) :
    PE X (.Call (.Name "len" p) [.Call (.Name "set" p2) [x] [] q] [] pos) (lE Z cc Wx (.lset a)) := by
  have na := star_plain (es := []) (env := X.env) hs
  refine ⟨fun pins s σ H Q I ⟨L, S, env, hR, hE, h⟩ => ?_⟩
  refine PyProof.Rows.Call_ (ld_blt I (glx G g1) (G.blt _ (by decide +kernel)) PySem.boot_len ?_)
  refine PyProof.Rows.callWith_builtin1 (PyProof.Rows.args_cons ?_ rfl) rfl rfl
  refine PyProof.Rows.Call_ (ld_blt I (glx G g2) (G.blt _ (by decide +kernel)) (show bootBuiltins "set" = some (.type "set") by decide +kernel) ?_)
  refine PyProof.Rows.callWith_type1 (PyProof.Rows.args_cons (thn (ha.run pins s σ H _ I ⟨L, S, env, hR, hE, ResG.bind (T := TW) h⟩) fun v s1 ⟨y, H1, I1, r1, L1, w1, S1, e1, rl1, t1, q1, h1⟩ => PyProof.Rows.args_nil ?_) na) na rfl
  have h2 := h1.npX
  unfold biLenset at h2
  obtain ⟨ws, ews, h2⟩ := ofO_ok h2
  obtain ⟨xs, exs, h2⟩ := ofO_ok h2
  split at h2
  · rename_i few
    have hq := h2.same rl1 (.int _)
    obtain ⟨l, ys, rfl, hsq, rr⟩ := seq_spec rl1 ews t1
    have := strs_spec exs rr
    subst this
    cases r1
    have few' : xs.length + 1 < PySem.scanBound := by unfold PySem.scanBound; omega
    have fin : ∀ (h' : Heap) (tk : Nat), Holds X.prog X.w h' s1.heap.objs.size (ded xs) → (∀ b o, s1.heap.get? b = some o → h'.get? b = some o) →
        wpAny (model X.prog X.w) X.A (spliced (backTo pos (starEach [] X.env))) (fun vs s₂ => wpAny (model X.prog X.w) X.A (call (.builtin "len") (Value.ref s1.heap.objs.size :: vs)) (EP X pins σ Q) X.xe s₂) X.xe { s1 with heap := h', toks := tk } := fun h' tk hS hk => by
      refine PyProof.Rows.args_nil ?_
      obtain ⟨o, es, ep, t, ho, hex, hd, _, _, _, hf, hn⟩ := hS
      have I2 : Inv X pins σ H1 { s1 with heap := h', toks := tk } := I1.kept fun b o e => hk b o e
      have hl := ded_len xs
      exact call_len_set ho hex hd hf (by rw [hn] <;> omega) ⟨.int (ded xs).length, H1, I2.tok _, ⟨_, by rw [hn]⟩, hq⟩
    rcases hsq with hsq | hsq
    · obtain ⟨its, r, pl, hz⟩ := I1.list (by rw [G.K]; exact hsq)
      exact set_made (T := "list") (fun led _ => init_list (I1.ok.hd G.calm) pl.isList (by simpa using strs_are (L := L) (H := H) r) few' led) fin
    · obtain ⟨its, r, pl, hz⟩ := I1.tuple (by rw [G.K]; exact hsq)
      exact set_made (T := "tuple") (fun led _ => init_tuple (I1.ok.hd G.calm) pl (by simpa using strs_are (L := L) (H := H) r) few' led) fin
  · exact h2.elim
/-! isinstance -/
def tyS : Ty → String
  | .bool => "bool"
  | .int => "int"
  | .str => "str"
  | .tuple => "tuple"
  | .list => "list"
theorem ty_list {L : List Addr} {H : Hp} {K : PySem.W.Frag} {a : Addr} {xs : List V} (h : SqL K H a xs) : TyX K H (.ref a) (.type "list") := by
  rcases h with (h | ⟨o, h⟩) | ⟨o, its, n, e, c, _⟩
  · exact .base (.lst h)
  · exact .base (.frz h)
  · exact .kList e c
theorem ty_tuple {L : List Addr} {H : Hp} {K : PySem.W.Frag} {a : Addr} {xs : List V} (h : SqT K H a xs) : TyX K H (.ref a) (.type "tuple") := by
  rcases h with (h | ⟨o, h⟩) | ⟨o, its, n, e, c, _⟩
  · exact .base (.tup h)
  · exact .fTuple h
  · exact .kTuple e c
theorem isTy_spec {K : PySem.W.Frag} {L : List Addr} {H : Hp} {S : Sg} (hR : Rl K L H S) {w : W} {v : V} {t : Ty} {b : Bool} (h : isTy S w t = some b) (q : RW K L H w v) : ∃ n, TyX K H v (.type n) ∧ kitB n (tyS t) = some b := by
  cases q with
  | non =>
    refine ⟨"NoneType", .base .non, ?_⟩
    cases t <;> (simp only [isTy, Option.some.injEq] at h; subst h; decide +kernel)
  | bl =>
    refine ⟨"bool", .base (.bl _), ?_⟩
    cases t <;> (simp only [isTy, Option.some.injEq] at h; subst h; decide +kernel)
  | int =>
    refine ⟨"int", .base (.int _), ?_⟩
    cases t <;> (simp only [isTy, Option.some.injEq] at h; subst h; decide +kernel)
  | str =>
    refine ⟨"str", .base (.str _), ?_⟩
    cases t <;> (simp only [isTy, Option.some.injEq] at h; subst h; decide +kernel)
  | tup hs r =>
    refine ⟨"tuple", ty_tuple (L := L) hs, ?_⟩
    cases t <;> (simp only [isTy, Option.some.injEq] at h; subst h; decide +kernel)
  | @ref l a ha =>
    have key : ∃ ws, listAt S l = some ws := by
      cases t <;> exact (Option.map_eq_some_iff.mp h).imp fun _ z => z.1
    obtain ⟨ws, e⟩ := key
    obtain ⟨p, xs, hp, hq, r⟩ := hR.list e
    rw [ha] at hp; cases hp
    refine ⟨"list", ty_list (L := L) hq, ?_⟩
    cases t <;> (simp only [isTy, e, Option.map_some, Option.some.injEq] at h; subst h; decide +kernel)
theorem isi_ok {X : Cx} {c : Ct} (G : Gd X c Z P k) {cc : Cn} {Wx : WX} {a : E} {t : Ty} {p p2 pos : Pos} {x : Expr} (g1 : glbB c.sc "isinstance" = true) (g2 : glbB c.sc (tyNm t) = true) (hs : isStar x = false) (ha : PE X x (lE Z cc Wx a)) :
    PE X (.Call (.Name "isinstance" p) [x, .Name (tyNm t) p2] [] pos) (lE Z cc Wx (.isi a t)) := by
  have na := star_plain (es := [.Name (tyNm t) p2]) (env := X.env) hs
  have hn := nm_ne _ (tyNm_mem t)
  have fin : ∀ n : String, tyS t = n → bootBuiltins (tyNm t) = some (.type n) → PE X (.Call (.Name "isinstance" p) [x, .Name (tyNm t) p2] [] pos) (lE Z cc Wx (.isi a t)) := fun n en eb => by
    refine pe_imp (pe_callB call_isi (glx G g1) (G.blt _ (by decide +kernel)) (by decide +kernel) (pa_cons ha (pa_cons (pe_bltn (v := .ty n) (glx G g2) (G.blt _ (tyNm_mem t)) eb rfl hn.1 hn.2) pa_nil rfl) na) (by decide) (by decide) na rfl) fun σ H Q ⟨L, S, env, hR, hE, h⟩ => ?_
    refine ⟨L, S, env, hR, hE, (ResG.bind (T := TW) h).imp fun v H1 ⟨L1, w1, S1, e1, r1, t1, q1, h1⟩ => ?_⟩
    obtain ⟨b, eb', h1⟩ := h1.ofO
    obtain ⟨m, hm, hk⟩ := isTy_spec r1 eb' t1
    rw [en] at hk
    refine ⟨v, .ty n, .type m, .type n, b, rfl, .ty n, by rw [G.K]; exact hm, kit_ty hk, h1 L1 H1 _ .refl r1 (.bl b)⟩
  cases t
  · exact fin "bool" rfl (by decide +kernel)
  · exact fin "int" rfl (by decide +kernel)
  · exact fin "str" rfl (by decide +kernel)
  · exact fin "tuple" rfl (by decide +kernel)
  · exact fin "list" rfl (by decide +kernel)
end
end SF
set_option Elab.async false
set_option linter.all false
set_option maxRecDepth 100000
set_option maxHeartbeats 4000000
namespace SF
open PySem L2
section
variable {Z : Zx} {P : Pg} {k : Nat}
theorem tyNm_boot (t : Ty) : bootBuiltins (tyNm t) = some (.type (tyS t)) := by cases t <;> decide +kernel
theorem pa_tys {X : Cx} {c : Ct} (G : Gd X c Z P k) : ∀ {tys : List Ty} {xs : List Expr}, chkTys c tys xs = true → PA X xs (fun _ H Q => Q (tys.map fun t => V.ty (tyS t)) H)
  | [], [], _ => pa_nil
  | [], _ :: _, h => by simp [chkTys] at h
  | _ :: _, [], h => by simp [chkTys] at h
  | t :: ts, x :: xs, h => by
    simp only [chkTys, Bool.and_eq_true] at h
    obtain ⟨p, rfl, g⟩ := chkG_of h.1
    have hn := nm_ne _ (tyNm_mem t)
    exact pa_imp (pa_cons (pe_bltn (v := .ty (tyS t)) (glx G g) (G.blt _ (tyNm_mem t)) (tyNm_boot t) rfl hn.1 hn.2) (pa_tys G h.2) rfl) fun σ H Q q => q
/-- the one name of a type -/
theorem ty_one {K : PySem.W.Frag} {L : List Addr} {H : Hp} {S : Sg} (hR : Rl K L H S) {w : W} {v : V} {tys : List Ty} {b : Bool} (h : isTys S w tys = some b) (hne : tys ≠ []) (q : RW K L H w v) : ∃ n, TyX K H v (.type n) ∧ PySem.W.kitAny K (.type n) (tys.map fun t => Value.type (tyS t)) = some b := by
  have one : ∀ (n : String), (∀ t b, isTy S w t = some b → TyX K H v (.type n) ∧ kitB n (tyS t) = some b) → ∀ {tys : List Ty} {b : Bool}, tys ≠ [] → isTys S w tys = some b → TyX K H v (.type n) ∧ PySem.W.kitAny K (.type n) (tys.map fun t => Value.type (tyS t)) = some b := by
    intro n hn tys
    induction tys with
    | nil => intro b z; exact absurd rfl z
    | cons t ts ih =>
      intro b _ h
      simp only [isTys] at h
      split at h
      · rename_i a b' e1 e2
        cases h
        obtain ⟨hm, hk⟩ := hn t a e1
        refine ⟨hm, kitAny_cons (b := a) (kit_ty hk) (fun z => ?_) (fun z => by rw [z]; rfl)⟩
        rw [z, Bool.false_or]
        cases ts with
        | nil => cases e2; exact kitAny_nil
        | cons t' ts' => exact (ih (by simp) e2).2
      · cases h
  cases q with
  | non => exact ⟨"NoneType", one _ (fun t b z => ⟨.base .non, by cases t <;> (simp only [isTy, Option.some.injEq] at z; subst z; decide +kernel)⟩) hne h⟩
  | bl x => exact ⟨"bool", one _ (fun t b z => ⟨.base (.bl _), by cases t <;> (simp only [isTy, Option.some.injEq] at z; subst z; decide +kernel)⟩) hne h⟩
  | int x => exact ⟨"int", one _ (fun t b z => ⟨.base (.int _), by cases t <;> (simp only [isTy, Option.some.injEq] at z; subst z; decide +kernel)⟩) hne h⟩
  | str x => exact ⟨"str", one _ (fun t b z => ⟨.base (.str _), by cases t <;> (simp only [isTy, Option.some.injEq] at z; subst z; decide +kernel)⟩) hne h⟩
  | tup hs r => exact ⟨"tuple", one _ (fun t b z => ⟨ty_tuple (L := L) hs, by cases t <;> (simp only [isTy, Option.some.injEq] at z; subst z; decide +kernel)⟩) hne h⟩
  | @ref l a ha =>
    refine ⟨"list", one _ (fun t b z => ?_) hne h⟩
    have key : ∃ ws, listAt S l = some ws := by
      cases t <;> exact (Option.map_eq_some_iff.mp z).imp fun _ z => z.1
    obtain ⟨ws, e⟩ := key
    obtain ⟨p, xs, hp, hq, r⟩ := hR.list e
    rw [ha] at hp; cases hp
    refine ⟨ty_list (L := L) hq, ?_⟩
    cases t <;> (simp only [isTy, e, Option.map_some, Option.some.injEq] at z; subst z; decide +kernel)
theorem isis_ok {X : Cx} {c : Ct} (G : Gd X c Z P k) {cc : Cn} {Wx : WX} {a : E} {tys : List Ty} {p p2 pos : Pos} {j : Nat} {x : Expr} {xs : List Expr} (hne : tys ≠ []) (h9 : tys.length ≤ 9) (g1 : glbB c.sc "isinstance" = true) (g2 : chkTys c tys xs = true) (hs : isStar x = false) (ha : PE X x (lE Z cc Wx a)) :
    PE X (.Call (.Name "isinstance" p) [x, .Tuple xs j p2] [] pos) (lE Z cc Wx (.isis a tys)) := by
  have na := star_plain (es := [.Tuple xs j p2]) (env := X.env) hs
  refine pe_imp (pe_callB call_isiT (glx G g1) (G.blt _ (by decide +kernel)) (by decide +kernel) (pa_cons ha (pa_cons (pe_tup (pa_tys G g2)) pa_nil rfl) na) (by decide) (by decide) na rfl) fun σ H Q ⟨L, S, env, hR, hE, h⟩ => ?_
  refine ⟨L, S, env, hR, hE, (ResG.bind (T := TW) h).imp fun v H1 ⟨L1, w1, S1, e1, r1, t1, q1, h1⟩ => ?_⟩
  obtain ⟨b, eb', h1⟩ := h1.ofO
  have cl : ∀ ts : List Ty, Paired ClsV (ts.map fun t => V.ty (tyS t)) (ts.map fun t => Value.type (tyS t)) := fun ts => by
    induction ts with
    | nil => exact .nil
    | cons t ts ih => exact .cons (.ty _) ih
  refine ⟨by rw [List.length_map, ← lenMax_eq]; unfold lenMax; omega, fun q hq => ?_⟩
  have hx : Ex Z.K L1 H1 L1 (upd H1 q (.tup (tys.map fun t => V.ty (tyS t)))) := ex_new0 hq
  obtain ⟨n, hm, hk⟩ := ty_one (rl_tup r1 hq) eb' hne (t1.mono hx)
  rw [G.K]
  exact ⟨v, q, tys.map fun t => V.ty (tyS t), .type n, tys.map fun t => Value.type (tyS t), b, rfl, upd_same, cl tys, hm, hk, h1 L1 _ _ hx (rl_tup r1 hq) (.bl b)⟩
/-! calls of defs of the text -/
theorem run_s {X : Cx} {CX : CXT} {n : Nat} {f : Addr} {fd : FuncData} {ps ks : List Str} {sp : Sp} {E : XK} {g : List Value → List Value → List Value} {gV : List V → List V → List V} {pins : List (Addr × Obj)} {σ : L2.St} {H : Hp} {s : Shared} {Q : VK} {us ws : List Value} {vs zs : List V}
    (F : FnOk X.prog X.w X.K X.mg X.base CX n f fd ps sp) (hr : Room n X.A) (hb : KBinds X.K fd ps ks g gV) (hx : PassesAt CX X σ E) (I : L2.Inv X pins σ H s) (r : Vals vs us) (rz : Vals zs ws) (h : sp (gV vs zs) H Q E) :
    wpAny (model X.prog X.w) X.A (call (.ref f) us (ks.zip ws)) (EP X pins σ Q) X.xe s := by
  have r2 := hb.rel r rz
  have hl : (g us ws).length = ps.length := by rw [← r2.length]; exact F.len _ _ _ _ h
  refine wpAny_call (codeAny_mono (F.run X.A X.stack s H ⟨us, ks.zip ws⟩ (g us ws) (gV vs zs) Q E hr I.env0 (hb.to s us ws I.kIn hl) r2 h) fun r s' hq => ?_)
  match r, hq with
  | .error e, hq => exact hx pins H s e s' I hq
  | .ok (.ret u), hq => exact I.after hq
  | .ok .next, hq => exact hq.elim
  | .ok .brk, hq => exact hq.elim
  | .ok .cont, hq => exact hq.elim
theorem kws_all {env : Env} {pos : Pos} : ∀ {kws : List Keyword} {ks : List Str}, kwNms kws = ks.map some →
    (backToKw pos (keywordEach kws env)).all (·.1.isSome) = true ∧ (backToKw pos (keywordEach kws env)).filterMap (·.1) = ks ∧ (backToKw pos (keywordEach kws env)).any (·.1.isNone) = false
  | [], [], _ => ⟨rfl, rfl, rfl⟩
  | [], _ :: _, h => by simp [kwNms] at h
  | ⟨n, e, p⟩ :: kws, [], h => by simp [kwNms] at h
  | ⟨n, e, p⟩ :: kws, q :: ks, h => by
    simp only [kwNms, List.map_cons, List.cons.injEq] at h
    obtain ⟨rfl, h⟩ := h
    obtain ⟨a, b, c⟩ := kws_all (env := env) (pos := pos) h
    refine ⟨?_, ?_, ?_⟩
    · show ((some q).isSome && (backToKw pos (keywordEach kws env)).all (·.1.isSome)) = true
      rw [a]; rfl
    · show q :: (backToKw pos (keywordEach kws env)).filterMap (·.1) = q :: ks
      rw [b]
    · show ((some q).isNone || (backToKw pos (keywordEach kws env)).any (·.1.isNone)) = false
      rw [c]; rfl
theorem call_ok {X : Cx} {c : Ct} {n : Nat} (G : Gd X c Z P n) {Wx : WX} (tk : Takes X Wx) {h : Nat} {sh : Sh} {es ks : Es} {x : Str} {p pos : Pos} {xs : List Expr} {kws : List Keyword} (hsh : P.shs[h]? = some sh) (hx : c.fns[sh.fn]? = some x) (hg : glbB c.sc x = true) (hn : okName x = true)
    (hk : kwNms kws = sh.ks.map some) (hnil : xs = [] → es = .nil) (hs : ∀ e ∈ xs, isStar e = false) (ha : PA X xs (lA Z (cn P n) Wx es)) (hkw : PK X kws (lA Z (cn P n) Wx ks)) :
    PE X (.Call (.Name x p) xs kws pos) (lE Z (cn P n) Wx (.call h es ks)) := by
  obtain ⟨f, fd, ps, g, gV, hm, hkp, F, hb, hf, fn, hfn, hnp⟩ := G.calls h sh x hsh hx (okName_ne hn)
  obtain ⟨hdb, _, _⟩ := okName_of hn
  obtain ⟨k1, k2, k3⟩ := kws_all (env := X.env) (pos := pos) hk
  have FX : FnOk X.prog X.w X.K X.mg X.base (L2.CX X.prog X.w) n f fd ps (spF Z P n sh.fn) := by rw [G.K, G.mg]; exact F
  have bX : KBinds X.K fd ps sh.ks g gV := by rw [G.K]; exact hb
  have mX : X.mg x = some (.ref f) := by rw [G.mg]; exact hm
  have kX : PySem.W.keepIn X.K (.ref f) = true := by rw [G.K]; exact hkp
  refine ⟨fun pins s σ H Q I ⟨L, S, env, hR, hE, q⟩ => ?_⟩
  refine wpAny_Call_Name_kw (ld_glob I (glx G hg) mX ?_ hdb)
  obtain ⟨sh', e, q⟩ := ResG.ofO (show ResG Z TW L H (ofO (P.shs[h]?) _) Q _ from q)
  rw [hsh] at e; cases e
  -- behind the arguments
  have fin : ∀ {L1 : List Addr} {H1 : Hp} {S1 : Sg} {ws : List W} {vs : List V} {us : List Value} {s1 : Shared}, L2.Inv X pins σ H1 s1 → Ex Z.K L H L1 H1 → Rl Z.K L1 H1 S1 → RWs Z.K L1 H1 ws vs → Vals vs us →
      ResG Z TW L1 H1 ((evs (cn P n) ks env S1).bind fun zs S => if ws.length = sh.np ∧ zs.length = sh.ks.length then ofO (fillA ws zs sh.fill) fun xs => runF P n sh.fn xs S else .st) Q (ex Wx σ) →
      wpAny (model X.prog X.w) X.A (evalAll ((backToKw pos (keywordEach kws X.env)).map (·.2))) (fun kvs s₂ => X.K.In s₂.heap ∧ wpAny (model X.prog X.w) X.A (call (.ref f) ([] ++ us) (((backToKw pos (keywordEach kws X.env)).filterMap (·.1)).zip kvs)) (EP X pins σ Q) X.xe s₂) X.xe s1 := fun {L1 H1 S1 ws vs us s1} I1 e1 r1 t1 rv q1 => by
    refine thn (hkw.run pos pins s1 σ H1 _ I1 ⟨L1, S1, env, r1, hE.mono e1, ResG.bind (T := TWs) q1⟩) fun kvs s2 ⟨zs', H2, I2, rz, L2', zs, S2, e2, r2, t2, _, q2⟩ => ⟨I2.kIn, ?_⟩
    rw [k2]
    split at q2
    · rename_i hnp'
      obtain ⟨xs', ex', q3⟩ := q2.ofO
      clear q2
      have t3 := hf L2' H2 ws zs vs zs' xs' (t1.mono e2) t2 hnp' ex'
      have hlen : xs'.length = fn.np := by
        cases n with
        | zero => exact q3.elim
        | succ n =>
          have q4 : ResG Z TW L2' H2 (runF P (n + 1) sh.fn xs' S2) Q (ex Wx σ) := q3
          simp only [runF, hfn] at q4
          split at q4
          · assumption
          · exact q4.elim
      exact run_s (E := ex Wx σ) FX G.room bX (fun pins H s e s' I c => passAt tk σ pins H s e s' I c) I2 rv rz ⟨L2', S2, xs', fn, r2, t3, hfn, by rw [← t3.length]; exact hlen, q3⟩
    · exact q2.elim
  cases xs with
  | nil =>
    refine PySem.W.callWith_KW0 (h₀ := X.base) I.ok.mod.kin kX k1 ?_ (by rw [k3]; rfl)
    have e0 := hnil rfl
    subst e0
    have q1 : ResG Z TW L H (R.bind (.ok [] S) _) Q (ex Wx σ) := q
    exact fin (us := []) I .refl hR .nil .nil q1
  | cons y ys =>
    have he := star_plain (es := ys) (env := X.env) (hs y List.mem_cons_self)
    refine PySem.W.callWith_KW (h₀ := X.base) I.ok.mod.kin kX k1 (thn (ha.run pos pins s σ H _ I ⟨L, S, env, hR, hE, ResG.bind (T := TWs) q⟩) fun us s1 ⟨vs, H1, I1, rv, L1, ws, S1, e1, r1, t1, _, q1⟩ => ?_) ?_ he
    · exact fin I1 e1 r1 t1 rv q1
    · rw [back_plain hs, k3]; rfl
end
end SF
set_option Elab.async false
set_option linter.all false
set_option maxRecDepth 100000
set_option maxHeartbeats 4000000
namespace SF
open PySem L2
section
variable {Z : Zx} {P : Pg} {k : Nat}
/-! what is walked -/
theorem sr_fix {K : PySem.W.Frag} {L : List Addr} {H : Hp} {a : Addr} {xs : List V} {ws : List W} (h : SqT K H a xs) (r : RWs K L H ws xs) : SR K L H (.fix ws) (Itt K a) := by
  intro L1 H1 S1 i e rl
  have h1 := e.tup _ _ h
  have r1 := r.mono e
  show match (some ws[i]? : Option (Option W)) with | none => True | some none => _ | some (some w) => _
  cases q : ws[i]? with
  | none => exact ⟨xs, h1, List.getElem?_eq_none_iff.mp (r1.none q)⟩
  | some w =>
    obtain ⟨v, ev, rv⟩ := r1.get q
    refine ⟨⟨xs, v, h1, ev⟩, fun x H2 ⟨e2, y⟩ => ?_⟩
    subst e2
    have := y xs h1
    rw [ev] at this; cases this
    exact ⟨.refl, rl, rv⟩
theorem sr_lis {K : PySem.W.Frag} {L : List Addr} {H : Hp} {a : Addr} {l : Nat} (h : L[l]? = some a) : SR K L H (.lis l) (Itl K a) := by
  intro L1 H1 S1 i e rl
  show match ((listAt S1 l).map (·[i]?) : Option (Option W)) with | none => True | some none => _ | some (some w) => _
  cases q : listAt S1 l with
  | none => trivial
  | some ws =>
    obtain ⟨b, xs, hb, hq, r⟩ := rl.list q
    rw [e.at h] at hb; cases hb
    show match (some ws[i]? : Option (Option W)) with | none => True | some none => _ | some (some w) => _
    cases q2 : ws[i]? with
    | none => exact ⟨xs, hq, List.getElem?_eq_none_iff.mp (r.none q2)⟩
    | some w =>
      obtain ⟨v, ev, rv⟩ := r.get q2
      refine ⟨⟨xs, v, hq, ev⟩, fun x H2 ⟨e2, y⟩ => ?_⟩
      subst e2
      have := y xs hq
      rw [ev] at this; cases this
      exact ⟨.refl, rl, rv⟩
theorem sr_rng {K : PySem.W.Frag} {L : List Addr} {H : Hp} (lo : Int) (n : Nat) : SR K L H (.rng lo n) (Itr lo n) := by
  intro L1 H1 S1 i e rl
  show match (some (if i < n then some (W.int (lo + i)) else none) : Option (Option W)) with | none => True | some none => _ | some (some w) => _
  by_cases q : i < n
  · rw [if_pos q]
    refine ⟨q, fun x H2 ⟨e2, y⟩ => ?_⟩
    subst e2; subst y
    exact ⟨.refl, rl, .int _⟩
  · rw [if_neg q]
    exact Nat.le_of_not_lt q
theorem sr_enm {K : PySem.W.Frag} {L : List Addr} {H : Hp} {a : Addr} {l : Nat} (h : L[l]? = some a) : SR K L H (.enm (.lis l)) (Ite K a) := by
  intro L1 H1 S1 i e rl
  have z := sr_lis h L1 H1 S1 i e rl
  show match ((((Src.lis l).at i S1).map (Option.map fun w => W.tup [.int i, w])) : Option (Option W)) with | none => True | some none => _ | some (some w) => _
  revert z
  cases (Src.lis l).at i S1 with
  | none => exact fun _ => trivial
  | some o =>
    cases o with
    | none => exact fun z => z
    | some w =>
      rintro ⟨⟨xs, v, hq, ev⟩, y⟩
      refine ⟨⟨xs, v, hq, ev⟩, ?_⟩
      rintro x H2 ⟨T, x', rfl, hT, rfl, y'⟩
      obtain ⟨_, _, rv⟩ := y x' H1 ⟨rfl, y'⟩
      have hx : Ex K L1 H1 L1 (upd H1 T (.tup [.int (i : Nat), x'])) := ex_new0 hT
      exact ⟨hx, rl_tup rl hT, .tup (.inl (.inl upd_same)) (.cons (.int _) (.cons (rv.mono hx) .nil))⟩
theorem i_seq {X : Cx} {cc : Cn} {Wx : WX} {a : E} {x tg : Expr} (hK : X.K = Z.K) (ha : PE X x (lE Z cc Wx a)) : PI X tg x (lI Z cc Wx (.seq a)) := by
  refine ⟨fun pins s σ H R I ⟨L, S, env, hR, hE, h⟩ => ?_⟩
  have hb := ResG.bind (T := TW) (show ResG Z SR L H ((ev cc a env S).bind fun w S => ofO (srcOf w S) fun s => .ok s S) R (ex Wx σ) from h)
  -- what kind of thing it is is known ahead
  have kind : ∀ Q : V → Hp → Prop, (∀ v H1, (∃ L1 w S1, Ex Z.K L H L1 H1 ∧ Rl Z.K L1 H1 S1 ∧ RW Z.K L1 H1 w v ∧ ev cc a env S = .ok w S1 ∧ ResG Z SR L1 H1 (ofO (srcOf w S1) fun s => .ok s S1) R (ex Wx σ)) → Q v H1) → lE Z cc Wx a σ H Q := fun Q hQ => ⟨L, S, env, hR, hE, hb.imp fun v H1 z => hQ v H1 z⟩
  by_cases hl : ∃ ws S1, ev cc a env S = .ok (.tup ws) S1
  · obtain ⟨ws0, S0, e0⟩ := hl
    refine (pi_tup ha).run pins s σ H R I (kind _ ?_)
    rintro v H1 ⟨L1, w, S1, e1, r1, t1, q1, h1⟩
    rw [e0] at q1; cases q1
    cases t1 with
    | tup hs r =>
      rw [hK]
      exact ⟨_, rfl, ⟨_, hs⟩, h1 L1 H1 _ .refl r1 (sr_fix hs r)⟩
  · refine (pi_list ha).run pins s σ H R I (kind _ ?_)
    rintro v H1 ⟨L1, w, S1, e1, r1, t1, q1, h1⟩
    obtain ⟨src, es, h1⟩ := h1.ofO
    cases t1 <;> first | (cases es; done) | skip
    · exact absurd ⟨_, _, q1⟩ hl
    · rename_i l b hb'
      obtain ⟨ws, e2, rfl⟩ := Option.map_eq_some_iff.mp (show (listAt S1 l).map (fun _ => Src.lis l) = some src from es)
      obtain ⟨b2, xs, hb2, hq, rr⟩ := r1.list e2
      rw [hb'] at hb2; cases hb2
      rw [hK]
      exact ⟨_, rfl, ⟨_, hq⟩, h1 L1 H1 _ .refl r1 (sr_lis hb')⟩
theorem small_of {i : Int} (h : small62 i = true) : -(2 ^ 62) ≤ i ∧ i < 2 ^ 62 := by
  unfold small62 at h
  rw [Bool.and_eq_true] at h
  exact ⟨of_decide_eq_true h.1, of_decide_eq_true h.2⟩
theorem i_rng {X : Cx} {c : Ct} (G : Gd X c Z P k) {cc : Cn} {Wx : WX} {a : E} {x tg : Expr} {p pos : Pos} (hg : glbB c.sc "range" = true) (hs : isStar x = false) (ha : PE X x (lE Z cc Wx a)) : PI X tg (.Call (.Name "range" p) [x] [] pos) (lI Z cc Wx (.rng a)) := by
  have na := star_plain (es := []) (env := X.env) hs
  refine pi_imp (pi_range1 (glx G hg) (G.blt _ (by decide +kernel)) (pa_cons ha pa_nil na) na) fun σ H R ⟨L, S, env, hR, hE, h⟩ => ?_
  refine ⟨L, S, env, hR, hE, (ResG.bind (T := TW) h).imp fun v H1 ⟨L1, w, S1, e1, r1, t1, q1, h1⟩ => ?_⟩
  obtain ⟨src, es, h1⟩ := h1.ofO
  cases t1 <;> first | (cases es; done) | skip
  rename_i j _
  have es' : (if small62 j then some (Src.rng 0 j.toNat) else none) = some src := es
  split at es'
  · rename_i hj
    cases es'
    exact ⟨j, rfl, (small_of hj).1, (small_of hj).2, h1 L1 H1 _ .refl r1 (sr_rng 0 j.toNat)⟩
  · cases es'
theorem rng2_inv {v w : W} {s : Src} (h : rng2Of v w = some s) : ∃ i j, v = .int i ∧ w = .int j ∧ small62 i = true ∧ small62 j = true ∧ s = .rng i (j - i).toNat := by
  unfold rng2Of at h
  split at h
  · split at h
    · rename_i hb
      rw [Bool.and_eq_true] at hb
      cases h
      exact ⟨_, _, rfl, rfl, hb.1, hb.2, rfl⟩
    · cases h
  · cases h
theorem i_rng2 {X : Cx} {c : Ct} (G : Gd X c Z P k) {cc : Cn} {Wx : WX} {a b : E} {x y tg : Expr} {p pos : Pos} (hg : glbB c.sc "range" = true) (hs : isStar x = false) (hs2 : isStar y = false) (ha : PE X x (lE Z cc Wx a)) (hb : PE X y (lE Z cc Wx b)) : PI X tg (.Call (.Name "range" p) [x, y] [] pos) (lI Z cc Wx (.rng2 a b)) := by
  have na := star_plain (es := [y]) (env := X.env) hs
  have nb := star_plain (es := []) (env := X.env) hs2
  refine pi_imp (pi_range2 (glx G hg) (G.blt _ (by decide +kernel)) (pa_cons ha (pa_cons hb pa_nil nb) na) (by rw [na, nb]; rfl) nb) fun σ H R ⟨L, S, env, hR, hE, h⟩ => ?_
  refine ⟨L, S, env, hR, hE, (ResG.bind (T := TW) h).imp fun v H1 ⟨L1, w, S1, e1, r1, t1, q1, h1⟩ => ?_⟩
  refine ⟨L1, S1, env, r1, hE.mono e1, (ResG.bind (T := TW) h1).imp fun u H2 ⟨L2', w2, S2, e2, r2, t2, q2, h2⟩ => ?_⟩
  obtain ⟨src, es, h3⟩ := h2.ofO
  obtain ⟨i, j, rfl, rfl, hi, hj, rfl⟩ := rng2_inv es
  cases t1; cases t2
  exact ⟨i, j, rfl, ⟨(small_of hi).1, (small_of hi).2, (small_of hj).1, (small_of hj).2⟩, h3 L2' H2 _ .refl r2 (sr_rng i (j - i).toNat)⟩
end
end SF
set_option Elab.async false
set_option linter.all false
set_option maxRecDepth 100000
set_option maxHeartbeats 4000000
namespace SF
open PySem PySem.Spec PyProof.Rows
/-! # 8. enumerate of a tuple -/
/-- the enumerate object as it begins over an iterator -/
def enumObj (it : Addr) : Obj := { cls := .type "enumerate", data := .fields #[.none, .bool false, .ref it, rawInt 0, .none, .none] }
theorem enum_made {v : Value} {o : Obj} {G : Heap → Prop} (B : Begins v o G) : Meets (Builtin.«enumerate.__new__» ⟨[.type "enumerate", v], []⟩)
    (fun _ R s => G s.heap ∧ R (.ok (.ret (.ref (s.heap.push o).objs.size))) { s with heap := (s.heap.push o).push (enumObj s.heap.objs.size) }) := by
  refine .of_wp fun prog w A R s ⟨g, h⟩ => ?_
  obtain ⟨hp, gs, dr, tk, os⟩ := s
  have hsub := sub_enumerate
  have step : ∀ {A' : Around} {E : Value → Shared → Prop} {Q : Value → Shared → Prop}, Q (.ref hp.objs.size) ⟨hp.push o, gs, dr, tk, os⟩ → wpAny (model prog w) A' (pyIter v) Q E ⟨hp, gs, dr, tk, os⟩ := fun q => B.iter _ _ _ _ ⟨hp, gs, dr, tk, os⟩ _ g q
  wp_walk using step
  refine wpAny_stack_any fun st => wpAny_pure ?_
  split
  · rename_i c _ _ _ _ _
    cases (c == Value.type "enumerate") <;> (wp_walk using step; exact ⟨_, rfl, h⟩)
  · wp_walk using step
    exact ⟨_, rfl, h⟩
theorem enum_call {prog : Program} {w : World} {A : Around} {E : Value → Shared → Prop} {s : Shared} {v : Value} {o : Obj} {G : Heap → Prop} {Q : Value → Shared → Prop} (B : Begins v o G) (g : G s.heap)
    (h : ∀ h', IsEnum h' (s.heap.objs.size + 1) s.heap.objs.size 0 .none → h'.get? s.heap.objs.size = some o → (∀ b u, s.heap.get? b = some u → h'.get? b = some u) → Q (.ref (s.heap.objs.size + 1)) { s with heap := h' }) :
    wpAny (model prog w) A (call (.type "enumerate") [v]) Q E s := by
  have sz : (s.heap.push o).objs.size = s.heap.objs.size + 1 := Heap.size_push ..
  have at1 : IsEnum ((s.heap.push o).push (enumObj s.heap.objs.size)) (s.heap.objs.size + 1) s.heap.objs.size 0 .none := by
    have q := Heap.get?_push_size (s.heap.push o) (o := enumObj s.heap.objs.size) rfl
    rw [sz] at q
    exact q
  refine callType_new F.called_enumerate (by decide) (F.typeCall_enumerate_1 _) (F.newCall_enumerate_1 _) (fun obj => F.args_object_init_2 obj _) F.entry_enumerate_new (enum_made B) ⟨g, ?_⟩
  show _ ∧ _
  rw [sz]
  exact ⟨⟨_, at1, rfl⟩, h _ at1 (Heap.get?_push_of_some _ (Heap.get?_push_size _ B.free)) fun b u x => Heap.get?_push_of_some _ (Heap.get?_push_of_some _ x)⟩
end SF
namespace SF
open PySem PySem.Spec PyProof.Rows L2
/-- the tuple at a, each item in a new pair -/
def Itet (K : PySem.W.Frag) (a : Addr) : L2.It where
  go i H := ∃ (xs : List V) (x : V), SqT K H a xs ∧ xs[i]? = some x
  yld i H v H' := ∃ T x, v = .ref T ∧ H T = none ∧ H' = upd H T (.tup [.int (i : Nat), x]) ∧ ∀ xs, SqT K H a xs → xs[i]? = some x
  stop i H := ∃ xs : List V, SqT K H a xs ∧ xs.length ≤ i
theorem turn_enumT {P : Program} {w : World} {K : PySem.W.Frag} {elts : List Expr} {j : Nat} {tp : Pos} (a e it : Addr) :
    Turn P w K (.Tuple elts j tp) (Itet K a) [e, it] e (fun i h => (∃ old, IsEnum h e it ((i : Nat) : Int) old) ∧ h.IsTupleIter it a i ∧ e ≠ it) where
  mem := List.mem_cons_self
  obj := fun i h ⟨⟨old, he⟩, ⟨o, ho, hc, hd⟩, _⟩ b hb => by
    rcases List.mem_cons.mp hb with z | z
    · rw [z]; exact ⟨_, he, fun v q => nomatch q⟩
    · rw [List.mem_singleton.mp z]; exact ⟨o, ho, fun v q => by rw [hd] at q; cases q⟩
  keep := fun i h h' ⟨⟨old, he⟩, hi, hne⟩ k => ⟨⟨old, k e List.mem_cons_self _ he⟩, hi.at fun o q => k it (List.mem_cons_of_mem _ List.mem_cons_self) o q, hne⟩
  item := by
    intro X hP hw hK hc i pins s σ H E I hf st hg
    subst hP hw hK
    obtain ⟨⟨old, he⟩, hit, hne⟩ := st
    obtain ⟨xs, x, hq, hx⟩ := hg
    obtain ⟨its, rv, p, hz⟩ := I.tuple hq
    obtain ⟨u, hu, ru⟩ := rv.get hx
    have le : e < s.heap.objs.size := Heap.lt_size he
    have li : it < s.heap.objs.size := let ⟨_, q, _⟩ := hit; Heap.lt_size q
    have nta : a ≠ it := by
      intro z
      subst z
      obtain ⟨o1, h1, c1, _⟩ := p
      obtain ⟨o2, h2, c2, _⟩ := hit
      rw [h1] at h2; cases h2
      rw [c1] at c2; exact absurd c2 (by decide)
    have nte : e ≠ a := by
      intro z
      subst z
      obtain ⟨o1, h1, c1, _⟩ := p
      have he' : s.heap.get? e = some _ := he
      rw [h1] at he'; cases he'
      exact absurd (show Value.type "enumerate" = Value.type "tuple" from c1) (by decide)
    have D : Draws X.prog X.w X.A.in1 it [it, a] its.toArray.size (fun i v => its.toArray[i]? = some v) (fun i h => h.IsTupleIter it a i ∧ h.IsTuple a its.toArray) := Draws.tuple (by simp [I.ok.hd hc]) it a nta its.toArray
    have lt : i < its.toArray.size := by
      have := (List.getElem?_eq_some_iff.mp hu).1
      simpa using this
    refine wpAny_pyNext_enum_itemD D he ⟨hit, p⟩ lt hne (by simp [hne, nte]) fun y h' tk hy ho st' hT hsz hk => ?_
    have ey : y = u := by
      have : its[i]? = some y := by simpa using hy
      rw [hu] at this; cases this; rfl
    subst ey
    refine ⟨_, rfl, wpAny_letOwnedTupleGo_enum (s := { s with heap := h', toks := tk + 1 }) ho fun h'' he' sb => ?_⟩
    have hT2 := (sb.2 _ (Nat.ne_of_gt le)).trans hT
    have new : ObjOk X.prog X.w (upd H s.heap.objs.size (.tup [.int (i : Nat), x])) h'' s.heap.objs.size (.tup [.int (i : Nat), x]) :=
      ⟨by show 2 ≤ sizeLine; decide, [.int i tk, y], .cons ⟨_, rfl⟩ (.cons ru .nil), ⟨_, hT2, rfl, _, rfl⟩⟩
    have I1 := I.turnedNew (ch := [e, it]) (t' := tk + 1) (fun b ob hb q => (sb.2 b (fun z => hb (by simp [z]))).trans (hk b ob (fun z => hb (by simp [z])) (fun z => hb (by simp [z])) q)) hf (Nat.le_refl _) new
    refine ⟨.ref s.heap.objs.size, _, I1, rfl, ⟨_, x, rfl, I.hok.fresh (Nat.le_refl _), rfl, fun ys hy => ?_⟩, ⟨⟨y, ?_⟩, st'.1.at fun o q => (sb.2 it (Ne.symm hne)).trans q, hne⟩, fun b hb => ?_⟩
    · rw [I.tuple_inj hy hq]; exact hx
    · have e1 : ((i + 1 : Nat) : Int) = (i : Int) + 1 := by omega
      rw [e1]; exact he'
    · have lb : b < s.heap.objs.size := by
        rcases List.mem_cons.mp hb with z | z
        · rw [z]; exact le
        · rw [List.mem_singleton.mp z]; exact li
      rw [upd_ne (Nat.ne_of_lt lb)]
      exact (hf b hb).1
  done := by
    intro X hP hw hK hc i pins s σ H E I hf st hg
    subst hP hw hK
    obtain ⟨⟨old, he⟩, hit, hne⟩ := st
    obtain ⟨xs, hq, hx⟩ := hg
    obtain ⟨its, rv, p, hz⟩ := I.tuple hq
    obtain ⟨f0, f1, f2, f3, f4, f5⟩ := hf it (List.mem_cons_of_mem _ List.mem_cons_self)
    have hl := rv.length
    have D : Draws X.prog X.w X.A.in1 it [it, a] i (fun _ _ => False) (fun n h => n = i ∧ h.IsTupleIter it a n ∧ h.IsTuple a its.toArray) :=
      { live := fun _ _ st => let ⟨_, ⟨o, ho, _⟩, _⟩ := st; ⟨o, ho⟩
        frame := fun _ _ _ st k => ⟨st.1, st.2.1.at fun o q => k it List.mem_cons_self o q, st.2.2.at fun o q => k a (List.mem_cons_of_mem _ List.mem_cons_self) o q⟩
        item := fun n s Q E lt st _ => absurd st.1 (Nat.ne_of_lt lt)
        done := fun s Q E st hE => wpAny_nextOf_tuple_end (by simp [I.ok.hd hc]) st.2.1 st.2.2 (by simp; omega) hE }
    exact wpAny_pyNext_enum_endD D he ⟨rfl, hit, p⟩ fun h' eb => ⟨rfl, I.turned (t' := s.toks) (fun b o hb q => eb b o hb q) f0 f1 f3 f4 f5⟩
  self := fun A i s Q E st h => let ⟨⟨_, he⟩, _⟩ := st; wpAny_pyIter_enum he h
def iEnumT (K : PySem.W.Frag) (ta : TA) : TI := fun σ H R => ta σ H fun vs H1 => ∃ a xs, vs = [.ref a] ∧ SqT K H1 a xs ∧ R (Itet K a) H1
theorem pi_enumT {X : Cx} {e : Expr} {ta : TA} {p pos tp : Pos} {elts : List Expr} {j : Nat} (hg : Gl X "enumerate") (hm : X.mg "enumerate" = none) (ha : PA X [e] ta) (hs : starEach [e] X.env = [(false, eval e X.env)]) :
    PI X (.Tuple elts j tp) (.Call (.Name "enumerate" p) [e] [] pos) (iEnumT X.K ta) := by
  refine ⟨fun pins s σ H R I h => ?_⟩
  refine Call_ (ld_blt I hg hm boot_enumerate (PyProof.Rows.callWith_type1 (thn (ha.run pos pins s σ H _ I h) fun us s1 ⟨vs, H1, I1, r1, a, xs, ex, hq, q⟩ => ?_) hs rfl))
  subst ex
  obtain _ | ⟨r, _ | _⟩ := r1
  cases r
  obtain ⟨its, rv, pt, hz⟩ := I1.tuple hq
  refine enum_call (begins_tuple a its.toArray) pt fun h' he hit hk => wpAny_pyIter_enum he ?_
  have I2 : L2.Inv X pins σ H1 { s1 with heap := h' } := I1.kept (t' := s1.toks) hk
  refine ⟨s1.heap.objs.size + 1, [s1.heap.objs.size + 1, s1.heap.objs.size], _, _, H1, rfl, I2, turn_enumT a (s1.heap.objs.size + 1) s1.heap.objs.size, ⟨⟨.none, he⟩, ⟨_, hit, rfl, rfl⟩, Nat.succ_ne_self _⟩, fun b hb => ?_, q⟩
  have le : s1.heap.objs.size ≤ b := by
    rcases List.mem_cons.mp hb with z | z
    · rw [z]; exact Nat.le_add_right _ _
    · rw [List.mem_singleton.mp z]; exact Nat.le_refl _
  exact I1.fpOk le (I1.hok.fresh le)
end SF
set_option Elab.async false
set_option linter.all false
set_option maxRecDepth 100000
set_option maxHeartbeats 4000000
namespace SF
open PySem PySem.Calls PyProof.Rows PySem.W
/-! # 9. a, *b, c = xs -/
section
variable {prog : Program} {w : World} {A : Around} {E : Value → Shared → Prop} {s : Shared}
/-- what a starred target makes of a sequence: i ahead, m behind -/
def starCut (xs : List Value) (i m : Nat) (D : Addr) : List Value := xs.take i ++ [.ref D] ++ (xs.drop i).drop (xs.length - i - m)
theorem star_tail {l it : Addr} {items : Array Value} {n i : Nat} {T : String} {St : Nat → Heap → Prop} {h1 : Heap} {Q : List Value → Shared → Prop} (hi : i < n) (hn : n ≤ items.size + 1) (hz : items.size ≤ sizeLine)
    (hT : T = "str_ascii_iterator" ∨ T = "str_iterator" ∨ T = "list_iterator" ∨ T = "tuple_iterator") (wk : Walks prog w A.in1 it [it, l] [it] items.size (fun i v => items[i]? = some v) St) (ty : ∀ j (u : Shared), St j u.heap → u.TypeIs (.ref it) T)
    (st : St i h1) (bi : it < h1.objs.size) (bl : l < h1.objs.size) (old : ∀ b o, b ≠ it → s.heap.get? b = some o → h1.get? b = some o) (hit : s.heap.objs.size ≤ it)
    (h : ∀ (h2 : Heap) (tk : Nat), (∀ b o, s.heap.get? b = some o → h2.get? b = some o) →
      Q (starCut items.toList i (n - 1 - i) h2.objs.size) { s with heap := h2.push { cls := .type "list", data := .seq ((items.toList.drop i).take (items.size - i - (n - 1 - i))).toArray }, toks := tk }) :
    wpAny (model prog w) A (do
      let rest ← holding (items.toList.take i) (collect (.ref it))
      let after := n - 1 - i
      if rest.length < after then
        rule "unpack.star.too-few"
        raiseError "ValueError" s!"not enough values to unpack (expected at least {n - 1}, got {i + rest.length})"
      let mid := rest.length - after
      return (items.toList.take i) ++ [← newList (rest.take mid)] ++ rest.drop mid) Q E { s with heap := h1 } := by
  refine wpAny_bind (wpAny_holding (kun_collect (s := { s with heap := h1 }) hT wk ty (k := i) (by omega) st bi bl (fun h2 tk k2 => ?_) hz))
  have ln : (items.toList.drop i).length = items.size - i := by rw [List.length_drop, Array.length_toList]
  show wpAny _ _ (if (items.toList.drop i).length < n - 1 - i then _ else _) _ _ _
  rw [if_neg (by rw [ln]; omega)]
  show wpAny _ _ (newList ((items.toList.drop i).take ((items.toList.drop i).length - (n - 1 - i))) >>= fun d => pure (items.toList.take i ++ [d] ++ (items.toList.drop i).drop ((items.toList.drop i).length - (n - 1 - i)))) _ _ _
  rw [ln]
  have keep : ∀ b o, s.heap.get? b = some o → h2.get? b = some o := fun b o e => by
    have nb : b ≠ it := Nat.ne_of_lt (Nat.lt_of_lt_of_le (Heap.lt_size e) hit)
    exact k2 b o nb (old b o nb e)
  refine wpAny_bind (wpAny_newList ?_ (by rw [List.length_take, ln]; omega))
  refine wpAny_pure ?_
  have q := h h2 tk keep
  unfold starCut at q
  rw [Array.length_toList] at q
  exact q
theorem star_list {l : Addr} {items : Array Value} {n i : Nat} {Q : List Value → Shared → Prop} (hh : A.handled = none) (hl : s.heap.IsList l items) (hi : i < n) (hn : n ≤ items.size + 1) (hz : items.size ≤ sizeLine)
    (h : ∀ (h2 : Heap) (tk : Nat), (∀ b o, s.heap.get? b = some o → h2.get? b = some o) →
      Q (starCut items.toList i (n - 1 - i) h2.objs.size) { s with heap := h2.push { cls := .type "list", data := .seq ((items.toList.drop i).take (items.size - i - (n - 1 - i))).toArray }, toks := tk }) :
    wpAny (model prog w) A (unpackItems (.ref l) n (some i)) Q E s := by
  have ll : l < s.heap.objs.size := let ⟨o, ho, _⟩ := hl; Heap.lt_size ho
  have lne : l ≠ s.heap.objs.size := Nat.ne_of_lt ll
  unfold unpackItems
  refine wpAny_bind ?_
  unfold notIterableAtAll
  refine wpAny_bind (wpAny_specialOf hl.typeIs PySem.F.slot_list_iter.lookup (wpAny_pure ?_))
  rw [if_neg Bool.false_ne_true]
  refine wpAny_bind (wpAny_holding (wpAny_pyIter_list hl ?_))
  refine wpAny_bind (wpAny_holding (kun_draw lne i 0 _ _ ⟨_, Heap.get?_push_size _ rfl, rfl, rfl⟩ (hl.push _) (by omega) fun h1 it1 sb => ?_))
  have l1 : h1.IsList l items := (hl.push _).extBut sb.extBut lne
  rw [Nat.zero_add] at it1
  rw [List.drop_zero, if_neg (by rw [List.length_take, Array.length_toList]; omega)]
  exact star_tail (s := s) hi hn hz (.inr (.inr (.inl rfl))) (Walks.list (A := A.in1) (by simp [hh]) s.heap.objs.size l lne items) (fun j u st => st.1.typeIs) ⟨it1, l1⟩ (let ⟨o, ho, _⟩ := it1; Heap.lt_size ho) (let ⟨o, ho, _⟩ := l1; Heap.lt_size ho)
    (fun b o nb e => sb.extBut b o nb (Heap.get?_push_of_some _ e)) (Nat.le_refl _) h
theorem star_tuple {l : Addr} {items : Array Value} {n i : Nat} {Q : List Value → Shared → Prop} (hh : A.handled = none) (hl : IsTup s.heap l items) (hi : i < n) (hn : n ≤ items.size + 1) (hz : items.size ≤ sizeLine)
    (h : ∀ (h2 : Heap) (tk : Nat), (∀ b o, s.heap.get? b = some o → h2.get? b = some o) →
      Q (starCut items.toList i (n - 1 - i) h2.objs.size) { s with heap := h2.push { cls := .type "list", data := .seq ((items.toList.drop i).take (items.size - i - (n - 1 - i))).toArray }, toks := tk }) :
    wpAny (model prog w) A (unpackItems (.ref l) n (some i)) Q E s := by
  have ll : l < s.heap.objs.size := let ⟨o, ho, _⟩ := hl; Heap.lt_size ho
  have lne : l ≠ s.heap.objs.size := Nat.ne_of_lt ll
  unfold unpackItems
  refine wpAny_bind ?_
  unfold notIterableAtAll
  refine wpAny_bind (wpAny_specialOf hl.typeIs PySem.F.slot_tuple_iter.lookup (wpAny_pure ?_))
  rw [if_neg Bool.false_ne_true]
  refine wpAny_bind (wpAny_holding (iter_tuple hl ?_))
  refine wpAny_bind (wpAny_holding (draw_tuple lne i 0 _ _ ⟨_, Heap.get?_push_size _ rfl, rfl, rfl⟩ (hl.push _) (by omega) fun h1 it1 sb => ?_))
  have l1 : IsTup h1 l items := (hl.push _).extBut sb.extBut lne
  rw [Nat.zero_add] at it1
  rw [List.drop_zero, if_neg (by rw [List.length_take, Array.length_toList]; omega)]
  exact star_tail (s := s) hi hn hz (.inr (.inr (.inr rfl))) (Walks.tuple (A := A.in1) (by simp [hh]) s.heap.objs.size l lne items) (fun j u st => st.1.typeIs) ⟨it1, l1⟩ (let ⟨o, ho, _⟩ := it1; Heap.lt_size ho) (let ⟨o, ho, _⟩ := l1; Heap.lt_size ho)
    (fun b o nb e => sb.extBut b o nb (Heap.get?_push_of_some _ e)) (Nat.le_refl _) h
end
end SF
set_option Elab.async false
set_option linter.all false
set_option maxRecDepth 100000
set_option maxHeartbeats 4000000
namespace SF
open PySem L2
section
variable {Z : Zx} {P : Pg} {k : Nat}
/-! the block of a comprehension -/
theorem lab_look (g : Str → NameKind → Bool) (x : Str) : ∀ ys : List (Str × NameKind), (ys.map fun y => if g y.1 y.2 = true then (y.1, NameKind.cell) else y).lookup x = (ys.lookup x).map fun q => if g x q = true then NameKind.cell else q
  | [] => rfl
  | (n, q) :: ys => by
    have ih := lab_look g x ys
    rw [List.map_cons]
    cases hb : x == n with
    | true =>
      have e : x = n := eq_of_beq hb
      subst e
      rw [List.lookup_cons, List.lookup_cons, beq_self_eq_true]
      show (match (x == (if g x q = true then (x, NameKind.cell) else (x, q)).1) with | true => some (if g x q = true then (x, NameKind.cell) else (x, q)).2 | false => _) = some (if g x q = true then NameKind.cell else q)
      by_cases hc : g x q = true
      · rw [if_pos hc, if_pos hc, beq_self_eq_true]
      · rw [if_neg hc, if_neg hc, beq_self_eq_true]
    | false =>
      rw [List.lookup_cons, List.lookup_cons, hb]
      show (match (x == (if g n q = true then (n, NameKind.cell) else (n, q)).1) with | true => some (if g n q = true then (n, NameKind.cell) else (n, q)).2 | false => _) = _
      by_cases hc : g n q = true
      · rw [if_pos hc, hb]; exact ih
      · rw [if_neg hc, hb]; exact ih
theorem relabel_look {sc : Scope} {env : Env} {x : Str} : (relabel sc env).names.lookup x = (sc.names.lookup x).map fun q => if (q == NameKind.free && env.scope.kind == ScopeKind.function && env.kindOf x == some NameKind.cell) = true then NameKind.cell else q :=
  lab_look (fun n q => q == NameKind.free && env.scope.kind == ScopeKind.function && env.kindOf n == some NameKind.cell) x sc.names
theorem gd_blk {X : Cx} {c : Ct} (G : Gd X c Z P k) (sc : Scope) (s : Shared) (H : Hp) (C : Addr) (cl : List (Str × Addr)) (fp : List Addr) : Gd (X.blk s H sc (compEnvC sc cl C X.env) fp) { c with sc := sc } Z P k := by
  have look : ∀ x, (compEnvC sc cl C X.env).scope.names.lookup x = (sc.names.lookup x).map fun q => if (q == NameKind.free && X.env.scope.kind == ScopeKind.function && X.env.kindOf x == some NameKind.cell) = true then NameKind.cell else q := fun x => relabel_look
  have stay : ∀ x q, q ≠ NameKind.free → sc.names.lookup x = some q → (compEnvC sc cl C X.env).scope.names.lookup x = some q := fun x q hq e => by
    rw [look, e]
    cases q <;> first | rfl | exact absurd rfl hq
  have free : ∀ x, sc.names.lookup x = some .free → (compEnvC sc cl C X.env).scope.names.lookup x = some .cell ∨ (compEnvC sc cl C X.env).scope.names.lookup x = some .free := fun x e => by
    rw [look, e, Option.map_some]
    split
    · exact .inl rfl
    · exact .inr rfl
  refine ⟨G.N, G.nd, fun x h => ?_, fun x h => ?_, fun x h => ?_, fun x h => ?_, G.calm, G.room, G.K, G.mg, G.shs, G.calls, G.gens, G.news, G.mets, G.duns, G.gls, G.blt, G.exc⟩
  · rcases vis_of h with h | h | h
    · exact .inl (stay x _ (by decide) h)
    · exact .inr (.inl (stay x _ (by decide) h))
    · exact .inr (free x h)
  · rcases loc_of h with h | h
    · exact ⟨.inl (stay x _ (by decide) h), .inr (stay x _ (by decide) h)⟩
    · refine ⟨.inr (stay x _ (by decide) h), .inl ?_⟩
      show (sc.names.lookup x == some NameKind.cell) = true
      rw [h]; rfl
  · exact stay x _ (by decide) (glb_of h)
  · rcases h with h | h
    · exact .inl (stay x _ (by decide) h)
    · exact free x h
theorem blk_ok {X : Cx} {c : Ct} (G : Gd X c Z P k) {sc : Scope} {own : List (Str × Nat)} (h : blkC c.N c.sc sc own = true) : BlkOk X.N X.env.scope sc own := by
  have b := blkOk_by h
  exact ⟨b.kind, b.uniq, by rw [G.N]; exact b.ix, fun y hy e => G.fre _ (b.free y hy e), by rw [G.N]; exact b.own⟩
/-! targets -/
def Agree (sl : List Nat) (σ σ' : L2.St) : Prop := σ'.length = σ.length ∧ ∀ i : Nat, i ∉ sl → σ'[i]? = σ[i]?
theorem Agree.trans {sl sl' : List Nat} {a b d : L2.St} (h : Agree sl a b) (h' : Agree sl' b d) : Agree (sl ++ sl') a d :=
  ⟨h'.1.trans h.1, fun i hi => (h'.2 i fun z => hi (List.mem_append_right _ z)).trans (h.2 i fun z => hi (List.mem_append_left _ z))⟩
theorem wipe_get (σ : L2.St) : ∀ (vs : List Nat) (i : Nat), (L2.wipe σ vs)[i]? = if i ∈ vs ∧ i < σ.length then some none else σ[i]?
  | [], i => by simp [L2.wipe]
  | v :: vs, i => by
    have ih := wipe_get σ vs i
    have hl := wipe_length σ vs
    show ((L2.wipe σ vs).set v none)[i]? = _
    rw [List.getElem?_set]
    by_cases e : v = i
    · subst e
      rw [if_pos rfl, hl]
      by_cases hv : v < σ.length
      · rw [if_pos hv, if_pos ⟨List.mem_cons_self, hv⟩]
      · rw [if_neg hv, if_neg (fun z => hv z.2), List.getElem?_eq_none (by omega)]
    · rw [if_neg e, ih]
      by_cases hm : i ∈ vs ∧ i < σ.length
      · rw [if_pos hm, if_pos ⟨List.mem_cons_of_mem _ hm.1, hm.2⟩]
      · rw [if_neg hm, if_neg]
        rintro ⟨z1, z2⟩
        rcases List.mem_cons.mp z1 with z | z
        · exact e z.symm
        · exact hm ⟨z, z2⟩
theorem wipe_agree {σ σ2 : L2.St} {sl vs : List Nat} (h : Agree sl (L2.wipe σ vs) σ2) (hs : ∀ i ∈ sl, i ∈ vs) : L2.wipe σ2 vs = L2.wipe σ vs := by
  apply List.ext_getElem?
  intro i
  have l1 : σ2.length = σ.length := h.1.trans (wipe_length σ vs)
  rw [wipe_get, wipe_get, l1]
  by_cases hm : i ∈ vs ∧ i < σ.length
  · rw [if_pos hm, if_pos hm]
  · rw [if_neg hm, if_neg hm]
    by_cases hi : i ∈ sl
    · have : ¬ i < σ.length := fun z => hm ⟨hs i hi, z⟩
      rw [List.getElem?_eq_none (by omega), List.getElem?_eq_none (by omega)]
    · rw [h.2 i hi, wipe_get, if_neg hm]
def lG (Z : Zx) (t : Tg) : TG := fun v σ H Q => ∃ L S env w, Rl Z.K L H S ∧ REn Z.K L H env σ ∧ RW Z.K L H w v ∧ ∃ env' S', asgT t w env S = .ok env' S' ∧
  ∀ L' H' σ', Ex Z.K L H L' H' → Rl Z.K L' H' S' → REn Z.K L' H' env' σ' → Agree (tgSl t) σ σ' → Q σ' H'
def lGs (Z : Zx) (t : Tgs) : TGs := fun vs σ H Q => ∃ L S env ws, Rl Z.K L H S ∧ REn Z.K L H env σ ∧ RWs Z.K L H ws vs ∧ ∃ env' S', asgTs t ws env S = .ok env' S' ∧
  ∀ L' H' σ', Ex Z.K L H L' H' → Rl Z.K L' H' S' → REn Z.K L' H' env' σ' → Agree (tgsSl t) σ σ' → Q σ' H'
theorem pg_imp {X : Cx} {e : Expr} {t t' : TG} (h : PG X e t) (i : ∀ v σ H Q, t' v σ H Q → t v σ H Q) : PG X e t' := ⟨fun pins s σ H v u Q I r q => h.run pins s σ H v u Q I r (i v σ H Q q)⟩
theorem pgs_imp {X : Cx} {e : List Expr} {t t' : TGs} (h : PGs X e t) (i : ∀ v σ H Q, t' v σ H Q → t v σ H Q) : PGs X e t' := ⟨fun pins s σ H v u Q I r q => h.run pins s σ H v u Q I r (i v σ H Q q)⟩
theorem each_plain {e : Expr} {es : List Expr} {env : Env} (h : isStar e = false) : assignEach (e :: es) env = (false, assign e env) :: assignEach es env := by
  cases e <;> first | rfl | (simp [isStar] at h)
theorem bind_ok {α β : Type} {r : R α} {f : α → Sg → R β} {b : β} {S : Sg} (h : r.bind f = .ok b S) : ∃ a S1, r = .ok a S1 ∧ f a S1 = .ok b S := by
  cases r with
  | ok a S1 => exact ⟨a, S1, rfl, h⟩
  | ex x S1 => cases h
  | st => cases h
theorem pgs_star {X : Cx} {e : Expr} {p : Pos} {es : List Expr} {t : TG} {u : TGs} (h1 : PG X e t) (h2 : PGs X es u) : PGs X (.Starred e p :: es) (gCons t u) := by
  refine ⟨fun pins s σ H vs us Q I r h => ?_⟩
  obtain ⟨v, vr, rfl, h⟩ := h
  obtain _ | ⟨r, rr⟩ := r
  show wpAny _ _ (assignInOrder (assign e X.env :: (assignEach es X.env).map (·.2)) _) _ _ _
  exact PyProof.Rows.assignInOrder_cons (thn (h1.run pins s σ H _ _ _ I r h) fun _ s1 ⟨σ1, H1, I1, q1⟩ => h2.run pins s1 σ1 H1 _ _ Q I1 rr q1)
/-- a target with a star: the middle in a new list -/
def gStar (K : PySem.W.Frag) (n i : Nat) (t : TGs) : TG := fun v σ H Q => ∃ a xs, v = .ref a ∧ (SqL K H a xs ∨ SqT K H a xs) ∧ n ≤ xs.length + 1 ∧ xs.length ≤ sizeLine ∧
  ∀ p, H p = none → t (xs.take i ++ [.ref p] ++ (xs.drop i).drop (xs.length - i - (n - 1 - i))) σ (upd H p (.lst ((xs.drop i).take (xs.length - i - (n - 1 - i))))) Q
theorem vals_take {xs : List V} {us : List Value} (r : Vals xs us) (i m : Nat) : Vals ((xs.drop i).take m) ((us.drop i).take m) := (r.drop i).take m
theorem pg_star {X : Cx} {es : List Expr} {j i : Nat} {pos : Pos} {t : TGs} (hc : X.calm = true) (h : PGs X es t) (hn : (assignEach es X.env).length = es.length) (hs : (assignEach es X.env).findIdx? (·.1) = some i) (hi : i < es.length) : PG X (.Tuple es j pos) (gStar X.K es.length i t) := by
  refine ⟨fun pins s σ H v u Q I r ⟨a, xs, e1, hq, hl, hz, hw⟩ => ?_⟩
  subst e1
  cases r
  rw [PyProof.Rows.assign_Tuple]
  refine wpAny_bind (wpAny_standAt ?_)
  unfold unpack
  rw [hn, hs]
  have fin : ∀ (its : List Value), Vals xs its → ∀ (h2 : Heap) (tk : Nat), (∀ b o, s.heap.get? b = some o → h2.get? b = some o) →
      wpAny (model X.prog X.w) X.A (assignInOrder ((assignEach es X.env).map (·.2)) (starCut its i (es.length - 1 - i) h2.objs.size)) (fun _ s' => ∃ σ' H', L2.Inv X pins σ' H' s' ∧ Q σ' H') X.xe
        { s with heap := h2.push { cls := .type "list", data := .seq ((its.drop i).take (its.length - i - (es.length - 1 - i))).toArray }, toks := tk } := fun its rv h2 tk k2 => by
    have I1 : L2.Inv X pins σ H { s with heap := h2 } := I.kept (t' := s.toks) k2
    have hp : H h2.objs.size = none := I1.hok.fresh (Nat.le_refl _)
    have new : ObjOk X.prog X.w (upd H h2.objs.size (.lst ((xs.drop i).take (xs.length - i - (es.length - 1 - i))))) (h2.push { cls := .type "list", data := .seq ((its.drop i).take (its.length - i - (es.length - 1 - i))).toArray }) h2.objs.size (.lst ((xs.drop i).take (xs.length - i - (es.length - 1 - i)))) := by
      refine ⟨?_, (its.drop i).take (its.length - i - (es.length - 1 - i)), 0, ?_, Heap.get?_push_size _ rfl⟩
      · rw [List.length_take, List.length_drop]; omega
      · rw [rv.length]; exact vals_take rv _ _
    have I2 := I1.laid (t' := tk) (fun b u e => Heap.get?_push_of_some _ e) (Nat.le_refl _) new
    refine h.run pins _ σ _ _ _ Q I2 ?_ (hw h2.objs.size hp)
    unfold starCut
    rw [rv.length]
    exact ((rv.take i).append (.cons (show RelV (V.ref h2.objs.size) (Value.ref h2.objs.size) from rfl) .nil)).append ((rv.drop i).drop _)
  rcases hq with hq | hq
  · obtain ⟨its, rv, pl, hz'⟩ := I.list hq
    refine wpAny_bind (wpAny_holding (star_list (I.ok.hd hc) pl.isList hi (by rw [List.size_toArray, ← rv.length]; exact hl) (by rw [List.size_toArray, ← rv.length]; exact hz) fun h2 tk k2 => ?_))
    have := fin its rv h2 tk k2
    simpa using this
  · obtain ⟨its, rv, pl, hz'⟩ := I.tuple hq
    refine wpAny_bind (wpAny_holding (star_tuple (I.ok.hd hc) pl hi (by rw [List.size_toArray, ← rv.length]; exact hl) (by rw [List.size_toArray, ← rv.length]; exact hz) fun h2 tk k2 => ?_))
    have := fin its rv h2 tk k2
    simpa using this
mutual
theorem tg_ok {X : Cx} {c : Ct} (G : Gd X c Z P k) : ∀ (t : Tg) (x : Expr), chkT c t x = true → PG X x (lG Z t)
  | .na i, x, h => by
    simp only [chkT] at h
    split at h
    · rename_i n p
      simp only [Bool.and_eq_true, decide_eq_true_eq] at h
      have l := G.loc _ h.1.2
      refine pg_imp (pg_name (i := i) (by rw [G.N]; exact G.nd) (by rw [G.N]; exact h.1.1) l.1 l.2) fun v σ H Q ⟨L, S, env, w, hR, hE, hw, env', S', e, q⟩ => ?_
      simp only [asgT] at e
      cases e
      refine q L H _ .refl hR (hE.set hw i) ⟨List.length_set, fun j hj => List.getElem?_set_ne (fun z => hj (by subst z; exact List.mem_cons_self))⟩
    · cases h
  | .tu ts, x, h => by
    simp only [chkT] at h
    split at h
    · rename_i es j p
      have hs := tgs_ok G ts es h
      cases hx : starIx ts with
      | none =>
        refine pg_imp (pg_tup (n := es.length) G.calm hs.1 hs.2.1 (by rw [hs.2.2]; exact hx)) fun v σ H Q ⟨L, S, env, w, hR, hE, hw, env', S', e, q⟩ => ?_
        simp only [asgT, hx] at e
        cases hw with
        | tup ht r =>
          rw [G.K]
          refine ⟨_, _, rfl, ht, ?_, L, S, env, _, hR, hE, r, env', S', e, q⟩
          rw [← r.length]
          exact tgs_len ts _ es env S env' S' h e
        | _ => cases e
      | some i =>
        have len : tgsLen ts = es.length := tgsLen_eq h
        have hi : i < es.length := by rw [← len]; exact starIx_lt hx
        refine pg_imp (pg_star (i := i) G.calm hs.1 hs.2.1 (by rw [hs.2.2]; exact hx) hi) fun v σ H Q ⟨L, S, env, w, hR, hE, hw, env', S', e, q⟩ => ?_
        simp only [asgT, hx] at e
        split at e
        · rename_i ws ews
          split at e
          · rename_i hl
            obtain ⟨a, xs, rfl, hq, r⟩ := seq_spec hR ews hw
            rw [len] at e hl
            rw [G.K]
            refine ⟨a, xs, rfl, hq, by rw [← r.length]; exact hl.1, by rw [← r.length, ← lenMax_eq]; exact hl.2, fun p hp => ?_⟩
            have hn : Ex Z.K L H (L ++ [p]) (upd H p (.lst ((xs.drop i).take (xs.length - i - (es.length - 1 - i))))) := ex_new hp
            rw [r.length] at e
            refine ⟨L ++ [p], _, env, _, rl_new hR ((r.drop i).take _) hp, hE.mono hn, ?_, env', S', e, fun L' H' σ' x' => q L' H' σ' (hn.trans x')⟩
            exact (((r.take i).mono hn).append (.cons (.ref (at_new hR p)) .nil)).append (((r.drop i).drop _).mono hn)
          · cases e
        · cases e
    · cases h
theorem tgs_ok {X : Cx} {c : Ct} (G : Gd X c Z P k) : ∀ (ts : Tgs) (xs : List Expr), chkTs c ts xs = true → PGs X xs (lGs Z ts) ∧ (assignEach xs X.env).length = xs.length ∧ (assignEach xs X.env).findIdx? (·.1) = starIx ts
  | .nil, xs, h => by
    simp only [chkTs] at h
    split at h
    · refine ⟨pgs_imp pgs_nil fun vs σ H Q ⟨L, S, env, ws, hR, hE, hw, env', S', e, q⟩ => ?_, rfl, rfl⟩
      cases hw <;> simp only [asgTs] at e
      · cases e
        exact ⟨rfl, q L H σ .refl hR hE ⟨rfl, fun _ _ => rfl⟩⟩
      · cases e
    · cases h
  | .cons t ts, xs, h => by
    simp only [chkTs] at h
    split at h
    · rename_i x xs
      simp only [Bool.and_eq_true, Bool.not_eq_true'] at h
      have h1 := tg_ok G t x h.1.2
      obtain ⟨h2, h3, h4⟩ := tgs_ok G ts xs h.2
      have hst := each_plain (es := xs) (env := X.env) h.1.1
      refine ⟨pgs_imp (pgs_cons h1 h2 (by rw [hst]; rfl)) fun vs σ H Q ⟨L, S, env, ws, hR, hE, hw, env', S', e, q⟩ => ?_, by rw [hst]; simp [h3], by rw [hst, List.findIdx?_cons, h4]; rfl⟩
      cases hw with
      | nil => simp only [asgTs] at e; cases e
      | @cons w v ws vs hw hws =>
        simp only [asgTs] at e
        obtain ⟨env1, S1, e1, e2⟩ := bind_ok e
        refine ⟨v, vs, rfl, L, S, env, w, hR, hE, hw, env1, S1, e1, fun L1 H1 σ1 x1 r1 hE1 ag1 => ?_⟩
        refine ⟨L1, S1, env1, ws, r1, hE1, hws.mono x1, env', S', e2, fun L2 H2 σ2 x2 r2 hE2 ag2 => ?_⟩
        exact q L2 H2 σ2 (x1.trans x2) r2 hE2 (ag1.trans ag2)
    · cases h
  | .star i ts, xs, h => by
    simp only [chkTs] at h
    split at h
    · rename_i x px p xs
      simp only [Bool.and_eq_true, decide_eq_true_eq, Option.isNone_iff_eq_none] at h
      obtain ⟨⟨⟨⟨h1, h2⟩, h3⟩, h4⟩, h5⟩ := h
      obtain ⟨g2, g3, g4⟩ := tgs_ok G ts xs h5
      have l := G.loc _ h2
      refine ⟨pgs_imp (pgs_star (pg_name (i := i) (by rw [G.N]; exact G.nd) (by rw [G.N]; exact h1) l.1 l.2) g2) fun vs σ H Q ⟨L, S, env, ws, hR, hE, hw, env', S', e, q⟩ => ?_, congrArg (· + 1) g3, rfl⟩
      cases hw with
      | nil => simp only [asgTs] at e; cases e
      | @cons w v ws vs hw hws =>
        simp only [asgTs] at e
        refine ⟨v, vs, rfl, L, S, _, ws, hR, hE.set hw i, hws, env', S', e, fun L2 H2 σ2 x2 r2 hE2 ag2 => ?_⟩
        refine q L2 H2 σ2 x2 r2 hE2 ⟨ag2.1.trans List.length_set, fun j hj => ?_⟩
        rw [ag2.2 j fun z => hj (List.mem_cons_of_mem _ z)]
        exact List.getElem?_set_ne (fun z => hj (by subst z; exact List.mem_cons_self))
    · cases h
theorem tgs_len {c : Ct} : ∀ (ts : Tgs) (ws : List W) (xs : List Expr) (env : En) (S : Sg) (env' : En) (S' : Sg), chkTs c ts xs = true → asgTs ts ws env S = .ok env' S' → ws.length = xs.length
  | .nil, ws, xs, env, S, env', S', h, e => by
    simp only [chkTs] at h
    split at h
    · cases ws <;> simp only [asgTs] at e
      · rfl
      · cases e
    · cases h
  | .cons t ts, ws, xs, env, S, env', S', h, e => by
    simp only [chkTs] at h
    split at h
    · simp only [Bool.and_eq_true] at h
      cases ws with
      | nil => simp only [asgTs] at e; cases e
      | cons w ws =>
        simp only [asgTs] at e
        obtain ⟨env1, S1, e1, e2⟩ := bind_ok e
        exact congrArg (· + 1) (tgs_len ts ws _ env1 S1 env' S' h.2 e2)
    · cases h
  | .star i ts, ws, xs, env, S, env', S', h, e => by
    simp only [chkTs] at h
    split at h
    · simp only [Bool.and_eq_true] at h
      cases ws with
      | nil => simp only [asgTs] at e; cases e
      | cons w ws =>
        simp only [asgTs] at e
        exact congrArg (· + 1) (tgs_len ts ws _ _ S env' S' h.2 e)
    · cases h
theorem tgsLen_eq {c : Ct} : ∀ {ts : Tgs} {xs : List Expr}, chkTs c ts xs = true → tgsLen ts = xs.length
  | .nil, xs, h => by
    simp only [chkTs] at h
    split at h
    · rfl
    · cases h
  | .cons t ts, xs, h => by
    simp only [chkTs] at h
    split at h
    · simp only [Bool.and_eq_true] at h
      exact congrArg (· + 1) (tgsLen_eq h.2)
    · cases h
  | .star i ts, xs, h => by
    simp only [chkTs] at h
    split at h
    · simp only [Bool.and_eq_true] at h
      exact congrArg (· + 1) (tgsLen_eq h.2)
    · cases h
theorem starIx_lt : ∀ {ts : Tgs} {i : Nat}, starIx ts = some i → i < tgsLen ts
  | .nil, i, h => by simp [starIx] at h
  | .cons t ts, i, h => by
    obtain ⟨j, e, rfl⟩ := Option.map_eq_some_iff.mp (show (starIx ts).map (· + 1) = some i from h)
    exact Nat.succ_lt_succ (starIx_lt e)
  | .star _ ts, i, h => by
    simp only [starIx, Option.some.injEq] at h
    subst h
    exact Nat.succ_pos _
end
end
end SF
set_option Elab.async false
set_option linter.all false
set_option maxRecDepth 100000
set_option maxHeartbeats 4000000
namespace SF
open PySem L2
section
variable {Z : Zx} {P : Pg} {k : Nat}
theorem sr_enmT {K : PySem.W.Frag} {L : List Addr} {H : Hp} {a : Addr} {xs : List V} {ws : List W} (h : SqT K H a xs) (r : RWs K L H ws xs) : SR K L H (.enm (.fix ws)) (Itet K a) := by
  intro L1 H1 S1 i e rl
  have z := sr_fix h r L1 H1 S1 i e rl
  show match ((((Src.fix ws).at i S1).map (Option.map fun w => W.tup [.int i, w])) : Option (Option W)) with | none => True | some none => _ | some (some w) => _
  revert z
  cases (Src.fix ws).at i S1 with
  | none => exact fun _ => trivial
  | some o =>
    cases o with
    | none => exact fun z => z
    | some w =>
      rintro ⟨⟨xs, v, hq, ev⟩, y⟩
      refine ⟨⟨xs, v, hq, ev⟩, ?_⟩
      rintro x H2 ⟨T, x', rfl, hT, rfl, y'⟩
      obtain ⟨_, _, rv⟩ := y x' H1 ⟨rfl, y'⟩
      have hx : Ex K L1 H1 L1 (upd H1 T (.tup [.int (i : Nat), x'])) := ex_new0 hT
      exact ⟨hx, rl_tup rl hT, .tup (.inl (.inl upd_same)) (.cons (.int _) (.cons (rv.mono hx) .nil))⟩
theorem isTup_of {e : Expr} (h : isTup e = true) : ∃ es j p, e = .Tuple es j p := by cases e <;> first | exact ⟨_, _, _, rfl⟩ | (simp [isTup] at h)
/-- what a source is made of -/
theorem src_kind {K : PySem.W.Frag} {L : List Addr} {H : Hp} {S : Sg} (hR : Rl K L H S) {w : W} {v : V} {src : Src} (h : srcOf w S = some src) (q : RW K L H w v) :
    (∃ ws a xs, w = .tup ws ∧ src = .fix ws ∧ v = .ref a ∧ SqT K H a xs ∧ RWs K L H ws xs) ∨ (∃ l a xs, w = .ref l ∧ src = .lis l ∧ v = .ref a ∧ L[l]? = some a ∧ SqL K H a xs) := by
  cases q <;> first | (cases h; done) | skip
  · rename_i ws a xs hs r
    cases h
    exact .inl ⟨_, _, _, rfl, rfl, rfl, hs, r⟩
  · rename_i l a ha
    obtain ⟨ws, e2, rfl⟩ := Option.map_eq_some_iff.mp (show (listAt S l).map (fun _ => Src.lis l) = some src from h)
    obtain ⟨b2, xs, hb2, hq, rr⟩ := hR.list e2
    rw [ha] at hb2; cases hb2
    exact .inr ⟨_, _, _, rfl, rfl, rfl, ha, hq⟩
theorem i_enm {X : Cx} {c : Ct} (G : Gd X c Z P k) {cc : Cn} {Wx : WX} {a : E} {x : Expr} {p pos tp : Pos} {es : List Expr} {j : Nat} (hg : glbB c.sc "enumerate" = true) (hs : isStar x = false) (ha : PE X x (lE Z cc Wx a)) : PI X (.Tuple es j tp) (.Call (.Name "enumerate" p) [x] [] pos) (lI Z cc Wx (.enm a)) := by
  have na := star_plain (es := []) (env := X.env) hs
  refine ⟨fun pins s σ H R I ⟨L, S, env, hR, hE, h⟩ => ?_⟩
  have hb := ResG.bind (T := TW) (show ResG Z SR L H ((ev cc a env S).bind fun w S => ofO (srcOf w S) fun s => .ok (.enm s) S) R (ex Wx σ) from h)
  by_cases hl : ∃ ws S1, ev cc a env S = .ok (.tup ws) S1
  · obtain ⟨ws0, S0, e0⟩ := hl
    refine (pi_enumT (glx G hg) (G.blt _ (by decide +kernel)) (pa_cons ha pa_nil na) na).run pins s σ H R I ⟨L, S, env, hR, hE, hb.imp ?_⟩
    rintro v H1 ⟨L1, w, S1, e1, r1, t1, q1, h1⟩
    obtain ⟨src, es, h1⟩ := h1.ofO
    rw [e0] at q1
    rcases src_kind r1 es t1 with ⟨ws, b, xs, rfl, rfl, rfl, hq, rr⟩ | ⟨l, b, xs, rfl, rfl, rfl, hq, rr⟩
    · rw [G.K]
      exact ⟨_, _, rfl, hq, h1 L1 H1 _ .refl r1 (sr_enmT hq rr)⟩
    · cases q1
  · refine (pi_enum (glx G hg) (G.blt _ (by decide +kernel)) (pa_cons ha pa_nil na) na).run pins s σ H R I ⟨L, S, env, hR, hE, hb.imp ?_⟩
    rintro v H1 ⟨L1, w, S1, e1, r1, t1, q1, h1⟩
    obtain ⟨src, es, h1⟩ := h1.ofO
    rcases src_kind r1 es t1 with ⟨ws, b, xs, rfl, rfl, rfl, hq, rr⟩ | ⟨l, b, xs, rfl, rfl, rfl, hq, rr⟩
    · exact absurd ⟨_, _, q1⟩ hl
    · rw [G.K]
      exact ⟨_, _, rfl, rr, h1 L1 H1 _ .refl r1 (sr_enm hq)⟩
/-! comprehensions -/
theorem comp_red {c : Ct} {cc : Cn} {Wx : WX} {elt : E} {tg : Tg} {it : It} {cond : Ot} {own : List Nat} (ho : ∀ i ∈ tgSl tg, i ∈ own) {σ : L2.St} {H : Hp} {Q : VK} (h : lE Z cc Wx (.comp elt tg it cond own) σ H Q) :
    tLc (lI Z cc Wx it) (lG Z tg) (lC Z cc (fun _ _ _ _ => False) cond) (lE Z cc (fun _ _ _ _ => False) elt) ((mkOwn c.N own).map (·.2)) σ H Q := by
  have hown : (mkOwn c.N own).map (·.2) = own := by
    unfold mkOwn
    rw [List.map_map]
    exact List.map_id _
  obtain ⟨L, S, env, hR, hE, h⟩ := h
  rw [hown]
  refine ⟨L, S, env, hR, hE, (ResG.bind (T := SR) h).imp fun J H1 ⟨L1, src, S1, e1, r1, sr, q1, h1⟩ => fun D hD => ?_⟩
  have hE1 := hE.mono e1
  have hx0 : Ex Z.K L1 H1 (L1 ++ [D]) (upd H1 D (.lst [])) := ex_new hD
  have rl0 := rl_new r1 (ws := []) .nil hD
  have hE2 := hE1.mono hx0
  have hw := hE2.wipe own
  generalize htn : (fun w S => (asgT tg w (wipeE env own) S).np.bind fun σ' S => (evC cc cond σ' S).bind fun k S => if k then (ev cc elt σ' S).bind fun y S => .ok (some y) S else .ok none S : W → Sg → R (Option W)) = turn at h1
  refine ⟨fun i m H' => ∃ L' S', Ex Z.K (L1 ++ [D]) (upd H1 D (.lst [])) L' H' ∧ Rl Z.K L' H' S' ∧ ResG Z TW L' H' (compGo src S1.length turn m i S') Q (ex Wx σ), ⟨src.len S1, L1 ++ [D], _, .refl, rl0, h1.ext hx0⟩, ?_⟩
  rintro i m H2 ⟨L2', S2, x2, rl2, g⟩
  have hD2 : L2'[S1.length]? = some D := x2.at (by rw [← r1.len, List.getElem?_append_right (Nat.le_refl _), Nat.sub_self]; rfl)
  have s2 := sr L2' H2 S2 i (hx0.trans x2) rl2
  cases m with
  | zero =>
    simp only [compGo] at g
    split at g
    · rename_i e
      rw [e] at s2
      exact .inl ⟨s2, g L2' H2 _ .refl rl2 (.ref hD2)⟩
    · exact g.elim
  | succ m =>
    simp only [compGo] at g
    split at g
    · rename_i w e
      rw [e] at s2
      refine .inr ⟨s2.1, fun H' => ∃ L' S', Ex Z.K (L1 ++ [D]) (upd H1 D (.lst [])) L' H' ∧ Rl Z.K L' H' S' ∧ ResG Z TW L' H' (compGo src S1.length turn m (i + 1) S') Q (ex Wx σ), fun H' z => ⟨m, Nat.lt_succ_self _, z⟩, fun v H3 y => ?_⟩
      obtain ⟨x3, rl3, rv⟩ := s2.2 v H3 y
      have hE3 : REn Z.K L2' H3 (wipeE env own) (L2.wipe σ own) := hw.mono (x2.trans x3)
      -- what a turn does, from its beginning
      have tn : turn w S2 = (asgT tg w (wipeE env own) S2).np.bind fun σ' S => (evC cc cond σ' S).bind fun k S => if k then (ev cc elt σ' S).bind fun y S => .ok (some y) S else .ok none S := by rw [← htn]
      cases hT : turn w S2 with
      | st => rw [hT] at g; exact g.elim
      | ex x S3 => rw [hT] at g; exact g.elim
      | ok ow S3 =>
        rw [hT] at tn g
        obtain ⟨env', S4, ea, tn2⟩ := bind_ok tn.symm
        have ea' : asgT tg w (wipeE env own) S2 = .ok env' S4 := by
          cases hq : asgT tg w (wipeE env own) S2 with
          | ok a b => rw [hq] at ea; exact ea
          | ex a b => rw [hq] at ea; cases ea
          | st => rw [hq] at ea; cases ea
        obtain ⟨b, S5, ec, tn3⟩ := bind_ok tn2
        refine ⟨L2', S2, wipeE env own, w, rl3, hE3, rv, env', S4, ea', fun L4 H4 σ4 x4 rl4 hE4 ag => ⟨wipe_agree ag ho |>.trans ?_, ?_⟩⟩
        · rfl
        · refine ⟨L4, S4, env', rl4, hE4, ?_⟩
          rw [ec]
          rintro L5 H5 b' x5 rl5 tb
          cases tb
          cases b with
          | false =>
            rw [if_neg Bool.false_ne_true] at tn3 ⊢
            cases tn3
            exact ⟨L5, _, x2.trans (x3.trans (x4.trans x5)), rl5, g.ext (x3.trans (x4.trans x5))⟩
          | true =>
            rw [if_pos rfl] at tn3 ⊢
            obtain ⟨y, S6, ee, tn4⟩ := bind_ok tn3
            cases tn4
            refine ⟨L5, S5, env', rl5, hE4.mono x5, ?_⟩
            rw [ee]
            rintro L6 H6 vy x6 rl6 ty
            simp only [] at g
            split at g
            · rename_i acc eacc
              split at g
              · rename_i hlen
                have hD6 : L6[S1.length]? = some D := (x3.trans (x4.trans (x5.trans x6))).at hD2
                obtain ⟨a, ha, xs, k1, k2⟩ := rl6.addr eacc
                rw [hD6] at ha; cases ha
                refine ⟨xs, k1, by rw [← k2.length, ← lenMax_eq]; exact hlen, ?_⟩
                obtain ⟨w1, w2⟩ := rl6.write (o' := .lst (acc ++ [y])) (u := .lst (xs ++ [vy])) eacc hD6 rfl ⟨_, upd_same, (k2.append (.cons ty .nil)).mono (ex_write ⟨_, k1, trivial⟩)⟩ rfl
                have xx := x3.trans (x4.trans (x5.trans (x6.trans w2)))
                exact ⟨L6, _, x2.trans xx, w1, g.ext xx⟩
              · exact g.elim
            · exact g.elim
    · exact g.elim
theorem comp_ok {X : Cx} {c : Ct} (G : Gd X c Z P k) {cc : Cn} {Wx : WX} {elt : E} {tg : Tg} {it : It} {cond : Ot} {own : List Nat} {x tx ix : Expr} {ifs : List Expr} {sc : Scope} {pos : Pos}
    (hb : blkC c.N c.sc sc (mkOwn c.N own) = true) (ho : ∀ i ∈ tgSl tg, i ∈ own) (hi : PI X tx ix (lI Z cc Wx it))
    (ht : ∀ (s : Shared) (H : Hp) (C : Addr) (cl : List (Str × Addr)) (fp : List Addr), PG (X.blk s H sc (compEnvC sc cl C X.env) fp) tx (lG Z tg))
    (hc : ∀ (s : Shared) (H : Hp) (C : Addr) (cl : List (Str × Addr)) (fp : List Addr), PTs (X.blk s H sc (compEnvC sc cl C X.env) fp) ifs (lC Z cc (fun _ _ _ _ => False) cond))
    (he : ∀ (s : Shared) (H : Hp) (C : Addr) (cl : List (Str × Addr)) (fp : List Addr), PE (X.blk s H sc (compEnvC sc cl C X.env) fp) x (lE Z cc (fun _ _ _ _ => False) elt))
    (hn : noSet ix = true) : PE X (.ListComp x [⟨tx, ix, ifs, 0⟩] sc pos) (lE Z cc Wx (.comp elt tg it cond own)) := by
  have hset : ∀ y, foldedSetIterable ix X.env y = pure y := by
    intro y
    cases ix <;> first | rfl | (simp [noSet] at hn)
  exact pe_imp (pe_lc G.calm (by rw [G.N]; exact G.nd) hi (blk_ok G hb) ht hc he hset) fun σ H Q h => comp_red ho h
end
end SF
set_option Elab.async false
set_option linter.all false
set_option maxRecDepth 100000
set_option maxHeartbeats 4000000
namespace SF
open PySem L2
/-! # Instances: fields read, methods called, new ones -/
section
variable {Z : Zx} {P : Pg} {n : Nat}
theorem fld_of {K : PySem.W.Frag} {L : List Addr} {H : Hp} {S : Sg} (hR : Rl K L H S) {w w' : W} {f : Str} {v : V} (h : fldW w f S = some w') (q : RW K L H w v) :
    ∃ (a C dx : Addr) (l : List (Str × V)) (v' : V), v = .ref a ∧ H a = some (.ins C dx l) ∧ Cls K C ∧ NoAttr K C f ∧ l.lookup f = some v' ∧ RW K L H w' v' := by
  unfold fldW at h
  split at h
  · rename_i l
    split at h
    · rename_i nm fs e
      cases q with
      | ref ha =>
        obtain ⟨b, hb, hn, C, dx, l, h1, h2, h3, h4, h5⟩ := hR.addr e
        rw [ha] at hb; cases hb
        have h6 := h3 f
        rw [h] at h6
        cases hl : l.lookup f with
        | none => rw [hl] at h6; exact h6.elim
        | some v' =>
          rw [hl] at h6
          exact ⟨_, C, dx, l, v', rfl, h2, h4, h5 f _ h, hl, h6⟩
    · cases h
  · cases h
theorem ins_of {K : PySem.W.Frag} {L : List Addr} {H : Hp} {S : Sg} (hR : Rl K L H S) {w : W} {nm m : Str} {v : V} (h : isIns nm m w S = true) (q : RW K L H w v) :
    ∃ (a C dx : Addr) (l : List (Str × V)), v = .ref a ∧ PySem.W.nsIn K mainGlobals nm = some (some (.ref C)) ∧ H a = some (.ins C dx l) ∧ l.lookup m = none ∧ Cls K C := by
  unfold isIns at h
  split at h
  · rename_i l
    split at h
    · rename_i c fs e
      simp only [Bool.and_eq_true, beq_iff_eq, Option.isNone_iff_eq_none] at h
      obtain ⟨rfl, hm⟩ := h
      cases q with
      | ref ha =>
        obtain ⟨b, hb, hn, C, dx, l, h1, h2, h3, h4, h5⟩ := hR.addr e
        rw [ha] at hb; cases hb
        have h6 := h3 m
        rw [hm] at h6
        refine ⟨_, C, dx, l, rfl, h1, h2, ?_, h4⟩
        cases hl : l.lookup m with
        | none => rfl
        | some v' => rw [hl] at h6; exact h6.elim
    · cases h
  · cases h
/-- e.f -/
theorem e_fld {X : Cx} {cc : Cn} {Wx : WX} {a : E} {f : Str} {x : Expr} {pos : Pos} (hK : X.K = Z.K) (h0 : isCall0 x = false) (ha : PE X x (lE Z cc Wx a)) : PE X (.Attribute x f pos) (lE Z cc Wx (.fld a f)) := by
  refine pe_imp (pe_fld ha (attr_base h0)) fun σ H Q ⟨L, S, env, hR, hE, h⟩ => ?_
  refine ⟨L, S, env, hR, hE, (ResG.bind (T := TW) h).imp fun v H1 ⟨L1, w1, S1, e1, r1, t1, q1, h1⟩ => ?_⟩
  obtain ⟨w, ew, h1⟩ := h1.ofO
  obtain ⟨a, C, dx, l, v', rfl, ea, c, no, ev', rv⟩ := fld_of r1 ew t1
  rw [hK]
  exact ⟨a, C, dx, l, v', rfl, ea, c, no, ev', h1 L1 H1 v' .refl r1 rv⟩
theorem e_slf {X : Cx} {cc : Cn} {Wx : WX} {a : E} {nm m : Str} {x : Expr} (ha : PE X x (lE Z cc Wx a)) : PE X x (lE Z cc Wx (.slf nm m a)) := by
  refine pe_imp ha fun σ H Q ⟨L, S, env, hR, hE, h⟩ => ?_
  refine ⟨L, S, env, hR, hE, (ResG.bind (T := TW) h).imp fun v H1 ⟨L1, w1, S1, e1, r1, t1, q1, h1⟩ => ?_⟩
  split at h1
  · exact h1 L1 H1 v .refl r1 t1
  · exact h1.elim
/-- a new instance -/
theorem run_new {X : Cx} {CX : CXT} {k : Nat} {f C : Addr} {fd : FuncData} {ps ks : List Str} {sp : Sp} {E : XK} {g : List Value → List Value → List Value} {gV : List V → List V → List V} {pins : List (Addr × Obj)} {σ : L2.St} {H : Hp} {s : Shared} {Q : VK} {us ws : List Value} {vs zs : List V}
    (M : Mk X.K C f) (F : FnOk X.prog X.w X.K X.mg X.base CX k f fd ps sp) (hr : Room (k + 1) X.A) (hb : KBinds X.K fd ps ks g gV) (hx : PassesAt CX X σ E) (I : L2.Inv X pins σ H s) (r : Vals vs us) (rz : Vals zs ws)
    (h : ∀ x dx, H x = none → H dx = none → dx ≠ x → sp (gV (.ref x :: vs) zs) (upd (upd H dx (.own x)) x (.ins C dx [])) (fun v H2 => v = .non ∧ Q (.ref x) H2) E) :
    wpAny (model X.prog X.w) X.A (call (.ref C) us (ks.zip ws)) (EP X pins σ Q) X.xe s := by
  have hq := h (s.heap.objs.size + 1) s.heap.objs.size (I.hok.fresh (Nat.le_succ _)) (I.hok.fresh (Nat.le_refl _)) (Nat.ne_of_lt (Nat.lt_succ_self _))
  have I2 := Inv.made (C := C) I
  have r1 : Vals (V.ref (s.heap.objs.size + 1) :: vs) (Value.ref (s.heap.objs.size + 1) :: us) := .cons rfl r
  have r2 := hb.rel r1 rz
  have hl : (g (Value.ref (s.heap.objs.size + 1) :: us) ws).length = ps.length := by rw [← r2.length]; exact F.len _ _ _ _ hq
  refine wpAny_call (make_map (f := f) I.kIn M.makes M.init (beq_iff_eq.mp M.fn) (codeAny_mono (F.run _ X.stack _ _ ⟨Value.ref (s.heap.objs.size + 1) :: us, ks.zip ws⟩ (g (Value.ref (s.heap.objs.size + 1) :: us) ws) _ _ E (hr.make C us (ks.zip ws))
    (I2.env0.make C us (ks.zip ws)) (hb.to _ (Value.ref (s.heap.objs.size + 1) :: us) ws I2.kIn hl) r2 hq) fun r s' hq' => ?_))
  match r, hq' with
  | .error e, hq' => exact hx pins _ _ e s' I2 hq'
  | .ok (.ret u), hq' =>
    obtain ⟨v, H', I3, rv, ev, q3⟩ := I2.after hq'
    subst ev
    exact ⟨rv, ⟨V.ref (s.heap.objs.size + 1), H', I3, rfl, q3⟩⟩
  | .ok .next, hq' => exact False.elim hq'
  | .ok .brk, hq' => exact False.elim hq'
  | .ok .cont, hq' => exact False.elim hq'
/-- so many arguments as the function takes -/
theorem runF_len {h : Nat} {fn : Fn} (hf : P.fns[h]? = some fn) {xs : List W} {S : Sg} {L : List Addr} {H : Hp} {Q : VK} {E : XK} (q : ResG Z TW L H (runF P n h xs S) Q E) : xs.length = fn.np := by
  cases n with
  | zero => exact q.elim
  | succ n =>
    simp only [runF, hf] at q
    split at q
    · assumption
    · exact q.elim
/-- C(..) -/
theorem new_ok {X : Cx} {c : Ct} (G : Gd X c Z P n) {Wx : WX} (tk : Takes X Wx) {h : Nat} {sh : Sh} {es ks : Es} {x : Str} {p pos : Pos} {xs : List Expr} {kws : List Keyword} (hsh : P.shs[h]? = some sh) (hx : c.nws[sh.fn]? = some x) (hg : glbB c.sc x = true) (hn : okName x = true)
    (hk : kwNms kws = sh.ks.map some) (hnil : xs = [] → es = .nil) (hs : ∀ e ∈ xs, isStar e = false) (ha : PA X xs (lA Z (cn P n) Wx es)) (hkw : PK X kws (lA Z (cn P n) Wx ks)) :
    PE X (.Call (.Name x p) xs kws pos) (lE Z (cn P n) Wx (.call h es ks)) := by
  obtain ⟨C, f, fd, ps, g, gV, hm, M, F, hb, hf, fn, hfn, hnp⟩ := G.news h sh x hsh hx (okName_ne hn)
  obtain ⟨hdb, _, _⟩ := okName_of hn
  obtain ⟨k1, k2, k3⟩ := kws_all (env := X.env) (pos := pos) hk
  have bX : KBinds X.K fd ps sh.ks g gV := by rw [G.K]; exact hb
  have MX : Mk X.K C f := by rw [G.K]; exact M
  have mX : X.mg x = some (.ref C) := by rw [G.mg]; exact hm
  refine ⟨fun pins s σ H Q I ⟨L, S, env, hR, hE, q⟩ => ?_⟩
  refine wpAny_Call_Name_kw (ld_glob I (glx G hg) mX ?_ hdb)
  obtain ⟨sh', e, q⟩ := ResG.ofO (show ResG Z TW L H (ofO (P.shs[h]?) _) Q _ from q)
  rw [hsh] at e; cases e
  have fin : ∀ {L1 : List Addr} {H1 : Hp} {S1 : Sg} {ws : List W} {vs : List V} {us : List Value} {s1 : Shared}, L2.Inv X pins σ H1 s1 → Ex Z.K L H L1 H1 → Rl Z.K L1 H1 S1 → RWs Z.K L1 H1 ws vs → Vals vs us →
      ResG Z TW L1 H1 ((evs (cn P n) ks env S1).bind fun zs S => if ws.length = sh.np ∧ zs.length = sh.ks.length then ofO (fillA ws zs sh.fill) fun xs => runF P n sh.fn xs S else .st) Q (ex Wx σ) →
      wpAny (model X.prog X.w) X.A (evalAll ((backToKw pos (keywordEach kws X.env)).map (·.2))) (fun kvs s₂ => X.K.In s₂.heap ∧ wpAny (model X.prog X.w) X.A (call (.ref C) ([] ++ us) (((backToKw pos (keywordEach kws X.env)).filterMap (·.1)).zip kvs)) (EP X pins σ Q) X.xe s₂) X.xe s1 := fun {L1 H1 S1 ws vs us s1} I1 e1 r1 t1 rv q1 => by
    refine thn (hkw.run pos pins s1 σ H1 _ I1 ⟨L1, S1, env, r1, hE.mono e1, ResG.bind (T := TWs) q1⟩) fun kvs s2 ⟨zs', H2, I2, rz, L2', zs, S2, e2, r2, t2, _, q2⟩ => ⟨I2.kIn, ?_⟩
    rw [k2]
    split at q2
    · rename_i hnp'
      obtain ⟨xs', ex', q3⟩ := q2.ofO
      clear q2
      have q3 : ResG Z TW L2' H2 (runF P n sh.fn xs' S2) Q (ex Wx σ) := q3
      have hlen := runF_len hfn q3
      revert q3
      cases n with
      | zero => exact fun q => q.elim
      | succ k =>
        intro q3
        have FX : FnOk X.prog X.w X.K X.mg X.base (L2.CX X.prog X.w) k f fd ps (spI Z P (k + 1) sh.fn C) := by rw [G.K, G.mg]; exact F k rfl
        refine run_new (E := ex Wx σ) MX FX G.room bX (fun pins H s e s' I c => passAt tk σ pins H s e s' I c) I2 rv rz fun x dx hx hd hne => ?_
        obtain ⟨ys, ey, ry⟩ := hf L2' H2 ws zs vs zs' xs' x (t1.mono e2) t2 hnp' ex'
        exact ⟨x, dx, ys, L2', H2, S2, xs', fn, ey, hx, hd, hne, rfl, r2, ry, hfn, by rw [← ry.length]; exact hlen, q3.imp fun v H' qv e => ⟨rfl, e ▸ qv⟩⟩
    · exact q2.elim
  cases xs with
  | nil =>
    refine PySem.W.callWith_KW0 (h₀ := X.base) I.ok.mod.kin MX.kp k1 ?_ (by rw [k3]; rfl)
    have e0 := hnil rfl
    subst e0
    have q1 : ResG Z TW L H (R.bind (.ok [] S) _) Q (ex Wx σ) := q
    exact fin (us := []) I .refl hR .nil .nil q1
  | cons y ys =>
    have he := star_plain (es := ys) (env := X.env) (hs y List.mem_cons_self)
    refine PySem.W.callWith_KW (h₀ := X.base) I.ok.mod.kin MX.kp k1 (thn (ha.run pos pins s σ H _ I ⟨L, S, env, hR, hE, ResG.bind (T := TWs) q⟩) fun us s1 ⟨vs, H1, I1, rv, L1, ws, S1, e1, r1, t1, _, q1⟩ => ?_) ?_ he
    · exact fin I1 e1 r1 t1 rv q1
    · rw [back_plain hs, k3]; rfl
/-- o.m(..) -/
theorem meth_ok {X : Cx} {c : Ct} (G : Gd X c Z P n) {Wx : WX} (tk : Takes X Wx) {h : Nat} {sh : Sh} {a : E} {es ks : Es} {nm m : Str} {apos pos : Pos} {o : Expr} {xs : List Expr} {kws : List Keyword} (hsh : P.shs[h]? = some sh) (hx : c.mts[sh.fn]? = some (nm, m)) (hn : okName nm = true)
    (hline : (apos.endLine == pos.line) = true) (hf20 : xs.length + kws.length < 20) (h0 : isCall0 o = false)
    (hk : kwNms kws = sh.ks.map some) (hnil : xs = [] → es = .nil) (hs : ∀ e ∈ xs, isStar e = false) (ho : PE X o (lE Z (cn P n) Wx (.slf nm m a))) (ha : PA X xs (lA Z (cn P n) Wx es)) (hkw : PK X kws (lA Z (cn P n) Wx ks)) :
    PE X (.Call (.Attribute o m apos) xs kws pos) (lE Z (cn P n) Wx (.call h (.cons (.slf nm m a) es) ks)) := by
  obtain ⟨C, f, fd, ps, g, gV, hC, hm, F, hb, hf, fn, hfn, hnp⟩ := G.mets h sh nm m hsh hx (okName_ne hn)
  obtain ⟨k1, k2, k3⟩ := kws_all (env := X.env) (pos := pos) hk
  have FX : FnOk X.prog X.w X.K X.mg X.base (L2.CX X.prog X.w) n f fd ps (spF Z P n sh.fn) := by rw [G.K, G.mg]; exact F
  have bX : KBinds X.K fd ps sh.ks g gV := by rw [G.K]; exact hb
  have mX : Meth X.K C m f := by rw [G.K]; exact hm
  have hfew : methodCallForm (xs.length + kws.length) (backTo pos (starEach xs X.env)) (backToKw pos (keywordEach kws X.env)) = true := by
    unfold methodCallForm
    rw [back_few hs, k1]
    simp only [Bool.true_and, decide_eq_true_eq]
    split <;> omega
  have hc : eval (.Call (.Attribute o m apos) xs kws pos) X.env = (do
      let ov ← eval o X.env
      standAt apos.atName
      let (f, first) ← holding [ov] (getMethod ov m (do return (← importBound o X.env).getD true))
      callWith pos f first (backTo pos (starEach xs X.env)) (backToKw pos (keywordEach kws X.env))) := by
    have e1 : eval (.Call (.Attribute o m apos) xs kws pos) X.env = (do
      let ov ← attributeBase o m X.env (eval o X.env)
      standAt apos.atName
      methodCall o m apos pos X.env ov (xs.length + kws.length) (backTo pos (starEach xs X.env)) (backToKw pos (keywordEach kws X.env))) := rfl
    rw [e1, attr_base h0]
    unfold methodCall methodCallPos calleeOf
    rw [hfew, hline]
    rfl
  refine ⟨fun pins s σ H Q I ⟨L, S, env, hR, hE, q⟩ => ?_⟩
  obtain ⟨sh', e, q⟩ := ResG.ofO (show ResG Z TW L H (ofO (P.shs[h]?) _) Q _ from q)
  rw [hsh] at e; cases e
  have q : ResG Z TW L H (((ev (cn P n) (.slf nm m a) env S).bind fun w S => (evs (cn P n) es env S).bind fun ws S => .ok (w :: ws) S).bind fun ws S =>
      (evs (cn P n) ks env S).bind fun zs S => if ws.length = sh.np ∧ zs.length = sh.ks.length then ofO (fillA ws zs sh.fill) fun xs => runF P n sh.fn xs S else .st) Q (ex Wx σ) := q
  have q : ResG Z TW L H ((ev (cn P n) (.slf nm m a) env S).bind fun x S => (evs (cn P n) es env S).bind fun ws S => (evs (cn P n) ks env S).bind fun zs S => if (x :: ws).length = sh.np ∧ zs.length = sh.ks.length then ofO (fillA (x :: ws) zs sh.fill) fun xs => runF P n sh.fn xs S else .st) Q (ex Wx σ) := by
    revert q
    cases ev (cn P n) (.slf nm m a) env S with
    | st => exact fun q => q
    | ex x S => exact fun q => q
    | ok x S =>
      simp only [R.bind_ok]
      cases evs (cn P n) es env S with
      | st => exact fun q => q
      | ex x S => exact fun q => q
      | ok ws S => exact fun q => q
  refine PySem.W.methodCall_KW (thn (ho.run pins s σ H _ I ⟨L, S, env, hR, hE, ResG.bind (T := TW) q⟩) fun u s0 ⟨y, H0, I0, ry, L0, w0, S0, e0, r0, t0, hev, q0⟩ => ?_) hc
  have hins : isIns nm m w0 S0 = true := by
    simp only [ev] at hev
    revert hev
    cases ev (cn P n) a env S with
    | st => exact fun z => by cases z
    | ex x S1 => exact fun z => by cases z
    | ok x S1 =>
      simp only [R.bind_ok]
      split
      · exact fun z => by cases z; assumption
      · exact fun z => by cases z
  obtain ⟨ad, C', dx, l, rfl, hC', ea, hl, cl⟩ := ins_of r0 hins t0
  rw [hC] at hC'
  cases hC'
  obtain rfl : u = Value.ref ad := ry
  refine getmeth_ok I0 ea (by rw [G.K]; exact cl) mX hl ?_
  have fin : ∀ {L1 : List Addr} {H1 : Hp} {S1 : Sg} {ws : List W} {vs : List V} {us : List Value} {s1 : Shared}, L2.Inv X pins σ H1 s1 → Ex Z.K L0 H0 L1 H1 → Rl Z.K L1 H1 S1 → RWs Z.K L1 H1 ws vs → Vals vs us →
      ResG Z TW L1 H1 ((evs (cn P n) ks env S1).bind fun zs S => if (w0 :: ws).length = sh.np ∧ zs.length = sh.ks.length then ofO (fillA (w0 :: ws) zs sh.fill) fun xs => runF P n sh.fn xs S else .st) Q (ex Wx σ) →
      wpAny (model X.prog X.w) X.A (evalAll ((backToKw pos (keywordEach kws X.env)).map (·.2))) (fun kvs s₂ => X.K.In s₂.heap ∧ wpAny (model X.prog X.w) X.A (call (.ref f) ([.ref ad] ++ us) (((backToKw pos (keywordEach kws X.env)).filterMap (·.1)).zip kvs)) (EP X pins σ Q) X.xe s₂) X.xe s1 := fun {L1 H1 S1 ws vs us s1} I1 e1 r1 t1 rv q1 => by
    refine thn (hkw.run pos pins s1 σ H1 _ I1 ⟨L1, S1, env, r1, (hE.mono e0).mono e1, ResG.bind (T := TWs) q1⟩) fun kvs s2 ⟨zs', H2, I2, rz, L2', zs, S2, e2, r2, t2, _, q2⟩ => ⟨I2.kIn, ?_⟩
    rw [k2]
    split at q2
    · rename_i hnp'
      obtain ⟨xs', ex', q3⟩ := q2.ofO
      clear q2
      have q3 : ResG Z TW L2' H2 (runF P n sh.fn xs' S2) Q (ex Wx σ) := q3
      have hlen := runF_len hfn q3
      have t3 := hf L2' H2 (w0 :: ws) zs (.ref ad :: vs) zs' xs' (.cons (t0.mono (e1.trans e2)) (t1.mono e2)) t2 hnp' ex'
      exact run_s (E := ex Wx σ) (us := .ref ad :: us) (vs := .ref ad :: vs) FX G.room bX (fun pins H s e s' I c => passAt tk σ pins H s e s' I c) I2 (.cons rfl rv) rz ⟨L2', S2, xs', fn, r2, t3, hfn, by rw [← t3.length]; exact hlen, q3⟩
    · exact q2.elim
  cases xs with
  | nil =>
    refine PySem.W.callWith_KW0 (first := [.ref ad]) (h₀ := X.base) I.ok.mod.kin mX.kp k1 ?_ (by rw [k3]; rfl)
    have e0 := hnil rfl
    subst e0
    have q1 : ResG Z TW L0 H0 (R.bind (.ok [] S0) _) Q (ex Wx σ) := q0
    exact fin (us := []) I0 .refl r0 .nil .nil q1
  | cons y ys =>
    have he := star_plain (es := ys) (env := X.env) (hs y List.mem_cons_self)
    refine PySem.W.callWith_KW (first := [.ref ad]) (h₀ := X.base) I.ok.mod.kin mX.kp k1 (thn (ha.run pos pins s0 σ H0 _ I0 ⟨L0, S0, env, r0, hE.mono e0, ResG.bind (T := TWs) q0⟩) fun us s1 ⟨vs, H1, I1, rv, L1, ws, S1, e1, r1, t1, _, q1⟩ => ?_) ?_ he
    · exact fin I1 e1 r1 t1 rv q1
    · rw [back_plain hs, k3]; rfl
end
end SF
set_option Elab.async false
set_option linter.all false
set_option maxRecDepth 100000
set_option maxHeartbeats 4000000
namespace SF
open PySem
/-! # bool(o) of an own class -/
theorem call_bool_own {prog : Program} {w : World} {A : Around} {E : Value → Shared → Prop} {s : Shared} {a : Addr} {Q : Value → Shared → Prop}
    (h : wpAny (model prog w) A.in1.in1 (truthy (.ref a)) (fun b s' => Q (.bool b) s') E s) : wpAny (model prog w) A (call (.type "bool") [.ref a]) Q E s := by
  have ft := F.called_bool
  obtain ⟨c, tl, hmro⟩ := ft.mro
  have hmade := ft.made
  have hsub := ft.sub
  refine wpAny_call (codeAny_of_tree ?_)
  show wpAny _ _ (callAny (.type "bool") _) _ _ _
  refine wpAny_pure ⟨Code.quiet_builtin _ (by decide +kernel), codeAny_builtin F.entry_type_call ?_⟩
  rw [Around.under_plain (weight_type_call_type "bool" [.ref a] []) (units_type_call_type "bool" [.ref a] [])]
  have h1 := ft.notType
  have h2 := ft.canCreate
  repeat (any_goals (first | assumption | wp_step))
  have HN : ∀ (R : Result → Shared → Prop), (∀ b s', Q (.bool b) s' → R (.ok (.ret (.bool b))) s') → (∀ e s', E e s' → R (.error e) s') → wpAny (model prog w) A.in1.in1 (Builtin.«bool.__new__» ⟨[.type "bool", .ref a], []⟩)
      (fun fin s' => match fin with | .done f => R (.ok f) s' | .again c' => c'.quiet = true ∧ codeAny (model prog w) A.in1 c' R s') (fun e s' => R (.error e) s') s := by
    intro R hR hE
    obtain ⟨hp, g, d, tk, os⟩ := s
    have f1 := F.conv_sub_bool
    have ht := fun (Q' : Bool → Shared → Prop) (hq : ∀ b s', Q (.bool b) s' → Q' b s') => wpAny_mono h hq (fun e s' he => hE e s' he)
    repeat (any_goals (first | assumption | (with_reducible refine ht _ (fun b s' hb => ?_)) | wp_step))
    all_goals first | exact hR _ _ ‹_› | skip
  have HC := codeAny_call_builtin (R := fun r s' => match r with
    | .error e => E e s'
    | .ok (.ret v) => ∃ b, v = .bool b ∧ Q (.bool b) s'
    | .ok _ => False) ft.plain F.entry_bool_new (wpAny_of_eq (F.newCall_bool_1 (.ref a)) (HN (fun r s' => match r with
    | .error e => E e s'
    | .ok (.ret v) => ∃ b, v = .bool b ∧ Q (.bool b) s'
    | .ok _ => False) (fun b s' q => ⟨b, rfl, q⟩) fun e s' q => q))
  refine codeAny_mono HC fun r s₁ hr => ?_
  cases r with
  | error e => exact hr
  | ok fl =>
    cases fl with
    | ret obj =>
      obtain ⟨b, rfl, hq⟩ := hr
      have hT : s₁.TypeIs (.bool b) "bool" := rfl
      have hok := F.args_object_init_2 (.bool b) (.ref a)
      have hli := ft.init.lookup
      have hbi := ft.init.bind (.bool b)
      repeat (any_goals (first | assumption | wp_step))
      have HI := codeAny_call_builtin (R := fun r s' => match r with
        | .error e => E e s'
        | .ok (.ret v) => v = .none ∧ Q (.bool b) s'
        | .ok _ => False) ft.init.plain F.entry_object_init (ft.init.check _ _ _ _ _ [.ref a] _ _ hT hok (object_init_meets (rest := [.ref a]) ft.init.lookup ft.made F.newNe_bool prog w A.in1 (fun r s' => match r with
        | .error e => E e s'
        | .ok (.ret v) => v = .none ∧ Q (.bool b) s'
        | .ok _ => False) s₁ ⟨hT, rfl, hq⟩))
      refine codeAny_mono HI fun r₂ s₂ hr₂ => ?_
      cases r₂ with
      | error e => exact hr₂
      | ok fl₂ =>
        cases fl₂ with
        | ret r =>
          obtain ⟨rfl, hq⟩ := hr₂
          repeat (any_goals (first | assumption | wp_step))
        | next => exact hr₂.elim
        | brk => exact hr₂.elim
        | cont => exact hr₂.elim
    | next => exact hr.elim
    | brk => exact hr.elim
    | cont => exact hr.elim
end SF
set_option Elab.async false
set_option linter.all false
set_option maxRecDepth 100000
set_option maxHeartbeats 4000000
namespace SF
open PySem L2
section
variable {Z : Zx} {P : Pg} {n : Nat}
theorem ins_inst {X : Cx} {pins : List (Addr × Obj)} {σ : L2.St} {H : Hp} {s : Shared} {a C dx : Addr} {l : List (Str × V)} (I : L2.Inv X pins σ H s) (h : H a = some (.ins C dx l)) : ∃ ox od, PySem.W.InstAt s.heap a ox C od := by
  obtain ⟨mA, O, _⟩ := ins_get I.hok h
  obtain ⟨od, J, _⟩ := O.look
  exact ⟨_, _, J⟩
theorem run_at {X : Cx} {CX : CXT} {k : Nat} {f : Addr} {fd : FuncData} {ps : List Str} {sp : Sp} {E : XK} {g : List Value → List Value → List Value} {gV : List V → List V → List V} {pins : List (Addr × Obj)} {σ : L2.St} {H : Hp} {s : Shared} {Q : VK} {us : List Value} {vs : List V} {A : Around}
    (F : FnOk X.prog X.w X.K X.mg X.base CX k f fd ps sp) (hr : Room k A) (e0 : Env0 X.prog X.w X.K X.mg X.base A X.stack s H) (hb : KBinds X.K fd ps [] g gV) (hx : PassesAt CX X σ E) (I : L2.Inv X pins σ H s) (r : Vals vs us) (h : sp (gV vs []) H Q E) :
    wpAny (model X.prog X.w) A (call (.ref f) us) (EP X pins σ Q) X.xe s := by
  have r2 := hb.rel r (.nil : Vals [] [])
  have hl : (g us []).length = ps.length := by rw [← r2.length]; exact F.len _ _ _ _ h
  refine wpAny_call (codeAny_mono (F.run A X.stack s H ⟨us, []⟩ (g us []) (gV vs []) Q E hr e0 (hb.to s us [] I.kIn hl) r2 h) fun r s' hq => ?_)
  match r, hq with
  | .error e, hq => exact hx pins H s e s' I hq
  | .ok (.ret u), hq => exact I.after hq
  | .ok .next, hq => exact hq.elim
  | .ok .brk, hq => exact hq.elim
  | .ok .cont, hq => exact hq.elim
/-- bool(o) -/
theorem bool_ok {X : Cx} {c : Ct} (G : Gd X c Z P n) {Wx : WX} (tk : Takes X Wx) {h : Nat} {sh : Sh} {a : E} {nm : Str} {p pos : Pos} {x : Expr} (hsh : P.shs[h]? = some sh) (hx : c.dns[sh.fn]? = some (nm, ("__bool__" : Str))) (hn : okName nm = true) (hks : sh.ks = []) (hfl : sh.fill = []) (hnp : sh.np = 1)
    (hg : glbB c.sc "bool" = true) (hs : isStar x = false) (ha : PE X x (lE Z (cn P n) Wx a)) :
    PE X (.Call (.Name "bool" p) [x] [] pos) (lE Z (cn P n) Wx (.dun .bool h nm a)) := by
  obtain ⟨C, f, fd, ps, g, gV, hC, hfi, hty, F, hb, hf, fn, hfn, hps, hkd⟩ := G.duns h sh nm ("__bool__" : Str) hsh hx (okName_ne hn)
  have na := star_plain (es := []) (env := X.env) hs
  have pa : PA X [x] (tCons (lE Z (cn P n) Wx a) tNil) := pa_cons ha pa_nil na
  refine ⟨fun pins s σ H Q I ⟨L, S, env, hR, hE, q⟩ => ?_⟩
  refine wpAny_Call_Name_kw (ld_blt (u := .type "bool") I (glx G hg) (G.blt _ (by decide +kernel)) (by decide +kernel) ?_ (by decide) (by decide))
  obtain ⟨sh', e, q⟩ := ResG.ofO (show ResG Z TW L H (ofO (P.shs[h]?) _) Q _ from q)
  rw [hsh] at e; cases e
  have pa2 : PA X [x] (fun σ H R => lE Z (cn P n) Wx a σ H fun v H1 => R [v] H1) := pa_imp pa fun σ H R q => q
  refine PyProof.Rows.callWith_type1 (thn (pa2.run pos pins s σ H (fun vs H1 => ∃ v, vs = [v] ∧ ∃ L' w S', Ex Z.K L H L' H1 ∧ Rl Z.K L' H1 S' ∧ RW Z.K L' H1 w v ∧ ResG Z TW L' H1 (if isIns nm (Dk.m .bool) w S' then ((cn P n).cl sh.fn [w] S').bind fun w S => if Dk.ok .bool w then .ok w S else .st else .st) Q (ex Wx σ)) I
    ⟨L, S, env, hR, hE, (ResG.bind (T := TW) q).imp fun v H1 ⟨L1, w, S1, e1, r1, t1, _, q1⟩ => ⟨v, rfl, L1, w, S1, e1, r1, t1, q1⟩⟩) fun us s1 ⟨vs, H1, I1, r1, v, ev, L1, w, S1, e1, rl1, t1, q1⟩ => ?_) na rfl
  subst ev
  split at q1
  rotate_left
  · exact q1.elim
  rename_i hins
  obtain ⟨ad, C', dx, l, rfl, hC', ea, hl, cl⟩ := ins_of rl1 hins t1
  rw [hC] at hC'
  cases hC'
  cases r1 with
  | @cons _ u _ _ ru rr =>
  cases rr
  obtain rfl : u = Value.ref ad := ru
  have q2 : ResG Z TW L1 H1 (runF P n sh.fn [w] S1) (fun v H' => ∃ b, v = .bl b ∧ Q (.bl b) H') (ex Wx σ) := by
    refine (ResG.bind (T := TW) q1).imp fun v H' ⟨L2, w2, S2, e2, r2, t2, _, q3⟩ => ?_
    split at q3
    · rename_i hok
      cases t2 with
      | bl b => exact ⟨b, rfl, q3 L2 H' _ .refl r2 (.bl b)⟩
      | non => cases hok
      | int _ => cases hok
      | str _ => cases hok
      | tup _ _ => cases hok
      | ref _ => cases hok
    · exact q3.elim
  have hlen := runF_len hfn q2
  have bX : KBinds X.K fd ps [] g gV := by rw [G.K, ← hks]; exact hb
  have t3 := hf L1 H1 [w] [] [.ref ad] [] [w] (.cons t1 .nil) .nil ⟨hnp.symm, by simp [hks]⟩ (by rw [hfl]; rfl)
  have fin : ∀ k, n = k + 2 → wpAny (model X.prog X.w) X.A.in1.in1 (truthy (.ref ad)) (fun b s' => EP X pins σ Q (.bool b) s') X.xe s1 := fun k hk => by
    have FX : FnOk X.prog X.w X.K X.mg X.base (L2.CX X.prog X.w) k f fd ps (spF Z P n sh.fn) := by rw [G.K, G.mg]; exact F k hk
    have hr : Room (k + 2) X.A := by rw [← hk]; exact G.room
    have hrun : wpAny (model X.prog X.w) X.A.in1.in1 (call (.ref f) [.ref ad]) (EP X pins σ fun v H' => ∃ b, v = .bl b ∧ Q (.bl b) H') X.xe s1 :=
      run_at (E := ex Wx σ) (vs := [V.ref ad]) (us := [Value.ref ad]) FX hr.in1.in1 I1.env0.in1.in1 bX (fun pins H s e s' I c => passAt tk σ pins H s e s' I c) I1 (.cons rfl .nil) ⟨L1, S1, [w], fn, rl1, t3, hfn, by rw [← t3.length]; exact hlen, q2⟩
    obtain ⟨ox, od, J⟩ := ins_inst I1 ea
    have hs : wpAny (model X.prog X.w) X.A.in1.in1 (callSpecial? (.ref ad) (Str.ofString "__bool__") []) (fun r s' => ∃ b, r = some (.bool b) ∧ EP X pins σ Q (.bool b) s') X.xe s1 :=
      PySem.W.special_fn I1.kIn J (by rw [G.K]; exact hfi) (by rw [G.K]; exact hty) (wpAny_mono hrun (fun u s' ⟨v, H', I', rv, b, e, q⟩ => by
        subst e
        cases rv
        exact ⟨b, rfl, .bl b, H', I', rfl, q⟩) fun _ _ z => z)
    unfold truthy
    first
      | (refine wpAny_bind (m := callSpecial? (.ref ad) (Str.ofString "__bool__")) (wpAny_mono hs (fun r s' hr => ?_) fun _ _ y => y))
      | (refine wpAny_bind (wpAny_pure ?_); refine wpAny_bind (m := callSpecial? (.ref ad) (Str.ofString "__bool__")) (wpAny_mono hs (fun r s' hr => ?_) fun _ _ y => y))
    obtain ⟨b, rfl, hq⟩ := hr
    exact wpAny_pure hq
  have hn2 : ∃ k, n = k + 2 := by
    match n, q2 with
    | 0, q2 => exact q2.elim
    | 1, q2 =>
      exfalso
      simp only [runF, hfn, hkd] at q2
      split at q2
      · exact q2.elim
      · exact q2.elim
    | k + 2, _ => exact ⟨k, rfl⟩
  obtain ⟨k, hk⟩ := hn2
  exact call_bool_own (fin k hk)
theorem cr_bool {X : Cx} : CallR X (.type "bool") (fun xs H Q => ∃ b, xs = [.bl b] ∧ Q (.bl b) H) := by
  rintro pins s σ H xs us Q I r ⟨b, rfl, q⟩
  cases r with
  | @cons _ u _ _ ra rr =>
    cases rr
    obtain rfl : u = Value.bool b := ra
    exact call_bool_bool ⟨.bl b, H, I, rfl, q⟩
/-- bool(True) -/
theorem blo_ok {X : Cx} {c : Ct} (G : Gd X c Z P n) {cc : Cn} {Wx : WX} {a : E} {p pos : Pos} {x : Expr} (hg : glbB c.sc "bool" = true) (hs : isStar x = false) (ha : PE X x (lE Z cc Wx a)) :
    PE X (.Call (.Name "bool" p) [x] [] pos) (lE Z cc Wx (.blo a)) := by
  have na := star_plain (es := []) (env := X.env) hs
  refine pe_imp (pe_callTy cr_bool (glx G hg) (G.blt _ (by decide +kernel)) (by decide +kernel) (pa_cons ha pa_nil na) (by decide) (by decide) na rfl) fun σ H Q ⟨L, S, env, hR, hE, h⟩ => ?_
  refine ⟨L, S, env, hR, hE, (ResG.bind (T := TW) h).imp fun v H1 ⟨L1, w1, S1, e1, r1, t1, q1, h1⟩ => ?_⟩
  cases t1 with
  | bl b => exact ⟨b, rfl, h1 L1 H1 _ .refl r1 (.bl b)⟩
  | non => exact h1.elim
  | int _ => exact h1.elim
  | str _ => exact h1.elim
  | tup _ _ => exact h1.elim
  | ref _ => exact h1.elim
end
end SF
set_option Elab.async false
set_option linter.all false
set_option maxRecDepth 100000
set_option maxHeartbeats 4000000
namespace SF
open PySem L2
section
variable {Z : Zx} {P : Pg} {n : Nat}
theorem call_any {X : Cx} {c : Ct} (G : Gd X c Z P n) {Wx : WX} (tk : Takes X Wx) {h : Nat} {es ks : Es} {x : Expr} (hc : chk c (.call h es ks) x = true) (ha : ∀ xs, chkN c es xs = true → PA X xs (lA Z (cn P n) Wx es)) (hk : ∀ kws, chkN c ks (kwVals kws) = true → PK X kws (lA Z (cn P n) Wx ks))
    (hm : ∀ a es', es = .cons a es' → (∀ o, chk c a o = true → PE X o (lE Z (cn P n) Wx a)) ∧ ∀ xs, chkN c es' xs = true → PA X xs (lA Z (cn P n) Wx es')) : PE X x (lE Z (cn P n) Wx (.call h es ks)) := by
  simp only [chk] at hc
  split at hc
  · simp only [Bool.and_eq_true] at hc
    obtain ⟨⟨h1, h2⟩, h3⟩ := hc
    split at h1
    · rename_i sh esh
      simp only [siteB, Bool.and_eq_true, Bool.or_eq_true, decide_eq_true_eq] at h1
      obtain ⟨⟨⟨⟨a1, a2⟩, a3⟩, a4⟩, a5⟩ := h1
      have hnil : ∀ {xs : List Expr}, chkN c es xs = true → xs = [] → es = .nil := fun {xs} h2 e => by subst e; cases es <;> first | rfl | (simp [chkN] at h2)
      rcases a1 with a1 | a1
      · exact call_ok G tk (by rw [← G.shs]; exact esh) a1 a2 a3 a4 (hnil h2) (chkN_star h2) (ha _ h2) (hk _ h3)
      · exact new_ok G tk (by rw [← G.shs]; exact esh) a1 a2 a3 a4 (hnil h2) (chkN_star h2) (ha _ h2) (hk _ h3)
    · cases h1
  · simp only [Bool.and_eq_true] at hc
    obtain ⟨⟨h1, h2⟩, h3⟩ := hc
    split at h1
    · rename_i sh esh
      simp only [Bool.and_eq_true, decide_eq_true_eq, Bool.not_eq_true'] at h1
      obtain ⟨⟨⟨⟨⟨a1, a2⟩, a3⟩, a4⟩, a5⟩, a6⟩ := h1
      unfold slfB at a1
      split at a1
      · rename_i nm m' a es'
        simp only [Bool.and_eq_true, beq_iff_eq, decide_eq_true_eq] at a1
        obtain ⟨⟨rfl, b2⟩, b3⟩ := a1
        obtain ⟨k1, k2⟩ := hm _ _ rfl
        simp only [chkN, Bool.and_eq_true, Bool.not_eq_true'] at h2
        obtain ⟨⟨g1, g2⟩, g3⟩ := h2
        exact meth_ok G tk (by rw [← G.shs]; exact esh) b2 b3 a2 a3 a4 a5 (fun e => by subst e; cases es' <;> first | rfl | (simp [chkN] at g3)) (chkN_star g3) (k1 _ g2) (k2 _ g3) (hk _ h3)
      · cases a1
    · cases h1
  · cases hc
end
end SF
set_option Elab.async false
set_option linter.all false
set_option maxRecDepth 100000
set_option maxHeartbeats 4000000
namespace SF
open PySem L2
section
variable {Z : Zx} {P : Pg} {n : Nat}
theorem pts_imp {X : Cx} {e : List Expr} {t t' : TT} (h : PTs X e t) (i : ∀ σ H Q, t' σ H Q → t σ H Q) : PTs X e t' := ⟨fun pins s σ H Q I q => h.run pins s σ H Q I (i σ H Q q)⟩
mutual
theorem E_ok : ∀ (e : E) {X : Cx} {c : Ct} {Wx : WX} (G : Gd X c Z P n) (tk : Takes X Wx) (x : Expr), chk c e x = true → PE X x (lE Z (cn P n) Wx e)
  | .var i, X, c, Wx, G, tk, x, h => by
    simp only [chk] at h
    split at h
    · exact e_var G h
    · cases h
  | .con w, X, c, Wx, G, tk, x, h => by
    simp only [chk] at h
    split at h
    · exact e_con h
    · cases h
  | .gl g, X, c, Wx, G, tk, x, h => by
    simp only [chk] at h
    split at h
    · exact e_gl G h
    · cases h
  | .neg a, X, c, Wx, G, tk, x, h => by
    simp only [chk] at h
    split at h
    · exact e_neg (E_ok a G tk _ h)
    · cases h
  | .bin o a b, X, c, Wx, G, tk, x, h => by
    simp only [chk] at h
    split at h
    · simp only [Bool.and_eq_true] at h
      rw [isB_eq h.1.1]
      exact e_bin G.K (E_ok a G tk _ h.1.2) (E_ok b G tk _ h.2)
    · cases h
  | .cmp o a b, X, c, Wx, G, tk, x, h => by
    simp only [chk] at h
    split at h
    · simp only [Bool.and_eq_true] at h
      have e := isC_eq h.1.1.1
      subst e
      exact e_cmp G.K (gd_units G) h.1.1.2 (E_ok a G tk _ h.1.2) (E_ok b G tk _ h.2)
    · cases h
  | .ch o p a b d, X, c, Wx, G, tk, x, h => by
    simp only [chk] at h
    split at h
    · simp only [Bool.and_eq_true] at h
      have e := isC_eq h.1.1.1.1.1
      have e2 := isC_eq h.1.1.1.1.2
      subst e e2
      exact e_ch G.K (gd_units G) h.1.1.1.2 (E_ok a G tk _ h.1.1.2) (E_ok b G tk _ h.1.2) (E_ok d G tk _ h.2)
    · cases h
  | .bo an bs, X, c, Wx, G, tk, x, h => by
    simp only [chk] at h
    split at h
    · simp only [Bool.and_eq_true] at h
      have e := isBO_eq h.1
      subst e
      exact pe_imp (B_ok bs an G tk _ _ h.2) fun σ H Q q => q
    · cases h
  | .nt a, X, c, Wx, G, tk, x, h => by
    simp only [chk] at h
    split at h
    · exact e_nt (E_ok a G tk _ h)
    · cases h
  | .ite t a b, X, c, Wx, G, tk, x, h => by
    simp only [chk] at h
    split at h
    · simp only [Bool.and_eq_true] at h
      exact e_ite (T_ok t G tk _ h.1.1) (E_ok a G tk _ h.1.2) (E_ok b G tk _ h.2)
    · cases h
  | .call q .nil ks, X, c, Wx, G, tk, x, h => call_any G tk h (fun xs hx => N_ok .nil G tk xs hx) (fun kws hx => K_ok ks G tk kws hx) fun _ _ e => nomatch e
  | .call q (.star a es) ks, X, c, Wx, G, tk, x, h => call_any G tk h (fun xs hx => N_ok (.star a es) G tk xs hx) (fun kws hx => K_ok ks G tk kws hx) fun _ _ e => nomatch e
  | .call q (.cons a es) ks, X, c, Wx, G, tk, x, h => call_any G tk h (fun xs hx => N_ok (.cons a es) G tk xs hx) (fun kws hx => K_ok ks G tk kws hx) fun a' es' e => by cases e; exact ⟨fun o ho => E_ok a G tk o ho, fun xs hx => N_ok es G tk xs hx⟩
  | .fld a f, X, c, Wx, G, tk, x, h => by
    simp only [chk] at h
    split at h
    · simp only [Bool.and_eq_true, Bool.not_eq_true', beq_iff_eq] at h
      obtain ⟨⟨rfl, h2⟩, h3⟩ := h
      exact e_fld G.K h2 (E_ok a G tk _ h3)
    · cases h
  | .slf nm m a, X, c, Wx, G, tk, x, h => by
    simp only [chk, Bool.and_eq_true] at h
    exact e_slf (E_ok a G tk _ h.2)
  | .mk nm fs es, X, c, Wx, G, tk, x, h => by simp [chk] at h
  | .blo a, X, c, Wx, G, tk, x, h => by
    simp only [chk] at h
    split at h
    · simp only [Bool.and_eq_true, Bool.not_eq_true'] at h
      obtain ⟨p, rfl, g⟩ := chkG_of h.1.1
      exact blo_ok G g h.1.2 (E_ok a G tk _ h.2)
    · cases h
  | .dun d q nm a, X, c, Wx, G, tk, x, h => by
    simp only [chk] at h
    split at h
    · simp only [Bool.and_eq_true, Bool.not_eq_true'] at h
      obtain ⟨⟨⟨h1, h2⟩, h3⟩, h4⟩ := h
      split at h2
      · rename_i sh esh
        simp only [Bool.and_eq_true, decide_eq_true_eq, List.isEmpty_iff] at h2
        obtain ⟨⟨⟨⟨⟨rfl, a2⟩, a3⟩, a4⟩, a5⟩, a6⟩ := h2
        obtain ⟨p, rfl, g⟩ := chkG_of h1
        exact bool_ok G tk (by rw [← G.shs]; exact esh) a2 a3 a4 a5 a6 g h3 (E_ok a G tk _ h4)
      · cases h2
    · cases h
  | .bi b es, X, c, Wx, G, tk, x, h => by
    simp only [chk] at h
    split at h
    · simp only [Bool.and_eq_true] at h
      obtain ⟨p, rfl, g⟩ := chkG_of h.1
      exact bi_ok G b g (chkN_star h.2) (N_ok es G tk _ h.2)
    · cases h
  | .lset a, X, c, Wx, G, tk, x, h => by
    simp only [chk] at h
    split at h
    · simp only [Bool.and_eq_true, Bool.not_eq_true'] at h
      obtain ⟨p, rfl, g⟩ := chkG_of h.1.1.1
      obtain ⟨p2, rfl, g2⟩ := chkG_of h.1.1.2
      exact lset_ok G g g2 h.1.2 (E_ok a G tk _ h.2)
    · cases h
  | .me m o es, X, c, Wx, G, tk, x, h => by
    simp only [chk] at h
    split at h
    · simp only [Bool.and_eq_true, decide_eq_true_eq, Bool.not_eq_true'] at h
      obtain ⟨⟨⟨⟨⟨rfl, a1⟩, a2⟩, a3⟩, a4⟩, a5⟩ := h
      exact me_ok G m a1 a2 a3 (chkN_star a5) (E_ok o G tk _ a4) (N_ok es G tk _ a5)
    · cases h
  | .me0 m o, X, c, Wx, G, tk, x, h => by
    simp only [chk] at h
    split at h
    · simp only [Bool.and_eq_true, decide_eq_true_eq, Bool.not_eq_true'] at h
      obtain ⟨⟨⟨rfl, a1⟩, a2⟩, a3⟩ := h
      exact me0_ok G m a1 a2 (E_ok o G tk _ a3)
    · cases h
  | .rev a, X, c, Wx, G, tk, x, h => by
    simp only [chk] at h
    split at h
    · simp only [Bool.and_eq_true, decide_eq_true_eq] at h
      obtain ⟨rfl, a1⟩ := h
      exact e_rev G.K (E_ok a G tk _ a1)
    · cases h
  | .isi a t, X, c, Wx, G, tk, x, h => by
    simp only [chk] at h
    split at h
    · simp only [Bool.and_eq_true, Bool.not_eq_true'] at h
      obtain ⟨p, rfl, g⟩ := chkG_of h.1.1.1
      obtain ⟨p2, rfl, g2⟩ := chkG_of h.2
      exact isi_ok G g g2 h.1.1.2 (E_ok a G tk _ h.1.2)
    · cases h
  | .isis a ts, X, c, Wx, G, tk, x, h => by
    simp only [chk] at h
    split at h
    · simp only [Bool.and_eq_true, Bool.not_eq_true', decide_eq_true_eq] at h
      obtain ⟨⟨⟨⟨⟨h1, h2⟩, h3⟩, h4⟩, h5⟩, h6⟩ := h
      obtain ⟨p, rfl, g⟩ := chkG_of h1
      exact isis_ok G (fun e => by subst e; simp at h3) h4 g h6 h2 (E_ok a G tk _ h5)
    · cases h
  | .tup es, X, c, Wx, G, tk, x, h => by
    simp only [chk] at h
    split at h
    · exact e_tup (S_ok es G tk _ h)
    · cases h
  | .lst es, X, c, Wx, G, tk, x, h => by
    simp only [chk] at h
    split at h
    · exact e_lst (S_ok es G tk _ h)
    · cases h
  | .dic0 t, X, c, Wx, G, tk, x, h => by
    simp only [chk] at h
    split at h
    · exact e_dic0
    · cases h
  | .ix a b, X, c, Wx, G, tk, x, h => by
    simp only [chk] at h
    split at h
    · simp only [Bool.and_eq_true, Bool.not_eq_true'] at h
      exact e_ix G.K (gd_units G) h.1.1 (E_ok a G tk _ h.1.2) (E_ok b G tk _ h.2)
    · cases h
  | .sl a lo hi, X, c, Wx, G, tk, x, h => by
    simp only [chk] at h
    split at h
    · simp only [Bool.and_eq_true] at h
      exact e_sl G.K (E_ok a G tk _ h.1.1) (O_ok lo G tk _ h.1.2) (O_ok hi G tk _ h.2)
    · cases h
  | .comp e tg it cond own, X, c, Wx, G, tk, x, h => by
    simp only [chk] at h
    split at h
    · simp only [Bool.and_eq_true] at h
      obtain ⟨⟨⟨⟨⟨⟨h1, h2⟩, h3⟩, h4⟩, h5⟩, h6⟩, h7⟩ := h
      have hi := I_ok it G tk _ _ h3 h4
      exact comp_ok G h1 (fun i hi => by simpa using List.all_eq_true.mp h2 i hi) hi.1
        (fun s H C cl fp => tg_ok (gd_blk G _ s H C cl fp) tg _ h5)
        (fun s H C cl fp => C_ok cond (gd_blk G _ s H C cl fp) takes0 _ h6)
        (fun s H C cl fp => E_ok e (gd_blk G _ s H C cl fp) takes0 _ h7) hi.2
    · cases h
theorem N_ok : ∀ (es : Es) {X : Cx} {c : Ct} {Wx : WX} (G : Gd X c Z P n) (tk : Takes X Wx) (xs : List Expr), chkN c es xs = true → PA X xs (lA Z (cn P n) Wx es)
  | .nil, X, c, Wx, G, tk, xs, h => by
    simp only [chkN] at h
    split at h
    · exact a_nil
    · cases h
  | .cons e es, X, c, Wx, G, tk, xs, h => by
    simp only [chkN] at h
    split at h
    · simp only [Bool.and_eq_true, Bool.not_eq_true'] at h
      exact a_cons h.1.1 (E_ok e G tk _ h.1.2) (N_ok es G tk _ h.2)
    · cases h
  | .star e es, X, c, Wx, G, tk, xs, h => by simp [chkN] at h
theorem K_ok : ∀ (es : Es) {X : Cx} {c : Ct} {Wx : WX} (G : Gd X c Z P n) (tk : Takes X Wx) (xs : List Keyword), chkN c es (kwVals xs) = true → PK X xs (lA Z (cn P n) Wx es)
  | .nil, X, c, Wx, G, tk, [], h => k_nil
  | .nil, X, c, Wx, G, tk, ⟨_, _, _⟩ :: _, h => by simp [chkN, kwVals] at h
  | .cons e es, X, c, Wx, G, tk, [], h => by simp [chkN, kwVals] at h
  | .cons e es, X, c, Wx, G, tk, ⟨nm, x, p⟩ :: xs, h => by
    simp only [kwVals, chkN, Bool.and_eq_true, Bool.not_eq_true'] at h
    exact k_cons (E_ok e G tk _ h.1.2) (K_ok es G tk _ h.2)
  | .star e es, X, c, Wx, G, tk, xs, h => by simp [chkN] at h
theorem S_ok : ∀ (es : Es) {X : Cx} {c : Ct} {Wx : WX} (G : Gd X c Z P n) (tk : Takes X Wx) (xs : List Expr), chkS c es xs = true → PA X xs (lA Z (cn P n) Wx es)
  | .nil, X, c, Wx, G, tk, xs, h => by
    simp only [chkS] at h
    split at h
    · exact a_nil
    · cases h
  | .cons e es, X, c, Wx, G, tk, xs, h => by
    simp only [chkS] at h
    split at h
    · simp only [Bool.and_eq_true, Bool.not_eq_true'] at h
      exact a_cons h.1.1 (E_ok e G tk _ h.1.2) (S_ok es G tk _ h.2)
    · cases h
  | .star e es, X, c, Wx, G, tk, xs, h => by
    simp only [chkS] at h
    split at h
    · simp only [Bool.and_eq_true] at h
      exact a_star G.K (E_ok e G tk _ h.1) (S_ok es G tk _ h.2)
    · cases h
theorem B_ok : ∀ (bs : Eb) (an : Bool) {X : Cx} {c : Ct} {Wx : WX} (G : Gd X c Z P n) (tk : Takes X Wx) (xs : List Expr) (pos : Pos), chkB c bs xs = true → PE X (.BoolOp (if an then .And else .Or) xs pos) (lB Z (cn P n) Wx an bs)
  | .one e, an, X, c, Wx, G, tk, xs, pos, h => by
    simp only [chkB] at h
    split at h
    · exact pe_imp (pe_one (E_ok e G tk _ h)) fun σ H Q q => q
    · cases h
  | .cons e bs, an, X, c, Wx, G, tk, xs, pos, h => by
    simp only [chkB] at h
    split at h
    · simp only [Bool.and_eq_true] at h
      exact eb_cons (E_ok e G tk _ h.1) (B_ok bs an G tk _ _ h.2)
    · cases h
theorem T_ok : ∀ (t : Tt) {X : Cx} {c : Ct} {Wx : WX} (G : Gd X c Z P n) (tk : Takes X Wx) (x : Expr), chkTt c t x = true → PT X x (lT Z (cn P n) Wx t)
  | .val e, X, c, Wx, G, tk, x, h => by
    simp only [chkTt, Bool.and_eq_true] at h
    exact t_val G.K h.1 (E_ok e G tk _ h.2)
  | .bo an ts, X, c, Wx, G, tk, x, h => by
    simp only [chkTt] at h
    split at h
    · simp only [Bool.and_eq_true] at h
      have e := isBO_eq h.1
      subst e
      exact pt_imp (Tb_ok ts an G tk _ _ h.2).pt fun σ H Q q => q
    · cases h
  | .nt t, X, c, Wx, G, tk, x, h => by
    simp only [chkTt] at h
    split at h
    · exact t_nt (T_ok t G tk _ h)
    · cases h
  | .cmp o a b, X, c, Wx, G, tk, x, h => by
    simp only [chkTt] at h
    split at h
    · simp only [Bool.and_eq_true] at h
      have e := isC_eq h.1.1.1
      subst e
      exact t_cmp G.K (gd_units G) h.1.1.2 (E_ok a G tk _ h.1.2) (E_ok b G tk _ h.2)
    · cases h
  | .ch o p a b d, X, c, Wx, G, tk, x, h => by
    simp only [chkTt] at h
    split at h
    · simp only [Bool.and_eq_true] at h
      have e := isC_eq h.1.1.1.1.1
      have e2 := isC_eq h.1.1.1.1.2
      subst e e2
      exact t_ch G.K (gd_units G) h.1.1.1.2 (E_ok a G tk _ h.1.1.2) (E_ok b G tk _ h.1.2) (E_ok d G tk _ h.2)
    · cases h
theorem Tb_ok : ∀ (ts : Tb) (an : Bool) {X : Cx} {c : Ct} {Wx : WX} (G : Gd X c Z P n) (tk : Takes X Wx) (xs : List Expr) (pos : Pos), chkTb c ts xs = true → PW X (.BoolOp (if an then .And else .Or) xs pos) (lTb Z (cn P n) Wx an ts)
  | .one t, an, X, c, Wx, G, tk, xs, pos, h => by
    simp only [chkTb] at h
    split at h
    · exact tb_one (T_ok t G tk _ h)
    · cases h
  | .cons t ts, an, X, c, Wx, G, tk, xs, pos, h => by
    simp only [chkTb] at h
    split at h
    · simp only [Bool.and_eq_true] at h
      exact tb_cons (T_ok t G tk _ h.1) (Tb_ok ts an G tk _ _ h.2)
    · cases h
theorem C_ok : ∀ (o : Ot) {X : Cx} {c : Ct} {Wx : WX} (G : Gd X c Z P n) (tk : Takes X Wx) (xs : List Expr), chkC c o xs = true → PTs X xs (lC Z (cn P n) Wx o)
  | .no, X, c, Wx, G, tk, xs, h => by
    simp only [chkC] at h
    split at h
    · exact pts_imp pts_nil fun σ H Q ⟨L, S, env, hR, hE, q⟩ => q L H true .refl hR rfl
    · cases h
  | .so t, X, c, Wx, G, tk, xs, h => by
    simp only [chkC] at h
    split at h
    · exact pts_imp (pts_one (T_ok t G tk _ h)) fun σ H Q q => q
    · cases h
theorem O_ok : ∀ (o : Oe) {X : Cx} {c : Ct} {Wx : WX} (G : Gd X c Z P n) (tk : Takes X Wx) (x : Option Expr), chkO c o x = true → PO X x (lO Z (cn P n) Wx o)
  | .no, X, c, Wx, G, tk, x, h => by
    simp only [chkO] at h
    split at h
    · exact o_no
    · cases h
  | .so e, X, c, Wx, G, tk, x, h => by
    simp only [chkO] at h
    split at h
    · exact o_so (E_ok e G tk _ h)
    · cases h
theorem I_ok : ∀ (it : It) {X : Cx} {c : Ct} {Wx : WX} (G : Gd X c Z P n) (tk : Takes X Wx) (tx x : Expr), chkI c it x = true → (!itPair it || isTup tx) = true → PI X tx x (lI Z (cn P n) Wx it) ∧ noSet x = true
  | .seq e, X, c, Wx, G, tk, tx, x, h, _ => by
    simp only [chkI, Bool.and_eq_true] at h
    exact ⟨i_seq G.K (E_ok e G tk _ h.2), h.1⟩
  | .rng e, X, c, Wx, G, tk, tx, x, h, _ => by
    simp only [chkI] at h
    split at h
    · simp only [Bool.and_eq_true, Bool.not_eq_true'] at h
      obtain ⟨p, rfl, g⟩ := chkG_of h.1.1
      exact ⟨i_rng G g h.1.2 (E_ok e G tk _ h.2), rfl⟩
    · cases h
  | .rng2 a b, X, c, Wx, G, tk, tx, x, h, _ => by
    simp only [chkI] at h
    split at h
    · simp only [Bool.and_eq_true, Bool.not_eq_true'] at h
      obtain ⟨p, rfl, g⟩ := chkG_of h.1.1.1.1
      exact ⟨i_rng2 G g h.1.1.1.2 h.1.1.2 (E_ok a G tk _ h.1.2) (E_ok b G tk _ h.2), rfl⟩
    · cases h
  | .enm e, X, c, Wx, G, tk, tx, x, h, ht => by
    simp only [chkI] at h
    split at h
    · simp only [Bool.and_eq_true, Bool.not_eq_true'] at h
      obtain ⟨p, rfl, g⟩ := chkG_of h.1.1
      obtain ⟨es, j, tp, rfl⟩ := isTup_of (e := tx) (by simpa [itPair] using ht)
      exact ⟨i_enm G g h.1.2 (E_ok e G tk _ h.2), rfl⟩
    · cases h
  | .zip a b, X, c, Wx, G, tk, tx, x, h, ht => by simp [chkI] at h
end
end
end SF
set_option Elab.async false
set_option linter.all false
set_option maxRecDepth 100000
set_option maxHeartbeats 4000000
namespace SF
open PySem L2
/-! # 10. Statements -/
def isLoc (sc : Scope) : Expr → Bool
  | .Name x _ => match sc.names.lookup x with
    | some .local => true
    | _ => false
  | _ => false
/-- the stores are not made by a swap -/
def noSwap (c : Ct) (t v : Expr) : Bool := match t, v with
  | .Tuple ts _ _, .Tuple vs _ _ => !(ts.length == 2 || ts.length == 3) || !(ts.all (isLoc c.sc)) || vs.all (foldedForSure 8)
  | .List _ _, _ => false
  | _, _ => true
mutual
def chkXE (c : Ct) (sl : Option Nat) (e : XE) (x : Expr) : Bool := match e with
  | .con w => match x with
    | .Constant k _ _ => chkW w k
    | _ => false
  | .fld m k => match x with
    | .Attribute (.Name n _) f _ => (match sl with
      | some i => decide (c.N[i]? = some n) && visB c.sc n && okName n
      | none => false) && decide ((c.cls[m]?.bind fun cl => cl.fs[k]?) = some f)
    | _ => false
  | .tup xs => match x with
    | .Tuple es _ _ => chkXEs c sl xs es
    | _ => false
  | .lst xs => match x with
    | .List es _ => chkXEs c sl xs es
    | _ => false
def chkXEs (c : Ct) (sl : Option Nat) (es : XEs) (xs : List Expr) : Bool := match es with
  | .nil => match xs with
    | [] => true
    | _ => false
  | .cons e es => match xs with
    | x :: xs => !isStar x && chkXE c sl e x && chkXEs c sl es xs
    | _ => false
end
def chkHb (c : Ct) (sl : Option Nat) (fin : Option XE) : List (Nat × XE) → List Stmt → Bool
  | [], xs => match fin with
    | none => match xs with
      | [] => true
      | _ => false
    | some e => match xs with
      | [.Return (some v) _] => chkXE c sl e v
      | _ => false
  | (j, e) :: r, xs => match xs with
    | .Assign [.Name y _] v _ :: xs => decide (c.N[j]? = some y) && locB c.sc y && okName y && decide (sl ≠ some j) && !isComp v && chkXE c sl e v && chkHb c sl fin r xs
    | _ => false
def chkHd (c : Ct) (h : Hd) (x : ExceptHandler) : Bool := match x with
  | .ExceptHandler (some (.Name y _)) nm suite _ => decide ((c.cls[h.cls]?.map (·.nm)) = some y) && glbB c.sc y && okName y && (match h.sl, nm with
      | some i, some n => decide (c.N[i]? = some n) && (match c.sc.names.lookup n with
        | some .local => true
        | _ => false)
      | none, none => true
      | _, _ => false) && !suite.isEmpty && chkHb c h.sl h.fin h.as suite
  | _ => false
def chkHds (c : Ct) (hs : List Hd) (ds : List ExceptHandler) : Bool := match hs with
  | [] => match ds with
    | [] => true
    | _ => false
  | h :: hs => match ds with
    | d :: ds => chkHd c h d && chkHds c hs ds
    | _ => false
mutual
def chkSt (c : Ct) (s : St) (x : Stmt) : Bool := match s with
  | .asg tg e => match x with
    | .Assign [t] v _ => !isStar t && noSwap c t v && chkT c tg t && chk c e v
    | _ => false
  | .seti o i e => match x with
    | .Assign [.Subscript a b _] v _ => !isSlice b && chk c o a && chk c i b && chk c e v
    | _ => false
  | .aug i sub e => match x with
    | .AugAssign (.Name y _) op v _ => decide (c.N[i]? = some y) && locB c.sc y && okName y && (match op with
      | .Add => !sub
      | .Sub => sub
      | _ => false) && chk c e v
    | _ => false
  | .par i j e1 e2 => match x with
    | .Assign [.Tuple [.Name y p1, .Name z p2] _ _] (.Tuple [v, w] _ _) _ => decide (c.N[i]? = some y) && decide (c.N[j]? = some z) && decide (i ≠ j) && isLoc c.sc (.Name y p1) && isLoc c.sc (.Name z p2) && okName y && okName z && (p1.line == p2.line) &&
        !([v, w].all (foldedForSure 8)) && !([v, w].all (constantsAlone 8)) && !isStar v && !isStar w && chk c e1 v && chk c e2 w
    | _ => false
  | .par3 i j l e1 e2 e3 => match x with
    | .Assign [.Tuple [.Name x p1, .Name y p2, .Name z p3] _ _] (.Tuple [u, v, w] _ _) _ => decide (c.N[i]? = some x) && decide (c.N[j]? = some y) && decide (c.N[l]? = some z) && decide (i ≠ j) && decide (i ≠ l) && decide (j ≠ l) &&
        isLoc c.sc (.Name x p1) && isLoc c.sc (.Name y p2) && isLoc c.sc (.Name z p3) && okName x && okName y && okName z && (p1.line == p2.line) && (p1.line == p3.line) &&
        !([u, v, w].all (foldedForSure 8)) && !([u, v, w].all (constantsAlone 8)) && !isStar u && !isStar v && !isStar w && chk c e1 u && chk c e2 v && chk c e3 w
    | _ => false
  | .ifs t a b => match x with
    | .If y u v _ => chkTt c t y && chkSs c a u && chkSs c b v
    | _ => false
  | .fr tg it b => match x with
    | .For t y u [] _ => chkI c it y && (!itPair it || isTup t) && chkT c tg t && chkSs c b u
    | _ => false
  | .wh t b => match x with
    | .While y u [] _ => chkTt c t y && chkSs c b u
    | _ => false
  | .rt e => match x with
    | .Return (some y) _ => chk c e y
    | _ => false
  | .rtN => match x with
    | .Return none _ => true
    | _ => false
  | .ex e => match x with
    | .Expr y _ => !isComp y && chk c e y
    | _ => false
  | .brk => match x with
    | .Break _ => true
    | _ => false
  | .cnt => match x with
    | .Continue _ => true
    | _ => false
  | .pas => match x with
    | .Pass _ => true
    | _ => false
  | .bad => true
  | .rs m es => match x with
    | .Raise (some (.Call (.Name y _) (a :: xs) [] _)) none _ => decide ((c.cls[m]?.map (·.nm)) = some y) && glbB c.sc y && okName y && !isStar a && xs.all (fun b => !isStar b) && decide ((c.cls[m]?.map (·.fs.isEmpty)) = some false) && chkN c es (a :: xs)
    | _ => false
  | .ty b hs => match x with
    | .Try body (d :: ds) [] [] _ => chkSs c b body && chkHds c hs (d :: ds)
    | _ => false
  | .gb i h es ks => match x with
    | .For (.Name y _) (.Call (.Name f _) xs kws _) [.Break _] [] _ => (match c.shs[h]? with
      | some sh => decide (c.gfs[sh.fn]? = some f) && glbB c.sc f && okName f && decide (kwNms kws = sh.ks.map some) && decide (xs.length = sh.np)
      | none => false) && chkN c es xs && chkN c ks (kwVals kws) && decide (c.N[i]? = some y) && locB c.sc y && okName y
    | _ => false
def chkSs (c : Ct) (ss : Ss) (xs : List Stmt) : Bool := match ss with
  | .nil => match xs with
    | [] => true
    | _ => false
  | .cons s ss => match xs with
    | x :: xs => chkSt c s x && chkSs c ss xs
    | _ => false
end
def ResS (Z : Zx) (L : List Addr) (H : Hp) (r : RS) (D : Ends) (Wx : WX) : Prop := match r with
  | .ok (.nx env) S => ∀ L' H' σ, Ex Z.K L H L' H' → Rl Z.K L' H' S → REn Z.K L' H' env σ → D.nx σ H'
  | .ok (.rt w) S => ∀ L' H' v, Ex Z.K L H L' H' → Rl Z.K L' H' S → RW Z.K L' H' w v → D.rt v H'
  | .ok (.bk env) S => ∀ L' H' σ, Ex Z.K L H L' H' → Rl Z.K L' H' S → REn Z.K L' H' env σ → D.bk σ H'
  | .ok (.ct env) S => ∀ L' H' σ, Ex Z.K L H L' H' → Rl Z.K L' H' S → REn Z.K L' H' env σ → D.ct σ H'
  | .ex x env S => ∀ L' H' σ c d, Ex Z.K L H L' H' → Rl Z.K L' H' S → REn Z.K L' H' env σ → RX Z L' H' x c d → Wx c d σ H'
  | .st => False
def lS (Z : Zx) (c : Cn) (Wx : WX) (s : St) : TS := fun D σ H => ∃ L S env, Rl Z.K L H S ∧ REn Z.K L H env σ ∧ ResS Z L H (exS c s env S) D Wx
def lSs (Z : Zx) (c : Cn) (Wx : WX) (s : Ss) : TS := fun D σ H => ∃ L S env, Rl Z.K L H S ∧ REn Z.K L H env σ ∧ ResS Z L H (exs c s env S) D Wx
section
variable {Z : Zx} {P : Pg} {n : Nat}
theorem ps_imp {X : Cx} {e : Stmt} {t t' : TS} (h : PS X e t) (i : ∀ D σ H, t' D σ H → t D σ H) : PS X e t' := ⟨fun pins s σ H D I q => h.run pins s σ H D I (i D σ H q)⟩
theorem pss_imp {X : Cx} {e : List Stmt} {t t' : TS} (h : PSs X e t) (i : ∀ D σ H, t' D σ H → t D σ H) : PSs X e t' := ⟨fun pins s σ H D I q => h.run pins s σ H D I (i D σ H q)⟩
theorem ResS.ext {L L' : List Addr} {H H' : Hp} {r : RS} {D : Ends} {Wx : WX} (h : ResS Z L H r D Wx) (e : Ex Z.K L H L' H') : ResS Z L' H' r D Wx := by
  match r, h with
  | .ok (.nx env) S, h => exact fun L2 H2 σ e2 => h L2 H2 σ (e.trans e2)
  | .ok (.rt w) S, h => exact fun L2 H2 σ e2 => h L2 H2 σ (e.trans e2)
  | .ok (.bk env) S, h => exact fun L2 H2 σ e2 => h L2 H2 σ (e.trans e2)
  | .ok (.ct env) S, h => exact fun L2 H2 σ e2 => h L2 H2 σ (e.trans e2)
  | .ex x env S, h => exact fun L2 H2 σ c d e2 => h L2 H2 σ c d (e.trans e2)
  | .st, h => exact h.elim
/-- an expression ahead of the rest -/
theorem ResS.go {α β : Type} {T : PySem.W.Frag → List Addr → Hp → α → β → Prop} {L : List Addr} {H : Hp} {r : R α} {env : En} {σ : L2.St} {f : α → Sg → RS} {D : Ends} {Wx : WX} (hE : REn Z.K L H env σ) (h : ResS Z L H (r.go env f) D Wx) :
    ResG Z T L H r (fun b H' => ∃ L' a S', Ex Z.K L H L' H' ∧ Rl Z.K L' H' S' ∧ T Z.K L' H' a b ∧ r = .ok a S' ∧ ResS Z L' H' (f a S') D Wx) (ex Wx σ) := by
  cases r with
  | ok a S' =>
    intro L' H' b e rl t
    have h' : ResS Z L H (f a S') D Wx := h
    exact ⟨L', a, S', e, rl, t, rfl, h'.ext e⟩
  | ex x S' => exact fun L' H' c d e rl q => h L' H' σ c d e rl (hE.mono e) q
  | st => exact h.elim
theorem goNp {α : Type} {L : List Addr} {H : Hp} {r : R α} {env : En} {f : α → Sg → RS} {D : Ends} {Wx : WX} (h : ResS Z L H (r.np.go env f) D Wx) : ∃ a S', r = .ok a S' ∧ ResS Z L H (f a S') D Wx := by
  cases r with
  | ok a S' => exact ⟨a, S', rfl, h⟩
  | ex x S' => exact h.elim
  | st => exact h.elim
/-- what statements ask besides -/
structure Gs (X : Cx) (c : Ct) (Z : Zx) (P : Pg) (n : Nat) (Wx : WX) : Prop extends Gd X c Z P n where
  sc : X.env.scope = c.sc
  po : PassesOwn (model X.prog X.w) X.A X.env X.xe
  tk : Takes X Wx
  stk : X.stack = X.env :: X.outer
  frm : X.env.frame = some X.env.locals
theorem swaps_other {v t : Expr} {l : Nat} {env : Env} (h : ∀ x p, t ≠ .Name x p) : swapsWith v (some t) l env = pure false := by
  cases v <;> first | rfl | (cases t <;> first | rfl | exact absurd rfl (h _ _))
theorem swaps_plain {v : Expr} {t : Option Expr} {l : Nat} {env : Env} (h : isComp v = false) : swapsWith v t l env = pure false := by
  cases v <;> first | rfl | (simp [isComp] at h)
/-- target = value -/
theorem s_asg {X : Cx} {c : Ct} {Wx : WX} {cc : Cn} (G : Gs X c Z P n Wx) {tg : Tg} {e : E} {t v : Expr} {pos : Pos} (hst : isStar t = false) (hn : swappedStores [t] v X.env = pure none) (hs : swapsWith v (some t) pos.line X.env = pure false) (ht : PG X t (lG Z tg)) (he : PE X v (lE Z cc Wx e)) :
    PS X (.Assign [t] v pos) (lS Z cc Wx (.asg tg e)) := by
  refine ps_imp (ps_asg he ht hs hn (by rw [each_plain hst]; rfl)) fun D σ H ⟨L, S, env, hR, hE, h⟩ => ?_
  refine ⟨L, S, env, hR, hE, (ResS.go (T := TW) hE h).imp fun b H1 ⟨L1, w, S1, e1, r1, t1, q1, h1⟩ => ?_⟩
  obtain ⟨env', S', ea, h2⟩ := goNp h1
  exact ⟨L1, S1, env, w, r1, hE.mono e1, t1, env', S', ea, fun L' H' σ' x' rl' hE' _ => h2 L' H' σ' x' rl' hE'⟩
end
end SF
set_option Elab.async false
set_option linter.all false
set_option maxRecDepth 100000
set_option maxHeartbeats 4000000
namespace SF
open PySem L2
section
variable {Z : Zx} {P : Pg} {n : Nat}
theorem s_lc {X : Cx} {c : Ct} {Wx : WX} {cc : Cn} (G : Gs X c Z P n Wx) {i : Nat} {y : Str} {py : Pos} {elt : E} {tg : Tg} {it : It} {cond : Ot} {own : List Nat} {x tx ix : Expr} {ifs : List Expr} {sc : Scope} {pos spos : Pos}
    (hi0 : c.N[i]? = some y) (hl : locB c.sc y = true) (hb : blkC c.N c.sc sc (mkOwn c.N own) = true) (ho : ∀ i ∈ tgSl tg, i ∈ own) (hi : PI X tx ix (lI Z cc Wx it))
    (ht : ∀ (s : Shared) (H : Hp) (C : Addr) (cl : List (Str × Addr)) (fp : List Addr), PG (X.blk s H sc (compEnvC sc cl C X.env) fp) tx (lG Z tg))
    (hc : ∀ (s : Shared) (H : Hp) (C : Addr) (cl : List (Str × Addr)) (fp : List Addr), PTs (X.blk s H sc (compEnvC sc cl C X.env) fp) ifs (lC Z cc (fun _ _ _ _ => False) cond))
    (he : ∀ (s : Shared) (H : Hp) (C : Addr) (cl : List (Str × Addr)) (fp : List Addr), PE (X.blk s H sc (compEnvC sc cl C X.env) fp) x (lE Z cc (fun _ _ _ _ => False) elt))
    (hn : noSet ix = true) (hsw : swapsWith (.ListComp x [⟨tx, ix, ifs, 0⟩] sc pos) (some (.Name y py)) spos.line X.env = pure true) (hloc : X.env.scope.names.lookup y = some .local) :
    PS X (.Assign [.Name y py] (.ListComp x [⟨tx, ix, ifs, 0⟩] sc pos) spos) (lS Z cc Wx (.asg (.na i) (.comp elt tg it cond own))) := by
  have hset : ∀ y, foldedSetIterable ix X.env y = pure y := by
    intro y
    cases ix <;> first | rfl | (simp [noSet] at hn)
  refine ps_imp (ps_setLc (i := i) G.calm (by rw [G.N]; exact G.nd) (by rw [G.N]; exact hi0) hloc hsw hi (blk_ok G.toGd hb) ht hc he hset) fun D σ H ⟨L, S, env, hR, hE, h⟩ => ?_
  refine comp_red ho ⟨L, S, env, hR, hE, (ResS.go (T := TW) hE h).imp fun b H1 ⟨L1, w, S1, e1, r1, t1, q1, h1⟩ => ?_⟩
  obtain ⟨env', S', ea, h2⟩ := goNp h1
  simp only [asgT] at ea
  cases ea
  exact h2 L1 H1 _ .refl r1 ((hE.mono e1).set t1 i)
theorem swaps_lc {x : Expr} {gs : List Comprehension} {sc : Scope} {pos : Pos} {y : Str} {py : Pos} {l : Nat} {env : Env} : ∃ b, swapsWith (.ListComp x gs sc pos) (some (.Name y py)) l env = pure b ∧ (b = true → env.kindOf y = some .local) := by
  refine ⟨env.blockKind == .function && env.kindOf y == some .local && py.line == (Expr.ListComp x gs sc pos).pos.line && !(sc.names.any fun (n, k) => n == y && (k == .local || k == .cell)), rfl, fun h => ?_⟩
  simp only [Bool.and_eq_true, beq_iff_eq] at h
  exact h.1.1.2
theorem s_seti {X : Cx} {c : Ct} {Wx : WX} {cc : Cn} (G : Gs X c Z P n Wx) {o i e : E} {a b v : Expr} {p pos : Pos} (hn : isSlice b = false) (ho : PE X a (lE Z cc Wx o)) (hi : PE X b (lE Z cc Wx i)) (he : PE X v (lE Z cc Wx e)) :
    PS X (.Assign [.Subscript a b p] v pos) (lS Z cc Wx (.seti o i e)) := by
  have hsub : PG X (.Subscript a b p) (gSub (lE Z cc Wx o) (lE Z cc Wx i) (fun o i v H Q => ∃ L S wo wi wv, Rl X.K L H S ∧ RW X.K L H wo o ∧ RW X.K L H wi i ∧ RW X.K L H wv v ∧ ResU X.K L H (setW wo wi wv S) Q)) :=
    pg_sub ho hi (psr (gd_units G.toGd)) (by intro v; cases b <;> first | rfl | (simp [isSlice] at hn))
  refine ps_imp (ps_asg he hsub (show swapsWith v (some (.Subscript a b p)) pos.line X.env = pure false from swaps_other fun _ _ z => nomatch z) rfl rfl) fun D σ H ⟨L, S, env, hR, hE, h⟩ => ?_
  refine ⟨L, S, env, hR, hE, (ResS.go (T := TW) hE h).imp fun b H1 ⟨L1, w, S1, e1, r1, t1, q1, h1⟩ => ?_⟩
  refine ⟨L1, S1, env, r1, hE.mono e1, (ResS.go (T := TW) (hE.mono e1) h1).imp fun b2 H2 ⟨L2', w2, S2, e2, r2, t2, q2, h2⟩ => ?_⟩
  refine ⟨L2', S2, env, r2, (hE.mono e1).mono e2, (ResS.go (T := TW) ((hE.mono e1).mono e2) h2).imp fun b3 H3 ⟨L3, w3, S3, e3, r3, t3, q3, h3⟩ => ?_⟩
  obtain ⟨u, S', ea, h4⟩ := goNp h3
  rw [G.K]
  refine ⟨L3, S3, w2, w3, w, r3, t2.mono e3, t3, (t1.mono e2).mono e3, ?_⟩
  rw [ea]
  exact fun L' H' x' rl' => h4 L' H' σ x' rl' ((((hE.mono e1).mono e2).mono e3).mono x')
theorem s_aug {X : Cx} {c : Ct} {Wx : WX} {cc : Cn} (G : Gs X c Z P n Wx) {i : Nat} {sub : Bool} {e : E} {y : Str} {p pos : Pos} {v : Expr} (hi : c.N[i]? = some y) (hl : locB c.sc y = true) (he : PE X v (lE Z cc Wx e)) :
    PS X (.AugAssign (.Name y p) (if sub then .Sub else .Add) v pos) (lS Z cc Wx (.aug i sub e)) := by
  have l := G.loc _ hl
  have key : ∀ (f : Int → Int → Int) (op : Operator), PIp X op (fun x y H Q => ∃ i j, x = .int i ∧ y = .int j ∧ Q (.int (f i j)) H) → (∀ a b, f a b = if sub then a - b else a + b) →
      PS X (.AugAssign (.Name y p) op v pos) (lS Z cc Wx (.aug i sub e)) := fun f op hp hf => by
    refine ps_imp (ps_aug (i := i) (by rw [G.N]; exact G.nd) (by rw [G.N]; exact hi) l.1 he hp l.2) fun D σ H ⟨L, S, env, hR, hE, h⟩ => ?_
    simp only [exS] at h
    split at h
    · rename_i a ea
      obtain ⟨u, eu, ru⟩ := hE.get ea
      refine ⟨u, eu, L, S, env, hR, hE, (ResS.go (T := TW) hE h).imp fun b H1 ⟨L1, w, S1, e1, r1, t1, q1, h1⟩ => ?_⟩
      cases ru
      cases t1 <;> first | exact h1.elim | skip
      rename_i j _
      refine ⟨a, j, rfl, rfl, ?_⟩
      rw [hf]
      exact h1 L1 H1 _ .refl r1 ((hE.mono e1).set (.int _) i)
    · exact h.elim
  cases sub with
  | true => exact key (fun a b => a - b) .Sub (fun pins s σ H x y v u Q I rx ry q => iop_sub pins s σ H x y v u Q I rx ry q) fun _ _ => rfl
  | false => exact key (fun a b => a + b) .Add (fun pins s σ H x y v u Q I rx ry q => iop_add pins s σ H x y v u Q I rx ry q) fun _ _ => rfl
theorem s_if {X : Cx} {Wx : WX} {cc : Cn} {t : Tt} {a b : Ss} {z : Expr} {u v : List Stmt} {pos : Pos} (ht : PT X z (lT Z cc Wx t)) (ha : PSs X u (lSs Z cc Wx a)) (hb : PSs X v (lSs Z cc Wx b)) : PS X (.If z u v pos) (lS Z cc Wx (.ifs t a b)) := by
  refine ps_imp (ps_if ht ha hb) fun D σ H ⟨L, S, env, hR, hE, h⟩ => ?_
  refine ⟨L, S, env, hR, hE, (ResS.go (T := TEq) hE h).imp fun k H1 ⟨L1, w, S1, e1, r1, t1, q1, h1⟩ => ?_⟩
  cases t1
  cases k with
  | true => rw [if_pos rfl]; exact ⟨L1, S1, env, r1, hE.mono e1, h1⟩
  | false => rw [if_neg Bool.false_ne_true]; exact ⟨L1, S1, env, r1, hE.mono e1, h1⟩
theorem s_rt {X : Cx} {Wx : WX} {cc : Cn} {e : E} {v : Expr} {pos : Pos} (he : PE X v (lE Z cc Wx e)) : PS X (.Return (some v) pos) (lS Z cc Wx (.rt e)) := by
  refine ps_imp (ps_ret he) fun D σ H ⟨L, S, env, hR, hE, h⟩ => ?_
  exact ⟨L, S, env, hR, hE, (ResS.go (T := TW) hE h).imp fun b H1 ⟨L1, w, S1, e1, r1, t1, q1, h1⟩ => h1 L1 H1 b .refl r1 t1⟩
theorem s_ex {X : Cx} {Wx : WX} {cc : Cn} {e : E} {v : Expr} {pos : Pos} (hn : isComp v = false) (he : PE X v (lE Z cc Wx e)) : PS X (.Expr v pos) (lS Z cc Wx (.ex e)) := by
  refine ps_imp (ps_expr he (swaps_plain hn)) fun D σ H ⟨L, S, env, hR, hE, h⟩ => ?_
  exact ⟨L, S, env, hR, hE, (ResS.go (T := TW) hE h).imp fun b H1 ⟨L1, w, S1, e1, r1, t1, q1, h1⟩ => h1 L1 H1 σ .refl r1 (hE.mono e1)⟩
/-- the ends of a loop's body -/
theorem turn_end {L : List Addr} {H : Hp} {r : RS} {D : Ends} {Wx : WX} {N : L2.St → Hp → Prop} {again : En → Sg → RS}
    (h : ResS Z L H (match r with | .ok (.nx σ1) S1 => again σ1 S1 | .ok (.ct σ1) S1 => again σ1 S1 | .ok (.bk σ1) S1 => .ok (.nx σ1) S1 | r => r) D Wx)
    (hN : ∀ env S, ResS Z L H (again env S) D Wx → ∀ L' H' σ, Ex Z.K L H L' H' → Rl Z.K L' H' S → REn Z.K L' H' env σ → N σ H') : ResS Z L H r { D with nx := N, ct := N, bk := D.nx } Wx := by
  match r, h with
  | .ok (.nx env) S, h => exact hN env S h
  | .ok (.rt w) S, h => exact h
  | .ok (.bk env) S, h => exact h
  | .ok (.ct env) S, h => exact hN env S h
  | .ex x env S, h => exact h
  | .st, h => exact h.elim
theorem s_wh {X : Cx} {c : Ct} {Wx : WX} {cc : Cn} (G : Gs X c Z P n Wx) {t : Tt} {b : Ss} {z : Expr} {u : List Stmt} {pos : Pos} (ht : PT X z (lT Z cc Wx t)) (hb : PSs X u (lSs Z cc Wx b)) : PS X (.While z u [] pos) (lS Z cc Wx (.wh t b)) := by
  refine ps_imp (ps_while G.po ht hb) fun D σ H ⟨L, S, env, hR, hE, h⟩ => ?_
  refine ⟨fun m σ H => ∃ L S env, Rl Z.K L H S ∧ REn Z.K L H env σ ∧ ResS Z L H (whGo (evT cc t) (exs cc b) m env S) D Wx, ⟨cc.fuel, L, S, env, hR, hE, h⟩, ?_⟩
  rintro m σ H ⟨L, S, env, hR, hE, h⟩
  cases m with
  | zero => exact h.elim
  | succ m =>
    refine ⟨L, S, env, hR, hE, (ResS.go (T := TEq) hE h).imp fun k H1 ⟨L1, w, S1, e1, r1, t1, q1, h1⟩ => ?_⟩
    cases t1
    cases k with
    | false => rw [if_neg Bool.false_ne_true] at h1 ⊢; exact h1 L1 H1 σ .refl r1 (hE.mono e1)
    | true =>
      rw [if_pos rfl] at h1 ⊢
      refine ⟨fun σ H => ∃ L S env, Rl Z.K L H S ∧ REn Z.K L H env σ ∧ ResS Z L H (whGo (evT cc t) (exs cc b) m env S) D Wx, fun σ' H' q => ⟨m, Nat.lt_succ_self _, q⟩, L1, S1, env, r1, hE.mono e1, ?_⟩
      exact turn_end h1 fun env' S' q L' H' σ' x' rl' hE' => ⟨L', S', env', rl', hE', q.ext x'⟩
theorem s_fr {X : Cx} {c : Ct} {Wx : WX} {cc : Cn} (G : Gs X c Z P n Wx) {tg : Tg} {it : It} {b : Ss} {t y : Expr} {u : List Stmt} {pos : Pos} (hn : noSet y = true) (hi : PI X t y (lI Z cc Wx it)) (ht : PG X t (lG Z tg)) (hb : PSs X u (lSs Z cc Wx b)) : PS X (.For t y u [] pos) (lS Z cc Wx (.fr tg it b)) := by
  have hset : ∀ v, foldedSetIterable y X.env v = pure v := by
    intro v
    cases y <;> first | rfl | (simp [noSet] at hn)
  refine ps_imp (ps_for G.po G.calm hi ht hb hset) fun D σ H ⟨L, S, env, hR, hE, h⟩ => ?_
  refine ⟨L, S, env, hR, hE, (ResS.go (T := SR) hE h).imp fun J H1 ⟨L1, src, S1, e1, r1, sr, q1, h1⟩ => ?_⟩
  generalize htn : (fun w σ S => (asgT tg w σ S).np.go σ fun σ' S => exs cc b σ' S : W → En → Sg → RS) = turn at h1
  refine ⟨fun i m σ H' => ∃ L' S' env, Ex Z.K L1 H1 L' H' ∧ Rl Z.K L' H' S' ∧ REn Z.K L' H' env σ ∧ ResS Z L' H' (forGo src turn m i env S') D Wx, ⟨src.len S1, L1, S1, env, .refl, r1, hE.mono e1, h1⟩, ?_⟩
  rintro i m σ2 H2 ⟨L2', S2, env2, x2, rl2, hE2, g⟩
  have s2 := sr L2' H2 S2 i x2 rl2
  cases m with
  | zero =>
    simp only [forGo] at g
    split at g
    · rename_i e
      rw [e] at s2
      exact .inl ⟨s2, g L2' H2 σ2 .refl rl2 hE2⟩
    · exact g.elim
  | succ m =>
    simp only [forGo] at g
    split at g
    · rename_i w e
      rw [e] at s2
      refine .inr ⟨s2.1, fun σ H' => ∃ L' S' env, Ex Z.K L1 H1 L' H' ∧ Rl Z.K L' H' S' ∧ REn Z.K L' H' env σ ∧ ResS Z L' H' (forGo src turn m (i + 1) env S') D Wx, fun σ' H' q => ⟨m, Nat.lt_succ_self _, q⟩, fun v H3 yl => ?_⟩
      obtain ⟨x3, rl3, rv⟩ := s2.2 v H3 yl
      have g3 := ResS.ext g x3
      have tn : turn w env2 S2 = (asgT tg w env2 S2).np.go env2 fun σ' S => exs cc b σ' S := by rw [← htn]
      rw [tn] at g3
      cases ha : asgT tg w env2 S2 with
      | st => rw [ha] at g3; exact g3.elim
      | ex x S3 => rw [ha] at g3; exact g3.elim
      | ok env' S3 =>
        rw [ha] at g3
        refine ⟨L2', S2, env2, w, rl3, hE2.mono x3, rv, env', S3, ha, fun L4 H4 σ4 x4 rl4 hE4 _ => ⟨L4, S3, env', rl4, hE4, ?_⟩⟩
        refine turn_end (again := fun env S => forGo src turn m (i + 1) env S) (ResS.ext g3 x4) fun env5 S5 q L5 H5 σ5 x5 rl5 hE5 => ?_
        exact ⟨L5, S5, env5, x2.trans (x3.trans (x4.trans x5)), rl5, hE5, q.ext x5⟩
    · exact g.elim
theorem par_swap {y z : Str} {p1 p2 t t2 : Pos} {k k2 : Nat} {v w : Expr} {env : Env} (hb : env.blockKind = .function) (hy : env.kindOf y = some .local) (hz : env.kindOf z = some .local) (hl : (p1.line == p2.line) = true) (hne : y ≠ z)
    (hf : [v, w].all (foldedForSure 8) = false) (hc : [v, w].all (constantsAlone 8) = false) (sv : isStar v = false) (sw : isStar w = false) :
    swappedStores [.Tuple [.Name y p1, .Name z p2] k t] (.Tuple [v, w] k2 t2) env = pure (some [y, z]) := by
  have e1 : (p2.line == p1.line) = true := by rw [beq_iff_eq] at hl ⊢; exact hl.symm
  have e2 : (p1.line == p1.line) = true := beq_self_eq_true _
  have e3 : ([v, w].any fun | .Starred .. => true | _ => false) = false := by
    have q : ∀ e : Expr, isStar e = false → (match e with | .Starred .. => true | _ => false) = false := fun e h => by cases e <;> first | rfl | (simp [isStar] at h)
    rw [List.any_cons, List.any_cons, q v sv, q w sw]; rfl
  unfold swappedStores
  simp only [hb, hf, hc, e3, hy, hz, List.length_cons, List.length_nil, List.filterMap_cons, List.filterMap_nil, List.head?_cons, Option.map_some, Option.getD_some, Expr.pos, e1, e2, hne, ne_eq, bne, beq_self_eq_true, Bool.and_self, if_true]
  have e4 : [y, z].eraseDups = [y, z] := by
    have q : (z == y) = false := by rw [beq_eq_false_iff_ne]; exact fun h => hne h.symm
    simp [List.eraseDups_cons, q]
  rw [e4]
  rw [if_neg (by simp)]
  refine (if_neg (fun h => ?_)).trans ?_
  · exact Bool.false_ne_true (e3.symm.trans h)
  · rfl
theorem s_par {X : Cx} {c : Ct} {Wx : WX} {cc : Cn} (G : Gs X c Z P n Wx) {i j : Nat} {y z : Str} {e1 e2 : E} {p1 p2 t t2 pos : Pos} {k k2 : Nat} {v w : Expr} (hb : X.env.blockKind = .function) (hi : c.N[i]? = some y) (hj : c.N[j]? = some z) (hij : i ≠ j) (hy : X.env.kindOf y = some .local) (hz : X.env.kindOf z = some .local)
    (hl : (p1.line == p2.line) = true) (hf : [v, w].all (foldedForSure 8) = false) (hc : [v, w].all (constantsAlone 8) = false) (sv : isStar v = false) (sw : isStar w = false) (ha : PE X v (lE Z cc Wx e1)) (hb' : PE X w (lE Z cc Wx e2)) :
    PS X (.Assign [.Tuple [.Name y p1, .Name z p2] k t] (.Tuple [v, w] k2 t2) pos) (lS Z cc Wx (.par i j e1 e2)) := by
  have hne : y ≠ z := by
    intro q
    subst q
    obtain ⟨h1, h2⟩ := List.getElem?_eq_some_iff.mp hi
    obtain ⟨h3, h4⟩ := List.getElem?_eq_some_iff.mp hj
    exact hij ((List.getElem_inj G.nd).mp (h2.trans h4.symm))
  refine ps_imp (ps_par G.calm (by rw [G.N]; exact G.nd) (by rw [G.N]; exact hi) (by rw [G.N]; exact hj) hij hy hz (pa_cons ha (pa_cons hb' pa_nil (star_plain sw)) (star_plain sv)) (par_swap hb hy hz hl hne hf hc sv sw)) fun D σ H ⟨L, S, env, hR, hE, h⟩ => ?_
  refine ⟨L, S, env, hR, hE, (ResS.go (T := TW) hE h).imp fun b H1 ⟨L1, w1, S1, x1, r1, t1, q1, h1⟩ => ?_⟩
  refine ⟨L1, S1, env, r1, hE.mono x1, (ResS.go (T := TW) (hE.mono x1) h1).imp fun b2 H2 ⟨L2', w2, S2, x2, r2, t2, q2, h2⟩ => ?_⟩
  exact ⟨_, _, rfl, h2 L2' H2 _ .refl r2 ((((hE.mono x1).mono x2).set (t1.mono x2) i).set t2 j)⟩
theorem par3_swap {x y z : Str} {p1 p2 p3 t t2 : Pos} {k k2 : Nat} {u v w : Expr} {env : Env} (hb : env.blockKind = .function) (hx : env.kindOf x = some .local) (hy : env.kindOf y = some .local) (hz : env.kindOf z = some .local) (hl : (p1.line == p2.line) = true) (hl3 : (p1.line == p3.line) = true) (n1 : x ≠ y) (n2 : x ≠ z) (n3 : y ≠ z)
    (hf : [u, v, w].all (foldedForSure 8) = false) (hc : [u, v, w].all (constantsAlone 8) = false) (su : isStar u = false) (sv : isStar v = false) (sw : isStar w = false) :
    swappedStores [.Tuple [.Name x p1, .Name y p2, .Name z p3] k t] (.Tuple [u, v, w] k2 t2) env = pure (some [x, y, z]) := by
  have e1 : (p2.line == p1.line) = true := by rw [beq_iff_eq] at hl ⊢; exact hl.symm
  have e12 : (p3.line == p1.line) = true := by rw [beq_iff_eq] at hl3 ⊢; exact hl3.symm
  have e2 : (p1.line == p1.line) = true := beq_self_eq_true _
  have e3 : ([u, v, w].any fun | .Starred .. => true | _ => false) = false := by
    have q : ∀ e : Expr, isStar e = false → (match e with | .Starred .. => true | _ => false) = false := fun e h => by cases e <;> first | rfl | (simp [isStar] at h)
    rw [List.any_cons, List.any_cons, List.any_cons, q u su, q v sv, q w sw]; rfl
  unfold swappedStores
  simp only [hb, hf, hc, e3, hx, hy, hz, List.length_cons, List.length_nil, List.filterMap_cons, List.filterMap_nil, List.head?_cons, Option.map_some, Option.getD_some, Expr.pos, e1, e2, e12, n1, n2, n3, ne_eq, bne, beq_self_eq_true, Bool.and_self, if_true]
  have e4 : [x, y, z].eraseDups = [x, y, z] := by
    have q1 : (y == x) = false := by rw [beq_eq_false_iff_ne]; exact fun h => n1 h.symm
    have q2 : (z == x) = false := by rw [beq_eq_false_iff_ne]; exact fun h => n2 h.symm
    have q3 : (z == y) = false := by rw [beq_eq_false_iff_ne]; exact fun h => n3 h.symm
    simp [List.eraseDups_cons, q1, q2, q3]
  rw [e4]
  rw [if_neg (by simp)]
  refine (if_neg (fun h => ?_)).trans ?_
  · exact Bool.false_ne_true (e3.symm.trans h)
  · rfl
theorem s_par3 {X : Cx} {c : Ct} {Wx : WX} {cc : Cn} (G : Gs X c Z P n Wx) {i j l : Nat} {x y z : Str} {e1 e2 e3 : E} {p1 p2 p3 t t2 pos : Pos} {k k2 : Nat} {u v w : Expr} (hb : X.env.blockKind = .function) (hi : c.N[i]? = some x) (hj : c.N[j]? = some y) (hm : c.N[l]? = some z) (hij : i ≠ j) (hil : i ≠ l) (hjl : j ≠ l)
    (hx : X.env.kindOf x = some .local) (hy : X.env.kindOf y = some .local) (hz : X.env.kindOf z = some .local)
    (hl : (p1.line == p2.line) = true) (hl3 : (p1.line == p3.line) = true) (hf : [u, v, w].all (foldedForSure 8) = false) (hc : [u, v, w].all (constantsAlone 8) = false) (su : isStar u = false) (sv : isStar v = false) (sw : isStar w = false) (ha : PE X u (lE Z cc Wx e1)) (hb' : PE X v (lE Z cc Wx e2)) (hc' : PE X w (lE Z cc Wx e3)) :
    PS X (.Assign [.Tuple [.Name x p1, .Name y p2, .Name z p3] k t] (.Tuple [u, v, w] k2 t2) pos) (lS Z cc Wx (.par3 i j l e1 e2 e3)) := by
  have hne : ∀ {i j : Nat} {y z : Str}, c.N[i]? = some y → c.N[j]? = some z → i ≠ j → y ≠ z := fun {i j y z} hi hj hij q => by
    subst q
    obtain ⟨h1, h2⟩ := List.getElem?_eq_some_iff.mp hi
    obtain ⟨h3, h4⟩ := List.getElem?_eq_some_iff.mp hj
    exact hij ((List.getElem_inj G.nd).mp (h2.trans h4.symm))
  refine ps_imp (ps_par3 G.calm (by rw [G.N]; exact G.nd) (by rw [G.N]; exact hi) (by rw [G.N]; exact hj) (by rw [G.N]; exact hm) hij hil hjl hx hy hz (pa_cons ha (pa_cons hb' (pa_cons hc' pa_nil (star_plain sw)) (star_plain sv)) (star_plain su)) (par3_swap hb hx hy hz hl hl3 (hne hi hj hij) (hne hi hm hil) (hne hj hm hjl) hf hc su sv sw)) fun D σ H ⟨L, S, env, hR, hE, h⟩ => ?_
  refine ⟨L, S, env, hR, hE, (ResS.go (T := TW) hE h).imp fun b H1 ⟨L1, w1, S1, x1, r1, t1, q1, h1⟩ => ?_⟩
  refine ⟨L1, S1, env, r1, hE.mono x1, (ResS.go (T := TW) (hE.mono x1) h1).imp fun b2 H2 ⟨L2', w2, S2, x2, r2, t2, q2, h2⟩ => ?_⟩
  refine ⟨L2', S2, env, r2, (hE.mono x1).mono x2, (ResS.go (T := TW) ((hE.mono x1).mono x2) h2).imp fun b3 H3 ⟨L3', w3, S3, x3, r3, t3, q3, h3⟩ => ?_⟩
  exact ⟨_, _, _, rfl, h3 L3' H3 _ .refl r3 ((((((hE.mono x1).mono x2).mono x3).set ((t1.mono x2).mono x3) i).set (t2.mono x3) j).set t3 l)⟩
end
end SF
set_option Elab.async false
set_option linter.all false
set_option maxRecDepth 100000
set_option maxHeartbeats 4000000
namespace SF
open PySem L2 PySem.Spec PyProof.Rows
/-! # try with several clauses, each with a name or without -/
/-- a clause: its class, the slot of its name, its suite's reading -/
structure Cs1 where
  c : Value
  sl : Option Nat
  ts : Addr → Value → Option Addr → TS
def endsOf (D : Ends) : Option Nat → Ends
  | none => D
  | some i => { nx := fun σ H => D.nx (σ.set i none) H, rt := D.rt, bk := fun σ H => D.bk (σ.set i none) H, ct := fun σ H => D.ct (σ.set i none) H }
def slotOf (σ : L2.St) (a : Addr) : Option Nat → L2.St
  | none => σ
  | some i => σ.set i (some (.ref a))
def wCs (K : PySem.W.Frag) (Wout : WX) (D : Ends) : List Cs1 → WX
  | [] => Wout
  | q :: r => fun cls d σ H => ∃ b, PySem.W.exmOne K cls q.c = some b ∧ (b = true → ∀ a, H a = none → q.ts a cls d (endsOf D q.sl) (slotOf σ a q.sl) H) ∧ (b = false → wCs K Wout D r cls d σ H)
inductive CsOk (X : Cx) : List ExceptHandler → List Cs1 → Prop
  | nil : CsOk X [] []
  | cons {x : Str} {nm : Option Str} {q : Cs1} {b₀ : Stmt} {suite : List Stmt} {np p : Pos} {hds : List ExceptHandler} {l : List Cs1} (hc : Names X x q.c)
      (hn : (nm = none ∧ q.sl = none) ∨ ∃ n i, nm = some n ∧ q.sl = some i ∧ X.N[i]? = some n ∧ X.env.kindOf n = some .local)
      (hsu : ∀ (a : Addr) (oe : Obj) (cls : Value) (d : Option Addr) (pn : List (Addr × Obj)), Zc cls d oe → (∃ vs, oe.data = .fields vs) → PSs (X.suite a ((a, oe) :: pn)) (b₀ :: suite) (q.ts a cls d)) (r : CsOk X hds l) :
      CsOk X (.ExceptHandler (some (.Name x np)) nm (b₀ :: suite) p :: hds) (q :: l)
section
variable {X : Cx} {pins : List (Addr × Obj)} {D : Ends}
/-- the suite's end is the statement's -/
theorem suite_end {a : Addr} {q : Addr × Obj} {f : Flow} {s : Shared} (ok : X.Ok) (h : SP (X.suite a (q :: (X.pn ++ pins))) [] D f s) : SP X pins D f s := by
  cases f with
  | next => obtain ⟨σ, H, I, z⟩ := h; exact ⟨_, _, I.unsuite ok, z⟩
  | brk => obtain ⟨σ, H, I, z⟩ := h; exact ⟨_, _, I.unsuite ok, z⟩
  | cont => obtain ⟨σ, H, I, z⟩ := h; exact ⟨_, _, I.unsuite ok, z⟩
  | ret u => obtain ⟨v, σ, H, I, r, z⟩ := h; exact ⟨_, _, _, I.unsuite ok, r, z⟩
/-- the body's end, where nothing is raised -/
theorem body_end {xe : Value → Shared → Prop} {f : Flow} {s : Shared} (ok : X.Ok) (h : SP (X.tr (X.pn ++ pins) xe) [] D f s) : SP X pins D f s := by
  cases f with
  | next => obtain ⟨σ, H, I, z⟩ := h; exact ⟨_, _, I.ofTry ok, z⟩
  | brk => obtain ⟨σ, H, I, z⟩ := h; exact ⟨_, _, I.ofTry ok, z⟩
  | cont => obtain ⟨σ, H, I, z⟩ := h; exact ⟨_, _, I.ofTry ok, z⟩
  | ret u => obtain ⟨v, σ, H, I, r, z⟩ := h; exact ⟨_, _, _, I.ofTry ok, r, z⟩
end
section
variable {X : Cx} {body : List Stmt} {h₀ : ExceptHandler} {hds : List ExceptHandler} {l : List Cs1} {pos : Pos} {tb : WX → TS} {Wout : WX}
theorem ps_try_cs (hs : X.stack = X.env :: X.outer) (hf : X.env.frame = some X.env.locals) (hN : X.N.Nodup) (tk : Takes X Wout)
    (hb : ∀ (W : WX) (pn : List (Addr × Obj)) (xe : Value → Shared → Prop), Takes (X.tr pn xe) W → PassesOwn (model X.prog X.w) X.A X.env xe → PSs (X.tr pn xe) body (tb W))
    (hh : CsOk X (h₀ :: hds) l) : PS X (.Try body (h₀ :: hds) [] [] pos) (fun D σ H => tb (wCs X.K Wout D l) D σ H) := by
  refine ⟨fun pins s σ H D I h => ?_⟩
  have ok := I.ok
  have hfr : X.A.frames = some (X.env :: X.outer) := by rw [ok.frames, hs]
  refine wpAny_Try_except (wpAny_mono ((hb (wCs X.K Wout D l) (X.pn ++ pins) (fun e s₁ => wpAny (model X.prog X.w) X.A (noteFrame e X.env) (fun _ s₂ => wpAny (model X.prog X.w) X.A (setFlight e none) (fun _ s₃ =>
    wpAny (model X.prog X.w) X.A (handleBy e X.env (h₀ :: hds)) (SP X pins D) X.xe s₃) X.xe s₂) X.xe s₁) (fun u s' xx => ?_) PassesOwn.looking).run [] s σ H D (I.toTry _) h) (fun f s1 hsp => ?_) fun e s1 he => he)
  case refine_2 =>
    have q := body_end ok hsp
    cases f with
    | next => exact wpAny_execs_nil q
    | brk => exact q
    | cont => exact q
    | ret u => exact q
  case refine_1 =>
    obtain ⟨a, B, sI, pins', σ', H', cls, d, rfl, J', nb, up, sky, na, os, ag, w⟩ := xx
    have J : Inv X pins σ' H' sI := J'.ofTry ok
    refine Sky.land Zc.steady hfr hf (by rw [← hs]; exact sky) fun h3 fl3 up3 => ?_
    have J3 : Inv X pins σ' H' { s' with heap := h3 } := J.landed nb fl3.1 (up.trans up3) os ag
    obtain ⟨oe3, vs3, he3, hz3, hd3⟩ := fl3.there
    have nfr : a ∉ frs (X.env :: X.outer) := fun hm => by
      obtain ⟨_, o', e', hnf⟩ := fl3.2.2.1.mem hm
      rw [he3] at e'; cases e'
      exact hnf _ hd3
    have nL : a ≠ X.env.locals := fun z => nfr (List.mem_filterMap.mpr ⟨X.env, List.mem_cons_self, by rw [hf, z]⟩)
    have nF : a ∉ X.fs := fun hm => by
      obtain ⟨e, he, q⟩ := List.mem_filterMap.mp hm
      exact nfr (List.mem_filterMap.mpr ⟨e, List.mem_cons_of_mem _ he, q⟩)
    have S3 := J3.suite he3 hd3 na nL nF
    have LT : PySem.W.Looks (model X.prog X.w) h3 (typeOf (.ref a)) cls := fun A Q E s k q => wpAny_typeOf_ref (k _ _ he3) (by rw [hz3.1]; exact q)
    have go : ∀ {hs1 : List ExceptHandler} {l1 : List Cs1}, CsOk X hs1 l1 → wCs X.K Wout D l1 cls d σ' H' → wpAny (model X.prog X.w) X.A (handleBy (.ref a) X.env hs1) (SP X pins D) X.xe { s' with heap := h3 } := by
      intro hs1 l1 hk
      induction hk with
      | nil =>
        intro w
        refine wpAny_handleBy_nil ?_
        obtain ⟨_, _, _, oe, vs, T, oT, ts', he, hz, hd, h1, hr⟩ := id fl3
        unfold PySem.passOn
        refine wpAny_bind (wpAny_field he hd h1 ?_)
        rw [if_neg (show ¬ ((Value.ref T == Value.none) = true) from by simp)]
        have fin : wpAny (model X.prog X.w) X.A (setFlight (.ref a) X.env.frame) (fun _ s4 => wpAny (model X.prog X.w) X.A (throw (.ref a) : Sem Flow) (SP X pins D) X.xe s4) X.xe { s' with heap := h3 } := by
          rw [hf]
          exact HandSPX.setFlight_upZ fl3 fun h4 hh4 up4 => wpAny_throw (tk _ _ ⟨a, B, sI, pins, σ', H', cls, d, rfl, J, nb, (up.trans up3).trans up4, .inr (.inr (by rw [hs]; exact hh4)), na, os, ag, w⟩)
        first
          | exact wpAny_bind (wpAny_pure (wpAny_bind fin))
          | exact wpAny_bind fin
      | @cons x nm q b₀ suite np p hds2 l2 hc hn hsu r ih =>
        rintro ⟨b, hb1, hyes, hno⟩
        refine wpAny_handleBy_cons (codeAny_handlers_test ?_) (by intro q; cases q)
        have LM := PySem.W.exm_one (M := model X.prog X.w) (J3.kIn) LT hb1
        have test : ∀ {Q : Value → Shared → Prop} {E : Value → Shared → Prop}, Q q.c { s' with heap := h3 } → wpAny (model X.prog X.w) (X.A.mark (some (.ref a))) (eval (.Name x np) X.env) Q E { s' with heap := h3 } := fun {Q E} z => by
          obtain ⟨hg, hdbg, hm | ⟨hm, hv, hnn⟩⟩ := hc
          · exact ld_glob (X := X.suite a ((a, oe3) :: (X.pn ++ pins))) S3 hg hm z hdbg
          · exact ld_blt (X := X.suite a ((a, oe3) :: (X.pn ++ pins))) S3 hg hm hv z hnn hdbg
        refine test (LM.here ?_)
        cases b with
        | false => exact ih (hno rfl)
        | true =>
          have hy := hyes rfl a na
          rcases hn with ⟨rfl, hsl⟩ | ⟨n, i, rfl, hsl, hi, hln⟩
          · rw [hsl] at hy
            refine codeAny_handlers_suite (HandSPX.lands_againZ fl3 fun h4 fl4 up4 => ?_)
            have J4 : Inv X pins σ' H' { s' with heap := h4 } := J.landed nb fl4.1 ((up.trans up3).trans up4) os ag
            obtain ⟨oe4, vs4, he4, hz4, hd4⟩ := fl4.there
            exact wpAny_mono ((hsu a oe4 cls d (X.pn ++ pins) hz4 ⟨_, hd4⟩).run [] _ _ H' _ (J4.suite he4 hd4 na nL nF) hy) (fun f s6 hsp => suite_end ok hsp) fun _ _ z => False.elim z
          · rw [hsl] at hy
            refine codeAny_handlers_suite_as (HandSPX.lands_againZ fl3 fun h4 fl4 up4 => ?_)
            have J4 : Inv X pins σ' H' { s' with heap := h4 } := J.landed nb fl4.1 ((up.trans up3).trans up4) os ag
            obtain ⟨oe4, vs4, he4, hz4, hd4⟩ := fl4.there
            refine store_ok (X := X.suite a ((a, oe4) :: (X.pn ++ pins))) (v := .ref a) (J4.suite he4 hd4 na nL nF) hN hi (.inl hln) rfl (fun s5 S5 => ?_) (.inr hln)
            refine wpAny_mono ((hsu a oe4 cls d (X.pn ++ pins) hz4 ⟨_, hd4⟩).run [] s5 _ H' _ S5 hy) (fun f s6 hsp => ?_) (fun _ _ z => False.elim z)
            have z := suite_end ok hsp
            cases f with
            | next => obtain ⟨σ6, H6, I6, q6⟩ := z; exact gone_ok I6 hN hi hln fun s7 J7 => ⟨_, _, J7, q6⟩
            | brk => obtain ⟨σ6, H6, I6, q6⟩ := z; exact gone_ok I6 hN hi hln fun s7 J7 => ⟨_, _, J7, q6⟩
            | cont => obtain ⟨σ6, H6, I6, q6⟩ := z; exact gone_ok I6 hN hi hln fun s7 J7 => ⟨_, _, J7, q6⟩
            | ret u => obtain ⟨v6, σ6, H6, I6, r6, q6⟩ := z; exact gone_ok I6 hN hi hln fun s7 J7 => ⟨_, _, _, J7, r6, q6⟩
    exact go hh w
end
end SF
set_option Elab.async false
set_option linter.all false
set_option maxRecDepth 100000
set_option maxHeartbeats 4000000
namespace SF
open PySem L2
/-! # Exceptions -/
section
variable {Z : Zx} {P : Pg} {n : Nat}
theorem passes0 {X : Cx} : Passes (L2.CX X.prog X.w) X (fun _ _ _ => False) := fun pins σ H s e s' I c => by
  obtain ⟨a, B, H', cls, d, _, _, _, _, _, _, _, hE⟩ := c
  exact hE.elim
theorem Gs.tr {X : Cx} {c : Ct} {Wx W : WX} (G : Gs X c Z P n Wx) (pn : List (Addr × Obj)) (xe : Value → Shared → Prop) (tk : Takes (X.tr pn xe) W) (po : PassesOwn (model X.prog X.w) X.A X.env xe) : Gs (X.tr pn xe) c Z P n W :=
  ⟨⟨G.N, G.nd, G.vis, G.loc, G.glb, G.fre, G.calm, G.room, G.K, G.mg, G.shs, G.calls, G.gens, G.news, G.mets, G.duns, G.gls, G.blt, G.exc⟩, G.sc, po, tk, G.stk, G.frm⟩
theorem look_of {f : Str} {v : V} : ∀ {l : List (Str × V)}, (f, v) ∈ l → (∀ q ∈ l, q.1 = f → q.2 = v) → l.lookup f = some v
  | [], h, _ => by cases h
  | (g, y) :: r, h, hu => by
    by_cases e : g = f
    · subst e
      have := hu (g, y) List.mem_cons_self rfl
      dsimp only at this
      subst this
      simp [List.lookup]
    · have nb : (f == g) = false := by simpa using fun z : f = g => e z.symm
      simp only [List.lookup, nb]
      rcases List.mem_cons.mp h with z | z
      · cases z; exact absurd rfl e
      · exact look_of z fun q hq => hu q (List.mem_cons_of_mem _ hq)
theorem look_zip {fs : List Str} {vs : List V} (nd : fs.Nodup) (hl : vs.length = fs.length) {k : Nat} {f : Str} (e : fs[k]? = some f) : (fs.zip vs).reverse.lookup f = vs[k]? := by
  have hk : k < fs.length := (List.getElem?_eq_some_iff.mp e).1
  have hv : vs[k]? = some vs[k] := List.getElem?_eq_getElem (by omega)
  rw [hv]
  refine look_of ?_ fun q hq hqf => ?_
  · rw [List.mem_reverse]
    have : (fs.zip vs)[k]? = some (f, vs[k]) := by rw [List.getElem?_zip_eq_some]; exact ⟨e, hv⟩
    exact List.mem_of_getElem? this
  · rw [List.mem_reverse] at hq
    obtain ⟨j, hj⟩ := List.mem_iff_getElem?.mp hq
    obtain ⟨q1, q2⟩ := q
    rw [List.getElem?_zip_eq_some] at hj
    dsimp only at hqf
    subst hqf
    have ej : j = k := by
      obtain ⟨h1, h2⟩ := List.getElem?_eq_some_iff.mp hj.1
      obtain ⟨h3, h4⟩ := List.getElem?_eq_some_iff.mp e
      exact (List.getElem_inj nd).mp (h2.trans h4.symm)
    subst ej
    rw [hv] at hj
    exact (Option.some.inj hj.2).symm
/-- raise C(e, ..) -/
theorem s_rs {X : Cx} {c : Ct} {Wx : WX} (G : Gs X c Z P n Wx) {m : Nat} {es : Es} {y : Str} {p1 p2 p3 : Pos} {a : Expr} {xs : List Expr} (h1 : (c.cls[m]?.map (·.nm)) = some y) (h2 : glbB c.sc y = true) (h3 : okName y = true) (h4 : isStar a = false)
    (h5 : (xs.all fun b => !isStar b) = true) (h7 : (c.cls[m]?.map (·.fs.isEmpty)) = some false) (ha : PA X (a :: xs) (lA Z (cn P n) Wx es)) :
    PS X (.Raise (some (.Call (.Name y p1) (a :: xs) [] p2)) none p3) (lS Z (cn P n) Wx (.rs m es)) := by
  by_cases hn : 2 ≤ n
  case neg =>
    refine ps_imp ps_never fun D σ H ⟨L, S, env, hR, hE, h⟩ => ?_
    simp only [exS, if_neg hn] at h
    exact h.elim
  obtain ⟨cl, e1, rfl⟩ := Option.map_eq_some_iff.mp h1
  obtain ⟨C, up, F, hk, _⟩ := G.exc.one m cl e1
  rcases F.mkI with h0 | ⟨fI, fd, ps, iC, tI, FI, bI⟩
  · rw [e1, Option.map_some, h0] at h7
    cases h7
  · have hK := G.K
    have hmg := G.mg
    have hdb := (okName_of h3).1
    refine ps_imp (ps_raise G.calm G.tk (pmk_oex (dvs := []) (ds := []) (k := 1) (sp := spInit C cl.fs) (by rw [hK]; exact F.ox) (by rw [hK]; exact iC) (by rw [hK]; exact tI) (by rw [hK, hmg]; exact FI) (G.room.mono hn) (by rw [hK]; exact bI) .nil passes0
      (glx G.toGd h2) (by rw [hmg]; exact F.gC) ha hdb (star_plain h4) (back_plain fun e he => by simpa using List.all_eq_true.mp h5 e he))) fun D σ H ⟨L, S, env, hR, hE, h⟩ => ?_
    simp only [exS, if_pos hn] at h
    refine ⟨L, S, env, hR, hE, (ResS.go (T := TWs) hE h).imp fun vs H1 ⟨L1, ws, S1, x1, r1, t1, q1, g⟩ => ?_⟩
    rw [hk] at g
    dsimp only at g
    split at g
    · rename_i hl
      have hlv : vs.length = cl.fs.length := by rw [← t1.length]; exact hl
      refine ⟨by have := F.sm; omega, fun a0 hn0 => ⟨a0, vs, by rw [List.append_nil], hlv, upd_same, fun d H2 hd hne b1 b2 b3 => ⟨rfl, d, _, b1, b2, by rw [upd_ne hne] at hd; exact hd, ?_⟩⟩⟩
      have hd1 : H1 d = none := by rw [upd_ne hne] at hd; exact hd
      have eH : upd (del H2 a0) d (.xd (cl.fs.zip vs).reverse) = upd H1 d (.xd (cl.fs.zip vs).reverse) := by
        funext b
        by_cases hb : b = d
        · subst hb; rw [upd_same, upd_same]
        · rw [upd_ne hb, upd_ne hb]
          by_cases hba : b = a0
          · subst hba; rw [del_same, hn0]
          · rw [del_ne hba, b3 b hba hb, upd_ne hba]
      rw [eH]
      have x2 : Ex Z.K L1 H1 L1 (upd H1 d (.xd (cl.fs.zip vs).reverse)) := ex_new0 hd1
      refine g L1 _ σ (.ref C) (some d) x2 (rl_tup r1 hd1) ((hE.mono x1).mono x2) ⟨C, cl, vs, by rw [G.exc.eq]; exact e1, F.gC, rfl, t1.mono x2, hlv, .inr ⟨d, _, rfl, upd_same, fun k f ek => look_zip F.nd hlv ek⟩⟩
    · exact g.elim
/-! ### except C as e -/
def Gr (H H' : Hp) : Prop := ∀ b o, H b = some o → H' b = some o
theorem Gr.refl {H : Hp} : Gr H H := fun _ _ h => h
theorem Gr.trans {H H1 H2 : Hp} (a : Gr H H1) (b : Gr H1 H2) : Gr H H2 := fun x o h => b x o (a x o h)
theorem gr_new {H : Hp} {p : Addr} {o : HO} (hp : H p = none) : Gr H (upd H p o) := fun b u h => by rw [upd_ne (ne_of_none h hp)]; exact h
theorem RX.grow {L L' : List Addr} {H H' : Hp} {x : Xn} {c : Value} {d : Option Addr} (h : RX Z L H x c d) (e : Ex Z.K L H L' H') (g : Gr H H') : RX Z L' H' x c d := by
  obtain ⟨C, cl, vs, h1, h2, h3, h4, h5, h6⟩ := h
  refine ⟨C, cl, vs, h1, h2, h3, h4.mono e, h5, h6.imp id ?_⟩
  rintro ⟨dd, l, q1, q2, q3⟩
  exact ⟨dd, l, q1, g _ _ q2, q3⟩
def Held (sl : Option Nat) (a : Addr) (σ : L2.St) : Prop := ∀ i, sl = some i → i < σ.length → σ[i]? = some (some (.ref a))
def ResK {α β : Type} (Z : Zx) (T : PySem.W.Frag → List Addr → Hp → α → β → Prop) (L : List Addr) (H : Hp) (r : R α) (Q : β → Hp → Prop) : Prop := match r with
  | .ok a S' => ∀ L' H' b, Ex Z.K L H L' H' → Gr H H' → Rl Z.K L' H' S' → T Z.K L' H' a b → Q b H'
  | _ => False
theorem ResK.bind {α β γ δ : Type} {T : PySem.W.Frag → List Addr → Hp → α → β → Prop} {U : PySem.W.Frag → List Addr → Hp → γ → δ → Prop} {L : List Addr} {H : Hp} {r : R α} {f : α → Sg → R γ} {Q : δ → Hp → Prop} (h : ResK Z U L H (r.bind f) Q) :
    ResK Z T L H r (fun b H' => ∃ L' a S', Ex Z.K L H L' H' ∧ Gr H H' ∧ Rl Z.K L' H' S' ∧ T Z.K L' H' a b ∧ ResK Z U L' H' (f a S') Q) := by
  cases r with
  | ok a S' =>
    intro L' H' b e g rl t
    refine ⟨L', a, S', e, g, rl, t, ?_⟩
    have h' : ResK Z U L H (f a S') Q := h
    revert h'
    cases f a S' with
    | ok c S2 => exact fun h' L2 H2 b2 e2 g2 => h' L2 H2 b2 (e.trans e2) (g.trans g2)
    | ex x S2 => exact fun h' => h'
    | st => exact fun h' => h'
  | ex x S' => exact h.elim
  | st => exact h.elim
theorem ResK.imp {α β : Type} {T : PySem.W.Frag → List Addr → Hp → α → β → Prop} {L : List Addr} {H : Hp} {r : R α} {Q Q' : β → Hp → Prop} (h : ResK Z T L H r Q) (i : ∀ b H', Q b H' → Q' b H') : ResK Z T L H r Q' := by
  cases r with
  | ok a S' => exact fun L' H' b e g rl t => i _ _ (h L' H' b e g rl t)
  | ex x S' => exact h
  | st => exact h
def lX (Z : Zx) (x : Xn) (sl : Option Nat) (a : Addr) (cls : Value) (d : Option Addr) (e : XE) : TE := fun σ H Q => ∃ L S, Rl Z.K L H S ∧ RX Z L H x cls d ∧ Held sl a σ ∧ ResK Z TW L H (evX x e S) Q
def lXs (Z : Zx) (x : Xn) (sl : Option Nat) (a : Addr) (cls : Value) (d : Option Addr) (e : XEs) : TA := fun σ H Q => ∃ L S, Rl Z.K L H S ∧ RX Z L H x cls d ∧ Held sl a σ ∧ ResK Z TWs L H (evXs x e S) Q
section
variable {X : Cx} {c : Ct} {x : Xn} {sl : Option Nat} {a : Addr} {oe : Obj} {cls : Value} {d : Option Addr} {pn : List (Addr × Obj)}
theorem x_con {w : W} {q : Const} {j : Nat} {pos : Pos} {Y : Cx} (h : chkW w q = true) : PE Y (.Constant q j pos) (lX Z x sl a cls d (.con w)) := by
  unfold chkW at h
  split at h
  · exact pe_imp pe_non fun σ H Q ⟨L, S, hR, _, _, h⟩ => h L H _ .refl .refl hR .non
  · have e := eq_of_beq h
    subst e
    exact pe_imp pe_bl fun σ H Q ⟨L, S, hR, _, _, h⟩ => h L H _ .refl .refl hR (.bl _)
  · have e := eq_of_beq h
    subst e
    exact pe_imp pe_int fun σ H Q ⟨L, S, hR, _, _, h⟩ => h L H _ .refl .refl hR (.int _)
  · have e := eq_of_beq h
    subst e
    exact pe_imp pe_str fun σ H Q ⟨L, S, hR, _, _, h⟩ => h L H _ .refl .refl hR (rw_wS _)
  · cases h
mutual
theorem XE_ok (G : Gd X c Z P n) (hz : Zc cls d oe) (hf : ∃ vs, oe.data = .fields vs) : ∀ (e : XE) (y : Expr), chkXE c sl e y = true → PE (X.suite a ((a, oe) :: pn)) y (lX Z x sl a cls d e)
  | .con w, y, h => by
    simp only [chkXE] at h
    split at h
    · exact x_con h
    · cases h
  | .fld m k, y, h => by
    simp only [chkXE] at h
    split at h
    · rename_i nm p1 f p2
      cases sl with
      | none => simp at h
      | some i =>
        simp only [Bool.and_eq_true, decide_eq_true_eq] at h
        obtain ⟨⟨⟨h1, h2⟩, h3⟩, h4⟩ := h
        obtain ⟨hd1, hd2, _⟩ := okName_of h3
        obtain ⟨cl, e1, e2⟩ := Option.bind_eq_some_iff.mp h4
        obtain ⟨C, up, F, hk, _⟩ := G.exc.one m cl e1
        have pv := pe_var (X := X.suite a ((a, oe) :: pn)) (i := i) (pos := p1) (by rw [show (X.suite a ((a, oe) :: pn)).N = X.N from rfl, G.N]; exact h1) (G.vis _ h2) hd1 hd2
        have hmem : f ∈ cl.fs := List.mem_of_getElem? e2
        have pf := pe_xf (pos := p2) (te := tVar i) (cls := cls) (d := d) (show XfC (X.suite a ((a, oe) :: pn)).K C from by rw [show (X.suite a ((a, oe) :: pn)).K = X.K from rfl, G.K]; exact F.xf) (by rw [G.K]; exact F.no f hmem) hz hf pv rfl
        refine ⟨fun pins s σ H Q I ⟨L, S, hR, hX, hH, hq⟩ => pf.run pins s σ H Q I ?_⟩
        have il : i < σ.length := by
          have e := I.len
          have : i < c.N.length := (List.getElem?_eq_some_iff.mp h1).1
          have e3 : (X.suite a ((a, oe) :: pn)).N = c.N := G.N
          rw [e3] at e
          omega
        refine ⟨.ref a, hH i rfl il, rfl, ?_⟩
        simp only [evX] at hq
        split at hq
        · rename_i hc
          cases hw : x.fs[k]? with
          | none => rw [hw] at hq; exact hq.elim
          | some w =>
            rw [hw] at hq
            obtain ⟨C2, cl2, vs, g1, g2, g3, g4, g5, g6⟩ := hX
            rw [hc, G.exc.eq, e1] at g1
            cases g1
            rw [F.gC] at g2
            cases g2
            obtain ⟨v, ev, rv⟩ := g4.get hw
            rcases g6 with g6 | ⟨dd, l, q1, q2, q3⟩
            · rw [g6] at e2; cases e2
            · exact ⟨g3, dd, l, v, q1, q2, (q3 k f e2).trans ev, hq L H v .refl .refl hR rv⟩
        · exact hq.elim
    · cases h
  | .tup xs, y, h => by
    simp only [chkXE] at h
    split at h
    · refine pe_imp (pe_tup (XEs_ok G hz hf xs _ h)) fun σ H Q ⟨L, S, hR, hX, hH, hq⟩ => ⟨L, S, hR, hX, hH, ?_⟩
      simp only [evX] at hq
      refine (ResK.bind (T := TWs) hq).imp fun vs H1 ⟨L1, ws, S1, x1, g1, r1, t1, q1⟩ => ?_
      unfold newT at q1
      split at q1
      · rename_i hl
        exact ⟨by rw [← t1.length, ← lenMax_eq]; exact hl, fun p hp => q1 L1 _ _ (ex_new0 hp) (gr_new hp) (rl_tup r1 hp) (.tup (.inl (.inl upd_same)) (t1.mono (ex_new0 hp)))⟩
      · exact q1.elim
    · cases h
  | .lst xs, y, h => by
    simp only [chkXE] at h
    split at h
    · refine pe_imp (pe_lst (XEs_ok G hz hf xs _ h)) fun σ H Q ⟨L, S, hR, hX, hH, hq⟩ => ⟨L, S, hR, hX, hH, ?_⟩
      simp only [evX] at hq
      refine (ResK.bind (T := TWs) hq).imp fun vs H1 ⟨L1, ws, S1, x1, g1, r1, t1, q1⟩ => ?_
      unfold newL at q1
      split at q1
      · rename_i hl
        exact ⟨by rw [← t1.length, ← lenMax_eq]; exact hl, fun p hp => q1 (L1 ++ [p]) _ _ (ex_new hp) (gr_new hp) (rl_new r1 t1 hp) (.ref (at_new r1 p))⟩
      · exact q1.elim
    · cases h
theorem XEs_ok (G : Gd X c Z P n) (hz : Zc cls d oe) (hf : ∃ vs, oe.data = .fields vs) : ∀ (e : XEs) (y : List Expr), chkXEs c sl e y = true → PA (X.suite a ((a, oe) :: pn)) y (lXs Z x sl a cls d e)
  | .nil, y, h => by
    simp only [chkXEs] at h
    split at h
    · exact pa_imp pa_nil fun σ H Q ⟨L, S, hR, hX, hH, hq⟩ => hq L H [] .refl .refl hR .nil
    · cases h
  | .cons e es, y, h => by
    simp only [chkXEs] at h
    split at h
    · rename_i y ys
      simp only [Bool.and_eq_true, Bool.not_eq_true'] at h
      obtain ⟨⟨h1, h2⟩, h3⟩ := h
      refine pa_imp (pa_cons (XE_ok G hz hf e _ h2) (XEs_ok G hz hf es _ h3) (star_plain h1)) fun σ H Q ⟨L, S, hR, hX, hH, hq⟩ => ⟨L, S, hR, hX, hH, ?_⟩
      simp only [evXs] at hq
      refine (ResK.bind (T := TW) hq).imp fun v H1 ⟨L1, w, S1, x1, g1, r1, t1, q1⟩ => ?_
      refine ⟨L1, S1, r1, hX.grow x1 g1, hH, (ResK.bind (T := TWs) q1).imp fun vs H2 ⟨L2', ws, S2, x2, g2, r2, t2, q2⟩ => ?_⟩
      exact q2 L2' H2 (v :: vs) .refl .refl r2 (.cons (t1.mono x2) t2)
    · cases h
end
theorem REn.dark {K : PySem.W.Frag} {L : List Addr} {H : Hp} {σ : En} {τ : L2.St} (r : REn K L H σ τ) (o : Option V) : ∀ i, REn K L H (σ.set i none) (τ.set i o) := by
  induction r with
  | nil => intro i; exact .nil
  | non r ih =>
    intro i
    cases i with
    | zero => exact .non r
    | succ i => exact .non (ih i)
  | cons h r ih =>
    intro i
    cases i with
    | zero => exact .non r
    | succ i => exact .cons h (ih i)
theorem hd_ends (x : Xn) (fin : Option XE) : ∀ (as : List (Nat × XE)) (σ : En) (S : Sg), (∃ e S', hdGo x fin as σ S = .ok (.nx e) S') ∨ (∃ w S', hdGo x fin as σ S = .ok (.rt w) S') ∨ hdGo x fin as σ S = .st
  | [], σ, S => by
    unfold hdGo
    cases fin with
    | none => exact .inl ⟨_, _, rfl⟩
    | some e =>
      dsimp only
      cases evX x e S with
      | ok w S' => exact .inr (.inl ⟨_, _, rfl⟩)
      | ex y S' => exact .inr (.inr rfl)
      | st => exact .inr (.inr rfl)
  | (j, e) :: r, σ, S => by
    unfold hdGo
    cases evX x e S with
    | ok w S' => exact hd_ends x fin r _ S'
    | ex y S' => exact .inr (.inr rfl)
    | st => exact .inr (.inr rfl)
def lHb (Z : Zx) (x : Xn) (sl : Option Nat) (a : Addr) (cls : Value) (d : Option Addr) (fin : Option XE) (as : List (Nat × XE)) : TS := fun D σ H => ∃ L S env, Rl Z.K L H S ∧ REn Z.K L H env σ ∧ RX Z L H x cls d ∧ Held sl a σ ∧ ResS Z L H (hdGo x fin as env S) D (fun _ _ _ _ => False)
theorem Hb_ok (G : Gd X c Z P n) (hz : Zc cls d oe) (hf : ∃ vs, oe.data = .fields vs) {fin : Option XE} : ∀ (as : List (Nat × XE)) (xs : List Stmt), chkHb c sl fin as xs = true → PSs (X.suite a ((a, oe) :: pn)) xs (lHb Z x sl a cls d fin as)
  | [], xs, h => by
    simp only [chkHb] at h
    cases fin with
    | none =>
      dsimp only at h
      split at h
      · exact pss_imp pss_nil fun D σ H ⟨L, S, env, hR, hE, hX, hH, hq⟩ => hq L H σ .refl hR hE
      · cases h
    | some e =>
      dsimp only at h
      split at h
      · refine pss_imp (pss_cons (ps_ret (XE_ok (x := x) G hz hf e _ h)) pss_nil) fun D σ H ⟨L, S, env, hR, hE, hX, hH, hq⟩ => ?_
        refine ⟨L, S, hR, hX, hH, ?_⟩
        simp only [hdGo] at hq
        revert hq
        cases evX x e S with
        | ok w S' => exact fun hq L' H' v x' _ rl t => hq L' H' v x' rl t
        | ex y S' => exact fun hq => hq.elim
        | st => exact fun hq => hq.elim
      · cases h
  | (j, e) :: r, xs, h => by
    simp only [chkHb] at h
    split at h
    · rename_i y py v pos rest
      simp only [Bool.and_eq_true, decide_eq_true_eq, Bool.not_eq_true'] at h
      obtain ⟨⟨⟨⟨⟨⟨h1, h2⟩, h3⟩, h4⟩, h5⟩, h6⟩, h7⟩ := h
      have l := G.loc _ h2
      have pg : PG (X.suite a ((a, oe) :: pn)) (.Name y py) (gName j) := pg_name (by rw [show (X.suite a ((a, oe) :: pn)).N = X.N from rfl, G.N]; exact G.nd) (by rw [show (X.suite a ((a, oe) :: pn)).N = X.N from rfl, G.N]; exact h1) l.1 l.2
      refine pss_imp (pss_cons (ps_asg (XE_ok (x := x) G hz hf e _ h6) pg (show swapsWith v (some (.Name y py)) pos.line X.env = pure false from swaps_plain h5) (by cases v <;> rfl) rfl) (Hb_ok G hz hf r _ h7)) fun D σ H ⟨L, S, env, hR, hE, hX, hH, hq⟩ => ?_
      refine ⟨L, S, hR, hX, hH, ?_⟩
      simp only [hdGo] at hq
      revert hq
      cases evX x e S with
      | ok w S' =>
        intro hq L' H' v' x' g' rl t
        refine ⟨L', S', env.set j (some w), rl, (hE.mono x').set t j, hX.grow x' g', fun i hi hl => ?_, ResS.ext hq x'⟩
        have ne : j ≠ i := fun z => h4 (by rw [hi, z])
        rw [List.getElem?_set_ne ne]
        exact hH i hi (by simpa using hl)
      | ex y S' => exact fun hq => hq.elim
      | st => exact fun hq => hq.elim
    · cases h
end
/-- the clauses -/
theorem cs_ok {X : Cx} {c : Ct} {Wx : WX} (G : Gs X c Z P n Wx) : ∀ (hs : List Hd) (ds : List ExceptHandler), chkHds c hs ds = true → ∃ l, CsOk X ds l ∧
    ∀ {D : Ends} {L : List Addr} {H : Hp} {x : Xn} {c1 : Value} {d1 : Option Addr} {σ : L2.St} {env : En} {S : Sg}, Rl Z.K L H S → REn Z.K L H env σ → RX Z L H x c1 d1 → ResS Z L H (hdsGo (cn P n).kl x hs env S) D Wx → wCs X.K Wx D l c1 d1 σ H
  | [], ds, h => by
    simp only [chkHds] at h
    split at h
    · exact ⟨[], .nil, fun rl hE q g => g _ _ _ _ _ .refl rl hE q⟩
    · cases h
  | hd :: hs, ds, h => by
    simp only [chkHds] at h
    split at h
    case h_2 => cases h
    rename_i e1 ds
    rw [Bool.and_eq_true] at h
    obtain ⟨hc, hr⟩ := h
    obtain ⟨l, okl, sem⟩ := cs_ok G hs ds hr
    unfold chkHd at hc
    split at hc
    case h_2 => cases hc
    rename_i y np nm suite pos'
    simp only [Bool.and_eq_true, decide_eq_true_eq, Bool.not_eq_true'] at hc
    obtain ⟨⟨⟨⟨⟨h1, h2⟩, h3⟩, h4⟩, h5⟩, h6⟩ := hc
    obtain ⟨cl, e1, rfl⟩ := Option.map_eq_some_iff.mp h1
    obtain ⟨C, up, F, hk, _⟩ := G.exc.one hd.cls cl e1
    have hn : Names X cl.nm (.ref C) := ⟨glx G.toGd h2, (okName_of h3).1, .inl (by rw [G.mg]; exact F.gC)⟩
    cases hsu : suite with
    | nil => rw [hsu] at h5; cases h5
    | cons b0 rest =>
    subst hsu
    refine ⟨⟨.ref C, hd.sl, fun a cls d D σ H => ∃ x, lHb Z x hd.sl a cls d hd.fin hd.as D σ H⟩ :: l, .cons hn ?_ (fun a oe cls d pn hz hf => ⟨fun pins s σ H D I ⟨x, q⟩ => (Hb_ok G.toGd hz hf hd.as _ h6).run pins s σ H D I q⟩) okl, ?_⟩
    · cases hsl : hd.sl with
      | none =>
        rw [hsl] at h4
        cases nm with
        | some _ => cases h4
        | none => exact .inl ⟨rfl, rfl⟩
      | some i =>
        rw [hsl] at h4
        cases nm with
        | none => cases h4
        | some nm =>
          simp only [Bool.and_eq_true, decide_eq_true_eq] at h4
          refine .inr ⟨nm, i, rfl, rfl, by rw [G.N]; exact h4.1, ?_⟩
          have := h4.2
          split at this
          · rename_i z
            rw [← G.sc] at z
            exact z
          · cases this
    · intro D L H x c1 d1 σ env S rl hE q g
      obtain ⟨C1, cl1, vs, q1, q2, q3, q4⟩ := id q
      rw [G.exc.eq] at q1
      obtain ⟨C2, up2, F2, k2, z2⟩ := G.exc.one _ _ q1
      rw [F2.gC] at q2
      cases q2
      have k1 : P.kl[x.cls]? = some (cl1.fs.length, up2) := k2
      refine ⟨_, by rw [q3, G.K]; exact z2 _ _ _ e1 F.gC, fun hy a na => ?_, fun hno => ?_⟩
      · have hy' : hd.cls ∈ up2 := of_decide_eq_true hy
        simp only [hdsGo, k1, if_pos hy'] at g
        refine ⟨x, L, S, slE env hd.sl, rl, ?_, q, ?_, ?_⟩
        · cases hd.sl with
          | none => exact hE
          | some i => exact hE.dark _ i
        · intro i z hj
          rw [z] at hj ⊢
          exact List.getElem?_set_self (by simpa [slotOf] using hj)
        · revert g
          cases hd.sl with
          | none =>
            simp only [RS.clr, slE, endsOf]
            rcases hd_ends x hd.fin hd.as env S with ⟨e, S', z⟩ | ⟨w, S', z⟩ | z <;> (rw [z]; exact fun g => g)
          | some i =>
            simp only [RS.clr, slE, endsOf]
            rcases hd_ends x hd.fin hd.as (env.set i none) S with ⟨e, S', z⟩ | ⟨w, S', z⟩ | z
            · rw [z]
              exact fun g L2 H2 σ2 x2 rl2 hE2 => g L2 H2 (σ2.set i none) x2 rl2 (hE2.clear i)
            · rw [z]
              exact fun g => g
            · rw [z]
              exact fun g => g.elim
      · have hn' : ¬ hd.cls ∈ up2 := of_decide_eq_false hno
        simp only [hdsGo, k1, if_neg hn'] at g
        exact sem rl hE q g
/-- try: .. except C as e: .. -/
theorem s_ty {X : Cx} {c : Ct} {Wx : WX} (G : Gs X c Z P n Wx) {b : Ss} {hs : List Hd} {body : List Stmt} {d : ExceptHandler} {ds : List ExceptHandler} {pos : Pos}
    (hb : ∀ (W : WX) (pn : List (Addr × Obj)) (xe : Value → Shared → Prop), Takes (X.tr pn xe) W → PassesOwn (model X.prog X.w) X.A X.env xe → PSs (X.tr pn xe) body (lSs Z (cn P n) W b)) (hc : chkHds c hs (d :: ds) = true) :
    PS X (.Try body (d :: ds) [] [] pos) (lS Z (cn P n) Wx (.ty b hs)) := by
  obtain ⟨l, okl, sem⟩ := cs_ok G hs _ hc
  refine ps_imp (ps_try_cs (tb := fun W => lSs Z (cn P n) W b) G.stk G.frm (by rw [G.N]; exact G.nd) G.tk hb okl) fun D σ H ⟨L, S, env, hR, hE, g⟩ => ⟨L, S, env, hR, hE, ?_⟩
  simp only [exS] at g
  revert g
  cases exs (cn P n) b env S with
  | ok f S1 => exact fun g => by cases f <;> exact g
  | st => exact fun g => g.elim
  | ex x env1 S1 => exact fun g L' H' σ' c1 d1 x' rl hE' q => sem rl hE' q (ResS.ext g x')
end
end SF
set_option Elab.async false
set_option linter.all false
set_option maxRecDepth 100000
set_option maxHeartbeats 4000000
namespace SF
open PySem L2
section
variable {Z : Zx} {P : Pg} {n : Nat}
theorem ResGo.ext {L L' : List Addr} {H H' : Hp} {r : R W} {Q : Option V → Hp → Prop} {E : XK} (h : ResGo Z L H r Q E) (e : Ex Z.K L H L' H') : ResGo Z L' H' r Q E := by
  revert h
  unfold ResGo
  cases r with
  | ok w S =>
    dsimp only
    cases gbW w with
    | none => exact fun h => h
    | some o => cases o with
      | none => exact fun h L2 H2 x => h L2 H2 (e.trans x)
      | some v => exact fun h L2 H2 b x => h L2 H2 b (e.trans x)
  | ex x S => exact fun h L2 H2 c d x => h L2 H2 c d (e.trans x)
  | st => exact fun h => h
theorem ResGo.bind {α γ : Type} {T : PySem.W.Frag → List Addr → Hp → α → γ → Prop} {L : List Addr} {H : Hp} {r : R α} {f : α → Sg → R W} {Q : Option V → Hp → Prop} {E : XK} (h : ResGo Z L H (r.bind f) Q E) :
    ResG Z T L H r (fun b H' => ∃ L' a S', Ex Z.K L H L' H' ∧ Rl Z.K L' H' S' ∧ T Z.K L' H' a b ∧ r = .ok a S' ∧ ResGo Z L' H' (f a S') Q E) E := by
  cases r with
  | ok a S' =>
    intro L' H' b e rl t
    have h' : ResGo Z L H (f a S') Q E := h
    exact ⟨L', a, S', e, rl, t, rfl, h'.ext e⟩
  | ex x S' => exact h
  | st => exact h.elim
theorem ResGo.ofO {γ : Type} {L : List Addr} {H : Hp} {o : Option γ} {f : γ → R W} {Q : Option V → Hp → Prop} {E : XK} (h : ResGo Z L H (SF.ofO o f) Q E) : ∃ a, o = some a ∧ ResGo Z L H (f a) Q E := by
  cases o with
  | none => exact h.elim
  | some a => exact ⟨a, rfl, h⟩
/-- it ends no iterator -/
def exN (Z : Zx) (W : WX) (σ : L2.St) : XK := fun c d H => W c d σ H ∧ PySem.W.subIn Z.K c (.type "StopIteration") = some false
theorem ResGo.noStop {prog : Program} {w : World} {base : Heap} {cls : List Cl} {L : List Addr} {H : Hp} {r : R W} {Q : Option V → Hp → Prop} {Wx : WX} {σ : L2.St} (exc : ExcF prog w base Z P cls) (h : ResGo Z L H r Q (ex Wx σ)) : ResGo Z L H r Q (exN Z Wx σ) := by
  cases r with
  | ok w S => exact h
  | ex x S =>
    intro L' H' c d e rl rx
    refine ⟨h L' H' c d e rl rx, ?_⟩
    obtain ⟨C, cl, vs, h1, h2, rfl, _⟩ := rx
    obtain ⟨C', up, F, _⟩ := exc.one _ cl (by rw [← exc.eq]; exact h1)
    have := F.gC.symm.trans h2
    cases this
    exact F.ns
  | st => exact h
theorem cx_imp {P : Program} {w : World} {outer : List Env} {H : Hp} {s : Shared} {E E' : XK} {u : Value} {s' : Shared} (i : ∀ c d H, E c d H → E' c d H) (h : L2.CX P w outer H s E u s') : L2.CX P w outer H s E' u s' := by
  obtain ⟨a, B, H', cls, d, z1, z2, z3, z4, z5, z6, z7, z8⟩ := h
  exact ⟨a, B, H', cls, d, z1, z2, z3, z4, z5, z6, z7, i _ _ _ z8⟩
def lGn (Z : Zx) (c : Cn) (Wx : WX) (e : E) : TGen1 := fun σ H Q => ∃ L S env, Rl Z.K L H S ∧ REn Z.K L H env σ ∧ ResGo Z L H (ev c e env S) Q (ex Wx σ)
theorem run_g {X : Cx} {n : Nat} {f : Addr} {fd : FuncData} {ps ks : List Str} {sp : SpG1} {E : XK} {g : List Value → List Value → List Value} {gV : List V → List V → List V} {pins : List (Addr × Obj)} {σ : L2.St} {H : Hp} {s : Shared} {Q : Option V → Hp → Prop} {us ws : List Value} {vs zs : List V}
    (F : GFn1 X.prog X.w X.K X.mg X.base n f fd ps sp) (hr : Room n X.A) (hb : KBinds X.K fd ps ks g gV) (I : L2.Inv X pins σ H s) (r : Vals vs us) (rz : Vals zs ws) (h : sp (gV vs zs) H Q E) :
    wpAny (model X.prog X.w) X.A (call (.ref f) us (ks.zip ws)) (fun u s' => ∃ H1 sc, L2.Inv X pins σ H1 sc ∧ GMade1 X.prog X.w n X.stack H1 sc Q E u s') X.xe s := by
  have r2 := hb.rel r rz
  have hl : (g us ws).length = ps.length := by rw [← r2.length]; exact F.len _ _ _ _ h
  refine wpAny_call (codeAny_mono (F.run X.A X.stack s H ⟨us, ks.zip ws⟩ (g us ws) (gV vs zs) Q E hr I.env0 (hb.to s us ws I.kIn hl) r2 h) fun r s' hq => ?_)
  match r, hq with
  | .error e, hq => exact hq.elim
  | .ok (.ret u), hq => exact ⟨H, s, I, hq⟩
  | .ok .next, hq => exact hq.elim
  | .ok .brk, hq => exact hq.elim
  | .ok .cont, hq => exact hq.elim
theorem gcall_ok {X : Cx} {c : Ct} {n : Nat} (G : Gd X c Z P n) {Wx : WX} (tk : Takes X Wx) {h : Nat} {sh : Sh} {es ks : Es} {x : Str} {p pos : Pos} {xs : List Expr} {kws : List Keyword} (hsh : P.shs[h]? = some sh) (hx : c.gfs[sh.fn]? = some x) (hg : glbB c.sc x = true) (hn : okName x = true)
    (hk : kwNms kws = sh.ks.map some) (hnil : xs = [] → es = .nil) (hs : ∀ e ∈ xs, isStar e = false) (ha : PA X xs (lA Z (cn P n) Wx es)) (hkw : PK X kws (lA Z (cn P n) Wx ks)) :
    PGen1 X n (.Call (.Name x p) xs kws pos) (lGn Z (cn P n) Wx (.call h es ks)) (fun σ => exN Z Wx σ) := by
  obtain ⟨f, fd, ps, g, gV, hm, hkp, F, hb, hf, fn, hfn, hnp⟩ := G.gens h sh x hsh hx (okName_ne hn)
  obtain ⟨hdb, _, _⟩ := okName_of hn
  obtain ⟨k1, k2, k3⟩ := kws_all (env := X.env) (pos := pos) hk
  have FX : GFn1 X.prog X.w X.K X.mg X.base n f fd ps (spG Z P n sh.fn) := by rw [G.K, G.mg]; exact F
  have bX : KBinds X.K fd ps sh.ks g gV := by rw [G.K]; exact hb
  have mX : X.mg x = some (.ref f) := by rw [G.mg]; exact hm
  have kX : PySem.W.keepIn X.K (.ref f) = true := by rw [G.K]; exact hkp
  refine ⟨fun pins s σ H Q I ⟨L, S, env, hR, hE, q⟩ => ?_⟩
  refine wpAny_Call_Name_kw (ld_glob I (glx G hg) mX ?_ hdb)
  obtain ⟨sh', e, q⟩ := ResGo.ofO (show ResGo Z L H (ofO (P.shs[h]?) _) Q _ from q)
  rw [hsh] at e; cases e
  -- behind the arguments
  have fin : ∀ {L1 : List Addr} {H1 : Hp} {S1 : Sg} {ws : List W} {vs : List V} {us : List Value} {s1 : Shared}, L2.Inv X pins σ H1 s1 → Ex Z.K L H L1 H1 → Rl Z.K L1 H1 S1 → RWs Z.K L1 H1 ws vs → Vals vs us →
      ResGo Z L1 H1 ((evs (cn P n) ks env S1).bind fun zs S => if ws.length = sh.np ∧ zs.length = sh.ks.length then ofO (fillA ws zs sh.fill) fun xs => runF P n sh.fn xs S else .st) Q (ex Wx σ) →
      wpAny (model X.prog X.w) X.A (evalAll ((backToKw pos (keywordEach kws X.env)).map (·.2))) (fun kvs s₂ => X.K.In s₂.heap ∧ wpAny (model X.prog X.w) X.A (call (.ref f) ([] ++ us) (((backToKw pos (keywordEach kws X.env)).filterMap (·.1)).zip kvs)) (fun u s' => ∃ H1 sc, L2.Inv X pins σ H1 sc ∧ GMade1 X.prog X.w n X.stack H1 sc Q (exN Z Wx σ) u s') X.xe s₂) X.xe s1 := fun {L1 H1 S1 ws vs us s1} I1 e1 r1 t1 rv q1 => by
    refine thn (hkw.run pos pins s1 σ H1 _ I1 ⟨L1, S1, env, r1, hE.mono e1, ResGo.bind (T := TWs) q1⟩) fun kvs s2 ⟨zs', H2, I2, rz, L2', zs, S2, e2, r2, t2, _, q2⟩ => ⟨I2.kIn, ?_⟩
    rw [k2]
    split at q2
    · rename_i hnp'
      obtain ⟨xs', ex', q3⟩ := q2.ofO
      clear q2
      have t3 := hf L2' H2 ws zs vs zs' xs' (t1.mono e2) t2 hnp' ex'
      have hlen : xs'.length = fn.np := by
        cases n with
        | zero => exact q3.elim
        | succ n =>
          have q4 : ResGo Z L2' H2 (runF P (n + 1) sh.fn xs' S2) Q (ex Wx σ) := q3
          simp only [runF, hfn] at q4
          split at q4
          · assumption
          · exact q4.elim
      exact run_g (E := exN Z Wx σ) FX G.room bX I2 rv rz ⟨L2', S2, xs', fn, r2, t3, hfn, by rw [← t3.length]; exact hlen, q3.noStop G.exc⟩
    · exact q2.elim
  cases xs with
  | nil =>
    refine PySem.W.callWith_KW0 (h₀ := X.base) I.ok.mod.kin kX k1 ?_ (by rw [k3]; rfl)
    have e0 := hnil rfl
    subst e0
    have q1 : ResGo Z L H (R.bind (.ok [] S) _) Q (ex Wx σ) := q
    exact fin (us := []) I .refl hR .nil .nil q1
  | cons y ys =>
    have he := star_plain (es := ys) (env := X.env) (hs y List.mem_cons_self)
    refine PySem.W.callWith_KW (h₀ := X.base) I.ok.mod.kin kX k1 (thn (ha.run pos pins s σ H _ I ⟨L, S, env, hR, hE, ResGo.bind (T := TWs) q⟩) fun us s1 ⟨vs, H1, I1, rv, L1, ws, S1, e1, r1, t1, _, q1⟩ => ?_) ?_ he
    · exact fin I1 e1 r1 t1 rv q1
    · rw [back_plain hs, k3]; rfl
/-- for x in g(..): break -/
theorem s_gb {X : Cx} {c : Ct} {Wx : WX} (G : Gs X c Z P n Wx) {i h : Nat} {sh : Sh} {es ks : Es} {x y : Str} {p py pos pb pf : Pos} {xs : List Expr} {kws : List Keyword} (hi : c.N[i]? = some y) (hl : locB c.sc y = true) (hsh : P.shs[h]? = some sh) (hx : c.gfs[sh.fn]? = some x) (hg : glbB c.sc x = true) (hn : okName x = true)
    (hk : kwNms kws = sh.ks.map some) (hnil : xs = [] → es = .nil) (hs : ∀ e ∈ xs, isStar e = false) (ht : PG X (.Name y py) (lG Z (.na i))) (ha : PA X xs (lA Z (cn P n) Wx es)) (hkw : PK X kws (lA Z (cn P n) Wx ks)) :
    PS X (.For (.Name y py) (.Call (.Name x p) xs kws pos) [.Break pb] [] pf) (lS Z (cn P n) Wx (.gb i h es ks)) := by
  refine ps_imp (ps_gb1 (E := fun σ => exN Z Wx σ) G.po G.calm (gcall_ok G.toGd G.tk hsh hx hg hn hk hnil hs ha hkw) (fun σ pins H s e s' I cx => ?_) (fun σ cls d H h => by rw [G.K]; exact h.2) G.room ht) fun D σ H ⟨L, S, env, hR, hE, q⟩ => ?_
  · exact passAt G.tk σ pins H s e s' I (cx_imp (fun _ _ _ z => z.1) cx)
  · refine ⟨L, S, env, hR, hE, ?_⟩
    simp only [exS] at q
    revert q
    generalize ev (cn P n) (.call h es ks) env S = r
    intro q
    cases r with
    | st => exact q.elim
    | ex x S' => exact fun L' H' c d e rl rx => q L' H' σ c d e rl (hE.mono e) rx
    | ok w S' =>
      simp only [R.go_ok] at q
      unfold ResGo
      dsimp only
      cases hw : gbW w with
      | none => rw [hw] at q; exact q
      | some o =>
        rw [hw] at q
        cases o with
        | none => exact fun L' H' e rl => q L' H' σ e rl (hE.mono e)
        | some v =>
          intro L' H' b e rl t
          refine ⟨L', S', env, v, rl, hE.mono e, t, _, S', rfl, fun L2 H2 σ2 x2 rl2 hE2 _ => ?_⟩
          exact q L2 H2 σ2 (e.trans x2) rl2 hE2
/-! ### the body of a generator def -/
def chkGb (c : Ct) (ss : Ss) (xs : List Stmt) : Bool := match ss with
  | .nil => false
  | .cons s .nil => match s with
    | .fr tg it (.cons (.rt (.tup (.cons e .nil))) .nil) => match xs with
      | [.For t y [.Expr (.Yield (some z) _) _] [] _] => chkI c it y && (!itPair it || isTup t) && chkT c tg t && chk c e z
      | _ => false
    | _ => false
  | .cons s ss => match s with
    | .ex e => match xs with
      | x :: xs => chkSt c (.ex e) x && chkGb c ss xs
      | _ => false
    | _ => false
def ResGs (Z : Zx) (L : List Addr) (H : Hp) (r : RS) (Q : Option V → Hp → Prop) (Wx : WX) : Prop := match r with
  | .ok (.nx env) S => ∀ L' H', Ex Z.K L H L' H' → Rl Z.K L' H' S → Q none H'
  | .ok (.rt w) S => match gbW w with
    | some (some w) => ∀ L' H' v, Ex Z.K L H L' H' → Rl Z.K L' H' S → RW Z.K L' H' w v → Q (some v) H'
    | some none => ∀ L' H', Ex Z.K L H L' H' → Rl Z.K L' H' S → Q none H'
    | none => False
  | .ex x env S => ∀ L' H' σ c d, Ex Z.K L H L' H' → Rl Z.K L' H' S → REn Z.K L' H' env σ → RX Z L' H' x c d → Wx c d σ H'
  | _ => False
end
end SF
set_option Elab.async false
set_option linter.all false
set_option maxRecDepth 100000
set_option maxHeartbeats 4000000
namespace SF
open PySem L2
section
variable {Z : Zx} {P : Pg} {n : Nat}
theorem swap_no {c : Ct} {env : Env} {t v : Expr} (hs : env.scope = c.sc) (h : noSwap c t v = true) : swappedStores [t] v env = pure none := by
  cases t
  case Tuple ts k p =>
    cases v
    case Tuple vs k2 p2 =>
      unfold swappedStores
      dsimp only [pure_bind]
      split
      · rfl
      · rename_i h1
        split
        · rfl
        · rename_i h2
          split
          · rfl
          · rename_i h3
            split
            · rfl
            · rename_i h4
              exfalso
              simp only [noSwap, Bool.or_eq_true, Bool.not_eq_true'] at h
              rcases h with (h | h) | h
              · apply h1; rw [h]; rfl
              · simp only [Bool.or_eq_true, not_or, bne_iff_ne, ne_eq, Decidable.not_not] at h3
                have q := List.filterMap_length_eq_length.mp h3.1
                have : ts.all (isLoc c.sc) = true := by
                  rw [List.all_eq_true]
                  intro x hx
                  have z := q x hx
                  revert z
                  cases x <;> try (intro z; cases z; done)
                  rename_i id pos
                  intro z
                  dsimp only at z
                  split at z
                  · rename_i z2
                    simp only [Bool.and_eq_true, beq_iff_eq] at z2
                    simp only [isLoc]
                    rw [← hs, show List.lookup id env.scope.names = some .local from z2.1]
                  · cases z
                rw [this] at h; cases h
              · exact h4 h
    all_goals rfl
  case List ts p => cases v <;> (simp [noSwap] at h)
  all_goals (cases v <;> rfl)
theorem swap_other {env : Env} {t v : Expr} (h : isTup t = false) (h2 : ∀ ts p, t ≠ .List ts p) : swappedStores [t] v env = pure none := by
  cases t <;> first | (simp [isTup] at h; done) | exact absurd rfl (h2 _ _) | (cases v <;> rfl)
mutual
theorem St_ok : ∀ (s : St) {X : Cx} {c : Ct} {Wx : WX} (G : Gs X c Z P n Wx) (hb : X.env.blockKind = .function) (x : Stmt), chkSt c s x = true → PS X x (lS Z (cn P n) Wx s)
  | .asg tg e, X, c, Wx, G, hb, x, h => by
    simp only [chkSt] at h
    split at h
    · rename_i t v pos
      simp only [Bool.and_eq_true, Bool.not_eq_true'] at h
      obtain ⟨⟨⟨h1, h2⟩, h3⟩, h4⟩ := h
      have base : swapsWith v (some t) pos.line X.env = pure false → PS X (.Assign [t] v pos) (lS Z (cn P n) Wx (.asg tg e)) := fun hs =>
        s_asg G h1 (swap_no G.sc h2) hs (tg_ok G.toGd tg _ h3) (E_ok e G.toGd G.tk _ h4)
      cases hc : isComp v with
      | false => exact base (swaps_plain hc)
      | true =>
        by_cases hn : ∃ y p, t = .Name y p
        · obtain ⟨y, py, rfl⟩ := hn
          cases v <;> try (simp [isComp] at hc; done)
          · rename_i el gs sc p2
            obtain ⟨b, hs, hk⟩ := swaps_lc (x := el) (gs := gs) (sc := sc) (pos := p2) (y := y) (py := py) (l := pos.line) (env := X.env)
            cases b with
            | false => exact base hs
            | true =>
              cases e <;> try (simp [chk, isComp] at h4; done)
              rename_i e tg2 it cond own
              cases tg <;> try (simp [chkT] at h3; done)
              rename_i i
              simp only [chkT, Bool.and_eq_true, decide_eq_true_eq] at h3
              simp only [chk] at h4
              split at h4
              · rename_i q
                cases q
                simp only [Bool.and_eq_true] at h4
                obtain ⟨⟨⟨⟨⟨⟨g1, g2⟩, g3⟩, g4⟩, g5⟩, g6⟩, g7⟩ := h4
                have hi := I_ok it G.toGd G.tk _ _ g3 g4
                exact s_lc G h3.1.1 h3.1.2 g1 (fun i hi => by simpa using List.all_eq_true.mp g2 i hi) hi.1
                  (fun s H C cl fp => tg_ok (gd_blk G.toGd _ s H C cl fp) tg2 _ g5)
                  (fun s H C cl fp => C_ok cond (gd_blk G.toGd _ s H C cl fp) takes0 _ g6)
                  (fun s H C cl fp => E_ok e (gd_blk G.toGd _ s H C cl fp) takes0 _ g7) hi.2 hs (hk rfl)
              · cases h4
          · cases e <;> (simp [chk, isComp] at h4)
          · cases e <;> (simp [chk, isComp] at h4)
        · exact base (swaps_other fun y p q => hn ⟨y, p, q⟩)
    · cases h
  | .seti o i e, X, c, Wx, G, hb, x, h => by
    simp only [chkSt] at h
    split at h
    · simp only [Bool.and_eq_true, Bool.not_eq_true'] at h
      exact s_seti G h.1.1.1 (E_ok o G.toGd G.tk _ h.1.1.2) (E_ok i G.toGd G.tk _ h.1.2) (E_ok e G.toGd G.tk _ h.2)
    · cases h
  | .aug i sub e, X, c, Wx, G, hb, x, h => by
    simp only [chkSt] at h
    split at h
    · simp only [Bool.and_eq_true, decide_eq_true_eq] at h
      obtain ⟨⟨⟨⟨h1, h2⟩, h3⟩, h4⟩, h5⟩ := h
      have q := fun p pos => s_aug (p := p) (pos := pos) (sub := sub) G h1 h2 (E_ok e G.toGd G.tk _ h5)
      split at h4
      · cases sub
        · exact q _ _
        · cases h4
      · cases sub
        · cases h4
        · exact q _ _
      · cases h4
    · cases h
  | .par i j e1 e2, X, c, Wx, G, hb, x, h => by
    simp only [chkSt] at h
    split at h
    · simp only [Bool.and_eq_true, decide_eq_true_eq, Bool.not_eq_true'] at h
      obtain ⟨⟨⟨⟨⟨⟨⟨⟨⟨⟨⟨⟨⟨h1, h2⟩, h3⟩, h4⟩, h5⟩, h6⟩, h7⟩, h8⟩, h9⟩, h10⟩, h11⟩, h12⟩, h13⟩, h14⟩ := h
      have lk : ∀ {y p}, isLoc c.sc (.Name y p) = true → X.env.kindOf y = some .local := fun {y p} z => by
        simp only [isLoc] at z
        split at z
        · rw [← G.sc] at *; assumption
        · cases z
      exact s_par G hb h1 h2 h3 (lk h4) (lk h5) h8 h9 h10 h11 h12 (E_ok e1 G.toGd G.tk _ h13) (E_ok e2 G.toGd G.tk _ h14)
    · cases h
  | .par3 i j l e1 e2 e3, X, c, Wx, G, hb, x, h => by
    simp only [chkSt] at h
    split at h
    · simp only [Bool.and_eq_true, decide_eq_true_eq, Bool.not_eq_true'] at h
      obtain ⟨⟨⟨⟨⟨⟨⟨⟨⟨⟨⟨⟨⟨⟨⟨⟨⟨⟨⟨⟨⟨h1, h2⟩, h3⟩, h4⟩, h5⟩, h6⟩, h7⟩, h8⟩, h9⟩, h10⟩, h11⟩, h12⟩, h13⟩, h14⟩, h15⟩, h16⟩, h17⟩, h18⟩, h19⟩, h20⟩, h21⟩, h22⟩ := h
      have lk : ∀ {y p}, isLoc c.sc (.Name y p) = true → X.env.kindOf y = some .local := fun {y p} z => by
        simp only [isLoc] at z
        split at z
        · rw [← G.sc] at *; assumption
        · cases z
      exact s_par3 G hb h1 h2 h3 h4 h5 h6 (lk h7) (lk h8) (lk h9) h13 h14 h15 h16 h17 h18 h19 (E_ok e1 G.toGd G.tk _ h20) (E_ok e2 G.toGd G.tk _ h21) (E_ok e3 G.toGd G.tk _ h22)
    · cases h
  | .ifs t a b, X, c, Wx, G, hb, x, h => by
    simp only [chkSt] at h
    split at h
    · simp only [Bool.and_eq_true] at h
      exact s_if (T_ok t G.toGd G.tk _ h.1.1) (Ss_ok a G hb _ h.1.2) (Ss_ok b G hb _ h.2)
    · cases h
  | .fr tg it b, X, c, Wx, G, hb, x, h => by
    simp only [chkSt] at h
    split at h
    · simp only [Bool.and_eq_true] at h
      have hi := I_ok it G.toGd G.tk _ _ h.1.1.1 h.1.1.2
      exact s_fr G hi.2 hi.1 (tg_ok G.toGd tg _ h.1.2) (Ss_ok b G hb _ h.2)
    · cases h
  | .wh t b, X, c, Wx, G, hb, x, h => by
    simp only [chkSt] at h
    split at h
    · simp only [Bool.and_eq_true] at h
      exact s_wh G (T_ok t G.toGd G.tk _ h.1) (Ss_ok b G hb _ h.2)
    · cases h
  | .rt e, X, c, Wx, G, hb, x, h => by
    simp only [chkSt] at h
    split at h
    · exact s_rt (E_ok e G.toGd G.tk _ h)
    · cases h
  | .rtN, X, c, Wx, G, hb, x, h => by
    simp only [chkSt] at h
    split at h
    · exact ps_imp ps_retN fun D σ H ⟨L, S, env, hR, hE, h⟩ => h L H .non .refl hR .non
    · cases h
  | .ex e, X, c, Wx, G, hb, x, h => by
    simp only [chkSt] at h
    split at h
    · simp only [Bool.and_eq_true, Bool.not_eq_true'] at h
      exact s_ex h.1 (E_ok e G.toGd G.tk _ h.2)
    · cases h
  | .brk, X, c, Wx, G, hb, x, h => by
    simp only [chkSt] at h
    split at h
    · exact ps_imp ps_break fun D σ H ⟨L, S, env, hR, hE, h⟩ => h L H σ .refl hR hE
    · cases h
  | .cnt, X, c, Wx, G, hb, x, h => by
    simp only [chkSt] at h
    split at h
    · exact ps_imp ps_continue fun D σ H ⟨L, S, env, hR, hE, h⟩ => h L H σ .refl hR hE
    · cases h
  | .pas, X, c, Wx, G, hb, x, h => by
    simp only [chkSt] at h
    split at h
    · exact ps_imp ps_pass fun D σ H ⟨L, S, env, hR, hE, h⟩ => h L H σ .refl hR hE
    · cases h
  | .bad, X, c, Wx, G, hb, x, h => ps_imp ps_never fun D σ H ⟨L, S, env, hR, hE, h⟩ => h
  | .rs m es, X, c, Wx, G, hb, x, h => by
    simp only [chkSt] at h
    split at h
    · rename_i y p1 a xs p2 p3
      simp only [Bool.and_eq_true, decide_eq_true_eq, Bool.not_eq_true'] at h
      obtain ⟨⟨⟨⟨⟨⟨h1, h2⟩, h3⟩, h4⟩, h5⟩, h7⟩, h6⟩ := h
      exact s_rs G h1 h2 h3 h4 h5 h7 (N_ok es G.toGd G.tk _ h6)
    · cases h
  | .ty b hs, X, c, Wx, G, hb, x, h => by
    simp only [chkSt] at h
    split at h
    · simp only [Bool.and_eq_true] at h
      exact s_ty G (fun W pn xe tk po => Ss_ok b (G.tr pn xe tk po) hb _ h.1) h.2
    · cases h
  | .gb i hh es ks, X, c, Wx, G, hb, x, h => by
    simp only [chkSt] at h
    split at h
    · rename_i y py f p xs kws pos pb pf
      simp only [Bool.and_eq_true, decide_eq_true_eq] at h
      obtain ⟨⟨⟨⟨⟨h0, h1⟩, h2⟩, h3⟩, h4⟩, h5⟩ := h
      split at h0
      · rename_i sh hsh
        simp only [Bool.and_eq_true, decide_eq_true_eq] at h0
        obtain ⟨⟨⟨⟨g1, g2⟩, g3⟩, g4⟩, g5⟩ := h0
        refine s_gb G h3 h4 (by rw [← G.shs]; exact hsh) g1 g2 g3 g4 (fun e => ?_) (fun e he => ?_) (tg_ok G.toGd (.na i) _ (by simp only [chkT, Bool.and_eq_true, decide_eq_true_eq]; exact ⟨⟨h3, h4⟩, h5⟩)) (N_ok es G.toGd G.tk _ h1) (K_ok ks G.toGd G.tk _ h2)
        · subst e
          cases es with
          | nil => rfl
          | cons a b => simp [chkN] at h1
          | star a b => simp [chkN] at h1
        · exact chkN_star h1 e he
      · cases h0
    · cases h
theorem Ss_ok : ∀ (ss : Ss) {X : Cx} {c : Ct} {Wx : WX} (G : Gs X c Z P n Wx) (hb : X.env.blockKind = .function) (xs : List Stmt), chkSs c ss xs = true → PSs X xs (lSs Z (cn P n) Wx ss)
  | .nil, X, c, Wx, G, hb, xs, h => by
    simp only [chkSs] at h
    split at h
    · exact pss_imp pss_nil fun D σ H ⟨L, S, env, hR, hE, h⟩ => h L H σ .refl hR hE
    · cases h
  | .cons s ss, X, c, Wx, G, hb, xs, h => by
    simp only [chkSs] at h
    split at h
    · simp only [Bool.and_eq_true] at h
      refine pss_imp (pss_cons (St_ok s G hb _ h.1) (Ss_ok ss G hb _ h.2)) fun D σ H ⟨L, S, env, hR, hE, h⟩ => ?_
      refine ⟨L, S, env, hR, hE, ?_⟩
      simp only [exs] at h
      revert h
      cases exS (cn P n) s env S with
      | ok f S1 => cases f with
        | nx env1 => exact fun h L' H' σ' x' rl hE' => ⟨L', S1, env1, rl, hE', ResS.ext h x'⟩
        | rt w => exact fun h => h
        | bk e => exact fun h => h
        | ct e => exact fun h => h
      | ex x e S1 => exact fun h => h
      | st => exact fun h => h
    · cases h
end
end
end SF
set_option Elab.async false
set_option linter.all false
set_option maxRecDepth 100000
set_option maxHeartbeats 4000000
namespace SF
open PySem L2
/-! # 11. A def keeps the promise -/
theorem REn.start {K : PySem.W.Frag} {L : List Addr} {H : Hp} : ∀ {ws : List W} {vs : List V} (k : Nat), RWs K L H ws vs → REn K L H (ws.map some ++ List.replicate k none) (vs.map some ++ List.replicate k none)
  | _, _, 0, .nil => .nil
  | _, _, k + 1, .nil => .non (REn.start k .nil)
  | _, _, k, .cons h r => .cons h (REn.start k r)
theorem RWs.len2 {K : PySem.W.Frag} {L : List Addr} {H : Hp} : ∀ {ws : List W} {vs : List V}, RWs K L H ws vs → ws.length = vs.length
  | _, _, .nil => rfl
  | _, _, .cons _ r => by rw [List.length_cons, List.length_cons, r.len2]
section
variable {Z : Zx} {P : Pg} {n : Nat}
def GlF (Z : Zx) (P : Pg) (c : Ct) : Prop := ∀ (g : Nat) x w, c.gls[g]? = some x → P.gls[g]? = some w → ∃ u v, Z.mg x = some u ∧ RelV v u ∧ ∀ L H, RW Z.K L H w v
/-- what the body's end gives back -/
def fnR (r : RS) : R W := match r with
  | .ok (.rt w) S1 => .ok w S1
  | .ok (.nx _) S1 => .ok .non S1
  | .ex x _ S1 => .ex x S1
  | _ => .st
theorem def_okN {M : Nat} {prog : Program} {w : World} {base : Heap} {x qual : Str} {st : Stmt} {f : Addr} {fd : FuncData} {N ps : List Str} {i : Nat} {fn : Fn} {c : Ct} {dvs : List V} {kws : List (Str × V)}
    (F : FunD Z.K x qual (defArgs st) (defBody st) (defScope st) dvs kws f fd) (S : FnScope N ps (defScope st)) (hN : c.N = N) (hsc : c.sc = defScope st) (hc : chkSs c fn.body (defBody st) = true)
    (hf : P.fns[i]? = some fn) (hrun : ∀ ws S1, ws.length = fn.np → runF P M i ws S1 = fnR (exs (cn P n) fn.body (ws.map some ++ List.replicate (fn.ns - fn.np) none) S1)) (hnp : fn.np = ps.length) (hns : fn.ns = N.length) (hsh : c.shs = P.shs) (calls : CallF prog w base Z P n c) (gens : GenF prog w base Z P n c) (news : NewF prog w base Z P n c) (mets : MetF prog w base Z P n c) (duns : DunF prog w base Z P n c) (gls : GlF Z P c) (blt : ∀ x ∈ bltNames, Z.mg x = none) (exc : ExcF prog w base Z P c.cls) :
    FnOk prog w Z.K Z.mg base (L2.CX prog w) (n + 1) f fd ps (spF Z P M i) := by
  subst hN
  refine F.ok S (fun vs H Q E h => ?_) (fun cdv A outer s H vs Q E hr h => ⟨lSs Z (cn P n) (fun cls d _ H => E cls d H) fn.body, ?_, ?_⟩)
  · obtain ⟨L, S1, ws, fn1, _, _, h1, h2, _⟩ := h
    rw [hf] at h1
    cases h1
    rw [h2, hnp]
  · refine Ss_ok fn.body (c := c) (X := cxOf _ _ _ _ _ _ _ _ _ _ _ _ _ _ _ _) ⟨⟨rfl, S.nd, ?_, ?_, ?_, ?_, rfl, hr, rfl, rfl, hsh, calls, gens, news, mets, duns, gls, blt, exc⟩, hsc.symm, passes_of rfl, takes_of rfl rfl rfl rfl, rfl, rfl⟩ ?_ _ hc
    · intro y hy
      rw [hsc] at hy
      exact vis_of hy
    · intro y hy
      rw [hsc] at hy
      exact ⟨loc_of hy, .inl rfl⟩
    · intro y hy
      rw [hsc] at hy
      exact glb_of hy
    · intro y hy
      rw [hsc] at hy
      exact hy
    · show (if (defScope st).kind.isAnnotationScope then ScopeKind.function else (defScope st).kind) = .function
      rw [S.kind]
      rfl
  · obtain ⟨L, S1, ws, fn1, hR, hW, h1, h2, h⟩ := h
    rw [hf] at h1
    cases h1
    have hl := hW.len2
    refine ⟨L, S1, ws.map some ++ List.replicate (fn.ns - fn.np) none, hR, ?_, ?_⟩
    · show REn Z.K L H _ (vs.map some ++ List.replicate (c.N.length - vs.length) none)
      rw [hns, ← h2]
      exact REn.start _ hW
    · have hl2 : ws.length = fn.np := hl.trans h2
      rw [hrun ws S1 hl2] at h
      revert h
      generalize exs (cn P n) fn.body _ S1 = r
      intro h
      match r, h with
      | .ok (.nx env) S2, h => exact fun L' H' σ e rl _ => h L' H' .non e rl .non
      | .ok (.rt w) S2, h => exact fun L' H' v e rl t => h L' H' v e rl t
      | .ok (.bk env) S2, h => exact h.elim
      | .ok (.ct env) S2, h => exact h.elim
      | .ex x env S2, h => exact fun L' H' σ c d e rl _ q => h L' H' c d e rl q
      | .st, h => exact h.elim
theorem def_ok {prog : Program} {w : World} {base : Heap} {x qual : Str} {st : Stmt} {f : Addr} {fd : FuncData} {N ps : List Str} {i : Nat} {fn : Fn} {c : Ct} {dvs : List V} {kws : List (Str × V)}
    (F : FunD Z.K x qual (defArgs st) (defBody st) (defScope st) dvs kws f fd) (S : FnScope N ps (defScope st)) (hN : c.N = N) (hsc : c.sc = defScope st) (hc : chkSs c fn.body (defBody st) = true)
    (hf : P.fns[i]? = some fn) (hkd : fn.kd = 0) (hnp : fn.np = ps.length) (hns : fn.ns = N.length) (hsh : c.shs = P.shs) (calls : CallF prog w base Z P n c) (gens : GenF prog w base Z P n c) (news : NewF prog w base Z P n c) (mets : MetF prog w base Z P n c) (duns : DunF prog w base Z P n c) (gls : GlF Z P c) (blt : ∀ x ∈ bltNames, Z.mg x = none) (exc : ExcF prog w base Z P c.cls) :
    FnOk prog w Z.K Z.mg base (L2.CX prog w) (n + 1) f fd ps (spF Z P (n + 1) i) :=
  def_okN F S hN hsc hc hf (fun ws S1 hl => by
    simp only [runF, hf, hl, if_true, hkd]
    unfold fnR
    generalize exs (cn P n) fn.body _ S1 = r
    match r with
    | .ok (.nx env) S2 => rfl
    | .ok (.rt w) S2 => rfl
    | .ok (.bk env) S2 => rfl
    | .ok (.ct env) S2 => rfl
    | .ex x env S2 => rfl
    | .st => rfl) hnp hns hsh calls gens news mets duns gls blt exc
theorem def_ok1 {prog : Program} {w : World} {base : Heap} {x qual : Str} {st : Stmt} {f : Addr} {fd : FuncData} {N ps : List Str} {i : Nat} {fn : Fn} {c : Ct} {dvs : List V} {kws : List (Str × V)}
    (F : FunD Z.K x qual (defArgs st) (defBody st) (defScope st) dvs kws f fd) (S : FnScope N ps (defScope st)) (hN : c.N = N) (hsc : c.sc = defScope st) (hc : chkSs c fn.body (defBody st) = true)
    (hf : P.fns[i]? = some fn) (hkd : fn.kd = 1) (hnp : fn.np = ps.length) (hns : fn.ns = N.length) (hsh : c.shs = P.shs) (calls : CallF prog w base Z P n c) (gens : GenF prog w base Z P n c) (news : NewF prog w base Z P n c) (mets : MetF prog w base Z P n c) (duns : DunF prog w base Z P n c) (gls : GlF Z P c) (blt : ∀ x ∈ bltNames, Z.mg x = none) (exc : ExcF prog w base Z P c.cls) :
    FnOk prog w Z.K Z.mg base (L2.CX prog w) (n + 1) f fd ps (spF Z P (n + 3) i) :=
  def_okN F S hN hsc hc hf (fun ws S1 hl => by
    simp only [runF, hf, hl, if_true, hkd]
    unfold fnR
    generalize exs (cn P n) fn.body _ S1 = r
    match r with
    | .ok (.nx env) S2 => rfl
    | .ok (.rt w) S2 => rfl
    | .ok (.bk env) S2 => rfl
    | .ok (.ct env) S2 => rfl
    | .ex x env S2 => rfl
    | .st => rfl) hnp hns hsh calls gens news mets duns gls blt exc
end
end SF
set_option Elab.async false
set_option linter.all false
set_option maxRecDepth 100000
set_option maxHeartbeats 4000000
namespace SF
open PySem L2
section
variable {Z : Zx} {P : Pg} {n : Nat}
def lGb (Z : Zx) (c : Cn) (Wx : WX) (ss : Ss) : TG1 := fun Q σ H => ∃ L S env, Rl Z.K L H S ∧ REn Z.K L H env σ ∧ ResGs Z L H (exs c ss env S) Q Wx
theorem ResGs.ext {L L' : List Addr} {H H' : Hp} {r : RS} {Q : Option V → Hp → Prop} {Wx : WX} (h : ResGs Z L H r Q Wx) (e : Ex Z.K L H L' H') : ResGs Z L' H' r Q Wx := by
  match r, h with
  | .ok (.nx env) S, h => exact fun L2 H2 e2 => h L2 H2 (e.trans e2)
  | .ok (.rt w) S, h =>
    revert h
    unfold ResGs
    dsimp only
    cases gbW w with
    | none => exact fun h => h
    | some o => cases o with
      | none => exact fun h L2 H2 x => h L2 H2 (e.trans x)
      | some v => exact fun h L2 H2 b x => h L2 H2 b (e.trans x)
  | .ex x env S, h => exact fun L2 H2 σ c d e2 => h L2 H2 σ c d (e.trans e2)
  | .ok (.bk _) _, h => exact h.elim
  | .ok (.ct _) _, h => exact h.elim
  | .st, h => exact h.elim
theorem ResGs.go {α β : Type} {T : PySem.W.Frag → List Addr → Hp → α → β → Prop} {L : List Addr} {H : Hp} {r : R α} {env : En} {σ : L2.St} {f : α → Sg → RS} {Q : Option V → Hp → Prop} {Wx : WX} (hE : REn Z.K L H env σ) (h : ResGs Z L H (r.go env f) Q Wx) :
    ResG Z T L H r (fun b H' => ∃ L' a S', Ex Z.K L H L' H' ∧ Rl Z.K L' H' S' ∧ T Z.K L' H' a b ∧ r = .ok a S' ∧ ResGs Z L' H' (f a S') Q Wx) (ex Wx σ) := by
  cases r with
  | ok a S' =>
    intro L' H' b e rl t
    have h' : ResGs Z L H (f a S') Q Wx := h
    exact ⟨L', a, S', e, rl, t, rfl, h'.ext e⟩
  | ex x S' => exact fun L' H' c d e rl q => h L' H' σ c d e rl (hE.mono e) q
  | st => exact h.elim
/-- the loop that hands out -/
theorem Gb_for {X : Cx} {c : Ct} {Wx : WX} (G : Gs X c Z P n Wx) (hco : X.env.scope.isCoroutine = false) (hia : interactive X.env = false) {tg : Tg} {it : It} {e : E} {t y z : Expr} {yp p1 p2 : Pos}
    (h1 : chkI c it y = true) (h2 : (!itPair it || isTup t) = true) (h3 : chkT c tg t = true) (h4 : chk c e z = true) :
    G1 X [.For t y [.Expr (.Yield (some z) yp) p1] [] p2] (lGb Z (cn P n) Wx (.cons (.fr tg it (.cons (.rt (.tup (.cons e .nil))) .nil)) .nil)) := by
  have hi := I_ok it G.toGd G.tk _ _ h1 h2
  have hset : ∀ v, foldedSetIterable y X.env v = pure v := by
    intro v
    have hn := hi.2
    cases y <;> first | rfl | (simp [noSet] at hn)
  refine g1_imp (g1_for G.po G.calm hi.1 (tg_ok G.toGd tg _ h3) (E_ok e G.toGd G.tk _ h4) hco hset hia) fun Q σ H ⟨L, S, env, hR, hE, h⟩ => ?_
  simp only [exs, exS] at h
  have h' : ResGs Z L H ((evI (cn P n) it env S).go env fun src S => (forGo src (fun w σ S => (asgT tg w σ S).np.go σ fun σ' S => exs (cn P n) (.cons (.rt (.tup (.cons e .nil))) .nil) σ' S) (src.len S) 0 env S).then fun σ S => .ok (.nx σ) S) Q Wx := by
    revert h
    cases evI (cn P n) it env S with
    | ok a S1 => exact fun h => h
    | ex x S1 => exact fun h => h
    | st => exact fun h => h
  refine ⟨L, S, env, hR, hE, (ResGs.go (T := SR) hE h').imp fun J H1 ⟨L1, src, S1, e1, r1, sr, q1, h1⟩ => ?_⟩
  have s2 := sr L1 H1 S1 0 .refl r1
  have hE1 := hE.mono e1
  generalize hk : src.len S1 = k at h1
  cases k with
  | zero =>
    simp only [forGo] at h1
    split at h1
    · rename_i e0
      rw [e0] at s2
      exact .inl ⟨s2, h1 L1 H1 .refl r1⟩
    · exact h1.elim
  | succ k =>
    simp only [forGo] at h1
    split at h1
    · rename_i w e0
      rw [e0] at s2
      refine .inr ⟨s2.1, fun v H3 yl => ?_⟩
      obtain ⟨x3, rl3, rv⟩ := s2.2 v H3 yl
      cases ha : asgT tg w env S1 with
      | st => rw [ha] at h1; exact h1.elim
      | ex x S3 => rw [ha] at h1; exact h1.elim
      | ok env' S3 =>
        rw [ha] at h1
        simp only [R.np_ok, R.go_ok, exs, exS] at h1
        refine ⟨L1, S1, env, w, rl3, hE1.mono x3, rv, env', S3, ha, fun L4 H4 σ4 x4 rl4 hE4 _ => ⟨L4, S3, env', rl4, hE4, ?_⟩⟩
        have x14 := x3.trans x4
        simp only [ev, evs] at h1
        cases hev : ev (cn P n) e env' S3 with
        | st => rw [hev] at h1; exact h1.elim
        | ex x S5 =>
          rw [hev] at h1
          exact fun L5 H5 c d x5 rl5 q5 => h1 L5 H5 σ4 c d (x14.trans x5) rl5 (hE4.mono x5) q5
        | ok v5 S5 =>
          rw [hev] at h1
          simp only [R.bind_ok, newT, List.length_cons, List.length_nil] at h1
          rw [if_pos (by decide)] at h1
          intro L5 H5 b x5 rl5 t5
          exact h1 L5 H5 b (x14.trans x5) rl5 t5
    · exact h1.elim
theorem Gb_ok : ∀ (ss : Ss) {X : Cx} {c : Ct} {Wx : WX} (G : Gs X c Z P n Wx) (hb : X.env.blockKind = .function) (hco : X.env.scope.isCoroutine = false) (hia : interactive X.env = false) (xs : List Stmt), chkGb c ss xs = true → G1 X xs (lGb Z (cn P n) Wx ss)
  | .nil, X, c, Wx, G, hb, hco, hia, xs, h => by simp [chkGb] at h
  | .cons s .nil, X, c, Wx, G, hb, hco, hia, xs, h => by
    simp only [chkGb] at h
    split at h
    · split at h
      · simp only [Bool.and_eq_true] at h
        exact Gb_for G hco hia h.1.1.1 h.1.1.2 h.1.2 h.2
      · cases h
    · cases h
  | .cons s (.cons s2 ss), X, c, Wx, G, hb, hco, hia, xs, h => by
    simp only [chkGb] at h
    split at h
    · rename_i e
      split at h
      · simp only [Bool.and_eq_true] at h
        refine g1_imp (g1_cons (St_ok (.ex e) G hb _ h.1) (Gb_ok (.cons s2 ss) G hb hco hia _ h.2)) fun Q σ H ⟨L, S, env, hR, hE, h⟩ => ?_
        refine ⟨L, S, env, hR, hE, ?_⟩
        rw [show exs (cn P n) (.cons (.ex e) (.cons s2 ss)) env S = (exS (cn P n) (.ex e) env S).then fun σ S => exs (cn P n) (.cons s2 ss) σ S from by simp only [exs]] at h
        simp only [exS] at h ⊢
        revert h
        cases ev (cn P n) e env S with
        | ok w S1 => exact fun h L' H' σ' x' rl hE' => ⟨L', S1, env, rl, hE', ResGs.ext h x'⟩
        | ex x S1 => exact fun h => h
        | st => exact fun h => h
      · cases h
    · cases h
/-- a generator def keeps its promise -/
theorem gdef_ok {prog : Program} {w : World} {base : Heap} {x qual : Str} {st : Stmt} {f : Addr} {fd : FuncData} {N ps : List Str} {i : Nat} {fn : Fn} {c : Ct} {dvs : List V} {kws : List (Str × V)}
    (F : FunD Z.K x qual (defArgs st) (defBody st) (defScope st) dvs kws f fd) (S : GScope N ps (defScope st)) (hN : c.N = N) (hsc : c.sc = defScope st) (hc : chkGb c fn.body (defBody st) = true)
    (hf : P.fns[i]? = some fn) (hkd : fn.kd = 0) (hnp : fn.np = ps.length) (hns : fn.ns = N.length) (hsh : c.shs = P.shs) (calls : CallF prog w base Z P n c) (gens : GenF prog w base Z P n c) (news : NewF prog w base Z P n c) (mets : MetF prog w base Z P n c) (duns : DunF prog w base Z P n c) (gls : GlF Z P c) (blt : ∀ x ∈ bltNames, Z.mg x = none) (exc : ExcF prog w base Z P c.cls) :
    GFn1 prog w Z.K Z.mg base (n + 1) f fd ps (spG Z P (n + 1) i) := by
  subst hN
  obtain ⟨oc, od, dV, kV, doc, pm, an, cdv, ct, osl, rfl, lk, hcd, hD, hK⟩ := F.ex
  refine gfn1_of lk hcd S (fun vs H Q E h => ?_) fun A outer s H vs Q E pn hr h => ⟨lGb Z (cn P n) (fun cls d _ H => E cls d H) fn.body, ?_, ?_⟩
  · obtain ⟨L, S1, ws, fn1, _, _, h1, h2, _⟩ := h
    rw [hf] at h1
    cases h1
    rw [h2, hnp]
  · refine Gb_ok fn.body (c := c) (X := gcxOf _ _ _ _ _ _ _ _ _ _ _ _ _ _ _ _) ⟨⟨rfl, S.nd, ?_, ?_, ?_, ?_, rfl, hr, rfl, rfl, hsh, calls, gens, news, mets, duns, gls, blt, exc⟩, hsc.symm, owns_gcx, takes_gcx, rfl, rfl⟩ ?hbk S.co ?hin _ hc
    · intro y hy
      rw [hsc] at hy
      exact vis_of hy
    · intro y hy
      rw [hsc] at hy
      exact ⟨loc_of hy, .inl rfl⟩
    · intro y hy
      rw [hsc] at hy
      exact glb_of hy
    · intro y hy
      rw [hsc] at hy
      exact hy
    · show (if (defScope st).kind.isAnnotationScope then ScopeKind.function else (defScope st).kind) = .function
      rw [S.kind]
      rfl
    · unfold interactive
      show ((defScope st).kind == .module && _) = false
      rw [S.kind]
      rfl
  · obtain ⟨L, S1, ws, fn1, hR, hW, h1, h2, h⟩ := h
    rw [hf] at h1
    cases h1
    have hl := hW.len2
    refine ⟨L, S1, ws.map some ++ List.replicate (fn.ns - fn.np) none, hR, ?_, ?_⟩
    · show REn Z.K L H _ (vs.map some ++ List.replicate (c.N.length - vs.length) none)
      rw [hns, ← h2]
      exact REn.start _ hW
    · have hl2 : ws.length = fn.np := hl.trans h2
      simp only [runF, hf, hl2, if_true, hkd] at h
      revert h
      generalize exs (cn P n) fn.body _ S1 = r
      intro h
      match r, h with
      | .ok (.nx env) S2, h => exact fun L' H' e rl => h L' H' e rl
      | .ok (.rt w) S2, h => exact h
      | .ok (.bk env) S2, h => exact h.elim
      | .ok (.ct env) S2, h => exact h.elim
      | .ex x env S2, h => exact fun L' H' σ c d e rl _ q => h L' H' c d e rl q
      | .st, h => exact h.elim
end
end SF
set_option Elab.async false
set_option linter.all false
set_option maxRecDepth 100000
set_option maxHeartbeats 4000000
namespace SF
open PySem L2
/-! # __init__ of an own class: expressions, then self.f = v for each field -/
section
variable {K : PySem.W.Frag} {L L' : List Addr} {H H' : Hp} {S : Sg}
/-! what stands elsewhere -/
mutual
theorem RW.mono0 (at_ : ∀ {i : Nat} {b : Addr}, L[i]? = some b → L'[i]? = some b) (tup : ∀ b xs, SqT K H b xs → SqT K H' b xs) : ∀ {w : W} {v : V}, RW K L H w v → RW K L' H' w v
  | _, _, .non => .non
  | _, _, .bl b => .bl b
  | _, _, .int i => .int i
  | _, _, .str s => .str s
  | _, _, .tup h r => .tup (tup _ _ h) (RWs.mono0 at_ tup r)
  | _, _, .ref h => .ref (at_ h)
theorem RWs.mono0 (at_ : ∀ {i : Nat} {b : Addr}, L[i]? = some b → L'[i]? = some b) (tup : ∀ b xs, SqT K H b xs → SqT K H' b xs) : ∀ {ws : List W} {vs : List V}, RWs K L H ws vs → RWs K L' H' ws vs
  | _, _, .nil => .nil
  | _, _, .cons h r => .cons (RW.mono0 at_ tup h) (RWs.mono0 at_ tup r)
end
theorem RKs.mono0 {κ κ' : Type} {f : κ → κ'} (at_ : ∀ {i : Nat} {b : Addr}, L[i]? = some b → L'[i]? = some b) (tup : ∀ b xs, SqT K H b xs → SqT K H' b xs) {ks : List (κ × W)} {qs : List (κ' × V)} (r : RKs K f L H ks qs) : RKs K f L' H' ks qs := by
  induction r with
  | nil => exact .nil
  | cons h _ ih => exact .cons (h.mono0 at_ tup) ih
theorem RF.mono0 (at_ : ∀ {i : Nat} {b : Addr}, L[i]? = some b → L'[i]? = some b) (tup : ∀ b xs, SqT K H b xs → SqT K H' b xs) : ∀ {o : Option W} {p : Option V}, RF K L H o p → RF K L' H' o p
  | some w, some v, h => RW.mono0 at_ tup h
  | none, none, _ => trivial
  | some _, none, h => h.elim
  | none, some _, h => h.elim
theorem tup_but {a C dx : Addr} {l : List (Str × V)} (ha : H a = some (.ins C dx l)) (hb : ∀ b, b ≠ a → H' b = H b) : ∀ b xs, SqT K H b xs → SqT K H' b xs := fun b xs h => by
  rcases h with h | h
  · left
    rcases h with h | ⟨u, h⟩
    · exact .inl (by rw [hb b (fun e => by subst e; rw [ha] at h; cases h)]; exact h)
    · exact .inr ⟨u, by rw [hb b (fun e => by subst e; rw [ha] at h; cases h)]; exact h⟩
  · exact .inr h
/-- the new instance, its fields set, comes into the store -/
theorem Rl.pushI (r : Rl K L H S) {a C dx : Addr} {l : List (Str × V)} {nm : Str} {fs : List (Str × W)} (ha : H a = some (.ins C dx [])) (ha' : H' a = some (.ins C dx l)) (hb : ∀ b, b ≠ a → H' b = H b) (hne : fs ≠ []) (hC : PySem.W.nsIn K mainGlobals nm = some (some (.ref C)))
    (hc : Cls K C) (hno : ∀ f w, fs.lookup f = some w → NoAttr K C f) (hf : ∀ f, RF K L H (fs.lookup f) (l.lookup f)) : Rl K (L ++ [a]) H' (S ++ [.ins nm fs]) := by
  have at_ : ∀ {i : Nat} {b : Addr}, L[i]? = some b → (L ++ [a])[i]? = some b := fun {i b} h => by
    rw [List.getElem?_append_left (List.getElem?_eq_some_iff.mp h).1]; exact h
  have tup := tup_but (K := K) ha hb
  refine ⟨by simp [r.len], fun i v b hv hl => ?_, fun i j b v w hi hj li lj mv mw => ?_⟩
  · by_cases hi : i < S.length
    · rw [List.getElem?_append_left hi] at hv
      rw [List.getElem?_append_left (by rw [r.len]; exact hi)] at hl
      have q := r.ob _ _ _ hv hl
      cases v with
      | lst ws =>
        obtain ⟨xs, h1, h2⟩ := q
        exact ⟨xs, by rw [hb b (fun e => by subst e; rw [ha] at h1; cases h1)]; exact h1, h2.mono0 at_ tup⟩
      | ro ws =>
        obtain ⟨xs, h1, h2⟩ := q
        refine ⟨xs, ?_, h2.mono0 at_ tup⟩
        rcases h1 with ⟨u, h1⟩ | h1
        · exact .inl ⟨u, by rw [hb b (fun e => by subst e; rw [ha] at h1; cases h1)]; exact h1⟩
        · exact .inr h1
      | dic ks =>
        obtain ⟨xs, h1, h2⟩ := q
        exact ⟨xs, by rw [hb b (fun e => by subst e; rw [ha] at h1; cases h1)]; exact h1, h2.mono0 at_ tup⟩
      | dit ks =>
        obtain ⟨xs, h1, h2⟩ := q
        exact ⟨xs, by rw [hb b (fun e => by subst e; rw [ha] at h1; cases h1)]; exact h1, h2.mono0 at_ tup⟩
      | ins c ks =>
        obtain ⟨hn, C', dx', l', h1, h2, h3, h4⟩ := q
        refine ⟨hn, C', dx', l', h1, ?_, fun f => (h3 f).mono0 at_ tup, h4⟩
        rw [hb b (fun e => ?_)]
        · exact h2
        · subst e
          rw [ha] at h2
          cases h2
          cases ks with
          | nil => exact hn rfl
          | cons p ks =>
            have := h3 p.1
            rw [List.lookup_cons, beq_self_eq_true] at this
            exact this
    · have e : i = S.length := by
        have := (List.getElem?_eq_some_iff.mp hv).1
        simp at this; omega
      subst e
      rw [List.getElem?_append_right (Nat.le_refl _), Nat.sub_self] at hv
      rw [List.getElem?_append_right (by rw [r.len]; exact Nat.le_refl _), r.len, Nat.sub_self] at hl
      simp at hv hl
      subst hv hl
      exact ⟨hne, C, dx, l, hC, ha', fun f => (hf f).mono0 at_ tup, hc, hno⟩
  · have old : ∀ {k : Nat} {v : WO}, (S ++ [WO.ins nm fs])[k]? = some v → v.mut = true → S[k]? = some v := fun {k v} e m => by
      by_cases hk : k < S.length
      · rw [List.getElem?_append_left hk] at e; exact e
      · have := (List.getElem?_eq_some_iff.mp e).1
        simp at this
        have ek : k = S.length := by omega
        subst ek
        rw [List.getElem?_append_right (Nat.le_refl _), Nat.sub_self] at e
        simp at e
        subst e
        cases m
    have h1 := old hi mv
    have h2 := old hj mw
    have b1 : ∀ {k : Nat} {v : WO}, S[k]? = some v → (L ++ [a])[k]? = some b → L[k]? = some b := fun {k v} e q => by
      rw [List.getElem?_append_left (by rw [r.len]; exact (List.getElem?_eq_some_iff.mp e).1)] at q; exact q
    exact r.inj i j b v w h1 h2 (b1 h1 li) (b1 h2 lj) mv mw
end
/-! the fields, one behind the other -/
def putFs : List Str → List V → List (Str × V) → List (Str × V)
  | f :: fs, v :: vs, l => putFs fs vs (putF f v l)
  | _, _, l => l
theorem putFs_get : ∀ (fs : List Str) (vs : List V) (l : List (Str × V)) (g : Str), fs.Nodup → vs.length = fs.length → (putFs fs vs l).lookup g = (match (fs.zip vs).lookup g with | some v => some v | none => l.lookup g)
  | [], [], l, g, _, _ => rfl
  | [], _ :: _, l, g, _, h => by simp at h
  | _ :: _, [], l, g, _, h => by simp at h
  | f :: fs, v :: vs, l, g, hn, hl => by
    rw [putFs, putFs_get fs vs _ g (List.nodup_cons.mp hn).2 (by simpa using hl), List.zip_cons_cons, List.lookup_cons, lookup_putF]
    by_cases e : g = f
    · subst e
      have : (fs.zip vs).lookup g = none := by
        rw [List.lookup_eq_none_iff]
        intro p hp
        have := (List.of_mem_zip hp).1
        simp only [bne_iff_ne, ne_eq]
        intro q
        exact (List.nodup_cons.mp hn).1 (by rw [q]; exact this)
      rw [this, beq_self_eq_true, if_pos rfl]
    · rw [show (g == f) = false from by simpa using e, if_neg e]
/-- the values of plain names -/
def Reads (σ : L2.St) : Es → List V → Prop
  | .nil, [] => True
  | .cons (.var i) es, v :: vs => σ[i]? = some (some v) ∧ Reads σ es vs
  | _, _ => False
def chkFl (c : Ct) : List Str → Es → List Stmt → Bool
  | [], es, xs => (match es with
    | .nil => true
    | _ => false) && xs.isEmpty
  | f :: fs, es, xs => match es with
    | .cons (.var i) es => match xs with
      | .Assign [.Attribute (.Name s _) g _] (.Name h _) _ :: xs => decide (c.N[0]? = some s) && visB c.sc s && okName s && g == f && decide (c.N[i]? = some h) && visB c.sc h && okName h && chkFl c fs es xs
      | _ => false
    | _ => false
def chkIni (c : Ct) (nm : Str) : Ss → List Stmt → Bool
  | .nil, _ => false
  | .cons s ss, xs => match s with
    | .rt e => match e with
      | .mk m fs es => (match ss with
        | .nil => true
        | _ => false) && m == nm && decide fs.Nodup && decide (0 < fs.length) && decide (fs.length ≤ 900) && chkFl c fs es xs
      | _ => false
    | .ex e => match xs with
      | .Expr v _ :: xs => !isComp v && chk c e v && chkIni c nm ss xs
      | _ => false
    | _ => false
def iniFs : Ss → List Str
  | .nil => []
  | .cons s ss => match s with
    | .rt e => match e with
      | .mk _ fs _ => fs
      | _ => iniFs ss
    | _ => iniFs ss
def tFl (K : PySem.W.Frag) (fs : List Str) (es : Es) : TS := fun D σ H => ∃ (a C dx : Addr) (l : List (Str × V)) (vs : List V), σ[0]? = some (some (.ref a)) ∧ H a = some (.ins C dx l) ∧ Cls K C ∧ (∀ f ∈ fs, NoAttr K C f) ∧ l.length + fs.length ≤ 900 ∧ Reads σ es vs ∧ vs.length = fs.length ∧
  ∀ H', H' a = some (.ins C dx (putFs fs vs l)) → (∀ b, b ≠ a → H' b = H b) → D.nx σ H'
theorem fl_ok {X : Cx} {c : Ct} (hN : X.N = c.N) (hvis : ∀ x, visB c.sc x = true → Vis X.env.scope x) : ∀ (fs : List Str) (es : Es) (xs : List Stmt), chkFl c fs es xs = true → PSs X xs (tFl X.K fs es)
  | [], es, xs, h => by
    simp only [chkFl, Bool.and_eq_true, List.isEmpty_iff] at h
    obtain ⟨h, rfl⟩ := h
    split at h
    · refine pss_imp pss_nil fun D σ H ⟨a, C, dx, l, vs, s0, ha, _, _, _, _, hl, q⟩ => ?_
      have : vs = [] := List.eq_nil_of_length_eq_zero hl
      subst this
      exact q H ha fun _ _ => rfl
    · cases h
  | f :: fs, es, xs, h => by
    unfold chkFl at h
    split at h
    · rename_i i es
      split at h
      · rename_i s p1 g p2 h' p3 p4 xs0
        simp only [Bool.and_eq_true, decide_eq_true_eq, beq_iff_eq] at h
        obtain ⟨⟨⟨⟨⟨⟨⟨h1, h2⟩, h3⟩, rfl⟩, h5⟩, h6⟩, h7⟩, h8⟩ := h
        obtain ⟨o1, o2, o3⟩ := okName_of h3
        obtain ⟨q1, q2, q3⟩ := okName_of h7
        have pself : PE X (.Name s p1) (tVar 0) := pe_var (by rw [hN]; exact h1) (hvis _ h2) o1 o2
        have pf : PE X (.Name h' p3) (tVar i) := pe_var (by rw [hN]; exact h5) (hvis _ h6) q1 q2
        refine pss_imp (pss_cons (ps_fld (pos' := p2) (f := g) pself pf rfl) (fl_ok hN hvis fs es _ h8)) fun D σ H ⟨a, C, dx, l, vs, s0, ha, hc, hno, hz, hr, hl, q⟩ => ?_
        cases vs with
        | nil => simp at hl
        | cons v vs =>
          obtain ⟨r1, r2⟩ := hr
          refine ⟨v, r1, .ref a, s0, a, C, dx, l, rfl, ha, hc, hno _ List.mem_cons_self, by simp at hz; omega, ?_⟩
          refine ⟨a, C, dx, putF g v l, vs, s0, upd_same, hc, fun f hf => hno f (List.mem_cons_of_mem _ hf), ?_, r2, by simpa using hl, fun H' h1' h2' => q H' h1' fun b hb => by rw [h2' b hb, upd_ne hb]⟩
          have := length_putF g v l
          simp only [List.length_cons] at hz
          omega
      · cases h
    · cases h
section
variable {Z : Zx} {P : Pg} {n : Nat}
theorem evs_reads {c : Ct} {cc : Cn} {K : PySem.W.Frag} {L : List Addr} {H : Hp} {env : En} {σ : L2.St} {S : Sg} (hE : REn K L H env σ) : ∀ (fs : List Str) (es : Es) (xs : List Stmt), chkFl c fs es xs = true →
    evs cc es env S = .st ∨ ∃ ws vs, evs cc es env S = .ok ws S ∧ Reads σ es vs ∧ RWs K L H ws vs ∧ vs.length = fs.length
  | [], es, xs, h => by
    simp only [chkFl, Bool.and_eq_true, List.isEmpty_iff] at h
    obtain ⟨h, rfl⟩ := h
    split at h
    · exact .inr ⟨[], [], by simp only [evs], trivial, .nil, rfl⟩
    · cases h
  | f :: fs, es, xs, h => by
    unfold chkFl at h
    split at h
    · rename_i i es
      split at h
      · simp only [Bool.and_eq_true] at h
        simp only [evs, ev]
        cases hi : env[i]? with
        | none => exact .inl rfl
        | some o =>
          cases o with
          | none => exact .inl rfl
          | some w =>
            obtain ⟨v, hv, rv⟩ := hE.get hi
            rcases evs_reads (cc := cc) (S := S) hE fs es _ h.2 with e | ⟨ws, vs, e, r1, r2, r3⟩
            · left; simp only [R.bind_ok, e, R.bind_st]
            · exact .inr ⟨w :: ws, v :: vs, by simp only [R.bind_ok, e], ⟨hv, r1⟩, .cons rv r2, by simp [r3]⟩
      · cases h
    · cases h
def ResI (Z : Zx) (L0 : List Addr) (H0 : Hp) (r : RS) (a : Addr) (Q : Hp → Prop) (Wx : WX) (σ : L2.St) : Prop := match r with
  | .ok (.rt w) S => ∀ L' H', Ex Z.K L0 H0 L' H' → Rl Z.K L' H' S → RW Z.K L' H' w (.ref a) → Q H'
  | .ex x env S => ∀ L' H' c d, Ex Z.K L0 H0 L' H' → Rl Z.K L' H' S → RX Z L' H' x c d → Wx c d σ H'
  | _ => False
def lIni (Z : Zx) (c : Cn) (Wx : WX) (C : Addr) (ss : Ss) : TS := fun D σ H => ∃ (a dx : Addr) (L0 : List Addr) (H0 : Hp) (L : List Addr) (S : Sg) (env : En), H0 a = none ∧ Ex Z.K L0 H0 L H ∧ Rl Z.K L H S ∧ REn Z.K L H env σ ∧ σ[0]? = some (some (.ref a)) ∧
  H a = some (.ins C dx []) ∧ ResI Z L0 H0 (exs c ss env S) a (fun H' => D.nx σ H') Wx σ
theorem lookup_zip_some {α : Type} : ∀ {fs : List Str} {ws : List α} {f : Str} {w : α}, (fs.zip ws).lookup f = some w → f ∈ fs
  | [], _, f, w, h => by cases h
  | _ :: _, [], f, w, h => by cases h
  | g :: fs, u :: ws, f, w, h => by
    rw [List.zip_cons_cons, List.lookup_cons] at h
    split at h
    · rename_i e; rw [beq_iff_eq] at e; subst e; exact List.mem_cons_self
    · exact List.mem_cons_of_mem _ (lookup_zip_some h)
theorem rf_zip {K : PySem.W.Frag} {L : List Addr} {H : Hp} : ∀ {fs : List Str} {ws : List W} {vs : List V}, RWs K L H ws vs → ∀ f, RF K L H ((fs.zip ws).lookup f) ((fs.zip vs).lookup f)
  | [], _, _, _, f => trivial
  | _ :: _, _, _, .nil, f => trivial
  | g :: fs, _, _, .cons h r, f => by
    rw [List.zip_cons_cons, List.zip_cons_cons, List.lookup_cons, List.lookup_cons]
    cases f == g with
    | true => exact h
    | false => exact rf_zip r f
theorem Ini_ok {C : Addr} {nm : Str} (hcls : Cls Z.K C) (hC : PySem.W.nsIn Z.K mainGlobals nm = some (some (.ref C))) : ∀ (ss : Ss) {X : Cx} {c : Ct} {Wx : WX} (G : Gs X c Z P n Wx) (xs : List Stmt), chkIni c nm ss xs = true → (∀ f ∈ iniFs ss, NoAttr Z.K C f) → PSs X xs (lIni Z (cn P n) Wx C ss)
  | .nil, X, c, Wx, G, xs, h, hno => by simp [chkIni] at h
  | .cons s ss, X, c, Wx, G, xs, h, hno => by
    unfold chkIni at h
    split at h
    · rename_i e0
      split at h
      · rename_i m fs es
        simp only [Bool.and_eq_true, decide_eq_true_eq, beq_iff_eq] at h
        obtain ⟨⟨⟨⟨⟨h1, rfl⟩, h3⟩, h4⟩, h5⟩, h6⟩ := h
        split at h1
        rotate_left
        · cases h1
        have hno' : ∀ f ∈ fs, NoAttr Z.K C f := hno
        refine pss_imp (fl_ok G.N G.vis fs es xs h6) fun D σ H ⟨a, dx, L0, H0, L, S, env, ha0, x0, rl, hE, s0, ha, r⟩ => ?_
        simp only [exs, exS, ev] at r
        rcases evs_reads (cc := cn P n) (S := S) hE fs es _ h6 with e | ⟨ws, vs, e, rd, rw_, hl⟩
        · rw [e] at r; exact r.elim
        · have hlen : ws.length = fs.length := by rw [← hl]; exact rw_.length
          rw [e] at r
          simp only [R.bind_ok] at r
          rw [if_pos ⟨hlen, h4⟩] at r
          simp only [R.go_ok, RS.then_rt] at r
          rw [G.K]
          refine ⟨a, C, dx, [], vs, s0, ha, hcls, hno', by simpa using h5, rd, hl, fun H' k1 k2 => r (L ++ [a]) H' ?_ ?_ (.ref (at_new rl a))⟩
          · refine ⟨?_, fun b xs q => tup_but ha k2 b xs (x0.tup b xs q), fun b C' dx' l q => ?_⟩
            · obtain ⟨M, e⟩ := x0.pre
              exact ⟨M ++ [a], by rw [e, List.append_assoc]⟩
            · rw [k2 b (fun e => by subst e; rw [ha0] at q; cases q)]
              exact x0.ins _ _ _ _ q
          · refine rl.pushI ha k1 k2 (fun e => ?_) hC hcls (fun f w q => hno' f (lookup_zip_some q)) fun f => ?_
            · have := congrArg List.length e
              rw [List.length_zip, hlen, Nat.min_self, List.length_nil] at this
              omega
            · rw [putFs_get fs vs [] f h3 hl]
              have := rf_zip (fs := fs) rw_ f
              revert this
              cases (fs.zip vs).lookup f with
              | none => exact fun z => z
              | some v => exact fun z => z
      · cases h
    · rename_i e0
      split at h
      · rename_i v pos xs0
        simp only [Bool.and_eq_true, Bool.not_eq_true'] at h
        obtain ⟨⟨h1, h2⟩, h3⟩ := h
        refine pss_imp (pss_cons (ps_expr (E_ok e0 G.toGd G.tk _ h2) (swaps_plain h1)) (Ini_ok hcls hC ss G _ h3 hno)) fun D σ H ⟨a, dx, L0, H0, L, S, env, ha0, x0, rl, hE, s0, ha, r⟩ => ?_
        refine ⟨L, S, env, rl, hE, ?_⟩
        simp only [exs, exS] at r
        revert r
        cases ev (cn P n) e0 env S with
        | ok w S1 => exact fun r L1 H1 b e1 rl1 t1 => ⟨a, dx, L0, H0, L1, S1, env, ha0, x0.trans e1, rl1, hE.mono e1, s0, e1.ins _ _ _ _ ha, r⟩
        | ex x S1 => exact fun r L1 H1 c d e1 rl1 rx => r L1 H1 c d (x0.trans e1) rl1 rx
        | st => exact fun r => r.elim
      · cases h
    · cases h
theorem ini_nx {c : Ct} {cc : Cn} {nm : Str} : ∀ (ss : Ss) (xs : List Stmt), chkIni c nm ss xs = true → ∀ env S env' S', exs cc ss env S ≠ .ok (.nx env') S'
  | .nil, xs, h => by simp [chkIni] at h
  | .cons s ss, xs, h => by
    intro env S env' S'
    unfold chkIni at h
    split at h
    · rename_i e0
      simp only [exs, exS]
      cases ev cc e0 env S with
      | ok w S1 => simp only [R.go_ok, RS.then_rt]; exact fun z => by cases z
      | ex x S1 => exact fun z => by cases z
      | st => exact fun z => by cases z
    · rename_i e0
      split at h
      · simp only [Bool.and_eq_true] at h
        simp only [exs, exS]
        cases ev cc e0 env S with
        | ok w S1 => exact ini_nx ss _ h.2 env S1 env' S'
        | ex x S1 => exact fun z => by cases z
        | st => exact fun z => by cases z
      · cases h
    · cases h
/-- an __init__ keeps its promise -/
theorem init_ok {prog : Program} {w : World} {base : Heap} {x qual nm : Str} {st : Stmt} {f C : Addr} {fd : FuncData} {N ps : List Str} {i : Nat} {fn : Fn} {c : Ct} {dvs : List V} {kws : List (Str × V)}
    (F : FunD Z.K x qual (defArgs st) (defBody st) (defScope st) dvs kws f fd) (S : FnScope N ps (defScope st)) (hN : c.N = N) (hsc : c.sc = defScope st) (hc : chkIni c nm fn.body (defBody st) = true) (hcls : Cls Z.K C) (hC : PySem.W.nsIn Z.K mainGlobals nm = some (some (.ref C))) (hno : ∀ f ∈ iniFs fn.body, NoAttr Z.K C f)
    (hf : P.fns[i]? = some fn) (hkd : fn.kd = 2) (hnp : fn.np + 1 = ps.length) (hns : fn.ns = N.length) (hsh : c.shs = P.shs) (calls : CallF prog w base Z P n c) (gens : GenF prog w base Z P n c) (news : NewF prog w base Z P n c) (mets : MetF prog w base Z P n c) (duns : DunF prog w base Z P n c) (gls : GlF Z P c) (blt : ∀ x ∈ bltNames, Z.mg x = none) (exc : ExcF prog w base Z P c.cls) :
    FnOk prog w Z.K Z.mg base (L2.CX prog w) (n + 1) f fd ps (spI Z P (n + 2) i C) := by
  subst hN
  refine F.ok S (fun vs H Q E h => ?_) (fun cdv A outer s H vs Q E hr h => ⟨lIni Z (cn P n) (fun cls d _ H => E cls d H) C fn.body, ?_, ?_⟩)
  · obtain ⟨a, dx, vs', L, H0, S1, ws, fn1, rfl, _, _, _, _, _, _, h1, h2, _⟩ := h
    rw [hf] at h1
    cases h1
    rw [List.length_cons, h2, hnp]
  · refine Ini_ok hcls hC fn.body (c := c) (X := cxOf _ _ _ _ _ _ _ _ _ _ _ _ _ _ _ _) ⟨⟨rfl, S.nd, ?_, ?_, ?_, ?_, rfl, hr, rfl, rfl, hsh, calls, gens, news, mets, duns, gls, blt, exc⟩, hsc.symm, passes_of rfl, takes_of rfl rfl rfl rfl, rfl, rfl⟩ _ hc hno
    · intro y hy
      rw [hsc] at hy
      exact vis_of hy
    · intro y hy
      rw [hsc] at hy
      exact ⟨loc_of hy, .inl rfl⟩
    · intro y hy
      rw [hsc] at hy
      exact glb_of hy
    · intro y hy
      rw [hsc] at hy
      exact hy
  · obtain ⟨a, dx, vs', L, H0, S1, ws, fn1, rfl, ha0, hd0, hne, rfl, hR, hW, h1, h2, h⟩ := h
    rw [hf] at h1
    cases h1
    have ha1 : upd H0 dx (.own a) a = none := by rw [upd_ne (Ne.symm hne)]; exact ha0
    have x1 : Ex Z.K L H0 L (upd H0 dx (.own a)) := ex_new0 hd0
    have x2 : Ex Z.K L (upd H0 dx (.own a)) L (upd (upd H0 dx (.own a)) a (.ins C dx [])) := ex_new0 ha1
    have xx := x1.trans x2
    have hl := hW.len2
    refine ⟨a, dx, L, H0, L, S1, none :: (ws.map some ++ List.replicate (fn.ns - fn.np - 1) none), ha0, xx, rl_tup (rl_tup hR hd0) ha1, ?_, rfl, upd_same, ?_⟩
    · show REn Z.K L _ _ (some (V.ref a) :: (vs'.map some ++ List.replicate (c.N.length - (vs'.length + 1)) none))
      rw [hns, ← h2, Nat.sub_sub]
      exact .non (REn.start _ (hW.mono xx))
    · have hl2 : ws.length = fn.np := hl.trans h2
      simp only [runF, hf, hl2, if_true, hkd] at h
      have hnx := ini_nx (cc := cn P n) fn.body _ hc (none :: (ws.map some ++ List.replicate (fn.ns - fn.np - 1) none)) S1
      revert h hnx
      generalize exs (cn P n) fn.body _ S1 = r
      intro h hnx
      match r, h, hnx with
      | .ok (.nx env) S2, h, hnx => exact absurd rfl (hnx env S2)
      | .ok (.rt w) S2, h, _ => exact fun L' H' e rl t => h L' H' (.ref a) e rl t rfl
      | .ok (.bk env) S2, h, _ => exact h.elim
      | .ok (.ct env) S2, h, _ => exact h.elim
      | .ex x env S2, h, _ => exact fun L' H' c d e rl q => h L' H' c d e rl q
      | .st, h, _ => exact h.elim
end
end SF
set_option Elab.async false
set_option linter.all false
set_option maxRecDepth 100000
set_option maxHeartbeats 4000000
namespace SF
open PySem L2
/-! # 12. A whole program -/
/-- where a parameter's value comes from: a keyword, a default, a keyword-only default -/
inductive Sel where
  | kw (j : Nat) | dv (i : Nat) | kd (i : Nat)
structure Df where
  nm : Str
  st : Stmt
  N : List Str
  fn : Fn
  dv : List W := []
  kw : List (Str × W) := []
  gen : Bool := false
  /-- its class, and its name in full -/
  cn : Str := ""
  qn : Str := nm
def Df.nmF (d : Df) : Str := if d.gen || !(d.cn == "") then "" else d.nm
def Df.nmG (d : Df) : Str := if d.gen then d.nm else ""
def Df.nmN (d : Df) : Str := if d.fn.kd = 2 then d.cn else ""
def Df.nmM (d : Df) : Str × Str := if d.fn.kd = 0 then (d.cn, d.nm) else ("", "")
def Df.nmD (d : Df) : Str × Str := if d.fn.kd = 1 then (d.cn, d.nm) else ("", "")
def Df.off (d : Df) : Nat := if d.fn.kd = 2 then 1 else 0
def Df.ps (d : Df) : List Str := d.N.take (d.fn.np + d.off)
def ctOf (defs : List Df) (shs : List Sh) (gls : List Str) (cls : List Cl) (d : Df) : Ct := ⟨d.N, defScope d.st, defs.map Df.nmF, shs, gls, cls, defs.map Df.nmG, defs.map Df.nmN, defs.map Df.nmM, defs.map Df.nmD⟩
def dfB (defs : List Df) (shs : List Sh) (gls : List Str) (cls : List Cl) (d : Df) : Bool :=
  (match (defScope d.st).kind with | .function => true | _ => false) && !(defScope d.st).isCoroutine && ((defScope d.st).isGenerator == d.gen) && decide d.N.Nodup && decide (d.fn.np + d.off ≤ d.N.length) && decide (d.fn.ns = d.N.length) &&
  d.ps.all (locB (defScope d.st)) && (defScope d.st).names.all (fun y => match y.2 with | .free => false | _ => true) &&
  decide (d.fn.kd ≤ 2) && (!d.gen || (decide (d.fn.kd = 0) && d.cn == "")) && (!(d.cn == "") || decide (d.fn.kd = 0)) &&
  (if d.gen then chkGb (ctOf defs shs gls cls d) d.fn.body (defBody d.st) else if d.fn.kd = 2 then chkIni (ctOf defs shs gls cls d) d.cn d.fn.body (defBody d.st) else chkSs (ctOf defs shs gls cls d) d.fn.body (defBody d.st))
structure DfOk (defs : List Df) (shs : List Sh) (gls : List Str) (cls : List Cl) (d : Df) : Prop where
  sc : d.gen = false → FnScope d.N d.ps (defScope d.st)
  sg : d.gen = true → GScope d.N d.ps (defScope d.st)
  ns : d.fn.ns = d.N.length
  np : d.fn.np + d.off = d.ps.length
  le : d.fn.kd ≤ 2
  g0 : d.gen = true → d.fn.kd = 0
  gc : d.gen = true → d.cn = ""
  c0 : d.cn = "" → d.fn.kd = 0
  ck : d.gen = false → d.fn.kd ≠ 2 → chkSs (ctOf defs shs gls cls d) d.fn.body (defBody d.st) = true
  ci : d.fn.kd = 2 → chkIni (ctOf defs shs gls cls d) d.cn d.fn.body (defBody d.st) = true
  cg : d.gen = true → chkGb (ctOf defs shs gls cls d) d.fn.body (defBody d.st) = true
theorem df_of {defs : List Df} {shs : List Sh} {gls : List Str} {cls : List Cl} {d : Df} (h : dfB defs shs gls cls d = true) : DfOk defs shs gls cls d := by
  unfold dfB at h
  simp only [Bool.and_eq_true, Bool.not_eq_true', decide_eq_true_eq, beq_iff_eq, Bool.or_eq_true] at h
  obtain ⟨⟨⟨⟨⟨⟨⟨⟨⟨⟨⟨h1, h2⟩, h3⟩, h4⟩, h5⟩, h6⟩, h7⟩, h8⟩, hA⟩, hB⟩, hC⟩, h9⟩ := h
  have hl : d.ps.length = d.fn.np + d.off := by rw [Df.ps, List.length_take]; omega
  have k1 : (defScope d.st).kind = .function := by
    split at h1
    · assumption
    · cases h1
  have k2 : d.N.take d.ps.length = d.ps := by rw [hl]; rfl
  have k3 : ∀ x ∈ d.ps, (defScope d.st).names.lookup x = some .local ∨ (defScope d.st).names.lookup x = some .cell := by
    intro x hx
    have q := List.all_eq_true.mp h7 x hx
    unfold locB at q
    split at q
    · exact .inl (by assumption)
    · exact .inr (by assumption)
    · cases q
  have k4 : ∀ y ∈ (defScope d.st).names, y.2 ≠ .free := by
    intro y hy e
    have q := List.all_eq_true.mp h8 y hy
    simp only [e] at q
    cases q
  have g0 : d.gen = true → d.fn.kd = 0 ∧ d.cn = "" := fun g => hB.resolve_left (by rw [g]; exact Bool.noConfusion)
  refine ⟨fun g => ⟨k1, h2, by rw [h3]; exact g, h4, k2, k3, k4⟩, fun g => ⟨k1, h2, by rw [h3]; exact g, h4, k2, k3, k4⟩, h6, hl.symm, hA, fun g => (g0 g).1, fun g => (g0 g).2, fun e => hC.resolve_left (fun z => by rw [e] at z; exact absurd z (by decide)), fun g k => ?_, fun k => ?_, fun g => ?_⟩
  · rw [g, if_neg Bool.false_ne_true, if_neg k] at h9; exact h9
  · have g : d.gen = false := by
      cases hg : d.gen with
      | false => rfl
      | true => rw [(g0 hg).1] at k; cases k
    rw [g, if_neg Bool.false_ne_true, if_pos k] at h9; exact h9
  · rw [g, if_pos rfl] at h9; exact h9
/-- a def in a class's text -/
def memSt (c : Stmt) (m : Str) : Stmt := match c with
  | .ClassDef _ _ _ b _ _ _ _ _ _ _ => (b.find? fun s => match s with
    | .FunctionDef n _ _ _ _ _ _ _ _ _ => n == m
    | _ => false).getD (.Pass ⟨0, 0, 0, 0⟩)
  | _ => .Pass ⟨0, 0, 0, 0⟩
/-- the values that a call site's keywords and defaults put behind the positional ones -/
def pickS {α : Type} (d : α) (zs ds ms : List α) : List Sel → List α
  | [] => []
  | .kw j :: r => zs.getD j d :: pickS d zs ds ms r
  | .dv i :: r => ds.getD i d :: pickS d zs ds ms r
  | .kd i :: r => ms.getD i d :: pickS d zs ds ms r
def gOf (np nk len : Nat) (its mv : List Value) (sel : List Sel) (us ws : List Value) : List Value := if us.length = np ∧ ws.length = nk then us ++ pickS Value.none ws its mv sel else List.replicate (len + 1) .none
def gVOf (np nk len : Nat) (ds ms : List V) (sel : List Sel) (us ws : List V) : List V := if us.length = np ∧ ws.length = nk then us ++ pickS V.non ws ds ms sel else List.replicate (len + 1) .non
def dflW : W → W → Bool
  | .non, .non => true
  | .bl a, .bl b => a == b
  | .int a, .int b => a == b
  | .str a, .str b => a == b
  | .tup [], .tup [] => true
  | _, _ => false
theorem dflW_eq {a b : W} (h : dflW a b = true) : a = b := by
  unfold dflW at h
  split at h <;> first | rfl | (cases h; done) | (simp only [beq_iff_eq] at h; rw [h])
def selOk (nk : Nat) (dv kv : List W) : List Fi → List Sel → Bool
  | [], [] => true
  | .kw j :: r, .kw i :: q => decide (j = i) && decide (j < nk) && selOk nk dv kv r q
  | .df w :: r, .dv i :: q => (match dv[i]? with
    | some u => dflW w u
    | none => false) && selOk nk dv kv r q
  | .df w :: r, .kd i :: q => (match kv[i]? with
    | some u => dflW w u
    | none => false) && selOk nk dv kv r q
  | _, _ => false
/-- the looks into the keyword defaults -/
def chn (ns : List Str) (mv : List Value) : List Sel → List (Str × Value)
  | [] => []
  | .kd i :: r => (ns.getD i "", mv.getD i .none) :: chn ns mv r
  | _ :: r => chn ns mv r
def tT (e : Bool) (T : Addr) : Value := if e then .none else .ref T
def itT (e : Bool) (its : List Value) : Option (Array Value) := if e then none else some its.toArray
/-- how the model binds at this shape -/
def ShT (d : Df) (sh : Sh) (sel : List Sel) : Prop := ∀ (T D : Addr) (kV doc pm : Value) (an : Option Addr) (cdv ct : Value) (us ws its mv : List Value), us.length = sh.np → ws.length = sh.ks.length → its.length = d.dv.length → mv.length = d.kw.length → (d.kw.isEmpty = false → kV = .ref D) →
  ∃ k, bindArgs (PySem.W.fnOf d.nm d.qn (defArgs d.st) (defBody d.st) (defScope d.st) (tT d.dv.isEmpty T) kV doc pm an cdv ct) { pos := us, kw := sh.ks.zip ws } = seqItems? (tT d.dv.isEmpty T) >>= k ∧
    KwChain D (chn (d.kw.map (·.1)) mv sel) (k (itT d.dv.isEmpty its)) (d.ps.zip (us ++ pickS Value.none ws its mv sel))
theorem sht0 {d : Df} {sh : Sh} {sel : List Sel} (h0 : d.dv.isEmpty = true) (h : ∀ (D : Addr) (kV doc pm : Value) (an : Option Addr) (cdv ct : Value) (us ws mv : List Value), us.length = sh.np → ws.length = sh.ks.length → mv.length = d.kw.length → (d.kw.isEmpty = false → kV = .ref D) →
    KwChain D (chn (d.kw.map (·.1)) mv sel) (bindArgs (PySem.W.fnOf d.nm d.qn (defArgs d.st) (defBody d.st) (defScope d.st) .none kV doc pm an cdv ct) { pos := us, kw := sh.ks.zip ws }) (d.ps.zip (us ++ pickS Value.none ws [] mv sel))) : ShT d sh sel := fun T D kV doc pm an cdv ct us ws its mv h1 h2 h3 h4 h5 => by
  have hi : its = [] := by
    cases hd : d.dv with
    | nil => rw [hd] at h3; exact List.eq_nil_of_length_eq_zero h3
    | cons a b => rw [hd] at h0; cases h0
  subst hi
  rw [h0]
  exact ⟨fun _ => bindArgs (PySem.W.fnOf d.nm d.qn (defArgs d.st) (defBody d.st) (defScope d.st) .none kV doc pm an cdv ct) { pos := us, kw := sh.ks.zip ws }, rfl, h D kV doc pm an cdv ct us ws mv h1 h2 h4 h5⟩
theorem kc_nil {α : Type} {D : Addr} {t : Sem α} {r : α} (h : t = pure r) : KwChain D [] t r := h
theorem kc_cons {α β γ : Type} {D : Addr} {n : Str} {v : Value} {l : List (Str × Value)} {t : Sem α} {r : α} {k1 : Option Value → Sem β} {k2 : β → Sem γ} {k3 : γ → Sem α} {a : β} (e1 : t = ((nsGet D n >>= k1) >>= k2) >>= k3) (e2 : k1 (some v) = pure a) (e3 : KwChain D l (k2 a >>= k3) r) : KwChain D ((n, v) :: l) t r := ⟨β, γ, k1, k2, k3, a, e1, e2, e3⟩
theorem vals_len : ∀ {vs : List V} {us : List Value}, Vals vs us → vs.length = us.length := fun h => Paired.length h
theorem vals_rep : ∀ n : Nat, Vals (List.replicate n V.non) (List.replicate n Value.none)
  | 0 => .nil
  | n + 1 => .cons rfl (vals_rep n)
theorem vals_get : ∀ {vs : List V} {us : List Value}, Vals vs us → ∀ j, RelV (vs.getD j .non) (us.getD j .none)
  | _, _, .nil, j => rfl
  | _, _, .cons h _, 0 => h
  | _, _, .cons _ r, j + 1 => vals_get r j
theorem vals_pick {vs ds ms : List V} {us its mv : List Value} (h : Vals vs us) (hd : Vals ds its) (hm : Vals ms mv) : ∀ sel, Vals (pickS V.non vs ds ms sel) (pickS Value.none us its mv sel)
  | [] => .nil
  | .kw j :: r => .cons (vals_get h j) (vals_pick h hd hm r)
  | .dv j :: r => .cons (vals_get hd j) (vals_pick h hd hm r)
  | .kd j :: r => .cons (vals_get hm j) (vals_pick h hd hm r)
theorem vals_app : ∀ {vs : List V} {us : List Value} {vs' : List V} {us' : List Value}, Vals vs us → Vals vs' us' → Vals (vs ++ vs') (us ++ us')
  | _, _, _, _, .nil, h => h
  | _, _, _, _, .cons a r, h => .cons a (vals_app r h)
theorem chn_in {K : PySem.W.Frag} {D : Addr} {nk : Nat} {dv kv : List W} {ns : List Str} {mv : List Value} (l1 : ns.length = kv.length) (l2 : mv.length = kv.length) (h : ∀ q ∈ ns.zip mv, PySem.W.nsIn K D q.1 = some (some q.2)) :
    ∀ (fill : List Fi) (sel : List Sel), selOk nk dv kv fill sel = true → ∀ q ∈ chn ns mv sel, PySem.W.nsIn K D q.1 = some (some q.2)
  | [], [], _, q, hq => by cases hq
  | .kw j :: r, .kw i :: s, e, q, hq => by
    simp only [selOk, Bool.and_eq_true] at e
    exact chn_in l1 l2 h r s e.2 q hq
  | .df w :: r, .dv i :: s, e, q, hq => by
    simp only [selOk, Bool.and_eq_true] at e
    exact chn_in l1 l2 h r s e.2 q hq
  | .df w :: r, .kd i :: s, e, q, hq => by
    simp only [selOk, Bool.and_eq_true] at e
    rcases List.mem_cons.mp (show q ∈ (ns.getD i "", mv.getD i .none) :: chn ns mv s from hq) with rfl | hq
    · have hi : i < kv.length := by
        cases hk : kv[i]? with
        | none => rw [hk] at e; exact absurd e.1 (by simp)
        | some u => exact (List.getElem?_eq_some_iff.mp hk).1
      refine h _ ?_
      have hz : i < (ns.zip mv).length := by rw [List.length_zip]; omega
      have e1 : ns.getD i "" = ns[i] := by rw [List.getD_eq_getElem?_getD, List.getElem?_eq_getElem (by omega)]; rfl
      have e2 : mv.getD i .none = mv[i] := by rw [List.getD_eq_getElem?_getD, List.getElem?_eq_getElem (by omega)]; rfl
      have e3 : (ns.zip mv)[i] = (ns[i], mv[i]) := List.getElem_zip
      rw [e1, e2, ← e3]
      exact List.getElem_mem _
    · exact chn_in l1 l2 h r s e.2 q hq
  | [], .kw _ :: _, e, _, _ => by simp [selOk] at e
  | [], .dv _ :: _, e, _, _ => by simp [selOk] at e
  | [], .kd _ :: _, e, _, _ => by simp [selOk] at e
  | .kw _ :: _, [], e, _, _ => by simp [selOk] at e
  | .df _ :: _, [], e, _, _ => by simp [selOk] at e
  | .kw _ :: _, .dv _ :: _, e, _, _ => by simp [selOk] at e
  | .kw _ :: _, .kd _ :: _, e, _, _ => by simp [selOk] at e
  | .df _ :: _, .kw _ :: _, e, _, _ => by simp [selOk] at e
theorem kb_of {K : PySem.W.Frag} {d : Df} {f : Addr} {fd : FuncData} {sh : Sh} {sel : List Sel} {dvs : List V} {kws : List (Str × V)} (F : FunD K d.nm d.qn (defArgs d.st) (defBody d.st) (defScope d.st) dvs kws f fd)
    (l1 : dvs.length = d.dv.length) (l2 : kws.map (·.1) = d.kw.map (·.1)) (hs : selOk sh.ks.length d.dv (d.kw.map (·.2)) sh.fill sel = true) (h : ShT d sh sel) :
    ∃ g, KBinds K fd d.ps sh.ks g (gVOf sh.np sh.ks.length d.ps.length dvs (kws.map (·.2)) sel) := by
  obtain ⟨oc, od, dV, kV, doc, pm, an, cdv, ct, osl, rfl, lk, hcd, hD, hK⟩ := F.ex
  have l3 : kws.length = d.kw.length := by have := congrArg List.length l2; simpa using this
  obtain ⟨D, mv, lm, rm, hkV, hmv⟩ : ∃ (D : Addr) (mv : List Value), mv.length = d.kw.length ∧ Vals (kws.map (·.2)) mv ∧ (d.kw.isEmpty = false → kV = .ref D) ∧ ∀ q ∈ (d.kw.map (·.1)).zip mv, PySem.W.nsIn K D q.1 = some (some q.2) := by
    rcases hK with rfl | ⟨D, rfl, hq⟩
    · have : d.kw = [] := List.eq_nil_of_length_eq_zero l3.symm
      rw [this]
      exact ⟨0, [], rfl, .nil, fun e => by simp at e, fun q hq => by simp at hq⟩
    · obtain ⟨us, e1, e2, e3⟩ := kwd_vals hq
      exact ⟨D, us, by rw [e1, l3], e2, fun _ => rfl, by rw [← l2]; exact e3⟩
  have fin : ∀ (T : Addr) (its : List Value), its.length = d.dv.length → Vals dvs its → dV = tT d.dv.isEmpty T →
      (∀ (M : Model) (h : Heap) (k : Option (Array Value) → Sem (List (Str × Value))) (r : List (Str × Value)), K.In h → PySem.W.Looks M h (k (itT d.dv.isEmpty its)) r → PySem.W.Looks M h (seqItems? (tT d.dv.isEmpty T) >>= k) r) →
      ∃ g, KBinds K (PySem.W.fnOf d.nm d.qn (defArgs d.st) (defBody d.st) (defScope d.st) dV kV doc pm an cdv ct) d.ps sh.ks g (gVOf sh.np sh.ks.length d.ps.length dvs (kws.map (·.2)) sel) := fun T its li ri edV hlook => by
    subst edV
    refine ⟨gOf sh.np sh.ks.length d.ps.length its mv sel, ⟨fun s us ws hin hl => ?_, fun {vs us zs ws} hv hz => ?_⟩⟩
    · unfold gOf at hl ⊢
      split
      · rename_i q
        obtain ⟨k, e1, e2⟩ := h T D kV doc pm an cdv ct us ws its mv q.1 q.2 li lm hkV
        refine BindsTo.of_looks fun M => ?_
        rw [e1]
        exact hlook M _ k _ hin (KwChain.looks hin (chn_in (by rw [List.length_map, List.length_map]) (by rw [List.length_map]; exact lm) hmv _ _ hs) e2)
      · rename_i q
        rw [if_neg q, List.length_replicate] at hl
        omega
    · unfold gOf gVOf
      rw [vals_len hv, vals_len hz]
      split
      · exact vals_app hv (vals_pick hz ri rm _)
      · exact vals_rep _
  rcases hD with ⟨rfl, rfl⟩ | ⟨hne, T, o, its, m, rfl, lT, oT, rT⟩
  · have e0 : d.dv.isEmpty = true := by have : d.dv = [] := List.eq_nil_of_length_eq_zero l1.symm; rw [this]; rfl
    refine fin 0 [] l1 .nil (by rw [e0]; rfl) fun M h k r _ hk => ?_
    rw [e0] at hk ⊢
    exact hk
  · have e0 : d.dv.isEmpty = false := by
      cases hd : d.dv with
      | nil => rw [hd] at l1; exact absurd (List.eq_nil_of_length_eq_zero l1) hne
      | cons a b => rfl
    refine fin T its (by rw [← rT.length]; exact l1) rT (by rw [e0]; rfl) fun M h k r hin hk => ?_
    rw [e0] at hk ⊢
    exact looks_items hin lT oT hk
theorem rws_app {K : PySem.W.Frag} {L : List Addr} {H : Hp} : ∀ {ws ws' : List W} {vs vs' : List V}, RWs K L H ws vs → RWs K L H ws' vs' → RWs K L H (ws ++ ws') (vs ++ vs')
  | _, _, _, _, .nil, h => h
  | _, _, _, _, .cons a r, h => .cons a (rws_app r h)
theorem rws_get {K : PySem.W.Frag} {L : List Addr} {H : Hp} : ∀ {ws : List W} {vs : List V}, RWs K L H ws vs → ∀ {j : Nat} {w : W}, ws[j]? = some w → RW K L H w (vs.getD j .non)
  | _, _, .nil, j, w, h => by simp at h
  | _, _, .cons a r, 0, w, h => by simp at h; subst h; exact a
  | _, _, .cons a r, j + 1, w, h => by simpa using rws_get r (by simpa using h)
theorem fill_rel {K : PySem.W.Frag} {L : List Addr} {H : Hp} {nk : Nat} {dv kv : List W} {zs : List W} {us ds ms : List V} (hz : RWs K L H zs us) (hd : RWs K L H dv ds) (hm : RWs K L H kv ms) :
    ∀ (fill : List Fi) (sel : List Sel) {ws xs : List W} {vs : List V}, selOk nk dv kv fill sel = true → RWs K L H ws vs → fillA ws zs fill = some xs → RWs K L H xs (vs ++ pickS V.non us ds ms sel)
  | [], [], ws, xs, vs, _, h, e => by
    simp only [fillA] at e
    cases e
    rw [pickS, List.append_nil]
    exact h
  | .kw j :: r, .kw i :: s, ws, xs, vs, hk, h, e => by
    simp only [selOk, Bool.and_eq_true, decide_eq_true_eq] at hk
    obtain ⟨⟨rfl, _⟩, hk⟩ := hk
    simp only [fillA] at e
    split at e
    · rename_i z ez
      have q := fill_rel hz hd hm r s hk (rws_app h (.cons (rws_get hz ez) .nil)) e
      rw [pickS]
      rw [List.append_assoc, List.singleton_append] at q
      exact q
    · cases e
  | .df w :: r, .dv i :: s, ws, xs, vs, hk, h, e => by
    simp only [selOk, Bool.and_eq_true] at hk
    obtain ⟨h1, hk⟩ := hk
    simp only [fillA] at e
    cases hw : dv[i]? with
    | none => rw [hw] at h1; cases h1
    | some u =>
      rw [hw] at h1
      have := dflW_eq h1
      subst this
      have q := fill_rel hz hd hm r s hk (rws_app h (.cons (rws_get hd hw) .nil)) e
      rw [pickS]
      rw [List.append_assoc, List.singleton_append] at q
      exact q
  | .df w :: r, .kd i :: s, ws, xs, vs, hk, h, e => by
    simp only [selOk, Bool.and_eq_true] at hk
    obtain ⟨h1, hk⟩ := hk
    simp only [fillA] at e
    cases hw : kv[i]? with
    | none => rw [hw] at h1; cases h1
    | some u =>
      rw [hw] at h1
      have := dflW_eq h1
      subst this
      have q := fill_rel hz hd hm r s hk (rws_app h (.cons (rws_get hm hw) .nil)) e
      rw [pickS]
      rw [List.append_assoc, List.singleton_append] at q
      exact q
  | [], .kw _ :: _, _, _, _, e, _, _ => by simp [selOk] at e
  | [], .dv _ :: _, _, _, _, e, _, _ => by simp [selOk] at e
  | [], .kd _ :: _, _, _, _, e, _, _ => by simp [selOk] at e
  | .kw _ :: _, [], _, _, _, e, _, _ => by simp [selOk] at e
  | .df _ :: _, [], _, _, _, e, _, _ => by simp [selOk] at e
  | .kw _ :: _, .dv _ :: _, _, _, _, e, _, _ => by simp [selOk] at e
  | .kw _ :: _, .kd _ :: _, _, _, _, e, _, _ => by simp [selOk] at e
  | .df _ :: _, .kw _ :: _, _, _, _, e, _, _ => by simp [selOk] at e
/-- a def as it stands behind the top, with its defaults -/
structure FunQ (K : PySem.W.Frag) (d : Df) (f : Addr) (fd : FuncData) (dvs : List V) (kws : List (Str × V)) : Prop where
  fn : FunD K d.nm d.qn (defArgs d.st) (defBody d.st) (defScope d.st) dvs kws f fd
  rd : ∀ L H, RWs K L H d.dv dvs
  nk : kws.map (·.1) = d.kw.map (·.1)
  rk : ∀ L H, RWs K L H (d.kw.map (·.2)) (kws.map (·.2))
section
variable {Z : Zx} {P : Pg} {prog : Program} {w : World} {base : Heap}
theorem fnok_imp {K : PySem.W.Frag} {mg : Str → Option Value} {CX : CXT} {k : Nat} {f : Addr} {fd : FuncData} {ps : List Str} {sp sp' : Sp} (F : FnOk prog w K mg base CX k f fd ps sp) (i : ∀ vs H Q E, sp' vs H Q E → sp vs H Q E) : FnOk prog w K mg base CX k f fd ps sp' :=
  ⟨fun vs H Q E h => F.len vs H Q E (i _ _ _ _ h), fun A outer s H args us vs Q E r e b v h => F.run A outer s H args us vs Q E r e b v (i _ _ _ _ h)⟩
/-- where a def stands: in the module, or in a class -/
structure DAt (Z : Zx) (d : Df) (f : Addr) : Prop where
  fn : d.cn = "" → Z.mg d.nm = some (.ref f)
  nw : d.fn.kd = 2 → ∃ C, Z.mg d.cn = some (.ref C) ∧ PySem.W.nsIn Z.K mainGlobals d.cn = some (some (.ref C)) ∧ Mk Z.K C f ∧ Cls Z.K C ∧ ∀ g ∈ iniFs d.fn.body, NoAttr Z.K C g
  mt : d.cn ≠ "" → d.fn.kd = 0 → ∃ C, PySem.W.nsIn Z.K mainGlobals d.cn = some (some (.ref C)) ∧ Meth Z.K C d.nm f
  dn : d.fn.kd = 1 → ∃ C, PySem.W.nsIn Z.K mainGlobals d.cn = some (some (.ref C)) ∧ PySem.W.findIn Z.K (.ref C) d.nm = some (some (.ref f)) ∧ PySem.W.typeIn Z.K (.ref f) = some (.type "function")
/-- what is promised of a def -/
structure Prm (prog : Program) (w : World) (base : Heap) (Z : Zx) (P : Pg) (n i : Nat) (d : Df) (f : Addr) (fd : FuncData) : Prop where
  fn : d.gen = false → d.fn.kd = 0 → FnOk prog w Z.K Z.mg base (L2.CX prog w) n f fd d.ps (spF Z P n i)
  gn : d.gen = true → GFn1 prog w Z.K Z.mg base n f fd d.ps (spG Z P n i)
  dn : d.fn.kd = 1 → FnOk prog w Z.K Z.mg base (L2.CX prog w) n f fd d.ps (spF Z P (n + 2) i)
  nw : ∀ C, d.fn.kd = 2 → PySem.W.nsIn Z.K mainGlobals d.cn = some (some (.ref C)) → Cls Z.K C → (∀ g ∈ iniFs d.fn.body, NoAttr Z.K C g) → FnOk prog w Z.K Z.mg base (L2.CX prog w) n f fd d.ps (spI Z P (n + 1) i C)
theorem fnok_no {K : PySem.W.Frag} {mg : Str → Option Value} {CX : CXT} {k : Nat} {f : Addr} {fd : FuncData} {ps : List Str} {sp : Sp} (no : ∀ vs H Q E, ¬ sp vs H Q E) : FnOk prog w K mg base CX k f fd ps sp :=
  ⟨fun vs H Q E h => absurd h (no vs H Q E), fun A outer s H args us vs Q E _ _ _ _ h => absurd h (no vs H Q E)⟩
theorem get_nm {α : Type} {defs : List Df} {g : Df → α} {i : Nat} {x : α} (h : (defs.map g)[i]? = some x) : ∃ d, defs[i]? = some d ∧ g d = x := by
  rw [List.getElem?_map] at h
  cases hq : defs[i]? with
  | none => rw [hq] at h; cases h
  | some d => rw [hq] at h; exact ⟨d, rfl, Option.some.inj h⟩
/-- every def of the program keeps its promise, at every depth -/
theorem prog_ok {defs : List Df} {gls : List Str} {cls : List Cl} (hP : P.fns = defs.map Df.fn) (hd : defs.all (dfB defs P.shs gls cls) = true)
    (hF : ∀ (i : Nat) (d : Df), defs[i]? = some d → ∃ f fd dvs kws, FunQ Z.K d f fd dvs kws ∧ DAt Z d f)
    (hS : ∀ (h : Nat) (sh : Sh) (d : Df), P.shs[h]? = some sh → defs[sh.fn]? = some d → ∃ sel, ShT d { sh with np := sh.np + d.off } sel ∧ selOk sh.ks.length d.dv (d.kw.map (·.2)) sh.fill sel = true)
    (hG : ∀ (g : Nat) x w, gls[g]? = some x → P.gls[g]? = some w → ∃ u v, Z.mg x = some u ∧ RelV v u ∧ ∀ L H, RW Z.K L H w v) (blt : ∀ x ∈ bltNames, Z.mg x = none) (exc : ExcF prog w base Z P cls) :
    ∀ (n i : Nat) (d : Df) (f : Addr) (fd : FuncData) (dvs : List V) (kws : List (Str × V)), defs[i]? = some d → FunQ Z.K d f fd dvs kws → Prm prog w base Z P n i d f fd := by
  intro n
  induction n using Nat.strongRecOn with
  | _ n ih =>
  intro i d f fd dvs kws hi F
  have hm : d ∈ defs := List.mem_of_getElem? hi
  have D := df_of (List.all_eq_true.mp hd d hm)
  have hPi : P.fns[i]? = some d.fn := by rw [hP, List.getElem?_map, hi]; rfl
  match n, ih with
  | 0, _ =>
    have no : ∀ vs H Q E, ¬ spF Z P 0 i vs H Q E := fun vs H Q E ⟨L, S, ws, fn, _, _, _, _, h⟩ => h
    have no2 : ∀ vs H Q E, ¬ spG Z P 0 i vs H Q E := fun vs H Q E ⟨L, S, ws, fn, _, _, _, _, h⟩ => h
    refine ⟨fun _ _ => fnok_no no, fun _ => ⟨fun vs H Q E h => absurd h (no2 vs H Q E), fun A outer s H args us vs Q E _ _ _ _ h => absurd h (no2 vs H Q E)⟩, fun hk => fnok_no fun vs H Q E ⟨L, S, ws, fn, _, _, hf, _, h⟩ => ?_, fun C hk _ _ _ => fnok_no fun vs H Q E ⟨a, dx, vs', L, H0, S, ws, fn, _, _, _, _, _, _, _, hf, _, h⟩ => ?_⟩
    · simp only [runF, hPi, hk] at h
      split at h <;> exact h.elim
    · simp only [runF, hPi, hk] at h
      split at h <;> exact h.elim
  | n + 1, ih =>
    have site : ∀ (m : Nat), m < n + 1 → ∀ (h : Nat) (sh : Sh) (d2 : Df), P.shs[h]? = some sh → defs[sh.fn]? = some d2 → ∃ (f2 : Addr) (fd2 : FuncData) (g : List Value → List Value → List Value) (gV : List V → List V → List V), DAt Z d2 f2 ∧ PySem.W.keepIn Z.K (.ref f2) = true ∧
        (∀ m, m < n + 1 → Prm prog w base Z P m sh.fn d2 f2 fd2) ∧ KBinds Z.K fd2 d2.ps sh.ks g gV ∧
        (∀ L H ws zs vs us xs, RWs Z.K L H ws vs → RWs Z.K L H zs us → ws.length = sh.np + d2.off ∧ zs.length = sh.ks.length → fillA ws zs sh.fill = some xs → RWs Z.K L H xs (gV vs us)) ∧
        (∀ L H ws zs vs us xs a, d2.fn.kd = 2 → RWs Z.K L H ws vs → RWs Z.K L H zs us → ws.length = sh.np ∧ zs.length = sh.ks.length → fillA ws zs sh.fill = some xs → ∃ ys, gV (.ref a :: vs) us = .ref a :: ys ∧ RWs Z.K L H xs ys) ∧
        P.fns[sh.fn]? = some d2.fn ∧ d2.fn.np + d2.off = d2.ps.length ∧ DfOk defs P.shs gls cls d2 := by
      intro m hmn h sh d2 hsh hq
      obtain ⟨f2, fd2, dv2, kw2, F2, m2⟩ := hF _ _ hq
      obtain ⟨sel, s1, s2⟩ := hS h sh d2 hsh hq
      have D2 := df_of (List.all_eq_true.mp hd d2 (List.mem_of_getElem? hq))
      have ld : dv2.length = d2.dv.length := (F2.rd [] (fun _ => none)).len2.symm
      obtain ⟨g, kb⟩ := kb_of (sh := { sh with np := sh.np + d2.off }) F2.fn ld F2.nk s2 s1
      refine ⟨f2, fd2, _, _, m2, F2.fn.kp, fun m hm => ih m hm sh.fn d2 f2 fd2 dv2 kw2 hq F2, kb, ?_, ?_, ?_, D2.np, D2⟩
      · intro L H ws zs vs us xs hw hz hl e
        unfold gVOf
        rw [if_pos ⟨by rw [← hw.len2]; exact hl.1, by rw [← hz.len2]; exact hl.2⟩]
        exact fill_rel hz (F2.rd L H) (F2.rk L H) sh.fill sel s2 hw e
      · intro L H ws zs vs us xs a hk hw hz hl e
        have ho : d2.off = 1 := by unfold Df.off; rw [if_pos hk]
        unfold gVOf
        rw [if_pos ⟨by rw [List.length_cons, ← hw.len2, hl.1, ho], by rw [← hz.len2]; exact hl.2⟩, List.cons_append]
        exact ⟨_, rfl, fill_rel hz (F2.rd L H) (F2.rk L H) sh.fill sel s2 hw e⟩
      · rw [hP, List.getElem?_map, hq]; rfl
    have off0 : ∀ {d2 : Df}, d2.fn.kd ≠ 2 → d2.off = 0 := fun {d2} h => by unfold Df.off; rw [if_neg h]
    have calls : ∀ m, m < n + 1 → CallF prog w base Z P m (ctOf defs P.shs gls cls d) := by
      intro m hmn h sh x hsh hx hne
      obtain ⟨d2, hq, e⟩ := get_nm (show (defs.map Df.nmF)[sh.fn]? = some x from hx)
      obtain ⟨f2, fd2, g, gV, a1, a2, a3, a4, a5, _, a6, a7, a8⟩ := site m hmn h sh d2 hsh hq
      unfold Df.nmF at e
      split at e
      · exact absurd e.symm hne
      · rename_i hc
        simp only [Bool.or_eq_true, Bool.not_eq_true', not_or, Bool.not_eq_true, Bool.not_eq_false, beq_iff_eq] at hc
        subst e
        have k0 := a8.c0 hc.2
        have o0 := off0 (d2 := d2) (by rw [k0]; decide)
        rw [o0] at a5 a7
        exact ⟨f2, fd2, d2.ps, g, gV, a1.fn hc.2, a2, (a3 m hmn).fn hc.1 k0, a4, a5, _, a6, a7⟩
    have gens : ∀ m, m < n + 1 → GenF prog w base Z P m (ctOf defs P.shs gls cls d) := by
      intro m hmn h sh x hsh hx hne
      obtain ⟨d2, hq, e⟩ := get_nm (show (defs.map Df.nmG)[sh.fn]? = some x from hx)
      obtain ⟨f2, fd2, g, gV, a1, a2, a3, a4, a5, _, a6, a7, a8⟩ := site m hmn h sh d2 hsh hq
      unfold Df.nmG at e
      split at e
      · rename_i hc
        subst e
        have k0 := a8.g0 hc
        have o0 := off0 (d2 := d2) (by rw [k0]; decide)
        rw [o0] at a5 a7
        exact ⟨f2, fd2, d2.ps, g, gV, a1.fn (a8.gc hc), a2, (a3 m hmn).gn hc, a4, a5, _, a6, a7⟩
      · exact absurd e.symm hne
    have news : ∀ m, m < n + 1 → NewF prog w base Z P m (ctOf defs P.shs gls cls d) := by
      intro m hmn h sh x hsh hx hne
      obtain ⟨d2, hq, e⟩ := get_nm (show (defs.map Df.nmN)[sh.fn]? = some x from hx)
      obtain ⟨f2, fd2, g, gV, a1, a2, a3, a4, a5, a9, a6, a7, a8⟩ := site m hmn h sh d2 hsh hq
      unfold Df.nmN at e
      split at e
      · rename_i hk
        subst e
        obtain ⟨C, c1, c2, c3, c4, c5⟩ := a1.nw hk
        have o1 : d2.off = 1 := by unfold Df.off; rw [if_pos hk]
        rw [o1] at a7
        exact ⟨C, f2, fd2, d2.ps, g, gV, c1, c3, fun k hkn => by subst hkn; exact (a3 k (by omega)).nw C hk c2 c4 c5, a4, fun L H ws zs vs us xs a => a9 L H ws zs vs us xs a hk, _, a6, a7⟩
      · exact absurd e.symm hne
    have mets : ∀ m, m < n + 1 → MetF prog w base Z P m (ctOf defs P.shs gls cls d) := by
      intro m hmn h sh nm mm hsh hx hne
      obtain ⟨d2, hq, e⟩ := get_nm (show (defs.map Df.nmM)[sh.fn]? = some (nm, mm) from hx)
      obtain ⟨f2, fd2, g, gV, a1, a2, a3, a4, a5, _, a6, a7, a8⟩ := site m hmn h sh d2 hsh hq
      unfold Df.nmM at e
      split at e
      · rename_i hk
        cases e
        obtain ⟨C, c1, c2⟩ := a1.mt hne hk
        have o0 := off0 (d2 := d2) (by rw [hk]; decide)
        rw [o0] at a5 a7
        cases hg : d2.gen with
        | false => exact ⟨C, f2, fd2, d2.ps, g, gV, c1, c2, (a3 m hmn).fn hg hk, a4, a5, _, a6, a7⟩
        | true => exact absurd (a8.gc hg) hne
      · cases e; exact absurd rfl hne
    have duns : ∀ m, m < n + 1 → DunF prog w base Z P m (ctOf defs P.shs gls cls d) := by
      intro m hmn h sh nm mm hsh hx hne
      obtain ⟨d2, hq, e⟩ := get_nm (show (defs.map Df.nmD)[sh.fn]? = some (nm, mm) from hx)
      obtain ⟨f2, fd2, g, gV, a1, a2, a3, a4, a5, _, a6, a7, a8⟩ := site m hmn h sh d2 hsh hq
      unfold Df.nmD at e
      split at e
      · rename_i hk
        cases e
        obtain ⟨C, c1, c2, c3⟩ := a1.dn hk
        have o0 := off0 (d2 := d2) (by rw [hk]; decide)
        rw [o0] at a5 a7
        exact ⟨C, f2, fd2, d2.ps, g, gV, c1, c2, c3, fun k hkn => by subst hkn; exact (a3 k (by omega)).dn hk, a4, a5, _, a6, a7, hk⟩
      · cases e; exact absurd rfl hne
    have gen0 : d.fn.kd ≠ 0 → d.gen = false := fun h => by
      cases hg : d.gen with
      | false => rfl
      | true => exact absurd (D.g0 hg) h
    have hn : n < n + 1 := Nat.lt_succ_self n
    refine ⟨fun hg hk => ?_, fun hg => ?_, fun hk => ?_, fun C hk c1 c2 c3 => ?_⟩
    · have o0 := off0 (d2 := d) (by rw [hk]; decide)
      have np := D.np
      rw [o0] at np
      exact def_ok (c := ctOf defs P.shs gls cls d) (fn := d.fn) F.fn (D.sc hg) rfl rfl (D.ck hg (by rw [hk]; decide)) hPi hk np D.ns rfl (calls n hn) (gens n hn) (news n hn) (mets n hn) (duns n hn) hG blt exc
    · have hk := D.g0 hg
      have o0 := off0 (d2 := d) (by rw [hk]; decide)
      have np := D.np
      rw [o0] at np
      exact gdef_ok (c := ctOf defs P.shs gls cls d) (fn := d.fn) F.fn (D.sg hg) rfl rfl (D.cg hg) hPi hk np D.ns rfl (calls n hn) (gens n hn) (news n hn) (mets n hn) (duns n hn) hG blt exc
    · have hg := gen0 (by rw [hk]; decide)
      have o0 := off0 (d2 := d) (by rw [hk]; decide)
      have np := D.np
      rw [o0] at np
      exact def_ok1 (c := ctOf defs P.shs gls cls d) (fn := d.fn) F.fn (D.sc hg) rfl rfl (D.ck hg (by rw [hk]; decide)) hPi hk np D.ns rfl (calls n hn) (gens n hn) (news n hn) (mets n hn) (duns n hn) hG blt exc
    · have hg := gen0 (by rw [hk]; decide)
      have o1 : d.off = 1 := by unfold Df.off; rw [if_pos hk]
      have np := D.np
      rw [o1] at np
      exact init_ok (c := ctOf defs P.shs gls cls d) (fn := d.fn) F.fn (D.sc hg) rfl rfl (D.ci hk) c2 c1 c3 hPi hk np D.ns rfl (calls n hn) (gens n hn) (news n hn) (mets n hn) (duns n hn) hG blt exc
end
/-! ### law -/
def spLaw (K : PySem.W.Frag) (n : Nat) : Sp := fun vs H Q _ => ∃ (a : Addr) (ns : List Int), vs = [.ref a] ∧ RoL K H a (ns.map V.int) ∧ ns.length ≤ n ∧ ∀ v H', v = V.bl true → Q v H'
theorem rws_ints {K : PySem.W.Frag} {L : List Addr} {H : Hp} : ∀ ns : List Int, RWs K L H (ns.map W.int) (ns.map V.int)
  | [] => .nil
  | n :: r => .cons (.int n) (rws_ints r)
theorem law_sp {Z : Zx} {P : Pg} {k i m : Nat} {fn : Fn} (hf : P.fns[i]? = some fn) (hn : fn.np = 1)
    (plain : ∀ ns : List Int, ns.length ≤ m → ∃ S', runF P k i [.ref 0] [.ro (ns.map W.int)] = .ok (.bl true) S') : ∀ vs H Q E, spLaw Z.K m vs H Q E → spF Z P k i vs H Q E := by
  rintro vs H Q E ⟨a, ns, rfl, ha, hl, q⟩
  obtain ⟨S', e⟩ := plain ns hl
  refine ⟨[a], [.ro (ns.map W.int)], [.ref 0], fn, ⟨rfl, ?_, ?_⟩, .cons (.ref rfl) .nil, hf, by rw [hn]; rfl, ?_⟩
  · intro j o b h1 h2
    cases j with
    | zero =>
      simp at h1 h2
      subst h1 h2
      exact ⟨_, ha, rws_ints ns⟩
    | succ j => simp at h1
  · intro j1 j2 b o u h1 _ _ _ h5
    cases j1 with
    | zero => simp at h1; subst h1; cases h5
    | succ j => simp at h1
  · rw [e]
    intro L' H' b _ _ t
    cases t
    exact q _ _ rfl
theorem ro_of {K : PySem.W.Frag} {H : Hp} {a : Addr} {xs : List V} (h : SqL K H a xs) (o : Only H) : RoL K H a xs := by
  rcases h with h | h
  · rcases h with h | h
    · rcases o a with q | ⟨c, ys, q⟩
      · rw [q] at h; cases h
      · rw [q] at h; cases h
    · exact .inl h
  · exact .inr h
theorem walk {l : PySem.W.OpenLaw} {k m : Nat} {q : Program} {loose : List Str} {XP : (Str → Option Value) → Heap → Prop} {YP : World → Heap → Prop} {d : DefRec} {K : Params → PySem.W.Frag} {x : Str} (hn : l.most = some m) (hm : m ≤ 1000) (hdf : d.params.defaults = []) (hk : k ≤ 230)
    (hY : ∀ (w : World) (h : Heap), YP w h → (K w.params).In h)
    (F : ∀ (w : World) (mg : Str → Option Value) (fa : Addr) (h : Heap), (K w.params).In h → h.Ns mainGlobals mg → mg d.name = some (.ref fa) →
      ∃ fd : FuncData, (∀ (s : Shared) (u : Value), BindsTo s fd ⟨[u], []⟩ [(x, u)]) ∧ ∀ base : Heap, (K w.params).In base → base.Ns mainGlobals mg → FnOk l.prog w (K w.params) mg base (L2.CX l.prog w) k fa fd [x] (spLaw (K w.params) m)) :
    PySem.W.WalkO q loose XP YP l.row.toRowW d [] (fun f vs => PySem.call f vs) := by
  refine L2.walk_of (n := m) (k := k) (x := x) (CX := fun w => L2.CX l.prog w) (sp := fun w => spLaw (K w.params) m) hn (Nat.le_of_lt (small1000 hm)) hdf ⟨rfl, ?_, ?_⟩ hY F (fun _ H a ns hl o hS => ⟨a, ns, rfl, ro_of hS o, hl, fun v _ e => e⟩) fun w H s e s' z => ?_
  · have : callerA.depth = 301 := by decide
    have : recursionLimit = 1000 := by decide
    omega
  · have : callerA.units = 4 := by decide
    have : cLine = 9900 := by decide
    omega
  · obtain ⟨_, _, _, _, _, _, _, _, _, _, _, _, y⟩ := z
    exact y
end SF
set_option Elab.async false
set_option linter.all false
set_option maxRecDepth 100000
set_option maxHeartbeats 4000000
namespace SF
open PySem L2
/-! # 13. The top of a program -/
/-- where a def stands, in K -/
structure KAt (K : PySem.W.Frag) (d : Df) (f : Addr) : Prop where
  fn : d.cn = "" → PySem.W.nsIn K mainGlobals d.nm = some (some (.ref f))
  nw : d.fn.kd = 2 → ∃ C, PySem.W.nsIn K mainGlobals d.cn = some (some (.ref C)) ∧ Mk K C f ∧ Cls K C ∧ ∀ g ∈ iniFs d.fn.body, NoAttr K C g
  mt : d.cn ≠ "" → d.fn.kd = 0 → ∃ C, PySem.W.nsIn K mainGlobals d.cn = some (some (.ref C)) ∧ Meth K C d.nm f
  dn : d.fn.kd = 1 → ∃ C, PySem.W.nsIn K mainGlobals d.cn = some (some (.ref C)) ∧ PySem.W.findIn K (.ref C) d.nm = some (some (.ref f)) ∧ PySem.W.typeIn K (.ref f) = some (.type "function")
theorem at_fn {K : PySem.W.Frag} {d : Df} {f : Addr} (hc : d.cn = "") (hk : d.fn.kd = 0) (a : PySem.W.nsIn K mainGlobals d.nm = some (some (.ref f))) : KAt K d f :=
  ⟨fun _ => a, fun k => absurd (hk.symm.trans k) (by decide), fun h => absurd hc h, fun k => absurd (hk.symm.trans k) (by decide)⟩
def NoF2 (K : PySem.W.Frag) (C : Addr) : List Str → Prop
  | [] => True
  | f :: fs => PySem.W.findIn K (.ref C) f = some none ∧ NoF2 K C fs
theorem NoF2.all {K : PySem.W.Frag} {C : Addr} : ∀ {fs : List Str}, NoF2 K C fs → ∀ f ∈ fs, PySem.W.findIn K (.ref C) f = some none
  | f :: fs, ⟨h, r⟩, g, hg => by
    rcases List.mem_cons.mp hg with rfl | hg
    · exact h
    · exact NoF2.all r g hg
theorem at_nw {K : PySem.W.Frag} {d : Df} {f C : Addr} {fs : List Str} (hc : (d.cn == "") = false) (hk : d.fn.kd = 2) (hfs : iniFs d.fn.body = fs) (nC : PySem.W.nsIn K mainGlobals d.cn = some (some (.ref C))) (mk : PySem.W.makesIn K C = true) (iC : PySem.W.findIn K (.ref C) "__init__" = some (some (.ref f))) (fF : PySem.W.isFn K (.ref f) = true) (kC : PySem.W.keepIn K (.ref C) = true)
    (pg : PySem.W.plainGet K C Str.empty = true) (hd : PySem.W.hasDictIn K C = true) (po : PySem.W.plainOver K C = true) (sa : PySem.W.findIn K (.ref C) "__setattr__" = some (some (.builtin "object.__setattr__"))) (no : NoF2 K C fs) : KAt K d f :=
  ⟨fun h => by rw [h] at hc; exact absurd hc (by decide), fun _ => ⟨C, nC, ⟨mk, iC, fF, kC⟩, ⟨pg, hd, po, sa⟩, by rw [hfs]; exact no.all⟩, fun _ k => absurd (hk.symm.trans k) (by decide), fun k => absurd (hk.symm.trans k) (by decide)⟩
theorem at_mt {K : PySem.W.Frag} {d : Df} {f C : Addr} (hc : (d.cn == "") = false) (hk : d.fn.kd = 0) (nC : PySem.W.nsIn K mainGlobals d.cn = some (some (.ref C))) (m : PySem.W.findIn K (.ref C) d.nm = some (some (.ref f))) (fF : PySem.W.isFn K (.ref f) = true) (kf : PySem.W.keepIn K (.ref f) = true) : KAt K d f :=
  ⟨fun h => by rw [h] at hc; exact absurd hc (by decide), fun k => absurd (hk.symm.trans k) (by decide), fun _ _ => ⟨C, nC, ⟨m, fF, kf⟩⟩, fun k => absurd (hk.symm.trans k) (by decide)⟩
theorem at_dn {K : PySem.W.Frag} {d : Df} {f C : Addr} (hc : (d.cn == "") = false) (hk : d.fn.kd = 1) (nC : PySem.W.nsIn K mainGlobals d.cn = some (some (.ref C))) (m : PySem.W.findIn K (.ref C) d.nm = some (some (.ref f))) (tf : PySem.W.typeIn K (.ref f) = some (.type "function")) : KAt K d f :=
  ⟨fun h => by rw [h] at hc; exact absurd hc (by decide), fun k => absurd (hk.symm.trans k) (by decide), fun _ k => absurd (hk.symm.trans k) (by decide), fun _ => ⟨C, nC, m, tf⟩⟩
def DefIn (K : PySem.W.Frag) (d : Df) : Prop := ∃ (f : Addr) (fd : FuncData) (dvs : List V) (kws : List (Str × V)), FunQ K d f fd dvs kws ∧ KAt K d f
theorem def_in {K : PySem.W.Frag} {d : Df} {f : Addr} {od an : Option Addr} {sl : Array (Option Value)} {oc kV dc pm cd ct : Value}
    (a : KAt K d f) (l : K.lookup f = some ⟨oc, od, .func (PySem.W.fnOf d.nm d.qn (defArgs d.st) (defBody d.st) (defScope d.st) .none kV dc pm an cd ct), sl⟩) (c : PySem.W.codeIn K cd d.qn = true) (k : PySem.W.keepIn K (.ref f) = true) (h1 : d.dv = []) (h2 : d.kw = []) : DefIn K d :=
  ⟨f, _, [], [], ⟨⟨⟨oc, od, .none, kV, dc, pm, an, cd, ct, sl, rfl, l, c, .inl ⟨rfl, rfl⟩, .inl rfl⟩, k⟩, fun _ _ => by rw [h1]; exact .nil, by rw [h2]; rfl, fun _ _ => by rw [h2]; exact .nil⟩, a⟩
def valB : W → Value → Bool
  | .non, .none => true
  | .bl a, .bool b => a == b
  | .str s, .str y _ => decide (y.cps.toList = s)
  | .int i, .int j _ => decide (i = j)
  | _, _ => false
theorem val_of {K : PySem.W.Frag} {w : W} {u : Value} (h : valB w u = true) : ∃ v, RelV v u ∧ ∀ L H, RW K L H w v := by
  unfold valB at h
  split at h
  · exact ⟨.non, rfl, fun _ _ => .non⟩
  · rename_i a b
    have : a = b := by simpa using h
    subst this
    exact ⟨.bl a, rfl, fun _ _ => .bl a⟩
  · rename_i s y t
    have : y.cps.toList = s := by simpa using h
    subst this
    exact ⟨.str y, ⟨_, rfl⟩, fun _ _ => .str _⟩
  · rename_i i j t
    have : i = j := by simpa using h
    subst this
    exact ⟨.int i, ⟨_, rfl⟩, fun _ _ => .int i⟩
  · cases h
/-- the keyword defaults in K -/
def KwIn (K : PySem.W.Frag) (D : Addr) : List (Str × W) → Prop
  | [] => True
  | q :: r => (∃ u, PySem.W.nsIn K D q.1 = some (some u) ∧ ∃ v, RelV v u ∧ ∀ L H, RW K L H q.2 v) ∧ KwIn K D r
theorem kw_in {K : PySem.W.Frag} {D : Addr} : ∀ {l : List (Str × W)}, KwIn K D l → ∃ kws : List (Str × V), kws.map (·.1) = l.map (·.1) ∧ (∀ L H, RWs K L H (l.map (·.2)) (kws.map (·.2))) ∧ ∀ q ∈ kws, ∃ u, PySem.W.nsIn K D q.1 = some (some u) ∧ RelV q.2 u
  | [], _ => ⟨[], rfl, fun _ _ => .nil, fun q hq => by cases hq⟩
  | (x, w) :: r, ⟨⟨u, e1, v, e2, e3⟩, h⟩ => by
    obtain ⟨kws, a, b, c⟩ := kw_in h
    refine ⟨(x, v) :: kws, by rw [List.map_cons, List.map_cons, a], fun L H => .cons (e3 L H) (b L H), fun q hq => ?_⟩
    rcases List.mem_cons.mp hq with rfl | hq
    · exact ⟨u, e1, e2⟩
    · exact c q hq
theorem def_inK {K : PySem.W.Frag} {d : Df} {f D : Addr} {od an : Option Addr} {sl : Array (Option Value)} {oc dc pm cd ct : Value}
    (a : KAt K d f) (l : K.lookup f = some ⟨oc, od, .func (PySem.W.fnOf d.nm d.qn (defArgs d.st) (defBody d.st) (defScope d.st) .none (.ref D) dc pm an cd ct), sl⟩) (c : PySem.W.codeIn K cd d.qn = true) (k : PySem.W.keepIn K (.ref f) = true) (h1 : d.dv = []) (h2 : KwIn K D d.kw) : DefIn K d := by
  obtain ⟨kws, e1, e2, e3⟩ := kw_in h2
  exact ⟨f, _, [], kws, ⟨⟨⟨oc, od, .none, .ref D, dc, pm, an, cd, ct, sl, rfl, l, c, .inl ⟨rfl, rfl⟩, .inr ⟨D, rfl, e3⟩⟩, k⟩, fun _ _ => by rw [h1]; exact .nil, e1, e2⟩, a⟩
theorem kw_val {K : PySem.W.Frag} {D : Addr} {x : Str} {w : W} {u : Value} (n : PySem.W.nsIn K D x = some (some u)) (v : valB w u = true) : ∃ u, PySem.W.nsIn K D x = some (some u) ∧ ∃ v, RelV v u ∧ ∀ L H, RW K L H w v := ⟨u, n, val_of v⟩
def GlIn (K : PySem.W.Frag) (x : Str) (w : W) : Prop := ∃ u, PySem.W.nsIn K mainGlobals x = some (some u) ∧ ∃ v, RelV v u ∧ ∀ L H, RW K L H w v
theorem gl_str {K : PySem.W.Frag} {x : Str} {s : List Nat} {y : Str} {t : Tok} (a : PySem.W.nsIn K mainGlobals x = some (some (.str y t))) (e : y.cps.toList = s) : GlIn K x (.str s) := by
  subst e
  exact ⟨_, a, .str y, ⟨_, rfl⟩, fun L H => .str _⟩
def valsB : List W → List Value → Bool
  | [], [] => true
  | w :: ws, u :: us => valB w u && valsB ws us
  | _, _ => false
theorem vals_of {K : PySem.W.Frag} : ∀ {ws : List W} {us : List Value}, valsB ws us = true → ∃ xs, Vals xs us ∧ ∀ L H, RWs K L H ws xs
  | [], [], _ => ⟨[], .nil, fun _ _ => .nil⟩
  | w :: ws, u :: us, h => by
    simp only [valsB, Bool.and_eq_true] at h
    obtain ⟨x, a, b⟩ := val_of (K := K) h.1
    obtain ⟨xs, v, r⟩ := vals_of (K := K) h.2
    exact ⟨x :: xs, .cons a v, fun L H => .cons (b L H) (r L H)⟩
  | [], _ :: _, h => by cases h
  | _ :: _, [], h => by cases h
/-- positional defaults, no others -/
theorem def_inP {K : PySem.W.Frag} {d : Df} {f T : Addr} {od an od2 : Option Addr} {sl sl2 : Array (Option Value)} {oc oc2 kV dc pm cd ct : Value} {its : Array Value} {n : Nat}
    (a : KAt K d f) (l : K.lookup f = some ⟨oc, od, .func (PySem.W.fnOf d.nm d.qn (defArgs d.st) (defBody d.st) (defScope d.st) (.ref T) kV dc pm an cd ct), sl⟩) (c : PySem.W.codeIn K cd d.qn = true) (k : PySem.W.keepIn K (.ref f) = true)
    (lT : K.lookup T = some ⟨oc2, od2, .seq its n, sl2⟩) (h1 : valsB d.dv its.toList = true) (h0 : d.dv.isEmpty = false) (h2 : d.kw = []) : DefIn K d := by
  obtain ⟨dvs, e1, e2⟩ := vals_of (K := K) h1
  have hne : dvs ≠ [] := fun e => by
    subst e
    have := (e2 [] (fun _ => none)).len2
    cases hd : d.dv with
    | nil => rw [hd] at h0; cases h0
    | cons x y => rw [hd] at this; cases this
  exact ⟨f, _, dvs, [], ⟨⟨⟨oc, od, .ref T, kV, dc, pm, an, cd, ct, sl, rfl, l, c, .inr ⟨hne, T, _, its.toList, n, rfl, lT, by simp, e1⟩, .inl rfl⟩, k⟩, e2, by rw [h2]; rfl, fun _ _ => by rw [h2]; exact .nil⟩, a⟩
theorem gl_tup {K : PySem.W.Frag} {x : Str} {ws : List W} {t : Addr} {od : Option Addr} {its : Array Value} {n : Nat} {sl : Array (Option Value)} (a : PySem.W.nsIn K mainGlobals x = some (some (.ref t))) (l : K.lookup t = some ⟨.type "tuple", od, .seq its n, sl⟩)
    (z : its.size ≤ sizeLine) (v : valsB ws its.toList = true) : GlIn K x (.tup ws) := by
  obtain ⟨xs, q, r⟩ := vals_of (K := K) v
  exact ⟨_, a, .ref t, rfl, fun L H => .tup (.inr ⟨_, its, n, l, rfl, rfl, z, q⟩) (r L H)⟩
theorem law_mk {l : PySem.W.OpenLaw} {w : World} {K : PySem.W.Frag} {h : Heap} {mg : Str → Option Value} {fa : Addr} {P : Pg} {defs : List Df} {gls : List Str} {cls : List Cl} {k m i : Nat} {dl : Df} {x : Str} (X : K.In h) (G : h.Ns mainGlobals mg) (hfa : mg dl.nm = some (.ref fa))
    (hP : P.fns = defs.map Df.fn) (hd : defs.all (dfB defs P.shs gls cls) = true)
    (hS : ∀ (h : Nat) (sh : Sh) (d : Df), P.shs[h]? = some sh → defs[sh.fn]? = some d → ∃ sel, ShT d { sh with np := sh.np + d.off } sel ∧ selOk sh.ks.length d.dv (d.kw.map (·.2)) sh.fill sel = true)
    (hi : defs[i]? = some dl) (hps : dl.ps = [x]) (hnp : dl.fn.np = 1) (hb : ∀ (kV doc pm : Value) (an : Option Addr) (cdv ct u : Value), bindArgs (PySem.W.fnOf dl.nm dl.qn (defArgs dl.st) (defBody dl.st) (defScope dl.st) Value.none kV doc pm an cdv ct) ⟨[u], []⟩ = pure [(x, u)])
    (plain : ∀ ns : List Int, ns.length ≤ m → ∃ S', runF P k i [.ref 0] [.ro (ns.map W.int)] = .ok (.bl true) S')
    (hd0 : dl.dv = []) (hg0 : dl.gen = false) (hc0 : dl.cn = "") (hk0 : dl.fn.kd = 0) (hF : ∀ (i : Nat) (d : Df), defs[i]? = some d → DefIn K d) (hG : ∀ (g : Nat) x w, gls[g]? = some x → P.gls[g]? = some w → GlIn K x w) (hB : ∀ x ∈ bltNames, PySem.W.nsIn K mainGlobals x = some none) (hX : ∀ base : Heap, h.Ns mainGlobals mg → ExcF l.prog w base ⟨K, mg, cls⟩ P cls) :
    ∃ fd : FuncData, (∀ (s : Shared) (u : Value), BindsTo s fd ⟨[u], []⟩ [(x, u)]) ∧ ∀ base : Heap, K.In base → base.Ns mainGlobals mg → FnOk l.prog w K mg base (L2.CX l.prog w) k fa fd [x] (spLaw K m) := by
  obtain ⟨f, fd, dvs, kws, F, a⟩ := hF i dl hi
  have e := hfa.symm.trans (PySem.W.mg_of X G (a.fn hc0))
  cases e
  refine ⟨fd, fun s u => ?_, fun base _ _ => ?_⟩
  · obtain ⟨oc, od, dV, kV, doc, pm, an, cdv, ct, osl, e, _, _, hD, _⟩ := F.fn.ex
    subst e
    have hz : dvs = [] := by
      have := (F.rd [] (fun _ => none)).len2
      rw [hd0] at this
      exact List.eq_nil_of_length_eq_zero this.symm
    rcases hD with ⟨_, rfl⟩ | ⟨hne, _⟩
    rotate_left
    · exact absurd hz hne
    exact .of_eq (hb kV doc pm an cdv ct u)
  · have q := prog_ok (Z := ⟨K, mg, cls⟩) (P := P) (prog := l.prog) (w := w) (base := base) hP hd (fun i d hi => by
      obtain ⟨f, fd, dvs, kws, F, a⟩ := hF i d hi
      exact ⟨f, fd, dvs, kws, F, fun h => PySem.W.mg_of X G (a.fn h), fun h => by
        obtain ⟨C, c1, c2, c3, c4⟩ := a.nw h
        exact ⟨C, PySem.W.mg_of X G c1, c1, c2, c3, c4⟩, a.mt, a.dn⟩) hS (fun g x w h1 h2 => by
      obtain ⟨u, a, v, r1, r2⟩ := hG g x w h1 h2
      exact ⟨u, v, PySem.W.mg_of X G a, r1, r2⟩) (fun x hx => PySem.W.mg_none_of X G (hB x hx)) (hX base G) k i dl fa fd dvs kws hi F |>.fn hg0 hk0
    rw [hps] at q
    refine fnok_imp q (law_sp (Z := ⟨K, mg, cls⟩) (fn := dl.fn) ?_ hnp plain)
    rw [hP, List.getElem?_map, hi]; rfl
end SF
set_option Elab.async false
set_option linter.all false
set_option maxRecDepth 100000
set_option maxHeartbeats 4000000
namespace SF
open PySem L2
/-! # 14. Own classes: __init__ -/
section
variable {X : Cx} {e : Expr} {es : List Expr} {ta : TA} {b : Str} {B : Addr} {p p1 p2 pos : Pos}
/-- B.__init__(self, ..), B an own class without own __init__ -/
theorem pe_ceinit (hline : (p2.endLine == pos.line) = true) (hfew : methodCallForm ((e :: es).length + ([] : List Keyword).length) (backTo pos (starEach (e :: es) X.env)) (backToKw pos (keywordEach [] X.env)) = true) (hg : Gl X b) (hdb : (b == ("__debug__" : Str)) = false) (hm : X.mg b = some (.ref B)) (hgB : PySem.W.specialIn X.K (.ref B) "__getattribute__" = some (some (.builtin "type.__getattribute__")))
    (hty : PySem.W.typeIn X.K (.ref B) = some (.type "type")) (hrd : PySem.W.readsIn X.K B (.type "type") = true) (vV : PySem.W.findCls X.K (.ref B) (.type "type") "__init__" = some (.val (.builtin "ValueError.__init__"))) (ha : PA X (e :: es) ta)
    (he : starEach (e :: es) X.env = (false, eval e X.env) :: starEach es X.env := by rfl) (hpl : (backTo pos (starEach es X.env)).any (·.1) = false := by rfl) :
    PE X (.Call (.Attribute (.Name b p1) "__init__" p2) (e :: es) [] pos) (tVeI X.K ta) := by
  refine ⟨fun pins s σ H Q I h => ?_⟩
  have hc : eval (.Call (.Attribute (.Name b p1) "__init__" p2) (e :: es) [] pos) X.env = (do
      let ov ← eval (.Name b p1) X.env
      standAt p2.atName
      let (f, first) ← holding [ov] (getMethod ov "__init__" (do return (← importBound (.Name b p1) X.env).getD true))
      callWith pos f first (backTo pos (starEach (e :: es) X.env)) (backToKw pos (keywordEach [] X.env))) := by
    show (do
      let ov ← attributeBase (.Name b p1) "__init__" X.env (eval (.Name b p1) X.env)
      standAt p2.atName
      methodCall (.Name b p1) "__init__" p2 pos X.env ov ((e :: es).length + ([] : List Keyword).length) (backTo pos (starEach (e :: es) X.env)) (backToKw pos (keywordEach [] X.env))) = _
    unfold methodCall methodCallPos calleeOf
    rw [hfew, hline]
    rfl
  refine PySem.W.methodCall_KW (ld_glob I hg hm ?_ hdb) hc
  obtain ⟨m, fr⟩ := I.fr
  refine PySem.W.method_of_cls fr I.ok.mod.kin hgB (PySem.W.cls_val fr I.ok.mod.kin hty hrd vV (by decide +kernel) ?_)
  show wpAny _ _ (callWith pos (Value.builtin "ValueError.__init__") [] (backTo pos (starEach (e :: es) X.env)) []) _ _ _
  refine PyProof.Rows.callWith_method1 (thn (ha.run pos pins _ σ H _ (I.tok _) h) fun us s1 ⟨vs, H1, I1, r1, a, C, ws, ev, hl, T, ea, q⟩ => ?_) he hpl
  subst ev
  cases r1 with
  | @cons _ u0 _ ur ra rw' =>
    obtain rfl : u0 = Value.ref a := ra
    refine oinit_ok T I1 ea (by rw [← Paired.length rw', sizeLine_eq]; omega) fun s' J => ⟨.non, H1, J, rfl, q⟩
end
def chkSets : List Str → List Stmt → Bool
  | [], xs => match xs with
    | [] => true
    | _ => false
  | f :: fs, xs => match xs with
    | .Assign [.Attribute (.Name s _) g _] (.Name h _) _ :: r => (s == ("self" : Str)) && g == f && h == f && chkSets fs r
    | _ => false
def chkInit (b : Str) (fs : List Str) : List Stmt → Bool
  | .Expr (.Call (.Attribute (.Name b' _) i q) [.Name s _, .Constant (.str _) _ _] [] p) _ :: r => (q.endLine == p.line) && b' == b && i == ("__init__" : Str) && (s == ("self" : Str)) && chkSets fs r
  | _ => false
def tSets (K : PySem.W.Frag) (C : Addr) (fs : List Str) (k : Nat) : TS := fun D σ H => ∃ (a : Addr) (H0 : Hp) (l : List (Str × V)) (ws : List V), σ[0]? = some (some (.ref a)) ∧ ws.length = fs.length ∧ (∀ j w, ws[j]? = some w → σ[k + j]? = some (some w)) ∧
  l.length + fs.length ≤ 900 ∧
  ((l = [] ∧ H = H0 ∧ fs ≠ [] ∧ H0 a = some (exo a C none)) ∨ ∃ dx, H0 dx = none ∧ dx ≠ a ∧ H a = some (exo a C (some dx)) ∧ H dx = some (exd dx l) ∧ ∀ b, b ≠ a → b ≠ dx → H b = H0 b) ∧
  ∀ dx H2, H0 dx = none → dx ≠ a → H2 a = some (exo a C (some dx)) → H2 dx = some (exd dx ((fs.zip ws).reverse ++ l)) → (∀ b, b ≠ a → b ≠ dx → H2 b = H0 b) → D.nx σ H2
theorem sets_ok {X : Cx} {C : Addr} (T : OexC X.K C) (h0 : X.N[0]? = some ("self" : Str)) (hv : ∀ x ∈ X.N, Vis X.env.scope x) : ∀ (fs : List Str) (k : Nat) (xs : List Stmt), chkSets fs xs = true → (∀ j f, fs[j]? = some f → X.N[k + j]? = some f) → (∀ f ∈ fs, PySem.W.findIn X.K (.ref C) f = some none ∧ okName f = true) →
    PSs X xs (tSets X.K C fs k)
  | [], k, xs, h, hN, hf => by
    simp only [chkSets] at h
    split at h
    · refine pss_imp pss_nil fun D σ H ⟨a, H0, l, ws, s0, hl, hw, hz, hs, q⟩ => ?_
      have hw0 : ws = [] := List.eq_nil_of_length_eq_zero hl
      subst hw0
      rcases hs with ⟨_, _, hne, _⟩ | ⟨dx, d1, d2, d3, d4, d5⟩
      · exact absurd rfl hne
      · exact q dx H d1 d2 d3 d4 d5
    · cases h
  | f :: fs, k, xs, h, hN, hf => by
    simp only [chkSets] at h
    split at h
    · rename_i s p1 g p2 h' p3 p4 r
      simp only [Bool.and_eq_true, beq_iff_eq] at h
      obtain ⟨⟨⟨rfl, eg⟩, eh⟩, h⟩ := h
      obtain rfl := eg.symm
      obtain rfl := eh.symm
      obtain ⟨nf, okf⟩ := hf f List.mem_cons_self
      obtain ⟨o1, o2, _⟩ := okName_of okf
      have eN : X.N[k]? = some f := hN 0 f rfl
      have pself : PE X (.Name "self" p1) (tVar 0) := pe_var h0 (hv _ (List.mem_of_getElem? h0))
      have pf : PE X (.Name f p3) (tVar k) := pe_var eN (hv _ (List.mem_of_getElem? eN)) o1 o2
      refine pss_imp (pss_cons (ps_ost (p' := p2) (f := f) pself pf rfl) (sets_ok T h0 hv fs (k + 1) r h (fun j f' e => by rw [show k + 1 + j = k + (j + 1) by omega]; exact hN (j + 1) f' e) fun f' hf' => hf f' (List.mem_cons_of_mem _ hf'))) fun D σ H ⟨a, H0, l, ws, s0, hl, hw, hz, hs, q⟩ => ?_
      cases ws with
      | nil => simp at hl
      | cons w ws =>
        simp only [List.length_cons, Nat.add_right_cancel_iff] at hl
        simp only [List.length_cons] at hz
        refine ⟨w, hw 0 w rfl, .ref a, s0, a, C, rfl, T, nf, ?_⟩
        have nxt : ∀ dx H2, H0 dx = none → dx ≠ a → H2 a = some (exo a C (some dx)) → H2 dx = some (exd dx ((f, w) :: l)) → (∀ b, b ≠ a → b ≠ dx → H2 b = H0 b) → tSets X.K C fs (k + 1) D σ H2 := fun dx H2 d1 d2 d3 d4 d5 => by
          refine ⟨a, H0, (f, w) :: l, ws, s0, hl, fun j w' e => by rw [show k + 1 + j = k + (j + 1) by omega]; exact hw (j + 1) w' e, by rw [List.length_cons]; omega, .inr ⟨dx, d1, d2, d3, d4, d5⟩, fun dx2 H3 e1 e2 e3 e4 e5 => q dx2 H3 e1 e2 e3 ?_ e5⟩
          rw [e4, List.zip_cons_cons, List.reverse_cons, List.append_assoc, List.singleton_append]
        rcases hs with ⟨rfl, rfl, _, ha⟩ | ⟨dx, d1, d2, d3, d4, d5⟩
        · refine .inl ⟨ha, fun dx hd hne => nxt dx _ hd hne upd_same (by rw [upd_ne hne, upd_same]) fun b b1 b2 => by rw [upd_ne b1, upd_ne b2]⟩
        · refine .inr ⟨dx, l, d3, d4, by omega, nxt dx _ d1 d2 (by rw [upd_ne (Ne.symm d2)]; exact d3) upd_same fun b b1 b2 => by rw [upd_ne b2]; exact d5 b b1 b2⟩
    · cases h
/-- an own __init__ keeps its promise -/
theorem init_fn {prog : Program} {w : World} {base : Heap} {K : PySem.W.Frag} {mg : Str → Option Value} {C B fI : Addr} {fd : FuncData} {x qual b : Str} {ar : Arguments} {body : List Stmt} {sc : Scope} {fs : List Str}
    (F : FunD K x qual ar body sc [] [] fI fd) (S : FnScope (("self" : Str) :: fs) (("self" : Str) :: fs) sc) (hbody : chkInit b fs body = true) (hne : fs ≠ []) (h9 : fs.length ≤ 900) (hb : sc.names.lookup b = some .globalImplicit) (hdb : okName b = true)
    (hm : mg b = some (.ref B)) (hgB : PySem.W.specialIn K (.ref B) "__getattribute__" = some (some (.builtin "type.__getattribute__")))
    (hty : PySem.W.typeIn K (.ref B) = some (.type "type")) (hrd : PySem.W.readsIn K B (.type "type") = true) (vV : PySem.W.findCls K (.ref B) (.type "type") "__init__" = some (.val (.builtin "ValueError.__init__")))
    (T : OexC K C) (hf : ∀ f ∈ fs, PySem.W.findIn K (.ref C) f = some none ∧ okName f = true) : FnOk prog w K mg base (L2.CX prog w) 1 fI fd (("self" : Str) :: fs) (spInit C fs) := by
  refine F.ok S (fun vs H Q E ⟨a, ws, e, hl, _⟩ => by rw [e, List.length_cons, List.length_cons, hl]) (fun cdv A outer s H vs Q E hr h => ?_)
  unfold chkInit at hbody
  split at hbody
  case h_2 => cases hbody
  rename_i b' p1 i p2 s' p3 m j p4 p5 p6 r
  rw [Bool.and_eq_true, Bool.and_eq_true, Bool.and_eq_true, Bool.and_eq_true] at hbody
  obtain ⟨⟨⟨⟨hline, h1⟩, h2⟩, h3⟩, hset⟩ := hbody
  obtain rfl := eq_of_beq h1
  obtain rfl := eq_of_beq h2
  obtain rfl := eq_of_beq h3
  have hvis : ∀ y ∈ ("self" : Str) :: fs, Vis sc y := fun y hy => by
    rcases S.par y hy with h | h
    · exact .inl h
    · exact .inr (.inl h)
  refine ⟨_, pss_cons (ps_expr (pe_ceinit (X := cxOf (L2.CX prog w) prog w K mg base ("self" :: fs) qual sc fI cdv A outer s H E) (p1 := p1) (p2 := p2) (pos := p5) hline rfl hb (okName_of hdb).1 hm hgB hty hrd vV
      (pa_cons (pe_var (i := 0) rfl (hvis _ List.mem_cons_self)) (pa_cons pe_str pa_nil)))) (sets_ok (k := 1) T rfl hvis fs r hset (fun j f e => by rw [Nat.add_comm]; exact e) hf), ?_⟩
  obtain ⟨a, ws, rfl, hl, ha, q⟩ := h
  have st : L2.start ("self" :: fs) (.ref a :: ws) = some (.ref a) :: ws.map some := by
    unfold L2.start
    simp [hl]
  refine ⟨.ref a, by rw [st]; rfl, a, C, [.str m], rfl, (show 1 ≤ 1000 by decide), T, ha, ?_⟩
  refine ⟨a, H, [], ws, by rw [st]; rfl, hl, fun j w e => ?_, by simpa using h9, .inl ⟨rfl, rfl, hne, ha⟩, fun dx H2 d1 d2 d3 d4 d5 => q dx H2 d1 d2 d3 (by rw [List.append_nil] at d4; exact d4) d5⟩
  rw [st, Nat.add_comm]
  show (ws.map some)[j]? = _
  rw [List.getElem?_map, e]; rfl
end SF
set_option Elab.async false
set_option linter.all false
set_option maxRecDepth 100000
set_option maxHeartbeats 4000000
namespace SF
open PySem L2
/-! # 15. Own classes as they stand behind the top -/
def scB (N : List Str) (sc : Scope) : Bool := (match sc.kind with | .function => true | _ => false) && !sc.isCoroutine && !sc.isGenerator && decide N.Nodup && N.all (locB sc) && sc.names.all (fun y => match y.2 with | .free => false | _ => true)
theorem sc_of {N : List Str} {sc : Scope} (h : scB N sc = true) : FnScope N N sc := by
  unfold scB at h
  simp only [Bool.and_eq_true, Bool.not_eq_true', decide_eq_true_eq] at h
  obtain ⟨⟨⟨⟨⟨h1, h2⟩, h3⟩, h4⟩, h7⟩, h8⟩ := h
  refine ⟨?_, h2, h3, h4, List.take_length, ?_, ?_⟩
  · split at h1
    · assumption
    · cases h1
  · intro x hx
    have q := List.all_eq_true.mp h7 x hx
    unfold locB at q
    split at q
    · exact .inl (by assumption)
    · exact .inr (by assumption)
    · cases q
  · intro y hy e
    have q := List.all_eq_true.mp h8 y hy
    simp only [e] at q
    cases q
/-- the def of __init__ in a class's text -/
def initSt (c : Stmt) : Stmt := match c with
  | .ClassDef _ _ _ b _ _ _ _ _ _ _ => (b.find? fun s => match s with
    | .FunctionDef n _ _ _ _ _ _ _ _ _ => n == ("__init__" : Str)
    | _ => false).getD (.Pass ⟨0, 0, 0, 0⟩)
  | _ => .Pass ⟨0, 0, 0, 0⟩
structure IniK (K : PySem.W.Frag) (fs : List Str) (C : Addr) (qual b : Str) (st : Stmt) (fI B : Addr) (fd : FuncData) : Prop where
  fn : FunD K "__init__" qual (defArgs st) (defBody st) (defScope st) [] [] fI fd
  iC : PySem.W.findIn K (.ref C) "__init__" = some (some (.ref fI))
  tI : PySem.W.typeIn K (.ref fI) = some (.type "function")
  sc : scB (("self" : Str) :: fs) (defScope st) = true
  bd : chkInit b fs (defBody st) = true
  ne : fs ≠ []
  gb : (defScope st).names.lookup b = some .globalImplicit
  ob : okName b = true
  of : fs.all okName = true
  nB : PySem.W.nsIn K mainGlobals b = some (some (.ref B))
  gB : PySem.W.specialIn K (.ref B) "__getattribute__" = some (some (.builtin "type.__getattribute__"))
  tB : PySem.W.typeIn K (.ref B) = some (.type "type")
  rB : PySem.W.readsIn K B (.type "type") = true
  vB : PySem.W.findCls K (.ref B) (.type "type") "__init__" = some (.val (.builtin "ValueError.__init__"))
  bi : Binds K fd (("self" : Str) :: fs) []
structure ClsK (K : PySem.W.Frag) (cl : Cl) (C : Addr) : Prop where
  a : PySem.W.nsIn K mainGlobals cl.nm = some (some (.ref C))
  ox : OexC K C
  xf : XfC K C
  nd : cl.fs.Nodup
  sm : cl.fs.length ≤ 900
  no : ∀ f ∈ cl.fs, PySem.W.findIn K (.ref C) f = some none
  ns : PySem.W.subIn K (.ref C) (.type "StopIteration") = some false
  ini : cl.fs = [] ∨ ∃ qual b st fI B fd, IniK K cl.fs C qual b st fI B fd
def NoF (K : PySem.W.Frag) (C : Addr) : List Str → Prop
  | [] => True
  | f :: fs => PySem.W.findIn K (.ref C) f = some none ∧ NoF K C fs
theorem NoF.all {K : PySem.W.Frag} {C : Addr} : ∀ {fs : List Str}, NoF K C fs → ∀ f ∈ fs, PySem.W.findIn K (.ref C) f = some none
  | f :: fs, ⟨h, r⟩, g, hg => by
    rcases List.mem_cons.mp hg with rfl | hg
    · exact h
    · exact NoF.all r g hg
theorem cls_k {K : PySem.W.Frag} {cl : Cl} {C : Addr} {nm q : Str} {N : Addr} {bs bm : List Value} {sn : List Str} {sub : List Value} {ab : Bool} {col : Option Bool} {dd : Option Addr} {m0 m1 m2 m3 m5 : Option Value}
    (a : PySem.W.nsIn K mainGlobals cl.nm = some (some (.ref C))) (l : K.lookup C = some (excClassObj nm q C N bs bm true sn sub ab col dd m0 m1 m2 m3 m5 "ValueError.__new__")) (rv : PySem.HandSPX.refsVE bm = true)
    (sa : PySem.W.findIn K (.ref C) "__setattr__" = some (some (.builtin "object.__setattr__"))) (ga : PySem.W.findIn K (.ref C) "__getattribute__" = some (some (.builtin "BaseException.__getattribute__"))) (gg : PySem.W.findIn K (.ref C) "__getattr__" = some none)
    (kC : PySem.W.keepIn K (.ref C) = true) (eC : PySem.W.subIn K (.ref C) (.type "BaseException") = some true) (tC : PySem.W.typeIn K (.ref C) = some (.type "type")) (hC : PySem.W.hasDictIn K C = true)
    (nd : cl.fs.Nodup) (sm : cl.fs.length ≤ 900) (nS : PySem.W.subIn K (.ref C) (.type "StopIteration") = some false) (no : NoF K C cl.fs) (ini : cl.fs = [] ∨ ∃ qual b st fI B fd, IniK K cl.fs C qual b st fI B fd) : ClsK K cl C :=
  ⟨a, ⟨⟨nm, q, N, bs, bm, sn, sub, ab, col, dd, m0, m1, m2, m3, m5, l, rv⟩, sa, eC, tC, kC⟩, ⟨ga, gg, eC, hC⟩, nd, sm, no.all, nS, ini⟩
theorem ini_k {K : PySem.W.Frag} {fs : List Str} {C fI B : Addr} {qual b : Str} {st : Stmt} {od an : Option Addr} {sl : Array (Option Value)} {oc dc pm cd ct : Value}
    (iC : PySem.W.findIn K (.ref C) "__init__" = some (some (.ref fI))) (tI : PySem.W.typeIn K (.ref fI) = some (.type "function"))
    (l : K.lookup fI = some ⟨oc, od, .func (PySem.W.fnOf "__init__" qual (defArgs st) (defBody st) (defScope st) .none .none dc pm an cd ct), sl⟩) (c : PySem.W.codeIn K cd qual = true) (k : PySem.W.keepIn K (.ref fI) = true)
    (nB : PySem.W.nsIn K mainGlobals b = some (some (.ref B))) (gB : PySem.W.specialIn K (.ref B) "__getattribute__" = some (some (.builtin "type.__getattribute__"))) (tB : PySem.W.typeIn K (.ref B) = some (.type "type"))
    (rB : PySem.W.readsIn K B (.type "type") = true) (vB : PySem.W.findCls K (.ref B) (.type "type") "__init__" = some (.val (.builtin "ValueError.__init__")))
    (sc : scB (("self" : Str) :: fs) (defScope st) = true) (bd : chkInit b fs (defBody st) = true) (ne : fs.isEmpty = false) (gb : (defScope st).names.lookup b = some .globalImplicit) (ob : okName b = true) (of : fs.all okName = true)
    (bi : ∀ us : List Value, us.length = (("self" : Str) :: fs).length → bindArgs (PySem.W.fnOf "__init__" qual (defArgs st) (defBody st) (defScope st) .none .none dc pm an cd ct) ⟨us, []⟩ = pure ((("self" : Str) :: fs).zip us)) :
    fs = [] ∨ ∃ qual b st fI B fd, IniK K fs C qual b st fI B fd :=
  .inr ⟨qual, b, st, fI, B, _, ⟨⟨oc, od, .none, .none, dc, pm, an, cd, ct, sl, rfl, l, c, .inl ⟨rfl, rfl⟩, .inl rfl⟩, k⟩, iC, tI, sc, bd, fun z => (by rw [z] at ne; cases ne), gb, ob, of, nB, gB, tB, rB, vB, Binds.all bi⟩
theorem exm_k {K : PySem.W.Frag} {cl cl' : Cl} {C D : Addr} {b : Bool} (F : ClsK K cl C) (F' : ClsK K cl' D) (h : PySem.W.subIn K (.ref C) (.ref D) = some b) : PySem.W.exmOne K (.ref C) (.ref D) = some b :=
  PySem.W.exm_ref F'.ox.exC F'.xf.hdC F'.ox.tyC h
theorem exc_of {prog : Program} {w : World} {base h : Heap} {K : PySem.W.Frag} {mg : Str → Option Value} {cls : List Cl} {P : Pg} (X : K.In h) (G : h.Ns mainGlobals mg)
    (hc : ∀ (m : Nat) (cl : Cl), cls[m]? = some cl → ∃ (C : Addr) (up : List Nat), ClsK K cl C ∧ P.kl[m]? = some (cl.fs.length, up) ∧
      ∀ (j : Nat) (cl' : Cl) (C' : Addr), cls[j]? = some cl' → PySem.W.nsIn K mainGlobals cl'.nm = some (some (.ref C')) → PySem.W.exmOne K (.ref C) (.ref C') = some (decide (j ∈ up))) : ExcF prog w base ⟨K, mg, cls⟩ P cls := by
  refine ⟨rfl, fun m cl e => ?_⟩
  obtain ⟨C, up, F, k, z⟩ := hc m cl e
  refine ⟨C, up, ⟨PySem.W.mg_of X G F.a, F.ox, F.xf, F.nd, F.sm, F.no, F.ns, ?_⟩, k, fun j cl' C' ej hm => ?_⟩
  · rcases F.ini with h0 | ⟨qual, b, st, fI, B, fd, I⟩
    · exact .inl h0
    · exact .inr ⟨fI, fd, _, I.iC, I.tI, init_fn I.fn (sc_of I.sc) I.bd I.ne F.sm I.gb I.ob (PySem.W.mg_of X G I.nB) I.gB I.tB I.rB I.vB F.ox (fun f hf => ⟨F.no f hf, List.all_eq_true.mp I.of f hf⟩), I.bi⟩
  · obtain ⟨C2, _, F2, _, _⟩ := hc j cl' ej
    have := PySem.W.mg_of X G F2.a
    have q := (show mg cl'.nm = some (.ref C') from hm).symm.trans this
    cases q
    exact z j cl' C' ej F2.a
theorem exc_nil {prog : Program} {w : World} {base : Heap} {K : PySem.W.Frag} {mg : Str → Option Value} {P : Pg} : ExcF prog w base ⟨K, mg, []⟩ P [] := ⟨rfl, fun m cl e => by cases m <;> cases e⟩
end SF
set_option Elab.async false
set_option linter.all false
set_option maxRecDepth 100000
set_option maxHeartbeats 4000000
/-! # A language of pure values over the small language (own work): no store; a name owns the list that it changes -/
namespace EP
open PySem
open SF (Ky Bo Co Ty Bi Fi Sh lenMax bigOk small62)
inductive V where
  | non | bl (b : Bool) | int (i : Int) | str (s : List Nat) | tup (vs : List V) | lst (vs : List V) | ro (vs : List V)
  | dic (kvs : List (SF.Ky × V)) | dit (kvs : List (List SF.Ky × V)) | ins (nm : Str) (fs : List (Str × V))
  deriving Inhabited
/-- what a name owns: a list, a dict by single keys, a dict by tuples -/
inductive Ow where
  | l (vs : List V) | d (kvs : List (SF.Ky × V)) | t (kvs : List (List SF.Ky × V))
def Ow.v : Ow → V
  | .l vs => .lst vs
  | .d kvs => .dic kvs
  | .t kvs => .dit kvs
/-- what stands at a name; own true: handed in, and it goes back to who handed it in -/
inductive Sl where
  | no | val (v : V) | own (p : Bool) (o : Ow)
  deriving Inhabited
abbrev En := List Sl
structure Xn where
  cls : Nat
  fs : List V
inductive R (α : Type) where
  | ok (a : α) (σ : En)
  | ex (x : Xn) (σ : En)
  | st
def R.bind {α β : Type} (r : R α) (f : α → En → R β) : R β := match r with
  | .ok a σ => f a σ
  | .ex x σ => .ex x σ
  | .st => .st
@[simp] theorem R.bind_ok {α β : Type} (a : α) (σ : En) (f : α → En → R β) : (R.ok a σ).bind f = f a σ := rfl
@[simp] theorem R.bind_ex {α β : Type} (x : Xn) (σ : En) (f : α → En → R β) : (R.ex x σ : R α).bind f = .ex x σ := rfl
@[simp] theorem R.bind_st {α β : Type} (f : α → En → R β) : (R.st : R α).bind f = .st := rfl
def ofO {α β : Type} (o : Option α) (f : α → R β) : R β := match o with
  | some a => f a
  | none => .st
@[simp] theorem ofO_some {α β : Type} (a : α) (f : α → R β) : ofO (some a) f = f a := rfl
@[simp] theorem ofO_none {α β : Type} (f : α → R β) : ofO none f = .st := rfl
/-- a result as a value that nobody changes -/
def Sl.frz : Sl → Option V
  | .val v => some v
  | .own _ o => some o.v
  | .no => none

/-! ### data -/
mutual
def dat : Nat → V → Option PyData
  | _, .non => some .none
  | _, .bl b => some (.bool b)
  | _, .int i => some (.int i)
  | _, .str s => some (.str ⟨s.toArray⟩)
  | n, .tup vs => match dats n vs with
    | some ds => some (.tuple ds)
    | none => none
  | n, .lst vs => match n with
    | 0 => none
    | n + 1 => match dats n vs with
      | some ds => some (.list ds)
      | none => none
  | n, .ro vs => match n with
    | 0 => none
    | n + 1 => match dats n vs with
      | some ds => some (.list ds)
      | none => none
  | _, _ => none
def dats : Nat → List V → Option (List PyData)
  | _, [] => some []
  | n, v :: vs => match dat n v, dats n vs with
    | some d, some ds => some (d :: ds)
    | _, _ => none
end
def eqV (a b : V) : Option Bool := match dat 4 a, dat 4 b with
  | some d, some e => if SeqAt.shaped d && SeqAt.shaped e then some (PyData.eqv d e) else none
  | _, _ => none
def flatV : V → Bool
  | .non | .bl _ | .int _ | .str _ => true
  | _ => false
def flatEq : V → V → Bool
  | .non, .non => true
  | .bl a, .bl b => a == b
  | .bl a, .int j => (if a then 1 else 0) == j
  | .int i, .bl b => i == (if b then 1 else 0)
  | .int i, .int j => i == j
  | .str s, .str t => s == t
  | _, _ => false
/-- the items of a list or a tuple -/
def seqV : V → Option (List V)
  | .tup vs => some vs
  | .lst vs => some vs
  | .ro vs => some vs
  | _ => none
def newT (vs : List V) : Option Sl := if vs.length ≤ lenMax then some (.val (.tup vs)) else none
def newL (vs : List V) : Option Sl := if vs.length ≤ lenMax then some (.own false (.l vs)) else none
def valV (v : V) : Option Sl := some (.val v)
def binV (o : Bo) (x y : V) : Option Sl := match o, x, y with
  | .add, .int i, .int j => some (.val (.int (i + j)))
  | .add, .str s, .str t => if s.length + t.length ≤ lenMax then some (.val (.str (s ++ t))) else none
  | .add, .tup s, .tup t => newT (s ++ t)
  | .add, .lst s, .lst t => newL (s ++ t)
  | .sub, .int i, .int j => some (.val (.int (i - j)))
  | .mul, .int i, .int j => if bigOk i && bigOk j then some (.val (.int (i * j))) else none
  | .mul, .str s, .int k => if SF.repOk s.length k then some (.val (.str (List.replicate k.toNat s).flatten)) else none
  | .mul, .tup s, .int k => if SF.repOk s.length k then newT (List.replicate k.toNat s).flatten else none
  | .mul, .lst s, .int k => if SF.repOk s.length k then newL (List.replicate k.toNat s).flatten else none
  | .fdiv, .int i, .int j => if decide (0 < j) && bigOk j then some (.val (.int (i / j))) else none
  | .mod, .int i, .int j => if decide (0 < j) then some (.val (.int (i % j))) else none
  | .pow, .int i, .int j => if decide (0 ≤ j) && decide (j ≤ 60) && decide (i.natAbs < 2 ^ 400) then some (.val (.int (i ^ j.toNat))) else none
  | _, _, _ => none
def kyOf : V → Option SF.Ky
  | .int i => some (.int i)
  | .str s => some (.str s)
  | _ => none
def kysOf : List V → Option (List SF.Ky)
  | [] => some []
  | w :: ws => match kyOf w, kysOf ws with
    | some k, some ks => some (k :: ks)
    | _, _ => none
def kytOf : V → Option (List SF.Ky)
  | .tup ws => kysOf ws
  | _ => none
def kyV : SF.Ky → V
  | .int i => .int i
  | .str s => .str s
def kvGet {κ α : Type} [DecidableEq κ] (kvs : List (κ × α)) (k : κ) : Option α := (kvs.find? fun kv => decide (kv.1 = k)).map (·.2)
def kvPut {κ α : Type} [DecidableEq κ] (kvs : List (κ × α)) (k : κ) (v : α) : List (κ × α) :=
  if (kvs.any fun kv => decide (kv.1 = k)) = true then kvs.map (fun kv => if kv.1 = k then (kv.1, v) else kv) else kvs ++ [(k, v)]
def inSeq (x : V) (ws : List V) : Option Bool := if flatV x && ws.all flatV then some (ws.any fun y => flatEq y x) else none
def inV (x y : V) : Option Bool := match y with
  | .str t => match x with
    | .str s => match s with
      | [c] => some (decide (c ∈ t))
      | _ => none
    | _ => none
  | .tup ws => inSeq x ws
  | .lst ws => inSeq x ws
  | .ro ws => inSeq x ws
  | .dic kvs => (kyOf x).map fun k => (kvGet kvs k).isSome
  | _ => none
def isNonV : V → Bool
  | .non => true
  | _ => false
def cmpV (o : Co) (x y : V) : Option Bool := match o with
  | .eq => eqV x y
  | .ne => (eqV x y).map (!·)
  | .lt => match x, y with
    | .int i, .int j => some (decide (i < j))
    | _, _ => none
  | .le => match x, y with
    | .int i, .int j => some (decide (i ≤ j))
    | _, _ => none
  | .gt => match x, y with
    | .int i, .int j => some (decide (j < i))
    | _, _ => none
  | .ge => match x, y with
    | .int i, .int j => some (decide (j ≤ i))
    | _, _ => none
  | .inn => inV x y
  | .nin => (inV x y).map (!·)
  | .iss => if isNonV y then some (isNonV x) else none
  | .isn => if isNonV y then some (!isNonV x) else none
def truV : V → Option Bool
  | .non => some false
  | .bl b => some b
  | .int i => some (i != 0)
  | .str s => if s.length ≤ lenMax then some (!s.isEmpty) else none
  | .tup ws => some (!ws.isEmpty)
  | .lst ws => some (!ws.isEmpty)
  | .ro ws => some (!ws.isEmpty)
  | _ => none
def isTy : V → Ty → Option Bool
  | .non, _ => some false
  | .bl _, t => some (decide (t = .bool) || decide (t = .int))
  | .int _, t => some (decide (t = .int))
  | .str _, t => some (decide (t = .str))
  | .tup _, t => some (decide (t = .tuple))
  | .lst _, t => some (decide (t = .list))
  | .ro _, t => some (decide (t = .list))
  | _, _ => none
def isTys (v : V) : List Ty → Option Bool
  | [] => some false
  | t :: ts => match isTy v t, isTys v ts with
    | some a, some b => some (a || b)
    | _, _ => none
def itemV (x y : V) : Option V := match x, y with
  | .str s, .int i => if s.length ≤ lenMax then (L2.ixN s.length i).bind fun k => (s[k]?).map fun c => .str [c] else none
  | .tup ws, .int i => (L2.ixN ws.length i).bind fun k => ws[k]?
  | .lst ws, .int i => (L2.ixN ws.length i).bind fun k => ws[k]?
  | .ro ws, .int i => (L2.ixN ws.length i).bind fun k => ws[k]?
  | .dic kvs, k => (kyOf k).bind fun k => kvGet kvs k
  | _, _ => none
def strsOf : List V → Option (List (List Nat))
  | [] => some []
  | .str s :: ws => (strsOf ws).map (s :: ·)
  | _ => none
def boolsOf : List V → Option (List Bool)
  | [] => some []
  | .bl b :: ws => (boolsOf ws).map (b :: ·)
  | _ => none
def intsOf : List V → Option (List Int)
  | [] => some []
  | .int b :: ws => (intsOf ws).map (b :: ·)
  | _ => none
/-- texts joined -/
def jn (sep : List Nat) : List (List Nat) → List Nat
  | [] => []
  | [x] => x
  | x :: y :: r => x ++ sep ++ jn sep (y :: r)
def sS (s : List Nat) : Str := ⟨s.toArray⟩
def lenV : V → Option Nat
  | .str s => if s.length ≤ lenMax then some s.length else none
  | .tup ws => some ws.length
  | .lst ws => some ws.length
  | .ro ws => some ws.length
  | .dic kvs => some kvs.length
  | _ => none
def itemsV : V → Option (List V)
  | .tup ws => some ws
  | .lst ws => some ws
  | .ro ws => some ws
  | .dic kvs => some (kvs.map fun kv => kyV kv.1)
  | _ => none
def ded (xs : List (List Nat)) : List (List Nat) := xs.foldl (fun σ v => if v ∈ σ then σ else σ ++ [v]) []
def biV (b : Bi) (as : List V) : Option Sl := match b with
  | .int => match as with
    | [.int i] => valV (.int i)
    | [.bl k] => valV (.int (if k then 1 else 0))
    | _ => none
  | .abs => match as with
    | [.int i] => valV (.int (if i < 0 then -i else i))
    | _ => none
  | .max2 => match as with
    | [.int i, .int j] => valV (.int (if j > i then j else i))
    | _ => none
  | .min2 => match as with
    | [.int i, .int j] => valV (.int (if j < i then j else i))
    | _ => none
  | .len => match as with
    | [v] => (lenV v).bind fun n => valV (.int n)
    | _ => none
  | .list => match as with
    | [v] => (itemsV v).bind newL
    | _ => none
  | .tuple => match as with
    | [v] => (seqV v).bind newT
    | _ => none
  | .all => match as with
    | [.lst vs] => (boolsOf vs).bind fun bs => valV (.bl (bs.all id))
    | _ => none
  | .any => match as with
    | [.lst vs] => (boolsOf vs).bind fun bs => valV (.bl (bs.any id))
    | _ => none
  | .sum => match as with
    | [.lst vs] => (intsOf vs).bind fun bs => valV (.int bs.sum)
    | _ => none
  | .ord => match as with
    | [.str [c]] => valV (.int c)
    | _ => none
  | .str => match as with
    | [.int i] => if decide (-(2 ^ 62) ≤ i) && decide (i < 2 ^ 62) then valV (.str (SF.tsI i)) else none
    | _ => none
inductive Pr where
  | bin (o : Bo) | neg | cmp (o : Co) | nt | isi (t : Ty) | isis (ts : List Ty) | bi (b : Bi) | lset | ix | rev | m0 (m : SF.Me0) | fld (f : Str) | slf (nm m : Str) | blo
  deriving DecidableEq
/-- methods of texts -/
inductive Me where
  | split | join | strip1
  deriving DecidableEq
def meV (m : Me) (s : List Nat) (as : List V) : Option Sl := match m with
  | .split => match as with
    | [.str t] => if t.length ≠ 0 ∧ s.length + 2 ≤ lenMax then newL ((Txt.split (sS s) (sS t)).map fun x => .str x.cps.toList) else none
    | _ => none
  | .strip1 => match as with
    | [.str t] => if s.length ≤ lenMax then valV (.str (Txt.stripChars (sS s) (sS t)).cps.toList) else none
    | _ => none
  | .join => match as with
    | [l] => (seqV l).bind fun ws => (strsOf ws).bind fun xs => if (xs.map (·.length)).sum + xs.length * s.length ≤ lenMax then valV (.str (jn s xs)) else none
    | _ => none
def stripV (m : SF.Me0) (s : List Nat) : List Nat := match m with
  | .strip => (Txt.strip (sS s)).cps.toList
  | .rstrip => (Txt.rstrip (sS s)).cps.toList
def cutV (ws : List V) (lo hi : Option Int) : List V := (ws.drop (HT.sIx ws.length 0 lo)).take (HT.sIx ws.length ws.length hi - HT.sIx ws.length 0 lo)
def sliceV (v : V) (lo hi : Option Int) : Option Sl := match v with
  | .str s => if s.length ≤ lenMax then valV (.str (L2.cutS (sS s) lo hi).cps.toList) else none
  | .tup ws => newT (cutV ws lo hi)
  | .lst ws => newL (cutV ws lo hi)
  | .ro ws => newL (cutV ws lo hi)
  | _ => none
def prV (p : Pr) (as : List V) : Option Sl := match p with
  | .bin o => match as with
    | [x, y] => binV o x y
    | _ => none
  | .neg => match as with
    | [.int i] => valV (.int (-i))
    | _ => none
  | .cmp o => match as with
    | [x, y] => (cmpV o x y).bind fun k => valV (.bl k)
    | _ => none
  | .nt => match as with
    | [.bl k] => valV (.bl (!k))
    | _ => none
  | .isi t => match as with
    | [x] => (isTy x t).bind fun k => valV (.bl k)
    | _ => none
  | .isis ts => match as with
    | [x] => (isTys x ts).bind fun k => valV (.bl k)
    | _ => none
  | .bi b => biV b as
  | .lset => match as with
    | [v] => (seqV v).bind fun ws => (strsOf ws).bind fun xs => if xs.length ≤ 1000 then valV (.int (ded xs).length) else none
    | _ => none
  | .ix => match as with
    | [x, y] => (itemV x y).bind valV
    | _ => none
  | .rev => match as with
    | [.lst vs] => newL vs.reverse
    | _ => none
  | .m0 m => match as with
    | [.str s] => if s.length ≤ lenMax then valV (.str (stripV m s)) else none
    | _ => none
  | .fld f => match as with
    | [.ins _ fs] => (fs.lookup f).bind valV
    | _ => none
  | .blo => match as with
    | [.bl k] => valV (.bl k)
    | _ => none
  | .slf nm m => match as with
    | [.ins c fs] => if c == nm && (fs.lookup m).isNone then valV (.ins c fs) else none
    | _ => none
/-- an instance of the class of that name, without a field m -/
def isInsV (nm m : Str) : V → Bool
  | .ins c fs => c == nm && (fs.lookup m).isNone
  | _ => false
def dkOk : SF.Dk → V → Bool
  | .bool, .bl _ => true
  | .len, .int i => decide (0 ≤ i) && decide (i < 2 ^ 62)
  | .str, .str _ => true
  | _, _ => false

/-! ### syntax -/
mutual
inductive Tg where
  | na (i : Nat)
  | tu (ts : Tgs)
inductive Tgs where
  | nil
  | cons (t : Tg) (ts : Tgs)
  | star (i : Nat) (ts : Tgs)
end
mutual
inductive X where
  | var (i : Nat)
  | own (i : Nat)
  | con (v : V)
  | gl (g : Nat)
  | pr (p : Pr) (as : Xs)
  | me (m : Me) (o : X) (as : Xs)
  | sl (a : X) (lo hi : Xe)
  | bo (an : Bool) (b : Xb)
  | ch (o p : Co) (a b c : X)
  | ite (c : T) (a b : X)
  | tup (as : Xs)
  | lst (as : Xs)
  | dic0 (t : Bool)
  | comp (elt : X) (tg : Tg) (it : It) (cond : Xo) (own : List Nat)
  | call (h : Nat) (as ks : Xs)
  | mk (nm : Str) (fs : List Str) (as : Xs)
  | dun (d : SF.Dk) (h : Nat) (nm : Str) (a : X)
inductive Xs where
  | nil
  | cons (e : X) (es : Xs)
  | star (e : X) (es : Xs)
inductive Xb where
  | one (e : X)
  | cons (e : X) (bs : Xb)
inductive T where
  | val (e : X)
  | bo (an : Bool) (b : Tb)
  | nt (t : T)
inductive Tb where
  | one (t : T)
  | cons (t : T) (bs : Tb)
inductive Xo where
  | no
  | so (t : T)
inductive Xe where
  | no
  | so (e : X)
inductive It where
  | seq (e : X)
  | enm (e : X)
  | zip (a b : X)
  | rng (e : X)
  | rng2 (a b : X)
end
mutual
inductive St where
  | asg (tg : Tg) (e : X)
  | aso (i : Nat) (e : X)
  | frz (i : Nat)
  | app (i : Nat) (e : X)
  | seti (i : Nat) (k e : X)
  | aug (i : Nat) (sub : Bool) (e : X)
  | par (sw : Bool) (ts : List Nat) (es : List (Bool × X))
  | ifs (c : T) (a b : Ss)
  | fr (tg : Tg) (it : It) (b : Ss)
  | wh (c : T) (b : Ss)
  | rt (e : X)
  | rto (e : X)
  | rtN
  | ex (e : X)
  | brk
  | cnt
  | pas
  | bad
  | rs (m : Nat) (es : Xs)
  | ty (b : Ss) (hs : List SF.Hd)
  | gb (i h : Nat) (as ks : Xs)
  | fro (en : Bool) (tg : Tg) (i : Nat) (b : Ss)
inductive Ss where
  | nil
  | cons (s : St) (ss : Ss)
end

/-! ### meaning -/
inductive Src where
  | fix (vs : List V)
  | rng (lo : Int) (n : Nat)
  | enm (s : Src)
  | zip (a b : Src)
def slotL (σ : En) (i : Nat) : Option (Bool × List V) := match σ[i]? with
  | some (.own p (.l vs)) => some (p, vs)
  | _ => none
/-- what stands at a turn: nothing behind the end -/
def Src.at : Src → Nat → Option V
  | .fix ws, i => ws[i]?
  | .rng lo n, i => if i < n then some (.int (lo + i)) else none
  | .enm s, i => (s.at i).map fun w => .tup [.int i, w]
  | .zip a b, i => match a.at i, b.at i with
    | some x, some y => some (.tup [x, y])
    | _, _ => none
def Src.len : Src → Nat
  | .fix ws => ws.length
  | .rng _ n => n
  | .enm s => s.len
  | .zip a b => min a.len b.len
/-- an argument: a value or a name's own list -/
inductive A where
  | va (v : V)
  | ow (i : Nat)
def A.get (σ : En) : A → Option V
  | .va v => some v
  | .ow i => match σ[i]? with
    | some (.own _ o) => some o.v
    | _ => none
def getAs (σ : En) : List A → Option (List V)
  | [] => some []
  | a :: as => match a.get σ, getAs σ as with
    | some v, some vs => some (v :: vs)
    | _, _ => none
def valsA : List A → Option (List V)
  | [] => some []
  | .va v :: as => (valsA as).map (v :: ·)
  | _ => none
def srcV (v : V) : Option Src := (seqV v).map .fix
def rngOf : V → Option Src
  | .int j => if small62 j then some (.rng 0 j.toNat) else none
  | _ => none
def rng2Of : V → V → Option Src
  | .int i, .int j => if small62 i && small62 j then some (.rng i (j - i).toNat) else none
  | _, _ => none
/-- the arguments as they are handed in: what is a name's own leaves it -/
def takeA : List A → En → Option (List Sl × En)
  | [], σ => some ([], σ)
  | .va v :: as, σ => (takeA as σ).map fun z => (.val v :: z.1, z.2)
  | .ow i :: as, σ => match σ[i]? with
    | some (.own _ o) => (takeA as (σ.set i .no)).map fun z => (.own true o :: z.1, z.2)
    | _ => none
def flagAt (σ : En) (i : Nat) : Bool := match σ[i]? with
  | some (.own p _) => p
  | _ => false
/-- and as they come back -/
def putA (σ0 : En) : List A → List Sl → En → En
  | .va _ :: as, _ :: os, σ => putA σ0 as os σ
  | .ow i :: as, .own true o :: os, σ => (putA σ0 as os σ).set i (.own (flagAt σ0 i) o)
  | .ow _ :: as, _ :: os, σ => putA σ0 as os σ
  | _, _, σ => σ
/-- a name is stored; what was handed in is not stored over -/
def setS (σ : En) (i : Nat) (s : Sl) : Option En := if flagAt σ i then none else some (σ.set i s)
inductive CR where
  | ok (r : Sl) (outs : List Sl)
  | ex (x : Xn)
  | st
structure Cn where
  cl : Nat → List Sl → CR
  gl : Nat → Option V
  sh : Nat → Option Sh
  fuel : Nat
  kl : Nat → Option (Nat × List Nat)
  dp : Nat
def cvW : SF.W → Option V
  | .non => some .non
  | .bl b => some (.bl b)
  | .int i => some (.int i)
  | .str s => some (.str s)
  | .tup [] => some (.tup [])
  | _ => none
def fillA (ws zs : List A) : List Fi → Option (List A)
  | [] => some ws
  | .kw j :: r => match zs[j]? with
    | some z => fillA (ws ++ [z]) zs r
    | none => none
  | .df w :: r => match cvW w with
    | some v => fillA (ws ++ [.va v]) zs r
    | none => none
def tgsLen : Tgs → Nat
  | .nil => 0
  | .cons _ ts => tgsLen ts + 1
  | .star _ ts => tgsLen ts + 1
def starIx : Tgs → Option Nat
  | .nil => none
  | .cons _ ts => (starIx ts).map (· + 1)
  | .star _ _ => some 0
mutual
def asgT : Tg → V → En → Option En
  | .na i, w, σ => setS σ i (.val w)
  | .tu ts, w, σ => match starIx ts with
    | none => match w with
      | .tup ws => asgTs ts ws σ
      | _ => none
    | some i => match seqV w with
      | some ws => if tgsLen ts ≤ ws.length + 1 ∧ ws.length ≤ lenMax then
          asgTs ts (ws.take i ++ [.lst ((ws.drop i).take (ws.length - i - (tgsLen ts - 1 - i)))] ++ (ws.drop i).drop (ws.length - i - (tgsLen ts - 1 - i))) σ
        else none
      | none => none
def asgTs : Tgs → List V → En → Option En
  | .nil, [], σ => some σ
  | .cons t ts, w :: ws, σ => (asgT t w σ).bind fun σ' => asgTs ts ws σ'
  | .star i ts, w :: ws, σ => (setS σ i (.val w)).bind fun σ => asgTs ts ws σ
  | _, _, _ => none
end
def wipeE (σ : En) : List Nat → En
  | [] => σ
  | v :: vs => (wipeE σ vs).set v .no
def backE (σ0 σ : En) : List Nat → En
  | [] => σ
  | v :: vs => (backE σ0 σ vs).set v (match σ0[v]? with
    | some (.val w) => .val w
    | _ => .no)
mutual
def tgSl : Tg → List Nat
  | .na i => [i]
  | .tu ts => tgsSl ts
def tgsSl : Tgs → List Nat
  | .nil => []
  | .cons t ts => tgSl t ++ tgsSl ts
  | .star i ts => i :: tgsSl ts
end
def compGo (src : Src) (turn : V → En → R (Option V)) : Nat → Nat → List V → En → R (List V)
  | 0, i, acc, σ => match src.at i with
    | none => .ok acc σ
    | _ => .st
  | k + 1, i, acc, σ => match src.at i with
    | some w => match turn w σ with
      | .ok (some y) σ1 => if acc.length < lenMax then compGo src turn k (i + 1) (acc ++ [y]) σ1 else .st
      | .ok none σ1 => compGo src turn k (i + 1) acc σ1
      | _ => .st
    | _ => .st
/-- as an argument -/
def argA (e : X) (r : R Sl) (σ : En) : R A := match e with
  | .own i => match σ[i]? with
    | some (.own _ _) => .ok (.ow i) σ
    | some (.val v) => .ok (.va v) σ
    | _ => .st
  | _ => r.bind fun r σ => ofO r.frz fun v => .ok (.va v) σ
def plainX : Xs → Bool
  | .nil => true
  | .cons _ es => plainX es
  | .star _ _ => false
def one : Xs → Bool
  | .cons _ .nil => true
  | _ => false
def two : Xs → Bool
  | .cons _ (.cons _ .nil) => true
  | _ => false
def arOk : Pr → Xs → Bool
  | .bin _, as => two as
  | .neg, as => one as
  | .cmp _, as => two as
  | .nt, as => one as
  | .isi _, as => one as
  | .isis _, as => one as
  | .bi _, as => plainX as
  | .lset, as => one as
  | .ix, as => two as
  | .rev, as => one as
  | .m0 _, as => one as
  | .fld _, as => one as
  | .slf _ _, as => one as
  | .blo, as => one as
section
variable (c : Cn)
mutual
def ev : X → En → R Sl
  | .var i, σ => match σ[i]? with
    | some (.val v) => .ok (.val v) σ
    | _ => .st
  | .own _, _ => .st
  | .con v, σ => if flatV v then .ok (.val v) σ else .st
  | .gl g, σ => ofO (c.gl g) fun v => .ok (.val v) σ
  | .pr p as, σ => if arOk p as then (evs as σ).bind fun l σ => ofO (getAs σ l) fun vs => ofO (prV p vs) fun r => .ok r σ else .st
  | .me m o as, σ => (ev o σ).bind fun x σ => ofO x.frz fun x => match x with
    | .str s => (evs as σ).bind fun l σ => ofO (getAs σ l) fun vs => ofO (meV m s vs) fun r => .ok r σ
    | _ => .st
  | .sl a lo hi, σ => (argA a (ev a σ) σ).bind fun x σ => (evO lo σ).bind fun l σ => (evO hi σ).bind fun h σ => ofO (x.get σ) fun v => ofO (sliceV v l h) fun r => .ok r σ
  | .bo an b, σ => evB an b σ
  | .ch o p a b d, σ => (ev a σ).bind fun x σ => ofO x.frz fun x => (ev b σ).bind fun y σ => ofO y.frz fun y => ofO (cmpV o x y) fun k =>
      if k then (ev d σ).bind fun z σ => ofO z.frz fun z => ofO (cmpV p y z) fun k => .ok (.val (.bl k)) σ else .ok (.val (.bl false)) σ
  | .ite t a b, σ => (evT t σ).bind fun k σ => if k then ev a σ else ev b σ
  | .tup as, σ => (evs as σ).bind fun l σ => ofO (valsA l) fun vs => ofO (newT vs) fun r => .ok r σ
  | .lst as, σ => (evs as σ).bind fun l σ => ofO (valsA l) fun vs => ofO (newL vs) fun r => .ok r σ
  | .dic0 t, σ => .ok (.own false (if t then .t [] else .d [])) σ
  | .comp elt tg it cond own, σ => if (tgSl tg).all fun i => decide (i ∈ own) then (evI it σ).bind fun src σ0 =>
      (compGo src (fun w σ => ofO (asgT tg w (wipeE σ own)) fun σ => (evC cond σ).bind fun k σ =>
        if k then (ev elt σ).bind fun y σ => ofO y.frz fun y => .ok (some y) σ else .ok none σ) src.len 0 [] σ0).bind fun acc σ1 => .ok (.own false (.l acc)) (backE σ0 σ1 own)
      else .st
  | .call h as ks, σ => ofO (c.sh h) fun sh => (evs as σ).bind fun ws σ => (evs ks σ).bind fun zs σ =>
      if ws.length = sh.np ∧ zs.length = sh.ks.length then ofO (fillA ws zs sh.fill) fun xs => ofO (takeA xs σ) fun z => match c.cl sh.fn z.1 with
        | .ok r outs => .ok r (putA σ xs outs z.2)
        | .ex x => .ex x z.2
        | .st => .st
      else .st
  | .mk nm fs as, σ => (evs as σ).bind fun l σ => ofO (valsA l) fun vs => if vs.length = fs.length ∧ 0 < fs.length then .ok (.val (.ins nm (fs.zip vs))) σ else .st
  | .dun d h nm a, σ => ofO (c.sh h) fun sh => (ev a σ).bind fun x σ => ofO x.frz fun v => if isInsV nm d.m v then match c.cl sh.fn [.val v] with
      | .ok r _ => match r with
        | .val w => if dkOk d w then .ok (.val w) σ else .st
        | _ => .st
      | .ex x => .ex x σ
      | .st => .st
    else .st
def evs : Xs → En → R (List A)
  | .nil, σ => .ok [] σ
  | .cons e es, σ => (argA e (ev e σ) σ).bind fun a σ => (evs es σ).bind fun as σ => .ok (a :: as) σ
  | .star e es, σ => (argA e (ev e σ) σ).bind fun a σ => ofO (a.get σ) fun v => ofO (seqV v) fun vs => (evs es σ).bind fun as σ => .ok (vs.map A.va ++ as) σ
def evB (an : Bool) : Xb → En → R Sl
  | .one e, σ => ev e σ
  | .cons e es, σ => (ev e σ).bind fun w σ => match w with
    | .val (.bl k) => if k = an then evB an es σ else .ok (.val (.bl k)) σ
    | _ => .st
def evT : T → En → R Bool
  | .val e, σ => (argA e (ev e σ) σ).bind fun a σ => ofO (a.get σ) fun v => ofO (truV v) fun k => .ok k σ
  | .bo an b, σ => evTb an b σ
  | .nt t, σ => (evT t σ).bind fun k σ => .ok (!k) σ
def evTb (an : Bool) : Tb → En → R Bool
  | .one t, σ => evT t σ
  | .cons t ts, σ => (evT t σ).bind fun k σ => if k = an then evTb an ts σ else .ok k σ
def evC : Xo → En → R Bool
  | .no, σ => .ok true σ
  | .so t, σ => evT t σ
def evO : Xe → En → R (Option Int)
  | .no, σ => .ok none σ
  | .so e, σ => (ev e σ).bind fun r σ => ofO r.frz fun v => match v with
    | .int i => .ok (some i) σ
    | _ => .st
def evI : It → En → R Src
  | .seq e, σ => (ev e σ).bind fun r σ => ofO r.frz fun v => ofO (srcV v) fun s => .ok s σ
  | .enm e, σ => (ev e σ).bind fun r σ => ofO r.frz fun v => ofO (srcV v) fun s => .ok (.enm s) σ
  | .zip a b, σ => (ev a σ).bind fun r σ => ofO r.frz fun v => (ev b σ).bind fun q σ => ofO q.frz fun w => ofO (srcV v) fun s => ofO (srcV w) fun t => .ok (.zip s t) σ
  | .rng e, σ => (ev e σ).bind fun r σ => ofO r.frz fun v => ofO (rngOf v) fun s => .ok s σ
  | .rng2 a b, σ => (ev a σ).bind fun r σ => ofO r.frz fun v => (ev b σ).bind fun q σ => ofO q.frz fun w => ofO (rng2Of v w) fun s => .ok s σ
end
end
end EP
set_option Elab.async false
set_option linter.all false
set_option maxRecDepth 100000
set_option maxHeartbeats 4000000
namespace EP
open PySem
open SF (Ky Bo Co Ty Bi Fi Sh lenMax bigOk small62)
/-! # statements -/
inductive Fl where
  | nx
  | rt (r : Sl)
  | bk
  | ct
def R.then (r : R Fl) (f : En → R Fl) : R Fl := match r with
  | .ok .nx σ => f σ
  | r => r
@[simp] theorem R.then_nx (σ : En) (f : En → R Fl) : (R.ok .nx σ).then f = f σ := rfl
@[simp] theorem R.then_rt (w : Sl) (σ : En) (f : En → R Fl) : (R.ok (.rt w) σ).then f = .ok (.rt w) σ := rfl
@[simp] theorem R.then_bk (σ : En) (f : En → R Fl) : (R.ok .bk σ).then f = .ok .bk σ := rfl
@[simp] theorem R.then_ct (σ : En) (f : En → R Fl) : (R.ok .ct σ).then f = .ok .ct σ := rfl
@[simp] theorem R.then_ex (x : Xn) (σ : En) (f : En → R Fl) : (R.ex x σ : R Fl).then f = .ex x σ := rfl
@[simp] theorem R.then_st (f : En → R Fl) : (R.st : R Fl).then f = .st := rfl
def forGo (src : Src) (turn : V → En → R Fl) : Nat → Nat → En → R Fl
  | 0, i, σ => match src.at i with
    | none => .ok .nx σ
    | _ => .st
  | k + 1, i, σ => match src.at i with
    | some w => match turn w σ with
      | .ok .nx σ1 => forGo src turn k (i + 1) σ1
      | .ok .ct σ1 => forGo src turn k (i + 1) σ1
      | .ok .bk σ1 => .ok .nx σ1
      | r => r
    | _ => .st
def whGo (test : En → R Bool) (body : En → R Fl) : Nat → En → R Fl
  | 0, _ => .st
  | k + 1, σ => (test σ).bind fun b σ => if b then match body σ with
      | .ok .nx σ1 => whGo test body k σ1
      | .ok .ct σ1 => whGo test body k σ1
      | .ok .bk σ1 => .ok .nx σ1
      | r => r
    else .ok .nx σ
def setV (s : Sl) (k v : V) : Option Sl := match s with
  | .own p (.l ws) => match k with
    | .int j => (L2.ixN ws.length j).map fun n => .own p (.l (ws.set n v))
    | _ => none
  | .own p (.d kvs) => (kyOf k).bind fun q => if kvs.length < lenMax then some (.own p (.d (kvPut kvs q v))) else none
  | _ => none
def Sl.un : Sl → Sl
  | .own _ o => .own false o
  | s => s
/-- what goes back to who handed it in -/
def Sl.keep : Sl → Sl
  | .own true o => .own true o
  | _ => .no
section
variable (c : Cn)
def evR (e : X) (r : R Sl) (σ : En) : R Sl := match e with
  | .own i => match σ[i]? with
    | some (.own _ o) => .ok (.own false o) (σ.set i .no)
    | _ => .st
  | _ => r
def isOwned : Sl → Bool
  | .own _ _ => true
  | _ => false
/-- a result as it is stored: its own, or as a value -/
def pk (o : Bool) (r : Sl) : Option Sl := if o then (if isOwned r then some r.un else none) else r.frz.map .val
def evP : List (Bool × X) → En → R (List Sl)
  | [], σ => .ok [] σ
  | (o, e) :: es, σ => (ev c e σ).bind fun r σ => ofO (pk o r) fun s => (evP es σ).bind fun ss σ => .ok (s :: ss) σ
def setP : List Nat → List Sl → En → Option En
  | i :: ts, s :: ss, σ => (setS σ i s).bind fun σ => setP ts ss σ
  | _, _, σ => some σ
/-! what an except suite makes -/
mutual
def evX (x : Xn) : SF.XE → Option V
  | .con w => if SF.flatW w then cvW w else none
  | .fld m k => if x.cls = m then x.fs[k]? else none
  | .tup xs => (evXs x xs).bind fun vs => if vs.length ≤ lenMax then some (.tup vs) else none
  | .lst xs => (evXs x xs).bind fun vs => if vs.length ≤ lenMax then some (.lst vs) else none
def evXs (x : Xn) : SF.XEs → Option (List V)
  | .nil => some []
  | .cons e es => (evX x e).bind fun v => (evXs x es).bind fun vs => some (v :: vs)
end
def hdGo (x : Xn) (fin : Option SF.XE) : List (Nat × SF.XE) → En → R Fl
  | [], σ => match fin with
    | none => .ok .nx σ
    | some e => ofO (evX x e) fun v => .ok (.rt (.val v)) σ
  | (j, e) :: r, σ => ofO (evX x e) fun v => ofO (setS σ j (.val v)) fun σ => hdGo x fin r σ
def R.clr (r : R Fl) (o : Option Nat) : R Fl := match o with
  | none => r
  | some i => match r with
    | .ok .nx σ => ofO (setS σ i .no) fun σ => .ok .nx σ
    | r => r
def slE (σ : En) : Option Nat → Option En
  | none => some σ
  | some i => setS σ i .no
def hdsGo (kl : Nat → Option (Nat × List Nat)) (x : Xn) : List SF.Hd → En → R Fl
  | [], σ => .ex x σ
  | h :: hs, σ => match kl x.cls with
    | some k => if h.cls ∈ k.2 then ofO (slE σ h.sl) fun σ => (hdGo x h.fin h.as σ).clr h.sl else hdsGo kl x hs σ
    | none => .st
/-- a loop over a list that a name owns; the name keeps it -/
def foGo (i : Nat) (en : Bool) (turn : V → En → R Fl) : Nat → Nat → En → R Fl
  | 0, j, σ => match slotL σ i with
    | some (true, vs) => match vs[j]? with
      | none => .ok .nx σ
      | some _ => .st
    | _ => .st
  | k + 1, j, σ => match slotL σ i with
    | some (true, vs) => match vs[j]? with
      | some v => match turn (if en then .tup [.int j, v] else v) σ with
        | .ok .nx σ1 => foGo i en turn k (j + 1) σ1
        | .ok .ct σ1 => foGo i en turn k (j + 1) σ1
        | .ok .bk σ1 => .ok .nx σ1
        | r => r
      | none => .st
    | _ => .st
def mark (i : Nat) (p : Bool) (σ : En) : Option En := match σ[i]? with
  | some (.own true o) => some (σ.set i (.own p o))
  | _ => none
def R.mrk (i : Nat) (p : Bool) (r : R Fl) : R Fl := match r with
  | .ok f σ => ofO (mark i p σ) fun σ => .ok f σ
  | .ex x σ => ofO (mark i p σ) fun σ => .ex x σ
  | .st => .st
mutual
def exS : St → En → R Fl
  | .asg tg e, σ => (ev c e σ).bind fun r σ => ofO r.frz fun v => ofO (asgT tg v σ) fun σ => .ok .nx σ
  | .aso i e, σ => (ev c e σ).bind fun r σ => if isOwned r then ofO (setS σ i r.un) fun σ => .ok .nx σ else .st
  | .frz i, σ => ofO σ[i]? fun s => ofO s.frz fun v => .ok .nx (σ.set i (.val v))
  | .app i e, σ => ofO (slotL σ i) fun _ => (ev c e σ).bind fun r σ => ofO r.frz fun v => ofO (slotL σ i) fun z => if z.2.length < lenMax then .ok .nx (σ.set i (.own z.1 (.l (z.2 ++ [v])))) else .st
  | .seti i k e, σ => (ev c e σ).bind fun r σ => ofO r.frz fun v => ofO σ[i]? fun s => if isOwned s then (ev c k σ).bind fun q σ => ofO q.frz fun k => ofO σ[i]? fun s => ofO (setV s k v) fun s => .ok .nx (σ.set i s) else .st
  | .aug i sub e, σ => match σ[i]? with
    | some (.val (.int a)) => (ev c e σ).bind fun r σ => match r with
      | .val (.int b) => ofO (setS σ i (.val (.int (if sub then a - b else a + b)))) fun σ => .ok .nx σ
      | _ => .st
    | _ => .st
  | .par sw ts es, σ => if ts.length = es.length ∧ es.length < 10 ∧ (sw = false ∨ es.length = 2 ∨ es.length = 3) then (evP c es σ).bind fun ss σ => ofO (setP ts ss σ) fun σ => .ok .nx σ else .st
  | .ifs t a b, σ => (evT c t σ).bind fun k σ => if k then exs a σ else exs b σ
  | .fr tg it b, σ => (evI c it σ).bind fun src σ => forGo src (fun w σ => ofO (asgT tg w σ) fun σ => exs b σ) src.len 0 σ
  | .wh t b, σ => whGo (evT c t) (exs b) c.fuel σ
  | .rt e, σ => (ev c e σ).bind fun r σ => ofO r.frz fun v => .ok (.rt (.val v)) σ
  | .rto e, σ => (evR e (ev c e σ) σ).bind fun r σ => if isOwned r then .ok (.rt r) σ else .st
  | .rtN, σ => .ok (.rt (.val .non)) σ
  | .ex e, σ => (ev c e σ).bind fun _ σ => .ok .nx σ
  | .brk, σ => .ok .bk σ
  | .cnt, σ => .ok .ct σ
  | .pas, σ => .ok .nx σ
  | .bad, _ => .st
  | .rs m es, σ => if 2 ≤ c.dp then (evs c es σ).bind fun l σ => ofO (valsA l) fun vs => match c.kl m with
    | some k => if vs.length = k.1 then .ex ⟨m, vs⟩ σ else .st
    | none => .st
    else .st
  | .ty b hs, σ => match exs b σ with
    | .ex x σ => hdsGo c.kl x hs σ
    | r => r
  | .gb i h as ks, σ => (ev c (.call h as ks) σ).bind fun r σ => match r with
    | .val (.tup [v]) => ofO (setS σ i (.val v)) fun σ => .ok .nx σ
    | .val .non => .ok .nx σ
    | _ => .st
  | .fro en tg i b, σ => match slotL σ i with
    | some (p, vs) => R.mrk i p (foGo i en (fun w σ => ofO (asgT tg w σ) fun σ => exs b σ) vs.length 0 (σ.set i (.own true (.l vs))))
    | none => .st
def exs : Ss → En → R Fl
  | .nil, σ => .ok .nx σ
  | .cons s ss, σ => (exS s σ).then fun σ => exs ss σ
end
end
/-- a function: parameters first, then the other names -/
def Sl.isVal : Sl → Bool
  | .val _ => true
  | _ => false
structure Fn where
  np : Nat
  ns : Nat
  body : Ss
  /-- 0 a def, 1 one that is called by the way of its name's underlines, 2 an __init__ -/
  kd : Nat
structure Pg where
  fns : List Fn
  gls : List V
  shs : List Sh
  fuel : Nat
  kl : List (Nat × List Nat) := []
/-- a call, so many calls deep -/
def runF (P : Pg) : Nat → Nat → List Sl → CR
  | 0, _, _ => .st
  | n + 1, f, ps => match P.fns[f]? with
    | none => .st
    | some fn => if ps.length = fn.np then
        match fn.kd with
        | 0 => match exs { cl := runF P n, gl := fun g => P.gls[g]?, sh := fun h => P.shs[h]?, fuel := P.fuel, kl := fun m => P.kl[m]?, dp := n } fn.body (ps ++ List.replicate (fn.ns - fn.np) .no) with
          | .ok (.rt r) σ => .ok r ((σ.take fn.np).map Sl.keep)
          | .ok .nx σ => .ok (.val .non) ((σ.take fn.np).map Sl.keep)
          | .ex x _ => .ex x
          | _ => .st
        | 1 => match n with
          | 0 => .st
          | 1 => .st
          | n + 2 => match exs { cl := runF P n, gl := fun g => P.gls[g]?, sh := fun h => P.shs[h]?, fuel := P.fuel, kl := fun m => P.kl[m]?, dp := n } fn.body (ps ++ List.replicate (fn.ns - fn.np) .no) with
            | .ok (.rt r) σ => .ok r ((σ.take fn.np).map Sl.keep)
            | .ok .nx σ => .ok (.val .non) ((σ.take fn.np).map Sl.keep)
            | .ex x _ => .ex x
            | _ => .st
        | _ => match n with
          | 0 => .st
          | n + 1 => if ps.all Sl.isVal then match exs { cl := runF P n, gl := fun g => P.gls[g]?, sh := fun h => P.shs[h]?, fuel := P.fuel, kl := fun m => P.kl[m]?, dp := n } fn.body (.no :: (ps ++ List.replicate (fn.ns - fn.np - 1) .no)) with
            | .ok (.rt r) σ => .ok r (ps.map fun _ => .no)
            | .ok .nx σ => .ok (.val .non) (ps.map fun _ => .no)
            | .ex x _ => .ex x
            | _ => .st
            else .st
      else .st
abbrev cn (P : Pg) (n : Nat) : Cn := { cl := runF P n, gl := fun g => P.gls[g]?, sh := fun h => P.shs[h]?, fuel := P.fuel, kl := fun m => P.kl[m]?, dp := n }

/-! # into the small language -/
mutual
def cvW2 : V → SF.W
  | .non => .non
  | .bl b => .bl b
  | .int i => .int i
  | .str s => .str s
  | .tup vs => .tup (cvWs vs)
  | _ => .non
def cvWs : List V → List SF.W
  | [] => []
  | v :: vs => cvW2 v :: cvWs vs
end
mutual
/-- ground data -/
def gr : V → Bool
  | .non | .bl _ | .int _ | .str _ => true
  | .tup vs => grs vs
  | _ => false
def grs : List V → Bool
  | [] => true
  | v :: vs => gr v && grs vs
end
def cmpP (p : Pr) (es : SF.Es) : SF.E := match p with
  | .bin o => match es with
    | .cons a (.cons b .nil) => .bin o a b
    | _ => .con .non
  | .neg => match es with
    | .cons a .nil => .neg a
    | _ => .con .non
  | .cmp o => match es with
    | .cons a (.cons b .nil) => .cmp o a b
    | _ => .con .non
  | .nt => match es with
    | .cons a .nil => .nt a
    | _ => .con .non
  | .isi t => match es with
    | .cons a .nil => .isi a t
    | _ => .con .non
  | .isis ts => match es with
    | .cons a .nil => .isis a ts
    | _ => .con .non
  | .bi b => .bi b es
  | .lset => match es with
    | .cons a .nil => .lset a
    | _ => .con .non
  | .ix => match es with
    | .cons a (.cons b .nil) => .ix a b
    | _ => .con .non
  | .rev => match es with
    | .cons a .nil => .rev a
    | _ => .con .non
  | .m0 m => match es with
    | .cons a .nil => .me0 m a
    | _ => .con .non
  | .fld f => match es with
    | .cons a .nil => .fld a f
    | _ => .con .non
  | .slf nm m => match es with
    | .cons a .nil => .slf nm m a
    | _ => .con .non
  | .blo => match es with
    | .cons a .nil => .blo a
    | _ => .con .non
def cmpM : Me → SF.Me
  | .split => .split
  | .join => .join
  | .strip1 => .strip1
mutual
def cmpTg : Tg → SF.Tg
  | .na i => .na i
  | .tu ts => .tu (cmpTgs ts)
def cmpTgs : Tgs → SF.Tgs
  | .nil => .nil
  | .cons t ts => .cons (cmpTg t) (cmpTgs ts)
  | .star i ts => .star i (cmpTgs ts)
end
def mkT (e : SF.E) : SF.Tt := match e with
  | .cmp o a b => .cmp o a b
  | .ch o p a b d => .ch o p a b d
  | e => .val e
mutual
def cmpX : X → SF.E
  | .var i => .var i
  | .own i => .var i
  | .con v => .con (cvW2 v)
  | .gl g => .gl g
  | .pr p as => cmpP p (cmpXs as)
  | .me m o as => .me (cmpM m) (cmpX o) (cmpXs as)
  | .sl a lo hi => .sl (cmpX a) (cmpXe lo) (cmpXe hi)
  | .bo an b => .bo an (cmpXb b)
  | .ch o p a b d => .ch o p (cmpX a) (cmpX b) (cmpX d)
  | .ite t a b => .ite (cmpT t) (cmpX a) (cmpX b)
  | .tup as => .tup (cmpXs as)
  | .lst as => .lst (cmpXs as)
  | .dic0 t => .dic0 t
  | .comp elt tg it cond own => .comp (cmpX elt) (cmpTg tg) (cmpIt it) (cmpXo cond) own
  | .call h as ks => .call h (cmpXs as) (cmpXs ks)
  | .mk nm fs as => .mk nm fs (cmpXs as)
  | .dun d h nm a => .dun d h nm (cmpX a)
def cmpXs : Xs → SF.Es
  | .nil => .nil
  | .cons e es => .cons (cmpX e) (cmpXs es)
  | .star e es => .star (cmpX e) (cmpXs es)
def cmpXb : Xb → SF.Eb
  | .one e => .one (cmpX e)
  | .cons e bs => .cons (cmpX e) (cmpXb bs)
def cmpT : T → SF.Tt
  | .val e => mkT (cmpX e)
  | .bo an b => .bo an (cmpTb b)
  | .nt t => .nt (cmpT t)
def cmpTb : Tb → SF.Tb
  | .one t => .one (cmpT t)
  | .cons t ts => .cons (cmpT t) (cmpTb ts)
def cmpXo : Xo → SF.Ot
  | .no => .no
  | .so t => .so (cmpT t)
def cmpXe : Xe → SF.Oe
  | .no => .no
  | .so e => .so (cmpX e)
def cmpIt : It → SF.It
  | .seq e => .seq (cmpX e)
  | .enm e => .enm (cmpX e)
  | .zip a b => .zip (cmpX a) (cmpX b)
  | .rng e => .rng (cmpX e)
  | .rng2 a b => .rng2 (cmpX a) (cmpX b)
end
def naTs : List Nat → SF.Tgs
  | [] => .nil
  | i :: ts => .cons (.na i) (naTs ts)
def esOf : List SF.E → SF.Es
  | [] => .nil
  | e :: es => .cons e (esOf es)
def cmpPar (ts : List Nat) (es : List SF.E) : SF.St := match ts, es with
  | [i, j], [a, b] => .par i j a b
  | [i, j, l], [a, b, d] => .par3 i j l a b d
  | _, _ => .pas
mutual
def cmpS : St → SF.St
  | .asg tg e => .asg (cmpTg tg) (cmpX e)
  | .aso i e => .asg (.na i) (cmpX e)
  | .frz _ => .pas
  | .app i e => .ex (.me .append (.var i) (.cons (cmpX e) .nil))
  | .seti i k e => .seti (.var i) (cmpX k) (cmpX e)
  | .aug i sub e => .aug i sub (cmpX e)
  | .par sw ts es => if sw then cmpPar ts (es.map fun z => cmpX z.2) else .asg (.tu (naTs ts)) (.tup (esOf (es.map fun z => cmpX z.2)))
  | .ifs t a b => .ifs (cmpT t) (cmpSs a) (cmpSs b)
  | .fr tg it b => .fr (cmpTg tg) (cmpIt it) (cmpSs b)
  | .wh t b => .wh (cmpT t) (cmpSs b)
  | .rt e => .rt (cmpX e)
  | .rto e => .rt (cmpX e)
  | .rs m es => .rs m (cmpXs es)
  | .ty b hs => .ty (cmpSs b) hs
  | .gb i h as ks => .gb i h (cmpXs as) (cmpXs ks)
  | .fro en tg i b => .fr (cmpTg tg) (if en then .enm (.var i) else .seq (.var i)) (cmpSs b)
  | .rtN => .rtN
  | .ex e => .ex (cmpX e)
  | .brk => .brk
  | .cnt => .cnt
  | .pas => .pas
  | .bad => .bad
def cmpSs : Ss → SF.Ss
  | .nil => .nil
  | .cons (.frz _) ss => cmpSs ss
  | .cons s ss => .cons (cmpS s) (cmpSs ss)
end
def cmpFn (f : Fn) : SF.Fn := ⟨f.np, f.ns, cmpSs f.body, f.kd⟩
def cmpPg (P : Pg) : SF.Pg := ⟨P.fns.map cmpFn, P.gls.map cvW2, P.shs, P.fuel, P.kl⟩
end EP
set_option Elab.async false
set_option linter.all false
set_option maxRecDepth 100000
set_option maxHeartbeats 4000000
namespace EP
open PySem
open SF (Ky Bo Co Ty Bi Fi Sh lenMax bigOk small62)
open SF (Sg W WO)
/-! # how values stand in the store -/
section
variable (S : Sg) (P : Nat → Prop)
mutual
inductive Fz : V → W → Prop
  | non : Fz .non .non
  | bl (b : Bool) : Fz (.bl b) (.bl b)
  | int (i : Int) : Fz (.int i) (.int i)
  | str (s : List Nat) : Fz (.str s) (.str s)
  | tup {vs : List V} {ws : List W} (h : Fzs vs ws) : Fz (.tup vs) (.tup ws)
  | lst {vs : List V} {ws : List W} {l : Nat} (p : ¬ P l) (e : S[l]? = some (.lst ws)) (h : Fzs vs ws) : Fz (.lst vs) (.ref l)
  | ro {vs : List V} {ws : List W} {l : Nat} (p : ¬ P l) (e : S[l]? = some (.ro ws)) (h : Fzs vs ws) : Fz (.ro vs) (.ref l)
  | dic {kvs : List (Ky × V)} {qs : List (Ky × W)} {l : Nat} (p : ¬ P l) (e : S[l]? = some (.dic qs)) (h : FzK kvs qs) : Fz (.dic kvs) (.ref l)
  | dit {kvs : List (List Ky × V)} {qs : List (List Ky × W)} {l : Nat} (p : ¬ P l) (e : S[l]? = some (.dit qs)) (h : FzT kvs qs) : Fz (.dit kvs) (.ref l)
  | ins {nm : Str} {fs : List (Str × V)} {gs : List (Str × W)} {l : Nat} (p : ¬ P l) (e : S[l]? = some (.ins nm gs)) (h : FzN fs gs) : Fz (.ins nm fs) (.ref l)
inductive Fzs : List V → List W → Prop
  | nil : Fzs [] []
  | cons {v : V} {w : W} {vs : List V} {ws : List W} (h : Fz v w) (r : Fzs vs ws) : Fzs (v :: vs) (w :: ws)
inductive FzK : List (Ky × V) → List (Ky × W) → Prop
  | nil : FzK [] []
  | cons {k : Ky} {v : V} {w : W} {kvs : List (Ky × V)} {qs : List (Ky × W)} (h : Fz v w) (r : FzK kvs qs) : FzK ((k, v) :: kvs) ((k, w) :: qs)
inductive FzN : List (Str × V) → List (Str × W) → Prop
  | nil : FzN [] []
  | cons {k : Str} {v : V} {w : W} {kvs : List (Str × V)} {qs : List (Str × W)} (h : Fz v w) (r : FzN kvs qs) : FzN ((k, v) :: kvs) ((k, w) :: qs)
inductive FzT : List (List Ky × V) → List (List Ky × W) → Prop
  | nil : FzT [] []
  | cons {k : List Ky} {v : V} {w : W} {kvs : List (List Ky × V)} {qs : List (List Ky × W)} (h : Fz v w) (r : FzT kvs qs) : FzT ((k, v) :: kvs) ((k, w) :: qs)
end
/-- what an owned thing is in the store -/
inductive OwR : Ow → WO → Prop
  | l {vs : List V} {ws : List W} (h : Fzs S P vs ws) : OwR (.l vs) (.lst ws)
  | d {kvs : List (Ky × V)} {qs : List (Ky × W)} (h : FzK S P kvs qs) : OwR (.d kvs) (.dic qs)
  | t {kvs : List (List Ky × V)} {qs : List (List Ky × W)} (h : FzT S P kvs qs) : OwR (.t kvs) (.dit qs)
inductive SlR : Sl → Option W → Prop
  | no (o : Option W) : SlR .no o
  | val {v : V} {w : W} (h : Fz S P v w) : SlR (.val v) (some w)
  | own {p : Bool} {o : Ow} {u : WO} {l : Nat} (e : S[l]? = some u) (h : OwR S P o u) : SlR (.own p o) (some (.ref l))
end
section
variable {S S' : Sg} {P P' : Nat → Prop}
mutual
theorem Fz.mono (h1 : ∀ l, l < S.length → ¬ P l → S'[l]? = S[l]?) (h2 : ∀ l, l < S.length → P' l → P l) : ∀ {v : V} {w : W}, Fz S P v w → Fz S' P' v w
  | _, _, .non => .non
  | _, _, .bl b => .bl b
  | _, _, .int i => .int i
  | _, _, .str s => .str s
  | _, _, .tup h => .tup (Fzs.mono h1 h2 h)
  | _, _, .lst p e h => have hl := (List.getElem?_eq_some_iff.mp e).1; .lst (fun q => p (h2 _ hl q)) ((h1 _ hl p).trans e) (Fzs.mono h1 h2 h)
  | _, _, .ro p e h => have hl := (List.getElem?_eq_some_iff.mp e).1; .ro (fun q => p (h2 _ hl q)) ((h1 _ hl p).trans e) (Fzs.mono h1 h2 h)
  | _, _, .dic p e h => have hl := (List.getElem?_eq_some_iff.mp e).1; .dic (fun q => p (h2 _ hl q)) ((h1 _ hl p).trans e) (FzK.mono h1 h2 h)
  | _, _, .dit p e h => have hl := (List.getElem?_eq_some_iff.mp e).1; .dit (fun q => p (h2 _ hl q)) ((h1 _ hl p).trans e) (FzT.mono h1 h2 h)
  | _, _, .ins p e h => have hl := (List.getElem?_eq_some_iff.mp e).1; .ins (fun q => p (h2 _ hl q)) ((h1 _ hl p).trans e) (FzN.mono h1 h2 h)
theorem FzN.mono (h1 : ∀ l, l < S.length → ¬ P l → S'[l]? = S[l]?) (h2 : ∀ l, l < S.length → P' l → P l) : ∀ {vs : List (Str × V)} {ws : List (Str × W)}, FzN S P vs ws → FzN S' P' vs ws
  | _, _, .nil => .nil
  | _, _, .cons h r => .cons (Fz.mono h1 h2 h) (FzN.mono h1 h2 r)
theorem Fzs.mono (h1 : ∀ l, l < S.length → ¬ P l → S'[l]? = S[l]?) (h2 : ∀ l, l < S.length → P' l → P l) : ∀ {vs : List V} {ws : List W}, Fzs S P vs ws → Fzs S' P' vs ws
  | _, _, .nil => .nil
  | _, _, .cons h r => .cons (Fz.mono h1 h2 h) (Fzs.mono h1 h2 r)
theorem FzK.mono (h1 : ∀ l, l < S.length → ¬ P l → S'[l]? = S[l]?) (h2 : ∀ l, l < S.length → P' l → P l) : ∀ {vs : List (Ky × V)} {ws : List (Ky × W)}, FzK S P vs ws → FzK S' P' vs ws
  | _, _, .nil => .nil
  | _, _, .cons h r => .cons (Fz.mono h1 h2 h) (FzK.mono h1 h2 r)
theorem FzT.mono (h1 : ∀ l, l < S.length → ¬ P l → S'[l]? = S[l]?) (h2 : ∀ l, l < S.length → P' l → P l) : ∀ {vs : List (List Ky × V)} {ws : List (List Ky × W)}, FzT S P vs ws → FzT S' P' vs ws
  | _, _, .nil => .nil
  | _, _, .cons h r => .cons (Fz.mono h1 h2 h) (FzT.mono h1 h2 r)
end
theorem OwR.mono (h1 : ∀ l, l < S.length → ¬ P l → S'[l]? = S[l]?) (h2 : ∀ l, l < S.length → P' l → P l) {o : Ow} {u : WO} (h : OwR S P o u) : OwR S' P' o u := by
  cases h with
  | l h => exact .l (h.mono h1 h2)
  | d h => exact .d (h.mono h1 h2)
  | t h => exact .t (h.mono h1 h2)
theorem Fzs.length {vs : List V} {ws : List W} (r : Fzs S P vs ws) : vs.length = ws.length := by
  induction vs generalizing ws with
  | nil => cases r; rfl
  | cons w vs ih => cases r with | cons h r => simp [ih r]
theorem FzN.get {fs : List (Str × V)} {gs : List (Str × W)} (r : FzN S P fs gs) (f : Str) : match fs.lookup f with
    | some v => ∃ w, gs.lookup f = some w ∧ Fz S P v w
    | none => gs.lookup f = none := by
  induction fs generalizing gs with
  | nil => cases r; rfl
  | cons a fs ih =>
    cases r with
    | @cons k v w _ qs h r =>
      have i := ih r
      rw [List.lookup_cons, List.lookup_cons]
      cases f == k with
      | true => exact ⟨_, rfl, h⟩
      | false => exact i
theorem Fzs.named {vs : List V} {ws : List W} (r : Fzs S P vs ws) : ∀ fs : List Str, FzN S P (fs.zip vs) (fs.zip ws) := by
  induction vs generalizing ws with
  | nil => cases r; intro fs; cases fs <;> exact .nil
  | cons v vs ih =>
    cases r with
    | cons h r =>
      intro fs
      cases fs with
      | nil => exact .nil
      | cons f fs => exact .cons h (ih r fs)
theorem FzK.length {vs : List (Ky × V)} {ws : List (Ky × W)} (r : FzK S P vs ws) : vs.length = ws.length := by
  induction vs generalizing ws with
  | nil => cases r; rfl
  | cons w vs ih => cases r with | cons h r => simp [ih r]
theorem Fzs.get {vs : List V} {ws : List W} (r : Fzs S P vs ws) : ∀ {i : Nat} {v : V}, vs[i]? = some v → ∃ w, ws[i]? = some w ∧ Fz S P v w := by
  induction vs generalizing ws with
  | nil => intro i w h; simp at h
  | cons x vs ih =>
    cases r with
    | cons h r =>
      intro i w e
      cases i with
      | zero => simp at e; subst e; exact ⟨_, rfl, h⟩
      | succ i => simpa using ih r (by simpa using e)
theorem Fzs.none {vs : List V} {ws : List W} (r : Fzs S P vs ws) {i : Nat} (h : vs[i]? = Option.none) : ws[i]? = Option.none := by
  rw [List.getElem?_eq_none_iff] at *
  rw [← r.length]; exact h
theorem Fzs.append {ws us : List V} {vs ts : List W} (r : Fzs S P ws vs) (q : Fzs S P us ts) : Fzs S P (ws ++ us) (vs ++ ts) := by
  induction ws generalizing vs with
  | nil => cases r; exact q
  | cons w ws ih => cases r with | cons h r => exact .cons h (ih r)
theorem Fzs.take {ws : List V} {vs : List W} (r : Fzs S P ws vs) : ∀ n, Fzs S P (ws.take n) (vs.take n) := by
  induction ws generalizing vs with
  | nil => cases r; intro n; simp; exact .nil
  | cons w ws ih =>
    cases r with
    | cons h r =>
      intro n
      cases n with
      | zero => exact .nil
      | succ n => exact .cons h (ih r n)
theorem Fzs.drop {ws : List V} {vs : List W} (r : Fzs S P ws vs) : ∀ n, Fzs S P (ws.drop n) (vs.drop n) := by
  induction ws generalizing vs with
  | nil => cases r; intro n; simp; exact .nil
  | cons w ws ih =>
    cases r with
    | cons h r =>
      intro n
      cases n with
      | zero => exact .cons h r
      | succ n => exact ih r n
theorem Fzs.set {ws : List V} {vs : List W} (r : Fzs S P ws vs) {w : V} {v : W} (h : Fz S P w v) : ∀ n, Fzs S P (ws.set n w) (vs.set n v) := by
  induction ws generalizing vs with
  | nil => cases r; intro n; simp; exact .nil
  | cons x ws ih =>
    cases r with
    | cons q r =>
      intro n
      cases n with
      | zero => exact .cons h r
      | succ n => exact .cons q (ih r n)
end
/-! # names -/
def adr : Sl → Option W → Option Nat
  | .own _ _, some (.ref l) => some l
  | _, _ => none
def Adr (σ : En) (τ : SF.En) (l : Nat) : Prop := ∃ (i : Nat) (s : Sl) (o : Option W), σ[i]? = some s ∧ τ[i]? = some o ∧ adr s o = some l
def Own (F : Nat → Prop) (σ : En) (τ : SF.En) (l : Nat) : Prop := F l ∨ Adr σ τ l
structure ER (S : Sg) (F : Nat → Prop) (σ : En) (τ : SF.En) : Prop where
  len : σ.length = τ.length
  gt : ∀ (i : Nat) (s : Sl) (o : Option W), σ[i]? = some s → τ[i]? = some o → SlR S (Own F σ τ) s o
  inj : ∀ (i j : Nat) (s : Sl) (o : Option W) (s' : Sl) (o' : Option W) (l : Nat), σ[i]? = some s → τ[i]? = some o → σ[j]? = some s' → τ[j]? = some o' → adr s o = some l → adr s' o' = some l → i = j
  dis : ∀ l, Adr σ τ l → ¬ F l
  bd : ∀ l, F l → l < S.length
theorem SlR.mono {S S' : Sg} {P P' : Nat → Prop} (h1 : ∀ l, l < S.length → ¬ P l → S'[l]? = S[l]?) (h2 : ∀ l, l < S.length → P' l → P l) {s : Sl} {o : Option W} (h : SlR S P s o) (h3 : ∀ l, adr s o = some l → S'[l]? = S[l]?) : SlR S' P' s o := by
  cases h with
  | no o => exact .no o
  | val h => exact .val (h.mono h1 h2)
  | own e h => exact .own ((h3 _ rfl).trans e) (h.mono h1 h2)
section
variable {S S' : Sg} {F F' : Nat → Prop} {σ σ' : En} {τ τ' : SF.En}
theorem ER.adr_lt (h : ER S F σ τ) {l : Nat} (a : Adr σ τ l) : l < S.length := by
  obtain ⟨i, s, o, h1, h2, h3⟩ := a
  have q := h.gt i s o h1 h2
  cases q with
  | no o => cases h3
  | val h => cases h3
  | own e _ => cases h3; exact (List.getElem?_eq_some_iff.mp e).1
theorem ER.own_lt (h : ER S F σ τ) {l : Nat} (a : Own F σ τ l) : l < S.length := a.elim (h.bd l) h.adr_lt
/-- the store moves below what stands -/
theorem ER.move (h : ER S F σ τ) (h1 : ∀ l, l < S.length → S'[l]? = S[l]?) (hl : S.length ≤ S'.length) : ER S' F σ τ :=
  ⟨h.len, fun i s o a b => (h.gt i s o a b).mono (fun l q _ => h1 l q) (fun l _ q => q) fun l q => h1 l (h.adr_lt ⟨i, s, o, a, b, q⟩), h.inj, h.dis, fun l q => Nat.lt_of_lt_of_le (h.bd l q) hl⟩
/-- fewer names, or the same elsewhere -/
theorem ER.sub (h : ER S F σ τ) (hl : σ'.length = τ'.length) (m : Nat → Nat)
    (k : ∀ (i : Nat) (s : Sl) (o : Option W), σ'[i]? = some s → τ'[i]? = some o → (adr s o = none ∧ SlR S (Own F σ τ) s o) ∨ (σ[m i]? = some s ∧ τ[m i]? = some o))
    (mi : ∀ (i j : Nat) (s : Sl) (o : Option W) (s' : Sl) (o' : Option W), σ'[i]? = some s → τ'[i]? = some o → σ'[j]? = some s' → τ'[j]? = some o' → adr s o ≠ none → adr s' o' ≠ none → m i = m j → i = j) : ER S F σ' τ' := by
  have ha : ∀ l, Adr σ' τ' l → Adr σ τ l := fun l ⟨i, s, o, a, b, c⟩ => by
    rcases k i s o a b with ⟨q, _⟩ | ⟨q1, q2⟩
    · rw [q] at c; cases c
    · exact ⟨m i, s, o, q1, q2, c⟩
  have ho : ∀ l, Own F σ' τ' l → Own F σ τ l := fun l q => q.imp id (ha l)
  refine ⟨hl, fun i s o a b => ?_, fun i j s o s' o' l a b a' b' c c' => ?_, fun l q => h.dis l (ha l q), h.bd⟩
  · rcases k i s o a b with ⟨_, q⟩ | ⟨q1, q2⟩
    · exact q.mono (fun _ _ _ => rfl) (fun l _ => ho l) fun _ _ => rfl
    · exact (h.gt _ s o q1 q2).mono (fun _ _ _ => rfl) (fun l _ => ho l) fun _ _ => rfl
  · rcases k i s o a b with ⟨q, _⟩ | ⟨q1, q2⟩
    · rw [q] at c; cases c
    · rcases k j s' o' a' b' with ⟨q, _⟩ | ⟨q3, q4⟩
      · rw [q] at c'; cases c'
      · exact mi i j s o s' o' a b a' b' (by rw [c]; simp) (by rw [c']; simp) (h.inj _ _ s o s' o' l q1 q2 q3 q4 c c')
theorem ER.tail {r : Sl} {o : Option W} (h : ER S F (r :: σ) (o :: τ)) : ER S F σ τ :=
  h.sub (by simpa using h.len) (· + 1) (fun i s o a b => .inr ⟨by simpa using a, by simpa using b⟩) (fun i j _ _ _ _ _ _ _ _ _ _ e => by simpa using e)
theorem adr_cons {r : Sl} {o : Option W} {l : Nat} : Adr (r :: σ) (o :: τ) l ↔ adr r o = some l ∨ Adr σ τ l := by
  constructor
  · rintro ⟨i, s, u, a, b, c⟩
    cases i with
    | zero => simp at a b; subst a b; exact .inl c
    | succ i => exact .inr ⟨i, s, u, by simpa using a, by simpa using b, c⟩
  · rintro (c | ⟨i, s, u, a, b, c⟩)
    · exact ⟨0, r, o, rfl, rfl, c⟩
    · exact ⟨i + 1, s, u, by simpa using a, by simpa using b, c⟩
/-- the head as a value -/
theorem ER.head {r : Sl} {w : W} {v : V} (h : ER S F (r :: σ) (some w :: τ)) (e : r.frz = some v) : Fz S (Own F σ τ) v w := by
  have q := h.gt 0 r (some w) rfl rfl
  have hP : ∀ l, Own F σ τ l → Own F (r :: σ) (some w :: τ) l := fun l q => q.imp id fun q => adr_cons.mpr (.inr q)
  generalize hw : some w = o at q
  cases q with
  | no o => cases e
  | val q => cases e; cases hw; exact q.mono (fun _ _ _ => rfl) (fun l _ => hP l)
  | @own p ow u l e1 q =>
    cases e; cases hw
    have hn : ¬ Own F σ τ l := by
      rintro (q | ⟨i, s, o, a, b, c⟩)
      · exact h.dis l (adr_cons.mpr (.inl rfl)) q
      · have := h.inj 0 (i + 1) _ _ _ _ l rfl rfl (by simpa using a) (by simpa using b) rfl c
        omega
    cases q with
    | l z => exact .lst hn e1 (z.mono (fun _ _ _ => rfl) (fun l _ => hP l))
    | d z => exact .dic hn e1 (z.mono (fun _ _ _ => rfl) (fun l _ => hP l))
    | t z => exact .dit hn e1 (z.mono (fun _ _ _ => rfl) (fun l _ => hP l))
theorem ER.val {v : V} {w : W} (h : ER S F σ τ) (f : Fz S (Own F σ τ) v w) : ER S F (.val v :: σ) (some w :: τ) :=
  h.sub (by simp [h.len]) (· - 1) (fun i s o a b => by
    cases i with
    | zero => simp at a b; subst a b; exact .inl ⟨rfl, .val f⟩
    | succ i => exact .inr ⟨by simpa using a, by simpa using b⟩) (fun i j s o s' o' a b a' b' c c' e => by
      cases i with
      | zero => simp at a b; subst a b; exact absurd rfl c
      | succ i => cases j with
        | zero => simp at a' b'; subst a' b'; exact absurd rfl c'
        | succ j => simp at e; omega)
/-- a new own thing -/
theorem ER.new {o : Ow} {u : WO} (h : ER S F σ τ) (f : OwR S (Own F σ τ) o u) : ER (S ++ [u]) F (.own false o :: σ) (some (.ref S.length) :: τ) := by
  have h1 : ∀ l, l < S.length → (S ++ [u])[l]? = S[l]? := fun l q => List.getElem?_append_left q
  have hA : ∀ l, Adr (.own false o :: σ) (some (.ref S.length) :: τ) l → l = S.length ∨ Adr σ τ l := fun l q => (adr_cons.mp q).imp (fun z => by cases z; rfl) id
  have hP : ∀ l, l < S.length → Own F (.own false o :: σ) (some (.ref S.length) :: τ) l → Own F σ τ l := fun l hl q => q.imp id fun q => (hA l q).elim (fun e => absurd hl (by omega)) id
  refine ⟨by simp [h.len], fun i s p a b => ?_, fun i j s p s' p' l a b a' b' c c' => ?_, fun l q z => ?_, fun l q => ?_⟩
  · cases i with
    | zero =>
      simp at a b; subst a b
      exact .own (by rw [List.getElem?_append_right (Nat.le_refl _), Nat.sub_self]; rfl) (f.mono (fun l q _ => h1 l q) hP)
    | succ i =>
      have a' : σ[i]? = some s := by simpa using a
      have b' : τ[i]? = some p := by simpa using b
      exact (h.gt i s p a' b').mono (fun l q _ => h1 l q) hP fun l q => h1 l (h.adr_lt ⟨i, s, p, a', b', q⟩)
  · cases i with
    | zero =>
      simp at a b; subst a b; cases c
      cases j with
      | zero => rfl
      | succ j => exact absurd (h.adr_lt ⟨j, s', p', by simpa using a', by simpa using b', c'⟩) (Nat.lt_irrefl _)
    | succ i =>
      cases j with
      | zero =>
        simp at a' b'; subst a' b'; cases c'
        exact absurd (h.adr_lt ⟨i, s, p, by simpa using a, by simpa using b, c⟩) (Nat.lt_irrefl _)
      | succ j =>
        have := h.inj i j s p s' p' l (by simpa using a) (by simpa using b) (by simpa using a') (by simpa using b') c c'
        omega
  · rcases hA l q with rfl | q
    · exact absurd (h.bd _ z) (Nat.lt_irrefl _)
    · exact h.dis l q z
  · have := h.bd l q
    simp; omega
/-! # what a step leaves -/
def Flag (σ : En) (i : Nat) : Prop := ∃ o, σ[i]? = some (.own true o)
structure Po (S : Sg) (F : Nat → Prop) (σ : En) (τ : SF.En) (S' : Sg) (σ' : En) (τ' : SF.En) : Prop where
  fr : ∀ l, l < S.length → ¬ Adr σ τ l → S'[l]? = S[l]?
  len : S.length ≤ S'.length
  er : ER S' F σ' τ'
  sub : ∀ l, l < S.length → Adr σ' τ' l → Adr σ τ l
  io : ∀ i, Flag σ' i → Flag σ i ∧ τ'[i]? = τ[i]?
  ln : τ'.length = τ.length
theorem Po.refl (h : ER S F σ τ) : Po S F σ τ S σ τ := ⟨fun _ _ _ => rfl, Nat.le_refl _, h, fun _ _ q => q, fun _ q => ⟨q, rfl⟩, rfl⟩
theorem Po.trans {S1 : Sg} {σ1 : En} {τ1 : SF.En} (a : Po S F σ τ S1 σ1 τ1) (b : Po S1 F σ1 τ1 S' σ' τ') : Po S F σ τ S' σ' τ' :=
  ⟨fun l h1 h2 => (b.fr l (Nat.lt_of_lt_of_le h1 a.len) fun q => h2 (a.sub l h1 q)).trans (a.fr l h1 h2), Nat.le_trans a.len b.len, b.er,
   fun l h1 q => a.sub l h1 (b.sub l (Nat.lt_of_lt_of_le h1 a.len) q), fun i q => have z := b.io i q; have y := a.io i z.1; ⟨y.1, z.2.trans y.2⟩, b.ln.trans a.ln⟩
theorem Po.fro (p : Po S F σ τ S' σ' τ') : ∀ l, l < S.length → ¬ Own F σ τ l → S'[l]? = S[l]? := fun l h1 h2 => p.fr l h1 fun q => h2 (.inr q)
theorem Po.sbo (p : Po S F σ τ S' σ' τ') : ∀ l, l < S.length → Own F σ' τ' l → Own F σ τ l := fun l h1 q => q.imp id (p.sub l h1)
theorem Po.fz (p : Po S F σ τ S' σ' τ') {v : V} {w : W} (h : Fz S (Own F σ τ) v w) : Fz S' (Own F σ' τ') v w := h.mono p.fro p.sbo
theorem Po.fzs (p : Po S F σ τ S' σ' τ') {v : List V} {w : List W} (h : Fzs S (Own F σ τ) v w) : Fzs S' (Own F σ' τ') v w := h.mono p.fro p.sbo
/-- a store that grew -/
theorem Po.grow (h : ER S F σ τ) (J : Sg) : Po S F σ τ (S ++ J) σ τ :=
  ⟨fun l q _ => List.getElem?_append_left q, by simp, h.move (fun l q => List.getElem?_append_left q) (by simp), fun _ _ q => q, fun _ q => ⟨q, rfl⟩, rfl⟩
/-- what an expression leaves -/
structure KE (S : Sg) (F : Nat → Prop) (σ : En) (τ : SF.En) (S' : Sg) (σ' : En) (r : Sl) (w : W) : Prop where
  po : Po S F σ τ S' σ' τ
  er : ER S' F (r :: σ') (some w :: τ)
  nw : ∀ l, adr r (some w) = some l → l < S.length → Adr σ τ l
theorem KE.fz {r : Sl} {w : W} {v : V} (h : KE S F σ τ S' σ' r w) (e : r.frz = some v) : Fz S' (Own F σ' τ) v w := h.er.head e
theorem KE.val {v : V} {w : W} (h : Po S F σ τ S' σ' τ) (f : Fz S' (Own F σ' τ) v w) : KE S F σ τ S' σ' (.val v) w := ⟨h, h.er.val f, fun l q _ => by cases q⟩
theorem KE.own {o : Ow} {u : WO} (h : Po S F σ τ S' σ' τ) (f : OwR S' (Own F σ' τ) o u) : KE S F σ τ (S' ++ [u]) σ' (.own false o) (.ref S'.length) :=
  ⟨h.trans (.grow h.er _), h.er.new f, fun l q z => by cases q; exact absurd z (Nat.not_lt.mpr h.len)⟩
theorem KE.trans {S1 : Sg} {σ1 : En} {r : Sl} {w : W} (a : Po S F σ τ S1 σ1 τ) (b : KE S1 F σ1 τ S' σ' r w) : KE S F σ τ S' σ' r w :=
  ⟨a.trans b.po, b.er, fun l q z => a.sub l z (b.nw l q (Nat.lt_of_lt_of_le z a.len))⟩
structure XR (S : Sg) (P : Nat → Prop) (x : Xn) (y : SF.Xn) : Prop where
  cls : x.cls = y.cls
  fs : Fzs S P x.fs y.fs
/-- the two meanings side by side -/
def Sim {α β : Type} (S : Sg) (F : Nat → Prop) (σ : En) (τ : SF.En) (r : R α) (q : SF.R β) (K : Sg → En → α → β → Prop) : Prop := match r with
  | .ok a σ' => ∃ b S', q = .ok b S' ∧ K S' σ' a b
  | .ex x σ' => ∃ y S', q = .ex y S' ∧ Po S F σ τ S' σ' τ ∧ XR S' (Own F σ' τ) x y
  | .st => True
theorem Sim.ok {α β : Type} {a : α} {b : β} {K : Sg → En → α → β → Prop} (h : K S' σ' a b) : Sim S F σ τ (.ok a σ') (.ok b S') K := ⟨b, S', rfl, h⟩
theorem Sim.from {α β : Type} {S1 : Sg} {σ1 : En} {r : R α} {q : SF.R β} {K K' : Sg → En → α → β → Prop} (p : Po S F σ τ S1 σ1 τ) (h : Sim S1 F σ1 τ r q K) (k : ∀ S' σ' a b, K S' σ' a b → K' S' σ' a b) : Sim S F σ τ r q K' := by
  cases r with
  | ok a σ2 => obtain ⟨b, S2, e, z⟩ := h; exact ⟨b, S2, e, k _ _ _ _ z⟩
  | ex x σ2 => obtain ⟨y, S2, e, z1, z2⟩ := h; exact ⟨y, S2, e, p.trans z1, z2⟩
  | st => trivial
theorem Sim.bind {α β γ δ : Type} {r : R α} {q : SF.R β} {f : α → En → R γ} {g : β → Sg → SF.R δ} {K : Sg → En → α → β → Prop} {K' : Sg → En → γ → δ → Prop} (h : Sim S F σ τ r q K)
    (k : ∀ S' σ' a b, K S' σ' a b → Sim S F σ τ (f a σ') (g b S') K') : Sim S F σ τ (r.bind f) (q.bind g) K' := by
  cases r with
  | ok a σ2 => obtain ⟨b, S2, rfl, z⟩ := h; exact k _ _ _ _ z
  | ex x σ2 => obtain ⟨y, S2, rfl, z1, z2⟩ := h; exact ⟨y, S2, rfl, z1, z2⟩
  | st => trivial
theorem Sim.imp {α β : Type} {r : R α} {q : SF.R β} {K K' : Sg → En → α → β → Prop} (h : Sim S F σ τ r q K) (k : ∀ S' σ' a b, K S' σ' a b → K' S' σ' a b) : Sim S F σ τ r q K' := by
  cases r with
  | ok a σ2 => obtain ⟨b, S2, rfl, z⟩ := h; exact ⟨b, S2, rfl, k _ _ _ _ z⟩
  | ex x σ2 => exact h
  | st => trivial
theorem Sim.ofO {α β γ : Type} {o : Option α} {f : α → R β} {q : SF.R γ} {K : Sg → En → β → γ → Prop} (h : ∀ a, o = some a → Sim S F σ τ (f a) q K) : Sim S F σ τ (EP.ofO o f) q K := by
  cases o with
  | none => trivial
  | some a => exact h a rfl
end
end EP
set_option Elab.async false
set_option linter.all false
set_option maxRecDepth 100000
set_option maxHeartbeats 4000000
namespace EP
open PySem
open SF (Ky Bo Co Ty Bi Fi Sh lenMax bigOk small62)
open SF (Sg W WO)
/-! # what is read of a value -/
section
variable (S : Sg) (P : Nat → Prop)
inductive Rd : V → W → Prop
  | non : Rd .non .non
  | bl (b : Bool) : Rd (.bl b) (.bl b)
  | int (i : Int) : Rd (.int i) (.int i)
  | str (s : List Nat) : Rd (.str s) (.str s)
  | tup {vs : List V} {ws : List W} (h : Fzs S P vs ws) : Rd (.tup vs) (.tup ws)
  | lst {vs : List V} {ws : List W} {l : Nat} (e : S[l]? = some (.lst ws)) (h : Fzs S P vs ws) : Rd (.lst vs) (.ref l)
  | ro {vs : List V} {ws : List W} {l : Nat} (e : S[l]? = some (.ro ws)) (h : Fzs S P vs ws) : Rd (.ro vs) (.ref l)
  | dic {kvs : List (Ky × V)} {qs : List (Ky × W)} {l : Nat} (e : S[l]? = some (.dic qs)) (h : FzK S P kvs qs) : Rd (.dic kvs) (.ref l)
  | dit {kvs : List (List Ky × V)} {qs : List (List Ky × W)} {l : Nat} (e : S[l]? = some (.dit qs)) (h : FzT S P kvs qs) : Rd (.dit kvs) (.ref l)
  | ins {nm : Str} {fs : List (Str × V)} {gs : List (Str × W)} {l : Nat} (p : ¬ P l) (e : S[l]? = some (.ins nm gs)) (h : FzN S P fs gs) : Rd (.ins nm fs) (.ref l)
inductive Rds : List V → List W → Prop
  | nil : Rds [] []
  | cons {v : V} {w : W} {vs : List V} {ws : List W} (h : Rd S P v w) (r : Rds vs ws) : Rds (v :: vs) (w :: ws)
inductive As (τ : SF.En) : List A → List W → Prop
  | nil : As τ [] []
  | va {v : V} {w : W} {as : List A} {ws : List W} (h : Fz S P v w) (r : As τ as ws) : As τ (.va v :: as) (w :: ws)
  | ow {i : Nat} {w : W} {as : List A} {ws : List W} (h : τ[i]? = some (some w)) (r : As τ as ws) : As τ (.ow i :: as) (w :: ws)
end
section
variable {S S' : Sg} {P P' : Nat → Prop}
theorem Fz.rd {v : V} {w : W} (h : Fz S P v w) : Rd S P v w := by
  cases h with
  | non => exact .non
  | bl b => exact .bl b
  | int b => exact .int b
  | str b => exact .str b
  | tup h => exact .tup h
  | lst _ e h => exact .lst e h
  | ro _ e h => exact .ro e h
  | dic _ e h => exact .dic e h
  | dit _ e h => exact .dit e h
  | ins p e h => exact .ins p e h
theorem OwR.rd {o : Ow} {u : WO} {l : Nat} (e : S[l]? = some u) (h : OwR S P o u) : Rd S P o.v (.ref l) := by
  cases h with
  | l h => exact .lst e h
  | d h => exact .dic e h
  | t h => exact .dit e h
theorem As.mono {τ : SF.En} (h1 : ∀ l, l < S.length → ¬ P l → S'[l]? = S[l]?) (h2 : ∀ l, l < S.length → P' l → P l) {as : List A} {ws : List W} (h : As S P τ as ws) : As S' P' τ as ws := by
  induction h with
  | nil => exact .nil
  | va h _ ih => exact .va (h.mono h1 h2) ih
  | ow h _ ih => exact .ow h ih
theorem As.length {τ : SF.En} {as : List A} {ws : List W} (h : As S P τ as ws) : as.length = ws.length := by
  induction h with
  | nil => rfl
  | va _ _ ih => simp [ih]
  | ow _ _ ih => simp [ih]
theorem As.app {τ : SF.En} {as bs : List A} {ws us : List W} (h : As S P τ as ws) (k : As S P τ bs us) : As S P τ (as ++ bs) (ws ++ us) := by
  induction h with
  | nil => exact k
  | va h _ ih => exact .va h ih
  | ow h _ ih => exact .ow h ih
theorem As.vals {τ : SF.En} {vs : List V} {ws : List W} (h : Fzs S P vs ws) : As S P τ (vs.map .va) ws := by
  induction vs generalizing ws with
  | nil => cases h; exact .nil
  | cons v vs ih => cases h with | cons h r => exact .va h (ih r)
theorem As.fzs {τ : SF.En} {as : List A} {vs : List V} {ws : List W} (h : As S P τ as ws) (e : valsA as = some vs) : Fzs S P vs ws := by
  induction h generalizing vs with
  | nil => cases e; exact .nil
  | va h _ ih =>
    simp only [valsA, Option.map_eq_some_iff] at e
    obtain ⟨vs', e, rfl⟩ := e
    exact .cons h (ih e)
  | ow _ _ _ => cases e
theorem As.get {τ : SF.En} {as : List A} {ws : List W} (h : As S P τ as ws) : ∀ {i : Nat} {a : A}, as[i]? = some a → ∃ w, ws[i]? = some w ∧ As S P τ [a] [w] := by
  induction h with
  | nil => intro i a e; simp at e
  | va h _ ih =>
    intro i a e
    cases i with
    | zero => simp at e; subst e; exact ⟨_, rfl, .va h .nil⟩
    | succ i => simpa using ih (by simpa using e)
  | ow h _ ih =>
    intro i a e
    cases i with
    | zero => simp at e; subst e; exact ⟨_, rfl, .ow h .nil⟩
    | succ i => simpa using ih (by simpa using e)
theorem A.rd {F : Nat → Prop} {σ : En} {τ : SF.En} (hE : ER S F σ τ) {a : A} {w : W} {v : V} (h : As S (Own F σ τ) τ [a] [w]) (e : a.get σ = some v) : Rd S (Own F σ τ) v w := by
  cases h with
  | va h _ => cases e; exact h.rd
  | ow h _ =>
    simp only [A.get] at e
    split at e
    · rename_i i p o hs
      cases e
      have q := hE.gt _ _ _ hs h
      generalize hw : some w = u at q
      cases q with
      | own e h' => cases hw; exact h'.rd e
    · cases e
theorem As.rds {F : Nat → Prop} {σ : En} {τ : SF.En} (hE : ER S F σ τ) : ∀ {as : List A} {ws : List W} {vs : List V}, As S (Own F σ τ) τ as ws → getAs σ as = some vs → Rds S (Own F σ τ) vs ws
  | [], _, _, h, e => by cases h; cases e; exact .nil
  | a :: as, _, vs, h, e => by
    simp only [getAs] at e
    split at e
    · rename_i v vs' e1 e2
      cases e
      cases h with
      | va h r => exact .cons (A.rd hE (.va h .nil) e1) (As.rds hE r e2)
      | ow h r => exact .cons (A.rd hE (.ow h .nil) e1) (As.rds hE r e2)
    · cases e
/-! ## data -/
mutual
theorem dat_eq : ∀ (n : Nat) {v : V} {w : W} {d : PyData}, Fz S P v w → dat n v = some d → SF.toD (SF.refD S n) w = some d
  | n, _, _, _, .non, e => by simp only [dat] at e; cases e; rfl
  | n, _, _, _, .bl b, e => by simp only [dat] at e; cases e; rfl
  | n, _, _, _, .int b, e => by simp only [dat] at e; cases e; rfl
  | n, _, _, _, .str b, e => by simp only [dat] at e; cases e; rfl
  | n, _, _, _, .tup h, e => by
    simp only [dat] at e
    split at e
    · rename_i ds e2
      cases e
      simp only [SF.toD, dats_eq n h e2]
    · cases e
  | 0, _, _, _, .lst p e1 h, e => by simp only [dat] at e; cases e
  | n + 1, _, _, _, .lst p e1 h, e => by
    simp only [dat] at e
    split at e
    · rename_i ds e2
      cases e
      simp only [SF.toD, SF.refD, SF.listAt, e1, dats_eq n h e2]
    · cases e
  | 0, _, _, _, .ro p e1 h, e => by simp only [dat] at e; cases e
  | n + 1, _, _, _, .ro p e1 h, e => by
    simp only [dat] at e
    split at e
    · rename_i ds e2
      cases e
      simp only [SF.toD, SF.refD, SF.listAt, e1, dats_eq n h e2]
    · cases e
  | n, _, _, _, .dic p e1 h, e => by simp only [dat] at e; cases e
  | n, _, _, _, .dit p e1 h, e => by simp only [dat] at e; cases e
theorem dats_eq : ∀ (n : Nat) {vs : List V} {ws : List W} {ds : List PyData}, Fzs S P vs ws → dats n vs = some ds → SF.toDs (SF.refD S n) ws = some ds
  | n, _, _, _, .nil, e => by simp only [dats] at e; cases e; rfl
  | n, _, _, _, .cons h r, e => by
    simp only [dats] at e
    split at e
    · rename_i d ds e1 e2
      cases e
      simp only [SF.toDs, dat_eq n h e1, dats_eq n r e2]
    · cases e
end
theorem Rd.dat {v : V} {w : W} {d : PyData} (h : Rd S P v w) (e : dat 4 v = some d) : SF.datum S w = some d := by
  unfold SF.datum
  cases h with
  | non => exact dat_eq (P := P) 4 .non e
  | bl b => exact dat_eq (P := P) 4 (.bl b) e
  | int b => exact dat_eq (P := P) 4 (.int b) e
  | str b => exact dat_eq (P := P) 4 (.str b) e
  | tup h => exact dat_eq 4 (.tup h) e
  | lst e1 h => exact dat_eq (P := fun _ => False) 4 (.lst (fun q => q) e1 (h.mono (fun _ _ _ => rfl) fun _ _ q => q.elim)) e
  | ro e1 h => exact dat_eq (P := fun _ => False) 4 (.ro (fun q => q) e1 (h.mono (fun _ _ _ => rfl) fun _ _ q => q.elim)) e
  | dic _ _ => simp only [EP.dat] at e; cases e
  | dit _ _ => simp only [EP.dat] at e; cases e
  | ins _ _ _ => simp only [EP.dat] at e; cases e
theorem Rd.eqV {v u : V} {w x : W} {k : Bool} (h : Rd S P v w) (g : Rd S P u x) (e : eqV v u = some k) : SF.eqW w x S = some k := by
  unfold EP.eqV at e
  unfold SF.eqW
  split at e
  · rename_i d d2 e1 e2
    rw [h.dat e1, g.dat e2]
    exact e
  · cases e
theorem Fz.flat {v : V} {w : W} (h : Fz S P v w) : SF.flatW w = flatV v := by cases h <;> rfl
theorem Rd.flat {v : V} {w : W} (h : Rd S P v w) : SF.flatW w = flatV v := by cases h <;> rfl
theorem Fzs.flat {vs : List V} {ws : List W} (h : Fzs S P vs ws) : ws.all SF.flatW = vs.all flatV := by
  induction vs generalizing ws with
  | nil => cases h; rfl
  | cons v vs ih => cases h with | cons h r => simp [h.flat, ih r]
theorem Fz.feq {v u : V} {w x : W} (h : Fz S P v w) (g : Rd S P u x) : SF.flatEq w x = flatEq v u := by cases h <;> cases g <;> rfl
theorem Fzs.anyq {u : V} {x : W} (g : Rd S P u x) {vs : List V} {ws : List W} (h : Fzs S P vs ws) : (ws.any fun y => SF.flatEq y x) = vs.any fun y => flatEq y u := by
  induction vs generalizing ws with
  | nil => cases h; rfl
  | cons v vs ih => cases h with | cons h r => simp [h.feq g, ih r]
theorem inSeq_eq {u : V} {x : W} (g : Rd S P u x) {vs : List V} {ws : List W} (h : Fzs S P vs ws) : SF.inSeq x ws = inSeq u vs := by
  unfold SF.inSeq inSeq
  rw [g.flat, h.flat, h.anyq g]
theorem Rd.ky {v : V} {w : W} (h : Rd S P v w) : SF.kyOf w = kyOf v := by cases h <;> rfl
theorem Fz.ky {v : V} {w : W} (h : Fz S P v w) : SF.kyOf w = kyOf v := by cases h <;> rfl
theorem FzK.get {kvs : List (Ky × V)} {qs : List (Ky × W)} (h : FzK S P kvs qs) (k : Ky) : ∀ {v : V}, kvGet kvs k = some v → ∃ w, SF.kvGet qs k = some w ∧ Fz S P v w := by
  induction kvs generalizing qs with
  | nil => intro v e; cases e
  | cons kv kvs ih =>
    cases h with
    | @cons k' v' w' _ qs h r =>
      intro v e
      unfold kvGet at e
      unfold SF.kvGet
      by_cases hk : k' = k
      · simp [List.find?, hk] at e ⊢
        subst e; exact h
      · simp only [List.find?, hk, decide_false] at e ⊢
        exact ih r e
theorem FzK.getN {kvs : List (Ky × V)} {qs : List (Ky × W)} (h : FzK S P kvs qs) (k : Ky) : (SF.kvGet qs k).isSome = (kvGet kvs k).isSome := by
  induction kvs generalizing qs with
  | nil => cases h; rfl
  | cons kv kvs ih =>
    cases h with
    | @cons k' v' w' _ qs h r =>
      have := ih r
      unfold kvGet SF.kvGet at this ⊢
      by_cases hk : k' = k
      · simp [List.find?, hk]
      · simp only [List.find?, hk, decide_false]
        exact this
theorem FzK.keys {kvs : List (Ky × V)} {qs : List (Ky × W)} (h : FzK S P kvs qs) : qs.map (·.1) = kvs.map (·.1) := by
  induction kvs generalizing qs with
  | nil => cases h; rfl
  | cons kv kvs ih =>
    cases h with
    | cons h r => simp [ih r]
theorem FzK.put {kvs : List (Ky × V)} {qs : List (Ky × W)} (h : FzK S P kvs qs) (k : Ky) {v : V} {w : W} (g : Fz S P v w) : FzK S P (kvPut kvs k v) (SF.kvPut qs k w) := by
  have ha : (qs.any fun kv => decide (kv.1 = k)) = kvs.any fun kv => decide (kv.1 = k) := by
    have := congrArg (fun l => l.any fun q => decide (q = k)) h.keys
    simpa [List.any_map, Function.comp_def] using this
  unfold kvPut SF.kvPut
  rw [ha]
  split
  · clear ha
    induction kvs generalizing qs with
    | nil => cases h; exact .nil
    | cons kv kvs ih =>
      cases h with
      | @cons k' v' w' _ qs h r =>
        simp only [List.map_cons]
        by_cases hk : k' = k
        · simp only [hk, if_true]
          refine .cons g ?_
          by_cases ha' : (kvs.any fun kv => decide (kv.1 = k)) = true
          · exact ih r ha'
          · have hn : ∀ kv ∈ kvs, kv.1 ≠ k := fun kv hkv e => ha' (List.any_eq_true.mpr ⟨kv, hkv, by simp [e]⟩)
            have hm : ∀ kv ∈ qs, kv.1 ≠ k := fun kv hkv e => by
              have : kv.1 ∈ qs.map (·.1) := List.mem_map_of_mem hkv
              rw [r.keys] at this
              obtain ⟨kv', h1, h2⟩ := List.mem_map.mp this
              exact hn _ h1 (h2.trans e)
            rw [show kvs.map (fun kv => if kv.1 = k then (kv.1, v) else kv) = kvs from by
              conv => rhs; rw [← List.map_id kvs]
              exact List.map_congr_left fun kv q => if_neg (hn kv q)]
            rw [show qs.map (fun kv => if kv.1 = k then (kv.1, w) else kv) = qs from by
              conv => rhs; rw [← List.map_id qs]
              exact List.map_congr_left fun kv q => if_neg (hm kv q)]
            exact r
        · simp only [hk, if_false]
          refine .cons h ?_
          rename_i ha'
          exact ih r (by simpa [hk] using ha')
  · induction kvs generalizing qs with
    | nil => cases h; exact .cons g .nil
    | cons kv kvs ih =>
      cases h with
      | cons h r =>
        rename_i hx
        refine .cons h (ih r ?_ ?_)
        · have := congrArg (fun l => l.any fun q => decide (q = k)) r.keys
          simpa [List.any_map, Function.comp_def] using this
        · intro z; apply hx; simp only [List.any_cons, z, Bool.or_true]
end
end EP
set_option Elab.async false
set_option linter.all false
set_option maxRecDepth 100000
set_option maxHeartbeats 4000000
namespace EP
open PySem
open SF (Ky Bo Co Ty Bi Fi Sh lenMax bigOk small62)
open SF (Sg W WO)
/-! # what is built in -/
section
variable {S S' : Sg} {P P' : Nat → Prop}
/-- a pure result: nothing new, or one new list -/
inductive PV (S : Sg) (P : Nat → Prop) : Sl → SF.R W → Prop
  | val {v : V} {w : W} (h : Fz S P v w) : PV S P (.val v) (.ok w S)
  | own {vs : List V} {ws : List W} (h : Fzs S P vs ws) : PV S P (.own false (.l vs)) (.ok (.ref S.length) (S ++ [.lst ws]))
theorem PV.np {r : Sl} {q : SF.R W} (h : PV S P r q) : PV S P r q.np := by cases h <;> first | exact .val ‹_› | exact .own ‹_›
theorem PV.ke {F : Nat → Prop} {σ : En} {τ : SF.En} (hE : ER S F σ τ) {r : Sl} {q : SF.R W} (h : PV S (Own F σ τ) r q) : ∃ w S', q = .ok w S' ∧ KE S F σ τ S' σ r w := by
  cases h with
  | val h => exact ⟨_, _, rfl, .val (.refl hE) h⟩
  | own h => exact ⟨_, _, rfl, .own (.refl hE) (.l h)⟩
theorem pv_newL {vs : List V} {ws : List W} {r : Sl} (h : Fzs S P vs ws) (e : newL vs = some r) : PV S P r (SF.newL ws S) := by
  unfold newL at e
  split at e
  · rename_i hl
    cases e
    unfold SF.newL
    rw [if_pos (by rw [← h.length]; exact hl)]
    exact .own h
  · cases e
theorem pv_newT {vs : List V} {ws : List W} {r : Sl} (h : Fzs S P vs ws) (e : newT vs = some r) : PV S P r (SF.newT ws S) := by
  unfold newT at e
  split at e
  · rename_i hl
    cases e
    unfold SF.newT
    rw [if_pos (by rw [← h.length]; exact hl)]
    exact .val (.tup h)
  · cases e
theorem pv_val {v : V} {r : Sl} {w : W} (h : Fz S P v w) (e : valV v = some r) : PV S P r (.ok w S) := by cases e; exact .val h
theorem Fzs.rep {ws : List V} {vs : List W} (r : Fzs S P ws vs) : ∀ n, Fzs S P (List.replicate n ws).flatten (List.replicate n vs).flatten
  | 0 => .nil
  | n + 1 => by
    rw [List.replicate_succ, List.replicate_succ, List.flatten_cons, List.flatten_cons]
    exact r.append (Fzs.rep r n)
theorem bin_sim {o : Bo} {x y : V} {w z : W} {r : Sl} (h : Rd S P x w) (g : Rd S P y z) (e : binV o x y = some r) : PV S P r (SF.binW o w z S) := by
  cases o
  case add =>
    cases h with
    | int i =>
      cases g with
      | int j => simp only [binV] at e; cases e; exact .val (.int _)
      | _ => cases e
    | str a =>
      cases g with
      | str b =>
        simp only [binV] at e
        split at e
        · rename_i hl; cases e; simp only [SF.binW, if_pos hl]; exact .val (.str _)
        · cases e
      | _ => cases e
    | tup h1 =>
      cases g with
      | tup h2 => exact pv_newT (h1.append h2) e
      | _ => cases e
    | lst e1 h1 =>
      cases g with
      | lst e2 h2 =>
        simp only [SF.binW, e1, e2]
        exact pv_newL (h1.append h2) e
      | _ => cases e
    | _ => cases g <;> cases e
  case sub =>
    cases h <;> cases g <;> first | (simp only [binV] at e; cases e; done) | skip
    simp only [binV] at e; cases e; exact .val (.int _)
  case mul =>
    cases h with
    | str s =>
      cases g with
      | int k =>
        simp only [binV] at e
        split at e
        · rename_i hl; cases e; simp only [SF.binW, if_pos hl]; exact .val (.str _)
        · cases e
      | _ => cases e
    | int i =>
      cases g with
      | int j =>
        simp only [binV] at e
        split at e
        · rename_i hl; cases e; simp only [SF.binW, if_pos hl]; exact .val (.int _)
        · cases e
      | _ => cases e
    | tup h1 =>
      cases g with
      | int k =>
        simp only [binV, h1.length] at e
        split at e
        · rename_i hl; simp only [SF.binW, if_pos hl]; exact pv_newT (h1.rep _) e
        · cases e
      | _ => cases e
    | lst e1 h1 =>
      cases g with
      | int k =>
        simp only [binV, h1.length] at e
        split at e
        · rename_i hl; simp only [SF.binW, e1, if_pos hl]; exact pv_newL (h1.rep _) e
        · cases e
      | _ => cases e
    | _ => cases g <;> cases e
  case fdiv =>
    cases h <;> cases g <;> first | (simp only [binV] at e; cases e; done) | skip
    simp only [binV] at e
    split at e
    · rename_i hl; cases e; simp only [SF.binW, if_pos hl]; exact .val (.int _)
    · cases e
  case mod =>
    cases h <;> cases g <;> first | (simp only [binV] at e; cases e; done) | skip
    simp only [binV] at e
    split at e
    · rename_i hl; cases e; simp only [SF.binW, if_pos hl]; exact .val (.int _)
    · cases e
  case pow =>
    cases h <;> cases g <;> first | (simp only [binV] at e; cases e; done) | skip
    simp only [binV] at e
    split at e
    · rename_i hl; cases e; simp only [SF.binW, if_pos hl]; exact .val (.int _)
    · cases e
theorem inT {x : W} {ws : List W} : SF.inW x (.tup ws) S = SF.inSeq x ws := by
  unfold SF.inW
  split
  · rename_i z; cases z
  · rename_i z; cases z; rfl
  · rename_i z; cases z
  · rename_i z1 z2 z3; exact absurd rfl (z1 _)
theorem inR {x : W} {l : Nat} : SF.inW x (.ref l) S = match S[l]? with
    | some (.lst ws) => SF.inSeq x ws
    | some (.ro ws) => SF.inSeq x ws
    | some (.dic kvs) => (SF.kyOf x).map fun k => (SF.kvGet kvs k).isSome
    | _ => none := by
  unfold SF.inW
  split
  · rename_i z; cases z
  · rename_i z; cases z
  · rename_i z; cases z; rfl
  · rename_i z1 z2 z3; exact absurd rfl (z2 _ )
theorem in_sim {x y : V} {w z : W} {k : Bool} (h : Rd S P x w) (g : Rd S P y z) (e : inV x y = some k) : SF.inW w z S = some k := by
  have q : ∀ {vs : List V} {ws : List W}, Fzs S P vs ws → inSeq x vs = some k → SF.inSeq w ws = some k := fun f e => by rw [inSeq_eq h f]; exact e
  cases g with
  | non => cases e
  | bl b => cases e
  | int b => cases e
  | str t =>
    simp only [inV] at e
    split at e
    · split at e
      · cases h; exact e
      · cases e
    · cases e
  | tup f => rw [inT]; exact q f e
  | lst e1 f => rw [inR, e1]; exact q f e
  | ro e1 f => rw [inR, e1]; exact q f e
  | @dic kvs qs l e1 f =>
    rw [inR, e1]
    have e' : (kyOf x).map (fun k => (kvGet kvs k).isSome) = some k := e
    show (SF.kyOf w).map (fun k => (SF.kvGet qs k).isSome) = some k
    rw [h.ky, ← e']
    cases kyOf x with
    | none => rfl
    | some k => simp [f.getN]
  | dit e1 f => cases e
  | ins _ e1 f => cases e
theorem isNon_eq {x : V} {w : W} (h : Rd S P x w) : SF.isNonW w = isNonV x := by cases h <;> rfl
theorem cmp_sim {o : Co} {x y : V} {w z : W} {k : Bool} (h : Rd S P x w) (g : Rd S P y z) (e : cmpV o x y = some k) : SF.cmpW o w z S = some k := by
  cases o
  case eq => exact h.eqV g e
  case ne =>
    simp only [cmpV, Option.map_eq_some_iff] at e
    obtain ⟨b, e, rfl⟩ := e
    simp only [SF.cmpW, h.eqV g e, Option.map_some]
  case lt => cases h <;> cases g <;> first | (simp only [cmpV] at e; cases e; done) | exact e
  case le => cases h <;> cases g <;> first | (simp only [cmpV] at e; cases e; done) | exact e
  case gt => cases h <;> cases g <;> first | (simp only [cmpV] at e; cases e; done) | exact e
  case ge => cases h <;> cases g <;> first | (simp only [cmpV] at e; cases e; done) | exact e
  case inn => exact in_sim h g e
  case nin =>
    simp only [cmpV, Option.map_eq_some_iff] at e
    obtain ⟨b, e, rfl⟩ := e
    simp only [SF.cmpW, in_sim h g e, Option.map_some]
  case iss => simp only [cmpV] at e; simp only [SF.cmpW, isNon_eq h, isNon_eq g]; exact e
  case isn => simp only [cmpV] at e; simp only [SF.cmpW, isNon_eq h, isNon_eq g]; exact e
theorem tru_sim {x : V} {w : W} {k : Bool} (h : Rd S P x w) (e : truV x = some k) : SF.truW w S = some k := by
  cases h with
  | non => exact e
  | bl b => exact e
  | int b => exact e
  | str b => exact e
  | tup f =>
    simp only [truV, Option.some.injEq] at e
    simp only [SF.truW, Option.some.injEq]
    rw [← e]
    cases f <;> rfl
  | lst e1 f =>
    simp only [truV, Option.some.injEq] at e
    simp only [SF.truW, SF.listAt, e1, Option.map_some, Option.some.injEq]
    rw [← e]
    cases f <;> rfl
  | ro e1 f =>
    simp only [truV, Option.some.injEq] at e
    simp only [SF.truW, SF.listAt, e1, Option.map_some, Option.some.injEq]
    rw [← e]
    cases f <;> rfl
  | dic e1 f => cases e
  | dit e1 f => cases e
  | ins _ e1 f => cases e
theorem isTy_sim {x : V} {w : W} {t : Ty} {k : Bool} (h : Rd S P x w) (e : isTy x t = some k) : SF.isTy S w t = some k := by
  cases h with
  | non => cases t <;> exact e
  | bl b => cases t <;> exact e
  | int b => cases t <;> exact e
  | str b => cases t <;> exact e
  | tup f => cases t <;> exact e
  | lst e1 f => cases t <;> (simp only [SF.isTy, SF.listAt, e1, Option.map_some]; exact e)
  | ro e1 f => cases t <;> (simp only [SF.isTy, SF.listAt, e1, Option.map_some]; exact e)
  | dic e1 f => cases e
  | dit e1 f => cases e
  | ins _ e1 f => cases e
theorem isTys_sim {x : V} {w : W} {ts : List Ty} {k : Bool} (h : Rd S P x w) (e : isTys x ts = some k) : SF.isTys S w ts = some k := by
  induction ts generalizing k with
  | nil => exact e
  | cons t ts ih =>
    simp only [isTys] at e
    split at e
    · rename_i a b e1 e2
      cases e
      simp only [SF.isTys, isTy_sim h e1, ih e2]
    · cases e
theorem seq_sim {x : V} {w : W} {vs : List V} (h : Rd S P x w) (e : seqV x = some vs) : ∃ ws, SF.seqAt w S = some ws ∧ Fzs S P vs ws := by
  cases h with
  | tup f => cases e; exact ⟨_, rfl, f⟩
  | lst e1 f => cases e; exact ⟨_, by simp only [SF.seqAt, SF.listAt, e1], f⟩
  | ro e1 f => cases e; exact ⟨_, by simp only [SF.seqAt, SF.listAt, e1], f⟩
  | _ => cases e
theorem items_sim {x : V} {w : W} {vs : List V} (h : Rd S P x w) (e : itemsV x = some vs) : ∃ ws, SF.itemsW w S = some ws ∧ Fzs S P vs ws := by
  cases h with
  | tup f => cases e; exact ⟨_, rfl, f⟩
  | lst e1 f => cases e; exact ⟨_, by simp only [SF.itemsW, e1], f⟩
  | ro e1 f => cases e; exact ⟨_, by simp only [SF.itemsW, e1], f⟩
  | @dic kvs qs l e1 f =>
    cases e
    refine ⟨qs.map (·.1.w), by simp only [SF.itemsW, e1], ?_⟩
    clear e1
    induction kvs generalizing qs with
    | nil => cases f; exact .nil
    | cons kv kvs ih =>
      cases f with
      | @cons k _ _ _ _ h r =>
        refine .cons ?_ (ih r)
        cases k
        · exact .int _
        · exact .str _
  | _ => cases e
theorem strs_sim {vs : List V} {ws : List W} {xs : List (List Nat)} (h : Fzs S P vs ws) (e : strsOf vs = some xs) : SF.strsOf ws = some (xs.map sS) := by
  induction vs generalizing ws xs with
  | nil => cases h; cases e; rfl
  | cons v vs ih =>
    cases h with
    | cons h r =>
      cases h <;> first | (simp only [strsOf] at e; cases e; done) | skip
      simp only [strsOf, Option.map_eq_some_iff] at e
      obtain ⟨ys, e, rfl⟩ := e
      simp only [SF.strsOf, ih r e, Option.map_some]
      rfl
theorem bools_sim {vs : List V} {ws : List W} {xs : List Bool} (h : Fzs S P vs ws) (e : boolsOf vs = some xs) : SF.boolsOf ws = some xs := by
  induction vs generalizing ws xs with
  | nil => cases h; cases e; rfl
  | cons v vs ih =>
    cases h with
    | cons h r =>
      cases h <;> first | (simp only [boolsOf] at e; cases e; done) | skip
      simp only [boolsOf, Option.map_eq_some_iff] at e
      obtain ⟨ys, e, rfl⟩ := e
      simp only [SF.boolsOf, ih r e, Option.map_some]
theorem ints_sim {vs : List V} {ws : List W} {xs : List Int} (h : Fzs S P vs ws) (e : intsOf vs = some xs) : SF.intsOf ws = some xs := by
  induction vs generalizing ws xs with
  | nil => cases h; cases e; rfl
  | cons v vs ih =>
    cases h with
    | cons h r =>
      cases h <;> first | (simp only [intsOf] at e; cases e; done) | skip
      simp only [intsOf, Option.map_eq_some_iff] at e
      obtain ⟨ys, e, rfl⟩ := e
      simp only [SF.intsOf, ih r e, Option.map_some]
theorem len_sim {x : V} {w : W} {n : Nat} (h : Rd S P x w) (e : lenV x = some n) : SF.lenW w S = some n := by
  cases h with
  | str s => exact e
  | tup f => cases e; simp only [SF.lenW, f.length]
  | lst e1 f => cases e; simp only [SF.lenW, e1, f.length]
  | ro e1 f => cases e; simp only [SF.lenW, e1, f.length]
  | dic e1 f => cases e; simp only [SF.lenW, e1, f.length]
  | _ => cases e
theorem item_sim {x y v : V} {w z : W} (h : Rd S P x w) (g : Rd S P y z) (e : itemV x y = some v) : ∃ u, SF.itemW w z S = some u ∧ Fz S P v u := by
  have sq : ∀ {vs : List V} {ws : List W} {i : Int}, Fzs S P vs ws → ((L2.ixN vs.length i).bind fun k => vs[k]?) = some v → ∃ u, ((L2.ixN ws.length i).bind fun k => ws[k]?) = some u ∧ Fz S P v u := fun {vs ws i} f e => by
    rw [← f.length]
    cases h : L2.ixN vs.length i with
    | none => rw [h] at e; cases e
    | some k => rw [h] at e; simpa using f.get (by simpa using e)
  cases h with
  | str s =>
    cases g <;> first | (simp only [itemV] at e; cases e; done) | skip
    rename_i i
    simp only [itemV] at e
    split at e
    · rename_i hl
      simp only [SF.itemW, if_pos hl]
      cases hk : L2.ixN s.length i with
      | none => rw [hk] at e; cases e
      | some k =>
        rw [hk] at e
        simp only [Option.bind_some, Option.map_eq_some_iff] at e
        obtain ⟨c, e1, rfl⟩ := e
        exact ⟨.str [c], by simp [e1], .str _⟩
    · cases e
  | tup f =>
    cases g <;> first | (simp only [itemV] at e; cases e; done) | skip
    exact sq f e
  | lst e1 f =>
    cases g <;> first | (simp only [itemV] at e; cases e; done) | skip
    simp only [SF.itemW, e1]
    exact sq f e
  | ro e1 f =>
    cases g <;> first | (simp only [itemV] at e; cases e; done) | skip
    simp only [SF.itemW, e1]
    exact sq f e
  | @dic kvs qs l e1 f =>
    have e' : ((kyOf y).bind fun k => kvGet kvs k) = some v := by
      cases g <;> exact e
    have : ∃ u, ((SF.kyOf z).bind fun k => SF.kvGet qs k) = some u ∧ Fz S P v u := by
      rw [g.ky]
      cases hk : kyOf y with
      | none => rw [hk] at e'; cases e'
      | some k => rw [hk] at e'; simpa using f.get k (by simpa using e')
    obtain ⟨u, q1, q2⟩ := this
    refine ⟨u, ?_, q2⟩
    cases z <;> (simp only [SF.itemW, e1]; exact q1)
  | non => cases g <;> (simp only [itemV] at e; cases e)
  | bl _ => cases g <;> (simp only [itemV] at e; cases e)
  | int _ => cases g <;> (simp only [itemV] at e; cases e)
  | dit _ _ => cases g <;> (simp only [itemV] at e; cases e)
  | ins _ _ _ => cases g <;> (simp only [itemV] at e; cases e)
theorem cut_sim {vs : List V} {ws : List W} (f : Fzs S P vs ws) (lo hi : Option Int) : Fzs S P (cutV vs lo hi) ((ws.drop (HT.sIx ws.length 0 lo)).take (HT.sIx ws.length ws.length hi - HT.sIx ws.length 0 lo)) := by
  unfold cutV
  rw [f.length]
  exact (f.drop _).take _
theorem slice_sim {x : V} {w : W} {lo hi : Option Int} {r : Sl} (h : Rd S P x w) (e : sliceV x lo hi = some r) : PV S P r (SF.sliceW w lo hi S) := by
  cases h with
  | str s =>
    simp only [sliceV] at e
    split at e
    · rename_i hl
      simp only [SF.sliceW, if_pos hl]
      exact pv_val (.str _) e
    · cases e
  | tup f => exact pv_newT (cut_sim f lo hi) e
  | lst e1 f => simp only [SF.sliceW, SF.listAt, e1, SF.ofO]; exact pv_newL (cut_sim f lo hi) e
  | ro e1 f => simp only [SF.sliceW, SF.listAt, e1, SF.ofO]; exact pv_newL (cut_sim f lo hi) e
  | _ => cases e
theorem ded_sim (xs : List (List Nat)) : SF.ded (xs.map sS) = (ded xs).map sS := by
  have key : ∀ (xs acc : List (List Nat)), (xs.map sS).foldl (fun σ v => if σ.any (· == v) then σ else σ ++ [v]) (acc.map sS) = (xs.foldl (fun σ v => if v ∈ σ then σ else σ ++ [v]) acc).map sS := fun xs => by
    induction xs with
    | nil => intro acc; rfl
    | cons x xs ih =>
      intro acc
      have hx : ((acc.map sS).any (· == sS x)) = decide (x ∈ acc) := by
        rw [Bool.eq_iff_iff, List.any_eq_true, decide_eq_true_eq]
        constructor
        · rintro ⟨y, hy, e⟩
          obtain ⟨z, hz, rfl⟩ := List.mem_map.mp hy
          have : sS z = sS x := by simpa using e
          have : z = x := by simpa [sS] using this
          exact this ▸ hz
        · intro hx
          exact ⟨sS x, List.mem_map_of_mem hx, by simp⟩
      simp only [List.map_cons, List.foldl_cons, hx, decide_eq_true_eq]
      split
      · exact ih acc
      · have := ih (acc ++ [x])
        simpa using this
  exact key xs []
theorem join_jn (sep : List Nat) : ∀ ps : List (List Nat), (Txt.join (sS sep) (ps.map sS)) = sS (jn sep ps) := by
  intro ps
  unfold Txt.join
  rw [StrLaws.glued_eq_join]
  induction ps with
  | nil => rfl
  | cons x r ih =>
    cases r with
    | nil => rfl
    | cons y r =>
      show sS x ++ sS sep ++ Str.join (sS sep) ((y :: r).map sS) = _
      rw [ih]
      apply Str.ext'
      rw [Str.cps_append, Str.cps_append]
      apply Array.toList_inj.mp
      simp [sS, jn]
theorem bi_sim {b : Bi} {vs : List V} {ws : List W} {r : Sl} (h : Rds S P vs ws) (e : biV b vs = some r) : PV S P r (SF.biW b ws S) := by
  cases b
  case int =>
    cases h with
    | nil => cases e
    | cons h t => cases t with
      | nil => cases h <;> first | (simp only [biV] at e; cases e; done) | exact pv_val (.int _) e
      | cons _ _ => cases h <;> (simp only [biV] at e; cases e)
  case abs =>
    cases h with
    | nil => cases e
    | cons h t => cases t with
      | nil => cases h <;> first | (simp only [biV] at e; cases e; done) | exact pv_val (.int _) e
      | cons _ _ => cases h <;> (simp only [biV] at e; cases e)
  case ord =>
    cases h with
    | nil => cases e
    | cons h t => cases t with
      | nil =>
        cases h <;> first | (simp only [biV] at e; cases e; done) | skip
        rename_i s
        simp only [biV] at e
        split at e <;> first | (rename_i z; cases z; exact pv_val (.int _) e) | cases e
      | cons _ _ =>
        simp only [biV] at e
        cases e
  case str =>
    cases h with
    | nil => cases e
    | cons h t => cases t with
      | nil =>
        cases h <;> first | (simp only [biV] at e; cases e; done) | skip
        simp only [biV] at e
        split at e
        · rename_i hb
          show PV S P r (SF.biStr [.int _] S)
          simp only [SF.biStr, hb, if_true]
          exact pv_val (.str _) e
        · cases e
      | cons _ _ =>
        simp only [biV] at e
        cases e
  case max2 =>
    simp only [biV] at e
    split at e
    · cases h with | cons h t => cases t with | cons h2 t => cases t; cases h; cases h2; exact pv_val (.int _) e
    · cases e
  case min2 =>
    simp only [biV] at e
    split at e
    · cases h with | cons h t => cases t with | cons h2 t => cases t; cases h; cases h2; exact pv_val (.int _) e
    · cases e
  case len =>
    simp only [biV] at e
    split at e
    · cases h with | cons h t => cases t; simp only [Option.bind_eq_some_iff] at e; obtain ⟨n, e1, e⟩ := e; show PV S P r (SF.biLen [_] S); simp only [SF.biLen, len_sim h e1, SF.ofO]; exact pv_val (.int _) e
    · cases e
  case list =>
    simp only [biV] at e
    split at e
    · cases h with | cons h t => cases t; simp only [Option.bind_eq_some_iff] at e; obtain ⟨n, e1, e⟩ := e; obtain ⟨ws, q1, q2⟩ := items_sim h e1; show PV S P r (SF.biList [_] S); simp only [SF.biList, q1, SF.ofO]; exact pv_newL q2 e
    · cases e
  case tuple =>
    simp only [biV] at e
    split at e
    · cases h with | cons h t => cases t; simp only [Option.bind_eq_some_iff] at e; obtain ⟨n, e1, e⟩ := e; obtain ⟨ws, q1, q2⟩ := seq_sim h e1; show PV S P r (SF.biTuple [_] S); simp only [SF.biTuple, q1, SF.ofO]; exact pv_newT q2 e
    · cases e
  case all =>
    simp only [biV] at e
    split at e
    · cases h with | cons h t => cases t; simp only [Option.bind_eq_some_iff] at e; obtain ⟨n, e1, e⟩ := e; cases h with | lst e2 f => show PV S P r (SF.biAll [.ref _] S); simp only [SF.biAll, SF.listAt, e2, SF.ofO, bools_sim f e1]; exact pv_val (.bl _) e
    · cases e
  case any =>
    simp only [biV] at e
    split at e
    · cases h with | cons h t => cases t; simp only [Option.bind_eq_some_iff] at e; obtain ⟨n, e1, e⟩ := e; cases h with | lst e2 f => show PV S P r (SF.biAny [.ref _] S); simp only [SF.biAny, SF.listAt, e2, SF.ofO, bools_sim f e1]; exact pv_val (.bl _) e
    · cases e
  case sum =>
    simp only [biV] at e
    split at e
    · cases h with | cons h t => cases t; simp only [Option.bind_eq_some_iff] at e; obtain ⟨n, e1, e⟩ := e; cases h with | lst e2 f => show PV S P r (SF.biSum [.ref _] S); simp only [SF.biSum, SF.listAt, e2, SF.ofO, ints_sim f e1]; exact pv_val (.int _) e
    · cases e
/-- the small language's side of a word -/
def opW (p : Pr) (ws : List W) (S : Sg) : SF.R W := match p with
  | .bin o => match ws with
    | [x, y] => (SF.binW o x y S).np
    | _ => .st
  | .neg => match ws with
    | [.int i] => .ok (.int (-i)) S
    | _ => .st
  | .cmp o => match ws with
    | [x, y] => SF.ofB (SF.cmpW o x y S) S fun k => .ok (.bl k) S
    | _ => .st
  | .nt => match ws with
    | [.bl k] => .ok (.bl (!k)) S
    | _ => .st
  | .isi t => match ws with
    | [x] => SF.ofO (SF.isTy S x t) fun k => .ok (.bl k) S
    | _ => .st
  | .isis ts => match ws with
    | [x] => SF.ofO (SF.isTys S x ts) fun k => .ok (.bl k) S
    | _ => .st
  | .bi b => (SF.biW b ws S).np
  | .lset => match ws with
    | [x] => (SF.biLenset [x] S).np
    | _ => .st
  | .ix => match ws with
    | [x, y] => SF.ofO (SF.itemW x y S) fun w => .ok w S
    | _ => .st
  | .rev => match ws with
    | [x] => (SF.revW x S).np
    | _ => .st
  | .m0 m => match ws with
    | [x] => (SF.me0W m x S).np
    | _ => .st
  | .fld f => match ws with
    | [x] => SF.ofO (SF.fldW x f S) fun w => .ok w S
    | _ => .st
  | .blo => match ws with
    | [.bl k] => .ok (.bl k) S
    | _ => .st
  | .slf nm m => match ws with
    | [x] => if SF.isIns nm m x S then .ok x S else .st
    | _ => .st
def oldP : Pr → Bool
  | .rev | .m0 _ | .fld _ | .slf _ _ | .blo => false
  | _ => true
theorem pr_sim0 {p : Pr} {vs : List V} {ws : List W} {r : Sl} (h : Rds S P vs ws) (e : prV p vs = some r) (ho : oldP p = true) : PV S P r (opW p ws S) := by
  cases p
  case rev => cases ho
  case m0 m => cases ho
  case fld f => cases ho
  case slf nm m => cases ho
  case blo => cases ho
  case bin o =>
    simp only [prV] at e
    split at e
    · cases h with | cons h t => cases t with | cons h2 t => cases t; exact (bin_sim h h2 e).np
    · cases e
  case neg =>
    simp only [prV] at e
    split at e
    · cases h with | cons h t => cases t; cases h; exact pv_val (.int _) e
    · cases e
  case cmp o =>
    simp only [prV] at e
    split at e
    · cases h with | cons h t => cases t with | cons h2 t => cases t; simp only [Option.bind_eq_some_iff] at e; obtain ⟨k, e1, e⟩ := e; simp only [opW, cmp_sim h h2 e1, SF.ofB]; exact pv_val (.bl _) e
    · cases e
  case nt =>
    simp only [prV] at e
    split at e
    · cases h with | cons h t => cases t; cases h; exact pv_val (.bl _) e
    · cases e
  case isi t =>
    simp only [prV] at e
    split at e
    · cases h with | cons h t => cases t; simp only [Option.bind_eq_some_iff] at e; obtain ⟨k, e1, e⟩ := e; simp only [opW, isTy_sim h e1, SF.ofO]; exact pv_val (.bl _) e
    · cases e
  case isis ts =>
    simp only [prV] at e
    split at e
    · cases h with | cons h t => cases t; simp only [Option.bind_eq_some_iff] at e; obtain ⟨k, e1, e⟩ := e; simp only [opW, isTys_sim h e1, SF.ofO]; exact pv_val (.bl _) e
    · cases e
  case bi b => exact (bi_sim h e).np
  case lset =>
    simp only [prV] at e
    split at e
    · cases h with
      | cons h t =>
        cases t
        simp only [Option.bind_eq_some_iff] at e
        obtain ⟨us, e1, xs, e2, e⟩ := e
        split at e
        · rename_i hl
          obtain ⟨ws, q1, q2⟩ := seq_sim h e1
          simp only [opW, SF.biLenset, q1, SF.ofO, strs_sim q2 e2, List.length_map, if_pos hl, ded_sim]
          exact (pv_val (.int _) e).np
        · cases e
    · cases e
  case ix =>
    simp only [prV] at e
    split at e
    · cases h with | cons h t => cases t with | cons h2 t => cases t; simp only [Option.bind_eq_some_iff] at e; obtain ⟨k, e1, e⟩ := e; obtain ⟨u, q1, q2⟩ := item_sim h h2 e1; simp only [opW, q1, SF.ofO]; exact pv_val q2 e
    · cases e
theorem Fzs.reverse {ws : List V} {vs : List W} (r : Fzs S P ws vs) : Fzs S P ws.reverse vs.reverse := by
  induction ws generalizing vs with
  | nil => cases r; exact .nil
  | cons w ws ih =>
    cases r with
    | cons h r =>
      rw [List.reverse_cons, List.reverse_cons]
      exact (ih r).append (.cons h .nil)
theorem pr_sim {p : Pr} {vs : List V} {ws : List W} {r : Sl} (h : Rds S P vs ws) (e : prV p vs = some r) : PV S P r (opW p ws S) := by
  cases p
  case rev =>
    simp only [prV] at e
    split at e
    · cases h with | cons h t => cases t; cases h with | lst e1 f => simp only [opW, SF.revW, SF.listAt, e1, SF.ofO]; exact (pv_newL f.reverse e).np
    · cases e
  case m0 m =>
    simp only [prV] at e
    split at e
    · cases h with
      | cons h t =>
        cases t; cases h
        split at e
        · rename_i hl
          cases m
          · simp only [opW, SF.me0W, if_pos hl]; exact (pv_val (.str _) e).np
          · simp only [opW, SF.me0W, if_pos hl]; exact (pv_val (.str _) e).np
        · cases e
    · cases e
  case fld f =>
    simp only [prV] at e
    split at e
    · cases h with
      | cons h t =>
        cases t; cases h with
        | ins p e1 f1 =>
          simp only [Option.bind_eq_some_iff] at e
          obtain ⟨v, e2, e⟩ := e
          have k := f1.get f
          rw [e2] at k
          obtain ⟨w, k1, k2⟩ := k
          simp only [opW, SF.fldW, e1, k1, SF.ofO]
          exact pv_val k2 e
    · cases e
  case slf nm m =>
    simp only [prV] at e
    split at e
    · cases h with
      | cons h t =>
        cases t; cases h with
        | @ins _ _ _ lx p e1 f1 =>
          split at e
          · rename_i hc
            simp only [Bool.and_eq_true, beq_iff_eq, Option.isNone_iff_eq_none] at hc
            have k := f1.get m
            rw [hc.2] at k
            have k : _ = none := k
            have hq : SF.isIns nm m (.ref lx) S = true := by
              simp only [SF.isIns, e1, k, Option.isNone_none, Bool.and_true, hc.1, beq_self_eq_true]
            simp only [opW]
            rw [if_pos hq]
            exact pv_val (.ins p e1 f1) e
          · cases e
    · cases e
  case blo =>
    simp only [prV] at e
    split at e
    · cases h with | cons h t => cases t; cases h; exact pv_val (.bl _) e
    · cases e
  case bin o => exact pr_sim0 h e (by rfl)
  case neg => exact pr_sim0 h e (by rfl)
  case cmp o => exact pr_sim0 h e (by rfl)
  case nt => exact pr_sim0 h e (by rfl)
  case isi t => exact pr_sim0 h e (by rfl)
  case isis t => exact pr_sim0 h e (by rfl)
  case bi b => exact pr_sim0 h e (by rfl)
  case lset => exact pr_sim0 h e (by rfl)
  case ix => exact pr_sim0 h e (by rfl)
theorem me_sim {m : Me} {s : List Nat} {vs : List V} {ws : List W} {r : Sl} (h : Rds S P vs ws) (e : meV m s vs = some r) : PV S P r (SF.meW (cmpM m) (.str s) ws S) := by
  cases m
  case split =>
    simp only [meV] at e
    split at e
    · cases h with
      | cons h t =>
        cases t; cases h
        split at e
        · rename_i hl
          show PV S P r (SF.meSplit (.str _) [.str _] S)
          simp only [SF.meSplit, if_pos hl]
          refine pv_newL ?_ e
          show Fzs S P _ (List.map SF.wS (Txt.split (sS s) (sS _)))
          generalize Txt.split _ _ = qs
          induction qs with
          | nil => exact .nil
          | cons q qs ih => exact .cons (.str _) ih
        · cases e
    · cases e
  case strip1 =>
    simp only [meV] at e
    split at e
    · cases h with
      | cons h t =>
        cases t; cases h
        split at e
        · rename_i hl
          show PV S P r (SF.meStrip1 (.str _) [.str _] S)
          simp only [SF.meStrip1, if_pos hl]
          exact pv_val (.str _) e
        · cases e
    · cases e
  case join =>
    simp only [meV] at e
    split at e
    · cases h with
      | cons h t =>
        cases t
        simp only [Option.bind_eq_some_iff] at e
        obtain ⟨us, e1, xs, e2, e⟩ := e
        split at e
        · rename_i hl
          obtain ⟨ws, q1, q2⟩ := seq_sim h e1
          show PV S P r (SF.meJoin (.str _) [_] S)
          have hm : ((xs.map sS).map (·.length)).sum + (xs.map sS).length * s.length ≤ lenMax := by
            rw [List.map_map, List.length_map]
            exact hl
          simp only [SF.meJoin, q1, SF.ofO, strs_sim q2 e2, if_pos hm]
          rw [show (⟨s.toArray⟩ : Str) = sS s from rfl, join_jn]
          exact pv_val (.str _) e
        · cases e
    · cases e
end
end EP
set_option Elab.async false
set_option linter.all false
set_option maxRecDepth 100000
set_option maxHeartbeats 4000000
namespace EP
open PySem
open SF (Ky Bo Co Ty Bi Fi Sh lenMax bigOk small62)
open SF (Sg W WO)
section
variable {S S' : Sg} {F : Nat → Prop} {σ σ' : En} {τ τ' : SF.En}
theorem flag_iff {i : Nat} : flagAt σ i = true ↔ Flag σ i := by
  unfold flagAt Flag
  constructor
  · intro h
    split at h
    · rename_i p o e; subst h; exact ⟨o, e⟩
    · cases h
  · rintro ⟨o, e⟩; rw [e]
/-- one name is stored -/
theorem ER.sto (h : ER S F σ τ) (i : Nat) {s : Sl} {o : Option W} (hn : adr s o = none) (hs : SlR S (Own F σ τ) s o) : ER S F (σ.set i s) (τ.set i o) :=
  h.sub (by simp [h.len]) id (fun j s' o' a b => by
    rw [List.getElem?_set] at a b
    by_cases e : i = j
    · subst e
      rw [if_pos rfl] at a b
      split at a
      · split at b
        · cases a; cases b; exact .inl ⟨hn, hs⟩
        · cases b
      · cases a
    · rw [if_neg e] at a b; exact .inr ⟨a, b⟩) (fun _ _ _ _ _ _ _ _ _ _ _ _ e => e)
/-- a name alone is cleared -/
theorem ER.cl (h : ER S F σ τ) (i : Nat) : ER S F (σ.set i .no) τ :=
  h.sub (by simp [h.len]) id (fun j s' o' a b => by
    rw [List.getElem?_set] at a
    by_cases e : i = j
    · subst e
      rw [if_pos rfl] at a
      split at a
      · cases a; exact .inl ⟨rfl, .no _⟩
      · cases a
    · rw [if_neg e] at a; exact .inr ⟨a, b⟩) (fun _ _ _ _ _ _ _ _ _ _ _ _ e => e)
/-- the head is stored at a name -/
theorem ER.put {r : Sl} {o : Option W} (h : ER S F (r :: σ) (o :: τ)) (i : Nat) : ER S F (σ.set i r) (τ.set i o) := by
  have hl : σ.length = τ.length := by simpa using h.len
  refine h.sub (by simp [hl]) (fun j => if j = i then 0 else j + 1) (fun j s' o' a b => ?_) (fun j k _ _ _ _ _ _ _ _ _ _ e => ?_)
  · rw [List.getElem?_set] at a b
    by_cases e : i = j
    · subst e
      rw [if_pos rfl] at a b
      split at a
      · split at b
        · cases a; cases b; right; simp
        · cases b
      · cases a
    · rw [if_neg e] at a b
      right
      rw [if_neg (fun q => e q.symm)]
      exact ⟨by simpa using a, by simpa using b⟩
  · split at e <;> split at e <;> omega
/-- a name's own thing comes to the head -/
theorem ER.pull (h : ER S F σ τ) {i : Nat} {p q : Bool} {o : Ow} {w : Option W} (hs : σ[i]? = some (.own p o)) (ht : τ[i]? = some w) : ER S F (.own q o :: σ.set i .no) (w :: τ) := by
  have h1 : ER S F (.own p o :: σ.set i .no) (w :: τ) := by
    refine h.sub (by simp [h.len]) (fun j => match j with | 0 => i | j + 1 => j) (fun j s' o' a b => ?_) (fun j k s o s' o' a b a' b' c c' e => ?_)
    · cases j with
      | zero => simp at a b; subst a b; exact .inr ⟨hs, ht⟩
      | succ j =>
        simp only [List.getElem?_cons_succ] at a b
        rw [List.getElem?_set] at a
        by_cases e : i = j
        · subst e
          rw [if_pos rfl] at a
          split at a
          · cases a; exact .inl ⟨rfl, .no _⟩
          · cases a
        · rw [if_neg e] at a; exact .inr ⟨a, b⟩
    · cases j with
      | zero =>
        cases k with
        | zero => rfl
        | succ k =>
          dsimp only at e
          subst e
          simp only [List.getElem?_cons_succ, List.getElem?_set] at a'
          split at a'
          · split at a'
            · cases a'; exact absurd rfl c'
            · cases a'
          · rename_i z; exact absurd trivial z
      | succ j =>
        cases k with
        | zero =>
          dsimp only at e
          subst e
          simp only [List.getElem?_cons_succ, List.getElem?_set] at a
          split at a
          · split at a
            · cases a; exact absurd rfl c
            · cases a
          · rename_i z; exact absurd trivial z
        | succ k => dsimp only at e; omega
  -- the flag is another
  have ad : adr (.own q o) w = adr (.own p o) w := by
    cases w with
    | none => rfl
    | some u => cases u <;> rfl
  have ha : ∀ l, Adr (.own q o :: σ.set i .no) (w :: τ) l ↔ Adr (.own p o :: σ.set i .no) (w :: τ) l := fun l => by
    rw [adr_cons, adr_cons, ad]
  have ho : ∀ l, Own F (.own q o :: σ.set i .no) (w :: τ) l ↔ Own F (.own p o :: σ.set i .no) (w :: τ) l := fun l => by unfold Own; rw [ha]
  refine ⟨by simpa using h1.len, fun j s o' a b => ?_, fun j k s u s' u' l a b a' b' c c' => ?_, fun l z => h1.dis l ((ha l).mp z), h1.bd⟩
  · cases j with
    | zero =>
      simp at a b; subst a b
      have := h1.gt 0 _ _ rfl rfl
      cases this with
      | own e g => exact .own e (g.mono (fun _ _ _ => rfl) fun l _ => (ho l).mp)
    | succ j => exact (h1.gt (j + 1) s o' (by simpa using a) (by simpa using b)).mono (fun _ _ _ => rfl) (fun l _ => (ho l).mp) fun _ _ => rfl
  · have key : ∀ (j : Nat) (s : Sl) (u : Option W), (Sl.own q o :: σ.set i .no)[j]? = some s → (w :: τ)[j]? = some u → adr s u = some l → ∃ s2, (Sl.own p o :: σ.set i .no)[j]? = some s2 ∧ adr s2 u = some l := fun j s u a b c => by
      cases j with
      | zero => simp at a b; subst a b; exact ⟨_, rfl, by rw [← ad]; exact c⟩
      | succ j => exact ⟨s, by simpa using a, c⟩
    obtain ⟨s2, a2, c2⟩ := key j s u a b c
    obtain ⟨s3, a3, c3⟩ := key k s' u' a' b' c'
    exact h1.inj j k s2 u s3 u' l a2 b a3 b' c2 c3
/-! # targets -/
def KT (S : Sg) (F : Nat → Prop) (σ : En) (τ : SF.En) (S' : Sg) (σ' : En) (τ' : SF.En) (sl : List Nat) : Prop :=
  Po S F σ τ S' σ' τ' ∧ ∀ i, i ∉ sl → τ'[i]? = τ[i]?
theorem sto_po (h : ER S F σ τ) {i : Nat} {v : V} {w : W} (hv : Fz S (Own F σ τ) v w) (e : setS σ i (.val v) = some σ') : KT S F σ τ S σ' (τ.set i (some w)) [i] := by
  unfold setS at e
  split at e
  · cases e
  · rename_i hf
    cases e
    have hE := h.sto i (s := .val v) (o := some w) rfl (.val hv)
    refine ⟨⟨fun _ _ _ => rfl, Nat.le_refl _, hE, fun l _ ⟨j, s, o, a, b, c⟩ => ?_, fun j ⟨o, a⟩ => ?_, by simp⟩, fun j hj => ?_⟩
    · rw [List.getElem?_set] at a b
      by_cases e : i = j
      · subst e
        rw [if_pos rfl] at a
        split at a
        · cases a; cases c
        · cases a
      · rw [if_neg e] at a b; exact ⟨j, s, o, a, b, c⟩
    · rw [List.getElem?_set] at a
      by_cases e : i = j
      · subst e
        rw [if_pos rfl] at a
        split at a
        · cases a
        · cases a
      · rw [if_neg e] at a
        exact ⟨⟨o, a⟩, by rw [List.getElem?_set_ne e]⟩
    · rw [List.getElem?_set_ne (fun e => hj (by simp [e]))]
theorem KT.trans {S1 : Sg} {σ1 : En} {τ1 : SF.En} {sl sl' : List Nat} (a : KT S F σ τ S1 σ1 τ1 sl) (b : KT S1 F σ1 τ1 S' σ' τ' sl') : KT S F σ τ S' σ' τ' (sl ++ sl') :=
  ⟨a.1.trans b.1, fun i hi => (b.2 i fun q => hi (List.mem_append_right _ q)).trans (a.2 i fun q => hi (List.mem_append_left _ q))⟩
theorem tgs_len : ∀ ts : Tgs, SF.tgsLen (cmpTgs ts) = tgsLen ts
  | .nil => rfl
  | .cons t ts => by simp only [cmpTgs, SF.tgsLen, tgsLen, tgs_len ts]
  | .star i ts => by simp only [cmpTgs, SF.tgsLen, tgsLen, tgs_len ts]
theorem star_ix : ∀ ts : Tgs, SF.starIx (cmpTgs ts) = starIx ts
  | .nil => rfl
  | .cons t ts => by simp only [cmpTgs, SF.starIx, starIx, star_ix ts]
  | .star i ts => rfl
mutual
theorem asg_sim : ∀ (tg : Tg) {S : Sg} {F : Nat → Prop} {σ σ' : En} {τ : SF.En} {v : V} {w : W}, ER S F σ τ → Fz S (Own F σ τ) v w → asgT tg v σ = some σ' →
    ∃ S' τ', SF.asgT (cmpTg tg) w τ S = .ok τ' S' ∧ KT S F σ τ S' σ' τ' (tgSl tg)
  | .na i, S, F, σ, σ', τ, v, w, h, hv, e => by
    simp only [asgT] at e
    exact ⟨S, _, by simp only [cmpTg, SF.asgT], sto_po h hv e⟩
  | .tu ts, S, F, σ, σ', τ, v, w, h, hv, e => by
    simp only [asgT] at e
    simp only [cmpTg, SF.asgT, star_ix, tgSl]
    cases e1 : starIx ts with
    | none =>
      simp only [e1] at e ⊢
      cases hv with
      | tup hv => exact asgs_sim ts h hv e
      | _ => cases e
    | some i =>
      simp only [e1] at e ⊢
      cases e2 : seqV v with
      | none => simp only [e2] at e; cases e
      | some ws =>
        simp only [e2] at e
        obtain ⟨us, q1, q2⟩ := seq_sim hv.rd e2
        simp only [q1, tgs_len]
        rw [q2.length] at e
        by_cases hl : tgsLen ts ≤ us.length + 1 ∧ us.length ≤ lenMax
        · rw [if_pos hl] at e
          rw [if_pos hl]
          have po := Po.grow h [.lst ((us.drop i).take (us.length - i - (tgsLen ts - 1 - i)))]
          have q3 := po.fzs q2
          obtain ⟨S2, τ2, r1, r2⟩ := asgs_sim ts po.er (.append (.append (q3.take i) (.cons (.lst (fun z => absurd (h.own_lt z) (Nat.lt_irrefl _)) (by rw [List.getElem?_append_right (Nat.le_refl _), Nat.sub_self]; rfl) ((q3.drop i).take _)) .nil)) ((q3.drop i).drop _)) e
          exact ⟨S2, τ2, r1, po.trans r2.1, r2.2⟩
        · rw [if_neg hl] at e; cases e
theorem asgs_sim : ∀ (ts : Tgs) {S : Sg} {F : Nat → Prop} {σ σ' : En} {τ : SF.En} {vs : List V} {ws : List W}, ER S F σ τ → Fzs S (Own F σ τ) vs ws → asgTs ts vs σ = some σ' →
    ∃ S' τ', SF.asgTs (cmpTgs ts) ws τ S = .ok τ' S' ∧ KT S F σ τ S' σ' τ' (tgsSl ts)
  | .nil, S, F, σ, σ', τ, vs, ws, h, hv, e => by
    cases hv with
    | nil => simp only [asgTs] at e; cases e; exact ⟨S, τ, by simp only [cmpTgs, SF.asgTs], .refl h, fun _ _ => rfl⟩
    | cons _ _ => simp only [asgTs] at e; cases e
  | .cons t ts, S, F, σ, σ', τ, vs, ws, h, hv, e => by
    cases hv with
    | nil => simp only [asgTs] at e; cases e
    | cons hv r =>
      simp only [asgTs, Option.bind_eq_some_iff] at e
      obtain ⟨σ1, e1, e2⟩ := e
      obtain ⟨S1, τ1, a1, a2⟩ := asg_sim t h hv e1
      obtain ⟨S2, τ2, b1, b2⟩ := asgs_sim ts a2.1.er (a2.1.fzs r) e2
      exact ⟨S2, τ2, by simp only [cmpTgs, SF.asgTs, a1, SF.R.bind_ok, b1], a2.trans b2⟩
  | .star i ts, S, F, σ, σ', τ, vs, ws, h, hv, e => by
    cases hv with
    | nil => simp only [asgTs] at e; cases e
    | cons hv r =>
      simp only [asgTs, Option.bind_eq_some_iff] at e
      obtain ⟨σ1, e1, e2⟩ := e
      have a2 := sto_po h hv e1
      obtain ⟨S2, τ2, b1, b2⟩ := asgs_sim ts a2.1.er (a2.1.fzs r) e2
      exact ⟨S2, τ2, by simp only [cmpTgs, SF.asgTs, b1], a2.trans b2⟩
end
end
end EP
set_option Elab.async false
set_option linter.all false
set_option maxRecDepth 100000
set_option maxHeartbeats 4000000
namespace EP
open PySem
open SF (Ky Bo Co Ty Bi Fi Sh lenMax bigOk small62)
open SF (Sg W WO)
section
variable {S S' : Sg} {F F' : Nat → Prop} {σ σ' σ1 : En} {τ τ' : SF.En} {C D : En} {Cτ Dτ : SF.En}
/-! # parts of the names -/
theorem adr_app (hl : C.length = Cτ.length) {l : Nat} : Adr (C ++ σ) (Cτ ++ τ) l ↔ Adr C Cτ l ∨ Adr σ τ l := by
  induction C generalizing Cτ with
  | nil =>
    cases Cτ with
    | nil =>
      constructor
      · exact .inr
      · rintro (⟨i, s, o, a, _, _⟩ | h)
        · simp at a
        · exact h
    | cons _ _ => simp at hl
  | cons c C ih =>
    cases Cτ with
    | nil => simp at hl
    | cons d Cτ => rw [List.cons_append, List.cons_append, adr_cons, adr_cons, ih (by simpa using hl), or_assoc]
theorem adr_nil {l : Nat} : ¬ Adr [] [] l := by rintro ⟨i, s, o, a, _, _⟩; simp at a
theorem ER.less (h : ER S F' σ τ) (k : ∀ l, F l → F' l) : ER S F σ τ :=
  ⟨h.len, fun i s o a b => (h.gt i s o a b).mono (fun _ _ _ => rfl) (fun l _ q => q.imp (k l) id) fun _ _ => rfl, h.inj, fun l a b => h.dis l a (k l b), fun l q => h.bd l (k l q)⟩
/-- one out of the middle to the head -/
theorem ER.mid {x : Sl} {y : Option W} (hl : C.length = Cτ.length) (h : ER S F (C ++ x :: σ) (Cτ ++ y :: τ)) : ER S F (x :: C ++ σ) (y :: Cτ ++ τ) := by
  have h2 : σ.length = τ.length := by have := h.len; simp at this; omega
  refine h.sub (by simp [hl, h2]) (fun j => match j with | 0 => C.length | j + 1 => if j < C.length then j else j + 1) (fun j s o a b => .inr ?_) (fun j k s o s' o' _ _ _ _ _ _ e => ?_)
  · cases j with
    | zero =>
      simp at a b; subst a b
      dsimp only
      constructor
      · rw [List.getElem?_append_right (Nat.le_refl _), Nat.sub_self]; rfl
      · rw [List.getElem?_append_right (by omega), hl, Nat.sub_self]; rfl
    | succ j =>
      simp only [List.cons_append, List.getElem?_cons_succ] at a b
      dsimp only
      split
      · rename_i hj
        rw [List.getElem?_append_left hj] at a ⊢
        rw [List.getElem?_append_left (by omega)] at b ⊢
        exact ⟨a, b⟩
      · rename_i hj
        rw [List.getElem?_append_right (by omega)] at a ⊢
        rw [List.getElem?_append_right (by omega)] at b ⊢
        rw [show j + 1 - C.length = (j - C.length) + 1 by omega, show j + 1 - Cτ.length = (j - Cτ.length) + 1 by omega]
        exact ⟨by simpa using a, by simpa using b⟩
  · cases j <;> cases k <;> dsimp only at e <;> (try split at e) <;> (try split at e) <;> omega
theorem ER.mid' {x : Sl} {y : Option W} (hl : C.length = Cτ.length) (h : ER S F (x :: C ++ σ) (y :: Cτ ++ τ)) : ER S F (C ++ x :: σ) (Cτ ++ y :: τ) := by
  have h2 : σ.length = τ.length := by have := h.len; simp at this; omega
  refine h.sub (by simp [hl, h2]) (fun j => if j < C.length then j + 1 else if j = C.length then 0 else j) (fun j s o a b => .inr ?_) (fun j k s o s' o' _ _ _ _ _ _ e => ?_)
  · by_cases hj : j < C.length
    · rw [List.getElem?_append_left hj] at a
      rw [List.getElem?_append_left (by omega)] at b
      rw [if_pos hj]
      simp only [List.cons_append, List.getElem?_cons_succ]
      rw [List.getElem?_append_left hj, List.getElem?_append_left (by omega)]
      exact ⟨a, b⟩
    · rw [if_neg hj]
      rw [List.getElem?_append_right (by omega)] at a
      rw [List.getElem?_append_right (by omega)] at b
      by_cases e : j = C.length
      · rw [if_pos e]
        subst e
        rw [hl, Nat.sub_self] at b
        rw [Nat.sub_self] at a
        exact ⟨by simpa using a, by simpa using b⟩
      · rw [if_neg e]
        obtain ⟨m, rfl⟩ : ∃ m, j = m + 1 := ⟨j - 1, by omega⟩
        rw [show m + 1 - C.length = (m - C.length) + 1 by omega] at a
        rw [show m + 1 - Cτ.length = (m - Cτ.length) + 1 by omega] at b
        simp only [List.cons_append, List.getElem?_cons_succ] at a b ⊢
        rw [List.getElem?_append_right (by omega), List.getElem?_append_right (by omega)]
        exact ⟨a, b⟩
  · split at e <;> split at e <;> (try split at e) <;> (try split at e) <;> omega
theorem ER.drop (hl : C.length = Cτ.length) (h : ER S F (C ++ σ) (Cτ ++ τ)) : ER S F σ τ := by
  induction C generalizing Cτ with
  | nil =>
    cases Cτ with
    | nil => exact h
    | cons _ _ => simp at hl
  | cons c C ih =>
    cases Cτ with
    | nil => simp at hl
    | cons d Cτ => exact ih (by simpa using hl) h.tail
/-- the same up to the flags -/
theorem ER.reflag (h : ER S F σ τ) (hl : σ'.length = σ.length) (k : ∀ (i : Nat) (s : Sl), σ'[i]? = some s → ∃ s', σ[i]? = some s' ∧ (s = s' ∨ ∃ p q o, s = .own p o ∧ s' = .own q o)) : ER S F σ' τ := by
  have key : ∀ (i : Nat) (s : Sl) (o : Option W) (l : Nat), σ'[i]? = some s → adr s o = some l → ∃ s', σ[i]? = some s' ∧ adr s' o = some l := fun i s o l a c => by
    obtain ⟨s', a', e | ⟨p, q, u, rfl, rfl⟩⟩ := k i s a
    · subst e; exact ⟨s, a', c⟩
    · refine ⟨_, a', ?_⟩
      cases o with
      | none => cases c
      | some w => cases w <;> (cases c <;> rfl)
  have hA : ∀ l, Adr σ' τ l → Adr σ τ l := fun l ⟨i, s, o, a, b, c⟩ => by
    obtain ⟨s', a', c'⟩ := key i s o l a c
    exact ⟨i, s', o, a', b, c'⟩
  refine ⟨hl.trans h.len, fun i s o a b => ?_, fun i j s o s' o' l a b a' b' c c' => ?_, fun l q => h.dis l (hA l q), h.bd⟩
  · obtain ⟨s', a', e | ⟨p, q, u, rfl, rfl⟩⟩ := k i s a
    · subst e; exact (h.gt i s o a' b).mono (fun _ _ _ => rfl) (fun l _ q => q.imp id (hA l)) fun _ _ => rfl
    · have := h.gt i _ o a' b
      cases this with
      | own e g => exact .own e (g.mono (fun _ _ _ => rfl) fun l _ q => q.imp id (hA l))
  · obtain ⟨s2, a2, c2⟩ := key i s o l a c
    obtain ⟨s3, a3, c3⟩ := key j s' o' l a' c'
    exact h.inj i j s2 o s3 o' l a2 b a3 b' c2 c3
theorem ER.split (hl : C.length = Cτ.length) (h : ER S F (C ++ σ) (Cτ ++ τ)) : ER S (Own F σ τ) C Cτ := by
  have ho : ∀ l, Own (Own F σ τ) C Cτ l → Own F (C ++ σ) (Cτ ++ τ) l := fun l q => by
    rcases q with (q | q) | q
    · exact .inl q
    · exact .inr ((adr_app hl).mpr (.inr q))
    · exact .inr ((adr_app hl).mpr (.inl q))
  have up : ∀ {i : Nat} {s : Sl} {o : Option W}, C[i]? = some s → Cτ[i]? = some o → (C ++ σ)[i]? = some s ∧ (Cτ ++ τ)[i]? = some o := fun {i s o} a b =>
    ⟨by rw [List.getElem?_append_left (List.getElem?_eq_some_iff.mp a).1]; exact a, by rw [List.getElem?_append_left (List.getElem?_eq_some_iff.mp b).1]; exact b⟩
  refine ⟨hl, fun i s o a b => (h.gt i s o (up a b).1 (up a b).2).mono (fun _ _ _ => rfl) (fun l _ => ho l) fun _ _ => rfl,
    fun i j s o s' o' l a b a' b' c c' => h.inj i j s o s' o' l (up a b).1 (up a b).2 (up a' b').1 (up a' b').2 c c', fun l q z => ?_, fun l q => ?_⟩
  · rcases z with z | ⟨j, s', o', a', b', c'⟩
    · exact h.dis l ((adr_app hl).mpr (.inl q)) z
    · obtain ⟨i, s, o, a, b, c⟩ := q
      have hi := (List.getElem?_eq_some_iff.mp a).1
      have := h.inj i (C.length + j) s o s' o' l (up a b).1 (up a b).2 (by rw [List.getElem?_append_right (by omega), Nat.add_sub_cancel_left]; exact a') (by rw [List.getElem?_append_right (by omega), hl, Nat.add_sub_cancel_left]; exact b') c c'
      omega
  · rcases q with q | q
    · exact h.bd l q
    · exact h.adr_lt ((adr_app hl).mpr (.inr q))
theorem ER.join (hl : D.length = Dτ.length) (hD : ER S F (D ++ σ) (Dτ ++ τ)) (hC : ER S' (Own F σ τ) C Cτ) (fr : ∀ l, l < S.length → ¬ Adr D Dτ l → S'[l]? = S[l]?) (len : S.length ≤ S'.length) (sub : ∀ l, l < S.length → Adr C Cτ l → Adr D Dτ l) : ER S' F (C ++ σ) (Cτ ++ τ) := by
  have hc := hC.len
  have hs : σ.length = τ.length := by have := hD.len; simp at this; omega
  have hq : ER S F σ τ := hD.drop hl
  have hdis : ∀ l, Adr σ τ l → ¬ Adr D Dτ l := fun l q z => (hD.split hl).dis l z (.inr q)
  have ho : ∀ l, l < S.length → Own F (C ++ σ) (Cτ ++ τ) l → Own F (D ++ σ) (Dτ ++ τ) l := fun l h1 q => by
    rcases q with q | q
    · exact .inl q
    · rcases (adr_app hc).mp q with q | q
      · exact .inr ((adr_app hl).mpr (.inl (sub l h1 q)))
      · exact .inr ((adr_app hl).mpr (.inr q))
  have ho2 : ∀ l, Own F (C ++ σ) (Cτ ++ τ) l → Own (Own F σ τ) C Cτ l := fun l q => by
    rcases q with q | q
    · exact .inl (.inl q)
    · rcases (adr_app hc).mp q with q | q
      · exact .inr q
      · exact .inl (.inr q)
  refine ⟨by simp [hc, hs], fun i s o a b => ?_, fun i j s o s' o' l a b a' b' c c' => ?_, fun l q z => ?_, fun l q => Nat.lt_of_lt_of_le (hD.bd l q) len⟩
  · by_cases hi : i < C.length
    · rw [List.getElem?_append_left hi] at a
      rw [List.getElem?_append_left (by omega)] at b
      exact (hC.gt i s o a b).mono (fun _ _ _ => rfl) (fun l _ => ho2 l) fun _ _ => rfl
    · rw [List.getElem?_append_right (by omega)] at a
      rw [List.getElem?_append_right (by omega)] at b
      rw [← hc] at b
      have h1 : (D ++ σ)[D.length + (i - C.length)]? = some s := by rw [List.getElem?_append_right (by omega), Nat.add_sub_cancel_left]; exact a
      have h2 : (Dτ ++ τ)[D.length + (i - C.length)]? = some o := by rw [List.getElem?_append_right (by omega), hl, Nat.add_sub_cancel_left]; exact b
      refine (hD.gt _ s o h1 h2).mono (fun l q1 q2 => fr l q1 fun z => q2 (.inr ((adr_app hl).mpr (.inl z)))) ho fun l q => ?_
      have qa : Adr σ τ l := ⟨_, s, o, a, b, q⟩
      exact fr l (hq.adr_lt qa) (hdis l qa)
  · by_cases hi : i < C.length <;> by_cases hj : j < C.length
    · rw [List.getElem?_append_left hi] at a
      rw [List.getElem?_append_left (by omega)] at b
      rw [List.getElem?_append_left hj] at a'
      rw [List.getElem?_append_left (by omega)] at b'
      exact hC.inj i j s o s' o' l a b a' b' c c'
    · rw [List.getElem?_append_left hi] at a
      rw [List.getElem?_append_left (by omega)] at b
      rw [List.getElem?_append_right (by omega)] at a'
      rw [List.getElem?_append_right (by omega), ← hc] at b'
      exact (hC.dis l ⟨i, s, o, a, b, c⟩ (.inr ⟨_, s', o', a', b', c'⟩)).elim
    · rw [List.getElem?_append_left hj] at a'
      rw [List.getElem?_append_left (by omega)] at b'
      rw [List.getElem?_append_right (by omega)] at a
      rw [List.getElem?_append_right (by omega), ← hc] at b
      exact (hC.dis l ⟨j, s', o', a', b', c'⟩ (.inr ⟨_, s, o, a, b, c⟩)).elim
    · rw [List.getElem?_append_right (by omega)] at a a'
      rw [List.getElem?_append_right (by omega), ← hc] at b b'
      have := hq.inj _ _ s o s' o' l a b a' b' c c'
      omega
  · rcases (adr_app hc).mp q with q | q
    · exact hC.dis l q (.inl z)
    · exact hq.dis l q z
/-! # arguments are handed in and come back -/
theorem take_sim : ∀ {as : List A} {ws : List W} {σ σ1 : En} {ps : List Sl} {C : En} {Cτ : SF.En}, C.length = Cτ.length → ER S F (C ++ σ) (Cτ ++ τ) → As S (Own F (C ++ σ) (Cτ ++ τ)) τ as ws → takeA as σ = some (ps, σ1) →
    ER S F (ps ++ (C ++ σ1)) (ws.map some ++ (Cτ ++ τ)) ∧ ps.length = ws.length ∧ (∀ l, Adr (ps ++ (C ++ σ1)) (ws.map some ++ (Cτ ++ τ)) l → Adr (C ++ σ) (Cτ ++ τ) l) ∧ (∀ i, Flag σ1 i → Flag σ i)
  | [], _, σ, σ1, ps, C, Cτ, hl, h, ha, e => by
    cases ha
    cases e
    exact ⟨h, rfl, fun l q => q, fun i q => q⟩
  | .va v :: as, _, σ, σ1, ps, C, Cτ, hl, h, ha, e => by
    cases ha with
    | va hv ha =>
      simp only [takeA, Option.map_eq_some_iff] at e
      obtain ⟨⟨ps', σ2⟩, e, e2⟩ := e
      cases e2
      obtain ⟨h1, h2, h3, h4⟩ := take_sim hl h ha e
      refine ⟨h1.val (hv.mono (fun _ _ _ => rfl) fun l _ q => q.imp id (h3 l)), by simp [h2], fun l q => ?_, h4⟩
      rcases adr_cons.mp q with q | q
      · cases q
      · exact h3 l q
  | .ow i :: as, _, σ, σ1, ps, C, Cτ, hl, h, ha, e => by
    cases ha with
    | @ow _ w _ ws hw ha =>
      simp only [takeA] at e
      split at e
      · rename_i p o hs
        simp only [Option.map_eq_some_iff] at e
        obtain ⟨⟨ps', σ2⟩, e, e2⟩ := e
        cases e2
        have hs2 : (C ++ σ)[C.length + i]? = some (.own p o) := by rw [List.getElem?_append_right (by omega), Nat.add_sub_cancel_left]; exact hs
        have hw2 : (Cτ ++ τ)[C.length + i]? = some (some w) := by rw [List.getElem?_append_right (by omega), hl, Nat.add_sub_cancel_left]; exact hw
        have q := h.pull (q := true) hs2 hw2
        rw [List.set_append_right _ _ (by omega), Nat.add_sub_cancel_left] at q
        have sub0 : ∀ l, Adr ((.own true o :: C) ++ σ.set i .no) ((some w :: Cτ) ++ τ) l → Adr (C ++ σ) (Cτ ++ τ) l := fun l z => by
          rw [List.cons_append, List.cons_append] at z
          rcases adr_cons.mp z with z | z
          · refine ⟨_, _, _, hs2, hw2, ?_⟩
            cases w <;> (cases z <;> rfl)
          · obtain ⟨j, s', o', a, b, c⟩ := z
            by_cases hj : j < C.length
            · rw [List.getElem?_append_left hj] at a
              exact ⟨j, s', o', by rw [List.getElem?_append_left hj]; exact a, b, c⟩
            · rw [List.getElem?_append_right (by omega), List.getElem?_set] at a
              split at a
              · split at a
                · cases a; cases c
                · cases a
              · exact ⟨j, s', o', by rw [List.getElem?_append_right (by omega)]; exact a, b, c⟩
        obtain ⟨h1, h2, h3, h4⟩ := take_sim (C := .own true o :: C) (Cτ := some w :: Cτ) (by simp [hl]) q (ha.mono (fun _ _ _ => rfl) fun l _ z => z.imp id (sub0 l)) e
        have h5 := h1.mid (by simp [h2])
        refine ⟨h5, by simp [h2], fun l z => sub0 l (h3 l ?_), fun j z => ?_⟩
        · have hlen : ps'.length = (ws.map some).length := by simp [h2]
          rw [adr_app hlen, List.cons_append, List.cons_append, adr_cons]
          have z' : Adr (.own true o :: (ps' ++ (C ++ σ2))) (some w :: (ws.map some ++ (Cτ ++ τ))) l := z
          rw [adr_cons, adr_app hlen] at z'
          rcases z' with z | z | z
          · exact .inr (.inl z)
          · exact .inl z
          · exact .inr (.inr z)
        · obtain ⟨u, z⟩ := h4 j z
          rw [List.getElem?_set] at z
          split at z
          · split at z <;> cases z
          · exact ⟨u, z⟩
      · cases e
theorem back_sim {σ0 : En} : ∀ {as : List A} {ws : List W} {outs : List Sl} {σ : En} {C : En} {Cτ : SF.En} {P : Nat → Prop} {S0 : Sg}, C.length = Cτ.length → outs.length = ws.length → ER S F (C ++ (outs ++ σ)) (Cτ ++ (ws.map some ++ τ)) → As S0 P τ as ws →
    ER S F (C ++ putA σ0 as outs σ) (Cτ ++ τ) ∧ (∀ l, Adr (C ++ putA σ0 as outs σ) (Cτ ++ τ) l → Adr (C ++ (outs ++ σ)) (Cτ ++ (ws.map some ++ τ)) l) ∧ (∀ i, Flag (putA σ0 as outs σ) i → Flag σ0 i ∨ Flag σ i)
  | [], _, outs, σ, C, Cτ, P, S0, hl, ho, h, ha => by
    cases ha
    have : outs = [] := List.length_eq_zero_iff.mp ho
    subst this
    exact ⟨h, fun l q => q, fun i q => .inr q⟩
  | .va v :: as, _, outs, σ, C, Cτ, P, S0, hl, ho, h, ha => by
    cases ha with
    | @va _ w _ ws _ ha =>
      cases outs with
      | nil => simp at ho
      | cons o outs =>
        have h1 : ER S F (C ++ (outs ++ σ)) (Cτ ++ (ws.map some ++ τ)) := (h.mid hl).tail
        obtain ⟨h2, h3, h4⟩ := back_sim (σ0 := σ0) hl (by simpa using ho) h1 ha
        refine ⟨by simpa only [putA] using h2, fun l q => ?_, by simpa only [putA] using h4⟩
        have q2 := h3 l (by simpa only [putA] using q)
        rw [adr_app hl] at q2 ⊢
        exact q2.imp id fun z => adr_cons.mpr (.inr z)
  | .ow i :: as, _, outs, σ, C, Cτ, P, S0, hl, ho, h, ha => by
    cases ha with
    | @ow _ w _ ws hw ha =>
      cases outs with
      | nil => simp at ho
      | cons o outs =>
        have ho' : outs.length = ws.length := by simpa using ho
        have hm := h.mid hl
        by_cases hf : ∃ u, o = .own true u
        · obtain ⟨u, rfl⟩ := hf
          have hm' : ER S F ((.own true u :: C) ++ (outs ++ σ)) ((some w :: Cτ) ++ (ws.map some ++ τ)) := hm
          obtain ⟨h2, h3, h4⟩ := back_sim (σ0 := σ0) (C := .own true u :: C) (Cτ := some w :: Cτ) (by simp [hl]) ho' hm' ha
          have h2' : ER S F (.own true u :: (C ++ putA σ0 as outs σ)) (some w :: (Cτ ++ τ)) := h2
          have h5 := h2'.put (C.length + i)
          rw [List.set_append_right _ _ (by omega), List.set_append_right _ _ (by omega), Nat.add_sub_cancel_left, hl, Nat.add_sub_cancel_left,
            show τ.set i (some w) = τ from by
              apply List.ext_getElem?
              intro j
              rw [List.getElem?_set]
              split
              · rename_i e
                subst e
                rw [if_pos (List.getElem?_eq_some_iff.mp hw).1, hw]
              · rfl] at h5
          simp only [putA]
          have hget : ∀ (j : Nat) (s : Sl), (C ++ (putA σ0 as outs σ).set i (.own (flagAt σ0 i) u))[j]? = some s → ∃ s', (C ++ (putA σ0 as outs σ).set i (.own true u))[j]? = some s' ∧ (s = s' ∨ ∃ p q o, s = .own p o ∧ s' = .own q o) := fun j s a => by
            by_cases hj : j < C.length
            · rw [List.getElem?_append_left hj] at a ⊢
              exact ⟨s, a, .inl rfl⟩
            · rw [List.getElem?_append_right (by omega), List.getElem?_set] at a ⊢
              split at a
              · rename_i e
                split at a
                · rename_i e2
                  cases a
                  rw [if_pos e, if_pos e2]
                  exact ⟨_, rfl, .inr ⟨_, _, _, rfl, rfl⟩⟩
                · cases a
              · rename_i e
                rw [if_neg e]
                exact ⟨s, a, .inl rfl⟩
          refine ⟨h5.reflag (by simp) hget, fun l q => ?_, fun j ⟨v, q⟩ => ?_⟩
          · have q2 : Adr ((.own true u :: C) ++ putA σ0 as outs σ) ((some w :: Cτ) ++ τ) l := by
              rw [List.cons_append, List.cons_append]
              obtain ⟨j, s, o', a, b, c⟩ := q
              by_cases hj : j < C.length
              · rw [List.getElem?_append_left hj] at a
                exact adr_cons.mpr (.inr ⟨j, s, o', by rw [List.getElem?_append_left hj]; exact a, b, c⟩)
              · rw [List.getElem?_append_right (by omega), List.getElem?_set] at a
                split at a
                · rename_i e
                  split at a
                  · cases a
                    rw [List.getElem?_append_right (by omega), ← hl, ← e, hw] at b
                    cases b
                    refine adr_cons.mpr (.inl ?_)
                    cases w <;> (cases c <;> rfl)
                  · cases a
                · exact adr_cons.mpr (.inr ⟨j, s, o', by rw [List.getElem?_append_right (by omega)]; exact a, b, c⟩)
            have q3 := h3 l q2
            rw [List.cons_append, List.cons_append, adr_cons, adr_app hl] at q3
            rw [adr_app hl, List.map_cons, List.cons_append, List.cons_append, adr_cons]
            rcases q3 with q | q | q
            · exact .inr (.inl q)
            · exact .inl q
            · exact .inr (.inr q)
          · rw [List.getElem?_set] at q
            split at q
            · rename_i e
              subst e
              split at q
              · simp only [Option.some.injEq, Sl.own.injEq] at q
                exact .inl (flag_iff.mp q.1)
              · cases q
            · exact h4 j ⟨v, q⟩
        · have h1 : ER S F (C ++ (outs ++ σ)) (Cτ ++ (ws.map some ++ τ)) := hm.tail
          obtain ⟨h2, h3, h4⟩ := back_sim (σ0 := σ0) hl ho' h1 ha
          have hp : putA σ0 (.ow i :: as) (o :: outs) σ = putA σ0 as outs σ := by
            cases o with
            | own p u =>
              cases p
              · rfl
              · exact absurd ⟨u, rfl⟩ hf
            | _ => rfl
          rw [hp]
          refine ⟨h2, fun l q => ?_, h4⟩
          have q2 := h3 l q
          rw [adr_app hl] at q2 ⊢
          exact q2.imp id fun z => adr_cons.mpr (.inr z)
end
end EP
set_option Elab.async false
set_option linter.all false
set_option maxRecDepth 100000
set_option maxHeartbeats 4000000
namespace EP
open PySem
open SF (Ky Bo Co Ty Bi Fi Sh lenMax bigOk small62)
open SF (Sg W WO)
section
variable {S S' : Sg} {F F' : Nat → Prop} {σ σ' σ1 : En} {τ τ' : SF.En} {P P' : Nat → Prop}
theorem fin_bind {α β γ : Type} (r : SF.R α) (f : α → Sg → SF.R β) (g : β → Sg → SF.R γ) : (r.bind f).bind g = r.bind fun a S => (f a S).bind g := by cases r <;> rfl
mutual
theorem gr_fz : ∀ {v : V}, gr v = true → Fz S P v (cvW2 v)
  | .non, _ => by simp only [cvW2]; exact .non
  | .bl b, _ => by simp only [cvW2]; exact .bl b
  | .int b, _ => by simp only [cvW2]; exact .int b
  | .str b, _ => by simp only [cvW2]; exact .str b
  | .tup vs, h => by simp only [cvW2]; exact .tup (grs_fz (by simpa only [gr] using h))
  | .lst vs, h => by simp only [gr] at h; cases h
  | .ro vs, h => by simp only [gr] at h; cases h
  | .dic vs, h => by simp only [gr] at h; cases h
  | .dit vs, h => by simp only [gr] at h; cases h
  | .ins _ _, h => by simp only [gr] at h; cases h
theorem grs_fz : ∀ {vs : List V}, grs vs = true → Fzs S P vs (cvWs vs)
  | [], _ => by simp only [cvWs]; exact .nil
  | v :: vs, h => by
    simp only [grs, Bool.and_eq_true] at h
    simp only [cvWs]
    exact .cons (gr_fz h.1) (grs_fz h.2)
end
theorem flat_fz {v : V} (h : flatV v = true) : Fz S P v (cvW2 v) := by
  cases v <;> first | (simp only [cvW2]; constructor; done) | cases h
/-- the calls of both sides -/
structure CS (c : Cn) (d : SF.Cn) : Prop where
  gl : ∀ g v, c.gl g = some v → d.gl g = some (cvW2 v) ∧ gr v = true
  sh : ∀ h, d.sh h = c.sh h
  fuel : d.fuel = c.fuel
  kl : d.kl = c.kl
  dp : d.dp = c.dp
  cl : ∀ (f : Nat) (ps : List Sl) (ws : List W) (S : Sg) (F : Nat → Prop), ER S F ps (ws.map some) → match c.cl f ps with
    | .ok r outs => ∃ w S', d.cl f ws S = .ok w S' ∧ (∀ l, l < S.length → ¬ Adr ps (ws.map some) l → S'[l]? = S[l]?) ∧ S.length ≤ S'.length ∧ ER S' F (r :: outs) (some w :: ws.map some) ∧ ∀ l, l < S.length → Adr (r :: outs) (some w :: ws.map some) l → Adr ps (ws.map some) l
    | .ex x => ∃ y S', d.cl f ws S = .ex y S' ∧ (∀ l, l < S.length → ¬ Adr ps (ws.map some) l → S'[l]? = S[l]?) ∧ S.length ≤ S'.length ∧ XR S' F x y
    | .st => True
theorem fill_sim {fill : List Fi} : ∀ {ws zs xs : List A} {us ys : List W}, As S P τ ws us → As S P τ zs ys → fillA ws zs fill = some xs → ∃ qs, SF.fillA us ys fill = some qs ∧ As S P τ xs qs := by
  induction fill with
  | nil => intro ws zs xs us ys h1 h2 e; cases e; exact ⟨us, rfl, h1⟩
  | cons f r ih =>
    intro ws zs xs us ys h1 h2 e
    cases f with
    | kw j =>
      simp only [fillA] at e
      split at e
      · rename_i z hz
        obtain ⟨y, q1, q2⟩ := h2.get hz
        obtain ⟨qs, q3, q4⟩ := ih (h1.app q2) h2 e
        exact ⟨qs, by simp only [SF.fillA, q1, q3], q4⟩
      · cases e
    | df w =>
      simp only [fillA] at e
      split at e
      · rename_i v hv
        have hf : Fz S P v w := by
          unfold cvW at hv
          split at hv <;> cases hv
          · exact .non
          · exact .bl _
          · exact .int _
          · exact .str _
          · exact .tup .nil
        obtain ⟨qs, q3, q4⟩ := ih (h1.app (.va hf .nil)) h2 e
        exact ⟨qs, by simp only [SF.fillA, q3], q4⟩
      · cases e
theorem call_sim {c : Cn} {d : SF.Cn} (hc : CS c d) {f : Nat} {xs : List A} {us : List W} {ps : List Sl} (h : ER S F σ τ) (ha : As S (Own F σ τ) τ xs us) (e : takeA xs σ = some (ps, σ1)) :
    Sim S F σ τ (match c.cl f ps with
        | .ok r outs => .ok r (putA σ xs outs σ1)
        | .ex x => .ex x σ1
        | .st => .st) (d.cl f us S) fun S' σ' r w => KE S F σ τ S' σ' r w := by
  obtain ⟨h1, h2, h3, h4⟩ := take_sim (C := []) (Cτ := []) rfl h ha e
  simp only [List.nil_append] at h1 h3
  have hl : ps.length = (us.map some).length := by simp [h2]
  have hs := h1.split hl
  have hk := hc.cl f ps us S (Own F σ1 τ) hs
  have hd := h1.drop hl
  have sub1 : ∀ l, Adr σ1 τ l → Adr σ τ l := fun l q => h3 l ((adr_app hl).mpr (.inr q))
  have sub2 : ∀ l, Adr ps (us.map some) l → Adr σ τ l := fun l q => h3 l ((adr_app hl).mpr (.inl q))
  revert hk
  cases hcl : c.cl f ps with
  | st => intro _; trivial
  | ex x =>
    rintro ⟨y, S2, a1, a2, a3, a4⟩
    have hj : ER S2 F σ1 τ := ER.join (C := []) (Cτ := []) hl h1 ⟨rfl, fun i s o a => by simp at a, fun i j s o s' o' l a => by simp at a, fun l q => (adr_nil q).elim, fun l q => Nat.lt_of_lt_of_le (hd.own_lt q) a3⟩ a2 a3 (fun l _ q => (adr_nil q).elim)
    exact ⟨y, S2, a1, ⟨fun l q1 q2 => a2 l q1 fun z => q2 (sub2 l z), a3, hj, fun l _ q => sub1 l q, fun i q => ⟨h4 i q, rfl⟩, rfl⟩, a4⟩
  | ok r outs =>
    rintro ⟨w, S2, a1, a2, a3, a4, a5⟩
    have hj := ER.join hl h1 a4 a2 a3 a5
    have ho : outs.length = us.length := by have := a4.len; simpa using this
    obtain ⟨b1, b2, b3⟩ := back_sim (σ0 := σ) (C := [r]) (Cτ := [some w]) (outs := outs) (σ := σ1) rfl ho hj ha
    have sub3 : ∀ l, l < S.length → Adr ([r] ++ (outs ++ σ1)) ([some w] ++ (us.map some ++ τ)) l → Adr σ τ l := fun l q1 q2 => by
      have q3 : Adr ((r :: outs) ++ σ1) ((some w :: us.map some) ++ τ) l := q2
      rcases (adr_app (by simp [ho])).mp q3 with q | q
      · exact sub2 l (a5 l q1 q)
      · exact sub1 l q
    have b1' : ER S2 F (r :: putA σ xs outs σ1) (some w :: τ) := b1
    refine ⟨w, S2, a1, ⟨fun l q1 q2 => a2 l q1 fun z => q2 (sub2 l z), a3, b1'.tail, fun l q1 q2 => ?_, fun i q => ⟨(b3 i q).elim id (h4 i), rfl⟩, rfl⟩, b1', fun l q1 q2 => ?_⟩
    · exact sub3 l q1 (b2 l (adr_cons.mpr (.inr q2)))
    · exact sub3 l q2 (b2 l (adr_cons.mpr (.inl q1)))
/-! # comprehensions -/
theorem wipe_get (own : List Nat) (σ : En) (i : Nat) : (wipeE σ own)[i]? = if i ∈ own then σ[i]?.map fun _ => .no else σ[i]? := by
  induction own with
  | nil => simp [wipeE]
  | cons v vs ih =>
    simp only [wipeE, List.getElem?_set, List.mem_cons]
    have hlen : ∀ vs, (wipeE σ vs).length = σ.length := fun vs => by induction vs with | nil => rfl | cons v vs ih => simp [wipeE, ih]
    by_cases e : v = i
    · subst e
      rw [if_pos rfl, hlen, if_pos (Or.inl rfl : v = v ∨ v ∈ vs)]
      split
      · rename_i hi; rw [List.getElem?_eq_getElem hi]; rfl
      · rename_i hi; rw [List.getElem?_eq_none (by omega)]; rfl
    · rw [if_neg e, ih]
      by_cases e2 : i ∈ vs
      · rw [if_pos e2, if_pos (.inr e2)]
      · rw [if_neg e2, if_neg]
        rintro (z | z)
        · exact e z.symm
        · exact e2 z
theorem wipe_getS (own : List Nat) (τ : SF.En) (i : Nat) (h : i ∉ own) : (SF.wipeE τ own)[i]? = τ[i]? := by
  induction own with
  | nil => simp [SF.wipeE]
  | cons v vs ih =>
    simp only [SF.wipeE]
    rw [List.getElem?_set_ne (fun e => h (by simp [e])), ih fun z => h (List.mem_cons_of_mem _ z)]
theorem wipe_len (own : List Nat) (σ : En) : (wipeE σ own).length = σ.length := by
  induction own with
  | nil => rfl
  | cons v vs ih => simp [wipeE, ih]
theorem wipe_lenS (own : List Nat) (τ : SF.En) : (SF.wipeE τ own).length = τ.length := by
  induction own with
  | nil => rfl
  | cons v vs ih => simp [SF.wipeE, ih]
theorem back_len (own : List Nat) (σ0 σ : En) : (backE σ0 σ own).length = σ.length := by
  induction own with
  | nil => rfl
  | cons v vs ih => simp [backE, ih]
theorem back_get (own : List Nat) (σ0 σ : En) (i : Nat) {s : Sl} (h : (backE σ0 σ own)[i]? = some s) : (i ∉ own ∧ σ[i]? = some s) ∨ s = .no ∨ ∃ v, s = .val v ∧ σ0[i]? = some (.val v) := by
  induction own generalizing s with
  | nil => exact .inl ⟨by simp, h⟩
  | cons v vs ih =>
    simp only [backE, List.getElem?_set] at h
    by_cases e : v = i
    · subst e
      rw [if_pos rfl] at h
      split at h
      · cases h
        split
        · rename_i w hw; exact .inr (.inr ⟨w, rfl, hw⟩)
        · exact .inr (.inl rfl)
      · cases h
    · rw [if_neg e] at h
      rcases ih h with ⟨q1, q2⟩ | q | q
      · exact .inl ⟨fun z => by rcases List.mem_cons.mp z with z | z <;> first | exact e z.symm | exact q1 z, q2⟩
      · exact .inr (.inl q)
      · exact .inr (.inr q)
/-- only the names outside count -/
theorem adr_wipe {own : List Nat} (k : ∀ i, i ∉ own → τ'[i]? = τ[i]?) {l : Nat} (h : Adr (wipeE σ own) τ l) : Adr (wipeE σ own) τ' l ∧ Adr σ τ' l ∧ Adr σ τ l := by
  obtain ⟨i, s, o, a, b, c⟩ := h
  have a0 := a
  rw [wipe_get] at a
  split at a
  · simp only [Option.map_eq_some_iff] at a
    obtain ⟨_, _, rfl⟩ := a
    cases c
  · rename_i hi
    exact ⟨⟨i, s, o, a0, (k i hi).trans b, c⟩, ⟨i, s, o, a, (k i hi).trans b, c⟩, ⟨i, s, o, a, b, c⟩⟩
theorem ER.wipe {own : List Nat} (h : ER S F σ τ') (hl : τ.length = τ'.length) (k : ∀ i, i ∉ own → τ'[i]? = τ[i]?) : ER S F (wipeE σ own) τ :=
  h.sub (by rw [wipe_len, h.len, hl]) id (fun i s o a b => by
    rw [wipe_get] at a
    split at a
    · simp only [Option.map_eq_some_iff] at a
      obtain ⟨_, _, rfl⟩ := a
      exact .inl ⟨rfl, .no _⟩
    · rename_i hi; exact .inr ⟨a, (k i hi).trans b⟩) (fun _ _ _ _ _ _ _ _ _ _ _ _ e => e)
theorem ER.wr (h : ER S F σ τ) {D : Nat} (hD : F D) (u : WO) : ER (S.set D u) F σ τ := by
  have h1 : ∀ l, l ≠ D → (S.set D u)[l]? = S[l]? := fun l q => by rw [List.getElem?_set_ne (Ne.symm q)]
  exact ⟨h.len, fun i s o a b => (h.gt i s o a b).mono (fun l _ q => h1 l fun e => q (.inl (e ▸ hD))) (fun _ _ q => q) fun l q => h1 l fun e => h.dis l ⟨i, s, o, a, b, q⟩ (e ▸ hD), h.inj, h.dis, fun l q => by rw [List.length_set]; exact h.bd l q⟩
/-- the sources of items -/
inductive SrcR (S : Sg) (P : Nat → Prop) : Src → SF.Src → Prop
  | fix {vs : List V} {ws : List W} (h : Fzs S P vs ws) : SrcR S P (.fix vs) (.fix ws)
  | lis {vs : List V} {ws : List W} {l : Nat} (p : ¬ P l) (e : SF.listAt S l = some ws) (h : Fzs S P vs ws) : SrcR S P (.fix vs) (.lis l)
  | rng (lo : Int) (n : Nat) : SrcR S P (.rng lo n) (.rng lo n)
  | enm {a : Src} {b : SF.Src} (h : SrcR S P a b) : SrcR S P (.enm a) (.enm b)
  | zip {a c : Src} {b d : SF.Src} (h : SrcR S P a b) (k : SrcR S P c d) : SrcR S P (.zip a c) (.zip b d)
theorem SrcR.mono (h1 : ∀ l, l < S.length → ¬ P l → S'[l]? = S[l]?) (h2 : ∀ l, l < S.length → P' l → P l) {a : Src} {b : SF.Src} (h : SrcR S P a b) : SrcR S' P' a b := by
  induction h with
  | fix h => exact .fix (h.mono h1 h2)
  | @lis vs ws l p e h =>
    have hl : l < S.length := by
      unfold SF.listAt at e
      split at e
      · rename_i q; exact (List.getElem?_eq_some_iff.mp q).1
      · rename_i q; exact (List.getElem?_eq_some_iff.mp q).1
      · cases e
    refine .lis (fun q => p (h2 l hl q)) ?_ (h.mono h1 h2)
    unfold SF.listAt
    rw [h1 l hl p]
    exact e
  | rng lo n => exact .rng lo n
  | enm _ ih => exact .enm ih
  | zip _ _ ih1 ih2 => exact .zip ih1 ih2
theorem SrcR.len {a : Src} {b : SF.Src} (h : SrcR S P a b) : b.len S = a.len := by
  induction h with
  | fix h => exact h.length.symm
  | lis p e h => simp only [SF.Src.len, Src.len, e, Option.getD_some, h.length]
  | rng lo n => rfl
  | enm _ ih => exact ih
  | zip _ _ ih1 ih2 => simp only [SF.Src.len, Src.len, ih1, ih2]
theorem SrcR.at {a : Src} {b : SF.Src} (h : SrcR S P a b) (i : Nat) : match a.at i with
    | some v => ∃ w, b.at i S = some (some w) ∧ Fz S P v w
    | none => b.at i S = some none := by
  induction h with
  | fix h =>
    simp only [Src.at, SF.Src.at]
    split
    · rename_i v e; obtain ⟨w, q1, q2⟩ := h.get e; exact ⟨w, by rw [q1], q2⟩
    · rename_i e; rw [h.none e]
  | lis p e h =>
    simp only [Src.at, SF.Src.at, e, Option.map_some]
    split
    · rename_i v e; obtain ⟨w, q1, q2⟩ := h.get e; exact ⟨w, by rw [q1], q2⟩
    · rename_i e; rw [h.none e]
  | rng lo n =>
    simp only [Src.at, SF.Src.at]
    split
    · rename_i v e
      split at e
      · rename_i hi; cases e; exact ⟨_, by rw [if_pos hi], .int _⟩
      · cases e
    · rename_i e
      split at e
      · cases e
      · rename_i hi; rw [if_neg hi]
  | enm _ ih =>
    simp only [Src.at, SF.Src.at]
    revert ih
    generalize Src.at _ i = o
    cases o with
    | none => intro ih; simp only [Option.map_none]; simp only at ih; rw [ih]; rfl
    | some v =>
      intro ih
      simp only at ih
      obtain ⟨w, q1, q2⟩ := ih
      simp only [Option.map_some]
      exact ⟨_, by rw [q1]; rfl, .tup (.cons (.int _) (.cons q2 .nil))⟩
  | @zip a c b d _ _ ih1 ih2 =>
    simp only [Src.at, SF.Src.at]
    revert ih1 ih2
    generalize a.at i = o
    generalize c.at i = p
    cases o <;> cases p <;> intro ih1 ih2 <;> simp only at ih1 ih2
    · simp only [ih1, ih2]
    · obtain ⟨w, q1, q2⟩ := ih2; simp only [ih1, q1]
    · obtain ⟨w, q1, q2⟩ := ih1; simp only [ih2, q1]
    · obtain ⟨w, q1, q2⟩ := ih1
      obtain ⟨w', q3, q4⟩ := ih2
      simp only [q1, q3]
      exact ⟨_, rfl, .tup (.cons q2 (.cons q4 .nil))⟩
/-- what a comprehension holds between two turns -/
structure CI (S0 : Sg) (F : Nat → Prop) (σ0 : En) (τ : SF.En) (own : List Nat) (acc : List V) (S : Sg) (σ : En) : Prop where
  er : ER S (fun l => F l ∨ l = S0.length) (wipeE σ own) τ
  ac : ∃ ws, S[S0.length]? = some (.lst ws) ∧ Fzs S (Own (fun l => F l ∨ l = S0.length) (wipeE σ own) τ) acc ws
  fr : ∀ l, l < S0.length → ¬ Adr (wipeE σ0 own) τ l → S[l]? = S0[l]?
  sub : ∀ l, l < S0.length → Adr (wipeE σ own) τ l → Adr (wipeE σ0 own) τ l
  io : ∀ i, Flag (wipeE σ own) i → Flag (wipeE σ0 own) i
end
end EP
set_option Elab.async false
set_option linter.all false
set_option maxRecDepth 100000
set_option maxHeartbeats 4000000
namespace EP
open PySem
open SF (Ky Bo Co Ty Bi Fi Sh lenMax bigOk small62)
open SF (Sg W WO)
section
variable {S S' : Sg} {F F' : Nat → Prop} {σ σ' σ1 : En} {τ τ' : SF.En} {P P' : Nat → Prop} {c : Cn} {d : SF.Cn}
/-- one turn of a comprehension: the item is stored, the test, the element -/
def KO (S : Sg) (F : Nat → Prop) (σ : En) (τ : SF.En) (S' : Sg) (σ' : En) (a : Option V) (b : Option W) : Prop := Po S F σ τ S' σ' τ ∧ match a, b with
  | some v, some w => Fz S' (Own F σ' τ) v w
  | none, none => True
  | _, _ => False
theorem comp_sim {src : Src} {src' : SF.Src} {S0 : Sg} {σ0 : En} {own : List Nat} {turn : V → En → R (Option V)} {turn' : W → Sg → SF.R (Option W)}
    (ht : ∀ (S : Sg) (σ : En) (v : V) (w : W), ER S (fun l => F l ∨ l = S0.length) (wipeE σ own) τ → Fz S (Own (fun l => F l ∨ l = S0.length) (wipeE σ own) τ) v w → match turn v σ with
      | .ok a σ1 => ∃ b S1, turn' w S = .ok b S1 ∧ (∀ l, l < S.length → ¬ Adr (wipeE σ own) τ l → S1[l]? = S[l]?) ∧ S.length ≤ S1.length ∧ ER S1 (fun l => F l ∨ l = S0.length) (wipeE σ1 own) τ ∧
          (∀ l, l < S.length → Adr (wipeE σ1 own) τ l → Adr (wipeE σ own) τ l) ∧ (∀ i, Flag (wipeE σ1 own) i → Flag (wipeE σ own) i) ∧ (match a, b with
          | some v, some w => Fz S1 (Own (fun l => F l ∨ l = S0.length) (wipeE σ1 own) τ) v w
          | none, none => True
          | _, _ => False)
      | _ => True)
    (hs : ∀ (S : Sg) (σ : En) (acc : List V), CI S0 F σ0 τ own acc S σ → SrcR S (Own (fun l => F l ∨ l = S0.length) (wipeE σ own) τ) src src') :
    ∀ (k i : Nat) (acc : List V) (σ : En) (S : Sg), CI S0 F σ0 τ own acc S σ → match compGo src turn k i acc σ with
      | .ok acc' σ' => ∃ S', SF.compGo src' S0.length turn' k i S = .ok (.ref S0.length) S' ∧ CI S0 F σ0 τ own acc' S' σ'
      | .ex _ _ => False
      | .st => True
  | 0, i, acc, σ, S, ci => by
    have h := (hs S σ acc ci).at i
    simp only [compGo]
    cases he : src.at i with
    | none =>
      rw [he] at h
      simp only at h ⊢
      exact ⟨S, by simp only [SF.compGo, h], ci⟩
    | some v => trivial
  | k + 1, i, acc, σ, S, ci => by
    have h := (hs S σ acc ci).at i
    simp only [compGo]
    cases he : src.at i with
    | none => trivial
    | some v =>
      rw [he] at h
      simp only at h ⊢
      obtain ⟨w, q1, q2⟩ := h
      have h2 := ht S σ v w ci.er q2
      revert h2
      cases htv : turn v σ with
      | st => intro _; trivial
      | ex x σ1 => intro _; trivial
      | ok a σ1 =>
        rintro ⟨b, S1, r1, r2, r3, r4, r5, r6, r7⟩
        obtain ⟨ws, hw1, hw2⟩ := ci.ac
        have hD : S0.length < S.length := (List.getElem?_eq_some_iff.mp hw1).1
        have hD1 : S1[S0.length]? = some (.lst ws) := by rw [r2 _ hD (fun q => ci.er.dis _ q (.inr rfl))]; exact hw1
        have hacc : Fzs S1 (Own (fun l => F l ∨ l = S0.length) (wipeE σ1 own) τ) acc ws := hw2.mono (fun l a b => r2 l a fun z => b (.inr z)) (fun l a z => z.imp id (r5 l a))
        have base : ∀ {u : Sg}, (∀ l, l ≠ S0.length → u[l]? = S1[l]?) → (∀ l, l < S0.length → ¬ Adr (wipeE σ0 own) τ l → u[l]? = S0[l]?) := fun {u} hu l a b => by
          rw [hu l (by omega), r2 l (by omega) (fun z => b (ci.sub l a z))]
          exact ci.fr l a b
        cases a with
        | none =>
          cases b with
          | some _ => exact r7.elim
          | none =>
            simp only
            have ci2 : CI S0 F σ0 τ own acc S1 σ1 := ⟨r4, ⟨ws, hD1, hacc⟩, base fun _ _ => rfl, fun l a z => ci.sub l a (r5 l (by omega) z), fun i z => ci.io i (r6 i z)⟩
            have := comp_sim ht hs k (i + 1) acc σ1 S1 ci2
            simp only [SF.compGo, q1, r1]
            exact this
        | some y =>
          cases b with
          | none => exact r7.elim
          | some yw =>
            simp only
            by_cases hlt : acc.length < lenMax
            · rw [if_pos hlt]
              have hlt' : ws.length < lenMax := by rw [← hacc.length]; exact hlt
              have hset : ∀ l, l ≠ S0.length → (S1.set S0.length (.lst (ws ++ [yw])))[l]? = S1[l]? := fun l q => by rw [List.getElem?_set_ne (Ne.symm q)]
              have hD2 : S0.length < S1.length := by omega
              have ci2 : CI S0 F σ0 τ own (acc ++ [y]) (S1.set S0.length (.lst (ws ++ [yw]))) σ1 :=
                ⟨r4.wr (.inr rfl) _, ⟨ws ++ [yw], by rw [List.getElem?_set_self hD2], (hacc.append (.cons r7 .nil)).mono (fun l _ b => hset l fun e => b (.inl (.inr e))) (fun _ _ z => z)⟩, base hset, fun l a z => ci.sub l a (r5 l (by omega) z), fun i z => ci.io i (r6 i z)⟩
              have := comp_sim ht hs k (i + 1) (acc ++ [y]) σ1 _ ci2
              simp only [SF.compGo, q1, r1, hD1, if_pos hlt']
              exact this
            · rw [if_neg hlt]; trivial
theorem one_of {as : Xs} (h : one as = true) : ∃ a, as = .cons a .nil := by
  cases as with
  | nil => cases h
  | cons a r => cases r <;> first | exact ⟨a, rfl⟩ | cases h
  | star _ _ => cases h
theorem two_of {as : Xs} (h : two as = true) : ∃ a b, as = .cons a (.cons b .nil) := by
  cases as with
  | nil => cases h
  | cons a r => cases r with
    | nil => cases h
    | cons b r => cases r <;> first | exact ⟨a, b, rfl⟩ | cases h
    | star _ _ => cases h
  | star _ _ => cases h
theorem pr_ev {p : Pr} {as : Xs} (h : arOk p as = true) : SF.ev d (cmpP p (cmpXs as)) τ S = (SF.evs d (cmpXs as) τ S).bind fun ws S => opW p ws S := by
  cases p
  case bi b => simp only [cmpP, SF.ev]; rfl
  case bin o => obtain ⟨a, b, rfl⟩ := two_of h; simp only [cmpP, cmpXs, SF.ev, SF.evs, fin_bind, SF.R.bind_ok]; rfl
  case cmp o => obtain ⟨a, b, rfl⟩ := two_of h; simp only [cmpP, cmpXs, SF.ev, SF.evs, fin_bind, SF.R.bind_ok]; rfl
  case ix => obtain ⟨a, b, rfl⟩ := two_of h; simp only [cmpP, cmpXs, SF.ev, SF.evs, fin_bind, SF.R.bind_ok]; rfl
  case neg => obtain ⟨a, rfl⟩ := one_of h; simp only [cmpP, cmpXs, SF.ev, SF.evs, fin_bind, SF.R.bind_ok]; congr 1; funext x S; cases x <;> rfl
  case nt => obtain ⟨a, rfl⟩ := one_of h; simp only [cmpP, cmpXs, SF.ev, SF.evs, fin_bind, SF.R.bind_ok]; congr 1; funext x S; cases x <;> rfl
  case isi t => obtain ⟨a, rfl⟩ := one_of h; simp only [cmpP, cmpXs, SF.ev, SF.evs, fin_bind, SF.R.bind_ok]; rfl
  case isis t => obtain ⟨a, rfl⟩ := one_of h; simp only [cmpP, cmpXs, SF.ev, SF.evs, fin_bind, SF.R.bind_ok]; rfl
  case lset => obtain ⟨a, rfl⟩ := one_of h; simp only [cmpP, cmpXs, SF.ev, SF.evs, fin_bind, SF.R.bind_ok]; rfl
  case rev => obtain ⟨a, rfl⟩ := one_of h; simp only [cmpP, cmpXs, SF.ev, SF.evs, fin_bind, SF.R.bind_ok]; rfl
  case m0 m => obtain ⟨a, rfl⟩ := one_of h; simp only [cmpP, cmpXs, SF.ev, SF.evs, fin_bind, SF.R.bind_ok]; rfl
  case fld f => obtain ⟨a, rfl⟩ := one_of h; simp only [cmpP, cmpXs, SF.ev, SF.evs, fin_bind, SF.R.bind_ok]; rfl
  case slf nm m => obtain ⟨a, rfl⟩ := one_of h; simp only [cmpP, cmpXs, SF.ev, SF.evs, fin_bind, SF.R.bind_ok]; rfl
  case blo => obtain ⟨a, rfl⟩ := one_of h; simp only [cmpP, cmpXs, SF.ev, SF.evs, fin_bind, SF.R.bind_ok]; congr 1; funext x S; cases x <;> rfl
theorem ins_sim {P : Nat → Prop} {v : V} {w : W} {nm m : Str} (h : Fz S P v w) (e : isInsV nm m v = true) : SF.isIns nm m w S = true := by
  unfold isInsV at e
  split at e
  · cases h with
    | @ins _ _ _ lx p e1 f1 =>
      simp only [Bool.and_eq_true, beq_iff_eq, Option.isNone_iff_eq_none] at e
      have k := f1.get m
      rw [e.2] at k
      have k : _ = none := k
      simp only [SF.isIns, e1, k, Option.isNone_none, Bool.and_true, e.1, beq_self_eq_true]
  · cases e
theorem dk_sim {P : Nat → Prop} {d : SF.Dk} {v : V} {w : W} (h : Fz S P v w) (e : dkOk d v = true) : d.ok w = true := by
  cases d <;> cases h <;> first | exact e | (cases e; done)
theorem mkT_ev {e : SF.E} : SF.evT d (mkT e) τ S = (SF.ev d e τ S).bind fun w S => SF.ofB (SF.truW w S) S fun k => .ok k S := by
  cases e
  case cmp o a b =>
    simp only [mkT, SF.evT, SF.ev, fin_bind]
    congr 1; funext x S; congr 1; funext y S
    cases SF.cmpW o x y S <;> rfl
  case ch o p a b e =>
    simp only [mkT, SF.evT, SF.ev, fin_bind]
    congr 1; funext x S; congr 1; funext y S
    cases SF.cmpW o x y S with
    | none => rfl
    | some k =>
      cases k
      · rfl
      · simp only [SF.ofB, if_true, fin_bind]
        congr 1; funext z S
        cases SF.cmpW p y z S <;> rfl
  all_goals simp only [mkT, SF.evT]
abbrev KS (S : Sg) (F : Nat → Prop) (σ : En) (τ : SF.En) : Sg → En → List A → List W → Prop := fun S' σ' as ws => Po S F σ τ S' σ' τ ∧ As S' (Own F σ' τ) τ as ws
abbrev KB {α : Type} (S : Sg) (F : Nat → Prop) (σ : En) (τ : SF.En) : Sg → En → α → α → Prop := fun S' σ' a b => Po S F σ τ S' σ' τ ∧ a = b
abbrev KI (S : Sg) (F : Nat → Prop) (σ : En) (τ : SF.En) : Sg → En → Src → SF.Src → Prop := fun S' σ' a b => Po S F σ τ S' σ' τ ∧ SrcR S' (Own F σ' τ) a b
theorem pvO_ke {r : Sl} {q : SF.R W} (hE : ER S F σ τ) (h : PV S (Own F σ τ) r q) : Sim S F σ τ (.ok r σ) q (KE S F σ τ) := by
  obtain ⟨w, S', e, k⟩ := h.ke hE
  exact ⟨w, S', e, k⟩
/-- as an argument -/
theorem arg_sim {e : X} (h : ER S F σ τ) (k : Sim S F σ τ (ev c e σ) (SF.ev d (cmpX e) τ S) (KE S F σ τ)) : Sim S F σ τ (argA e (ev c e σ) σ) (SF.ev d (cmpX e) τ S) fun S' σ' a w => Po S F σ τ S' σ' τ ∧ As S' (Own F σ' τ) τ [a] [w] := by
  have base : Sim S F σ τ ((ev c e σ).bind fun r σ => ofO r.frz fun v => .ok (.va v) σ) (SF.ev d (cmpX e) τ S) fun S' σ' a w => Po S F σ τ S' σ' τ ∧ As S' (Own F σ' τ) τ [a] [w] := by
    revert k
    generalize ev c e σ = r
    intro k
    cases r with
    | st => trivial
    | ex x σ1 => exact k
    | ok r σ1 =>
      obtain ⟨w, S1, e1, k1⟩ := k
      simp only [R.bind_ok]
      refine Sim.ofO fun v ev => ⟨w, S1, e1, k1.po, .va (k1.fz ev) .nil⟩
  cases e with
  | own i =>
    simp only [argA]
    split
    · rename_i p o hs
      have hlt : i < τ.length := by rw [← h.len]; exact (List.getElem?_eq_some_iff.mp hs).1
      have ht := List.getElem?_eq_getElem hlt
      have q := h.gt i _ _ hs ht
      generalize τ[i] = o' at ht q
      cases q with
      | @own _ _ u l e g => exact ⟨.ref l, S, by simp only [cmpX, SF.ev, ht], .refl h, .ow ht .nil⟩
    · rename_i v hs
      have hlt : i < τ.length := by rw [← h.len]; exact (List.getElem?_eq_some_iff.mp hs).1
      have ht := List.getElem?_eq_getElem hlt
      have q := h.gt i _ _ hs ht
      generalize τ[i] = o' at ht q
      cases q with
      | val g => exact ⟨_, S, by simp only [cmpX, SF.ev, ht], .refl h, .va g .nil⟩
    · trivial
  | _ => exact base
theorem src_sim {v : V} {w : W} {s : Src} (h : Fz S P v w) (e : srcV v = some s) : ∃ s', SF.srcOf w S = some s' ∧ SrcR S P s s' := by
  unfold srcV at e
  cases h with
  | tup h => cases e; exact ⟨_, rfl, .fix h⟩
  | lst p e1 h => cases e; exact ⟨_, by simp only [SF.srcOf, SF.listAt, e1, Option.map_some], .lis p (by simp only [SF.listAt, e1]) h⟩
  | ro p e1 h => cases e; exact ⟨_, by simp only [SF.srcOf, SF.listAt, e1, Option.map_some], .lis p (by simp only [SF.listAt, e1]) h⟩
  | _ => cases e
mutual
theorem asg_len : ∀ (tg : Tg) {σ σ' : En} {v : V}, asgT tg v σ = some σ' → σ'.length = σ.length
  | .na i, σ, σ', v, e => by
    simp only [asgT, setS] at e
    split at e <;> cases e
    simp
  | .tu ts, σ, σ', v, e => by
    simp only [asgT] at e
    split at e
    · split at e
      · exact asgs_len ts e
      · cases e
    · split at e
      · split at e
        · exact asgs_len ts e
        · cases e
      · cases e
theorem asgs_len : ∀ (ts : Tgs) {σ σ' : En} {vs : List V}, asgTs ts vs σ = some σ' → σ'.length = σ.length
  | .nil, σ, σ', vs, e => by
    cases vs <;> (simp only [asgTs] at e; cases e)
    rfl
  | .cons t ts, σ, σ', vs, e => by
    cases vs with
    | nil => simp only [asgTs] at e; cases e
    | cons v vs =>
      simp only [asgTs, Option.bind_eq_some_iff] at e
      obtain ⟨σ1, e1, e2⟩ := e
      rw [asgs_len ts e2, asg_len t e1]
  | .star i ts, σ, σ', vs, e => by
    cases vs with
    | nil => simp only [asgTs] at e; cases e
    | cons v vs =>
      simp only [asgTs, setS, Option.bind_eq_some_iff] at e
      obtain ⟨σ1, e1, e2⟩ := e
      split at e1 <;> cases e1
      rw [asgs_len ts e2]
      simp
end
mutual
theorem ev_sim (hc : CS c d) : ∀ (e : X) {S : Sg} {F : Nat → Prop} {σ : En} {τ : SF.En}, ER S F σ τ → Sim S F σ τ (ev c e σ) (SF.ev d (cmpX e) τ S) (KE S F σ τ)
  | .var i, S, F, σ, τ, h => by
    simp only [ev, cmpX]
    split
    · rename_i v hs
      have hlt : i < τ.length := by rw [← h.len]; exact (List.getElem?_eq_some_iff.mp hs).1
      have ht := List.getElem?_eq_getElem hlt
      have q := h.gt i _ _ hs ht
      generalize τ[i] = o' at ht q
      cases q with
      | val g => exact ⟨_, S, by simp only [SF.ev, ht], .val (.refl h) g⟩
    · trivial
  | .own i, S, F, σ, τ, h => by simp only [ev]; trivial
  | .con v, S, F, σ, τ, h => by
    simp only [ev, cmpX, SF.ev]
    split
    · rename_i hv; exact ⟨_, S, rfl, .val (.refl h) (flat_fz hv)⟩
    · trivial
  | .gl g, S, F, σ, τ, h => by
    simp only [ev, cmpX, SF.ev]
    refine Sim.ofO fun v e => ?_
    obtain ⟨q1, q2⟩ := hc.gl g v e
    rw [q1]
    exact ⟨_, S, rfl, .val (.refl h) (gr_fz q2)⟩
  | .pr p as, S, F, σ, τ, h => by
    simp only [ev, cmpX]
    split
    · rename_i ha
      rw [pr_ev ha]
      refine (evs_sim hc as h).bind fun S1 σ1 l ws ⟨k1, k2⟩ => Sim.ofO fun vs e1 => Sim.ofO fun r e2 => ?_
      exact (pvO_ke k1.er (pr_sim (k2.rds k1.er e1) e2)).from k1 fun _ _ _ _ z => .trans k1 z
    · trivial
  | .me m o as, S, F, σ, τ, h => by
    simp only [ev, cmpX, SF.ev]
    refine (ev_sim hc o h).bind fun S1 σ1 x w k1 => Sim.ofO fun v e1 => ?_
    have f1 := k1.fz e1
    split
    · cases f1
      have hm : ∀ s S, SF.meTy (cmpM m) (.str s) S = true := fun s S => by cases m <;> rfl
      rw [if_pos (hm _ _)]
      refine ((evs_sim hc as k1.po.er).from k1.po fun _ _ _ _ z => z).bind fun S2 σ2 l ws ⟨k2, k3⟩ => Sim.ofO fun vs e2 => Sim.ofO fun r e3 => ?_
      exact (pvO_ke k2.er (me_sim (k3.rds k2.er e2) e3).np).from (k1.po.trans k2) fun _ _ _ _ z => .trans (k1.po.trans k2) z
    · trivial
  | .sl a lo hi, S, F, σ, τ, h => by
    simp only [ev, cmpX, SF.ev]
    refine (arg_sim h (ev_sim hc a h)).bind fun S1 σ1 x w ⟨k1, k1'⟩ => ?_
    refine ((evO_sim hc lo k1.er).from k1 fun _ _ _ _ z => z).bind fun S2 σ2 l l' ⟨k2, e2⟩ => ?_
    subst e2
    refine ((evO_sim hc hi k2.er).from (k1.trans k2) fun _ _ _ _ z => z).bind fun S3 σ3 u u' ⟨k3, e3⟩ => Sim.ofO fun v e4 => Sim.ofO fun r e5 => ?_
    subst e3
    have pp := (k1.trans k2).trans k3
    have k4 := (k2.trans k3)
    have q := A.rd k3.er (k1'.mono k4.fro k4.sbo) e4
    exact (pvO_ke k3.er (slice_sim q e5).np).from pp fun _ _ _ _ z => .trans pp z
  | .bo an b, S, F, σ, τ, h => by simp only [ev, cmpX, SF.ev]; exact evB_sim hc an b h
  | .ch o p a b e, S, F, σ, τ, h => by
    simp only [ev, cmpX, SF.ev]
    refine (ev_sim hc a h).bind fun S1 σ1 x w k1 => Sim.ofO fun v e1 => ?_
    refine ((ev_sim hc b k1.po.er).from k1.po fun _ _ _ _ z => z).bind fun S2 σ2 y u k2 => Sim.ofO fun v2 e2 => Sim.ofO fun k e3 => ?_
    have f1 := k2.po.fz (k1.fz e1)
    have f2 := k2.fz e2
    simp only [cmp_sim f1.rd f2.rd e3, SF.ofB]
    have p2 := k1.po.trans k2.po
    cases k
    · simp only [Bool.false_eq_true, if_false]
      exact ⟨_, S2, rfl, .val p2 (.bl _)⟩
    · simp only [if_true]
      refine ((ev_sim hc e k2.po.er).from p2 fun _ _ _ _ z => z).bind fun S3 σ3 z zw k3 => Sim.ofO fun v3 e4 => Sim.ofO fun k e5 => ?_
      have p3 := p2.trans k3.po
      simp only [cmp_sim (k3.po.fz f2).rd (k3.fz e4).rd e5]
      exact ⟨_, S3, rfl, .val p3 (.bl _)⟩
  | .ite t a b, S, F, σ, τ, h => by
    simp only [ev, cmpX, SF.ev]
    refine (evT_sim hc t h).bind fun S1 σ1 k k' ⟨k1, e⟩ => ?_
    subst e
    cases k
    · simp only [Bool.false_eq_true, if_false]; exact (ev_sim hc b k1.er).from k1 fun _ _ _ _ z => .trans k1 z
    · simp only [if_true]; exact (ev_sim hc a k1.er).from k1 fun _ _ _ _ z => .trans k1 z
  | .tup as, S, F, σ, τ, h => by
    simp only [ev, cmpX, SF.ev]
    refine (evs_sim hc as h).bind fun S1 σ1 l ws ⟨k1, k2⟩ => Sim.ofO fun vs e1 => Sim.ofO fun r e2 => ?_
    exact (pvO_ke k1.er (pv_newT (k2.fzs e1) e2).np).from k1 fun _ _ _ _ z => .trans k1 z
  | .lst as, S, F, σ, τ, h => by
    simp only [ev, cmpX, SF.ev]
    refine (evs_sim hc as h).bind fun S1 σ1 l ws ⟨k1, k2⟩ => Sim.ofO fun vs e1 => Sim.ofO fun r e2 => ?_
    exact (pvO_ke k1.er (pv_newL (k2.fzs e1) e2).np).from k1 fun _ _ _ _ z => .trans k1 z
  | .dic0 t, S, F, σ, τ, h => by
    simp only [ev, cmpX, SF.ev]
    cases t
    · exact ⟨_, _, rfl, .own (.refl h) (.d .nil)⟩
    · exact ⟨_, _, rfl, .own (.refl h) (.t .nil)⟩
  | .comp elt tg it cond own, S, F, σ, τ, h => by
    simp only [ev, cmpX, SF.ev]
    split
    · rename_i hsl
      have hsl' : ∀ i ∈ tgSl tg, i ∈ own := fun i hi => by simpa using List.all_eq_true.mp hsl i hi
      refine (evI_sim hc it h).bind fun S0 σ0 src src' ⟨k0, ks⟩ => ?_
      have hnew : ∀ l, l < S0.length → (S0 ++ [WO.lst []])[l]? = S0[l]? := fun l q => List.getElem?_append_left q
      have hE0 : ER S0 F (wipeE σ0 own) τ := k0.er.wipe rfl (fun _ _ => rfl)
      have hE1 : ER (S0 ++ [WO.lst []]) (fun l => F l ∨ l = S0.length) (wipeE σ0 own) τ := by
        have q := hE0.move (S' := S0 ++ [WO.lst []]) hnew (by simp)
        refine ⟨q.len, fun i s o a b => (hE0.gt i s o a b).mono (fun l q1 _ => hnew l q1) (fun l q1 z => ?_) fun l z => hnew l (hE0.adr_lt ⟨i, s, o, a, b, z⟩), q.inj, fun l z => ?_, fun l z => ?_⟩
        · rcases z with (z | z) | z
          · exact .inl z
          · omega
          · exact .inr z
        · rintro (w | w)
          · exact hE0.dis l z w
          · have := hE0.adr_lt z; omega
        · rcases z with z | z
          · have := hE0.bd l z; simp; omega
          · simp; omega
      have ci0 : CI S0 F σ0 τ own [] (S0 ++ [WO.lst []]) σ0 := ⟨hE1, ⟨[], by rw [List.getElem?_append_right (Nat.le_refl _), Nat.sub_self]; rfl, .nil⟩, fun l q _ => hnew l q, fun l _ z => z, fun i z => z⟩
      have wsub : ∀ l, Adr (wipeE σ0 own) τ l → Adr σ0 τ l := fun l z => (adr_wipe (fun _ _ => rfl) z).2.1
      have hsrc : ∀ (S : Sg) (σ : En) (acc : List V), CI S0 F σ0 τ own acc S σ → SrcR S (Own (fun l => F l ∨ l = S0.length) (wipeE σ own) τ) src src' := fun S σ acc ci => by
        refine ks.mono (fun l q1 q2 => ci.fr l q1 fun z => q2 (.inr (wsub l z))) fun l q1 z => ?_
        rcases z with (z | z) | z
        · exact .inl z
        · omega
        · exact .inr (wsub l (ci.sub l q1 z))
      rw [show src'.len S0 = src.len from ks.len]
      have main := comp_sim (F := F) (τ := τ) (src := src) (src' := src') (S0 := S0) (σ0 := σ0) (own := own)
        (turn := fun w σ => ofO (asgT tg w (wipeE σ own)) fun σ => (evC c cond σ).bind fun k σ => if k then (ev c elt σ).bind fun y σ => ofO y.frz fun y => .ok (some y) σ else .ok none σ)
        (turn' := fun w S => (SF.asgT (cmpTg tg) w (SF.wipeE τ own) S).np.bind fun σ' S => (SF.evC d (cmpXo cond) σ' S).bind fun k S => if k then (SF.ev d (cmpX elt) σ' S).bind fun y S => .ok (some y) S else .ok none S)
        (fun S σ v w hE hv => by
          have hE2 : ER S (fun l => F l ∨ l = S0.length) (wipeE σ own) (SF.wipeE τ own) := hE.sub (by rw [hE.len, wipe_lenS]) id (fun i s o a b => by
            by_cases hi : i ∈ own
            · rw [wipe_get, if_pos hi] at a
              simp only [Option.map_eq_some_iff] at a
              obtain ⟨_, _, rfl⟩ := a
              exact .inl ⟨rfl, .no _⟩
            · rw [wipe_getS own τ i hi] at b; exact .inr ⟨a, b⟩) (fun _ _ _ _ _ _ _ _ _ _ _ _ e => e)
          have aeq : ∀ l, Adr (wipeE σ own) (SF.wipeE τ own) l → Adr (wipeE σ own) τ l := fun l z => (adr_wipe (own := own) (fun i hi => (wipe_getS own τ i hi).symm) z).1
          have aeq2 : ∀ l, Adr (wipeE σ own) τ l → Adr (wipeE σ own) (SF.wipeE τ own) l := fun l z => (adr_wipe (own := own) (fun i hi => wipe_getS own τ i hi) z).1
          have hv2 : Fz S (Own (fun l => F l ∨ l = S0.length) (wipeE σ own) (SF.wipeE τ own)) v w := hv.mono (fun _ _ _ => rfl) fun l _ z => z.imp id (aeq l)
          cases ha : asgT tg v (wipeE σ own) with
          | none => trivial
          | some σa =>
            simp only [ofO_some]
            obtain ⟨Sa, τa, a1, a2, a3⟩ := asg_sim tg hE2 hv2 ha
            rw [a1]
            simp only [SF.R.np_ok, SF.R.bind_ok]
            have hk2 : Sim Sa (fun l => F l ∨ l = S0.length) σa τa ((evC c cond σa).bind fun k σ => if k then (ev c elt σ).bind fun y σ => ofO y.frz fun y => .ok (some y) σ else .ok none σ)
                ((SF.evC d (cmpXo cond) τa Sa).bind fun k S => if k then (SF.ev d (cmpX elt) τa S).bind fun y S => .ok (some y) S else .ok none S) (fun S' σ' a b => KO Sa (fun l => F l ∨ l = S0.length) σa τa S' σ' a b) := by
              refine (evC_sim hc cond a2.er).bind fun S1 σ1 k k' ⟨k1, e⟩ => ?_
              subst e
              cases k
              · simp only [Bool.false_eq_true, if_false]
                exact ⟨none, S1, rfl, k1, trivial⟩
              · simp only [if_true]
                refine ((ev_sim hc elt k1.er).from k1 fun _ _ _ _ z => z).bind fun S2 σ2 y yw k2 => Sim.ofO fun v2 e2 => ?_
                exact ⟨some yw, S2, rfl, k1.trans k2.po, k2.fz e2⟩
            revert hk2
            generalize ((evC c cond σa).bind fun k σ => if k then (ev c elt σ).bind fun y σ => ofO y.frz fun y => .ok (some y) σ else .ok none σ) = r
            intro hk2
            cases r with
            | st => trivial
            | ex x σ1 => trivial
            | ok a σ1 =>
              obtain ⟨b, S1, e1, k1, k2⟩ := hk2
              have pp := a2.trans k1
              have kk : ∀ i, i ∉ own → τa[i]? = τ[i]? := fun i hi => (a3 i fun q => hi (hsl' i q)).trans (wipe_getS own τ i hi)
              have hl : τ.length = τa.length := by have q1 := a2.er.len; have q2 := asg_len tg ha; rw [wipe_len] at q2; have q3 := hE.len; rw [wipe_len] at q3; omega
              have fromA : ∀ l, Adr (wipeE σ1 own) τ l → Adr σ1 τa l := fun l z => (adr_wipe (own := own) kk z).2.1
              refine ⟨b, S1, e1, fun l q1 q2 => pp.fr l q1 fun z => q2 (aeq l z), pp.len, k1.er.wipe hl kk, fun l q1 z => aeq l (pp.sub l q1 (fromA l z)), fun i z => ?_, ?_⟩
              · obtain ⟨o, z⟩ := z
                rw [wipe_get] at z
                split at z
                · simp only [Option.map_eq_some_iff] at z
                  obtain ⟨_, _, z⟩ := z
                  cases z
                · exact (pp.io i ⟨o, z⟩).1
              · cases a <;> cases b <;> first | exact k2 | skip
                exact Fz.mono (fun _ _ _ => rfl) (fun l _ z => z.imp id (fromA l)) k2)
        hsrc src.len 0 [] σ0 _ ci0
      revert main
      generalize compGo src _ src.len 0 [] σ0 = r
      intro main
      cases r with
      | st => trivial
      | ex x σ1 => exact main.elim
      | ok acc σ1 =>
        obtain ⟨S1, e1, ci⟩ := main
        simp only [R.bind_ok]
        obtain ⟨ws, hw1, hw2⟩ := ci.ac
        have hD1 : S0.length < S1.length := (List.getElem?_eq_some_iff.mp hw1).1
        have absub : ∀ l, Adr (backE σ0 σ1 own) τ l → Adr (wipeE σ1 own) τ l := fun l ⟨i, s, o, a, b, z⟩ => by
          rcases back_get own σ0 σ1 i a with ⟨q1, q2⟩ | rfl | ⟨v, rfl, _⟩
          · exact ⟨i, s, o, by rw [wipe_get, if_neg q1]; exact q2, b, z⟩
          · cases z
          · cases z
        have hEb : ER S1 (fun l => F l ∨ l = S0.length) (backE σ0 σ1 own) τ := by
          refine ci.er.sub (by rw [back_len, ← wipe_len own σ1]; exact ci.er.len) id (fun i s o a b => ?_) (fun _ _ _ _ _ _ _ _ _ _ _ _ e => e)
          rcases back_get own σ0 σ1 i a with ⟨q1, q2⟩ | rfl | ⟨v, rfl, q⟩
          · exact .inr ⟨by rw [id, wipe_get, if_neg q1]; exact q2, b⟩
          · exact .inl ⟨rfl, .no _⟩
          · refine .inl ⟨rfl, ?_⟩
            refine (k0.er.gt i _ o q b).mono (fun l q1 q2 => ci.fr l q1 fun z => q2 (.inr (wsub l z))) (fun l q1 z => ?_) (fun l z => by cases z)
            rcases z with (z | z) | z
            · exact .inl z
            · omega
            · exact .inr (wsub l (ci.sub l q1 z))
        have hfz : Fzs S1 (Own (fun l => F l ∨ l = S0.length) (backE σ0 σ1 own) τ) acc ws := hw2.mono (fun _ _ _ => rfl) fun l _ z => z.imp id (absub l)
        have hEr : ER S1 F (.own false (.l acc) :: backE σ0 σ1 own) (some (.ref S0.length) :: τ) := by
          have hP : ∀ l, Own F (.own false (.l acc) :: backE σ0 σ1 own) (some (.ref S0.length) :: τ) l → Own (fun l => F l ∨ l = S0.length) (backE σ0 σ1 own) τ l := fun l z => by
            rcases z with z | z
            · exact .inl (.inl z)
            · rcases adr_cons.mp z with z | z
              · cases z; exact .inl (.inr rfl)
              · exact .inr z
          refine ⟨by simp [hEb.len], fun i s o a b => ?_, fun i j s o s' o' l a b a' b' z z' => ?_, fun l z w => ?_, fun l z => hEb.bd l (.inl z)⟩
          · cases i with
            | zero =>
              simp at a b; subst a b
              exact .own hw1 (.l (hfz.mono (fun _ _ _ => rfl) fun l _ => hP l))
            | succ i => exact (hEb.gt i s o (by simpa using a) (by simpa using b)).mono (fun _ _ _ => rfl) (fun l _ => hP l) fun _ _ => rfl
          · have nz : ∀ {i : Nat} {s : Sl} {o : Option W}, (backE σ0 σ1 own)[i]? = some s → τ[i]? = some o → adr s o ≠ some S0.length := fun {i s o} a b z => hEb.dis _ ⟨i, s, o, a, b, z⟩ (.inr rfl)
            cases i with
            | zero =>
              simp at a b; subst a b; cases z
              cases j with
              | zero => rfl
              | succ j => exact absurd z' (nz (by simpa using a') (by simpa using b'))
            | succ i =>
              cases j with
              | zero => simp at a' b'; subst a' b'; cases z'; exact absurd z (nz (by simpa using a) (by simpa using b))
              | succ j =>
                have := hEb.inj i j s o s' o' l (by simpa using a) (by simpa using b) (by simpa using a') (by simpa using b') z z'
                omega
          · rcases adr_cons.mp z with z | z
            · cases z; exact absurd (k0.er.bd _ w) (Nat.lt_irrefl _)
            · exact hEb.dis l z (.inl w)
        have io1 : ∀ i, Flag (backE σ0 σ1 own) i → Flag σ0 i ∧ τ[i]? = τ[i]? := fun i ⟨o, z⟩ => by
          refine ⟨?_, rfl⟩
          rcases back_get own σ0 σ1 i z with ⟨q1, q2⟩ | e | ⟨v, e, _⟩
          · obtain ⟨o', z'⟩ := ci.io i ⟨o, by rw [wipe_get, if_neg q1]; exact q2⟩
            rw [wipe_get, if_neg q1] at z'
            exact ⟨o', z'⟩
          · cases e
          · cases e
        have po1 : Po S0 F σ0 τ S1 (backE σ0 σ1 own) τ := ⟨fun l q1 q2 => ci.fr l q1 fun z => q2 (wsub l z), by omega, hEr.tail, fun l q1 z => wsub l (ci.sub l q1 (absub l z)), io1, rfl⟩
        refine ⟨_, S1, e1, k0.trans po1, hEr, fun l z q => ?_⟩
        cases z
        exact absurd q (Nat.not_lt.mpr k0.len)
    · trivial
  | .call h0 as ks, S, F, σ, τ, h => by
    simp only [ev, cmpX, SF.ev, hc.sh]
    cases hsh : c.sh h0 with
    | none => trivial
    | some sh =>
      simp only [ofO_some, SF.ofO]
      refine (evs_sim hc as h).bind fun S1 σ1 l ws ⟨k1, k2⟩ => ?_
      refine ((evs_sim hc ks k1.er).from k1 fun _ _ _ _ z => z).bind fun S2 σ2 m zs ⟨k3, k4⟩ => ?_
      have k2' := k2.mono k3.fro k3.sbo
      split
      · rename_i hl
        rw [k2'.length, k4.length] at hl
        rw [if_pos hl]
        refine Sim.ofO fun xs e1 => Sim.ofO fun z e2 => ?_
        obtain ⟨qs, q1, q2⟩ := fill_sim k2' k4 e1
        rw [q1]
        simp only
        exact (call_sim hc k3.er q2 e2).from (k1.trans k3) fun _ _ _ _ z => .trans (k1.trans k3) z
      · trivial
  | .mk nm fs as, S, F, σ, τ, h => by
    simp only [ev, cmpX, SF.ev]
    refine (evs_sim hc as h).bind fun S1 σ1 l ws ⟨k1, k2⟩ => Sim.ofO fun vs e1 => ?_
    have f := k2.fzs e1
    split
    · rename_i hl
      rw [f.length] at hl
      rw [if_pos hl]
      have po2 := Po.grow k1.er [WO.ins nm (fs.zip ws)]
      refine ⟨.ref S1.length, S1 ++ [.ins nm (fs.zip ws)], rfl, KE.val (k1.trans po2) (.ins (gs := fs.zip ws) (fun z => ?_) (by simp) ((po2.fzs f).named fs))⟩
      rcases z with z | z
      · exact absurd (k1.er.bd _ z) (Nat.lt_irrefl _)
      · exact absurd (k1.er.adr_lt z) (Nat.lt_irrefl _)
    · trivial
  | .dun dk h0 nm a, S, F, σ, τ, h => by
    simp only [ev, cmpX, SF.ev, hc.sh]
    cases hsh : c.sh h0 with
    | none => trivial
    | some sh =>
      simp only [ofO_some, SF.ofO]
      refine (ev_sim hc a h).bind fun S1 σ1 x w k1 => Sim.ofO fun v e1 => ?_
      have f1 := k1.fz e1
      split
      · rename_i hin
        rw [if_pos (ins_sim f1 hin)]
        have q := call_sim hc (f := sh.fn) k1.po.er (.va f1 .nil) (show takeA [.va v] σ1 = some ([.val v], σ1) from rfl)
        revert q
        cases hcl : c.cl sh.fn [.val v] with
        | st => intro _; trivial
        | ex x =>
          rintro ⟨y, S2, e2, p2, x2⟩
          exact ⟨y, S2, by rw [e2]; rfl, k1.po.trans p2, x2⟩
        | ok r outs =>
          rintro ⟨w2, S2, e2, ke⟩
          have hp : putA σ1 [.va v] outs σ1 = σ1 := by cases outs <;> rfl
          rw [hp] at ke
          cases r with
          | val w' =>
            simp only
            split
            · rename_i hok
              exact ⟨w2, S2, by rw [e2]; simp only [SF.R.bind_ok]; rw [if_pos (dk_sim (ke.fz (v := w') rfl) hok)], .trans k1.po ke⟩
            · trivial
          | no => trivial
          | own _ _ => trivial
      · trivial
theorem evs_sim (hc : CS c d) : ∀ (es : Xs) {S : Sg} {F : Nat → Prop} {σ : En} {τ : SF.En}, ER S F σ τ → Sim S F σ τ (evs c es σ) (SF.evs d (cmpXs es) τ S) (KS S F σ τ)
  | .nil, S, F, σ, τ, h => by simp only [evs, cmpXs, SF.evs]; exact ⟨_, S, rfl, .refl h, .nil⟩
  | .cons e es, S, F, σ, τ, h => by
    simp only [evs, cmpXs, SF.evs]
    refine (arg_sim h (ev_sim hc e h)).bind fun S1 σ1 a w ⟨k1, k2⟩ => ?_
    refine ((evs_sim hc es k1.er).from k1 fun _ _ _ _ z => z).bind fun S2 σ2 as ws ⟨k3, k4⟩ => ?_
    exact ⟨_, S2, rfl, k1.trans k3, (k2.mono k3.fro k3.sbo).app k4⟩
  | .star e es, S, F, σ, τ, h => by
    simp only [evs, cmpXs, SF.evs]
    refine (arg_sim h (ev_sim hc e h)).bind fun S1 σ1 a w ⟨k1, k2⟩ => Sim.ofO fun v e1 => Sim.ofO fun vs e2 => ?_
    obtain ⟨us, q1, q2⟩ := seq_sim (A.rd k1.er k2 e1) e2
    rw [q1]
    simp only [SF.ofO]
    refine ((evs_sim hc es k1.er).from k1 fun _ _ _ _ z => z).bind fun S2 σ2 as ws ⟨k3, k4⟩ => ?_
    exact ⟨_, S2, rfl, k1.trans k3, (As.vals (k3.fzs q2)).app k4⟩
theorem evB_sim (hc : CS c d) (an : Bool) : ∀ (b : Xb) {S : Sg} {F : Nat → Prop} {σ : En} {τ : SF.En}, ER S F σ τ → Sim S F σ τ (evB c an b σ) (SF.evB d an (cmpXb b) τ S) (KE S F σ τ)
  | .one e, S, F, σ, τ, h => by simp only [evB, cmpXb, SF.evB]; exact ev_sim hc e h
  | .cons e es, S, F, σ, τ, h => by
    simp only [evB, cmpXb, SF.evB]
    refine (ev_sim hc e h).bind fun S1 σ1 x w k1 => ?_
    split
    · rename_i k
      have f1 := k1.fz (v := .bl k) rfl
      cases f1
      simp only
      split
      · exact (evB_sim hc an es k1.po.er).from k1.po fun _ _ _ _ z => .trans k1.po z
      · exact ⟨_, S1, rfl, .val k1.po (.bl _)⟩
    · trivial
theorem evT_sim (hc : CS c d) : ∀ (t : T) {S : Sg} {F : Nat → Prop} {σ : En} {τ : SF.En}, ER S F σ τ → Sim S F σ τ (evT c t σ) (SF.evT d (cmpT t) τ S) (KB S F σ τ)
  | .val e, S, F, σ, τ, h => by
    simp only [evT, cmpT, mkT_ev]
    refine (arg_sim h (ev_sim hc e h)).bind fun S1 σ1 a w ⟨k1, k2⟩ => Sim.ofO fun v e1 => Sim.ofO fun k e2 => ?_
    rw [tru_sim (A.rd k1.er k2 e1) e2]
    exact ⟨k, S1, rfl, k1, rfl⟩
  | .bo an b, S, F, σ, τ, h => by simp only [evT, cmpT, SF.evT]; exact evTb_sim hc an b h
  | .nt t, S, F, σ, τ, h => by
    simp only [evT, cmpT, SF.evT]
    refine (evT_sim hc t h).bind fun S1 σ1 k k' ⟨k1, e⟩ => ?_
    subst e
    exact ⟨_, S1, rfl, k1, rfl⟩
theorem evTb_sim (hc : CS c d) (an : Bool) : ∀ (b : Tb) {S : Sg} {F : Nat → Prop} {σ : En} {τ : SF.En}, ER S F σ τ → Sim S F σ τ (evTb c an b σ) (SF.evBT d an (cmpTb b) τ S) (KB S F σ τ)
  | .one t, S, F, σ, τ, h => by simp only [evTb, cmpTb, SF.evBT]; exact evT_sim hc t h
  | .cons t ts, S, F, σ, τ, h => by
    simp only [evTb, cmpTb, SF.evBT]
    refine (evT_sim hc t h).bind fun S1 σ1 k k' ⟨k1, e⟩ => ?_
    subst e
    split
    · exact (evTb_sim hc an ts k1.er).from k1 fun _ _ _ _ z => ⟨k1.trans z.1, z.2⟩
    · exact ⟨_, S1, rfl, k1, rfl⟩
theorem evC_sim (hc : CS c d) : ∀ (o : Xo) {S : Sg} {F : Nat → Prop} {σ : En} {τ : SF.En}, ER S F σ τ → Sim S F σ τ (evC c o σ) (SF.evC d (cmpXo o) τ S) (KB S F σ τ)
  | .no, S, F, σ, τ, h => by simp only [evC, cmpXo, SF.evC]; exact ⟨_, S, rfl, .refl h, rfl⟩
  | .so t, S, F, σ, τ, h => by simp only [evC, cmpXo, SF.evC]; exact evT_sim hc t h
theorem evO_sim (hc : CS c d) : ∀ (o : Xe) {S : Sg} {F : Nat → Prop} {σ : En} {τ : SF.En}, ER S F σ τ → Sim S F σ τ (evO c o σ) (SF.evO d (cmpXe o) τ S) (KB S F σ τ)
  | .no, S, F, σ, τ, h => by simp only [evO, cmpXe, SF.evO]; exact ⟨_, S, rfl, .refl h, rfl⟩
  | .so e, S, F, σ, τ, h => by
    simp only [evO, cmpXe, SF.evO]
    refine (ev_sim hc e h).bind fun S1 σ1 x w k1 => Sim.ofO fun v e1 => ?_
    have f1 := k1.fz e1
    split
    · cases f1
      exact ⟨_, S1, rfl, k1.po, rfl⟩
    · trivial
theorem evI_sim (hc : CS c d) : ∀ (it : It) {S : Sg} {F : Nat → Prop} {σ : En} {τ : SF.En}, ER S F σ τ → Sim S F σ τ (evI c it σ) (SF.evI d (cmpIt it) τ S) (KI S F σ τ)
  | .seq e, S, F, σ, τ, h => by
    simp only [evI, cmpIt, SF.evI]
    refine (ev_sim hc e h).bind fun S1 σ1 x w k1 => Sim.ofO fun v e1 => Sim.ofO fun s e2 => ?_
    obtain ⟨s', q1, q2⟩ := src_sim (k1.fz e1) e2
    rw [q1]
    exact ⟨_, S1, rfl, k1.po, q2⟩
  | .enm e, S, F, σ, τ, h => by
    simp only [evI, cmpIt, SF.evI]
    refine (ev_sim hc e h).bind fun S1 σ1 x w k1 => Sim.ofO fun v e1 => Sim.ofO fun s e2 => ?_
    obtain ⟨s', q1, q2⟩ := src_sim (k1.fz e1) e2
    rw [q1]
    exact ⟨_, S1, rfl, k1.po, .enm q2⟩
  | .zip a b, S, F, σ, τ, h => by
    simp only [evI, cmpIt, SF.evI]
    refine (ev_sim hc a h).bind fun S1 σ1 x w k1 => Sim.ofO fun v e1 => ?_
    refine ((ev_sim hc b k1.po.er).from k1.po fun _ _ _ _ z => z).bind fun S2 σ2 y u k2 => Sim.ofO fun v2 e2 => Sim.ofO fun s e3 => Sim.ofO fun t e4 => ?_
    obtain ⟨s', q1, q2⟩ := src_sim (k2.po.fz (k1.fz e1)) e3
    obtain ⟨t', q3, q4⟩ := src_sim (k2.fz e2) e4
    rw [q1, q3]
    exact ⟨_, S2, rfl, k1.po.trans k2.po, .zip q2 q4⟩
  | .rng e, S, F, σ, τ, h => by
    simp only [evI, cmpIt, SF.evI]
    refine (ev_sim hc e h).bind fun S1 σ1 x w k1 => Sim.ofO fun v e1 => Sim.ofO fun s e2 => ?_
    have f1 := k1.fz e1
    unfold rngOf at e2
    split at e2
    · cases f1
      split at e2
      · rename_i hs; cases e2
        simp only [SF.rngOf, if_pos hs, SF.ofO]
        exact ⟨_, S1, rfl, k1.po, .rng _ _⟩
      · cases e2
    · cases e2
  | .rng2 a b, S, F, σ, τ, h => by
    simp only [evI, cmpIt, SF.evI]
    refine (ev_sim hc a h).bind fun S1 σ1 x w k1 => Sim.ofO fun v e1 => ?_
    refine ((ev_sim hc b k1.po.er).from k1.po fun _ _ _ _ z => z).bind fun S2 σ2 y u k2 => Sim.ofO fun v2 e2 => Sim.ofO fun s e3 => ?_
    have f1 := k2.po.fz (k1.fz e1)
    have f2 := k2.fz e2
    unfold rng2Of at e3
    split at e3
    · cases f1; cases f2
      split at e3
      · rename_i hs; cases e3
        simp only [SF.rng2Of, if_pos hs, SF.ofO]
        exact ⟨_, S2, rfl, k1.po.trans k2.po, .rng _ _⟩
      · cases e3
    · cases e3
end
end
end EP
set_option Elab.async false
set_option linter.all false
set_option maxRecDepth 100000
set_option maxHeartbeats 4000000
namespace EP
open PySem
open SF (Ky Bo Co Ty Bi Fi Sh lenMax bigOk small62)
open SF (Sg W WO)
section
variable {S S' : Sg} {F F' : Nat → Prop} {σ σ' σ1 : En} {τ τ' : SF.En} {P P' : Nat → Prop} {c : Cn} {d : SF.Cn}
/-- what a name owns becomes another thing at the same place -/
theorem ER.mut (h : ER S F σ τ) {i : Nat} {p : Bool} {o o' : Ow} {l : Nat} {u : WO} (hs : σ[i]? = some (.own p o)) (ht : τ[i]? = some (some (.ref l))) (hu : OwR S (Own F σ τ) o' u) : Po S F σ τ (S.set l u) (σ.set i (.own p o')) τ := by
  have hl : Adr σ τ l := ⟨i, _, _, hs, ht, rfl⟩
  have hlt := h.adr_lt hl
  have hi : i < σ.length := (List.getElem?_eq_some_iff.mp hs).1
  have get : ∀ {j : Nat} {s : Sl}, (σ.set i (.own p o'))[j]? = some s → (j = i ∧ s = .own p o') ∨ (j ≠ i ∧ σ[j]? = some s) := fun {j s} a => by
    rw [List.getElem?_set] at a
    by_cases e : i = j
    · subst e
      rw [if_pos rfl, if_pos hi] at a
      cases a
      exact .inl ⟨rfl, rfl⟩
    · rw [if_neg e] at a; exact .inr ⟨Ne.symm e, a⟩
  have hA : ∀ l', Adr (σ.set i (.own p o')) τ l' → Adr σ τ l' := fun l' ⟨j, s, w, a, b, z⟩ => by
    rcases get a with ⟨rfl, rfl⟩ | ⟨e, a⟩
    · rw [ht] at b; cases b; cases z; exact hl
    · exact ⟨j, s, w, a, b, z⟩
  have h1 : ∀ l', l' ≠ l → (S.set l u)[l']? = S[l']? := fun l' q => by rw [List.getElem?_set_ne (Ne.symm q)]
  have h2 : ∀ l', l' < S.length → Own F (σ.set i (.own p o')) τ l' → Own F σ τ l' := fun l' _ z => z.imp id (hA l')
  have h3 : ∀ l', l' < S.length → ¬ Own F σ τ l' → (S.set l u)[l']? = S[l']? := fun l' _ q => h1 l' fun e => q (.inr (e ▸ hl))
  refine ⟨fun l' _ q => h1 l' fun e => q (e ▸ hl), by simp, ⟨by simp [h.len], fun j s w a b => ?_, fun j k s w s' w' l' a b a' b' z z' => ?_, fun l' z => h.dis l' (hA l' z), fun l' z => by rw [List.length_set]; exact h.bd l' z⟩, fun l' _ z => hA l' z, fun j ⟨v, z⟩ => ?_, rfl⟩
  · rcases get a with ⟨rfl, rfl⟩ | ⟨e, a⟩
    · rw [ht] at b; cases b
      exact .own (by rw [List.getElem?_set_self hlt]) (hu.mono h3 h2)
    · refine (h.gt j s w a b).mono h3 h2 fun l' z => h1 l' fun e2 => e ?_
      exact h.inj j i s w _ _ l' a b hs ht z (by rw [e2]; rfl)
  · have key : ∀ (j : Nat) (s : Sl) (w : Option W), (σ.set i (.own p o'))[j]? = some s → τ[j]? = some w → adr s w = some l' → ∃ s0, σ[j]? = some s0 ∧ adr s0 w = some l' := fun j s w a b z => by
      rcases get a with ⟨rfl, rfl⟩ | ⟨e, a⟩
      · rw [ht] at b; cases b; exact ⟨_, hs, z⟩
      · exact ⟨s, a, z⟩
    obtain ⟨s2, a2, z2⟩ := key j s w a b z
    obtain ⟨s3, a3, z3⟩ := key k s' w' a' b' z'
    exact h.inj _ _ _ _ _ _ l' a2 b a3 b' z2 z3
  · rcases get z with ⟨rfl, e⟩ | ⟨e, z⟩
    · cases e; exact ⟨⟨o, hs⟩, rfl⟩
    · exact ⟨⟨v, z⟩, rfl⟩
/-- both sides of statements -/
def SimS (S : Sg) (F : Nat → Prop) (σ : En) (τ : SF.En) (r : R Fl) (q : SF.RS) : Prop := match r with
  | .ok .nx σ' => ∃ τ' S', q = .ok (.nx τ') S' ∧ Po S F σ τ S' σ' τ'
  | .ok .bk σ' => ∃ τ' S', q = .ok (.bk τ') S' ∧ Po S F σ τ S' σ' τ'
  | .ok .ct σ' => ∃ τ' S', q = .ok (.ct τ') S' ∧ Po S F σ τ S' σ' τ'
  | .ok (.rt r) σ' => ∃ w S' τ', q = .ok (.rt w) S' ∧ Po S F σ τ S' σ' τ' ∧ ER S' F (r :: σ') (some w :: τ') ∧ ∀ l, adr r (some w) = some l → l < S.length → Adr σ τ l
  | .ex x σ' => ∃ y τ' S', q = .ex y τ' S' ∧ Po S F σ τ S' σ' τ' ∧ XR S' (Own F σ' τ') x y
  | .st => True
theorem SimS.from {S1 : Sg} {σ1 : En} {τ1 : SF.En} {r : R Fl} {q : SF.RS} (p : Po S F σ τ S1 σ1 τ1) (h : SimS S1 F σ1 τ1 r q) : SimS S F σ τ r q := by
  cases r with
  | ok f σ2 =>
    cases f with
    | nx => obtain ⟨a, b, e, z⟩ := h; exact ⟨a, b, e, p.trans z⟩
    | bk => obtain ⟨a, b, e, z⟩ := h; exact ⟨a, b, e, p.trans z⟩
    | ct => obtain ⟨a, b, e, z⟩ := h; exact ⟨a, b, e, p.trans z⟩
    | rt r => obtain ⟨w, a, b, e, z, y, n⟩ := h; exact ⟨w, a, b, e, p.trans z, y, fun l q1 q2 => p.sub l q2 (n l q1 (Nat.lt_of_lt_of_le q2 p.len))⟩
  | ex x σ2 => obtain ⟨y, a, b, e, z, k⟩ := h; exact ⟨y, a, b, e, p.trans z, k⟩
  | st => trivial
theorem Sim.go {α β : Type} {r : R α} {q : SF.R β} {f : α → En → R Fl} {g : β → Sg → SF.RS} {K : Sg → En → α → β → Prop} (h : Sim S F σ τ r q K)
    (k : ∀ S' σ' a b, K S' σ' a b → SimS S F σ τ (f a σ') (g b S')) : SimS S F σ τ (r.bind f) (q.go τ g) := by
  cases r with
  | ok a σ2 => obtain ⟨b, S2, rfl, z⟩ := h; exact k _ _ _ _ z
  | ex x σ2 => obtain ⟨y, S2, rfl, z1, z2⟩ := h; exact ⟨y, τ, S2, rfl, z1, z2⟩
  | st => trivial
theorem SimS.ofO {α : Type} {o : Option α} {f : α → R Fl} {q : SF.RS} (h : ∀ a, o = some a → SimS S F σ τ (f a) q) : SimS S F σ τ (EP.ofO o f) q := by
  cases o with
  | none => trivial
  | some a => exact h a rfl
theorem for_sim {src : Src} {src' : SF.Src} {turn : V → En → R Fl} {turn' : W → SF.En → Sg → SF.RS}
    (ht : ∀ (S : Sg) (σ : En) (τ : SF.En) (v : V) (w : W), ER S F σ τ → Fz S (Own F σ τ) v w → SimS S F σ τ (turn v σ) (turn' w τ S)) :
    ∀ (k i : Nat) (S : Sg) (σ : En) (τ : SF.En), ER S F σ τ → SrcR S (Own F σ τ) src src' → SimS S F σ τ (forGo src turn k i σ) (SF.forGo src' turn' k i τ S)
  | 0, i, S, σ, τ, h, hs => by
    have a := hs.at i
    simp only [forGo, SF.forGo]
    cases he : src.at i with
    | none => rw [he] at a; simp only at a; rw [a]; exact ⟨τ, S, rfl, .refl h⟩
    | some v => trivial
  | k + 1, i, S, σ, τ, h, hs => by
    have a := hs.at i
    simp only [forGo, SF.forGo]
    cases he : src.at i with
    | none => trivial
    | some v =>
      rw [he] at a
      simp only at a
      obtain ⟨w, q1, q2⟩ := a
      simp only [q1]
      have b := ht S σ τ v w h q2
      revert b
      generalize turn v σ = r
      intro b
      have next : ∀ (σ1 : En) (τ1 : SF.En) (S1 : Sg), Po S F σ τ S1 σ1 τ1 → SimS S F σ τ (forGo src turn k (i + 1) σ1) (SF.forGo src' turn' k (i + 1) τ1 S1) := fun σ1 τ1 S1 p => (for_sim ht k (i + 1) S1 σ1 τ1 p.er (hs.mono p.fro p.sbo)).from p
      cases r with
      | ok f σ1 =>
        cases f with
        | nx => obtain ⟨τ1, S1, e, p⟩ := b; simp only [e]; exact next _ _ _ p
        | ct => obtain ⟨τ1, S1, e, p⟩ := b; simp only [e]; exact next _ _ _ p
        | bk => obtain ⟨τ1, S1, e, p⟩ := b; simp only [e]; exact ⟨τ1, S1, rfl, p⟩
        | rt r => obtain ⟨w, S1, τ1, e, p⟩ := b; simp only [e]; exact ⟨w, S1, τ1, rfl, p⟩
      | ex x σ1 => obtain ⟨y, τ1, S1, e, p⟩ := b; simp only [e]; exact ⟨y, τ1, S1, rfl, p⟩
      | st => trivial
theorem wh_sim {test : En → R Bool} {test' : SF.En → Sg → SF.R Bool} {body : En → R Fl} {body' : SF.En → Sg → SF.RS}
    (ht : ∀ (S : Sg) (σ : En) (τ : SF.En), ER S F σ τ → Sim S F σ τ (test σ) (test' τ S) (KB S F σ τ)) (hb : ∀ (S : Sg) (σ : En) (τ : SF.En), ER S F σ τ → SimS S F σ τ (body σ) (body' τ S)) :
    ∀ (k : Nat) (S : Sg) (σ : En) (τ : SF.En), ER S F σ τ → SimS S F σ τ (whGo test body k σ) (SF.whGo test' body' k τ S)
  | 0, S, σ, τ, h => by simp only [whGo]; trivial
  | k + 1, S, σ, τ, h => by
    simp only [whGo, SF.whGo]
    refine (ht S σ τ h).go fun S1 σ1 b b' ⟨p, e⟩ => ?_
    subst e
    cases b
    · simp only [Bool.false_eq_true, if_false]; exact ⟨τ, S1, rfl, p⟩
    · simp only [if_true]
      have q := hb S1 σ1 τ p.er
      revert q
      generalize body σ1 = r
      intro q
      have next : ∀ (σ2 : En) (τ2 : SF.En) (S2 : Sg), Po S1 F σ1 τ S2 σ2 τ2 → SimS S F σ τ (whGo test body k σ2) (SF.whGo test' body' k τ2 S2) := fun σ2 τ2 S2 p2 => (wh_sim ht hb k S2 σ2 τ2 p2.er).from (p.trans p2)
      cases r with
      | ok f σ2 =>
        cases f with
        | nx => obtain ⟨τ2, S2, e, p2⟩ := q; simp only [e]; exact next _ _ _ p2
        | ct => obtain ⟨τ2, S2, e, p2⟩ := q; simp only [e]; exact next _ _ _ p2
        | bk => obtain ⟨τ2, S2, e, p2⟩ := q; simp only [e]; exact ⟨τ2, S2, rfl, p.trans p2⟩
        | rt r => obtain ⟨w, S2, τ2, e, p2⟩ := q; simp only [e]; exact SimS.from (r := .ok (.rt r) σ2) p ⟨w, S2, τ2, rfl, p2⟩
      | ex x σ2 => obtain ⟨y, τ2, S2, e, p2⟩ := q; simp only [e]; exact SimS.from (r := .ex x σ2) p ⟨y, τ2, S2, rfl, p2⟩
      | st => trivial
theorem own_at (h : ER S F σ τ) {i : Nat} {p : Bool} {o : Ow} (hs : σ[i]? = some (.own p o)) : ∃ l u, τ[i]? = some (some (.ref l)) ∧ S[l]? = some u ∧ OwR S (Own F σ τ) o u := by
  have hlt : i < τ.length := by rw [← h.len]; exact (List.getElem?_eq_some_iff.mp hs).1
  have ht := List.getElem?_eq_getElem hlt
  have q := h.gt i _ _ hs ht
  generalize τ[i] = o' at ht q
  cases q with
  | @own _ _ u l e g => exact ⟨l, u, ht, e, g⟩
theorem slotL_of {i : Nat} {z : Bool × List V} (h : slotL σ i = some z) : σ[i]? = some (.own z.1 (.l z.2)) := by
  unfold slotL at h
  split at h
  · rename_i p vs e; cases h; exact e
  · cases h
theorem set_same {α : Type} {xs : List α} {i : Nat} {x : α} (h : xs[i]? = some x) : xs.set i x = xs := by
  apply List.ext_getElem?
  intro j
  by_cases e : i = j
  · subst e; rw [List.getElem?_set_self (List.getElem?_eq_some_iff.mp h).1, h]
  · rw [List.getElem?_set_ne e]
theorem frz_sim (h : ER S F σ τ) {i : Nat} {s : Sl} {v : V} (hs : σ[i]? = some s) (e : s.frz = some v) : Po S F σ τ S (σ.set i (.val v)) τ := by
  have hi := (List.getElem?_eq_some_iff.mp hs).1
  cases s with
  | no => cases e
  | val u =>
    cases e
    rw [set_same hs]
    exact .refl h
  | own p o =>
    obtain ⟨l, u, ht, e1, g⟩ := own_at h hs
    have q := h.pull (q := p) hs ht
    have f := q.head e
    have hq := q.tail.sto i (s := .val v) (o := some (.ref l)) rfl (.val f)
    rw [List.set_set, set_same ht] at hq
    refine ⟨fun _ _ _ => rfl, Nat.le_refl _, hq, fun l' _ ⟨j, s, w, a, b, z⟩ => ?_, fun j ⟨w, z⟩ => ?_, rfl⟩
    · by_cases e : i = j
      · subst e
        rw [List.getElem?_set_self hi] at a
        cases a; cases z
      · rw [List.getElem?_set_ne e] at a
        exact ⟨j, s, w, a, b, z⟩
    · by_cases e : i = j
      · subst e
        rw [List.getElem?_set_self hi] at z
        cases z
      · rw [List.getElem?_set_ne e] at z
        exact ⟨⟨w, z⟩, rfl⟩
theorem aso_sim {r : Sl} {w : W} {i : Nat} {σ2 : En} (k : KE S F σ τ S' σ' r w) (hr : isOwned r = true) (e : setS σ' i r.un = some σ2) : Po S F σ τ S' σ2 (τ.set i (some w)) := by
  unfold setS at e
  split at e
  · cases e
  · cases e
    cases r with
    | no => cases hr
    | val _ => cases hr
    | own p o =>
      have q : ER S' F (.own false o :: σ') (some w :: τ) := k.er.reflag (by simp) fun j s a => by
        cases j with
        | zero => simp at a; subst a; exact ⟨_, rfl, .inr ⟨_, _, _, rfl, rfl⟩⟩
        | succ j => exact ⟨s, by simpa using a, .inl rfl⟩
      have hq := q.put i
      simp only [Sl.un]
      refine ⟨k.po.fr, k.po.len, hq, fun l q1 ⟨j, s, u, a, b, z⟩ => ?_, fun j ⟨u, z⟩ => ?_, by rw [List.length_set]⟩
      · rw [List.getElem?_set] at a b
        by_cases e : i = j
        · subst e
          rw [if_pos rfl] at a b
          split at a
          · split at b
            · cases a; cases b
              refine k.nw l ?_ q1
              cases w <;> (cases z <;> rfl)
            · cases b
          · cases a
        · rw [if_neg e] at a b
          exact k.po.sub l q1 ⟨j, s, u, a, b, z⟩
      · rw [List.getElem?_set] at z
        by_cases e : i = j
        · subst e
          rw [if_pos rfl] at z
          split at z <;> cases z
        · rw [if_neg e] at z
          have := k.po.io j ⟨u, z⟩
          exact ⟨this.1, by rw [List.getElem?_set_ne e]⟩
/-- parts change places -/
theorem ER.swap {C : En} {Cτ : SF.En} (hl : C.length = Cτ.length) (h : ER S F (C ++ σ) (Cτ ++ τ)) : ER S F (σ ++ C) (τ ++ Cτ) := by
  have h2 : σ.length = τ.length := by have := h.len; simp at this; omega
  refine h.sub (by simp [hl, h2]) (fun i => if i < σ.length then C.length + i else i - σ.length) (fun i s o a b => .inr ?_) (fun i j s o s' o' a b a' b' _ _ e => ?_)
  · by_cases hi : i < σ.length
    · rw [if_pos hi]
      rw [List.getElem?_append_left hi] at a
      rw [List.getElem?_append_left (by omega)] at b
      rw [List.getElem?_append_right (by omega), List.getElem?_append_right (by omega), Nat.add_sub_cancel_left, hl, Nat.add_sub_cancel_left]
      exact ⟨a, b⟩
    · rw [if_neg hi]
      rw [List.getElem?_append_right (by omega)] at a
      rw [List.getElem?_append_right (by omega)] at b
      have := (List.getElem?_eq_some_iff.mp a).1
      rw [List.getElem?_append_left (by omega), List.getElem?_append_left (by omega)]
      rw [← h2] at b
      exact ⟨a, b⟩
  · have la := (List.getElem?_eq_some_iff.mp a).1
    have lb := (List.getElem?_eq_some_iff.mp a').1
    simp at la lb
    split at e <;> split at e <;> omega
theorem ER.splitR {C : En} {Cτ : SF.En} (hl : C.length = Cτ.length) (h : ER S F (C ++ σ) (Cτ ++ τ)) : ER S (Own F C Cτ) σ τ :=
  (h.swap hl).split (by have := h.len; simp at this; omega)
theorem Sim.lessF {α β : Type} {r : R α} {q : SF.R β} {K K' : Sg → En → α → β → Prop} (hF : ∀ l, F l → F' l) (h : Sim S F' σ τ r q K) (k : ∀ S' σ' a b, K S' σ' a b → K' S' σ' a b) : Sim S F σ τ r q K' := by
  cases r with
  | ok a σ2 => obtain ⟨b, S2, e, z⟩ := h; exact ⟨b, S2, e, k _ _ _ _ z⟩
  | ex x σ2 =>
    obtain ⟨y, S2, e, z1, z2⟩ := h
    exact ⟨y, S2, e, ⟨z1.fr, z1.len, z1.er.less hF, z1.sub, z1.io, z1.ln⟩, ⟨z2.cls, z2.fs.mono (fun _ _ _ => rfl) fun l _ q => q.imp (hF l) id⟩⟩
  | st => trivial
def evPW (d : SF.Cn) (τ : SF.En) : List SF.E → Sg → SF.R (List W)
  | [], S => .ok [] S
  | e :: es, S => (SF.ev d e τ S).bind fun w S => (evPW d τ es S).bind fun ws S => .ok (w :: ws) S
theorem pk_er {r s : Sl} {w : W} {o : Bool} (h : ER S F (r :: σ) (some w :: τ)) (e : pk o r = some s) : ER S F (s :: σ) (some w :: τ) ∧ ∀ l, adr s (some w) = some l → adr r (some w) = some l := by
  unfold pk at e
  cases o with
  | false =>
    simp only [Bool.false_eq_true, if_false, Option.map_eq_some_iff] at e
    obtain ⟨v, e, rfl⟩ := e
    exact ⟨h.tail.val (h.head e), fun l z => by cases z⟩
  | true =>
    simp only [if_true] at e
    cases r with
    | no => cases e
    | val _ => cases e
    | own p u =>
      cases e
      refine ⟨h.reflag (by simp) fun j s a => ?_, fun l z => ?_⟩
      · cases j with
        | zero => simp at a; subst a; exact ⟨_, rfl, .inr ⟨_, _, _, rfl, rfl⟩⟩
        | succ j => exact ⟨s, by simpa using a, .inl rfl⟩
      · cases w <;> (cases z <;> rfl)
def KP (S : Sg) (F : Nat → Prop) (σ : En) (τ : SF.En) (S' : Sg) (σ' : En) (ss : List Sl) (ws : List W) : Prop :=
  ss.length = ws.length ∧ Po S F σ τ S' σ' τ ∧ ER S' F (ss ++ σ') (ws.map some ++ τ) ∧ ∀ l, l < S.length → Adr ss (ws.map some) l → Adr σ τ l
theorem evP_sim (hc : CS c d) : ∀ (es : List (Bool × X)) {S : Sg} {F : Nat → Prop} {σ : En} {τ : SF.En}, ER S F σ τ → Sim S F σ τ (evP c es σ) (evPW d τ (es.map fun z => cmpX z.2) S) (KP S F σ τ)
  | [], S, F, σ, τ, h => ⟨[], S, rfl, rfl, .refl h, h, fun l _ z => (adr_nil z).elim⟩
  | (o, e) :: es, S, F, σ, τ, h => by
    simp only [evP, List.map_cons, evPW]
    refine (ev_sim hc e h).bind fun S1 σ1 r w k1 => Sim.ofO fun s e1 => ?_
    obtain ⟨h1, n1⟩ := pk_er k1.er e1
    have hs : ER S1 F ([s] ++ σ1) ([some w] ++ τ) := h1
    have h2 : ER S1 (Own F [s] [some w]) σ1 τ := hs.splitR rfl
    have ih := evP_sim hc es h2
    refine Sim.from k1.po (K := KP S1 (fun l => F l) σ1 τ |> fun _ => fun S' σ' ss' ws' => ∃ ss ws, ss' = s :: ss ∧ ws' = w :: ws ∧ ss.length = ws.length ∧ Po S1 F σ1 τ S' σ' τ ∧ ER S' F (s :: ss ++ σ') (some w :: ws.map some ++ τ) ∧ ∀ l, l < S1.length → Adr ss (ws.map some) l → Adr σ1 τ l) ?_ fun S' σ' ss' ws' ⟨ss, ws, e2, e3, a1, a2, a3, a4⟩ => ?_
    · have q := Sim.lessF (F := F) (fun l z => .inl z) ih (fun _ _ _ _ z => z)
      refine q.bind fun S2 σ2 ss ws ⟨b1, b2, b3, b4⟩ => ⟨_, S2, rfl, ss, ws, rfl, rfl, b1, ?_⟩
      have hj := ER.join (S := S1) (S' := S2) (F := F) (D := σ1) (Dτ := τ) (σ := [s]) (τ := [some w]) (C := ss ++ σ2) (Cτ := ws.map some ++ τ) k1.po.er.len (hs.swap rfl) b3 b2.fr b2.len (fun l q1 q2 => by
        rcases (adr_app (by simp [b1])).mp q2 with q2 | q2
        · exact b4 l q1 q2
        · exact b2.sub l q1 q2)
      have hj2 : ER S2 F ([s] ++ (ss ++ σ2)) ([some w] ++ (ws.map some ++ τ)) := hj.swap b3.len
      exact ⟨⟨b2.fr, b2.len, (hj2.tail).drop (by simp [b1]), b2.sub, b2.io, b2.ln⟩, hj2, b4⟩
    · subst e2 e3
      refine ⟨by simp [a1], k1.po.trans a2, a3, fun l q1 q2 => ?_⟩
      rcases adr_cons.mp q2 with q2 | q2
      · exact k1.nw l (n1 l q2) q1
      · exact k1.po.sub l q1 (a4 l (Nat.lt_of_lt_of_le q1 k1.po.len) q2)
theorem setP_sim {S0 : Sg} {σ0 : En} {τ0 : SF.En} : ∀ (ts : List Nat) (ss : List Sl) (ws : List W) {σ σ' : En} {τ : SF.En}, ss.length = ws.length → ts.length = ss.length → ER S F (ss ++ σ) (ws.map some ++ τ) → setP ts ss σ = some σ' →
    (∀ s ∈ ss, ∀ o, s ≠ .own true o) → (∀ l, l < S0.length → Adr ss (ws.map some) l → Adr σ0 τ0 l) → Po S0 F σ0 τ0 S σ τ → Po S0 F σ0 τ0 S σ' ((ts.zip ws).foldl (fun τ z => τ.set z.1 (some z.2)) τ)
  | [], [], [], σ, σ', τ, _, _, h, e, _, _, p => by cases e; exact p
  | i :: ts, s :: ss, w :: ws, σ, σ', τ, h1, h2, h, e, nf, ha, p => by
    simp only [setP, Option.bind_eq_some_iff] at e
    obtain ⟨σ1, e1, e2⟩ := e
    unfold setS at e1
    split at e1
    · cases e1
    · rename_i hf
      cases e1
      have hl : ss.length = (ws.map some).length := by simpa using h1
      have hq := h.put (ss.length + i)
      have hq' : ER S F (ss ++ σ.set i s) (ws.map some ++ τ.set i (some w)) := by
        have a1 : (ss ++ σ).set (ss.length + i) s = ss ++ σ.set i s := by rw [List.set_append_right _ _ (by omega), Nat.add_sub_cancel_left]
        have a2 : (ws.map some ++ τ).set (ss.length + i) (some w) = ws.map some ++ τ.set i (some w) := by rw [List.set_append_right _ _ (by rw [← hl]; omega), hl, Nat.add_sub_cancel_left]
        rw [← a1, ← a2]; exact hq
      refine setP_sim ts ss ws (by simpa using h1) (by simpa using h2) hq' e2 (fun s hs => nf s (List.mem_cons_of_mem _ hs)) (fun l q1 q2 => ha l q1 (adr_cons.mpr (.inr q2))) ⟨p.fr, p.len, hq'.drop hl, fun l q1 ⟨j, s', u, a, b, z⟩ => ?_, fun j ⟨u, z⟩ => ?_, by rw [List.length_set]; exact p.ln⟩
      · rw [List.getElem?_set] at a b
        by_cases e : i = j
        · subst e
          rw [if_pos rfl] at a b
          split at a
          · split at b
            · cases a; cases b
              exact ha l q1 (adr_cons.mpr (.inl z))
            · cases b
          · cases a
        · rw [if_neg e] at a b
          exact p.sub l q1 ⟨j, s', u, a, b, z⟩
      · rw [List.getElem?_set] at z
        by_cases e : i = j
        · subst e
          rw [if_pos rfl] at z
          split at z
          · cases z
            exact absurd rfl (nf _ List.mem_cons_self u)
          · cases z
        · rw [if_neg e] at z
          have := p.io j ⟨u, z⟩
          exact ⟨this.1, by rw [List.getElem?_set_ne e]; exact this.2⟩
  | [], s :: ss, _, _, _, _, _, h2, _, _, _, _, _ => by simp at h2
  | i :: ts, [], _, _, _, _, _, h2, _, _, _, _, _ => by simp at h2
  | _, [], w :: ws, _, _, _, h1, _, _, _, _, _, _ => by simp at h1
  | _, s :: ss, [], _, _, _, h1, _, _, _, _, _, _ => by simp at h1
theorem na_star : ∀ ts, SF.starIx (naTs ts) = none
  | [] => rfl
  | i :: ts => by simp only [naTs, SF.starIx, na_star ts, Option.map_none]
theorem na_asg : ∀ (ts : List Nat) (ws : List W) (τ : SF.En) (S : Sg), ts.length = ws.length → SF.asgTs (naTs ts) ws τ S = .ok ((ts.zip ws).foldl (fun τ z => τ.set z.1 (some z.2)) τ) S
  | [], [], τ, S, _ => by simp only [naTs, SF.asgTs]; rfl
  | i :: ts, w :: ws, τ, S, h => by
    simp only [naTs, SF.asgTs, SF.asgT, SF.R.bind_ok]
    rw [na_asg ts ws _ S (by simpa using h)]
    rfl
  | [], w :: ws, _, _, h => by simp at h
  | i :: ts, [], _, _, h => by simp at h
theorem evs_es : ∀ (xs : List SF.E) (τ : SF.En) (S : Sg), SF.evs d (esOf xs) τ S = evPW d τ xs S
  | [], τ, S => by simp only [esOf, SF.evs, evPW]
  | x :: xs, τ, S => by
    simp only [esOf, SF.evs, evPW]
    congr 1; funext w S
    rw [evs_es xs τ S]
theorem evPW_len : ∀ (xs : List SF.E) (τ : SF.En) (S S' : Sg) (ws : List W), evPW d τ xs S = .ok ws S' → ws.length = xs.length
  | [], τ, S, S', ws, e => by cases e; rfl
  | x :: xs, τ, S, S', ws, e => by
    simp only [evPW] at e
    cases h1 : SF.ev d x τ S with
    | st => rw [h1] at e; cases e
    | ex _ _ => rw [h1] at e; cases e
    | ok w S1 =>
      rw [h1] at e
      simp only [SF.R.bind_ok] at e
      cases h2 : evPW d τ xs S1 with
      | st => rw [h2] at e; cases e
      | ex _ _ => rw [h2] at e; cases e
      | ok us S2 =>
        rw [h2] at e
        cases e
        simp [evPW_len xs τ S1 _ us h2]
theorem asg_par (ts : List Nat) (xs : List SF.E) (h : ts.length = xs.length) (h2 : xs.length < 10) : SF.exS d (.asg (.tu (naTs ts)) (.tup (esOf xs))) τ S = (evPW d τ xs S).go τ fun ws S => .ok (.nx ((ts.zip ws).foldl (fun τ z => τ.set z.1 (some z.2)) τ)) S := by
  simp only [SF.exS, SF.ev, evs_es]
  cases e : evPW d τ xs S with
  | st => rfl
  | ex _ _ => rfl
  | ok ws S1 =>
    have hl := evPW_len xs τ S S1 ws e
    have hm : ws.length ≤ SF.lenMax := by unfold SF.lenMax; omega
    simp only [SF.R.bind_ok, SF.newT, if_pos hm, SF.R.np_ok, SF.R.go_ok, SF.asgT, na_star, na_asg ts ws τ S1 (by omega)]
/-! ### exceptions -/
theorem gone_sim (h : ER S F σ τ) {i : Nat} {σ2 : En} (e : setS σ i .no = some σ2) : Po S F σ τ S σ2 (τ.set i none) := by
  unfold setS at e
  split at e
  · cases e
  · cases e
    refine ⟨fun _ _ _ => rfl, Nat.le_refl _, h.sto i (s := .no) (o := none) rfl (.no _), fun l' _ ⟨j, s, w, a, b, z⟩ => ?_, fun j ⟨w, z⟩ => ?_, by simp⟩
    · by_cases e : i = j
      · subst e
        rw [List.getElem?_set] at a
        split at a
        · split at a
          · cases a; cases z
          · cases a
        · exact absurd rfl (by assumption)
      · rw [List.getElem?_set_ne e] at a
        rw [List.getElem?_set_ne e] at b
        exact ⟨j, s, w, a, b, z⟩
    · by_cases e : i = j
      · subst e
        rw [List.getElem?_set] at z
        split at z
        · split at z <;> cases z
        · exact absurd rfl (by assumption)
      · rw [List.getElem?_set_ne e] at z
        exact ⟨⟨w, z⟩, List.getElem?_set_ne e⟩
theorem XR.po {S1 : Sg} {σ1 : En} {τ1 : SF.En} {x : Xn} {y : SF.Xn} (hx : XR S (Own F σ τ) x y) (p : Po S F σ τ S1 σ1 τ1) : XR S1 (Own F σ1 τ1) x y := ⟨hx.cls, p.fzs hx.fs⟩
mutual
theorem evX_sim {x : Xn} {y : SF.Xn} : ∀ (e : SF.XE) {S : Sg} {σ : En} {τ : SF.En} {v : V}, ER S F σ τ → XR S (Own F σ τ) x y → evX x e = some v → ∃ w J, SF.evX y e S = .ok w (S ++ J) ∧ Fz (S ++ J) (Own F σ τ) v w
  | .con w, S, σ, τ, v, h, hx, e => by
    simp only [evX] at e
    split at e
    · rename_i hf
      refine ⟨w, [], by rw [List.append_nil]; simp only [SF.evX, hf, if_true], ?_⟩
      cases w <;> first | (cases hf; done) | (cases e; constructor)
    · cases e
  | .fld m k, S, σ, τ, v, h, hx, e => by
    simp only [evX] at e
    split at e
    · rename_i hm
      obtain ⟨w, e1, f⟩ := hx.fs.get e
      refine ⟨w, [], ?_, by rw [List.append_nil]; exact f⟩
      rw [List.append_nil]
      simp only [SF.evX, ← hx.cls, hm, if_true, e1, SF.ofO]
    · cases e
  | .tup xs, S, σ, τ, v, h, hx, e => by
    simp only [evX] at e
    obtain ⟨vs, e1, e2⟩ := Option.bind_eq_some_iff.mp e
    split at e2
    · rename_i hl
      cases e2
      obtain ⟨ws, J, q, f⟩ := evXs_sim xs h hx e1
      have hl2 : ws.length ≤ lenMax := by rw [← f.length]; exact hl
      exact ⟨.tup ws, J, by simp only [SF.evX, q, SF.R.bind_ok, SF.newT, hl2, if_true], .tup f⟩
    · cases e2
  | .lst xs, S, σ, τ, v, h, hx, e => by
    simp only [evX] at e
    obtain ⟨vs, e1, e2⟩ := Option.bind_eq_some_iff.mp e
    split at e2
    · rename_i hl
      cases e2
      obtain ⟨ws, J, q, f⟩ := evXs_sim xs h hx e1
      have hl2 : ws.length ≤ lenMax := by rw [← f.length]; exact hl
      refine ⟨.ref (S ++ J).length, J ++ [.lst ws], by simp only [SF.evX, q, SF.R.bind_ok, SF.newL, hl2, if_true, List.append_assoc], ?_⟩
      have h2 : ER (S ++ J) F σ τ := (Po.grow h J).er
      rw [← List.append_assoc]
      exact .lst (fun z => absurd (h2.own_lt z) (Nat.lt_irrefl _)) (by rw [List.getElem?_append_right (Nat.le_refl _), Nat.sub_self]; rfl) ((Po.grow h2 [.lst ws]).fzs f)
    · cases e2
theorem evXs_sim {x : Xn} {y : SF.Xn} : ∀ (e : SF.XEs) {S : Sg} {σ : En} {τ : SF.En} {v : List V}, ER S F σ τ → XR S (Own F σ τ) x y → evXs x e = some v → ∃ w J, SF.evXs y e S = .ok w (S ++ J) ∧ Fzs (S ++ J) (Own F σ τ) v w
  | .nil, S, σ, τ, v, h, hx, e => by
    simp only [evXs] at e
    cases e
    exact ⟨[], [], by simp only [SF.evXs, List.append_nil], .nil⟩
  | .cons e es, S, σ, τ, v, h, hx, q => by
    simp only [evXs] at q
    obtain ⟨u, e1, q⟩ := Option.bind_eq_some_iff.mp q
    obtain ⟨us, e2, q⟩ := Option.bind_eq_some_iff.mp q
    cases q
    obtain ⟨w, J, q1, f1⟩ := evX_sim e h hx e1
    have p := Po.grow h J
    obtain ⟨ws, J2, q2, f2⟩ := evXs_sim es p.er (hx.po p) e2
    refine ⟨w :: ws, J ++ J2, by simp only [SF.evXs, q1, SF.R.bind_ok, q2, List.append_assoc], ?_⟩
    rw [← List.append_assoc]
    exact .cons ((Po.grow p.er J2).fz f1) f2
end
theorem hd_sim {x : Xn} {y : SF.Xn} {fin : Option SF.XE} : ∀ (as : List (Nat × SF.XE)) {S : Sg} {σ : En} {τ : SF.En}, ER S F σ τ → XR S (Own F σ τ) x y → SimS S F σ τ (hdGo x fin as σ) (SF.hdGo y fin as τ S)
  | [], S, σ, τ, h, hx => by
    unfold hdGo SF.hdGo
    cases fin with
    | none => exact ⟨τ, S, rfl, .refl h⟩
    | some e =>
      dsimp only
      refine SimS.ofO fun v e1 => ?_
      obtain ⟨w, J, q, f⟩ := evX_sim e h hx e1
      rw [q]
      have p := Po.grow h J
      exact ⟨w, _, τ, rfl, p, p.er.val f, fun l z => by cases z⟩
  | (j, e) :: r, S, σ, τ, h, hx => by
    unfold hdGo SF.hdGo
    refine SimS.ofO fun v e1 => SimS.ofO fun σ2 e2 => ?_
    obtain ⟨w, J, q, f⟩ := evX_sim e h hx e1
    rw [q]
    have p := Po.grow h J
    obtain ⟨S2, τ2, a1, a2⟩ := asg_sim (.na j) p.er f (show asgT (.na j) v σ = some σ2 from e2)
    simp only [cmpTg, SF.asgT] at a1
    cases a1
    have p2 := p.trans a2.1
    exact (hd_sim r p2.er (hx.po p2)).from p2
theorem hds_sim {kl : Nat → Option (Nat × List Nat)} {x : Xn} {y : SF.Xn} : ∀ (hs : List SF.Hd) {S : Sg} {σ : En} {τ : SF.En}, ER S F σ τ → XR S (Own F σ τ) x y → SimS S F σ τ (hdsGo kl x hs σ) (SF.hdsGo kl y hs τ S)
  | [], S, σ, τ, h, hx => ⟨y, τ, S, rfl, .refl h, hx⟩
  | hd :: hs, S, σ, τ, h, hx => by
    unfold hdsGo SF.hdsGo
    rw [← hx.cls]
    cases kl x.cls with
    | none => trivial
    | some k =>
      dsimp only
      split
      · refine SimS.ofO fun σ2 e2 => ?_
        cases hsl : hd.sl with
        | none =>
          rw [hsl] at e2
          cases e2
          exact hd_sim hd.as h hx
        | some i =>
          rw [hsl] at e2
          have p := gone_sim h e2
          have q := hd_sim (fin := hd.fin) hd.as p.er (hx.po p)
          simp only [R.clr, SF.RS.clr, SF.slE]
          revert q
          generalize hdGo x hd.fin hd.as σ2 = r
          intro q
          cases r with
          | ok f σ3 =>
            cases f with
            | nx =>
              obtain ⟨τ3, S3, e, p3⟩ := q
              simp only [e]
              refine SimS.ofO fun σ4 e4 => ?_
              exact ⟨_, S3, rfl, (p.trans p3).trans (gone_sim p3.er e4)⟩
            | ct => obtain ⟨τ3, S3, e, p3⟩ := q; simp only [e]; exact ⟨τ3, S3, rfl, p.trans p3⟩
            | bk => obtain ⟨τ3, S3, e, p3⟩ := q; simp only [e]; exact ⟨τ3, S3, rfl, p.trans p3⟩
            | rt r => obtain ⟨w, S3, τ3, e, p3⟩ := q; simp only [e]; exact SimS.from (r := .ok (.rt r) σ3) p ⟨w, S3, τ3, rfl, p3⟩
          | ex z σ3 => obtain ⟨y3, τ3, S3, e, p3⟩ := q; simp only [e]; exact SimS.from (r := .ex z σ3) p ⟨y3, τ3, S3, rfl, p3⟩
          | st => trivial
      · exact hds_sim hs h hx
mutual
/-- the mark of an owned name -/
theorem ER.flag {S : Sg} {F : Nat → Prop} {σ : En} {τ : SF.En} (h : ER S F σ τ) {i : Nat} {p q : Bool} {o : Ow} (hs : σ[i]? = some (.own p o)) : ER S F (σ.set i (.own q o)) τ := by
  have get : ∀ {j : Nat} {s : Sl} {w : Option W}, (σ.set i (.own q o))[j]? = some s → ∃ s0, σ[j]? = some s0 ∧ (∀ P, SlR S P s0 w → SlR S P s w) ∧ adr s w = adr s0 w := fun {j s w} a => by
    rw [List.getElem?_set] at a
    by_cases e : i = j
    · subst e
      rw [if_pos rfl] at a
      split at a
      · cases a
        refine ⟨_, hs, fun P z => ?_, by cases w with | none => rfl | some w => cases w <;> rfl⟩
        cases z with
        | own a b => exact .own a b
      · cases a
    · rw [if_neg e] at a
      exact ⟨s, a, fun _ z => z, rfl⟩
  have hA : ∀ l, Adr (σ.set i (.own q o)) τ l → Adr σ τ l := fun l ⟨j, s, w, a, b, z⟩ => by
    obtain ⟨s0, a0, _, e⟩ := get (w := w) a
    exact ⟨j, s0, w, a0, b, by rw [← e]; exact z⟩
  have hlt : i < σ.length := (List.getElem?_eq_some_iff.mp hs).1
  refine ⟨by rw [List.length_set]; exact h.len, fun j s w a b => ?_, fun j k s w s' w' l a b a' b' z z' => ?_, fun l z => h.dis l (hA l z), h.bd⟩
  · obtain ⟨s0, a0, m, _⟩ := get (w := w) a
    have g := m _ (h.gt j s0 w a0 b)
    exact g.mono (fun _ _ _ => rfl) (fun l _ y => y.imp id (hA l)) fun _ _ => rfl
  · obtain ⟨s0, a0, _, e⟩ := get (w := w) a
    obtain ⟨s1, a1, _, e1⟩ := get (w := w') a'
    exact h.inj j k s0 w s1 w' l a0 b a1 b' (by rw [← e]; exact z) (by rw [← e1]; exact z')
theorem flag_adr {σ : En} {τ : SF.En} {i : Nat} {p q : Bool} {o : Ow} (hs : σ[i]? = some (.own p o)) {l : Nat} (h : Adr (σ.set i (.own q o)) τ l) : Adr σ τ l := by
  obtain ⟨j, s, w, a, b, z⟩ := h
  rw [List.getElem?_set] at a
  by_cases e : i = j
  · subst e
    rw [if_pos rfl] at a
    split at a
    · cases a
      refine ⟨i, _, w, hs, b, ?_⟩
      rw [← z]
      cases w with
      | none => rfl
      | some w => cases w <;> rfl
    · cases a
  · rw [if_neg e] at a
    exact ⟨j, s, w, a, b, z⟩
theorem mark_of {σ σ2 : En} {i : Nat} {p : Bool} (e : mark i p σ = some σ2) : ∃ o, σ[i]? = some (.own true o) ∧ σ2 = σ.set i (.own p o) := by
  unfold mark at e
  split at e
  · rename_i o h
    cases e
    exact ⟨o, h, rfl⟩
  · cases e
theorem mark_po {S : Sg} {F : Nat → Prop} {σ : En} {τ : SF.En} {i : Nat} {p : Bool} {o : Ow} {S1 : Sg} {σ1 σ2 : En} {τ1 : SF.En} (hs : σ[i]? = some (.own p o)) (h : Po S F (σ.set i (.own true o)) τ S1 σ1 τ1) (e : mark i p σ1 = some σ2) : Po S F σ τ S1 σ2 τ1 := by
  obtain ⟨o1, h1, rfl⟩ := mark_of e
  have hlt : i < σ.length := (List.getElem?_eq_some_iff.mp hs).1
  have hlt1 : i < σ1.length := (List.getElem?_eq_some_iff.mp h1).1
  refine ⟨fun l a b => h.fr l a fun z => b (flag_adr hs z), h.len, h.er.flag h1, fun l a z => flag_adr hs (h.sub l a (flag_adr h1 z)), fun j ⟨u, z⟩ => ?_, h.ln⟩
  rw [List.getElem?_set] at z
  by_cases ej : i = j
  · subst ej
    rw [if_pos rfl, if_pos hlt1] at z
    cases z
    exact ⟨⟨_, hs⟩, (h.io i ⟨_, h1⟩).2⟩
  · rw [if_neg ej] at z
    obtain ⟨⟨u2, y⟩, t⟩ := h.io j ⟨u, z⟩
    rw [List.getElem?_set, if_neg ej] at y
    exact ⟨⟨u2, y⟩, t⟩
theorem mark_sim {S : Sg} {F : Nat → Prop} {σ : En} {τ : SF.En} {i : Nat} {p : Bool} {o : Ow} {r : R Fl} {q : SF.RS} (hs : σ[i]? = some (.own p o)) (h : SimS S F (σ.set i (.own true o)) τ r q) : SimS S F σ τ (r.mrk i p) q := by
  cases r with
  | st => trivial
  | ex x σ1 =>
    simp only [R.mrk]
    refine SimS.ofO fun σ2 e => ?_
    obtain ⟨y, τ1, S1, a, b, c⟩ := h
    refine ⟨y, τ1, S1, a, mark_po hs b e, c.cls, ?_⟩
    obtain ⟨o1, h1, rfl⟩ := mark_of e
    exact c.fs.mono (fun _ _ _ => rfl) fun l _ z => z.imp id fun z => flag_adr h1 z
  | ok f σ1 =>
    simp only [R.mrk]
    refine SimS.ofO fun σ2 e => ?_
    cases f with
    | nx => obtain ⟨a, b, e1, z⟩ := h; exact ⟨a, b, e1, mark_po hs z e⟩
    | bk => obtain ⟨a, b, e1, z⟩ := h; exact ⟨a, b, e1, mark_po hs z e⟩
    | ct => obtain ⟨a, b, e1, z⟩ := h; exact ⟨a, b, e1, mark_po hs z e⟩
    | rt r =>
      obtain ⟨w, a, b, e1, z, y, n⟩ := h
      refine ⟨w, a, b, e1, mark_po hs z e, ?_, fun l q1 q2 => flag_adr hs (n l q1 q2)⟩
      obtain ⟨o1, h1, rfl⟩ := mark_of e
      have := y.flag (i := i + 1) (q := p) (by simpa using h1)
      simpa using this
theorem fo_at {S : Sg} {F : Nat → Prop} {σ : En} {τ : SF.En} {i l : Nat} {en : Bool} (j : Nat) (h : ER S F σ τ) (hl : Flag σ i → τ[i]? = some (some (.ref l))) {vs : List V} (e : slotL σ i = some (true, vs)) :
    ∃ ws, (if en then SF.Src.enm (.lis l) else .lis l).at j S = some ((ws[j]?).map fun w => if en then .tup [.int j, w] else w) ∧ Fzs S (Own F σ τ) vs ws := by
  have hs := slotL_of e
  obtain ⟨l', u, h1, h2, h3⟩ := own_at h hs
  rw [hl ⟨_, hs⟩] at h1
  cases h1
  cases h3 with
  | l g =>
    rename_i ws
    refine ⟨ws, ?_, g⟩
    have hla : SF.listAt S l = some ws := by simp only [SF.listAt, h2]
    cases en with
    | true => simp only [if_true, SF.Src.at, hla, Option.map_some]
    | false =>
      simp only [Bool.false_eq_true, if_false, SF.Src.at, hla, Option.map_some]
      cases ws[j]? <;> rfl
theorem fo_sim {F : Nat → Prop} {turn : V → En → R Fl} {turn' : W → SF.En → Sg → SF.RS} {i l : Nat} {en : Bool}
    (ht : ∀ (S : Sg) (σ : En) (τ : SF.En) (v : V) (w : W), ER S F σ τ → Fz S (Own F σ τ) v w → SimS S F σ τ (turn v σ) (turn' w τ S)) :
    ∀ (k j : Nat) (S : Sg) (σ : En) (τ : SF.En), ER S F σ τ → (Flag σ i → τ[i]? = some (some (.ref l))) → SimS S F σ τ (foGo i en turn k j σ) (SF.forGo (if en then .enm (.lis l) else .lis l) turn' k j τ S)
  | 0, j, S, σ, τ, h, hl => by
    simp only [foGo, SF.forGo]
    split
    · rename_i vs e
      obtain ⟨ws, a, g⟩ := fo_at (en := en) j h hl e
      split
      · rename_i e0
        rw [a, g.none e0]
        exact ⟨τ, S, rfl, .refl h⟩
      · trivial
    · trivial
  | k + 1, j, S, σ, τ, h, hl => by
    simp only [foGo, SF.forGo]
    split
    · rename_i vs e
      obtain ⟨ws, a, g⟩ := fo_at (en := en) j h hl e
      split
      · rename_i v e0
        obtain ⟨w, e1, fz⟩ := g.get e0
        rw [a, e1]
        simp only [Option.map_some]
        have b := ht S σ τ (if en then .tup [.int j, v] else v) (if en then .tup [.int j, w] else w) h (by
          cases en with
          | true => exact .tup (.cons (.int _) (.cons fz .nil))
          | false => exact fz)
        revert b
        generalize turn (if en then .tup [.int j, v] else v) σ = r
        intro b
        have next : ∀ (σ1 : En) (τ1 : SF.En) (S1 : Sg), Po S F σ τ S1 σ1 τ1 → SimS S F σ τ (foGo i en turn k (j + 1) σ1) (SF.forGo (if en then .enm (.lis l) else .lis l) turn' k (j + 1) τ1 S1) := fun σ1 τ1 S1 p =>
          (fo_sim ht k (j + 1) S1 σ1 τ1 p.er fun f => by have z := p.io i f; rw [z.2]; exact hl z.1).from p
        cases r with
        | ok f σ1 =>
          cases f with
          | nx => obtain ⟨τ1, S1, e, p⟩ := b; simp only [e]; exact next _ _ _ p
          | ct => obtain ⟨τ1, S1, e, p⟩ := b; simp only [e]; exact next _ _ _ p
          | bk => obtain ⟨τ1, S1, e, p⟩ := b; simp only [e]; exact ⟨τ1, S1, rfl, p⟩
          | rt r => obtain ⟨w, S1, τ1, e, p⟩ := b; simp only [e]; exact ⟨w, S1, τ1, rfl, p⟩
        | ex x σ1 => obtain ⟨y, τ1, S1, e, p⟩ := b; simp only [e]; exact ⟨y, τ1, S1, rfl, p⟩
        | st => trivial
      · trivial
    · trivial
theorem exS_sim (hc : CS c d) : ∀ (s : St) {S : Sg} {F : Nat → Prop} {σ : En} {τ : SF.En}, ER S F σ τ → SimS S F σ τ (exS c s σ) (SF.exS d (cmpS s) τ S)
  | .asg tg e, S, F, σ, τ, h => by
    simp only [exS, cmpS, SF.exS]
    refine (ev_sim hc e h).go fun S1 σ1 r w k1 => SimS.ofO fun v e1 => SimS.ofO fun σ2 e2 => ?_
    obtain ⟨S2, τ2, a1, a2⟩ := asg_sim tg k1.po.er (k1.fz e1) e2
    rw [a1]
    exact ⟨τ2, S2, rfl, k1.po.trans a2.1⟩
  | .aso i e, S, F, σ, τ, h => by
    simp only [exS, cmpS, SF.exS]
    refine (ev_sim hc e h).go fun S1 σ1 r w k1 => ?_
    split
    · rename_i hr
      refine SimS.ofO fun σ2 e2 => ?_
      simp only [cmpTg, SF.asgT]
      exact ⟨_, S1, rfl, aso_sim k1 hr e2⟩
    · trivial
  | .frz i, S, F, σ, τ, h => by
    simp only [exS, cmpS, SF.exS]
    refine SimS.ofO fun s e1 => SimS.ofO fun v e2 => ?_
    exact ⟨τ, S, rfl, frz_sim h e1 e2⟩
  | .app i e, S, F, σ, τ, h => by
    simp only [exS, cmpS, SF.exS, SF.ev, SF.evs, fin_bind]
    refine SimS.ofO fun z0 e0 => ?_
    obtain ⟨l, u, ht, hu, g⟩ := own_at h (slotL_of e0)
    cases g with
    | @l _ ws0 g =>
      rw [ht]
      have hm : SF.meTy .append (.ref l) S = true := by simp only [SF.meTy, hu]
      simp only [SF.R.bind_ok, hm, if_true, fin_bind]
      have kk : SimS S F σ τ ((ev c e σ).bind fun r σ => ofO r.frz fun v => ofO (slotL σ i) fun z => if z.2.length < lenMax then .ok .nx (σ.set i (.own z.1 (.l (z.2 ++ [v])))) else .st)
          (((SF.ev d (cmpX e) τ S).bind fun w S => (SF.meW .append (.ref l) [w] S).np).go τ fun _ S => .ok (.nx τ) S) := by
        have q := ev_sim hc e h
        revert q
        generalize ev c e σ = r
        intro q
        cases r with
        | st => trivial
        | ex x σ1 => obtain ⟨y, S1, e1, p1, p2⟩ := q; rw [e1]; exact ⟨y, τ, S1, rfl, p1, p2⟩
        | ok r σ1 =>
          obtain ⟨w, S1, e1, k1⟩ := q
          rw [e1]
          simp only [R.bind_ok, SF.R.bind_ok]
          refine SimS.ofO fun v e2 => SimS.ofO fun z e3 => ?_
          obtain ⟨l2, u2, ht2, hu2, g2⟩ := own_at k1.po.er (slotL_of e3)
          rw [ht] at ht2; cases ht2
          cases g2 with
          | @l _ ws g2 =>
            split
            · rename_i hl
              rw [g2.length] at hl
              have : SF.meW .append (.ref l) [w] S1 = .ok .non (S1.set l (.lst (ws ++ [w]))) := by
                show SF.meAppend (.ref l) [w] S1 = _
                simp only [SF.meAppend, hu2, if_pos hl]
              rw [this]
              exact ⟨τ, _, rfl, k1.po.trans (k1.po.er.mut (slotL_of e3) ht (.l (g2.append (.cons (k1.fz e2) .nil))))⟩
            · trivial
      exact kk
  | .seti i k e, S, F, σ, τ, h => by
    simp only [exS, cmpS, SF.exS]
    refine (ev_sim hc e h).go fun S1 σ1 r w k1 => SimS.ofO fun v e1 => SimS.ofO fun s0 e0 => ?_
    cases hs0 : isOwned s0 with
    | false => simp only [Bool.false_eq_true, if_false]; trivial
    | true =>
    simp only [if_true]
    -- the key
    have q := (ev_sim hc k k1.po.er)
    revert q
    generalize ev c k σ1 = r2
    intro q
    cases r2 with
    | st => trivial
    | ex x σ2 =>
      -- the name must stand
      simp only [R.bind_ex]
      obtain ⟨y, S2, e2, p1, p2⟩ := q
      cases s0 with
      | no => cases hs0
      | val _ => cases hs0
      | own p o =>
        obtain ⟨l, u, hi, _, _⟩ := own_at k1.po.er e0
        simp only [SF.ev, hi, SF.R.go_ok, e2, SF.R.go_ex]
        exact ⟨y, τ, S2, rfl, k1.po.trans p1, p2⟩
    | ok q2 σ2 =>
      obtain ⟨kw, S2, e2, k2⟩ := q
      simp only [R.bind_ok]
      refine SimS.ofO fun kv e3 => SimS.ofO fun s e4 => SimS.ofO fun s2 e5 => ?_
      cases s with
      | no => cases e5
      | val _ => cases e5
      | own p o =>
        obtain ⟨l, u, ht, hu, g⟩ := own_at k2.po.er e4
        have ht' : τ[i]? = some (some (.ref l)) := ht
        simp only [SF.ev, ht', SF.R.go_ok, e2]
        have pp := k1.po.trans k2.po
        have fv := k2.po.fz (k1.fz e1)
        have fk := k2.fz e3
        cases g with
        | @l vs ws g =>
          simp only [setV] at e5
          split at e5
          · cases fk
            simp only [Option.map_eq_some_iff] at e5
            obtain ⟨n, e5, rfl⟩ := e5
            rw [g.length] at e5
            simp only [SF.setW, hu, e5, SF.R.np_ok, SF.R.go_ok]
            exact ⟨τ, _, rfl, pp.trans (k2.po.er.mut e4 ht (.l (g.set fv n)))⟩
          · cases e5
        | @d kvs qs g =>
          simp only [setV, Option.bind_eq_some_iff] at e5
          obtain ⟨q, e5, e6⟩ := e5
          split at e6
          · rename_i hl
            cases e6
            rw [g.length] at hl
            have hk := fk.ky
            rw [e5] at hk
            have : SF.setW (.ref l) kw w S2 = .ok () (S2.set l (.dic (SF.kvPut qs q w))) := by
              cases kw <;> simp only [SF.setW, hu, hk, if_pos hl] <;> cases hk
            rw [this]
            exact ⟨τ, _, rfl, pp.trans (k2.po.er.mut e4 ht (.d (g.put q fv)))⟩
          · cases e6
        | t g => simp only [setV] at e5; cases e5
  | .aug i sub e, S, F, σ, τ, h => by
    simp only [exS, cmpS, SF.exS]
    split
    · rename_i a hs
      have hlt : i < τ.length := by rw [← h.len]; exact (List.getElem?_eq_some_iff.mp hs).1
      have ht := List.getElem?_eq_getElem hlt
      have q := h.gt i _ _ hs ht
      generalize τ[i] = o' at ht q
      cases q with
      | val g =>
        cases g
        rw [ht]
        simp only
        refine (ev_sim hc e h).go fun S1 σ1 r w k1 => ?_
        split
        · rename_i b
          have f := k1.fz (v := .int b) rfl
          cases f
          simp only
          refine SimS.ofO fun σ2 e2 => ?_
          exact ⟨_, S1, rfl, k1.po.trans (sto_po k1.po.er (.int _) e2).1⟩
        · trivial
    · trivial
  | .par sw ts es, S, F, σ, τ, h => by
    simp only [exS, cmpS]
    split
    · rename_i hn
      obtain ⟨hn1, hn3, hn2⟩ := hn
      have k := evP_sim hc es h
      have hm : (es.map fun z => cmpX z.2).length = es.length := List.length_map _
      generalize (es.map fun z => cmpX z.2) = xs at k hm
      have go : ∀ q : SF.RS, q = ((evPW d τ xs S).go τ fun ws S => .ok (.nx ((ts.zip ws).foldl (fun τ z => τ.set z.1 (some z.2)) τ)) S) → SimS S F σ τ ((evP c es σ).bind fun ss σ => ofO (setP ts ss σ) fun σ => .ok .nx σ) q := fun q hq => by
        subst hq
        have k2 : Sim S F σ τ (evP c es σ) (evPW d τ xs S) (fun S' σ' ss ws => KP S F σ τ S' σ' ss ws ∧ ss.length = es.length ∧ ∀ s ∈ ss, ∀ o, s ≠ .own true o) := by
          have hl : ∀ (es : List (Bool × X)) σ ss σ', evP c es σ = .ok ss σ' → ss.length = es.length ∧ ∀ s ∈ ss, ∀ o, s ≠ .own true o := fun es => by
            induction es with
            | nil => intro σ ss σ' e; cases e; exact ⟨rfl, by simp⟩
            | cons z es ih =>
              intro σ ss σ' e
              obtain ⟨o, x⟩ := z
              simp only [evP] at e
              cases h1 : ev c x σ with
              | st => rw [h1] at e; cases e
              | ex _ _ => rw [h1] at e; cases e
              | ok r σ1 =>
                rw [h1] at e
                simp only [R.bind_ok] at e
                cases h2 : pk o r with
                | none => rw [h2] at e; cases e
                | some s =>
                  rw [h2] at e
                  simp only [ofO_some] at e
                  cases h3 : evP c es σ1 with
                  | st => rw [h3] at e; cases e
                  | ex _ _ => rw [h3] at e; cases e
                  | ok ss2 σ2 =>
                    rw [h3] at e
                    simp only [R.bind_ok] at e
                    cases e
                    obtain ⟨i1, i2⟩ := ih σ1 ss2 _ h3
                    refine ⟨by simp [i1], fun t ht => ?_⟩
                    rcases List.mem_cons.mp ht with rfl | ht
                    · intro u hu
                      subst hu
                      unfold pk at h2
                      cases o with
                      | false => simp at h2
                      | true => cases r <;> simp [isOwned, Sl.un] at h2
                    · exact i2 t ht
          have h0 := hl es σ
          revert k h0
          generalize evP c es σ = r
          intro k h0
          cases r with
          | ok ss σ' => obtain ⟨ws, S', e, z⟩ := k; exact ⟨ws, S', e, z, h0 ss σ' rfl⟩
          | ex x σ' => exact k
          | st => trivial
        refine k2.go fun S' σ' ss ws ⟨⟨b1, b2, b3, b4⟩, b5, b6⟩ => SimS.ofO fun σ2 e2 => ?_
        exact ⟨_, S', rfl, setP_sim ts ss ws b1 (by omega) b3 e2 b6 b4 b2⟩
      cases sw with
      | false =>
        simp only [Bool.false_eq_true, if_false]
        exact go _ (asg_par ts xs (by omega) (by omega))
      | true =>
      simp only [if_true]
      rcases hn2 with hn2 | hn2 | hn2
      · cases hn2
      · obtain ⟨i, j, rfl⟩ : ∃ i j, ts = [i, j] := match ts, (show ts.length = 2 by omega) with | [i, j], _ => ⟨i, j, rfl⟩
        obtain ⟨a, b, rfl⟩ : ∃ a b, xs = [a, b] := match xs, (show xs.length = 2 by omega) with | [i, j], _ => ⟨i, j, rfl⟩
        · refine go _ ?_
          simp only [cmpPar, SF.exS, evPW]
          cases SF.ev d a τ S with
          | ok w S1 =>
            simp only [SF.R.go_ok, SF.R.bind_ok]
            cases SF.ev d b τ S1 <;> rfl
          | ex _ _ => rfl
          | st => rfl
      · obtain ⟨i, j, l, rfl⟩ : ∃ i j l, ts = [i, j, l] := match ts, (show ts.length = 3 by omega) with | [i, j, l], _ => ⟨i, j, l, rfl⟩
        obtain ⟨a, b, e, rfl⟩ : ∃ a b e, xs = [a, b, e] := match xs, (show xs.length = 3 by omega) with | [i, j, l], _ => ⟨i, j, l, rfl⟩
        · refine go _ ?_
          simp only [cmpPar, SF.exS, evPW]
          cases SF.ev d a τ S with
          | ok w S1 =>
            simp only [SF.R.go_ok, SF.R.bind_ok]
            cases SF.ev d b τ S1 with
            | ok w2 S2 =>
              simp only [SF.R.go_ok, SF.R.bind_ok]
              cases SF.ev d e τ S2 <;> rfl
            | ex _ _ => rfl
            | st => rfl
          | ex _ _ => rfl
          | st => rfl
    · trivial
  | .ifs t a b, S, F, σ, τ, h => by
    simp only [exS, cmpS, SF.exS]
    refine (evT_sim hc t h).go fun S1 σ1 k k' ⟨k1, e⟩ => ?_
    subst e
    cases k
    · simp only [Bool.false_eq_true, if_false]; exact (exs_sim hc b k1.er).from k1
    · simp only [if_true]; exact (exs_sim hc a k1.er).from k1
  | .fr tg it b, S, F, σ, τ, h => by
    simp only [exS, cmpS, SF.exS]
    refine (evI_sim hc it h).go fun S1 σ1 src src' ⟨k1, k2⟩ => ?_
    rw [k2.len]
    refine (for_sim (F := F) (fun S σ τ v w h hv => ?_) src.len 0 S1 σ1 τ k1.er k2).from k1
    refine SimS.ofO fun σ2 e2 => ?_
    obtain ⟨S2, τ2, a1, a2⟩ := asg_sim tg h hv e2
    rw [a1]
    exact (exs_sim hc b a2.1.er).from a2.1
  | .wh t b, S, F, σ, τ, h => by
    simp only [exS, cmpS, SF.exS, hc.fuel]
    exact wh_sim (fun S σ τ h => evT_sim hc t h) (fun S σ τ h => exs_sim hc b h) c.fuel S σ τ h
  | .rt e, S, F, σ, τ, h => by
    simp only [exS, cmpS, SF.exS]
    refine (ev_sim hc e h).go fun S1 σ1 r w k1 => SimS.ofO fun v e1 => ?_
    exact ⟨w, S1, τ, rfl, k1.po, k1.po.er.val (k1.fz e1), fun l z => by cases z⟩
  | .rto e, S, F, σ, τ, h => by
    simp only [exS, cmpS, SF.exS]
    have base : SimS S F σ τ ((ev c e σ).bind fun r σ => if isOwned r then .ok (.rt r) σ else .st) ((SF.ev d (cmpX e) τ S).go τ fun w S => .ok (.rt w) S) := by
      refine (ev_sim hc e h).go fun S1 σ1 r w k1 => ?_
      split
      · exact ⟨w, S1, τ, rfl, k1.po, k1.er, k1.nw⟩
      · trivial
    cases e with
    | own i =>
      simp only [evR]
      split
      · rename_i p o hs
        obtain ⟨l, u, ht, hu, g⟩ := own_at h hs
        have q := h.pull (q := false) hs ht
        simp only [R.bind_ok, isOwned, if_true, cmpX, SF.ev, ht, SF.R.go_ok]
        refine ⟨_, S, τ, rfl, ⟨fun _ _ _ => rfl, Nat.le_refl _, q.tail, fun l' _ ⟨j, s, w, a, b, z⟩ => ?_, fun j ⟨w, z⟩ => ?_, rfl⟩, q, fun l' z _ => ?_⟩
        · rw [List.getElem?_set] at a
          split at a
          · split at a
            · cases a; cases z
            · cases a
          · exact ⟨j, s, w, a, b, z⟩
        · rw [List.getElem?_set] at z
          split at z
          · split at z <;> cases z
          · exact ⟨⟨w, z⟩, rfl⟩
        · cases z; exact ⟨i, _, _, hs, ht, rfl⟩
      · trivial
    | _ => exact base
  | .rtN, S, F, σ, τ, h => by
    simp only [exS, cmpS, SF.exS]
    exact ⟨.non, S, τ, rfl, .refl h, h.val .non, fun l z => by cases z⟩
  | .ex e, S, F, σ, τ, h => by
    simp only [exS, cmpS, SF.exS]
    refine (ev_sim hc e h).go fun S1 σ1 r w k1 => ?_
    exact ⟨τ, S1, rfl, k1.po⟩
  | .brk, S, F, σ, τ, h => by simp only [exS, cmpS, SF.exS]; exact ⟨τ, S, rfl, .refl h⟩
  | .cnt, S, F, σ, τ, h => by simp only [exS, cmpS, SF.exS]; exact ⟨τ, S, rfl, .refl h⟩
  | .pas, S, F, σ, τ, h => by simp only [exS, cmpS, SF.exS]; exact ⟨τ, S, rfl, .refl h⟩
  | .bad, S, F, σ, τ, h => by simp only [exS]; trivial
  | .rs m es, S, F, σ, τ, h => by
    simp only [exS, cmpS, SF.exS, hc.dp, hc.kl]
    by_cases hn : 2 ≤ c.dp
    · rw [if_pos hn, if_pos hn]
      refine (evs_sim hc es h).go fun S1 σ1 l ws ⟨k1, k2⟩ => SimS.ofO fun vs e1 => ?_
      have f := k2.fzs e1
      cases c.kl m with
      | none => trivial
      | some k =>
        dsimp only
        by_cases hl : vs.length = k.1
        · rw [if_pos hl, if_pos (f.length ▸ hl)]
          exact ⟨⟨m, ws⟩, τ, S1, rfl, k1, rfl, f⟩
        · rw [if_neg hl]
          trivial
    · rw [if_neg hn]
      trivial
  | .ty b hs, S, F, σ, τ, h => by
    simp only [exS, cmpS, SF.exS, hc.kl]
    have q := exs_sim hc b h
    revert q
    generalize exs c b σ = r
    intro q
    cases r with
    | ok f σ1 =>
      cases f with
      | nx => obtain ⟨τ1, S1, e, p⟩ := q; rw [e]; exact ⟨τ1, S1, rfl, p⟩
      | ct => obtain ⟨τ1, S1, e, p⟩ := q; rw [e]; exact ⟨τ1, S1, rfl, p⟩
      | bk => obtain ⟨τ1, S1, e, p⟩ := q; rw [e]; exact ⟨τ1, S1, rfl, p⟩
      | rt r => obtain ⟨w, S1, τ1, e, p⟩ := q; rw [e]; exact ⟨w, S1, τ1, rfl, p⟩
    | ex x σ1 => obtain ⟨y, τ1, S1, e, p, hx⟩ := q; rw [e]; exact (hds_sim hs p.er hx).from p
    | st => trivial
  | .gb i hh as ks, S, F, σ, τ, h => by
    simp only [exS, cmpS, SF.exS]
    refine (ev_sim hc (.call hh as ks) h).go fun S1 σ1 r w k1 => ?_
    split
    · rename_i v
      have f := k1.fz (v := .tup [v]) rfl
      cases f with
      | tup g =>
        cases g with
        | cons a b =>
          cases b
          simp only [SF.gbW]
          refine SimS.ofO fun σ2 e2 => ?_
          exact ⟨_, S1, rfl, k1.po.trans (sto_po k1.po.er a e2).1⟩
    · have f := k1.fz (v := .non) rfl
      cases f
      simp only [SF.gbW]
      exact ⟨τ, S1, rfl, k1.po⟩
    · trivial
  | .fro en tg i b, S, F, σ, τ, h => by
    simp only [exS, cmpS, SF.exS]
    split
    · rename_i p vs e
      have hs := slotL_of e
      have hs' : σ[i]? = some (.own p (.l vs)) := hs
      obtain ⟨l, u, h1, h2, h3⟩ := own_at h hs'
      cases h3 with
      | l g =>
        rename_i ws
        have hla : SF.listAt S l = some ws := by simp only [SF.listAt, h2]
        have ei : SF.evI d (if en then SF.It.enm (.var i) else .seq (.var i)) τ S = .ok (if en then .enm (.lis l) else .lis l) S := by
          cases en <;> simp only [Bool.false_eq_true, if_false, if_true, SF.evI, SF.ev, h1, SF.R.bind_ok, SF.srcOf, hla, Option.map_some, SF.ofO]
        have el : (if en then SF.Src.enm (.lis l) else .lis l).len S = vs.length := by
          cases en <;> simp only [Bool.false_eq_true, if_false, if_true, SF.Src.len, hla, Option.getD_some, g.length]
        rw [ei]
        simp only [SF.R.go_ok, el]
        refine mark_sim hs' (fo_sim (F := F) (fun S σ τ v w h hv => ?_) vs.length 0 S _ τ (h.flag hs') fun _ => h1)
        refine SimS.ofO fun σ2 e2 => ?_
        obtain ⟨S2, τ2, a1, a2⟩ := asg_sim tg h hv e2
        rw [a1]
        exact (exs_sim hc b a2.1.er).from a2.1
    · trivial
theorem exs_sim (hc : CS c d) : ∀ (ss : Ss) {S : Sg} {F : Nat → Prop} {σ : En} {τ : SF.En}, ER S F σ τ → SimS S F σ τ (exs c ss σ) (SF.exs d (cmpSs ss) τ S)
  | .nil, S, F, σ, τ, h => by simp only [exs, cmpSs, SF.exs]; exact ⟨τ, S, rfl, .refl h⟩
  | .cons s ss, S, F, σ, τ, h => by
    have base : SimS S F σ τ ((exS c s σ).then fun σ => exs c ss σ) ((SF.exS d (cmpS s) τ S).then fun τ S => SF.exs d (cmpSs ss) τ S) := by
      have q := exS_sim hc s h
      revert q
      generalize exS c s σ = r
      intro q
      cases r with
      | ok f σ1 =>
        cases f with
        | nx => obtain ⟨τ1, S1, e, p⟩ := q; rw [e]; exact (exs_sim hc ss p.er).from p
        | ct => obtain ⟨τ1, S1, e, p⟩ := q; rw [e]; exact ⟨τ1, S1, rfl, p⟩
        | bk => obtain ⟨τ1, S1, e, p⟩ := q; rw [e]; exact ⟨τ1, S1, rfl, p⟩
        | rt r => obtain ⟨w, S1, τ1, e, p⟩ := q; rw [e]; exact ⟨w, S1, τ1, rfl, p⟩
      | ex x σ1 => obtain ⟨y, τ1, S1, e, p⟩ := q; rw [e]; exact ⟨y, τ1, S1, rfl, p⟩
      | st => trivial
    cases s with
    | frz i =>
      simp only [exs, exS, cmpSs]
      cases h1 : σ[i]? with
      | none => trivial
      | some s =>
        cases h2 : s.frz with
        | none => simp only [ofO_some, h2]; trivial
        | some v =>
          simp only [ofO_some, h2, R.then_nx]
          have p := frz_sim h h1 h2
          exact (exs_sim hc ss p.er).from p
    | _ => simp only [exs, cmpSs, SF.exs]; exact base
end
end
end EP
set_option Elab.async false
set_option linter.all false
set_option maxRecDepth 100000
set_option maxHeartbeats 4000000
namespace EP
open PySem
open SF (Ky Bo Co Ty Bi Fi Sh lenMax bigOk small62)
open SF (Sg W WO)
section
variable {S S' : Sg} {F F' : Nat → Prop} {σ σ' σ1 : En} {τ τ' : SF.En}
theorem keep_get {σ : En} {np i : Nat} {s : Sl} (h : ((σ.take np).map Sl.keep)[i]? = some s) : (∃ o, s = .own true o ∧ σ[i]? = some (.own true o)) ∨ s = .no := by
  rw [List.getElem?_map, List.getElem?_take] at h
  split at h
  · simp only [Option.map_eq_some_iff] at h
    obtain ⟨a, h1, rfl⟩ := h
    cases a with
    | no => exact .inr rfl
    | val v => exact .inr rfl
    | own p o => cases p <;> first | exact .inr rfl | exact .inl ⟨o, rfl, h1⟩
  · cases h
theorem gls_sim (P : Pg) (hg : ∀ v ∈ P.gls, gr v = true) (g : Nat) (v : V) (e : P.gls[g]? = some v) : (cmpPg P).gls[g]? = some (cvW2 v) ∧ gr v = true := by
  refine ⟨?_, hg v (List.mem_of_getElem? e)⟩
  show (P.gls.map cvW2)[g]? = _
  rw [List.getElem?_map, e]; rfl
/-- a body that runs, and what comes back -/
theorem body_sim {P : Pg} {n : Nat} (hc : CS (cn P n) (SF.cn (cmpPg P) n)) {fn : Fn} {ps : List Sl} {ws : List W} {S : Sg} {F : Nat → Prop} (h : ER S F ps (ws.map some)) (hlen : ps.length = ws.length) (hl : ps.length = fn.np) :
    match (match exs (cn P n) fn.body (ps ++ List.replicate (fn.ns - fn.np) .no) with
        | .ok (.rt r) σ => .ok r ((σ.take fn.np).map Sl.keep)
        | .ok .nx σ => .ok (.val .non) ((σ.take fn.np).map Sl.keep)
        | .ex x _ => .ex x
        | _ => .st : CR) with
      | .ok r outs => ∃ w S', (match SF.exs (SF.cn (cmpPg P) n) (cmpFn fn).body (ws.map some ++ List.replicate ((cmpFn fn).ns - (cmpFn fn).np) none) S with
          | .ok (.rt w) S1 => .ok w S1
          | .ok (.nx _) S1 => .ok .non S1
          | .ex x _ S1 => .ex x S1
          | _ => .st : SF.R W) = .ok w S' ∧ (∀ l, l < S.length → ¬ Adr ps (ws.map some) l → S'[l]? = S[l]?) ∧ S.length ≤ S'.length ∧ ER S' F (r :: outs) (some w :: ws.map some) ∧ ∀ l, l < S.length → Adr (r :: outs) (some w :: ws.map some) l → Adr ps (ws.map some) l
      | .ex x => ∃ y S', (match SF.exs (SF.cn (cmpPg P) n) (cmpFn fn).body (ws.map some ++ List.replicate ((cmpFn fn).ns - (cmpFn fn).np) none) S with
          | .ok (.rt w) S1 => .ok w S1
          | .ok (.nx _) S1 => .ok .non S1
          | .ex x _ S1 => .ex x S1
          | _ => .st : SF.R W) = .ex y S' ∧ (∀ l, l < S.length → ¬ Adr ps (ws.map some) l → S'[l]? = S[l]?) ∧ S.length ≤ S'.length ∧ XR S' F x y
      | .st => True := by
  have e0 : ER S F (ps ++ List.replicate (fn.ns - fn.np) .no) (ws.map some ++ List.replicate ((cmpFn fn).ns - (cmpFn fn).np) none) :=
    h.sub (by simp [hlen, cmpFn]) id (fun i s o a b => by
      by_cases hi : i < ps.length
      · rw [List.getElem?_append_left hi] at a
        rw [List.getElem?_append_left (by simp; omega)] at b
        exact .inr ⟨a, b⟩
      · rw [List.getElem?_append_right (by omega)] at a
        have := List.mem_of_getElem? a
        obtain rfl := List.eq_of_mem_replicate this
        exact .inl ⟨rfl, .no _⟩) (fun _ _ _ _ _ _ _ _ _ _ _ _ e => e)
  have k := exs_sim (c := cn P n) (d := SF.cn (cmpPg P) n) hc fn.body e0
  have sub0 : ∀ l, Adr (ps ++ List.replicate (fn.ns - fn.np) .no) (ws.map some ++ List.replicate ((cmpFn fn).ns - (cmpFn fn).np) none) l → Adr ps (ws.map some) l := fun l ⟨i, s, o, a, b, z⟩ => by
    by_cases hi : i < ps.length
    · rw [List.getElem?_append_left hi] at a
      rw [List.getElem?_append_left (by simp; omega)] at b
      exact ⟨i, s, o, a, b, z⟩
    · rw [List.getElem?_append_right (by omega)] at a
      have := List.mem_of_getElem? a
      obtain rfl := List.eq_of_mem_replicate this
      cases z
  -- what comes back
  have fin : ∀ {r : Sl} {w : W} {S1 : Sg} {σ1 : En} {τ1 : SF.En}, Po S F (ps ++ List.replicate (fn.ns - fn.np) .no) (ws.map some ++ List.replicate ((cmpFn fn).ns - (cmpFn fn).np) none) S1 σ1 τ1 → ER S1 F (r :: σ1) (some w :: τ1) →
      (∀ l, adr r (some w) = some l → l < S.length → Adr (ps ++ List.replicate (fn.ns - fn.np) .no) (ws.map some ++ List.replicate ((cmpFn fn).ns - (cmpFn fn).np) none) l) →
      (∀ l, l < S.length → ¬ Adr ps (ws.map some) l → S1[l]? = S[l]?) ∧ S.length ≤ S1.length ∧ ER S1 F (r :: (σ1.take fn.np).map Sl.keep) (some w :: ws.map some) ∧ ∀ l, l < S.length → Adr (r :: (σ1.take fn.np).map Sl.keep) (some w :: ws.map some) l → Adr ps (ws.map some) l := fun {r w S1 σ1 τ1} po er nw => by
    have back : ∀ {i : Nat} {o : Ow} {u : Option W}, σ1[i]? = some (.own true o) → (ws.map some)[i]? = some u → τ1[i]? = some u := fun {i o u} a b => by
      have := (po.io i ⟨o, a⟩).2
      rw [this, List.getElem?_append_left (List.getElem?_eq_some_iff.mp b).1]
      exact b
    have hl1 : σ1.length = (ws.map some).length + (fn.ns - fn.np) := by
      rw [po.er.len, po.ln]; simp [cmpFn]
    have hlk : ((σ1.take fn.np).map Sl.keep).length = ws.length := by
      rw [List.length_map, List.length_take, hl1, List.length_map]
      omega
    refine ⟨fun l q1 q2 => po.fr l q1 fun z => q2 (sub0 l z), po.len, ?_, fun l q1 z => ?_⟩
    · refine er.sub (by simp only [List.length_cons, hlk, List.length_map]) id (fun i s o a b => ?_) (fun _ _ _ _ _ _ _ _ _ _ _ _ e => e)
      cases i with
      | zero => exact .inr ⟨a, b⟩
      | succ i =>
        simp only [List.getElem?_cons_succ] at a b
        rcases keep_get a with ⟨u, rfl, a'⟩ | rfl
        · exact .inr ⟨by simpa using a', by simpa using back a' b⟩
        · exact .inl ⟨rfl, .no _⟩
    · rcases adr_cons.mp z with z | ⟨i, s, o, a, b, z⟩
      · exact sub0 l (nw l z q1)
      · rcases keep_get a with ⟨u, rfl, a'⟩ | rfl
        · exact sub0 l (po.sub l q1 ⟨i, _, o, a', back a' b, z⟩)
        · cases z
  revert k
  show SimS _ _ _ _ (exs (cn P n) fn.body _) (SF.exs (SF.cn (cmpPg P) n) (cmpSs fn.body) _ _) → _
  simp only [show (cmpFn fn).body = cmpSs fn.body from rfl]
  generalize exs (cn P n) fn.body _ = r
  generalize SF.exs (SF.cn (cmpPg P) n) (cmpSs fn.body) _ _ = q
  intro k
  cases r with
  | ok fl σ1 =>
    cases fl with
    | nx =>
      obtain ⟨τ1, S1, e, p⟩ := k
      subst e
      obtain ⟨a1, a2, a3, a4⟩ := fin p (p.er.val (v := .non) (w := .non) .non) (fun l z => by cases z)
      exact ⟨.non, S1, rfl, a1, a2, a3, a4⟩
    | rt r =>
      obtain ⟨w, S1, τ1, e, p, e2, nw⟩ := k
      subst e
      obtain ⟨a1, a2, a3, a4⟩ := fin p e2 nw
      exact ⟨w, S1, rfl, a1, a2, a3, a4⟩
    | bk => trivial
    | ct => trivial
  | ex x σ1 =>
    obtain ⟨y, τ1, S1, e, p, k2⟩ := k
    subst e
    exact ⟨y, S1, rfl, fun l q1 q2 => p.fr l q1 fun z => q2 (sub0 l z), p.len, ⟨k2.cls, k2.fs.mono (fun _ _ _ => rfl) fun _ _ z => .inl z⟩⟩
  | st => trivial
/-- .. of an __init__: all that is handed in is a value -/
theorem init_sim {P : Pg} {n : Nat} (hc : CS (cn P n) (SF.cn (cmpPg P) n)) {fn : Fn} {ps : List Sl} {ws : List W} {S : Sg} {F : Nat → Prop} (h : ER S F ps (ws.map some)) (hlen : ps.length = ws.length) (hl : ps.length = fn.np) (hv : ps.all Sl.isVal = true) :
    match (match exs (cn P n) fn.body (.no :: (ps ++ List.replicate (fn.ns - fn.np - 1) .no)) with
        | .ok (.rt r) σ => .ok r (ps.map fun _ => .no)
        | .ok .nx σ => .ok (.val .non) (ps.map fun _ => .no)
        | .ex x _ => .ex x
        | _ => .st : CR) with
      | .ok r outs => ∃ w S', (match SF.exs (SF.cn (cmpPg P) n) (cmpFn fn).body (none :: (ws.map some ++ List.replicate ((cmpFn fn).ns - (cmpFn fn).np - 1) none)) S with
          | .ok (.rt w) S1 => .ok w S1
          | .ok (.nx _) S1 => .ok .non S1
          | .ex x _ S1 => .ex x S1
          | _ => .st : SF.R W) = .ok w S' ∧ (∀ l, l < S.length → ¬ Adr ps (ws.map some) l → S'[l]? = S[l]?) ∧ S.length ≤ S'.length ∧ ER S' F (r :: outs) (some w :: ws.map some) ∧ ∀ l, l < S.length → Adr (r :: outs) (some w :: ws.map some) l → Adr ps (ws.map some) l
      | .ex x => ∃ y S', (match SF.exs (SF.cn (cmpPg P) n) (cmpFn fn).body (none :: (ws.map some ++ List.replicate ((cmpFn fn).ns - (cmpFn fn).np - 1) none)) S with
          | .ok (.rt w) S1 => .ok w S1
          | .ok (.nx _) S1 => .ok .non S1
          | .ex x _ S1 => .ex x S1
          | _ => .st : SF.R W) = .ex y S' ∧ (∀ l, l < S.length → ¬ Adr ps (ws.map some) l → S'[l]? = S[l]?) ∧ S.length ≤ S'.length ∧ XR S' F x y
      | .st => True := by
  have nps : ∀ l, ¬ Adr (.no :: (ps ++ List.replicate (fn.ns - fn.np - 1) .no)) (none :: (ws.map some ++ List.replicate ((cmpFn fn).ns - (cmpFn fn).np - 1) none)) l := fun l ⟨i, s, o, a, b, z⟩ => by
    cases i with
    | zero => simp at a; subst a; cases z
    | succ i =>
      rw [List.getElem?_cons_succ] at a
      by_cases hi : i < ps.length
      · rw [List.getElem?_append_left hi] at a
        have q := List.all_eq_true.mp hv s (List.mem_of_getElem? a)
        cases s with
        | val v => cases z
        | no => cases q
        | own _ _ => cases q
      · rw [List.getElem?_append_right (by omega)] at a
        have := List.mem_of_getElem? a
        obtain rfl := List.eq_of_mem_replicate this
        cases z
  have e0 : ER S F (.no :: (ps ++ List.replicate (fn.ns - fn.np - 1) .no)) (none :: (ws.map some ++ List.replicate ((cmpFn fn).ns - (cmpFn fn).np - 1) none)) :=
    h.sub (by simp [hlen, cmpFn]) (fun i => i - 1) (fun i s o a b => by
      cases i with
      | zero => simp at a b; subst a b; exact .inl ⟨rfl, .no _⟩
      | succ i =>
        rw [List.getElem?_cons_succ] at a b
        by_cases hi : i < ps.length
        · rw [List.getElem?_append_left hi] at a
          rw [List.getElem?_append_left (by simp; omega)] at b
          exact .inr ⟨a, b⟩
        · rw [List.getElem?_append_right (by omega)] at a
          have := List.mem_of_getElem? a
          obtain rfl := List.eq_of_mem_replicate this
          exact .inl ⟨rfl, .no _⟩) (fun i j s o s' o' a b _ _ z _ _ => by
      exfalso
      cases hz : adr s o with
      | none => exact z hz
      | some l => exact nps l ⟨i, s, o, a, b, hz⟩)
  have k := exs_sim (c := cn P n) (d := SF.cn (cmpPg P) n) hc fn.body e0
  have fin : ∀ {r : Sl} {w : W} {S1 : Sg} {σ1 : En} {τ1 : SF.En}, Po S F (.no :: (ps ++ List.replicate (fn.ns - fn.np - 1) .no)) (none :: (ws.map some ++ List.replicate ((cmpFn fn).ns - (cmpFn fn).np - 1) none)) S1 σ1 τ1 → ER S1 F (r :: σ1) (some w :: τ1) →
      (∀ l, adr r (some w) = some l → l < S.length → Adr (.no :: (ps ++ List.replicate (fn.ns - fn.np - 1) .no)) (none :: (ws.map some ++ List.replicate ((cmpFn fn).ns - (cmpFn fn).np - 1) none)) l) →
      (∀ l, l < S.length → ¬ Adr ps (ws.map some) l → S1[l]? = S[l]?) ∧ S.length ≤ S1.length ∧ ER S1 F (r :: ps.map fun _ => .no) (some w :: ws.map some) ∧ ∀ l, l < S.length → Adr (r :: ps.map fun _ => .no) (some w :: ws.map some) l → Adr ps (ws.map some) l := fun {r w S1 σ1 τ1} po er nw => by
    refine ⟨fun l q1 _ => po.fr l q1 (nps l), po.len, ?_, fun l q1 z => ?_⟩
    · refine er.sub (by simp [hlen]) id (fun i s o a b => ?_) (fun _ _ _ _ _ _ _ _ _ _ _ _ e => e)
      cases i with
      | zero => exact .inr ⟨a, b⟩
      | succ i =>
        rw [List.getElem?_cons_succ, List.getElem?_map] at a
        obtain ⟨_, _, rfl⟩ := Option.map_eq_some_iff.mp a
        exact .inl ⟨rfl, .no _⟩
    · rcases adr_cons.mp z with z | ⟨i, s, o, a, b, z⟩
      · exact absurd (nw l z q1) (nps l)
      · rw [List.getElem?_map] at a
        obtain ⟨_, _, rfl⟩ := Option.map_eq_some_iff.mp a
        cases z
  revert k
  simp only [show (cmpFn fn).body = cmpSs fn.body from rfl]
  generalize exs (cn P n) fn.body _ = r
  generalize SF.exs (SF.cn (cmpPg P) n) (cmpSs fn.body) _ _ = q
  intro k
  cases r with
  | ok fl σ1 =>
    cases fl with
    | nx =>
      obtain ⟨τ1, S1, e, p⟩ := k
      subst e
      obtain ⟨a1, a2, a3, a4⟩ := fin p (p.er.val (v := .non) (w := .non) .non) (fun l z => by cases z)
      exact ⟨.non, S1, rfl, a1, a2, a3, a4⟩
    | rt r =>
      obtain ⟨w, S1, τ1, e, p, e2, nw⟩ := k
      subst e
      obtain ⟨a1, a2, a3, a4⟩ := fin p e2 nw
      exact ⟨w, S1, rfl, a1, a2, a3, a4⟩
    | bk => trivial
    | ct => trivial
  | ex x σ1 =>
    obtain ⟨y, τ1, S1, e, p, k2⟩ := k
    subst e
    exact ⟨y, S1, rfl, fun l q1 _ => p.fr l q1 (nps l), p.len, ⟨k2.cls, k2.fs.mono (fun _ _ _ => rfl) fun _ _ z => .inl z⟩⟩
  | st => trivial
theorem run_sim (P : Pg) (hg : ∀ v ∈ P.gls, gr v = true) : ∀ n, CS (cn P n) (SF.cn (cmpPg P) n) := by
  intro n
  induction n using Nat.strongRecOn with
  | _ n ih =>
  match n, ih with
  | 0, _ => exact ⟨gls_sim P hg, fun h => rfl, rfl, rfl, rfl, fun f ps ws S F h => trivial⟩
  | n + 1, ih =>
    refine ⟨gls_sim P hg, fun h => rfl, rfl, rfl, rfl, fun f ps ws S F h => ?_⟩
    show match runF P (n + 1) f ps with
      | .ok r outs => ∃ w S', SF.runF (cmpPg P) (n + 1) f ws S = .ok w S' ∧ _
      | .ex x => ∃ y S', SF.runF (cmpPg P) (n + 1) f ws S = .ex y S' ∧ _
      | .st => True
    simp only [runF, SF.runF]
    cases hf : P.fns[f]? with
    | none => trivial
    | some fn =>
      have hf2 : (cmpPg P).fns[f]? = some (cmpFn fn) := by
        show (P.fns.map cmpFn)[f]? = _
        rw [List.getElem?_map, hf]; rfl
      have hlen : ps.length = ws.length := by have := h.len; simpa using this
      have hkd : (cmpFn fn).kd = fn.kd := rfl
      simp only [hf2, hkd]
      by_cases hl : ps.length = fn.np
      · rw [if_pos hl]
        have hl2 : ws.length = (cmpFn fn).np := hlen ▸ hl
        rw [if_pos hl2]
        match fn.kd with
        | 0 => exact body_sim (ih n (Nat.lt_succ_self n)) h hlen hl
        | 1 =>
          match n, ih with
          | 0, _ => trivial
          | 1, _ => trivial
          | m + 2, ih => exact body_sim (ih m (by omega)) h hlen hl
        | k + 2 =>
          match n, ih with
          | 0, _ => trivial
          | m + 1, ih =>
            simp only
            by_cases hv : ps.all Sl.isVal = true
            · rw [if_pos hv]; exact init_sim (ih m (by omega)) h hlen hl hv
            · rw [if_neg hv]; trivial
      · rw [if_neg hl]; trivial
theorem ints_fz (S : Sg) (P : Nat → Prop) : ∀ ns : List Int, Fzs S P (ns.map V.int) (ns.map W.int)
  | [] => .nil
  | n :: ns => .cons (.int n) (ints_fz S P ns)
/-- the whole law -/
theorem plain_of (P : Pg) (hg : P.gls.all gr = true) {n f : Nat} {ns : List Int} {outs : List Sl} (h : runF P n f [.val (.ro (ns.map .int))] = .ok (.val (.bl true)) outs) : ∃ S', SF.runF (cmpPg P) n f [.ref 0] [.ro (ns.map .int)] = .ok (.bl true) S' := by
  have e : ER [WO.ro (ns.map .int)] (fun _ => False) [.val (.ro (ns.map .int))] ([.ref 0].map some) := by
    have hn : ∀ l, ¬ Adr [.val (.ro (ns.map .int))] ([W.ref 0].map some) l := fun l z => by
      rcases adr_cons.mp z with z | z
      · cases z
      · exact adr_nil z
    refine ⟨rfl, fun i s o a b => ?_, fun i j s o s' o' l a b _ _ z => (hn l ⟨i, s, o, a, b, z⟩).elim, fun l z => (hn l z).elim, fun l z => z.elim⟩
    cases i with
    | zero =>
      simp at a b; subst a b
      exact .val (.ro (fun z => z.elim id (hn 0)) rfl (ints_fz _ _ ns))
    | succ i => simp at a
  have k := (run_sim P (fun v hv => List.all_eq_true.mp hg v hv) n).cl f [.val (.ro (ns.map .int))] [.ref 0] [.ro (ns.map .int)] (fun _ => False) e
  have h' : (cn P n).cl f [.val (.ro (ns.map .int))] = .ok (.val (.bl true)) outs := h
  rw [h'] at k
  obtain ⟨w, S', k1, _, _, k2, _⟩ := k
  have f1 := k2.head (v := .bl true) rfl
  cases f1
  exact ⟨S', k1⟩
end
end EP
set_option Elab.async false
set_option linter.all false
set_option maxRecDepth 100000
set_option maxHeartbeats 4000000
namespace EP
open PySem
open SF (Ky Bo Co Ty Bi Fi Sh lenMax bigOk small62)
/-! # Plain laws over pure values: what runs through -/
def Ok {α : Type} (r : R α) (Q : α → En → Prop) : Prop := match r with
  | .ok a σ => Q a σ
  | _ => False
def OkC (r : CR) (Q : Sl → List Sl → Prop) : Prop := match r with
  | .ok a os => Q a os
  | _ => False
def OkO {α : Type} (o : Option α) (Q : α → Prop) : Prop := match o with
  | some a => Q a
  | none => False
section
variable {α β : Type}
theorem ok_ok (a : α) (σ : En) (Q : α → En → Prop) : Ok (.ok a σ) Q = Q a σ := rfl
theorem ok_bind (r : R α) (f : α → En → R β) (Q : β → En → Prop) : Ok (r.bind f) Q = Ok r fun a σ => Ok (f a σ) Q := by cases r <;> rfl
theorem ok_ofO (o : Option α) (f : α → R β) (Q : β → En → Prop) : Ok (ofO o f) Q = OkO o fun a => Ok (f a) Q := by cases o <;> rfl
theorem ok_ite (b : Prop) [Decidable b] (r t : R α) (Q : α → En → Prop) : Ok (if b then r else t) Q = if b then Ok r Q else Ok t Q := by split <;> rfl
theorem ok_ifst (b : Prop) [Decidable b] (r : R α) (Q : α → En → Prop) : Ok (if b then r else .st) Q = (b ∧ Ok r Q) := by
  split
  · rename_i h; simp [h]
  · rename_i h; simp [h, Ok]
theorem oko_some (a : α) (Q : α → Prop) : OkO (some a) Q = Q a := rfl
theorem oko_none (Q : α → Prop) : OkO none Q = False := rfl
theorem oko_bind (o : Option α) (f : α → Option β) (Q : β → Prop) : OkO (o.bind f) Q = OkO o fun a => OkO (f a) Q := by cases o <;> rfl
theorem oko_map (o : Option α) (f : α → β) (Q : β → Prop) : OkO (o.map f) Q = OkO o fun a => Q (f a) := by cases o <;> rfl
theorem oko_if (b : Prop) [Decidable b] (o : Option α) (Q : α → Prop) : OkO (if b then o else none) Q = (b ∧ OkO o Q) := by
  split
  · rename_i h; simp [h]
  · rename_i h; simp [h, OkO]
theorem Ok.imp {r : R α} {Q Q' : α → En → Prop} (h : Ok r Q) (i : ∀ a σ, Q a σ → Q' a σ) : Ok r Q' := by
  cases r with
  | ok a σ => exact i _ _ h
  | ex _ _ => exact h
  | st => exact h
theorem OkC.imp {r : CR} {Q Q' : Sl → List Sl → Prop} (h : OkC r Q) (i : ∀ a σ, Q a σ → Q' a σ) : OkC r Q' := by
  cases r with
  | ok a σ => exact i _ _ h
  | ex _ => exact h
  | st => exact h
theorem OkC.ex {r : CR} {Q : Sl → List Sl → Prop} (h : OkC r Q) : ∃ a os, r = .ok a os ∧ Q a os := by
  cases r with
  | ok a os => exact ⟨a, os, rfl, h⟩
  | ex _ => exact h.elim
  | st => exact h.elim
theorem okc_eq {r : CR} {a : Sl} {os : List Sl} {Q : Sl → List Sl → Prop} (e : r = .ok a os) : OkC r Q = Q a os := by rw [e]; rfl
theorem okc_of {r : CR} {a : Sl} {os : List Sl} (h : OkC r fun x y => x = a ∧ y = os) : r = .ok a os := by
  obtain ⟨x, y, e, rfl, rfl⟩ := h.ex
  exact e
end
/-- what a statement's end asks of a function -/
def RF (np : Nat) (Q : Sl → List Sl → Prop) (fl : Fl) (σ : En) : Prop := match fl with
  | .rt r => Q r ((σ.take np).map Sl.keep)
  | .nx => Q (.val .non) ((σ.take np).map Sl.keep)
  | _ => False
theorem rf_rt (np : Nat) (Q : Sl → List Sl → Prop) (r : Sl) (σ : En) : RF np Q (.rt r) σ = Q r ((σ.take np).map Sl.keep) := rfl
theorem rf_nx (np : Nat) (Q : Sl → List Sl → Prop) (σ : En) : RF np Q .nx σ = Q (.val .non) ((σ.take np).map Sl.keep) := rfl
theorem run_ok {P : Pg} {n i : Nat} {fn : Fn} {ps : List Sl} {Q : Sl → List Sl → Prop} (hf : P.fns[i]? = some fn) (hl : ps.length = fn.np)
    (h : Ok (exs (cn P n) fn.body (ps ++ List.replicate (fn.ns - fn.np) .no)) (RF fn.np Q)) (hk : fn.kd = 0 := by rfl) : OkC (runF P (n + 1) i ps) Q := by
  simp only [runF, hf, hl, if_true, hk]
  revert h
  generalize exs (cn P n) fn.body _ = r
  intro h
  match r, h with
  | .ok .nx σ, h => exact h
  | .ok (.rt w) σ, h => exact h
  | .ok .bk σ, h => exact h.elim
  | .ok .ct σ, h => exact h.elim
  | .ex x σ, h => exact h.elim
  | .st, h => exact h.elim
theorem run_ok1 {P : Pg} {n i : Nat} {fn : Fn} {ps : List Sl} {Q : Sl → List Sl → Prop} (hf : P.fns[i]? = some fn) (hl : ps.length = fn.np)
    (h : Ok (exs (cn P n) fn.body (ps ++ List.replicate (fn.ns - fn.np) .no)) (RF fn.np Q)) (hk : fn.kd = 1 := by rfl) : OkC (runF P (n + 3) i ps) Q := by
  simp only [runF, hf, hl, if_true, hk]
  revert h
  generalize exs (cn P n) fn.body _ = r
  intro h
  match r, h with
  | .ok .nx σ, h => exact h
  | .ok (.rt w) σ, h => exact h
  | .ok .bk σ, h => exact h.elim
  | .ok .ct σ, h => exact h.elim
  | .ex x σ, h => exact h.elim
  | .st, h => exact h.elim
/-- .. of an __init__ -/
def RFI (ps : List Sl) (Q : Sl → List Sl → Prop) (fl : Fl) (σ : En) : Prop := match fl with
  | .rt r => Q r (ps.map fun _ => .no)
  | .nx => Q (.val .non) (ps.map fun _ => .no)
  | _ => False
theorem rfi_rt (ps : List Sl) (Q : Sl → List Sl → Prop) (r : Sl) (σ : En) : RFI ps Q (.rt r) σ = Q r (ps.map fun _ => .no) := rfl
theorem run_ok2 {P : Pg} {n i : Nat} {fn : Fn} {ps : List Sl} {Q : Sl → List Sl → Prop} (hf : P.fns[i]? = some fn) (hl : ps.length = fn.np)
    (h : Ok (exs (cn P n) fn.body (.no :: (ps ++ List.replicate (fn.ns - fn.np - 1) .no))) (RFI ps Q)) (hv : ps.all Sl.isVal = true := by rfl) (hk : fn.kd = 2 := by rfl) : OkC (runF P (n + 2) i ps) Q := by
  simp only [runF, hf, hl, if_true, hk, hv]
  revert h
  generalize exs (cn P n) fn.body _ = r
  intro h
  match r, h with
  | .ok .nx σ, h => exact h
  | .ok (.rt w) σ, h => exact h
  | .ok .bk σ, h => exact h.elim
  | .ok .ct σ, h => exact h.elim
  | .ex x σ, h => exact h.elim
  | .st, h => exact h.elim
/-- a loop by an invariant -/
theorem for_inv {src : Src} {turn : V → En → R Fl} {Q : Fl → En → Prop} {N : Nat} (Inv : Nat → En → Prop)
    (step : ∀ i σ, i < N → Inv i σ → ∃ w, src.at i = some w ∧ Ok (turn w σ) fun fl σ' => match fl with | .nx => Inv (i + 1) σ' | .ct => Inv (i + 1) σ' | .bk => Q .nx σ' | .rt w => Q (.rt w) σ')
    (last : ∀ σ, Inv N σ → src.at N = none ∧ Q .nx σ) : ∀ m i σ, i + m = N → Inv i σ → Ok (forGo src turn m i σ) Q
  | 0, i, σ, e, h => by
    have e' : i = N := by omega
    subst e'
    obtain ⟨a, b⟩ := last σ h
    simp only [forGo, a]
    exact b
  | m + 1, i, σ, e, h => by
    obtain ⟨w, a, b⟩ := step i σ (by omega) h
    simp only [forGo, a]
    revert b
    generalize turn w σ = r
    intro b
    match r, b with
    | .ok .nx σ2, b => exact for_inv Inv step last m (i + 1) σ2 (by omega) b
    | .ok (.rt w) σ2, b => exact b
    | .ok .bk σ2, b => exact b
    | .ok .ct σ2, b => exact for_inv Inv step last m (i + 1) σ2 (by omega) b
    | .ex x σ2, b => exact b.elim
    | .st, b => exact b.elim
/-- a while: what stays true, what falls -/
theorem wh_inv {test : En → R Bool} {body : En → R Fl} {Q : Fl → En → Prop} (Inv : Nat → En → Prop)
    (step : ∀ m σ, Inv m σ → Ok (test σ) fun b σ1 => if b = true then Ok (body σ1) fun fl σ' => match fl with | .nx => ∃ m', m' < m ∧ Inv m' σ' | .ct => ∃ m', m' < m ∧ Inv m' σ' | .bk => Q .nx σ' | .rt w => Q (.rt w) σ' else Q .nx σ1) :
    ∀ k m σ, m < k → Inv m σ → Ok (whGo test body k σ) Q
  | 0, m, σ, h, _ => absurd h (Nat.not_lt_zero _)
  | k + 1, m, σ, h, i => by
    have s := step m σ i
    simp only [whGo, ok_bind]
    refine s.imp fun b σ1 s => ?_
    cases b with
    | false => simp only [Bool.false_eq_true, if_false] at s ⊢; exact s
    | true =>
      simp only [if_true] at s ⊢
      revert s
      generalize body σ1 = r
      intro s
      match r, s with
      | .ok .nx σ2, ⟨m', l, i'⟩ => exact wh_inv Inv step k m' σ2 (by omega) i'
      | .ok (.rt w) σ2, s => exact s
      | .ok .bk σ2, s => exact s
      | .ok .ct σ2, ⟨m', l, i'⟩ => exact wh_inv Inv step k m' σ2 (by omega) i'
      | .ex x σ2, s => exact s.elim
      | .st, s => exact s.elim
/-- over a list: what is done, what is left -/
theorem for_list {turn : V → En → R Fl} {Q : Fl → En → Prop} {ws : List V} (Inv : List V → List V → En → Prop)
    (step : ∀ ds w rs σ, ws = ds ++ w :: rs → Inv ds (w :: rs) σ → Ok (turn w σ) fun fl σ' => match fl with | .nx => Inv (ds ++ [w]) rs σ' | .ct => Inv (ds ++ [w]) rs σ' | .bk => Q .nx σ' | .rt w => Q (.rt w) σ')
    (last : ∀ σ, Inv ws [] σ → Q .nx σ) {σ : En} (h : Inv [] ws σ) : Ok (forGo (.fix ws) turn ws.length 0 σ) Q := by
  refine for_inv (N := ws.length) (fun i σ => Inv (ws.take i) (ws.drop i) σ) (fun i σ hi h => ?_) (fun σ h => ?_) _ 0 σ (Nat.zero_add _) (by simpa using h)
  · refine ⟨ws[i], by simp only [Src.at, List.getElem?_eq_getElem hi], ?_⟩
    rw [List.drop_eq_getElem_cons hi] at h
    have e : ws = ws.take i ++ ws[i] :: ws.drop (i + 1) := by rw [← List.drop_eq_getElem_cons hi, List.take_append_drop]
    have q := step _ _ _ σ e h
    rw [List.take_append_getElem hi] at q
    exact q
  · rw [List.take_length, List.drop_length] at h
    exact ⟨by simp only [Src.at, List.getElem?_eq_none (Nat.le_refl _)], last σ h⟩
theorem comp_inv {src : Src} {turn : V → En → R (Option V)} {Q : List V → En → Prop} {N : Nat} (Inv : Nat → List V → En → Prop)
    (step : ∀ i acc σ, i < N → Inv i acc σ → ∃ w, src.at i = some w ∧ Ok (turn w σ) fun o σ' => match o with
      | some y => acc.length < lenMax ∧ Inv (i + 1) (acc ++ [y]) σ'
      | none => Inv (i + 1) acc σ')
    (last : ∀ acc σ, Inv N acc σ → src.at N = none ∧ Q acc σ) : ∀ m i acc σ, i + m = N → Inv i acc σ → Ok (compGo src turn m i acc σ) Q
  | 0, i, acc, σ, e, h => by
    have e' : i = N := by omega
    subst e'
    obtain ⟨a, b⟩ := last acc σ h
    simp only [compGo, a]
    exact b
  | m + 1, i, acc, σ, e, h => by
    obtain ⟨w, a, b⟩ := step i acc σ (by omega) h
    simp only [compGo, a]
    revert b
    generalize turn w σ = r
    intro b
    match r, b with
    | .ok (some y) σ2, b =>
      obtain ⟨c1, c2⟩ := b
      simp only [c1, if_true]
      exact comp_inv Inv step last m (i + 1) _ _ (by omega) c2
    | .ok none σ2, b => exact comp_inv Inv step last m (i + 1) acc σ2 (by omega) b
    | .ex x σ2, b => exact b.elim
    | .st, b => exact b.elim
/-- a comprehension over a list, its turns pure: the names stay, but for its own -/
theorem comp_map {turn : V → En → R (Option V)} {Q : List V → En → Prop} {ws : List V} (I : En → Prop) (f : V → V) (hl : ws.length < lenMax)
    (step : ∀ w ∈ ws, ∀ σ, I σ → Ok (turn w σ) fun o σ' => o = some (f w) ∧ I σ') (last : ∀ σ, I σ → Q (ws.map f) σ) {σ : En} (h : I σ) : Ok (compGo (.fix ws) turn ws.length 0 [] σ) Q := by
  refine comp_inv (N := ws.length) (fun i acc σ => acc = (ws.map f).take i ∧ I σ) (fun i acc σ hi ⟨e, h⟩ => ?_) (fun acc σ ⟨e, h⟩ => ?_) _ 0 [] σ (Nat.zero_add _) ⟨rfl, h⟩
  · refine ⟨ws[i], by simp only [Src.at, List.getElem?_eq_getElem hi], (step _ (List.getElem_mem hi) σ h).imp fun o σ' ⟨e2, h2⟩ => ?_⟩
    subst e2 e
    refine ⟨by rw [List.length_take, List.length_map]; omega, ?_, h2⟩
    rw [List.take_succ_eq_append_getElem (by rw [List.length_map]; exact hi), List.getElem_map]
  · subst e
    refine ⟨by simp only [Src.at, List.getElem?_eq_none (Nat.le_refl _)], ?_⟩
    rw [List.take_of_length_le (by rw [List.length_map]; exact Nat.le_refl _)]
    exact last σ h
/-! # one rule a construct -/
def compTurn (c : Cn) (elt : X) (tg : Tg) (cond : Xo) (own : List Nat) : V → En → R (Option V) := fun w σ => ofO (asgT tg w (wipeE σ own)) fun σ => (evC c cond σ).bind fun k σ =>
        if k then (ev c elt σ).bind fun y σ => ofO y.frz fun y => .ok (some y) σ else .ok none σ
def forTurn (c : Cn) (tg : Tg) (b : Ss) : V → En → R Fl := fun w σ => ofO (asgT tg w σ) fun σ => exs c b σ
section
variable (c : Cn) (σ : En)
variable (Q : Sl → En → Prop) (QL : List A → En → Prop) (QA : A → En → Prop) (QB : Bool → En → Prop) (QF : Fl → En → Prop) (QI : Option Int → En → Prop) (QS : Src → En → Prop)
/-- the value of a result -/
def FV (Q : V → En → Prop) (r : Sl) (σ : En) : Prop := OkO r.frz fun v => Q v σ
theorem fv_val (Q : V → En → Prop) (v : V) : FV Q (.val v) σ = Q v σ := rfl
theorem fv_own (Q : V → En → Prop) (p : Bool) (o : Ow) : FV Q (.own p o) σ = Q o.v σ := rfl
theorem ow_l (vs : List V) : (Ow.l vs).v = .lst vs := rfl
theorem ow_d (vs : List (Ky × V)) : (Ow.d vs).v = .dic vs := rfl
theorem ow_t (vs : List (List Ky × V)) : (Ow.t vs).v = .dit vs := rfl
/-- a name's value -/
def VarQ (s : Option Sl) (Q : Sl → Prop) : Prop := match s with
  | some (.val v) => Q (.val v)
  | _ => False
theorem vq (v : V) (Q : Sl → Prop) : VarQ (some (.val v)) Q = Q (.val v) := rfl
theorem w_var (i : Nat) : Ok (ev c (.var i) σ) Q = VarQ σ[i]? fun v => Q v σ := by
  simp only [ev]
  cases σ[i]? with
  | none => rfl
  | some o => cases o <;> rfl
theorem w_con (v : V) : Ok (ev c (.con v) σ) Q = (flatV v = true ∧ Q (.val v) σ) := by simp only [ev, ok_ifst, ok_ok]
theorem w_gl (g : Nat) : Ok (ev c (.gl g) σ) Q = OkO (c.gl g) fun v => Q (.val v) σ := by simp only [ev, ok_ofO, ok_ok]
theorem w_pr (p : Pr) (as : Xs) : Ok (ev c (.pr p as) σ) Q = (arOk p as = true ∧ Ok (evs c as σ) fun l σ => OkO (getAs σ l) fun vs => OkO (prV p vs) fun r => Q r σ) := by simp only [ev, ok_ifst, ok_bind, ok_ofO, ok_ok]
def StrQ (v : V) (Q : List Nat → Prop) : Prop := match v with
  | .str s => Q s
  | _ => False
theorem sq (s : List Nat) (Q : List Nat → Prop) : StrQ (.str s) Q = Q s := rfl
theorem w_me (m : Me) (o : X) (as : Xs) : Ok (ev c (.me m o as) σ) Q = Ok (ev c o σ) (FV fun v σ => StrQ v fun s => Ok (evs c as σ) fun l σ => OkO (getAs σ l) fun vs => OkO (meV m s vs) fun r => Q r σ) := by
  simp only [ev, ok_bind, ok_ofO, FV]
  congr 1; funext r σ; congr 1; funext v
  cases v <;> first | rfl | simp only [ok_bind, ok_ofO, ok_ok, StrQ]
theorem w_sl (a : X) (lo hi : Xe) : Ok (ev c (.sl a lo hi) σ) Q = Ok (argA a (ev c a σ) σ) fun x σ => Ok (evO c lo σ) fun l σ => Ok (evO c hi σ) fun h σ => OkO (x.get σ) fun v => OkO (sliceV v l h) fun r => Q r σ := by simp only [ev, ok_bind, ok_ofO, ok_ok]
theorem w_bo (an : Bool) (b : Xb) : Ok (ev c (.bo an b) σ) Q = Ok (evB c an b σ) Q := by simp only [ev]
theorem w_ch (o p : Co) (a b d : X) : Ok (ev c (.ch o p a b d) σ) Q = Ok (ev c a σ) (FV fun x σ => Ok (ev c b σ) (FV fun y σ => OkO (cmpV o x y) fun k => if k = true then Ok (ev c d σ) (FV fun z σ => OkO (cmpV p y z) fun k => Q (.val (.bl k)) σ) else Q (.val (.bl false)) σ)) := by
  simp only [ev, ok_bind, ok_ofO, ok_ite, ok_ok]; rfl
theorem w_ite (t : T) (a b : X) : Ok (ev c (.ite t a b) σ) Q = Ok (evT c t σ) fun k σ => if k = true then Ok (ev c a σ) Q else Ok (ev c b σ) Q := by simp only [ev, ok_bind, ok_ite]
theorem w_tup (as : Xs) : Ok (ev c (.tup as) σ) Q = Ok (evs c as σ) fun l σ => OkO (valsA l) fun vs => vs.length ≤ lenMax ∧ Q (.val (.tup vs)) σ := by simp only [ev, ok_bind, ok_ofO, ok_ok, newT, oko_if, oko_some]
theorem w_lst (as : Xs) : Ok (ev c (.lst as) σ) Q = Ok (evs c as σ) fun l σ => OkO (valsA l) fun vs => vs.length ≤ lenMax ∧ Q (.own false (.l vs)) σ := by simp only [ev, ok_bind, ok_ofO, ok_ok, newL, oko_if, oko_some]
theorem w_mk (nm : Str) (fs : List Str) (as : Xs) : Ok (ev c (.mk nm fs as) σ) Q = Ok (evs c as σ) fun l σ => OkO (valsA l) fun vs => (vs.length = fs.length ∧ 0 < fs.length) ∧ Q (.val (.ins nm (fs.zip vs))) σ := by simp only [ev, ok_bind, ok_ofO, ok_ok, ok_ifst]
theorem w_dic0 : Ok (ev c (.dic0 false) σ) Q = Q (.own false (.d [])) σ := by simp only [ev, ok_ok, Bool.false_eq_true, if_false]
theorem w_dic1 : Ok (ev c (.dic0 true) σ) Q = Q (.own false (.t [])) σ := by simp only [ev, ok_ok, if_true]
theorem w_comp (elt : X) (tg : Tg) (it : It) (cond : Xo) (own : List Nat) : Ok (ev c (.comp elt tg it cond own) σ) Q = (((tgSl tg).all fun i => decide (i ∈ own)) = true ∧ Ok (evI c it σ) fun src σ0 => Ok (compGo src (compTurn c elt tg cond own) src.len 0 [] σ0) fun acc σ1 => Q (.own false (.l acc)) (backE σ0 σ1 own)) := by
  simp only [ev, ok_ifst, ok_bind, ok_ok]; rfl
theorem w_nil : Ok (evs c .nil σ) QL = QL [] σ := by simp only [evs]; rfl
theorem w_cons (e : X) (es : Xs) : Ok (evs c (.cons e es) σ) QL = Ok (argA e (ev c e σ) σ) fun a σ => Ok (evs c es σ) fun as σ => QL (a :: as) σ := by simp only [evs, ok_bind, ok_ok]
theorem w_star (e : X) (es : Xs) : Ok (evs c (.star e es) σ) QL = Ok (argA e (ev c e σ) σ) fun a σ => OkO (a.get σ) fun v => OkO (seqV v) fun vs => Ok (evs c es σ) fun as σ => QL (vs.map A.va ++ as) σ := by simp only [evs, ok_bind, ok_ofO, ok_ok]
def ArgQ (i : Nat) (s : Option Sl) (Q : A → Prop) : Prop := match s with
  | some (.own _ _) => Q (.ow i)
  | some (.val v) => Q (.va v)
  | _ => False
theorem aq_own (i : Nat) (p : Bool) (o : Ow) (Q : A → Prop) : ArgQ i (some (.own p o)) Q = Q (.ow i) := rfl
theorem aq_val (i : Nat) (v : V) (Q : A → Prop) : ArgQ i (some (.val v)) Q = Q (.va v) := rfl
theorem g_own (i : Nat) (r : R Sl) : Ok (argA (.own i) r σ) QA = ArgQ i σ[i]? fun a => QA a σ := by
  simp only [argA]
  cases σ[i]? with
  | none => rfl
  | some o => cases o <;> rfl
theorem g_base (r : R Sl) : Ok (r.bind fun r σ => ofO r.frz fun v => .ok (.va v) σ) QA = Ok r (FV fun v σ => QA (.va v) σ) := by
  simp only [ok_bind, ok_ofO, ok_ok]; rfl
theorem g_var (i : Nat) (r : R Sl) : Ok (argA (.var i) r σ) QA = Ok r (FV fun v σ => QA (.va v) σ) := g_base QA r
theorem g_con (v : V) (r : R Sl) : Ok (argA (.con v) r σ) QA = Ok r (FV fun v σ => QA (.va v) σ) := g_base QA r
theorem g_gl (g : Nat) (r : R Sl) : Ok (argA (.gl g) r σ) QA = Ok r (FV fun v σ => QA (.va v) σ) := g_base QA r
theorem g_pr (p : Pr) (as : Xs) (r : R Sl) : Ok (argA (.pr p as) r σ) QA = Ok r (FV fun v σ => QA (.va v) σ) := g_base QA r
theorem g_me (m : Me) (o : X) (as : Xs) (r : R Sl) : Ok (argA (.me m o as) r σ) QA = Ok r (FV fun v σ => QA (.va v) σ) := g_base QA r
theorem g_sl (a : X) (lo hi : Xe) (r : R Sl) : Ok (argA (.sl a lo hi) r σ) QA = Ok r (FV fun v σ => QA (.va v) σ) := g_base QA r
theorem g_bo (an : Bool) (b : Xb) (r : R Sl) : Ok (argA (.bo an b) r σ) QA = Ok r (FV fun v σ => QA (.va v) σ) := g_base QA r
theorem g_ch (o p : Co) (a b d : X) (r : R Sl) : Ok (argA (.ch o p a b d) r σ) QA = Ok r (FV fun v σ => QA (.va v) σ) := g_base QA r
theorem g_ite (t : T) (a b : X) (r : R Sl) : Ok (argA (.ite t a b) r σ) QA = Ok r (FV fun v σ => QA (.va v) σ) := g_base QA r
theorem g_tup (as : Xs) (r : R Sl) : Ok (argA (.tup as) r σ) QA = Ok r (FV fun v σ => QA (.va v) σ) := g_base QA r
theorem g_lst (as : Xs) (r : R Sl) : Ok (argA (.lst as) r σ) QA = Ok r (FV fun v σ => QA (.va v) σ) := g_base QA r
theorem g_dic0 (t : Bool) (r : R Sl) : Ok (argA (.dic0 t) r σ) QA = Ok r (FV fun v σ => QA (.va v) σ) := g_base QA r
theorem g_comp (elt : X) (tg : Tg) (it : It) (cond : Xo) (own : List Nat) (r : R Sl) : Ok (argA (.comp elt tg it cond own) r σ) QA = Ok r (FV fun v σ => QA (.va v) σ) := g_base QA r
theorem g_call (h : Nat) (as ks : Xs) (r : R Sl) : Ok (argA (.call h as ks) r σ) QA = Ok r (FV fun v σ => QA (.va v) σ) := g_base QA r
theorem w_b1 (an : Bool) (e : X) : Ok (evB c an (.one e) σ) Q = Ok (ev c e σ) Q := by simp only [evB]
def BoQ (s : Sl) (Q : Bool → Prop) : Prop := match s with
  | .val (.bl k) => Q k
  | _ => False
theorem bq (k : Bool) (Q : Bool → Prop) : BoQ (.val (.bl k)) Q = Q k := rfl
theorem w_b2 (an : Bool) (e : X) (es : Xb) : Ok (evB c an (.cons e es) σ) Q = Ok (ev c e σ) fun w σ => BoQ w fun k => if k = an then Ok (evB c an es σ) Q else Q (.val (.bl k)) σ := by
  simp only [evB, ok_bind]
  congr 1
  funext x σ
  cases x with
  | val v => cases v <;> first | rfl | simp only [ok_ite, ok_ok, BoQ]
  | _ => rfl
theorem w_tval (e : X) : Ok (evT c (.val e) σ) QB = Ok (argA e (ev c e σ) σ) fun a σ => OkO (a.get σ) fun v => OkO (truV v) fun k => QB k σ := by simp only [evT, ok_bind, ok_ofO, ok_ok]
theorem w_tbo (an : Bool) (b : Tb) : Ok (evT c (.bo an b) σ) QB = Ok (evTb c an b σ) QB := by simp only [evT]
theorem w_tnt (t : T) : Ok (evT c (.nt t) σ) QB = Ok (evT c t σ) fun k σ => QB (!k) σ := by simp only [evT, ok_bind, ok_ok]
theorem w_t1 (an : Bool) (t : T) : Ok (evTb c an (.one t) σ) QB = Ok (evT c t σ) QB := by simp only [evTb]
theorem w_t2 (an : Bool) (t : T) (ts : Tb) : Ok (evTb c an (.cons t ts) σ) QB = Ok (evT c t σ) fun k σ => if k = an then Ok (evTb c an ts σ) QB else QB k σ := by simp only [evTb, ok_bind, ok_ite, ok_ok]
theorem w_c0 : Ok (evC c .no σ) QB = QB true σ := by simp only [evC]; rfl
theorem w_c1 (t : T) : Ok (evC c (.so t) σ) QB = Ok (evT c t σ) QB := by simp only [evC]
theorem w_o0 : Ok (evO c .no σ) QI = QI none σ := by simp only [evO]; rfl
def IntQ (v : V) (Q : Int → Prop) : Prop := match v with
  | .int i => Q i
  | _ => False
theorem iq (i : Int) (Q : Int → Prop) : IntQ (.int i) Q = Q i := rfl
theorem w_o1 (e : X) : Ok (evO c (.so e) σ) QI = Ok (ev c e σ) (FV fun v σ => IntQ v fun i => QI (some i) σ) := by
  simp only [evO, ok_bind, ok_ofO, FV]
  congr 1; funext r σ; congr 1; funext v
  cases v <;> rfl
theorem w_seq (e : X) : Ok (evI c (.seq e) σ) QS = Ok (ev c e σ) (FV fun v σ => OkO (srcV v) fun s => QS s σ) := by simp only [evI, ok_bind, ok_ofO, ok_ok]; rfl
theorem w_enm (e : X) : Ok (evI c (.enm e) σ) QS = Ok (ev c e σ) (FV fun v σ => OkO (srcV v) fun s => QS (.enm s) σ) := by simp only [evI, ok_bind, ok_ofO, ok_ok]; rfl
theorem w_zip (a b : X) : Ok (evI c (.zip a b) σ) QS = Ok (ev c a σ) (FV fun v σ => Ok (ev c b σ) (FV fun w σ => OkO (srcV v) fun s => OkO (srcV w) fun t => QS (.zip s t) σ)) := by simp only [evI, ok_bind, ok_ofO, ok_ok]; rfl
theorem w_rng (e : X) : Ok (evI c (.rng e) σ) QS = Ok (ev c e σ) (FV fun v σ => OkO (rngOf v) fun s => QS s σ) := by simp only [evI, ok_bind, ok_ofO, ok_ok]; rfl
theorem w_rng2 (a b : X) : Ok (evI c (.rng2 a b) σ) QS = Ok (ev c a σ) (FV fun v σ => Ok (ev c b σ) (FV fun w σ => OkO (rng2Of v w) fun s => QS s σ)) := by simp only [evI, ok_bind, ok_ofO, ok_ok]; rfl
theorem w_call (P : Pg) (n h : Nat) (as ks : Xs) : Ok (ev (cn P n) (.call h as ks) σ) Q = OkO P.shs[h]? fun sh => Ok (evs (cn P n) as σ) fun ws σ => Ok (evs (cn P n) ks σ) fun zs σ =>
    (ws.length = sh.np ∧ zs.length = sh.ks.length) ∧ OkO (fillA ws zs sh.fill) fun xs => OkO (takeA xs σ) fun z => OkC (runF P n sh.fn z.1) fun r os => Q r (putA σ xs os z.2) := by
  simp only [ev, ok_bind, ok_ofO, ok_ifst]
  congr 1; funext sh; congr 1; funext ws σ; congr 1; funext zs σ; congr 1; congr 1; funext xs; congr 1; funext z
  cases runF P n sh.fn z.1 <;> rfl
theorem w_dun (P : Pg) (n h : Nat) (d : SF.Dk) (nm : Str) (a : X) : Ok (ev (cn P n) (.dun d h nm a) σ) Q = OkO P.shs[h]? fun sh => Ok (ev (cn P n) a σ) (FV fun v σ => isInsV nm d.m v = true ∧ OkC (runF P n sh.fn [.val v]) fun r _ => ∃ w, r = .val w ∧ dkOk d w = true ∧ Q (.val w) σ) := by
  simp only [ev, ok_bind, ok_ofO, ok_ifst]
  congr 1; funext sh; congr 1; funext r σ; unfold FV; congr 1; funext v; congr 1
  cases runF P n sh.fn [.val v] with
  | st => rfl
  | ex x => rfl
  | ok r os =>
    cases r with
    | val w =>
      show Ok (if dkOk d w = true then .ok (.val w) σ else .st) Q = _
      rw [ok_ifst]
      exact propext ⟨fun ⟨a, b⟩ => ⟨w, rfl, a, b⟩, fun ⟨w', e, a, b⟩ => by cases e; exact ⟨a, b⟩⟩
    | no => exact propext ⟨fun h => h.elim, fun ⟨w', e, _⟩ => by cases e⟩
    | own _ _ => exact propext ⟨fun h => h.elim, fun ⟨w', e, _⟩ => by cases e⟩
theorem w_turn (elt : X) (tg : Tg) (cond : Xo) (own : List Nat) (w : V) (Q : Option V → En → Prop) : Ok (compTurn c elt tg cond own w σ) Q = OkO (asgT tg w (wipeE σ own)) fun σ => Ok (evC c cond σ) fun k σ => if k = true then Ok (ev c elt σ) (FV fun y σ => Q (some y) σ) else Q none σ := by
  unfold compTurn
  simp only [ok_bind, ok_ofO, ok_ite, ok_ok]; rfl
theorem w_fturn (tg : Tg) (b : Ss) (w : V) : Ok (forTurn c tg b w σ) QF = OkO (asgT tg w σ) fun σ => Ok (exs c b σ) QF := by
  unfold forTurn
  simp only [ok_ofO]
theorem s_asg (tg : Tg) (e : X) : Ok (exS c (.asg tg e) σ) QF = Ok (ev c e σ) (FV fun v σ => OkO (asgT tg v σ) fun σ => QF .nx σ) := by simp only [exS, ok_bind, ok_ofO, ok_ok]; rfl
theorem s_aso (i : Nat) (e : X) : Ok (exS c (.aso i e) σ) QF = Ok (ev c e σ) fun r σ => isOwned r = true ∧ OkO (setS σ i r.un) fun σ => QF .nx σ := by simp only [exS, ok_bind, ok_ofO, ok_ok, ok_ifst]
theorem s_frz (i : Nat) : Ok (exS c (.frz i) σ) QF = OkO σ[i]? fun s => OkO s.frz fun v => QF .nx (σ.set i (.val v)) := by simp only [exS, ok_ofO, ok_ok]
theorem s_app (i : Nat) (e : X) : Ok (exS c (.app i e) σ) QF = OkO (slotL σ i) fun _ => Ok (ev c e σ) (FV fun v σ => OkO (slotL σ i) fun z => z.2.length < lenMax ∧ QF .nx (σ.set i (.own z.1 (.l (z.2 ++ [v]))))) := by simp only [exS, ok_bind, ok_ofO, ok_ok, ok_ifst]; rfl
theorem s_seti (i : Nat) (k e : X) : Ok (exS c (.seti i k e) σ) QF = Ok (ev c e σ) (FV fun v σ => OkO σ[i]? fun s => isOwned s = true ∧ Ok (ev c k σ) (FV fun k σ => OkO σ[i]? fun s => OkO (setV s k v) fun s => QF .nx (σ.set i s))) := by simp only [exS, ok_bind, ok_ofO, ok_ok, ok_ifst]; rfl
def AugQ (s : Option Sl) (Q : Int → Prop) : Prop := match s with
  | some (.val (.int a)) => Q a
  | _ => False
theorem gq (a : Int) (Q : Int → Prop) : AugQ (some (.val (.int a))) Q = Q a := rfl
def AugR (s : Sl) (Q : Int → Prop) : Prop := match s with
  | .val (.int a) => Q a
  | _ => False
theorem grq (a : Int) (Q : Int → Prop) : AugR (.val (.int a)) Q = Q a := rfl
theorem s_aug (i : Nat) (sub : Bool) (e : X) : Ok (exS c (.aug i sub e) σ) QF = AugQ σ[i]? fun a => Ok (ev c e σ) fun r σ => AugR r fun b => OkO (setS σ i (.val (.int (if sub then a - b else a + b)))) fun σ => QF .nx σ := by
  simp only [exS]
  cases σ[i]? with
  | none => rfl
  | some o => cases o with
    | val v => cases v <;> first | rfl | skip
               simp only [ok_bind, AugQ]
               congr 1; funext r σ
               cases r with
               | val v => cases v <;> first | rfl | simp only [ok_ofO, ok_ok, AugR]
               | _ => rfl
    | _ => rfl
theorem s_par (sw : Bool) (ts : List Nat) (es : List (Bool × X)) : Ok (exS c (.par sw ts es) σ) QF = ((ts.length = es.length ∧ es.length < 10 ∧ (sw = false ∨ es.length = 2 ∨ es.length = 3)) ∧ Ok (evP c es σ) fun ss σ => OkO (setP ts ss σ) fun σ => QF .nx σ) := by simp only [exS, ok_ifst, ok_bind, ok_ofO, ok_ok]
theorem w_p0 (Q : List Sl → En → Prop) : Ok (evP c [] σ) Q = Q [] σ := rfl
theorem w_p1 (o : Bool) (e : X) (es : List (Bool × X)) (Q : List Sl → En → Prop) : Ok (evP c ((o, e) :: es) σ) Q = Ok (ev c e σ) fun r σ => OkO (pk o r) fun s => Ok (evP c es σ) fun ss σ => Q (s :: ss) σ := by simp only [evP, ok_bind, ok_ofO, ok_ok]
theorem pk_fv (v : V) : pk false (.val v) = some (.val v) := rfl
theorem pk_fo (p : Bool) (o : Ow) : pk false (.own p o) = some (.val o.v) := rfl
theorem pk_to (p : Bool) (o : Ow) : pk true (.own p o) = some (.own false o) := rfl
theorem sp_nil (ss : List Sl) : setP [] ss σ = some σ := by cases ss <;> rfl
theorem sp_cons (i : Nat) (ts : List Nat) (s : Sl) (ss : List Sl) : setP (i :: ts) (s :: ss) σ = (setS σ i s).bind fun σ => setP ts ss σ := rfl
theorem s_if (t : T) (a b : Ss) : Ok (exS c (.ifs t a b) σ) QF = Ok (evT c t σ) fun k σ => if k = true then Ok (exs c a σ) QF else Ok (exs c b σ) QF := by simp only [exS, ok_bind, ok_ite]
theorem s_for (tg : Tg) (it : It) (b : Ss) : Ok (exS c (.fr tg it b) σ) QF = Ok (evI c it σ) fun src σ => Ok (forGo src (forTurn c tg b) src.len 0 σ) QF := by simp only [exS, ok_bind]; rfl
theorem s_wh (t : T) (b : Ss) : Ok (exS c (.wh t b) σ) QF = Ok (whGo (evT c t) (exs c b) c.fuel σ) QF := by simp only [exS]
theorem s_rt (e : X) : Ok (exS c (.rt e) σ) QF = Ok (ev c e σ) (FV fun v σ => QF (.rt (.val v)) σ) := by simp only [exS, ok_bind, ok_ofO, ok_ok]; rfl
theorem s_rto (e : X) : Ok (exS c (.rto e) σ) QF = Ok (evR e (ev c e σ) σ) fun r σ => isOwned r = true ∧ QF (.rt r) σ := by simp only [exS, ok_bind, ok_ifst, ok_ok]
theorem s_rtN : Ok (exS c .rtN σ) QF = QF (.rt (.val .non)) σ := by simp only [exS, ok_ok]
theorem s_ex (e : X) : Ok (exS c (.ex e) σ) QF = Ok (ev c e σ) fun _ σ => QF .nx σ := by simp only [exS, ok_bind, ok_ok]
theorem s_brk : Ok (exS c .brk σ) QF = QF .bk σ := by simp only [exS, ok_ok]
theorem s_cnt : Ok (exS c .cnt σ) QF = QF .ct σ := by simp only [exS, ok_ok]
theorem s_pas : Ok (exS c .pas σ) QF = QF .nx σ := by simp only [exS, ok_ok]
theorem s_nil : Ok (exs c .nil σ) QF = QF .nx σ := by simp only [exs, ok_ok]
/-- what follows -/
def KF (c : Cn) (ss : Ss) (Q : Fl → En → Prop) (f : Fl) (σ : En) : Prop := match f with
  | .nx => Ok (exs c ss σ) Q
  | f => Q f σ
theorem s_cons (s : St) (ss : Ss) : Ok (exs c (.cons s ss) σ) QF = Ok (exS c s σ) (KF c ss QF) := by
  simp only [exs]
  cases exS c s σ with
  | ok f σ => cases f <;> rfl
  | ex _ _ => rfl
  | st => rfl
theorem kf_nx (ss : Ss) : KF c ss QF .nx σ = Ok (exs c ss σ) QF := Eq.trans rfl rfl
theorem kf_rt (ss : Ss) (r : Sl) : KF c ss QF (.rt r) σ = QF (.rt r) σ := Eq.trans rfl rfl
theorem kf_bk (ss : Ss) : KF c ss QF .bk σ = QF .bk σ := Eq.trans rfl rfl
theorem kf_ct (ss : Ss) : KF c ss QF .ct σ = QF .ct σ := Eq.trans rfl rfl
theorem r_own (i : Nat) (r : R Sl) : Ok (evR (.own i) r σ) Q = OkO σ[i]? fun s => ∃ p o, s = .own p o ∧ Q (.own false o) (σ.set i .no) := by
  simp only [evR]
  cases σ[i]? with
  | none => rfl
  | some s => cases s with
    | own p o =>
      simp only [OkO, Ok, eq_iff_iff]
      constructor
      · intro h; exact ⟨p, o, rfl, h⟩
      · rintro ⟨p, o, e, h⟩; cases e; exact h
    | _ =>
      simp only [OkO, Ok, eq_iff_iff, false_iff]
      rintro ⟨p, o, e, h⟩; cases e
theorem ex_own (p : Bool) (o : Ow) (Q : Prop) : (∃ p' o', Sl.own p o = .own p' o' ∧ Q) = Q := by
  rw [eq_iff_iff]
  exact ⟨fun ⟨_, _, _, h⟩ => h, fun h => ⟨p, o, rfl, h⟩⟩
theorem r_lst (as : Xs) (r : R Sl) : Ok (evR (.lst as) r σ) Q = Ok r Q := rfl
theorem r_comp (elt : X) (tg : Tg) (it : It) (cond : Xo) (own : List Nat) (r : R Sl) : Ok (evR (.comp elt tg it cond own) r σ) Q = Ok r Q := rfl
theorem r_pr (p : Pr) (as : Xs) (r : R Sl) : Ok (evR (.pr p as) r σ) Q = Ok r Q := rfl
theorem r_call (h : Nat) (as ks : Xs) (r : R Sl) : Ok (evR (.call h as ks) r σ) Q = Ok r Q := rfl
/-! targets and values -/
theorem o_set (i : Nat) (s : Sl) (Q : En → Prop) : OkO (setS σ i s) Q = (flagAt σ i = false ∧ Q (σ.set i s)) := by
  unfold setS
  cases flagAt σ i <;> simp [OkO]
theorem a_na (i : Nat) (v : V) : asgT (.na i) v σ = setS σ i (.val v) := by simp only [asgT]
theorem a_tu (ts : Tgs) (vs : List V) (h : starIx ts = none) : asgT (.tu ts) (.tup vs) σ = asgTs ts vs σ := by simp only [asgT, h]
theorem a_nil : asgTs .nil [] σ = some σ := by simp only [asgTs]
theorem a_cons (t : Tg) (ts : Tgs) (v : V) (vs : List V) : asgTs (.cons t ts) (v :: vs) σ = (asgT t v σ).bind fun σ => asgTs ts vs σ := by simp only [asgTs]
theorem a_star (i : Nat) (ts : Tgs) (v : V) (vs : List V) : asgTs (.star i ts) (v :: vs) σ = (setS σ i (.val v)).bind fun σ => asgTs ts vs σ := by simp only [asgTs]
theorem st_cons (t : Tg) (ts : Tgs) : starIx (.cons t ts) = (starIx ts).map (· + 1) := rfl
theorem st_nil : starIx .nil = none := rfl
theorem get_nil : getAs σ [] = some [] := rfl
theorem get_va (v : V) (as : List A) : getAs σ (.va v :: as) = (getAs σ as).bind fun vs => some (v :: vs) := by
  simp only [getAs, A.get]
  cases getAs σ as <;> rfl
theorem get_ow (i : Nat) (as : List A) : getAs σ (.ow i :: as) = ((A.ow i).get σ).bind fun v => (getAs σ as).bind fun vs => some (v :: vs) := by
  simp only [getAs]
  cases A.get σ (.ow i) <;> cases getAs σ as <;> rfl
theorem ge_va (v : V) : (A.va v).get σ = some v := rfl
theorem ge_ow (i : Nat) : (A.ow i).get σ = match σ[i]? with
    | some (.own _ o) => some o.v
    | _ => none := rfl
end
theorem vals_nil : valsA [] = some [] := rfl
theorem vals_va (v : V) (as : List A) : valsA (.va v :: as) = (valsA as).bind fun vs => some (v :: vs) := by
  simp only [valsA]
  cases valsA as <;> rfl
theorem vals_map (vs : List V) (as : List A) : valsA (vs.map A.va ++ as) = (valsA as).bind fun us => some (vs ++ us) := by
  induction vs with
  | nil => simp only [List.map_nil, List.nil_append]; cases valsA as <;> rfl
  | cons v vs ih => simp only [List.map_cons, List.cons_append, vals_va, ih]; cases valsA as <;> rfl
section
variable (Q : Sl → Prop)
theorem p_add (i j : Int) : OkO (prV (.bin .add) [.int i, .int j]) Q = Q (.val (.int (i + j))) := rfl
theorem p_sub (i j : Int) : OkO (prV (.bin .sub) [.int i, .int j]) Q = Q (.val (.int (i - j))) := rfl
theorem p_cat (s t : List Nat) : OkO (prV (.bin .add) [.str s, .str t]) Q = (s.length + t.length ≤ lenMax ∧ Q (.val (.str (s ++ t)))) := by
  show OkO (if s.length + t.length ≤ lenMax then some (Sl.val (.str (s ++ t))) else none) Q = _
  rw [oko_if]; rfl
theorem p_catT (s t : List V) : OkO (prV (.bin .add) [.tup s, .tup t]) Q = ((s ++ t).length ≤ lenMax ∧ Q (.val (.tup (s ++ t)))) := by
  show OkO (if (s ++ t).length ≤ lenMax then some (Sl.val (.tup (s ++ t))) else none) Q = _
  rw [oko_if]; rfl
theorem p_catL (s t : List V) : OkO (prV (.bin .add) [.lst s, .lst t]) Q = ((s ++ t).length ≤ lenMax ∧ Q (.own false (.l (s ++ t)))) := by
  show OkO (if (s ++ t).length ≤ lenMax then some (Sl.own false (.l (s ++ t))) else none) Q = _
  rw [oko_if]; rfl
theorem p_mul (i j : Int) : OkO (prV (.bin .mul) [.int i, .int j]) Q = ((bigOk i && bigOk j) = true ∧ Q (.val (.int (i * j)))) := by
  show OkO (if (bigOk i && bigOk j) = true then some (Sl.val (.int (i * j))) else none) Q = _
  rw [oko_if]; rfl
theorem p_mulS (s : List Nat) (k : Int) : OkO (prV (.bin .mul) [.str s, .int k]) Q = (SF.repOk s.length k = true ∧ Q (.val (.str (List.replicate k.toNat s).flatten))) := by
  show OkO (if SF.repOk s.length k = true then some (Sl.val (.str (List.replicate k.toNat s).flatten)) else none) _ = _
  rw [oko_if]; rfl
theorem p_mulT (s : List V) (k : Int) : OkO (prV (.bin .mul) [.tup s, .int k]) Q = (SF.repOk s.length k = true ∧ (List.replicate k.toNat s).flatten.length ≤ lenMax ∧ Q (.val (.tup (List.replicate k.toNat s).flatten))) := by
  show OkO (if SF.repOk s.length k = true then newT _ else none) _ = _
  rw [oko_if]; unfold newT; rw [oko_if]; rfl
theorem p_mulL (s : List V) (k : Int) : OkO (prV (.bin .mul) [.lst s, .int k]) Q = (SF.repOk s.length k = true ∧ (List.replicate k.toNat s).flatten.length ≤ lenMax ∧ Q (.own false (.l (List.replicate k.toNat s).flatten))) := by
  show OkO (if SF.repOk s.length k = true then newL _ else none) _ = _
  rw [oko_if]; unfold newL; rw [oko_if]; rfl
theorem p_intb (k : Bool) : OkO (prV (.bi .int) [.bl k]) Q = Q (.val (.int (if k then 1 else 0))) := rfl
theorem p_fdiv (i j : Int) : OkO (prV (.bin .fdiv) [.int i, .int j]) Q = ((decide (0 < j) && bigOk j) = true ∧ Q (.val (.int (i / j)))) := by
  show OkO (if (decide (0 < j) && bigOk j) = true then some (Sl.val (.int (i / j))) else none) Q = _
  rw [oko_if]; rfl
theorem p_mod (i j : Int) : OkO (prV (.bin .mod) [.int i, .int j]) Q = (decide (0 < j) = true ∧ Q (.val (.int (i % j)))) := by
  show OkO (if decide (0 < j) = true then some (Sl.val (.int (i % j))) else none) Q = _
  rw [oko_if]; rfl
theorem p_pow (i j : Int) : OkO (prV (.bin .pow) [.int i, .int j]) Q = ((decide (0 ≤ j) && decide (j ≤ 60) && decide (i.natAbs < 2 ^ 400)) = true ∧ Q (.val (.int (i ^ j.toNat)))) := by
  show OkO (if (decide (0 ≤ j) && decide (j ≤ 60) && decide (i.natAbs < 2 ^ 400)) = true then some (Sl.val (.int (i ^ j.toNat))) else none) Q = _
  rw [oko_if]; rfl
theorem p_neg (i : Int) : OkO (prV .neg [.int i]) Q = Q (.val (.int (-i))) := rfl
theorem p_nt (k : Bool) : OkO (prV .nt [.bl k]) Q = Q (.val (.bl (!k))) := rfl
theorem p_cmp (o : Co) (x y : V) : OkO (prV (.cmp o) [x, y]) Q = OkO (cmpV o x y) fun k => Q (.val (.bl k)) := by
  show OkO ((cmpV o x y).bind fun k => some (Sl.val (.bl k))) Q = _
  rw [oko_bind]; rfl
theorem p_isi (t : Ty) (x : V) : OkO (prV (.isi t) [x]) Q = OkO (isTy x t) fun k => Q (.val (.bl k)) := by
  show OkO ((isTy x t).bind fun k => some (Sl.val (.bl k))) Q = _
  rw [oko_bind]; rfl
theorem p_isis (t : List Ty) (x : V) : OkO (prV (.isis t) [x]) Q = OkO (isTys x t) fun k => Q (.val (.bl k)) := by
  show OkO ((isTys x t).bind fun k => some (Sl.val (.bl k))) Q = _
  rw [oko_bind]; rfl
theorem p_ix (x y : V) : OkO (prV .ix [x, y]) Q = OkO (itemV x y) fun v => Q (.val v) := by
  show OkO ((itemV x y).bind valV) Q = _
  rw [oko_bind]; rfl
theorem p_int (i : Int) : OkO (prV (.bi .int) [.int i]) Q = Q (.val (.int i)) := rfl
theorem p_abs (i : Int) : OkO (prV (.bi .abs) [.int i]) Q = Q (.val (.int (if i < 0 then -i else i))) := rfl
theorem p_max (i j : Int) : OkO (prV (.bi .max2) [.int i, .int j]) Q = Q (.val (.int (if j > i then j else i))) := rfl
theorem p_min (i j : Int) : OkO (prV (.bi .min2) [.int i, .int j]) Q = Q (.val (.int (if j < i then j else i))) := rfl
theorem p_len (x : V) : OkO (prV (.bi .len) [x]) Q = OkO (lenV x) fun n => Q (.val (.int n)) := by
  show OkO ((lenV x).bind fun n => some (Sl.val (.int n))) Q = _
  rw [oko_bind]; rfl
theorem p_list (x : V) : OkO (prV (.bi .list) [x]) Q = OkO (itemsV x) fun vs => vs.length ≤ lenMax ∧ Q (.own false (.l vs)) := by
  show OkO ((itemsV x).bind newL) Q = _
  rw [oko_bind]
  congr 1; funext vs
  exact oko_if _ _ _
theorem p_tuple (x : V) : OkO (prV (.bi .tuple) [x]) Q = OkO (seqV x) fun vs => vs.length ≤ lenMax ∧ Q (.val (.tup vs)) := by
  show OkO ((seqV x).bind newT) Q = _
  rw [oko_bind]
  congr 1; funext vs
  exact oko_if _ _ _
theorem p_all (vs : List V) : OkO (prV (.bi .all) [.lst vs]) Q = OkO (boolsOf vs) fun bs => Q (.val (.bl (bs.all id))) := by
  show OkO ((boolsOf vs).bind fun bs => some (Sl.val (.bl (bs.all id)))) Q = _
  rw [oko_bind]; rfl
theorem p_any (vs : List V) : OkO (prV (.bi .any) [.lst vs]) Q = OkO (boolsOf vs) fun bs => Q (.val (.bl (bs.any id))) := by
  show OkO ((boolsOf vs).bind fun bs => some (Sl.val (.bl (bs.any id)))) Q = _
  rw [oko_bind]; rfl
theorem p_sum (vs : List V) : OkO (prV (.bi .sum) [.lst vs]) Q = OkO (intsOf vs) fun bs => Q (.val (.int bs.sum)) := by
  show OkO ((intsOf vs).bind fun bs => some (Sl.val (.int bs.sum))) Q = _
  rw [oko_bind]; rfl
theorem p_ord (k : Nat) : OkO (prV (.bi .ord) [.str [k]]) Q = Q (.val (.int k)) := rfl
theorem p_str (i : Int) : OkO (prV (.bi .str) [.int i]) Q = ((decide (-(2 ^ 62) ≤ i) && decide (i < 2 ^ 62)) = true ∧ Q (.val (.str (SF.tsI i)))) := by
  show OkO (if (decide (-(2 ^ 62) ≤ i) && decide (i < 2 ^ 62)) = true then some (Sl.val (.str (SF.tsI i))) else none) _ = _
  rw [oko_if]; rfl
theorem p_lset (x : V) : OkO (prV .lset [x]) Q = OkO (seqV x) fun vs => OkO (strsOf vs) fun xs => xs.length ≤ 1000 ∧ Q (.val (.int (ded xs).length)) := by
  show OkO ((seqV x).bind fun ws => (strsOf ws).bind fun xs => if xs.length ≤ 1000 then some (Sl.val (.int (ded xs).length)) else none) Q = _
  simp only [oko_bind, oko_if]; rfl
theorem p_rev (vs : List V) : OkO (prV .rev [.lst vs]) Q = (vs.length ≤ lenMax ∧ Q (.own false (.l vs.reverse))) := by
  show OkO (newL vs.reverse) Q = _
  have e : OkO (newL vs.reverse) Q = (vs.reverse.length ≤ lenMax ∧ Q (.own false (.l vs.reverse))) := oko_if _ _ _
  rw [e, List.length_reverse]
theorem p_fld (f c : Str) (fs : List (Str × V)) : OkO (prV (.fld f) [.ins c fs]) Q = OkO (fs.lookup f) fun v => Q (.val v) := by
  show OkO ((fs.lookup f).bind valV) Q = _
  rw [oko_bind]; rfl
theorem p_blo (k : Bool) : OkO (prV .blo [.bl k]) Q = Q (.val (.bl k)) := rfl
theorem p_slf (nm m c : Str) (fs : List (Str × V)) : OkO (prV (.slf nm m) [.ins c fs]) Q = ((c == nm && (fs.lookup m).isNone) = true ∧ Q (.val (.ins c fs))) := by
  show OkO (if (c == nm && (fs.lookup m).isNone) = true then some (Sl.val (.ins c fs)) else none) Q = _
  rw [oko_if]; rfl
theorem p_m0 (m : SF.Me0) (s : List Nat) : OkO (prV (.m0 m) [.str s]) Q = (s.length ≤ lenMax ∧ Q (.val (.str (stripV m s)))) := by
  show OkO (if s.length ≤ lenMax then some (Sl.val (.str (stripV m s))) else none) Q = _
  rw [oko_if]; rfl
theorem m_strip1 (s t : List Nat) : OkO (meV .strip1 s [.str t]) Q = (s.length ≤ lenMax ∧ Q (.val (.str (Txt.stripChars (sS s) (sS t)).cps.toList))) := by
  show OkO (if s.length ≤ lenMax then some (Sl.val (.str (Txt.stripChars (sS s) (sS t)).cps.toList)) else none) Q = _
  rw [oko_if]; rfl
theorem m_split (s t : List Nat) : OkO (meV .split s [.str t]) Q = ((t.length ≠ 0 ∧ s.length + 2 ≤ lenMax) ∧ OkO (newL ((Txt.split (sS s) (sS t)).map fun x => .str x.cps.toList)) Q) := by
  show OkO (if t.length ≠ 0 ∧ s.length + 2 ≤ lenMax then newL ((Txt.split (sS s) (sS t)).map fun x => .str x.cps.toList) else none) Q = _
  rw [oko_if]
theorem m_join (s : List Nat) (l : V) : OkO (meV .join s [l]) Q = OkO (seqV l) fun ws => OkO (strsOf ws) fun xs => (xs.map (·.length)).sum + xs.length * s.length ≤ lenMax ∧ Q (.val (.str (jn s xs))) := by
  show OkO ((seqV l).bind fun ws => (strsOf ws).bind fun xs => if (xs.map (·.length)).sum + xs.length * s.length ≤ lenMax then some (Sl.val (.str (jn s xs))) else none) Q = _
  simp only [oko_bind, oko_if]; rfl
theorem c_lt (i j : Int) : cmpV .lt (.int i) (.int j) = some (decide (i < j)) := rfl
theorem c_le (i j : Int) : cmpV .le (.int i) (.int j) = some (decide (i ≤ j)) := rfl
theorem c_gt (i j : Int) : cmpV .gt (.int i) (.int j) = some (decide (j < i)) := rfl
theorem c_ge (i j : Int) : cmpV .ge (.int i) (.int j) = some (decide (j ≤ i)) := rfl
theorem c_eq (x y : V) : cmpV .eq x y = eqV x y := rfl
theorem c_ne (x y : V) : cmpV .ne x y = (eqV x y).map (!·) := rfl
theorem c_in (x y : V) : cmpV .inn x y = inV x y := rfl
theorem c_nin (x y : V) : cmpV .nin x y = (inV x y).map (!·) := rfl
theorem c_is (x : V) : cmpV .iss x .non = some (isNonV x) := rfl
theorem c_isn (x : V) : cmpV .isn x .non = some (!isNonV x) := rfl
theorem t_bl (b : Bool) : truV (.bl b) = some b := rfl
theorem it_tup (ws : List V) (i : Int) : itemV (.tup ws) (.int i) = (L2.ixN ws.length i).bind fun k => ws[k]? := rfl
theorem it_lst (ws : List V) (i : Int) : itemV (.lst ws) (.int i) = (L2.ixN ws.length i).bind fun k => ws[k]? := rfl
theorem it_ro (ws : List V) (i : Int) : itemV (.ro ws) (.int i) = (L2.ixN ws.length i).bind fun k => ws[k]? := rfl
theorem l_tup (ws : List V) : lenV (.tup ws) = some ws.length := rfl
theorem l_lst (ws : List V) : lenV (.lst ws) = some ws.length := rfl
theorem l_ro (ws : List V) : lenV (.ro ws) = some ws.length := rfl
theorem q_tup (ws : List V) : seqV (.tup ws) = some ws := rfl
theorem q_lst (ws : List V) : seqV (.lst ws) = some ws := rfl
theorem i_tup (ws : List V) : itemsV (.tup ws) = some ws := rfl
theorem i_lst (ws : List V) : itemsV (.lst ws) = some ws := rfl
theorem i_dic (kvs : List (Ky × V)) : itemsV (.dic kvs) = some (kvs.map fun kv => kyV kv.1) := rfl
theorem v_tup (ws : List V) : srcV (.tup ws) = some (.fix ws) := rfl
theorem v_lst (ws : List V) : srcV (.lst ws) = some (.fix ws) := rfl
theorem n_fix (ws : List V) : (Src.fix ws).len = ws.length := rfl
theorem o_newL (vs : List V) : OkO (newL vs) Q = (vs.length ≤ lenMax ∧ Q (.own false (.l vs))) := oko_if _ _ _
theorem e_val (p : Bool) (ws : List V) (j : Int) (v : V) : setV (.own p (.l ws)) (.int j) v = (L2.ixN ws.length j).map fun n => .own p (.l (ws.set n v)) := rfl
theorem e_dic (p : Bool) (kvs : List (Ky × V)) (k v : V) : OkO (setV (.own p (.d kvs)) k v) Q = OkO (kyOf k) fun q => kvs.length < lenMax ∧ Q (.own p (.d (kvPut kvs q v))) := by
  show OkO ((kyOf k).bind fun q => if kvs.length < lenMax then some (Sl.own p (.d (kvPut kvs q v))) else none) Q = _
  simp only [oko_bind, oko_if]; rfl
theorem y_int (i : Int) : kyOf (.int i) = some (.int i) := rfl
theorem y_str (s : List Nat) : kyOf (.str s) = some (.str s) := rfl
theorem f_nil (ws zs : List A) : fillA ws zs [] = some ws := rfl
theorem f_kw (ws zs : List A) (j : Nat) (r : List Fi) : fillA ws zs (.kw j :: r) = (zs[j]?).bind fun z => fillA (ws ++ [z]) zs r := by
  simp only [fillA]
  cases zs[j]? <;> rfl
theorem f_df (ws zs : List A) (w : SF.W) (r : List Fi) : fillA ws zs (.df w :: r) = (cvW w).bind fun v => fillA (ws ++ [.va v]) zs r := by
  simp only [fillA]
  cases cvW w <;> rfl
theorem cv_int (i : Int) : cvW (.int i) = some (.int i) := rfl
theorem cv_str (s : List Nat) : cvW (.str s) = some (.str s) := rfl
theorem cv_bl (b : Bool) : cvW (.bl b) = some (.bl b) := rfl
theorem cv_non : cvW .non = some .non := rfl
theorem cv_tup : cvW (.tup []) = some (.tup []) := rfl
theorem k_nil (σ : En) : takeA [] σ = some ([], σ) := rfl
theorem k_va (v : V) (as : List A) (σ : En) : takeA (.va v :: as) σ = (takeA as σ).map fun z => (.val v :: z.1, z.2) := rfl
theorem k_ow (i : Nat) (as : List A) (σ : En) : takeA (.ow i :: as) σ = match σ[i]? with
    | some (.own _ o) => (takeA as (σ.set i .no)).map fun z => (.own true o :: z.1, z.2)
    | _ => none := rfl
theorem u_nil (σ0 σ : En) (os : List Sl) : putA σ0 [] os σ = σ := by cases os <;> rfl
theorem u_va (σ0 σ : En) (v : V) (as : List A) (o : Sl) (os : List Sl) : putA σ0 (.va v :: as) (o :: os) σ = putA σ0 as os σ := rfl
theorem u_ow (σ0 σ : En) (i : Nat) (as : List A) (o : Ow) (os : List Sl) : putA σ0 (.ow i :: as) (.own true o :: os) σ = (putA σ0 as os σ).set i (.own (flagAt σ0 i) o) := rfl
end
theorem kp_val (v : V) : Sl.keep (.val v) = .no := rfl
theorem kp_no : Sl.keep .no = .no := rfl
theorem kp_f (o : Ow) : Sl.keep (.own false o) = .no := rfl
theorem kp_t (o : Ow) : Sl.keep (.own true o) = .own true o := rfl
def flagS (s : Sl) : Bool := match s with
  | .own p _ => p
  | _ => false
def flagO (o : Option Sl) : Bool := match o with
  | some s => flagS s
  | none => false
theorem fl_at (σ : En) (i : Nat) : flagAt σ i = flagO σ[i]? := by
  unfold flagAt
  cases σ[i]? with
  | none => rfl
  | some s => cases s <;> rfl
theorem fo_some (s : Sl) : flagO (some s) = flagS s := rfl
theorem fs_val (v : V) : flagS (.val v) = false := rfl
theorem fs_no : flagS .no = false := rfl
theorem fs_own (p : Bool) (o : Ow) : flagS (.own p o) = p := rfl
theorem sl_at (σ : En) (i : Nat) : slotL σ i = match σ[i]? with
    | some (.own p (.l vs)) => some (p, vs)
    | _ => none := rfl
theorem fz_val (v : V) : Sl.frz (.val v) = some v := rfl
theorem fz_own (p : Bool) (o : Ow) : Sl.frz (.own p o) = some o.v := rfl
theorem un_own (p : Bool) (o : Ow) : Sl.un (.own p o) = .own false o := rfl
end EP
set_option Elab.async false
set_option linter.all false
set_option maxRecDepth 100000
set_option maxHeartbeats 4000000
namespace EP
open PySem
open SF (Ky Bo Co Ty Bi Fi Sh lenMax bigOk small62)
theorem lm (n : Nat) (h : n ≤ 16777216) : (n ≤ lenMax) = True := eq_true h
/-! # data that are compared -/
def okS (s : List Nat) : Bool := s.all (· < 0x110000)
mutual
/-- None, bools, ints, texts, and lists and tuples of them -/
def gd : V → Bool
  | .non => true
  | .bl _ => true
  | .int _ => true
  | .str s => okS s
  | .tup vs => gds vs
  | .lst vs => gds vs
  | .ro vs => gds vs
  | _ => false
def gds : List V → Bool
  | [] => true
  | v :: vs => gd v && gds vs
end
mutual
/-- the same without bools -/
def nb : V → Bool
  | .non => true
  | .int _ => true
  | .str s => true
  | .tup vs => nbs vs
  | .lst vs => nbs vs
  | _ => false
def nbs : List V → Bool
  | [] => true
  | v :: vs => nb v && nbs vs
end
mutual
def dp : V → Nat
  | .tup vs => 1 + dps vs
  | .lst vs => 1 + dps vs
  | .ro vs => 1 + dps vs
  | _ => 0
def dps : List V → Nat
  | [] => 0
  | v :: vs => max (dp v) (dps vs)
end
mutual
def ld : V → Nat
  | .tup vs => lds vs
  | .lst vs => 1 + lds vs
  | .ro vs => 1 + lds vs
  | _ => 0
def lds : List V → Nat
  | [] => 0
  | v :: vs => max (ld v) (lds vs)
end
mutual
theorem dat_gd : ∀ (n : Nat) (v : V), gd v = true → ld v ≤ n → ∃ d, dat n v = some d ∧ d.canLay0 = true ∧ d.depth = dp v
  | n, .non, _, _ => ⟨.none, by simp only [dat], rfl, rfl⟩
  | n, .bl b, _, _ => ⟨.bool b, by simp only [dat], rfl, rfl⟩
  | n, .int i, _, _ => ⟨.int i, by simp only [dat], rfl, rfl⟩
  | n, .str s, h, _ => by
    refine ⟨.str ⟨s.toArray⟩, by simp only [dat], ?_, rfl⟩
    simp only [gd, okS] at h
    simp only [PyData.canLay0, PyData.strOk]
    simpa using h
  | n, .tup vs, h, l => by
    simp only [gd] at h
    simp only [ld] at l
    obtain ⟨ds, e, c, p⟩ := dats_gd n vs h l
    exact ⟨.tuple ds, by simp only [dat, e], by simpa only [PyData.canLay0] using c, by simp only [PyData.depth, dp, p]; omega⟩
  | 0, .lst vs, _, l => by simp only [ld] at l; omega
  | n + 1, .lst vs, h, l => by
    simp only [gd] at h
    simp only [ld] at l
    obtain ⟨ds, e, c, p⟩ := dats_gd n vs h (by omega)
    exact ⟨.list ds, by simp only [dat, e], by simpa only [PyData.canLay0] using c, by simp only [PyData.depth, dp, p]; omega⟩
  | 0, .ro vs, _, l => by simp only [ld] at l; omega
  | n + 1, .ro vs, h, l => by
    simp only [gd] at h
    simp only [ld] at l
    obtain ⟨ds, e, c, p⟩ := dats_gd n vs h (by omega)
    exact ⟨.list ds, by simp only [dat, e], by simpa only [PyData.canLay0] using c, by simp only [PyData.depth, dp, p]; omega⟩
  | n, .dic _, h, _ => by simp only [gd] at h; cases h
  | n, .dit _, h, _ => by simp only [gd] at h; cases h
  | n, .ins _ _, h, _ => by simp only [gd] at h; cases h
theorem dats_gd : ∀ (n : Nat) (vs : List V), gds vs = true → lds vs ≤ n → ∃ ds, dats n vs = some ds ∧ PyData.canLayAll0 ds = true ∧ PyData.depthAll ds = dps vs
  | n, [], _, _ => ⟨[], by simp only [dats], rfl, rfl⟩
  | n, v :: vs, h, l => by
    simp only [gds, Bool.and_eq_true] at h
    simp only [lds] at l
    obtain ⟨d, e, c, p⟩ := dat_gd n v h.1 (by omega)
    obtain ⟨ds, e2, c2, p2⟩ := dats_gd n vs h.2 (by omega)
    exact ⟨d :: ds, by simp only [dats, e, e2], by simp only [PyData.canLayAll0, c, c2, Bool.and_self], by simp only [PyData.depthAll, dps, p, p2]⟩
end
mutual
theorem eqv_refl : ∀ d : PyData, d.canLay0 = true → PyData.eqv d d = true
  | .none, _ => by simp only [PyData.eqv]
  | .bool b, _ => by simp only [PyData.eqv, beq_self_eq_true]
  | .int i, _ => by simp only [PyData.eqv, beq_self_eq_true]
  | .str s, _ => by simp only [PyData.eqv, beq_self_eq_true]
  | .list xs, h => by simp only [PyData.eqv]; exact eqvAll_refl xs (by simpa only [PyData.canLay0] using h)
  | .tuple xs, h => by simp only [PyData.eqv]; exact eqvAll_refl xs (by simpa only [PyData.canLay0] using h)
  | .dict _, h => by simp only [PyData.canLay0] at h; cases h
theorem eqvAll_refl : ∀ ds : List PyData, PyData.canLayAll0 ds = true → PyData.eqvAll ds ds = true
  | [], _ => by simp only [PyData.eqvAll]
  | d :: ds, h => by
    simp only [PyData.canLayAll0, Bool.and_eq_true] at h
    simp only [PyData.eqvAll, eqv_refl d h.1, eqvAll_refl ds h.2, Bool.and_self]
end
theorem shaped_gd {v : V} (h : gd v = true) (l : ld v ≤ 4) (p : dp v ≤ 64) : ∃ d, dat 4 v = some d ∧ SeqAt.shaped d = true ∧ d.canLay0 = true := by
  obtain ⟨d, e, c, q⟩ := dat_gd 4 v h l
  exact ⟨d, e, by unfold SeqAt.shaped; rw [c, q, decide_eq_true p]; rfl, c⟩
theorem eq_same {v : V} (h : gd v = true) (l : ld v ≤ 4) (p : dp v ≤ 64) : eqV v v = some true := by
  obtain ⟨d, e, s, c⟩ := shaped_gd h l p
  simp only [eqV, e, s, Bool.and_self, if_true, eqv_refl d c]
mutual
theorem eqv_inj : ∀ (n : Nat) (a b : V) (d e : PyData), nb a = true → nb b = true → dat n a = some d → dat n b = some e → PyData.eqv d e = true → a = b
  | n, a, b, d, e, ha, hb, h1, h2, h => by
    cases a with
    | bl _ => simp only [nb] at ha; cases ha
    | ro _ => simp only [nb] at ha; cases ha
    | dic _ => simp only [nb] at ha; cases ha
    | dit _ => simp only [nb] at ha; cases ha
    | ins _ _ => simp only [nb] at ha; cases ha
    | non =>
      simp only [dat] at h1; cases h1
      cases b <;> first | rfl | (simp only [nb] at hb; cases hb; done) | skip
      · simp only [dat] at h2; cases h2; simp only [PyData.eqv] at h; cases h
      · simp only [dat] at h2; cases h2; simp only [PyData.eqv] at h; cases h
      · simp only [dat] at h2; split at h2 <;> cases h2; simp only [PyData.eqv] at h; cases h
      · simp only [dat] at h2; split at h2 <;> first | cases h2 | skip
        split at h2 <;> cases h2; simp only [PyData.eqv] at h; cases h
    | int i =>
      simp only [dat] at h1; cases h1
      cases b <;> first | (simp only [nb] at hb; cases hb; done) | skip
      · simp only [dat] at h2; cases h2; simp only [PyData.eqv] at h; cases h
      · simp only [dat] at h2; cases h2; simp only [PyData.eqv, beq_iff_eq] at h; rw [h]
      · simp only [dat] at h2; cases h2; simp only [PyData.eqv] at h; cases h
      · simp only [dat] at h2; split at h2 <;> cases h2; simp only [PyData.eqv] at h; cases h
      · simp only [dat] at h2; split at h2 <;> first | cases h2 | skip
        split at h2 <;> cases h2; simp only [PyData.eqv] at h; cases h
    | str s =>
      simp only [dat] at h1; cases h1
      cases b <;> first | (simp only [nb] at hb; cases hb; done) | skip
      · simp only [dat] at h2; cases h2; simp only [PyData.eqv] at h; cases h
      · simp only [dat] at h2; cases h2; simp only [PyData.eqv] at h; cases h
      · simp only [dat] at h2; cases h2
        simp only [PyData.eqv, beq_iff_eq, Str.mk.injEq] at h
        rw [show s = _ from by simpa using congrArg Array.toList h]
      · simp only [dat] at h2; split at h2 <;> cases h2; simp only [PyData.eqv] at h; cases h
      · simp only [dat] at h2; split at h2 <;> first | cases h2 | skip
        split at h2 <;> cases h2; simp only [PyData.eqv] at h; cases h
    | tup vs =>
      simp only [dat] at h1
      split at h1
      · rename_i ds e1
        cases h1
        cases b <;> first | (simp only [nb] at hb; cases hb; done) | skip
        · simp only [dat] at h2; cases h2; simp only [PyData.eqv] at h; cases h
        · simp only [dat] at h2; cases h2; simp only [PyData.eqv] at h; cases h
        · simp only [dat] at h2; cases h2; simp only [PyData.eqv] at h; cases h
        · simp only [dat] at h2
          split at h2
          · rename_i es e2
            cases h2
            simp only [PyData.eqv] at h
            rw [eqvs_inj n vs _ ds es (by simpa only [nb] using ha) (by simpa only [nb] using hb) e1 e2 h]
          · cases h2
        · simp only [dat] at h2; split at h2 <;> first | cases h2 | skip
          split at h2 <;> cases h2; simp only [PyData.eqv] at h; cases h
      · cases h1
    | lst vs =>
      cases n with
      | zero => simp only [dat] at h1; cases h1
      | succ n =>
        simp only [dat] at h1
        split at h1
        · rename_i ds e1
          cases h1
          cases b <;> first | (simp only [nb] at hb; cases hb; done) | skip
          · simp only [dat] at h2; cases h2; simp only [PyData.eqv] at h; cases h
          · simp only [dat] at h2; cases h2; simp only [PyData.eqv] at h; cases h
          · simp only [dat] at h2; cases h2; simp only [PyData.eqv] at h; cases h
          · simp only [dat] at h2; split at h2 <;> cases h2; simp only [PyData.eqv] at h; cases h
          · simp only [dat] at h2
            split at h2
            · rename_i es e2
              cases h2
              simp only [PyData.eqv] at h
              rw [eqvs_inj n vs _ ds es (by simpa only [nb] using ha) (by simpa only [nb] using hb) e1 e2 h]
            · cases h2
        · cases h1
theorem eqvs_inj : ∀ (n : Nat) (as bs : List V) (ds es : List PyData), nbs as = true → nbs bs = true → dats n as = some ds → dats n bs = some es → PyData.eqvAll ds es = true → as = bs
  | n, [], bs, ds, es, ha, hb, h1, h2, h => by
    simp only [dats] at h1; cases h1
    cases bs with
    | nil => rfl
    | cons b bs =>
      simp only [dats] at h2
      split at h2
      · cases h2; simp only [PyData.eqvAll] at h; cases h
      · cases h2
  | n, a :: as, bs, ds, es, ha, hb, h1, h2, h => by
    simp only [nbs, Bool.and_eq_true] at ha
    simp only [dats] at h1
    split at h1
    · rename_i d ds' e1 e2
      cases h1
      cases bs with
      | nil => simp only [dats] at h2; cases h2; simp only [PyData.eqvAll] at h; cases h
      | cons b bs =>
        simp only [nbs, Bool.and_eq_true] at hb
        simp only [dats] at h2
        split at h2
        · rename_i e es' e3 e4
          cases h2
          simp only [PyData.eqvAll, Bool.and_eq_true] at h
          rw [eqv_inj n a b d e ha.1 hb.1 e1 e3 h.1, eqvs_inj n as bs ds' es' ha.2 hb.2 e2 e4 h.2]
        · cases h2
    · cases h1
end
theorem eq_diff {a b : V} (ga : gd a = true) (gb : gd b = true) (na : nb a = true) (n2 : nb b = true) (la : ld a ≤ 4) (lb : ld b ≤ 4) (pa : dp a ≤ 64) (pb : dp b ≤ 64) (h : a ≠ b) : eqV a b = some false := by
  obtain ⟨d, e, s, c⟩ := shaped_gd ga la pa
  obtain ⟨d2, e2, s2, c2⟩ := shaped_gd gb lb pb
  simp only [eqV, e, e2, s, s2, Bool.and_self, if_true, Option.some.injEq]
  cases hq : PyData.eqv d d2 with
  | false => rfl
  | true => exact absurd (eqv_inj 4 a b d d2 na n2 e e2 hq) h
theorem eq_int (i j : Int) : eqV (.int i) (.int j) = some (i == j) := rfl
theorem eq_bl (i j : Bool) : eqV (.bl i) (.bl j) = some (i == j) := rfl
theorem eq_str {s t : List Nat} (hs : okS s = true) (ht : okS t = true) : eqV (.str s) (.str t) = some (decide (s = t)) := by
  have l : ∀ s, ld (.str s) ≤ 4 := fun s => by simp only [ld]; omega
  have p : ∀ s, dp (.str s) ≤ 64 := fun s => by simp only [dp]; omega
  by_cases e : s = t
  · subst e; rw [eq_same (by simpa only [gd] using hs) (l _) (p _), decide_eq_true rfl]
  · rw [eq_diff (by simpa only [gd] using hs) (by simpa only [gd] using ht) rfl rfl (l _) (l _) (p _) (p _) (fun q => e (by injection q)), decide_eq_false e]
/-- a tuple against the empty one -/
theorem eq_tup0 {vs : List V} (h : gd (.tup vs) = true) (l : ld (.tup vs) ≤ 4) (p : dp (.tup vs) ≤ 64) : eqV (.tup vs) (.tup []) = some vs.isEmpty := by
  obtain ⟨d, e, s, c⟩ := shaped_gd h l p
  have e2 : dat 4 (.tup []) = some (.tuple []) := by simp only [dat, dats]
  simp only [eqV, e, e2, s, show SeqAt.shaped (.tuple []) = true from by decide, Bool.and_self, if_true, Option.some.injEq]
  simp only [dat] at e
  split at e
  · rename_i ds e3
    cases e
    cases vs with
    | nil => simp only [dats] at e3; cases e3; rfl
    | cons v vs =>
      simp only [dats] at e3
      split at e3 <;> cases e3
      rfl
  · cases e
theorem eq_lst0 {vs : List V} (h : gd (.lst vs) = true) (l : ld (.lst vs) ≤ 4) (p : dp (.lst vs) ≤ 64) : eqV (.lst vs) (.lst []) = some vs.isEmpty := by
  obtain ⟨d, e, s, c⟩ := shaped_gd h l p
  have e2 : dat 4 (.lst []) = some (.list []) := by simp only [dat, dats]
  simp only [eqV, e, e2, s, show SeqAt.shaped (.list []) = true from by decide, Bool.and_self, if_true, Option.some.injEq]
  simp only [dat] at e
  split at e
  · rename_i ds e3
    cases e
    cases vs with
    | nil => simp only [dats] at e3; cases e3; rfl
    | cons v vs =>
      simp only [dats] at e3
      split at e3 <;> cases e3
      rfl
  · cases e
theorem gds_iff {vs : List V} : gds vs = true ↔ ∀ v ∈ vs, gd v = true := by
  induction vs with
  | nil => simp [gds]
  | cons v vs ih => simp [gds, ih]
theorem nbs_iff {vs : List V} : nbs vs = true ↔ ∀ v ∈ vs, nb v = true := by
  induction vs with
  | nil => simp [nbs]
  | cons v vs ih => simp [nbs, ih]
theorem dps_le {vs : List V} {n : Nat} (h : ∀ v ∈ vs, dp v ≤ n) : dps vs ≤ n := by
  induction vs with
  | nil => simp [dps]
  | cons v vs ih =>
    simp only [dps]
    have := h v List.mem_cons_self
    have := ih fun v q => h v (List.mem_cons_of_mem _ q)
    omega
theorem lds_le {vs : List V} {n : Nat} (h : ∀ v ∈ vs, ld v ≤ n) : lds vs ≤ n := by
  induction vs with
  | nil => simp [lds]
  | cons v vs ih =>
    simp only [lds]
    have := h v List.mem_cons_self
    have := ih fun v q => h v (List.mem_cons_of_mem _ q)
    omega
theorem dp_mem {vs : List V} {v : V} (h : v ∈ vs) : dp v ≤ dps vs := by
  induction vs with
  | nil => cases h
  | cons u vs ih =>
    simp only [dps]
    rcases List.mem_cons.mp h with rfl | h
    · omega
    · have := ih h; omega
theorem ld_mem {vs : List V} {v : V} (h : v ∈ vs) : ld v ≤ lds vs := by
  induction vs with
  | nil => cases h
  | cons u vs ih =>
    simp only [lds]
    rcases List.mem_cons.mp h with rfl | h
    · omega
    · have := ih h; omega
mutual
/-- the greatest length -/
def wid : V → Nat
  | .tup vs => max vs.length (wids vs)
  | .lst vs => max vs.length (wids vs)
  | .ro vs => max vs.length (wids vs)
  | _ => 0
def wids : List V → Nat
  | [] => 0
  | v :: vs => max (wid v) (wids vs)
end
theorem wid_mem {vs : List V} {v : V} (h : v ∈ vs) : wid v ≤ wids vs := by
  induction vs with
  | nil => cases h
  | cons u vs ih =>
    simp only [wids]
    rcases List.mem_cons.mp h with rfl | h
    · omega
    · have := ih h; omega
theorem wids_le {vs : List V} {n : Nat} (h : ∀ v ∈ vs, wid v ≤ n) : wids vs ≤ n := by
  induction vs with
  | nil => simp [wids]
  | cons v vs ih =>
    simp only [wids]
    have := h v List.mem_cons_self
    have := ih fun v q => h v (List.mem_cons_of_mem _ q)
    omega
mutual
/-- no list of the script within -/
def nr : V → Bool
  | .non | .bl _ | .int _ | .str _ => true
  | .tup vs => nrs vs
  | .lst vs => nrs vs
  | _ => false
def nrs : List V → Bool
  | [] => true
  | v :: vs => nr v && nrs vs
end
theorem nrs_iff {vs : List V} : nrs vs = true ↔ ∀ v ∈ vs, nr v = true := by
  induction vs with
  | nil => simp [nrs]
  | cons v vs ih => simp [nrs, ih]
theorem ixn {n d : Nat} (h : d < n) : L2.ixN n (d : Int) = some d := by
  unfold L2.ixN; rw [if_pos (by omega), if_pos (by omega), Int.toNat_natCast]
theorem rng_of {j : Nat} (h : j < 1000000) : rngOf (.int j) = some (.rng 0 j) := by
  unfold rngOf SF.small62
  have a : decide (-(2 ^ 62) ≤ (j : Int)) = true := decide_eq_true (by omega)
  have b : decide ((j : Int) < 2 ^ 62) = true := decide_eq_true (by omega)
  simp only [a, b, Bool.and_self, if_true, Int.toNat_natCast]
theorem rng_len (j : Nat) : (Src.rng 0 j).len = j := rfl
theorem rng_at {n i : Nat} (h : i < n) : (Src.rng 0 n).at i = some (.int i) := by
  show (if i < n then some (V.int (0 + (i : Int))) else none) = _
  rw [if_pos h, Int.zero_add]
theorem rng_end (n : Nat) : (Src.rng 0 n).at n = none := by
  show (if n < n then some (V.int (0 + (n : Int))) else none) = _
  rw [if_neg (Nat.lt_irrefl _)]
theorem ixn_neg {n : Nat} {i : Int} (h : i < 0) (h2 : 0 ≤ (n : Int) + i) : L2.ixN n i = some ((n : Int) + i).toNat := by
  unfold L2.ixN
  rw [if_neg (by omega), if_pos (by omega), Int.add_comm]
theorem cut_all (ws : List V) : cutV ws none none = ws := by
  show (ws.drop 0).take (ws.length - 0) = ws
  simp
theorem cut_to (ws : List V) {i : Int} (h : 0 ≤ i) : cutV ws none (some i) = ws.take i.toNat := by
  show (ws.drop 0).take ((if i < 0 then (i + (ws.length : Int)).toNat else min i.toNat ws.length) - 0) = _
  rw [if_neg (by omega), List.drop_zero, Nat.sub_zero]
  rcases Nat.le_total i.toNat ws.length with q | q
  · rw [Nat.min_eq_left q]
  · rw [Nat.min_eq_right q, List.take_length, List.take_of_length_le q]
theorem cut_toN (ws : List V) {i : Int} (h : i < 0) : cutV ws none (some i) = ws.take ((ws.length : Int) + i).toNat := by
  show (ws.drop 0).take ((if i < 0 then (i + (ws.length : Int)).toNat else min i.toNat ws.length) - 0) = _
  rw [if_pos h, List.drop_zero, Nat.sub_zero, Int.add_comm]
theorem cut_from (ws : List V) {i : Int} (h : 0 ≤ i) : cutV ws (some i) none = ws.drop i.toNat := by
  show (ws.drop (if i < 0 then (i + (ws.length : Int)).toNat else min i.toNat ws.length)).take (ws.length - (if i < 0 then (i + (ws.length : Int)).toNat else min i.toNat ws.length)) = _
  rw [if_neg (by omega)]
  rcases Nat.le_total i.toNat ws.length with q | q
  · rw [Nat.min_eq_left q, List.take_of_length_le (by rw [List.length_drop]; exact Nat.le_refl _)]
  · rw [Nat.min_eq_right q, List.drop_length, List.drop_of_length_le q]; simp
theorem free_inj {c : Nat} : ∀ {x y a b : List Nat}, c ∉ x → c ∉ y → x ++ c :: a = y ++ c :: b → x = y ∧ a = b
  | [], [], a, b, _, _, h => ⟨rfl, by simpa using h⟩
  | [], d :: y, a, b, _, hy, h => by
    simp only [List.nil_append, List.cons_append, List.cons.injEq] at h
    exact absurd (h.1 ▸ List.mem_cons_self) hy
  | d :: x, [], a, b, hx, _, h => by
    simp only [List.nil_append, List.cons_append, List.cons.injEq] at h
    exact absurd (h.1 ▸ List.mem_cons_self) hx
  | d :: x, e :: y, a, b, hx, hy, h => by
    simp only [List.cons_append, List.cons.injEq] at h
    obtain ⟨q1, q2⟩ := free_inj (fun q => hx (List.mem_cons_of_mem _ q)) (fun q => hy (List.mem_cons_of_mem _ q)) h.2
    exact ⟨by rw [h.1, q1], q2⟩
theorem jn_inj {c : Nat} : ∀ {ps qs : List (List Nat)}, ps ≠ [] → qs ≠ [] → (∀ p ∈ ps, c ∉ p) → (∀ p ∈ qs, c ∉ p) → jn [c] ps = jn [c] qs → ps = qs
  | [], _, h, _, _, _, _ => absurd rfl h
  | _, [], _, h, _, _, _ => absurd rfl h
  | [x], [y], _, _, _, _, h => by simp only [jn] at h; rw [h]
  | [x], y :: z :: r, _, _, hp, _, h => by
    simp only [jn] at h
    exact absurd (by rw [h]; simp) (hp x List.mem_cons_self)
  | x :: z :: r, [y], _, _, _, hq, h => by
    simp only [jn] at h
    exact absurd (by rw [← h]; simp) (hq y List.mem_cons_self)
  | x :: z :: r, y :: u :: t, _, _, hp, hq, h => by
    simp only [jn, List.append_assoc, List.singleton_append] at h
    obtain ⟨q1, q2⟩ := free_inj (hp x List.mem_cons_self) (hq y List.mem_cons_self) h
    rw [q1, jn_inj (by simp) (by simp) (fun p h => hp p (List.mem_cons_of_mem _ h)) (fun p h => hq p (List.mem_cons_of_mem _ h)) q2]
theorem split_ne (x y : Str) : Txt.split x y ≠ [] := by
  unfold Txt.split
  split
  · simp
  · split
    · simp
    · rw [StrLaws.partsBetween_eq]
      obtain ⟨p, r, e⟩ := StrLaws.partsFrom_ne x y.length 0 (Builtin.Str.occurrences x y 0 x.length (x.length + 1))
      rw [e]
      simp
theorem split_jn {c : Nat} {ps : List (List Nat)} (h : ps ≠ []) (hf : ∀ p ∈ ps, c ∉ p) : (Txt.split (sS (jn [c] ps)) (sS [c])).map (fun x => V.str x.cps.toList) = ps.map V.str := by
  have a := StrLaws.join_split (sS (jn [c] ps)) (sS [c])
  have b : ∀ p ∈ Txt.split (sS (jn [c] ps)) (sS [c]), c ∉ p.cps.toList := StrLaws.split_free (sS (jn [c] ps)) c
  have ne := split_ne (sS (jn [c] ps)) (sS [c])
  generalize Txt.split (sS (jn [c] ps)) (sS [c]) = qs at a b ne
  have e : qs = (qs.map fun q => q.cps.toList).map sS := by
    rw [List.map_map]
    conv => lhs; rw [← List.map_id qs]
    apply List.map_congr_left
    intro q _
    simp [sS]
  have e2 : jn [c] (qs.map fun q => q.cps.toList) = jn [c] ps := by
    have q := join_jn [c] (qs.map fun q => q.cps.toList)
    unfold Txt.join at q
    rw [StrLaws.glued_eq_join, ← e, a] at q
    have := congrArg (fun s => s.cps.toList) q
    simpa [sS] using this.symm
  have e3 := jn_inj (c := c) (by simpa using ne) h (fun p hp => by
    obtain ⟨q, hq, rfl⟩ := List.mem_map.mp hp
    exact b q hq) hf e2
  rw [← e3, List.map_map]
  rfl

theorem split_ok {ps : List (List Nat)} {c : Nat} {Q : Sl → Prop} (h : ps ≠ []) (hf : ∀ p ∈ ps, c ∉ p) (hz : (jn [c] ps).length + 2 ≤ lenMax) (hl : ps.length ≤ lenMax) (q : Q (.own false (.l (ps.map .str)))) : OkO (meV .split (jn [c] ps) [.str [c]]) Q := by
  rw [m_split, split_jn h hf, o_newL, List.length_map]
  exact ⟨⟨by simp, hz⟩, hl, q⟩
theorem star1 {i j : Nat} {v y : V} {xs : List V} {σ : En} (h : seqV v = some (xs ++ [y])) (hz : xs.length + 1 ≤ lenMax) : asgT (.tu (.star i (.cons (.na j) .nil))) v σ = (setS σ i (.val (.lst xs))).bind fun σ => setS σ j (.val y) := by
  have e1 : starIx (.star i (.cons (.na j) .nil)) = some 0 := rfl
  have e2 : tgsLen (.star i (.cons (.na j) .nil)) = 2 := rfl
  simp only [asgT, e1, e2, h, List.length_append, List.length_cons, List.length_nil]
  rw [if_pos ⟨by omega, by omega⟩]
  have t : (List.drop 0 (xs ++ [y])).take (xs.length + (0 + 1) - 0 - (2 - 1 - 0)) = xs := by
    rw [List.drop_zero, show xs.length + (0 + 1) - 0 - (2 - 1 - 0) = xs.length from by omega]; simp
  have d : (List.drop 0 (xs ++ [y])).drop (xs.length + (0 + 1) - 0 - (2 - 1 - 0)) = [y] := by
    rw [List.drop_zero, show xs.length + (0 + 1) - 0 - (2 - 1 - 0) = xs.length from by omega]; simp
  rw [t, d]
  simp only [List.take_zero, List.nil_append, List.cons_append, asgTs, asgT]
  congr 1; funext σ
  cases setS σ j (.val y) <;> rfl
end EP
set_option Elab.async false
set_option linter.all false
set_option maxRecDepth 100000
set_option maxHeartbeats 4000000
namespace EP
open PySem
open SF (Ky Bo Co Ty Bi Fi Sh lenMax bigOk small62)
/-! # stripped texts -/
def trim (g : Nat → Bool) (s : List Nat) : List Nat := ((s.dropWhile g).reverse.dropWhile g).reverse
theorem take_len_tw (g : Nat → Bool) (s : List Nat) : s.take (s.length - (s.reverse.takeWhile g).length) = (s.reverse.dropWhile g).reverse := by
  have h : s.reverse.takeWhile g ++ s.reverse.dropWhile g = s.reverse := List.takeWhile_append_dropWhile
  have h2 := congrArg List.reverse h
  rw [List.reverse_append, List.reverse_reverse] at h2
  have h3 : (s.reverse.dropWhile g).reverse.length = s.length - (s.reverse.takeWhile g).length := by
    have := congrArg List.length h2
    simp only [List.length_append, List.length_reverse] at this ⊢
    omega
  conv => lhs; rw [← h3]
  conv => lhs; arg 2; rw [← h2]
  exact List.take_left
theorem strip_eq (g : Nat → Bool) (s : List Nat) : (Txt.stripBy g true true (sS s)).cps.toList = trim g s := by
  rw [W.stripBy_eq]
  unfold W.stripped
  simp only [if_true]
  rw [StrLaws.strSub_toList]
  show ((s.toArray.toList).drop _).take _ = _
  simp only [sS]
  have e : s.drop (s.takeWhile g).length = s.dropWhile g := by
    conv => lhs; arg 2; rw [← List.takeWhile_append_dropWhile (p := g) (l := s)]
    exact List.drop_left
  have hl : s.length = (s.takeWhile g).length + (s.dropWhile g).length := by
    conv => lhs; rw [← List.takeWhile_append_dropWhile (p := g) (l := s)]
    exact List.length_append
  rw [show (⟨s.toArray⟩ : Str).length = s.length from by show s.toArray.size = _; simp]
  rw [e, hl, show (s.takeWhile g).length + (s.dropWhile g).length - ((s.dropWhile g).reverse.takeWhile g).length - (s.takeWhile g).length = (s.dropWhile g).length - ((s.dropWhile g).reverse.takeWhile g).length from by omega]
  exact take_len_tw g _
theorem dw_head (g : Nat → Bool) : ∀ (s : List Nat) (c : Nat), (s.dropWhile g).head? = some c → g c = false
  | [], _, h => by cases h
  | x :: s, c, h => by
    rw [List.dropWhile_cons] at h
    split at h
    · exact dw_head g s c h
    · rename_i hx; simp at h; subst h; simpa using hx
theorem dw_last (g : Nat → Bool) : ∀ (s : List Nat), s.dropWhile g ≠ [] → (s.dropWhile g).getLast? = s.getLast?
  | [], h => rfl
  | x :: s, h => by
    rw [List.dropWhile_cons] at h ⊢
    split
    · rename_i hx
      rw [if_pos hx] at h
      rw [dw_last g s h]
      cases s with
      | nil => exact absurd rfl h
      | cons y s => rw [List.getLast?_cons_cons]
    · rfl
theorem trim_mem {g : Nat → Bool} {s : List Nat} {c : Nat} (h : c ∈ trim g s) : c ∈ s := by
  unfold trim at h
  rw [List.mem_reverse] at h
  have h2 := (List.dropWhile_sublist g).subset h
  rw [List.mem_reverse] at h2
  exact (List.dropWhile_sublist g).subset h2
theorem trim_len (g : Nat → Bool) (s : List Nat) : (trim g s).length ≤ s.length := by
  unfold trim
  rw [List.length_reverse]
  have h1 := (List.dropWhile_sublist (l := (s.dropWhile g).reverse) g).length_le
  have h2 := (List.dropWhile_sublist (l := s) g).length_le
  rw [List.length_reverse] at h1
  omega
theorem trim_ends {g : Nat → Bool} {s : List Nat} : (∀ c, (trim g s).head? = some c → g c = false) ∧ ∀ c, (trim g s).getLast? = some c → g c = false := by
  unfold trim
  constructor
  · intro c h
    rw [List.head?_reverse] at h
    have ne : (s.dropWhile g).reverse.dropWhile g ≠ [] := fun e => by rw [e] at h; cases h
    rw [dw_last g _ ne, List.getLast?_reverse] at h
    exact dw_head g s c h
  · intro c h
    rw [List.getLast?_reverse] at h
    exact dw_head g _ c h
/-! # nodes and pages -/
inductive Frm where | flat | opn | comma
  deriving DecidableEq
def fS : Frm → List Nat
  | .flat => [102, 108, 97, 116]
  | .opn => [111, 112, 101, 110]
  | .comma => [99, 111, 109, 109, 97]
inductive Nd where
  | mk (w : List Nat) (f : Frm) (k : List Nd) (l : List (List Nat)) (t : List Nat) (r : List (List Nat))
mutual
def nodeV : Nd → V
  | .mk w f k l t r => .tup [.str w, .str (fS f), .tup (nodesV k), .tup (l.map .str), .str t, .tup (r.map .str)]
def nodesV : List Nd → List V
  | [] => []
  | n :: ns => nodeV n :: nodesV ns
end
theorem nodes_map : ∀ ns : List Nd, nodesV ns = ns.map nodeV
  | [] => by simp only [nodesV, List.map_nil]
  | n :: ns => by simp only [nodesV, List.map_cons, nodes_map ns]
theorem node_eq (w : List Nat) (f : Frm) (k : List Nd) (l : List (List Nat)) (t : List Nat) (r : List (List Nat)) : nodeV (.mk w f k l t r) = .tup [.str w, .str (fS f), .tup (k.map nodeV), .tup (l.map .str), .str t, .tup (r.map .str)] := by
  simp only [nodeV, nodes_map]
def Nd.w : Nd → List Nat | .mk w _ _ _ _ _ => w
def Nd.f : Nd → Frm | .mk _ f _ _ _ _ => f
def Nd.k : Nd → List Nd | .mk _ _ k _ _ _ => k
def Nd.l : Nd → List (List Nat) | .mk _ _ _ l _ _ => l
def Nd.t : Nd → List Nat | .mk _ _ _ _ t _ => t
def Nd.r : Nd → List (List Nat) | .mk _ _ _ _ _ r => r
mutual
/-- how many nodes -/
def sz : Nd → Nat
  | .mk _ _ k _ _ _ => 1 + szs k
def szs : List Nd → Nat
  | [] => 0
  | n :: ns => sz n + szs ns
end
mutual
/-- how high -/
def ht : Nd → Nat
  | .mk _ _ k _ _ _ => hts k
def hts : List Nd → Nat
  | [] => 0
  | n :: ns => max (ht n + 1) (hts ns)
end
/-- a comment -/
structure Cm (s : List Nat) : Prop where
  ne : s ≠ []
  len : s.length ≤ 60
  ch : ∀ c ∈ s, 32 ≤ c ∧ c ≤ 126 ∧ c ≠ 37
  hd : s.head? ≠ some 32
  lt : s.getLast? ≠ some 32
def letters : List Nat := [97, 98, 99, 100, 101, 102, 103, 104, 105, 106, 107, 108, 109, 110, 111, 112, 113, 114, 115, 116, 117, 118, 119, 120, 121, 122, 65, 66, 67, 68, 69, 70, 71, 72, 73, 74, 75, 76, 77, 78, 79, 80, 81, 82, 83, 84, 85, 86, 87, 88, 89, 90, 48, 49, 50, 51, 52, 53, 54, 55, 56, 57]
/-- a word -/
structure Wd (g : Nat) (s : List Nat) : Prop where
  ne : s ≠ []
  len : s.length ≤ g
  ch : ∀ c ∈ s, c ∈ letters
def Nd.bare (n : Nd) : Prop := n.f = .flat ∧ n.l = [] ∧ n.t = []
mutual
/-- a right node, its words of at most g letters, at most L comments ahead of a node -/
def Rt (g L : Nat) : Nd → Prop
  | .mk w f k l t r => Wd g w ∧ (∀ x ∈ l, Cm x) ∧ (t = [] ∨ Cm t) ∧ (∀ x ∈ r, Cm x) ∧ (k = [] → f = .flat ∧ r = []) ∧ (f = .flat → r = [] ∧ ∀ x ∈ k, x.bare) ∧ l.length ≤ L ∧ r.length ≤ 40 ∧ Rts g L k
def Rts (g L : Nat) : List Nd → Prop
  | [] => True
  | n :: ns => Rt g L n ∧ Rts g L ns
end
theorem Rts_iff {g L : Nat} {ns : List Nd} : Rts g L ns ↔ ∀ n ∈ ns, Rt g L n := by
  induction ns with
  | nil => simp [Rts]
  | cons n ns ih => simp [Rts, ih]
theorem szs_app (a b : List Nd) : szs (a ++ b) = szs a + szs b := by
  induction a with
  | nil => simp [szs]
  | cons n a ih => simp [szs, ih]; omega
theorem hts_le {ns : List Nd} {d : Nat} (h : ∀ n ∈ ns, ht n + 1 ≤ d) : hts ns ≤ d := by
  induction ns with
  | nil => simp [hts]
  | cons n ns ih =>
    simp only [hts]
    have := h n List.mem_cons_self
    have := ih fun m hm => h m (List.mem_cons_of_mem _ hm)
    omega
theorem ht_mem {ns : List Nd} {n : Nd} (h : n ∈ ns) : ht n + 1 ≤ hts ns := by
  induction ns with
  | nil => cases h
  | cons m ns ih =>
    simp only [hts]
    rcases List.mem_cons.mp h with rfl | h
    · omega
    · have := ih h; omega
theorem sz_mem {ns : List Nd} {n : Nd} (h : n ∈ ns) : sz n ≤ szs ns := by
  induction ns with
  | nil => cases h
  | cons m ns ih =>
    simp only [szs]
    rcases List.mem_cons.mp h with rfl | h
    · omega
    · have := ih h; omega
theorem sz_pos (n : Nd) : 1 ≤ sz n := by cases n; simp only [sz]; omega
theorem len_szs (ns : List Nd) : ns.length ≤ szs ns := by
  induction ns with
  | nil => simp [szs]
  | cons n ns ih =>
    simp only [szs, List.length_cons]
    have := sz_pos n
    omega
theorem Cm.ok {s : List Nat} (h : Cm s) : okS s = true := by
  unfold okS
  rw [List.all_eq_true]
  intro c hc
  have := (h.ch c hc).2.1
  simp; omega
theorem letters_lt : ∀ c ∈ letters, 48 ≤ c ∧ c ≤ 122 := by decide
theorem Wd.ok {g : Nat} {s : List Nat} (h : Wd g s) : okS s = true := by
  unfold okS
  rw [List.all_eq_true]
  intro c hc
  have := (letters_lt c (h.ch c hc)).2
  simp; omega
theorem fS_ok (f : Frm) : okS (fS f) = true := by cases f <;> decide
theorem strs_gd {ts : List (List Nat)} (h : ∀ t ∈ ts, okS t = true) : gds (ts.map V.str) = true := by
  rw [gds_iff]
  intro v hv
  obtain ⟨t, ht, rfl⟩ := List.mem_map.mp hv
  exact h t ht
theorem strs_leaf (ts : List (List Nat)) : dps (ts.map V.str) = 0 ∧ lds (ts.map V.str) = 0 ∧ wids (ts.map V.str) = 0 ∧ nrs (ts.map V.str) = true ∧ nbs (ts.map V.str) = true := by
  induction ts with
  | nil => exact ⟨rfl, rfl, rfl, rfl, rfl⟩
  | cons t ts ih =>
    obtain ⟨a, b, c, d, e⟩ := ih
    simp only [List.map_cons, dps, dp, lds, ld, wids, wid, nrs, nr, nbs, nb, a, b, c, d, e]
    exact ⟨rfl, rfl, rfl, rfl, rfl⟩
mutual
theorem node_gd {g L : Nat} : ∀ (n : Nd), Rt g L n → gd (nodeV n) = true
  | .mk w f k l t r, h => by
    simp only [Rt] at h
    obtain ⟨h1, h2, h3, h4, _, _, _, _, h5⟩ := h
    have q1 := strs_gd (ts := l) fun t ht => (h2 t ht).ok
    have q2 := strs_gd (ts := r) fun t ht => (h4 t ht).ok
    have q3 : okS t = true := by rcases h3 with rfl | h3; · rfl
                                 · exact h3.ok
    simp only [nodeV, gd, gds, h1.ok, fS_ok, nodes_gd k h5, q1, q2, q3, Bool.and_self]
theorem nodes_gd {g L : Nat} : ∀ (ns : List Nd), Rts g L ns → gds (nodesV ns) = true
  | [], _ => by simp only [nodesV, gds]
  | n :: ns, h => by
    simp only [Rts] at h
    simp only [nodesV, gds, node_gd n h.1, nodes_gd ns h.2, Bool.and_self]
end
mutual
theorem node_nb : ∀ (n : Nd), nb (nodeV n) = true ∧ nr (nodeV n) = true ∧ ld (nodeV n) = 0 ∧ dp (nodeV n) = 2 + 2 * ht n
  | .mk w f k l t r => by
    obtain ⟨a1, a2, a3, a4, a5⟩ := strs_leaf l
    obtain ⟨b1, b2, b3, b4, b5⟩ := strs_leaf r
    obtain ⟨c1, c2, c3, c4⟩ := nodes_nb k
    simp only [nodeV, nb, nbs, nr, nrs, ld, lds, dp, dps, a1, a2, a4, a5, b1, b2, b4, b5, c1, c2, c3, ht]
    refine ⟨rfl, rfl, rfl, ?_⟩
    rcases c4 with ⟨c4, c5⟩ | c4 <;> omega
theorem nodes_nb : ∀ (ns : List Nd), nbs (nodesV ns) = true ∧ nrs (nodesV ns) = true ∧ lds (nodesV ns) = 0 ∧ ((dps (nodesV ns) = 0 ∧ hts ns = 0) ∨ dps (nodesV ns) = 2 * hts ns)
  | [] => by simp only [nodesV, nbs, nrs, lds, dps, hts]; exact ⟨trivial, trivial, trivial, .inl ⟨trivial, trivial⟩⟩
  | n :: ns => by
    obtain ⟨a1, a2, a3, a4⟩ := node_nb n
    obtain ⟨b1, b2, b3, b4⟩ := nodes_nb ns
    simp only [nodesV, nbs, nrs, lds, dps, hts, a1, a2, a3, a4, b1, b2, b3]
    refine ⟨rfl, rfl, rfl, .inr ?_⟩
    rcases b4 with ⟨b4, b5⟩ | b4 <;> omega
end
mutual
theorem node_wid {g L : Nat} : ∀ (n : Nd), Rt g L n → wid (nodeV n) ≤ sz n + L + 40
  | .mk w f k l t r, h => by
    simp only [Rt] at h
    obtain ⟨_, _, _, _, _, _, h6, h7, h5⟩ := h
    obtain ⟨a1, a2, a3, a4, a5⟩ := strs_leaf l
    obtain ⟨b1, b2, b3, b4, b5⟩ := strs_leaf r
    have q := nodes_wid k h5
    have q2 := len_szs k
    have q3 : (nodesV k).length = k.length := by rw [nodes_map, List.length_map]
    simp only [nodeV, wid, wids, sz, a3, b3, q3, List.length_cons, List.length_nil, List.length_map]
    omega
theorem nodes_wid {g L : Nat} : ∀ (ns : List Nd), Rts g L ns → wids (nodesV ns) ≤ szs ns + L + 40
  | [], _ => by simp only [nodesV, wids]; omega
  | n :: ns, h => by
    simp only [Rts] at h
    have a := node_wid n h.1
    have b := nodes_wid ns h.2
    simp only [nodesV, wids, szs]
    omega
end
mutual
theorem node_inj : ∀ (a b : Nd), nodeV a = nodeV b → a = b
  | .mk w f k l t r, .mk w' f' k' l' t' r', h => by
    simp only [nodeV, V.tup.injEq, List.cons.injEq, V.str.injEq] at h
    obtain ⟨h1, h2, h3, h4, h5, h6, _⟩ := h
    have e2 : f = f' := by cases f <;> cases f' <;> first | rfl | (simp [fS] at h2)
    have inj : ∀ {a b : List (List Nat)}, a.map V.str = b.map V.str → a = b := fun {a b} e => List.map_inj_right (fun x y q => by injection q) |>.mp e
    rw [h1, e2, nodes_inj k k' h3, inj h4, h5, inj h6]
theorem nodes_inj : ∀ (a b : List Nd), nodesV a = nodesV b → a = b
  | [], [], _ => rfl
  | [], b :: bs, h => by simp only [nodesV] at h; cases h
  | a :: as, [], h => by simp only [nodesV] at h; cases h
  | a :: as, b :: bs, h => by
    simp only [nodesV, List.cons.injEq] at h
    rw [node_inj a b h.1, nodes_inj as bs h.2]
end
end EP
namespace EP
open PySem
open SF (Ky Bo Co Ty Bi Fi Sh lenMax bigOk small62)
theorem it_str {s : List Nat} {d : Nat} (h : d < s.length) (hl : s.length ≤ 16777216) : itemV (.str s) (.int d) = some (.str [s[d]]) := by
  show (if s.length ≤ lenMax then (L2.ixN s.length (d : Int)).bind fun k => (s[k]?).map fun c => V.str [c] else none) = _
  rw [if_pos (show s.length ≤ lenMax from hl), ixn h, Option.bind_some, List.getElem?_eq_getElem h]; rfl
theorem strs_of : ∀ ts : List (List Nat), strsOf (ts.map .str) = some ts
  | [] => rfl
  | t :: r => by simp only [List.map_cons, strsOf, strs_of r, Option.map_some]
theorem sum_le {B : Nat} : ∀ ps : List (List Nat), (∀ p ∈ ps, p.length ≤ B) → (ps.map List.length).sum ≤ ps.length * B
  | [], _ => by simp
  | p :: r, h => by
    have a := h p List.mem_cons_self
    have b := sum_le r fun q hq => h q (List.mem_cons_of_mem _ hq)
    rw [List.map_cons, List.sum_cons, List.length_cons, Nat.succ_mul]
    omega
theorem join_ok {sep : List Nat} {ps : List (List Nat)} {l : V} {Q : Sl → Prop} (B : Nat) (hl : seqV l = some (ps.map .str)) (hB : ∀ p ∈ ps, p.length ≤ B) (hz : ps.length * B + ps.length * sep.length ≤ lenMax) (q : Q (.val (.str (jn sep ps)))) : OkO (meV .join sep [l]) Q := by
  rw [m_join, hl, oko_some, strs_of, oko_some]
  have := sum_le ps hB
  refine ⟨?_, q⟩
  show (ps.map List.length).sum + _ ≤ _
  omega
theorem jn_cons (sep x : List Nat) {r : List (List Nat)} (h : r ≠ []) : jn sep (x :: r) = x ++ sep ++ jn sep r := by
  cases r with
  | nil => exact absurd rfl h
  | cons y r => rfl
theorem jn_nil : ∀ b : List (List Nat), jn [] b = b.flatten
  | [] => rfl
  | [x] => by simp [jn]
  | x :: y :: r => by
    rw [jn_cons _ _ (by simp), jn_nil (y :: r)]
    simp
theorem jn_ones (s : List Nat) : jn [] (s.map fun c => [c]) = s := by
  rw [jn_nil]
  induction s with
  | nil => rfl
  | cons c s ih => rw [List.map_cons, List.flatten_cons, ih]; rfl
theorem join_ones {s : List Nat} {Q : Sl → Prop} (h : s.length ≤ 16777216) (q : Q (.val (.str s))) : OkO (meV .join [] [.lst (s.map fun c => .str [c])]) Q := by
  refine join_ok (ps := s.map fun c => [c]) 1 (by rw [q_lst, List.map_map]; rfl) (fun p hp => ?_) ?_ (by rw [jn_ones]; exact q)
  · obtain ⟨c, _, rfl⟩ := List.mem_map.mp hp; simp
  · simp only [List.length_map, List.length_nil]; unfold SF.lenMax; omega
theorem strip_is (s : List Nat) : stripV .strip s = trim Unicode.isSpace s := strip_eq Unicode.isSpace s
theorem Cm.of_trim {s : List Nat} (ne : s ≠ []) (len : s.length ≤ 60) (ch : ∀ c ∈ s, 32 ≤ c ∧ c ≤ 126 ∧ c ≠ 37) (h : trim Unicode.isSpace s = s) : Cm s := by
  have e := trim_ends (g := Unicode.isSpace) (s := s)
  rw [h] at e
  refine ⟨ne, len, ch, fun q => ?_, fun q => ?_⟩
  · have := e.1 32 q; revert this; decide
  · have := e.2 32 q; revert this; decide
theorem Cm.n : Cm [110] := ⟨by simp, by simp, by decide, by decide, by decide⟩
end EP
set_option Elab.async false
set_option linter.all false
set_option maxRecDepth 100000
set_option maxHeartbeats 4000000
namespace K20
open EP
open SF (Ky Bo Co Ty Bi Fi Sh lenMax bigOk small62)
def i_q_chest : Nat := 0
def i_q_scoop : Nat := 1
def i_q_same : Nat := 2
def i_q_name : Nat := 3
def i_q_remark : Nat := 4
def i_q_some_remarks : Nat := 5
def i_q_bare_node : Nat := 6
def i_q_drawn_node : Nat := 7
def i_q_drawn_page : Nat := 8
def i_q_fields_right : Nat := 9
def i_q_widths_right : Nat := 10
def i_q_made : Nat := 11
def i_law : Nat := 12
def i_Verdict___init__ : Nat := 13
def i_Verdict___bool__ : Nat := 14
def i_Verdict_holds_at : Nat := 15
def h_q_same_2 : Nat := 0
def h_q_scoop_2 : Nat := 1
def h_q_remark_1 : Nat := 2
def h_q_bare_node_3 : Nat := 3
def h_q_name_2 : Nat := 4
def h_q_some_remarks_2 : Nat := 5
def h_q_drawn_node_3 : Nat := 6
def h_Verdict_holds_at_2 : Nat := 7
def h_Verdict___bool___1 : Nat := 8
def h_Verdict_holds_at_1_width : Nat := 9
def h_Verdict___init___0_holds : Nat := 10
def h_Verdict___init___1 : Nat := 11
def h_q_drawn_page_4 : Nat := 12
def h_Verdict___init___4 : Nat := 13
def h_Verdict___init___5 : Nat := 14
def h_Verdict___init___1_page_partner_width : Nat := 15
def h_Verdict___init___0_holds_width_other_page : Nat := 16
def h_q_chest_2 : Nat := 17
def h_q_made_1 : Nat := 18
def h_q_fields_right_2 : Nat := 19
def h_q_widths_right_3 : Nat := 20
/-- _law_chest: 0 _law_script, 1 _law_at, 2 _law_cell -/
def s_q_chest_0 : St := (.asg (.na 2) (.ite (.val (.pr (.cmp .lt) (.cons (.var 1) (.cons (.pr (.bi .len) (.cons (.var 0) .nil)) .nil)))) (.pr .ix (.cons (.var 0) (.cons (.var 1) .nil))) (.con (.int 0))))
def s_q_chest_1 : St := (.rto (.lst (.cons (.pr (.bi .max2) (.cons (.con (.int 0)) (.cons (.pr (.bin .sub) (.cons (.pr (.bi .abs) (.cons (.var 2) .nil)) (.cons (.pr (.bin .pow) (.cons (.con (.int 10)) (.cons (.con (.int 18)) .nil))) .nil))) .nil))) (.cons (.pr (.bin .add) (.cons (.pr (.bin .add) (.cons (.pr (.bin .mul) (.cons (.pr (.bin .mod) (.cons (.pr (.bi .int) (.cons (.var 2) .nil)) (.cons (.pr (.bin .add) (.cons (.pr (.bin .pow) (.cons (.con (.int 10)) (.cons (.con (.int 38)) .nil))) (.cons (.con (.int 67)) .nil))) .nil))) (.cons (.con (.int 73)) .nil))) (.cons (.pr (.bin .mul) (.cons (.con (.int 53)) (.cons (.var 1) .nil))) .nil))) (.cons (.con (.int 29)) .nil))) (.cons (.con (.int 0)) (.cons (.con (.int 0)) .nil))))))
def b_q_chest : Ss := (.cons s_q_chest_0 (.cons s_q_chest_1 .nil))
def f_q_chest : Fn := ⟨2, 3, b_q_chest, 0⟩
/-- _law_scoop: 0 _law_chest_here, 1 _law_below, 2 _law_brew, 3 _law_digit -/
def s_q_scoop_0 : St := (.asg (.na 3) (.pr (.bin .mod) (.cons (.pr (.bi .int) (.cons (.pr .ix (.cons (.own 0) (.cons (.con (.int 0)) .nil))) .nil)) (.cons (.var 1) .nil))))
def s_q_scoop_1 : St := (.seti 0 (.con (.int 0)) (.pr (.bin .fdiv) (.cons (.pr .ix (.cons (.own 0) (.cons (.con (.int 0)) .nil))) (.cons (.var 1) .nil))))
def s_q_scoop_2 : St := (.rt (.var 3))
def s_q_scoop_3 : St := (.ifs (.val (.pr (.cmp .gt) (.cons (.pr .ix (.cons (.own 0) (.cons (.con (.int 0)) .nil))) (.cons (.con (.int 0)) .nil)))) (.cons s_q_scoop_0 (.cons s_q_scoop_1 (.cons s_q_scoop_2 .nil))) .nil)
def s_q_scoop_4 : St := (.seti 0 (.con (.int 2)) (.pr (.bin .add) (.cons (.pr .ix (.cons (.own 0) (.cons (.con (.int 2)) .nil))) (.cons (.con (.int 1)) .nil))))
def s_q_scoop_5 : St := (.asg (.na 2) (.pr (.bin .mod) (.cons (.pr (.bin .pow) (.cons (.pr (.bi .int) (.cons (.pr (.bin .add) (.cons (.pr .ix (.cons (.own 0) (.cons (.con (.int 1)) .nil))) (.cons (.pr (.bin .mul) (.cons (.con (.int 40009)) (.cons (.pr .ix (.cons (.own 0) (.cons (.con (.int 2)) .nil))) .nil))) .nil))) .nil)) (.cons (.con (.int 2)) .nil))) (.cons (.pr (.bin .add) (.cons (.pr (.bin .pow) (.cons (.con (.int 10)) (.cons (.con (.int 37)) .nil))) (.cons (.con (.int 3)) .nil))) .nil))))
def s_q_scoop_6 : St := (.asg (.na 2) (.pr (.bin .mod) (.cons (.pr (.bin .pow) (.cons (.pr (.bi .int) (.cons (.pr (.bin .add) (.cons (.var 2) (.cons (.pr (.bin .mul) (.cons (.con (.int 900007)) (.cons (.pr .ix (.cons (.own 0) (.cons (.con (.int 2)) .nil))) .nil))) .nil))) .nil)) (.cons (.con (.int 3)) .nil))) (.cons (.pr (.bin .add) (.cons (.pr (.bin .pow) (.cons (.con (.int 10)) (.cons (.con (.int 39)) .nil))) (.cons (.con (.int 37)) .nil))) .nil))))
def s_q_scoop_7 : St := (.rt (.pr (.bin .mod) (.cons (.pr (.bin .fdiv) (.cons (.var 2) (.cons (.con (.int 131072)) .nil))) (.cons (.var 1) .nil))))
def b_q_scoop : Ss := (.cons s_q_scoop_3 (.cons s_q_scoop_4 (.cons s_q_scoop_5 (.cons s_q_scoop_6 (.cons s_q_scoop_7 .nil)))))
def f_q_scoop : Fn := ⟨2, 4, b_q_scoop, 0⟩
/-- _law_same: 0 _law_found, 1 _law_due, 2 _law_k -/
def s_q_same_0 : St := (.rt (.bo true (.cons (.pr (.isi .bool) (.cons (.var 0) .nil)) (.cons (.pr (.isi .bool) (.cons (.var 1) .nil)) (.one (.pr (.cmp .eq) (.cons (.var 0) (.cons (.var 1) .nil))))))))
def s_q_same_1 : St := (.ifs (.bo false (.cons (.val (.pr (.isi .bool) (.cons (.var 0) .nil))) (.one (.val (.pr (.isi .bool) (.cons (.var 1) .nil)))))) (.cons s_q_same_0 .nil) .nil)
def s_q_same_2 : St := (.rt (.con (.bl false)))
def s_q_same_3 : St := (.ifs (.bo false (.cons (.val (.pr (.cmp .ne) (.cons (.pr (.isi .list) (.cons (.var 0) .nil)) (.cons (.pr (.isi .list) (.cons (.var 1) .nil)) .nil)))) (.one (.val (.pr (.cmp .ne) (.cons (.pr (.isi .tuple) (.cons (.var 0) .nil)) (.cons (.pr (.isi .tuple) (.cons (.var 1) .nil)) .nil))))))) (.cons s_q_same_2 .nil) .nil)
def s_q_same_4 : St := (.rt (.con (.bl false)))
def s_q_same_5 : St := (.ifs (.bo false (.cons (.val (.pr (.cmp .ne) (.cons (.pr (.isi .str) (.cons (.var 0) .nil)) (.cons (.pr (.isi .str) (.cons (.var 1) .nil)) .nil)))) (.one (.val (.pr (.cmp .ne) (.cons (.pr (.isi .int) (.cons (.var 0) .nil)) (.cons (.pr (.isi .int) (.cons (.var 1) .nil)) .nil))))))) (.cons s_q_same_4 .nil) .nil)
def s_q_same_6 : St := (.rt (.con (.bl false)))
def s_q_same_7 : St := (.ifs (.val (.pr (.cmp .ne) (.cons (.pr (.bi .len) (.cons (.var 0) .nil)) (.cons (.pr (.bi .len) (.cons (.var 1) .nil)) .nil)))) (.cons s_q_same_6 .nil) .nil)
def s_q_same_8 : St := (.rt (.pr (.cmp .eq) (.cons (.comp (.var 2) (.na 2) (.rng (.pr (.bi .len) (.cons (.var 1) .nil))) (.so (.nt (.val (.call h_q_same_2 (.cons (.pr .ix (.cons (.var 0) (.cons (.var 2) .nil))) (.cons (.pr .ix (.cons (.var 1) (.cons (.var 2) .nil))) .nil)) .nil)))) [2]) (.cons (.lst .nil) .nil))))
def s_q_same_9 : St := (.ifs (.val (.pr (.isis [.list, .tuple]) (.cons (.var 1) .nil))) (.cons s_q_same_7 (.cons s_q_same_8 .nil)) .nil)
def s_q_same_10 : St := (.rt (.bo true (.cons (.pr (.cmp .eq) (.cons (.pr (.cmp .iss) (.cons (.var 0) (.cons (.con .non) .nil))) (.cons (.pr (.cmp .iss) (.cons (.var 1) (.cons (.con .non) .nil))) .nil))) (.one (.pr (.cmp .eq) (.cons (.var 0) (.cons (.var 1) .nil)))))))
def b_q_same : Ss := (.cons s_q_same_1 (.cons s_q_same_3 (.cons s_q_same_5 (.cons s_q_same_9 (.cons s_q_same_10 .nil)))))
def f_q_same : Fn := ⟨2, 3, b_q_same, 0⟩
/-- _law_name: 0 _law_chest_here, 1 _law_great, 2 _law_letters, 3 _law_size, 4 _law_k -/
def s_q_name_0 : St := (.asg (.na 2) (.con (.str [97, 98, 99, 100, 101, 102, 103, 104, 105, 106, 107, 108, 109, 110, 111, 112, 113, 114, 115, 116, 117, 118, 119, 120, 121, 122, 65, 66, 67, 68, 69, 70, 71, 72, 73, 74, 75, 76, 77, 78, 79, 80, 81, 82, 83, 84, 85, 86, 87, 88, 89, 90, 48, 49, 50, 51, 52, 53, 54, 55, 56, 57])))
def s_q_name_1 : St := (.asg (.na 3) (.pr .ix (.cons (.lst (.cons (.con (.int 1)) (.cons (.con (.int 1)) (.cons (.con (.int 2)) (.cons (.pr (.bin .add) (.cons (.con (.int 1)) (.cons (.call h_q_scoop_2 (.cons (.own 0) (.cons (.var 1) .nil)) .nil) .nil))) .nil))))) (.cons (.call h_q_scoop_2 (.cons (.own 0) (.cons (.con (.int 4)) .nil)) .nil) .nil))))
def s_q_name_2 : St := (.rt (.me .join (.con (.str [])) (.cons (.comp (.pr .ix (.cons (.var 2) (.cons (.call h_q_scoop_2 (.cons (.own 0) (.cons (.pr .ix (.cons (.lst (.cons (.con (.int 5)) (.cons (.con (.int 62)) .nil))) (.cons (.call h_q_scoop_2 (.cons (.own 0) (.cons (.con (.int 2)) .nil)) .nil) .nil))) .nil)) .nil) .nil))) (.na 4) (.rng (.pr (.bi .min2) (.cons (.var 3) (.cons (.var 1) .nil)))) .no [4]) .nil)))
def b_q_name : Ss := (.cons s_q_name_0 (.cons s_q_name_1 (.cons s_q_name_2 .nil)))
def f_q_name : Fn := ⟨2, 5, b_q_name, 0⟩
/-- _law_remark: 0 _law_chest_here, 1 _law_signs, 2 _law_size, 3 _law_remark_here, 4 _law_k -/
def s_q_remark_0 : St := (.asg (.na 1) (.con (.str [97, 98, 99, 120, 121, 122, 65, 90, 48, 49, 57, 32, 35, 40, 41, 44, 59, 46, 58, 45, 95, 33, 126])))
def s_q_remark_1 : St := (.asg (.na 2) (.pr .ix (.cons (.lst (.cons (.con (.int 1)) (.cons (.con (.int 2)) (.cons (.pr (.bin .add) (.cons (.con (.int 1)) (.cons (.call h_q_scoop_2 (.cons (.own 0) (.cons (.con (.int 12)) .nil)) .nil) .nil))) .nil)))) (.cons (.call h_q_scoop_2 (.cons (.own 0) (.cons (.con (.int 3)) .nil)) .nil) .nil))))
def s_q_remark_2 : St := (.asg (.na 3) (.me .join (.con (.str [])) (.cons (.comp (.pr .ix (.cons (.var 1) (.cons (.call h_q_scoop_2 (.cons (.own 0) (.cons (.pr (.bi .len) (.cons (.var 1) .nil)) .nil)) .nil) .nil))) (.na 4) (.rng (.var 2)) .no [4]) .nil)))
def s_q_remark_3 : St := (.rt (.ite (.bo false (.cons (.val (.pr (.cmp .ne) (.cons (.pr (.m0 .strip) (.cons (.var 3) .nil)) (.cons (.var 3) .nil)))) (.one (.val (.pr (.cmp .eq) (.cons (.var 3) (.cons (.con (.str [])) .nil))))))) (.con (.str [110])) (.var 3)))
def b_q_remark : Ss := (.cons s_q_remark_0 (.cons s_q_remark_1 (.cons s_q_remark_2 (.cons s_q_remark_3 .nil))))
def f_q_remark : Fn := ⟨1, 5, b_q_remark, 0⟩
/-- _law_some_remarks: 0 _law_chest_here, 1 _law_chance, 2 _law_k -/
def s_q_some_remarks_0 : St := (.rt (.tup .nil))
def s_q_some_remarks_1 : St := (.ifs (.val (.pr (.cmp .gt) (.cons (.call h_q_scoop_2 (.cons (.own 0) (.cons (.var 1) .nil)) .nil) (.cons (.con (.int 0)) .nil)))) (.cons s_q_some_remarks_0 .nil) .nil)
def s_q_some_remarks_2 : St := (.rt (.pr (.bi .tuple) (.cons (.comp (.call h_q_remark_1 (.cons (.own 0) .nil) .nil) (.na 2) (.rng (.pr .ix (.cons (.lst (.cons (.con (.int 1)) (.cons (.con (.int 1)) (.cons (.con (.int 2)) (.cons (.con (.int 3)) .nil))))) (.cons (.call h_q_scoop_2 (.cons (.own 0) (.cons (.con (.int 4)) .nil)) .nil) .nil)))) .no [2]) .nil)))
def b_q_some_remarks : Ss := (.cons s_q_some_remarks_1 (.cons s_q_some_remarks_2 .nil))
def f_q_some_remarks : Fn := ⟨2, 3, b_q_some_remarks, 0⟩
/-- _law_bare_node: 0 _law_chest_here, 1 _law_deep, 2 _law_great, 3 _law_inner, 4 _law_many, 5 _law_k -/
def s_q_bare_node_0 : St := (.asg (.na 3) (.tup .nil))
def s_q_bare_node_1 : St := (.seti 0 (.con (.int 3)) (.pr (.bin .sub) (.cons (.pr .ix (.cons (.own 0) (.cons (.con (.int 3)) .nil))) (.cons (.con (.int 1)) .nil))))
def s_q_bare_node_2 : St := (.asg (.na 4) (.pr (.bin .add) (.cons (.con (.int 1)) (.cons (.call h_q_scoop_2 (.cons (.own 0) (.cons (.pr .ix (.cons (.lst (.cons (.con (.int 3)) (.cons (.con (.int 3)) (.cons (.con (.int 6)) .nil)))) (.cons (.call h_q_scoop_2 (.cons (.own 0) (.cons (.con (.int 3)) .nil)) .nil) .nil))) .nil)) .nil) .nil))))
def s_q_bare_node_3 : St := (.asg (.na 3) (.pr (.bi .tuple) (.cons (.comp (.call h_q_bare_node_3 (.cons (.own 0) (.cons (.pr (.bin .sub) (.cons (.var 1) (.cons (.con (.int 1)) .nil))) (.cons (.var 2) .nil))) .nil) (.na 5) (.rng (.var 4)) .no [5]) .nil)))
def s_q_bare_node_4 : St := (.ifs (.bo true (.cons (.val (.pr (.cmp .gt) (.cons (.var 1) (.cons (.con (.int 0)) .nil)))) (.cons (.val (.pr (.cmp .gt) (.cons (.pr .ix (.cons (.own 0) (.cons (.con (.int 3)) .nil))) (.cons (.con (.int 0)) .nil)))) (.one (.val (.pr (.cmp .eq) (.cons (.call h_q_scoop_2 (.cons (.own 0) (.cons (.con (.int 3)) .nil)) .nil) (.cons (.con (.int 0)) .nil)))))))) (.cons s_q_bare_node_2 (.cons s_q_bare_node_3 .nil)) .nil)
def s_q_bare_node_5 : St := (.rt (.tup (.cons (.call h_q_name_2 (.cons (.own 0) (.cons (.var 2) .nil)) .nil) (.cons (.con (.str [102, 108, 97, 116])) (.cons (.var 3) (.cons (.tup .nil) (.cons (.con (.str [])) (.cons (.tup .nil) .nil))))))))
def b_q_bare_node : Ss := (.cons s_q_bare_node_0 (.cons s_q_bare_node_1 (.cons s_q_bare_node_4 (.cons s_q_bare_node_5 .nil))))
def f_q_bare_node : Fn := ⟨3, 6, b_q_bare_node, 0⟩
/-- _law_drawn_node: 0 _law_chest_here, 1 _law_deep, 2 _law_great, 3 _law_many, 4 _law_inner, 5 _law_shape, 6 _law_front, 7 _law_hind, 8 _law_bare, 9 _law_k -/
def s_q_drawn_node_0 : St := (.par true [6, 7] [(false, (.call h_q_some_remarks_2 (.cons (.own 0) (.cons (.con (.int 4)) .nil)) .nil)), (false, (.ite (.val (.pr (.cmp .eq) (.cons (.call h_q_scoop_2 (.cons (.own 0) (.cons (.con (.int 4)) .nil)) .nil) (.cons (.con (.int 0)) .nil)))) (.call h_q_remark_1 (.cons (.own 0) .nil) .nil) (.con (.str []))))])
def s_q_drawn_node_1 : St := (.asg (.na 8) (.call h_q_bare_node_3 (.cons (.own 0) (.cons (.pr (.bi .min2) (.cons (.var 1) (.cons (.con (.int 2)) .nil))) (.cons (.var 2) .nil))) .nil))
def s_q_drawn_node_2 : St := (.rt (.tup (.cons (.pr .ix (.cons (.var 8) (.cons (.con (.int 0)) .nil))) (.cons (.con (.str [102, 108, 97, 116])) (.cons (.pr .ix (.cons (.var 8) (.cons (.con (.int 2)) .nil))) (.cons (.var 6) (.cons (.var 7) (.cons (.tup .nil) .nil))))))))
def s_q_drawn_node_3 : St := (.ifs (.bo false (.cons (.val (.pr (.cmp .eq) (.cons (.var 1) (.cons (.con (.int 0)) .nil)))) (.cons (.val (.pr (.cmp .lt) (.cons (.pr .ix (.cons (.own 0) (.cons (.con (.int 3)) .nil))) (.cons (.con (.int 1)) .nil)))) (.one (.val (.pr (.cmp .eq) (.cons (.call h_q_scoop_2 (.cons (.own 0) (.cons (.con (.int 3)) .nil)) .nil) (.cons (.con (.int 0)) .nil)))))))) (.cons s_q_drawn_node_1 (.cons s_q_drawn_node_2 .nil)) .nil)
def s_q_drawn_node_4 : St := (.seti 0 (.con (.int 3)) (.pr (.bin .sub) (.cons (.pr .ix (.cons (.own 0) (.cons (.con (.int 3)) .nil))) (.cons (.con (.int 1)) .nil))))
def s_q_drawn_node_5 : St := (.asg (.na 3) (.pr (.bin .add) (.cons (.con (.int 1)) (.cons (.call h_q_scoop_2 (.cons (.own 0) (.cons (.pr .ix (.cons (.lst (.cons (.con (.int 3)) (.cons (.con (.int 3)) (.cons (.con (.int 6)) .nil)))) (.cons (.call h_q_scoop_2 (.cons (.own 0) (.cons (.con (.int 3)) .nil)) .nil) .nil))) .nil)) .nil) .nil))))
def s_q_drawn_node_6 : St := (.asg (.na 4) (.pr (.bi .tuple) (.cons (.comp (.call h_q_drawn_node_3 (.cons (.own 0) (.cons (.pr (.bin .sub) (.cons (.var 1) (.cons (.con (.int 1)) .nil))) (.cons (.var 2) .nil))) .nil) (.na 9) (.rng (.var 3)) .no [9]) .nil)))
def s_q_drawn_node_7 : St := (.asg (.na 5) (.pr .ix (.cons (.lst (.cons (.con (.str [111, 112, 101, 110])) (.cons (.con (.str [111, 112, 101, 110])) (.cons (.con (.str [99, 111, 109, 109, 97])) .nil)))) (.cons (.call h_q_scoop_2 (.cons (.own 0) (.cons (.con (.int 3)) .nil)) .nil) .nil))))
def s_q_drawn_node_8 : St := (.rt (.tup (.cons (.call h_q_name_2 (.cons (.own 0) (.cons (.var 2) .nil)) .nil) (.cons (.var 5) (.cons (.var 4) (.cons (.var 6) (.cons (.var 7) (.cons (.call h_q_some_remarks_2 (.cons (.own 0) (.cons (.con (.int 7)) .nil)) .nil) .nil))))))))
def b_q_drawn_node : Ss := (.cons s_q_drawn_node_0 (.cons s_q_drawn_node_3 (.cons s_q_drawn_node_4 (.cons s_q_drawn_node_5 (.cons s_q_drawn_node_6 (.cons s_q_drawn_node_7 (.cons s_q_drawn_node_8 .nil)))))))
def f_q_drawn_node : Fn := ⟨3, 10, b_q_drawn_node, 0⟩
/-- _law_drawn_page: 0 _law_chest_here, 1 _law_many, 2 _law_deep, 3 _law_great, 4 _law_nodes, 5 _law_k -/
def s_q_drawn_page_0 : St := (.seti 0 (.con (.int 3)) (.con (.int 80)))
def s_q_drawn_page_1 : St := (.asg (.na 4) (.pr (.bi .tuple) (.cons (.comp (.call h_q_drawn_node_3 (.cons (.own 0) (.cons (.var 2) (.cons (.var 3) .nil))) .nil) (.na 5) (.rng (.call h_q_scoop_2 (.cons (.own 0) (.cons (.pr (.bin .add) (.cons (.var 1) (.cons (.con (.int 1)) .nil))) .nil)) .nil)) .no [5]) .nil)))
def s_q_drawn_page_2 : St := (.rt (.tup (.cons (.var 4) (.cons (.call h_q_some_remarks_2 (.cons (.own 0) (.cons (.con (.int 5)) .nil)) .nil) .nil))))
def b_q_drawn_page : Ss := (.cons s_q_drawn_page_0 (.cons s_q_drawn_page_1 (.cons s_q_drawn_page_2 .nil)))
def f_q_drawn_page : Fn := ⟨4, 6, b_q_drawn_page, 0⟩
/-- _law_fields_right: 0 _law_told, 1 _law_due, 2 _law_found -/
def s_q_fields_right_0 : St := (.asg (.na 2) (.tup (.cons (.pr (.fld "holds") (.cons (.var 0) .nil)) (.cons (.pr (.fld "width") (.cons (.var 0) .nil)) (.cons (.pr (.fld "other") (.cons (.var 0) .nil)) (.cons (.pr (.fld "page") (.cons (.var 0) .nil)) (.cons (.pr (.fld "partner") (.cons (.var 0) .nil)) .nil)))))))
def s_q_fields_right_1 : St := (.rt (.call h_q_same_2 (.cons (.var 2) (.cons (.var 1) .nil)) .nil))
def b_q_fields_right : Ss := (.cons s_q_fields_right_0 (.cons s_q_fields_right_1 .nil))
def f_q_fields_right : Fn := ⟨2, 3, b_q_fields_right, 0⟩
/-- _law_widths_right: 0 _law_told, 1 _law_due, 2 _law_chest_here, 3 _law_turn, 4 _law_span -/
def s_q_widths_right_0 : St := (.asg (.na 4) (.pr .ix (.cons (.lst (.cons (.con (.int 1)) (.cons (.con (.int 400)) (.cons (.pr .ix (.cons (.var 1) (.cons (.con (.int 1)) .nil))) (.cons (.pr (.bin .add) (.cons (.con (.int 1)) (.cons (.call h_q_scoop_2 (.cons (.own 2) (.cons (.con (.int 400)) .nil)) .nil) .nil))) (.cons (.pr (.bin .sub) (.cons (.con (.int 0)) (.cons (.call h_q_scoop_2 (.cons (.own 2) (.cons (.con (.int 9)) .nil)) .nil) .nil))) .nil)))))) (.cons (.call h_q_scoop_2 (.cons (.own 2) (.cons (.con (.int 5)) .nil)) .nil) .nil))))
def s_q_widths_right_1 : St := (.asg (.na 4) (.con (.int 17)))
def s_q_widths_right_2 : St := (.ifs (.val (.pr (.cmp .iss) (.cons (.var 4) (.cons (.con .non) .nil)))) (.cons s_q_widths_right_1 .nil) .nil)
def s_q_widths_right_3 : St := (.rt (.con (.bl false)))
def s_q_widths_right_4 : St := (.ifs (.bo false (.cons (.nt (.val (.call h_q_same_2 (.cons (.call h_Verdict_holds_at_2 (.cons (.pr (.slf "Verdict" "holds_at") (.cons (.var 0) .nil)) (.cons (.var 4) .nil)) .nil) (.cons (.bo false (.cons (.pr .ix (.cons (.var 1) (.cons (.con (.int 0)) .nil))) (.one (.pr (.cmp .lt) (.cons (.var 4) (.cons (.pr .ix (.cons (.var 1) (.cons (.con (.int 1)) .nil))) .nil)))))) .nil)) .nil))) (.one (.nt (.val (.call h_q_same_2 (.cons (.dun .bool h_Verdict___bool___1 "Verdict" (.var 0)) (.cons (.pr .ix (.cons (.var 1) (.cons (.con (.int 0)) .nil))) .nil)) .nil)))))) (.cons s_q_widths_right_3 .nil) .nil)
def s_q_widths_right_5 : St := (.fr (.na 3) (.rng (.con (.int 3))) (.cons s_q_widths_right_0 (.cons s_q_widths_right_2 (.cons s_q_widths_right_4 .nil))))
def s_q_widths_right_6 : St := (.rt (.pr (.cmp .inn) (.cons (.call h_Verdict_holds_at_1_width (.cons (.pr (.slf "Verdict" "holds_at") (.cons (.var 0) .nil)) .nil) (.cons (.pr (.bin .add) (.cons (.con (.int 1)) (.cons (.call h_q_scoop_2 (.cons (.own 2) (.cons (.con (.int 400)) .nil)) .nil) .nil))) .nil)) (.cons (.lst (.cons (.con (.bl true)) (.cons (.con (.bl false)) .nil))) .nil))))
def b_q_widths_right : Ss := (.cons s_q_widths_right_5 (.cons s_q_widths_right_6 .nil))
def f_q_widths_right : Fn := ⟨3, 5, b_q_widths_right, 0⟩
/-- _law_made: 0 _law_chest_here, 1 _law_more, 2 _law_way, 3 _law_span, 4 _law_sheet -/
def s_q_made_0 : St := (.rt (.tup (.cons (.pr .ix (.cons (.lst (.cons (.call h_Verdict___init___1 (.cons (.con (.bl true)) .nil) .nil) (.cons (.call h_Verdict___init___0_holds .nil (.cons (.con (.bl true)) .nil)) .nil))) (.cons (.call h_q_scoop_2 (.cons (.own 0) (.cons (.con (.int 2)) .nil)) .nil) .nil))) (.cons (.tup (.cons (.con (.bl true)) (.cons (.con .non) (.cons (.con .non) (.cons (.con .non) (.cons (.con .non) .nil)))))) .nil))))
def s_q_made_1 : St := (.ifs (.val (.pr (.cmp .eq) (.cons (.call h_q_scoop_2 (.cons (.own 0) (.cons (.con (.int 3)) .nil)) .nil) (.cons (.con (.int 0)) .nil)))) (.cons s_q_made_0 .nil) .nil)
def s_q_made_2 : St := (.par true [3, 4] [(false, (.pr (.bin .add) (.cons (.con (.int 1)) (.cons (.call h_q_scoop_2 (.cons (.own 0) (.cons (.con (.int 399)) .nil)) .nil) .nil)))), (false, (.call h_q_drawn_page_4 (.cons (.own 0) (.cons (.con (.int 2)) (.cons (.con (.int 1)) (.cons (.con (.int 3)) .nil)))) .nil))])
def s_q_made_3 : St := (.asg (.na 1) (.call h_q_drawn_page_4 (.cons (.own 0) (.cons (.con (.int 2)) (.cons (.con (.int 1)) (.cons (.con (.int 3)) .nil)))) .nil))
def s_q_made_4 : St := (.asg (.na 2) (.call h_q_scoop_2 (.cons (.own 0) (.cons (.con (.int 4)) .nil)) .nil))
def s_q_made_5 : St := (.rt (.tup (.cons (.call h_Verdict___init___4 (.cons (.con (.bl false)) (.cons (.var 3) (.cons (.con .non) (.cons (.var 4) .nil)))) .nil) (.cons (.tup (.cons (.con (.bl false)) (.cons (.var 3) (.cons (.con .non) (.cons (.var 4) (.cons (.con .non) .nil)))))) .nil))))
def s_q_made_6 : St := (.ifs (.val (.pr (.cmp .eq) (.cons (.var 2) (.cons (.con (.int 0)) .nil)))) (.cons s_q_made_5 .nil) .nil)
def s_q_made_7 : St := (.rt (.tup (.cons (.call h_Verdict___init___5 (.cons (.con (.bl false)) (.cons (.var 3) (.cons (.pr (.bin .add) (.cons (.var 3) (.cons (.con (.int 1)) .nil))) (.cons (.var 4) (.cons (.con .non) .nil))))) .nil) (.cons (.tup (.cons (.con (.bl false)) (.cons (.var 3) (.cons (.pr (.bin .add) (.cons (.var 3) (.cons (.con (.int 1)) .nil))) (.cons (.var 4) (.cons (.con .non) .nil)))))) .nil))))
def s_q_made_8 : St := (.ifs (.val (.pr (.cmp .eq) (.cons (.var 2) (.cons (.con (.int 1)) .nil)))) (.cons s_q_made_7 .nil) .nil)
def s_q_made_9 : St := (.rt (.tup (.cons (.call h_Verdict___init___1_page_partner_width (.cons (.con (.bl false)) .nil) (.cons (.var 4) (.cons (.var 1) (.cons (.var 3) .nil)))) (.cons (.tup (.cons (.con (.bl false)) (.cons (.var 3) (.cons (.con .non) (.cons (.var 4) (.cons (.var 1) .nil)))))) .nil))))
def s_q_made_10 : St := (.ifs (.val (.pr (.cmp .eq) (.cons (.var 2) (.cons (.con (.int 2)) .nil)))) (.cons s_q_made_9 .nil) .nil)
def s_q_made_11 : St := (.rt (.tup (.cons (.call h_Verdict___init___0_holds_width_other_page .nil (.cons (.con (.bl false)) (.cons (.var 3) (.cons (.pr (.bin .add) (.cons (.var 3) (.cons (.con (.int 7)) .nil))) (.cons (.var 4) .nil))))) (.cons (.tup (.cons (.con (.bl false)) (.cons (.var 3) (.cons (.pr (.bin .add) (.cons (.var 3) (.cons (.con (.int 7)) .nil))) (.cons (.var 4) (.cons (.con .non) .nil)))))) .nil))))
def b_q_made : Ss := (.cons s_q_made_1 (.cons s_q_made_2 (.cons s_q_made_3 (.cons s_q_made_4 (.cons s_q_made_6 (.cons s_q_made_8 (.cons s_q_made_10 (.cons s_q_made_11 .nil))))))))
def f_q_made : Fn := ⟨1, 5, b_q_made, 0⟩
/-- law: 0 _law_script, 1 _law_earlier, 2 _law_at, 3 _law_chest_here, 4 _law_built_up -/
def s_law_0 : St := (.asg (.na 1) (.con .non))
def s_law_1 : St := (.aso 3 (.call h_q_chest_2 (.cons (.var 0) (.cons (.var 2) .nil)) .nil))
def s_law_2 : St := (.asg (.na 4) (.call h_q_made_1 (.cons (.own 3) .nil) .nil))
def s_law_3 : St := (.rt (.con (.bl false)))
def s_law_4 : St := (.ifs (.bo false (.cons (.nt (.val (.call h_q_fields_right_2 (.cons (.pr .ix (.cons (.var 4) (.cons (.con (.int 0)) .nil))) (.cons (.pr .ix (.cons (.var 4) (.cons (.con (.int 1)) .nil))) .nil)) .nil))) (.one (.nt (.val (.call h_q_widths_right_3 (.cons (.pr .ix (.cons (.var 4) (.cons (.con (.int 0)) .nil))) (.cons (.pr .ix (.cons (.var 4) (.cons (.con (.int 1)) .nil))) (.cons (.own 3) .nil))) .nil)))))) (.cons s_law_3 .nil) .nil)
def s_law_5 : St := (.rt (.con (.bl false)))
def s_law_6 : St := (.ifs (.bo true (.cons (.val (.pr (.cmp .isn) (.cons (.var 1) (.cons (.con .non) .nil)))) (.one (.nt (.val (.call h_q_fields_right_2 (.cons (.pr .ix (.cons (.var 1) (.cons (.con (.int 0)) .nil))) (.cons (.pr .ix (.cons (.var 1) (.cons (.con (.int 1)) .nil))) .nil)) .nil)))))) (.cons s_law_5 .nil) .nil)
def s_law_7 : St := (.rt (.con (.bl false)))
def s_law_8 : St := (.ifs (.nt (.val (.call h_q_fields_right_2 (.cons (.pr .ix (.cons (.var 4) (.cons (.con (.int 0)) .nil))) (.cons (.pr .ix (.cons (.var 4) (.cons (.con (.int 1)) .nil))) .nil)) .nil))) (.cons s_law_7 .nil) .nil)
def s_law_9 : St := (.asg (.na 1) (.var 4))
def s_law_10 : St := (.fr (.na 2) (.rng (.pr (.bi .max2) (.cons (.con (.int 1)) (.cons (.pr (.bi .min2) (.cons (.con (.int 40)) (.cons (.pr (.bi .len) (.cons (.var 0) .nil)) .nil))) .nil)))) (.cons s_law_1 (.cons s_law_2 (.cons s_law_4 (.cons s_law_6 (.cons s_law_8 (.cons s_law_9 .nil)))))))
def s_law_11 : St := (.rt (.con (.bl true)))
def b_law : Ss := (.cons s_law_0 (.cons s_law_10 (.cons s_law_11 .nil)))
def f_law : Fn := ⟨1, 5, b_law, 0⟩
/-- Verdict.__init__: 0 self, 1 holds, 2 width, 3 other, 4 page, 5 partner -/
def s_Verdict___init___0 : St := (.rt (.mk "Verdict" ["holds", "width", "other", "page", "partner"] (.cons (.var 1) (.cons (.var 2) (.cons (.var 3) (.cons (.var 4) (.cons (.var 5) .nil)))))))
def b_Verdict___init__ : Ss := (.cons s_Verdict___init___0 .nil)
def f_Verdict___init__ : Fn := ⟨5, 6, b_Verdict___init__, 2⟩
/-- Verdict.__bool__: 0 self -/
def s_Verdict___bool___0 : St := (.rt (.pr .blo (.cons (.pr (.fld "holds") (.cons (.var 0) .nil)) .nil)))
def b_Verdict___bool__ : Ss := (.cons s_Verdict___bool___0 .nil)
def f_Verdict___bool__ : Fn := ⟨1, 1, b_Verdict___bool__, 1⟩
/-- Verdict.holds_at: 0 self, 1 width -/
def s_Verdict_holds_at_0 : St := (.rt (.bo false (.cons (.pr (.fld "holds") (.cons (.var 0) .nil)) (.one (.pr (.cmp .lt) (.cons (.var 1) (.cons (.pr (.fld "width") (.cons (.var 0) .nil)) .nil)))))))
def b_Verdict_holds_at : Ss := (.cons s_Verdict_holds_at_0 .nil)
def f_Verdict_holds_at : Fn := ⟨2, 2, b_Verdict_holds_at, 0⟩
def fns : List Fn := [f_q_chest, f_q_scoop, f_q_same, f_q_name, f_q_remark, f_q_some_remarks, f_q_bare_node, f_q_drawn_node, f_q_drawn_page, f_q_fields_right, f_q_widths_right, f_q_made, f_law, f_Verdict___init__, f_Verdict___bool__, f_Verdict_holds_at]
def gls : List V := []
def shs : List SF.Sh := [⟨2, 2, [], []⟩, ⟨1, 2, [], []⟩, ⟨4, 1, [], []⟩, ⟨6, 3, [], []⟩, ⟨3, 2, [], []⟩, ⟨5, 2, [], []⟩, ⟨7, 3, [], []⟩, ⟨15, 2, [], []⟩, ⟨14, 1, [], []⟩, ⟨15, 1, ["width"], [.kw 0]⟩, ⟨13, 0, ["holds"], [.kw 0, .df .non, .df .non, .df .non, .df .non]⟩, ⟨13, 1, [], [.df .non, .df .non, .df .non, .df .non]⟩, ⟨8, 4, [], []⟩, ⟨13, 4, [], [.df .non]⟩, ⟨13, 5, [], []⟩, ⟨13, 1, ["page", "partner", "width"], [.kw 2, .df .non, .kw 0, .kw 1]⟩, ⟨13, 0, ["holds", "width", "other", "page"], [.kw 0, .kw 1, .kw 2, .kw 3, .df .non]⟩, ⟨0, 2, [], []⟩, ⟨11, 1, [], []⟩, ⟨9, 2, [], []⟩, ⟨10, 3, [], []⟩]
def P : Pg := ⟨fns, gls, shs, 1000, []⟩
theorem fn_q_chest : P.fns[i_q_chest]? = some f_q_chest := rfl
theorem fn_q_scoop : P.fns[i_q_scoop]? = some f_q_scoop := rfl
theorem fn_q_same : P.fns[i_q_same]? = some f_q_same := rfl
theorem fn_q_name : P.fns[i_q_name]? = some f_q_name := rfl
theorem fn_q_remark : P.fns[i_q_remark]? = some f_q_remark := rfl
theorem fn_q_some_remarks : P.fns[i_q_some_remarks]? = some f_q_some_remarks := rfl
theorem fn_q_bare_node : P.fns[i_q_bare_node]? = some f_q_bare_node := rfl
theorem fn_q_drawn_node : P.fns[i_q_drawn_node]? = some f_q_drawn_node := rfl
theorem fn_q_drawn_page : P.fns[i_q_drawn_page]? = some f_q_drawn_page := rfl
theorem fn_q_fields_right : P.fns[i_q_fields_right]? = some f_q_fields_right := rfl
theorem fn_q_widths_right : P.fns[i_q_widths_right]? = some f_q_widths_right := rfl
theorem fn_q_made : P.fns[i_q_made]? = some f_q_made := rfl
theorem fn_law : P.fns[i_law]? = some f_law := rfl
theorem fn_Verdict___init__ : P.fns[i_Verdict___init__]? = some f_Verdict___init__ := rfl
theorem fn_Verdict___bool__ : P.fns[i_Verdict___bool__]? = some f_Verdict___bool__ := rfl
theorem fn_Verdict_holds_at : P.fns[i_Verdict_holds_at]? = some f_Verdict_holds_at := rfl
theorem sh_q_same_2 : P.shs[h_q_same_2]? = some ⟨i_q_same, 2, [], []⟩ := rfl
theorem sh_q_scoop_2 : P.shs[h_q_scoop_2]? = some ⟨i_q_scoop, 2, [], []⟩ := rfl
theorem sh_q_remark_1 : P.shs[h_q_remark_1]? = some ⟨i_q_remark, 1, [], []⟩ := rfl
theorem sh_q_bare_node_3 : P.shs[h_q_bare_node_3]? = some ⟨i_q_bare_node, 3, [], []⟩ := rfl
theorem sh_q_name_2 : P.shs[h_q_name_2]? = some ⟨i_q_name, 2, [], []⟩ := rfl
theorem sh_q_some_remarks_2 : P.shs[h_q_some_remarks_2]? = some ⟨i_q_some_remarks, 2, [], []⟩ := rfl
theorem sh_q_drawn_node_3 : P.shs[h_q_drawn_node_3]? = some ⟨i_q_drawn_node, 3, [], []⟩ := rfl
theorem sh_Verdict_holds_at_2 : P.shs[h_Verdict_holds_at_2]? = some ⟨i_Verdict_holds_at, 2, [], []⟩ := rfl
theorem sh_Verdict___bool___1 : P.shs[h_Verdict___bool___1]? = some ⟨i_Verdict___bool__, 1, [], []⟩ := rfl
theorem sh_Verdict_holds_at_1_width : P.shs[h_Verdict_holds_at_1_width]? = some ⟨i_Verdict_holds_at, 1, ["width"], [.kw 0]⟩ := rfl
theorem sh_Verdict___init___0_holds : P.shs[h_Verdict___init___0_holds]? = some ⟨i_Verdict___init__, 0, ["holds"], [.kw 0, .df .non, .df .non, .df .non, .df .non]⟩ := rfl
theorem sh_Verdict___init___1 : P.shs[h_Verdict___init___1]? = some ⟨i_Verdict___init__, 1, [], [.df .non, .df .non, .df .non, .df .non]⟩ := rfl
theorem sh_q_drawn_page_4 : P.shs[h_q_drawn_page_4]? = some ⟨i_q_drawn_page, 4, [], []⟩ := rfl
theorem sh_Verdict___init___4 : P.shs[h_Verdict___init___4]? = some ⟨i_Verdict___init__, 4, [], [.df .non]⟩ := rfl
theorem sh_Verdict___init___5 : P.shs[h_Verdict___init___5]? = some ⟨i_Verdict___init__, 5, [], []⟩ := rfl
theorem sh_Verdict___init___1_page_partner_width : P.shs[h_Verdict___init___1_page_partner_width]? = some ⟨i_Verdict___init__, 1, ["page", "partner", "width"], [.kw 2, .df .non, .kw 0, .kw 1]⟩ := rfl
theorem sh_Verdict___init___0_holds_width_other_page : P.shs[h_Verdict___init___0_holds_width_other_page]? = some ⟨i_Verdict___init__, 0, ["holds", "width", "other", "page"], [.kw 0, .kw 1, .kw 2, .kw 3, .df .non]⟩ := rfl
theorem sh_q_chest_2 : P.shs[h_q_chest_2]? = some ⟨i_q_chest, 2, [], []⟩ := rfl
theorem sh_q_made_1 : P.shs[h_q_made_1]? = some ⟨i_q_made, 1, [], []⟩ := rfl
theorem sh_q_fields_right_2 : P.shs[h_q_fields_right_2]? = some ⟨i_q_fields_right, 2, [], []⟩ := rfl
theorem sh_q_widths_right_3 : P.shs[h_q_widths_right_3]? = some ⟨i_q_widths_right, 3, [], []⟩ := rfl
theorem grnd : P.gls.all gr = true := by decide +kernel
end K20
set_option Elab.async false
set_option linter.all false
set_option maxRecDepth 100000
set_option maxHeartbeats 4000000
namespace K20
open EP PySem
open SF (Ky Bo Co Ty Bi Fi Sh lenMax bigOk small62)
local macro_rules | `(tactic| simp! only [$ls,*]) => `(tactic| simp -implicitDefEqProofs only [ok_ok, ok_bind, ok_ofO, ok_ite, ok_ifst, oko_some, oko_bind, oko_map, oko_if, rf_rt, rf_nx, fv_val, fv_own, ow_l, ow_d, ow_t, vq, w_var, w_con, w_gl, w_pr, sq, w_me, w_sl, w_bo, w_ch, w_ite, w_tup, w_lst, w_dic0, w_dic1, w_comp, w_nil, w_cons, w_star, aq_own, aq_val, g_own, g_var, g_con, g_gl, g_pr, g_me, g_sl, g_bo, g_ch, g_ite, g_tup, g_lst, g_dic0, g_comp, g_call, w_b1, bq, w_b2, w_tval, w_tbo, w_tnt, w_t1, w_t2, w_c0, w_c1, w_o0, iq, w_o1, w_seq, w_enm, w_zip, w_rng, w_rng2, w_call, w_turn, w_fturn, s_asg, s_aso, s_frz, s_app, s_seti, gq, grq, s_aug, s_par, s_if, s_for, s_rt, s_rto, s_rtN, s_ex, s_brk, s_cnt, s_pas, s_nil, s_cons, kf_nx, kf_rt, kf_bk, kf_ct, r_own, r_lst, r_comp, r_pr, r_call, o_set, a_na, a_nil, a_cons, a_star, st_cons, st_nil, get_nil, get_va, get_ow, ge_va, ge_ow, vals_nil, vals_va, vals_map, p_add, p_sub, p_cat, p_catT, p_catL, p_mul, p_fdiv, p_mod, p_pow, p_neg, p_nt, p_cmp, p_isi, p_isis, p_ix, p_int, p_abs, p_max, p_min, p_len, p_list, p_tuple, p_all, p_any, p_sum, p_ord, p_lset, c_lt, c_le, c_gt, c_ge, c_eq, c_ne, c_in, c_nin, c_is, c_isn, t_bl, it_tup, it_lst, it_ro, l_tup, l_lst, l_ro, q_tup, q_lst, i_tup, i_lst, i_dic, v_tup, v_lst, n_fix, o_newL, e_val, e_dic, y_int, y_str, f_nil, f_kw, k_nil, k_va, k_ow, u_nil, u_va, u_ow, kp_val, kp_no, kp_f, kp_t, fl_at, fo_some, fs_val, fs_no, fs_own, sl_at, fz_val, fz_own, un_own, isNonV, flatV, isOwned, arOk, one, two, plainX, Option.map_none, Option.map_some, Option.bind_some, List.map_cons, List.map_nil, List.cons_append, List.nil_append, List.replicate, Nat.reduceSub, List.getElem?_cons_zero, List.getElem?_cons_succ, List.set_cons_zero, List.set_cons_succ, List.length_cons, List.length_nil, Nat.reduceAdd, List.take_succ_cons, List.take_zero, and_true, true_and, if_true, if_false, Bool.false_eq_true, Bool.not_true, Bool.not_false, Bool.not_eq_true', eq_self, and_self, wipeE, backE, ex_own, Nat.reduceEqDiff, reduceCtorEq, decide_true, decide_false, lm, Nat.reduceLeDiff, w_p0, w_p1, pk_fv, pk_fo, pk_to, sp_nil, sp_cons, p_rev, p_m0, m_strip1, true_or, or_true, Nat.reduceLT, p_mulT, p_mulL, p_intb, s_wh, f_df, cv_int, cv_str, cv_bl, cv_non, cv_tup, p_mulS, p_str, w_mk, w_dun, p_fld, p_slf, p_blo, $ls,*])
theorem na400 {i : Int} (h0 : 0 ≤ i) (h : i < 2 ^ 200) : i.natAbs < 2 ^ 400 := by
  have a : i.natAbs < 2 ^ 200 := by omega
  exact Nat.lt_of_lt_of_le a (Nat.pow_le_pow_right (by decide) (by decide))
theorem big_of {i : Int} (h0 : 0 ≤ i) (h : i < 2 ^ 200) : bigOk i = true := by
  have a : i.natAbs < 2 ^ 200 := by omega
  exact decide_eq_true (Nat.lt_of_lt_of_le a (Nat.pow_le_pow_right (by decide) (by decide)))
/-- the chest that is drawn from -/
structure Ch where
  a : Int
  b : Int
  c : Int
  d : Int
def Ch.vs (k : Ch) : List V := [.int k.a, .int k.b, .int k.c, .int k.d]
def Ch.o (k : Ch) : Ow := .l k.vs
structure Ch.Ok (k : Ch) : Prop where
  a : 0 ≤ k.a
  b : 0 ≤ k.b
  b' : k.b < 2 ^ 140
  c : 0 ≤ k.c
  c' : k.c < 2 ^ 100
theorem scoop_ok {n : Nat} {k : Ch} {b : Int} {Q : Sl → List Sl → Prop} (h : k.Ok) (hm : k.c + 1 < 2 ^ 100) (hb : 0 < b) (hb2 : b < 2 ^ 62)
    (q : ∀ (d : Nat) (k' : Ch), (d : Int) < b → k'.Ok → k'.c ≤ k.c + 1 → k'.d = k.d → Q (.val (.int d)) [.own true k'.o, .no]) : OkC (runF P (n + 1) i_q_scoop [.own true k.o, .val (.int b)]) Q := by
  obtain ⟨h0, h1, h1', h2, h2'⟩ := h
  have q' : ∀ (d : Int) (a b' c : Int), 0 ≤ d → d < b → 0 ≤ a → 0 ≤ b' → b' < 2 ^ 140 → 0 ≤ c → c ≤ k.c + 1 → Q (.val (.int d)) [.own true (.l [.int a, .int b', .int c, .int k.d]), .no] := fun d a b' c d0 d1 a0 b0 b1 c0 c1 => by
    have := q d.toNat ⟨a, b', c, k.d⟩ (by omega) ⟨a0, b0, b1, c0, by show c < _; omega⟩ c1 rfl
    rw [Int.toNat_of_nonneg d0] at this
    exact this
  have eI0 : L2.ixN 4 0 = some 0 := by decide
  have eI1 : L2.ixN 4 1 = some 1 := by decide
  have eI2 : L2.ixN 4 2 = some 2 := by decide
  have m0 : (10 ^ Int.toNat 37 + 3 : Int) = 10000000000000000000000000000000000003 := by decide
  have m1 : (10 ^ Int.toNat 39 + 37 : Int) = 1000000000000000000000000000000000000037 := by decide
  refine run_ok fn_q_scoop rfl ?_
  simp! only [f_q_scoop, b_q_scoop, s_q_scoop_3, Ch.o, Ch.vs, eI0]
  by_cases hc : 0 < k.a
  · simp! only [hc, s_q_scoop_0, eI0, hb]
    simp! only [s_q_scoop_1, eI0, hb]
    simp! only [s_q_scoop_2]
    refine ⟨by rw [big_of (by omega) (by omega)]; rfl, ?_⟩
    exact q' _ _ _ _ (Int.emod_nonneg _ (by omega)) (Int.emod_lt_of_pos _ hb) (Int.ediv_nonneg h0 (by omega)) h1 h1' h2 (by omega)
  · simp! only [hc]
    simp! only [s_q_scoop_4, eI2]
    simp! only [s_q_scoop_5, eI1, eI2]
    simp! only [s_q_scoop_6, eI2]
    simp! only [s_q_scoop_7, hb]
    rw [m0, m1]
    have r0 : 0 ≤ (k.b + 40009 * (k.c + 1)) ^ Int.toNat 2 % 10000000000000000000000000000000000003 := Int.emod_nonneg _ (by decide)
    have r1 : (k.b + 40009 * (k.c + 1)) ^ Int.toNat 2 % 10000000000000000000000000000000000003 < 10000000000000000000000000000000000003 := Int.emod_lt_of_pos _ (by decide)
    generalize (k.b + 40009 * (k.c + 1)) ^ Int.toNat 2 % 10000000000000000000000000000000000003 = x at r0 r1
    have g0 := big_of (i := k.c + 1) (by omega) (by omega)
    have g1 := big_of (i := 40009) (by decide) (by decide)
    have g2 := big_of (i := 900007) (by decide) (by decide)
    have g3 := big_of (i := 131072) (by decide) (by decide)
    have p0 := na400 (i := k.b + 40009 * (k.c + 1)) (by omega) (by omega)
    have p1 := na400 (i := x + 900007 * (k.c + 1)) (by omega) (by omega)
    have p2 := na400 (i := 10) (by decide) (by decide)
    simp only [g0, g1, g2, g3, p0, p1, p2, decide_true, Bool.and_true, Bool.and_self, true_and]
    refine ⟨by decide, by decide, by decide, by decide, by decide, by decide, by decide, ?_⟩
    exact q' _ _ _ _ (Int.emod_nonneg _ (by omega)) (Int.emod_lt_of_pos _ hb) h0 h1 h1' (by omega) (by omega)
end K20
set_option Elab.async false
set_option linter.all false
set_option maxRecDepth 100000
set_option maxHeartbeats 4000000
namespace K20
open EP PySem
open SF (Ky Bo Co Ty Bi Fi Sh lenMax bigOk small62)
local macro_rules | `(tactic| simp! only [$ls,*]) => `(tactic| simp -implicitDefEqProofs only [ok_ok, ok_bind, ok_ofO, ok_ite, ok_ifst, oko_some, oko_bind, oko_map, oko_if, rf_rt, rf_nx, fv_val, fv_own, ow_l, ow_d, ow_t, vq, w_var, w_con, w_gl, w_pr, sq, w_me, w_sl, w_bo, w_ch, w_ite, w_tup, w_lst, w_dic0, w_dic1, w_comp, w_nil, w_cons, w_star, aq_own, aq_val, g_own, g_var, g_con, g_gl, g_pr, g_me, g_sl, g_bo, g_ch, g_ite, g_tup, g_lst, g_dic0, g_comp, g_call, w_b1, bq, w_b2, w_tval, w_tbo, w_tnt, w_t1, w_t2, w_c0, w_c1, w_o0, iq, w_o1, w_seq, w_enm, w_zip, w_rng, w_rng2, w_call, w_turn, w_fturn, s_asg, s_aso, s_frz, s_app, s_seti, gq, grq, s_aug, s_par, s_if, s_for, s_rt, s_rto, s_rtN, s_ex, s_brk, s_cnt, s_pas, s_nil, s_cons, kf_nx, kf_rt, kf_bk, kf_ct, r_own, r_lst, r_comp, r_pr, r_call, o_set, a_na, a_nil, a_cons, a_star, st_cons, st_nil, get_nil, get_va, get_ow, ge_va, ge_ow, vals_nil, vals_va, vals_map, p_add, p_sub, p_cat, p_catT, p_catL, p_mul, p_fdiv, p_mod, p_pow, p_neg, p_nt, p_cmp, p_isi, p_isis, p_ix, p_int, p_abs, p_max, p_min, p_len, p_list, p_tuple, p_all, p_any, p_sum, p_ord, p_lset, c_lt, c_le, c_gt, c_ge, c_eq, c_ne, c_in, c_nin, c_is, c_isn, t_bl, it_tup, it_lst, it_ro, l_tup, l_lst, l_ro, q_tup, q_lst, i_tup, i_lst, i_dic, v_tup, v_lst, n_fix, o_newL, e_val, e_dic, y_int, y_str, f_nil, f_kw, k_nil, k_va, k_ow, u_nil, u_va, u_ow, kp_val, kp_no, kp_f, kp_t, fl_at, fo_some, fs_val, fs_no, fs_own, sl_at, fz_val, fz_own, un_own, isNonV, flatV, isOwned, arOk, one, two, plainX, Option.map_none, Option.map_some, Option.bind_some, List.map_cons, List.map_nil, List.cons_append, List.nil_append, List.replicate, Nat.reduceSub, List.getElem?_cons_zero, List.getElem?_cons_succ, List.set_cons_zero, List.set_cons_succ, List.length_cons, List.length_nil, Nat.reduceAdd, List.take_succ_cons, List.take_zero, and_true, true_and, if_true, if_false, Bool.false_eq_true, Bool.not_true, Bool.not_false, Bool.not_eq_true', eq_self, and_self, wipeE, backE, ex_own, Nat.reduceEqDiff, reduceCtorEq, decide_true, decide_false, lm, Nat.reduceLeDiff, w_p0, w_p1, pk_fv, pk_fo, pk_to, sp_nil, sp_cons, p_rev, p_m0, m_strip1, true_or, or_true, Nat.reduceLT, p_mulT, p_mulL, p_intb, s_wh, f_df, cv_int, cv_str, cv_bl, cv_non, cv_tup, p_mulS, p_str, w_mk, w_dun, p_fld, p_slf, p_blo, $ls,*])
theorem same_leaf {n : Nat} {v : V} (h : v = .non ∨ (∃ b, v = .bl b) ∨ (∃ i, v = .int i) ∨ ∃ s, v = .str s ∧ okS s = true) : runF P (n + 1) i_q_same [.val v, .val v] = .ok (.val (.bl true)) [.no, .no] := by
  refine okc_of (run_ok fn_q_same rfl ?_)
  rcases h with rfl | ⟨b, rfl⟩ | ⟨i, rfl⟩ | ⟨s, rfl, hs⟩
  · simp! only [f_q_same, b_q_same, s_q_same_1, isTy, Bool.or_self]
    simp! only [s_q_same_3, isTy, eq_bl, beq_self_eq_true]
    simp! only [s_q_same_5, isTy, eq_bl, beq_self_eq_true]
    simp! only [s_q_same_9, isTys, isTy, Bool.or_self]
    simp! only [s_q_same_10, eq_bl, eq_same (v := .non) rfl (by simp [ld]) (by simp [dp]), beq_self_eq_true]
  · simp! only [f_q_same, b_q_same, s_q_same_1, isTy, Bool.or_false, s_q_same_0, eq_bl, beq_self_eq_true]
  · simp! only [f_q_same, b_q_same, s_q_same_1, isTy, Bool.or_self]
    simp! only [s_q_same_3, isTy, eq_bl, beq_self_eq_true]
    simp! only [s_q_same_5, isTy, eq_bl, beq_self_eq_true]
    simp! only [s_q_same_9, isTys, isTy, Bool.or_self]
    simp! only [s_q_same_10, eq_bl, eq_int, beq_self_eq_true]
  · simp! only [f_q_same, b_q_same, s_q_same_1, isTy, Bool.or_self]
    simp! only [s_q_same_3, isTy, eq_bl, beq_self_eq_true]
    simp! only [s_q_same_5, isTy, eq_bl, beq_self_eq_true]
    simp! only [s_q_same_9, isTys, isTy, Bool.or_self]
    simp! only [s_q_same_10, eq_bl, eq_str hs hs, beq_self_eq_true]
theorem same_seq {n : Nat} {v : V} {vs : List V} (h : v = .tup vs ∨ v = .lst vs) (hl : vs.length < 1000000) (ih : ∀ u ∈ vs, runF P n i_q_same [.val u, .val u] = .ok (.val (.bl true)) [.no, .no]) : runF P (n + 1) i_q_same [.val v, .val v] = .ok (.val (.bl true)) [.no, .no] := by
  refine okc_of (run_ok fn_q_same rfl ?_)
  have e1 : isTy v .bool = some false := by rcases h with rfl | rfl <;> rfl
  have e2 : ∃ b, isTy v .list = some b := by rcases h with rfl | rfl <;> exact ⟨_, rfl⟩
  have e3 : ∃ b, isTy v .tuple = some b := by rcases h with rfl | rfl <;> exact ⟨_, rfl⟩
  have e4 : isTy v .str = some false := by rcases h with rfl | rfl <;> rfl
  have e5 : isTy v .int = some false := by rcases h with rfl | rfl <;> rfl
  have e6 : isTys v [.list, .tuple] = some true := by rcases h with rfl | rfl <;> rfl
  have e7 : lenV v = some vs.length := by rcases h with rfl | rfl <;> rfl
  have e8 : ∀ i < vs.length, itemV v (.int i) = vs[i]? := fun i hi => by
    rcases h with rfl | rfl
    · rw [it_tup, ixn hi]; rfl
    · rw [it_lst, ixn hi]; rfl
  obtain ⟨b2, e2⟩ := e2
  obtain ⟨b3, e3⟩ := e3
  simp! only [f_q_same, b_q_same, s_q_same_1, e1, Bool.or_self]
  simp! only [s_q_same_3, e2, e3, eq_bl, beq_self_eq_true]
  simp! only [s_q_same_5, e4, e5, eq_bl, beq_self_eq_true]
  simp! only [s_q_same_9, e6, s_q_same_7, e7, eq_int, beq_self_eq_true]
  simp! only [s_q_same_8, e7, rng_of hl, rng_len, tgSl]
  refine ⟨by decide, comp_inv (N := vs.length) (fun i acc σ => acc = [] ∧ ∃ x, σ = [.val v, .val v, x]) (fun i acc σ hi ⟨ea, x, es⟩ => ?_) (fun acc σ ⟨ea, x, es⟩ => ?_) _ 0 [] _ (Nat.zero_add _) ⟨rfl, _, rfl⟩⟩
  · subst ea es
    refine ⟨_, rng_at hi, ?_⟩
    have hv := List.getElem?_eq_getElem hi
    simp! only [e8 i hi, hv, sh_q_same_2]
    rw [okc_eq (ih _ (List.getElem_mem hi))]
    simp! only []
    exact ⟨_, rfl⟩
  · subst ea es
    refine ⟨rng_end _, ?_⟩
    simp! only [eq_same (v := .lst []) rfl (by simp [ld, lds]) (by simp [dp, dps])]

theorem same_ok : ∀ (m : Nat) (v : V), gd v = true → nr v = true → dp v ≤ m → wid v < 1000000 → ∀ n, m ≤ n → runF P (n + 1) i_q_same [.val v, .val v] = .ok (.val (.bl true)) [.no, .no]
  | 0, v, g, r, d, w, n, hn => by
    cases v with
    | non => exact same_leaf (.inl rfl)
    | bl b => exact same_leaf (.inr (.inl ⟨b, rfl⟩))
    | int b => exact same_leaf (.inr (.inr (.inl ⟨b, rfl⟩)))
    | str b => exact same_leaf (.inr (.inr (.inr ⟨b, rfl, g⟩)))
    | tup vs => simp only [dp] at d; omega
    | lst vs => simp only [dp] at d; omega
    | _ => cases r
  | m + 1, v, g, r, d, w, n, hn => by
    obtain ⟨n, rfl⟩ : ∃ k, n = k + 1 := ⟨n - 1, by omega⟩
    cases v with
    | non => exact same_leaf (.inl rfl)
    | bl b => exact same_leaf (.inr (.inl ⟨b, rfl⟩))
    | int b => exact same_leaf (.inr (.inr (.inl ⟨b, rfl⟩)))
    | str b => exact same_leaf (.inr (.inr (.inr ⟨b, rfl, g⟩)))
    | tup vs =>
      simp only [dp] at d
      simp only [wid] at w
      refine same_seq (.inl rfl) (by omega) fun u hu => same_ok m u (gds_iff.mp g u hu) (nrs_iff.mp r u hu) ?_ ?_ n (by omega)
      · have := dp_mem hu; omega
      · have := wid_mem hu; omega
    | lst vs =>
      simp only [dp] at d
      simp only [wid] at w
      refine same_seq (.inr rfl) (by omega) fun u hu => same_ok m u (gds_iff.mp g u hu) (nrs_iff.mp r u hu) ?_ ?_ n (by omega)
      · have := dp_mem hu; omega
      · have := wid_mem hu; omega
    | _ => cases r
end K20
set_option Elab.async false
set_option linter.all false
set_option maxRecDepth 100000
set_option maxHeartbeats 4000000
namespace K20
open EP PySem
open SF (Ky Bo Co Ty Bi Fi Sh lenMax bigOk small62)
local macro_rules | `(tactic| simp! only [$ls,*]) => `(tactic| simp -implicitDefEqProofs only [ok_ok, ok_bind, ok_ofO, ok_ite, ok_ifst, oko_some, oko_bind, oko_map, oko_if, rf_rt, rf_nx, fv_val, fv_own, ow_l, ow_d, ow_t, vq, w_var, w_con, w_gl, w_pr, sq, w_me, w_sl, w_bo, w_ch, w_ite, w_tup, w_lst, w_dic0, w_dic1, w_comp, w_nil, w_cons, w_star, aq_own, aq_val, g_own, g_var, g_con, g_gl, g_pr, g_me, g_sl, g_bo, g_ch, g_ite, g_tup, g_lst, g_dic0, g_comp, g_call, w_b1, bq, w_b2, w_tval, w_tbo, w_tnt, w_t1, w_t2, w_c0, w_c1, w_o0, iq, w_o1, w_seq, w_enm, w_zip, w_rng, w_rng2, w_call, w_turn, w_fturn, s_asg, s_aso, s_frz, s_app, s_seti, gq, grq, s_aug, s_par, s_if, s_for, s_rt, s_rto, s_rtN, s_ex, s_brk, s_cnt, s_pas, s_nil, s_cons, kf_nx, kf_rt, kf_bk, kf_ct, r_own, r_lst, r_comp, r_pr, r_call, o_set, a_na, a_nil, a_cons, a_star, st_cons, st_nil, get_nil, get_va, get_ow, ge_va, ge_ow, vals_nil, vals_va, vals_map, p_add, p_sub, p_cat, p_catT, p_catL, p_mul, p_fdiv, p_mod, p_pow, p_neg, p_nt, p_cmp, p_isi, p_isis, p_ix, p_int, p_abs, p_max, p_min, p_len, p_list, p_tuple, p_all, p_any, p_sum, p_ord, p_lset, c_lt, c_le, c_gt, c_ge, c_eq, c_ne, c_in, c_nin, c_is, c_isn, t_bl, it_tup, it_lst, it_ro, l_tup, l_lst, l_ro, q_tup, q_lst, i_tup, i_lst, i_dic, v_tup, v_lst, n_fix, o_newL, e_val, e_dic, y_int, y_str, f_nil, f_kw, k_nil, k_va, k_ow, u_nil, u_va, u_ow, kp_val, kp_no, kp_f, kp_t, fl_at, fo_some, fs_val, fs_no, fs_own, sl_at, fz_val, fz_own, un_own, isNonV, flatV, isOwned, arOk, one, two, plainX, Option.map_none, Option.map_some, Option.bind_some, List.map_cons, List.map_nil, List.cons_append, List.nil_append, List.replicate, Nat.reduceSub, List.getElem?_cons_zero, List.getElem?_cons_succ, List.set_cons_zero, List.set_cons_succ, List.length_cons, List.length_nil, Nat.reduceAdd, List.take_succ_cons, List.take_zero, and_true, true_and, if_true, if_false, Bool.false_eq_true, Bool.not_true, Bool.not_false, Bool.not_eq_true', eq_self, and_self, wipeE, backE, ex_own, Nat.reduceEqDiff, reduceCtorEq, decide_true, decide_false, lm, Nat.reduceLeDiff, w_p0, w_p1, pk_fv, pk_fo, pk_to, sp_nil, sp_cons, p_rev, p_m0, m_strip1, true_or, or_true, Nat.reduceLT, p_mulT, p_mulL, p_intb, s_wh, f_df, cv_int, cv_str, cv_bl, cv_non, cv_tup, p_mulS, p_str, w_mk, w_dun, p_fld, p_slf, p_blo, $ls,*])
/-! # pages are drawn -/
theorem name_ok {n g : Nat} {k : Ch} {Q : Sl → List Sl → Prop} (h : k.Ok) (hg : 1 ≤ g) (hg2 : g ≤ 400) (hc : k.c < 2 ^ 90) (q : ∀ (s : List Nat) (k' : Ch), Wd g s → k'.Ok → k'.c ≤ k.c + 1000 → k'.d = k.d → Q (.val (.str s)) [.own true k'.o, .no]) :
    OkC (runF P (n + 2) i_q_name [.own true k.o, .val (.int g)]) Q := by
  refine run_ok fn_q_name rfl ?_
  simp! only [f_q_name, b_q_name, s_q_name_0]
  rw [show [97, 98, 99, 100, 101, 102, 103, 104, 105, 106, 107, 108, 109, 110, 111, 112, 113, 114, 115, 116, 117, 118, 119, 120, 121, 122, 65, 66, 67, 68, 69, 70, 71, 72, 73, 74, 75, 76, 77, 78, 79, 80, 81, 82, 83, 84, 85, 86, 87, 88, 89, 90, 48, 49, 50, 51, 52, 53, 54, 55, 56, 57] = letters from rfl]
  simp! only [s_q_name_1, sh_q_scoop_2]
  refine scoop_ok h (by omega) (by omega) (by omega) fun d k1 d1 h1 c1 b1 => ?_
  simp! only []
  refine scoop_ok h1 (by omega) (by omega) (by omega) fun e k2 e1 h2 c2 b2 => ?_
  have hz : ∃ z : Nat, 1 ≤ z ∧ [V.int 1, .int 1, .int 2, .int (1 + d)][e]? = some (.int z) := by
    match e, e1 with
    | 0, _ => exact ⟨1, by omega, rfl⟩
    | 1, _ => exact ⟨1, by omega, rfl⟩
    | 2, _ => exact ⟨2, by omega, rfl⟩
    | 3, _ => exact ⟨1 + d, by omega, by simp⟩
    | e + 4, e1 => omega
  obtain ⟨z, z1, ez⟩ := hz
  simp! only [ixn (show e < 4 by omega), ez]
  have hm : ∃ m : Nat, 1 ≤ m ∧ m ≤ g ∧ (if (g : Int) < (z : Int) then (g : Int) else (z : Int)) = (m : Int) := by
    by_cases hh : g < z
    · exact ⟨g, hg, Nat.le_refl _, by rw [if_pos (by omega)]⟩
    · exact ⟨z, z1, by omega, by rw [if_neg (by omega)]⟩
  obtain ⟨m, m1, m2, em⟩ := hm
  simp! only [s_q_name_2, em, rng_of (show m < 1000000 by omega), rng_len]
  refine ⟨by decide, comp_inv (N := m) (fun i acc σ => ∃ (k' : Ch) (s : List Nat) (x : Sl), σ = [.own true k'.o, .val (.int g), .val (.str letters), .val (.int z), x] ∧ acc = s.map (fun c => .str [c]) ∧ s.length = i ∧ (∀ c ∈ s, c ∈ letters) ∧ k'.Ok ∧ k'.c ≤ k.c + 2 + 2 * i ∧ k'.d = k.d)
    (fun i acc σ hi ⟨k', s, x, es, ea, el, hs, hk, ck, dk⟩ => ?_) (fun acc σ ⟨k', s, x, es, ea, el, hs, hk, ck, dk⟩ => ⟨rng_end _, ?_⟩) _ 0 _ _ (Nat.zero_add _) ⟨k2, [], _, rfl, rfl, rfl, by simp, h2, by omega, by omega⟩⟩
  · subst es ea
    refine ⟨_, rng_at hi, ?_⟩
    simp! only [sh_q_scoop_2]
    refine scoop_ok hk (by omega) (by omega) (by omega) fun u k3 u1 h3 c3 b3 => ?_
    have hw : ∃ w : Nat, 1 ≤ w ∧ w ≤ 62 ∧ [V.int 5, .int 62][u]? = some (.int w) := by
      match u, u1 with
      | 0, _ => exact ⟨5, by omega, by omega, rfl⟩
      | 1, _ => exact ⟨62, by omega, by omega, rfl⟩
      | u + 2, u1 => omega
    obtain ⟨w, w1, w2, ew⟩ := hw
    simp! only [ixn (show u < 2 by omega), ew]
    refine scoop_ok h3 (by omega) (by omega) (by omega) fun v k4 v1 h4 c4 b4 => ?_
    have hv : v < letters.length := by show v < 62; omega
    have ei : itemV (.str letters) (.int v) = some (.str [letters[v]]) := it_str hv (by decide)
    have el2 : ∀ c ∈ s ++ [letters[v]], c ∈ letters := fun c hc' => by
      rw [List.mem_append, List.mem_singleton] at hc'
      rcases hc' with hc' | rfl
      · exact hs c hc'
      · exact List.getElem_mem _
    simp! only [ei, List.length_map]
    exact ⟨by unfold SF.lenMax; omega, k4, s ++ [letters[v]], _, rfl, by simp, by simp; omega, el2, h4, by omega, by omega⟩
  · subst es ea
    simp! only []
    refine join_ones (by omega) ?_
    simp! only []
    exact q s k' ⟨fun e => by subst e; simp at el; omega, by omega, hs⟩ hk (by omega) dk

def signs : List Nat := [97, 98, 99, 120, 121, 122, 65, 90, 48, 49, 57, 32, 35, 40, 41, 44, 59, 46, 58, 45, 95, 33, 126]
theorem signs_ok : ∀ c ∈ signs, 32 ≤ c ∧ c ≤ 126 ∧ c ≠ 37 := by decide
theorem remark_ok {n : Nat} {k : Ch} {Q : Sl → List Sl → Prop} (h : k.Ok) (hc : k.c < 2 ^ 90) (q : ∀ (s : List Nat) (k' : Ch), Cm s → k'.Ok → k'.c ≤ k.c + 20 → k'.d = k.d → Q (.val (.str s)) [.own true k'.o]) :
    OkC (runF P (n + 2) i_q_remark [.own true k.o]) Q := by
  refine run_ok fn_q_remark rfl ?_
  simp! only [f_q_remark, b_q_remark, s_q_remark_0]
  rw [show [97, 98, 99, 120, 121, 122, 65, 90, 48, 49, 57, 32, 35, 40, 41, 44, 59, 46, 58, 45, 95, 33, 126] = signs from rfl]
  simp! only [s_q_remark_1, sh_q_scoop_2]
  refine scoop_ok h (by omega) (by omega) (by omega) fun d k1 d1 h1 c1 b1 => ?_
  simp! only []
  refine scoop_ok h1 (by omega) (by omega) (by omega) fun e k2 e1 h2 c2 b2 => ?_
  have hz : ∃ z : Nat, 1 ≤ z ∧ z ≤ 12 ∧ [V.int 1, .int 2, .int (1 + d)][e]? = some (.int z) := by
    match e, e1 with
    | 0, _ => exact ⟨1, by omega, by omega, rfl⟩
    | 1, _ => exact ⟨2, by omega, by omega, rfl⟩
    | 2, _ => exact ⟨1 + d, by omega, by omega, by simp⟩
    | e + 3, e1 => omega
  obtain ⟨z, z1, z2, ez⟩ := hz
  simp! only [ixn (show e < 3 by omega), ez]
  have hlen : lenV (.str signs) = some 23 := rfl
  simp! only [s_q_remark_2, rng_of (show z < 1000000 by omega), rng_len]
  refine ⟨by decide, comp_inv (N := z) (fun i acc σ => ∃ (k' : Ch) (s : List Nat) (x : Sl), σ = [.own true k'.o, .val (.str signs), .val (.int z), .no, x] ∧ acc = s.map (fun c => .str [c]) ∧ s.length = i ∧ (∀ c ∈ s, c ∈ signs) ∧ k'.Ok ∧ k'.c ≤ k.c + 2 + i ∧ k'.d = k.d)
    (fun i acc σ hi ⟨k', s, x, es, ea, el, hs, hk, ck, dk⟩ => ?_) (fun acc σ ⟨k', s, x, es, ea, el, hs, hk, ck, dk⟩ => ⟨rng_end _, ?_⟩) _ 0 _ _ (Nat.zero_add _) ⟨k2, [], _, rfl, rfl, rfl, by simp, h2, by omega, by omega⟩⟩
  · subst es ea
    refine ⟨_, rng_at hi, ?_⟩
    simp! only [hlen, sh_q_scoop_2]
    refine scoop_ok hk (by omega) (by omega) (by omega) fun v k4 v1 h4 c4 b4 => ?_
    have hv : v < signs.length := by show v < 23; omega
    have ei : itemV (.str signs) (.int v) = some (.str [signs[v]]) := it_str hv (by decide)
    have el2 : ∀ c ∈ s ++ [signs[v]], c ∈ signs := fun c hc' => by
      rw [List.mem_append, List.mem_singleton] at hc'
      rcases hc' with hc' | rfl
      · exact hs c hc'
      · exact List.getElem_mem _
    simp! only [ei, List.length_map]
    exact ⟨by unfold SF.lenMax; omega, k4, s ++ [signs[v]], _, rfl, by simp, by simp; omega, el2, h4, by omega, by omega⟩
  · subst es ea
    have hok : okS s = true := by
      unfold okS
      rw [List.all_eq_true]
      intro c hc'
      have := (signs_ok c (hs c hc')).2.1
      simp; omega
    have hot : okS (trim Unicode.isSpace s) = true := by
      unfold okS
      rw [List.all_eq_true]
      intro c hc'
      have := (signs_ok c (hs c (trim_mem hc'))).2.1
      simp; omega
    have hne : s ≠ [] := fun e => by subst e; simp at el; omega
    simp! only []
    refine join_ones (by omega) ?_
    simp! only [flagS]
    simp! only [s_q_remark_3, strip_is, eq_str hot hok, eq_str hok (show okS [] = true from rfl)]
    refine ⟨by unfold SF.lenMax; omega, ?_⟩
    by_cases ht : trim Unicode.isSpace s = s
    · simp! only [ht, hne]
      exact q s k' (.of_trim hne (by omega) (fun c hc' => signs_ok c (hs c hc')) ht) hk (by omega) dk
    · simp! only [ht]
      exact q [110] k' .n hk (by omega) dk
theorem remarks_ok {n : Nat} {b : Int} {k : Ch} {Q : Sl → List Sl → Prop} (h : k.Ok) (hb : 1 ≤ b) (hb2 : b < 1000) (hc : k.c < 2 ^ 88) (q : ∀ (l : List (List Nat)) (k' : Ch), (∀ s ∈ l, Cm s) → l.length ≤ 3 → k'.Ok → k'.c ≤ k.c + 100 → k'.d = k.d → Q (.val (.tup (l.map .str))) [.own true k'.o, .no]) :
    OkC (runF P (n + 3) i_q_some_remarks [.own true k.o, .val (.int b)]) Q := by
  refine run_ok fn_q_some_remarks rfl ?_
  simp! only [f_q_some_remarks, b_q_some_remarks, s_q_some_remarks_1, sh_q_scoop_2]
  refine scoop_ok h (by omega) (by omega) (by omega) fun d k1 d1 h1 c1 b1 => ?_
  simp! only []
  by_cases hd : (0 : Int) < d
  · simp! only [hd, s_q_some_remarks_0]
    exact q [] k1 (by simp) (by simp) h1 (by omega) b1
  · simp! only [hd, s_q_some_remarks_2, sh_q_scoop_2]
    refine ⟨by decide, scoop_ok h1 (by omega) (by omega) (by omega) fun e k2 e1 h2 c2 b2 => ?_⟩
    have hz : ∃ z : Nat, z ≤ 3 ∧ [V.int 1, .int 1, .int 2, .int 3][e]? = some (.int z) := by
      match e, e1 with
      | 0, _ => exact ⟨1, by omega, rfl⟩
      | 1, _ => exact ⟨1, by omega, rfl⟩
      | 2, _ => exact ⟨2, by omega, rfl⟩
      | 3, _ => exact ⟨3, by omega, rfl⟩
      | e + 4, e1 => omega
    obtain ⟨z, z2, ez⟩ := hz
    simp! only [ixn (show e < 4 by omega), ez, rng_of (show z < 1000000 by omega), rng_len]
    refine comp_inv (N := z) (fun i acc σ => ∃ (k' : Ch) (l : List (List Nat)) (x : Sl), σ = [.own true k'.o, .val (.int b), x] ∧ acc = l.map .str ∧ l.length = i ∧ (∀ s ∈ l, Cm s) ∧ k'.Ok ∧ k'.c ≤ k.c + 2 + 20 * i ∧ k'.d = k.d)
      (fun i acc σ hi ⟨k', l, x, es, ea, el, hs, hk, ck, dk⟩ => ?_) (fun acc σ ⟨k', l, x, es, ea, el, hs, hk, ck, dk⟩ => ⟨rng_end _, ?_⟩) _ 0 _ _ (Nat.zero_add _) ⟨k2, [], _, rfl, rfl, rfl, by simp, h2, by omega, by omega⟩
    · subst es ea
      refine ⟨_, rng_at hi, ?_⟩
      simp! only [sh_q_remark_1]
      refine remark_ok hk (by omega) fun s k4 hs4 h4 c4 b4 => ?_
      simp! only [List.length_map]
      refine ⟨by unfold SF.lenMax; omega, k4, l ++ [s], _, rfl, by simp, by simp; omega, fun t ht => ?_, h4, by omega, by omega⟩
      rw [List.mem_append, List.mem_singleton] at ht
      rcases ht with ht | rfl
      · exact hs t ht
      · exact hs4
    · subst es ea
      simp! only [List.length_map]
      exact ⟨by unfold SF.lenMax; omega, q l k' hs (by omega) hk (by omega) dk⟩
def Ch.bud (k : Ch) : Nat := k.d.toNat
theorem ch_v (k : Ch) : k.o.v = .lst k.vs := rfl
theorem ch_len (k : Ch) : k.vs.length = 4 := rfl
theorem ch_ix : L2.ixN 4 3 = some 3 := by decide
theorem ch_3 (k : Ch) : k.vs[3]? = some (.int k.d) := rfl
theorem ch_set (p : Bool) (k : Ch) (x : Int) : setV (.own p k.o) (.int 3) (.int x) = some (.own p (Ch.o { k with d := x })) := rfl
theorem many_at {e : Nat} (h : (e : Int) < 3) : ∃ z : Nat, 1 ≤ z ∧ z ≤ 6 ∧ [V.int 3, .int 3, .int 6][e]? = some (.int z) := by
  match e, h with
  | 0, _ => exact ⟨3, by omega, by omega, rfl⟩
  | 1, _ => exact ⟨3, by omega, by omega, rfl⟩
  | 2, _ => exact ⟨6, by omega, by omega, rfl⟩
  | e + 3, h => omega
theorem bare_ok {g : Nat} (hg : 1 ≤ g) (hg2 : g ≤ 400) : ∀ (deep : Nat) {n : Nat} {k : Ch} {Q : Sl → List Sl → Prop}, deep < 100 → k.Ok → k.d ≤ 1000 → k.c + 100000 * ((k.bud : Int) + 10) < 2 ^ 85 → deep + 3 ≤ n →
    (∀ (w : List Nat) (ks : List Nd) (k' : Ch), Rt g 3 (.mk w .flat ks [] [] []) → (∀ x ∈ ks, x.bare) → hts ks ≤ deep → 1 + szs ks ≤ 1 + 6 * (k.bud - k'.bud) → k'.bud ≤ k.bud → k'.d ≤ k.d → k'.Ok → k'.c ≤ k.c + 1100 * (1 + szs ks : Nat) → Q (.val (nodeV (.mk w .flat ks [] [] []))) [.own true k'.o, .no, .no]) →
    OkC (runF P n i_q_bare_node [.own true k.o, .val (.int deep), .val (.int g)]) Q
  | deep, n, k, Q, hdeep, h, hd, hc, hn, q => by
    obtain ⟨n, rfl⟩ : ∃ m, n = m + 3 := ⟨n - 3, by omega⟩
    refine run_ok fn_q_bare_node rfl ?_
    simp! only [f_q_bare_node, b_q_bare_node, s_q_bare_node_0]
    simp! only [s_q_bare_node_1, ch_v, ch_len, ch_ix, ch_3, ch_set]
    have hk0 : Ch.Ok { k with d := k.d - 1 } := ⟨h.a, h.b, h.b', h.c, h.c'⟩
    have eb : k.bud = k.d.toNat := rfl
    generalize hk : ({ k with d := k.d - 1 } : Ch) = k0 at hk0
    have kc : k0.c = k.c := by rw [← hk]
    have kd : k0.d = k.d - 1 := by rw [← hk]
    have kb : k0.bud = k.d.toNat - 1 := by show k0.d.toNat = _; omega
    have fin : ∀ (ks : List Nd) (k1 : Ch) (x4 : Sl), Rts g 3 ks → (∀ x ∈ ks, x.bare) → hts ks ≤ deep → szs ks ≤ 6 * (k.bud - k1.bud) → k1.bud ≤ k.bud → k1.d ≤ k.d → k1.Ok → k1.c ≤ k.c + 10 + 1100 * (szs ks : Nat) → szs ks ≤ 10000 →
        Ok (exS (cn P (n + 2)) s_q_bare_node_5 [.own true k1.o, .val (.int deep), .val (.int g), .val (.tup (ks.map nodeV)), x4, .no]) (KF (cn P (n + 2)) .nil (RF 3 Q)) := fun ks k1 x4 r1 r2 r3 r4 r5 r6 r7 r8 r9 => by
      simp! only [s_q_bare_node_5, sh_q_name_2]
      refine name_ok r7 hg hg2 (by omega) fun s k2 hs h2 c2 b2 => ?_
      have kb2 : k2.bud = k1.bud := by show k2.d.toNat = k1.d.toNat; rw [b2]
      simp! only []
      have e : V.tup [.str s, .str [102, 108, 97, 116], .tup (ks.map nodeV), .tup [], .str [], .tup []] = nodeV (.mk s .flat ks [] [] []) := by rw [node_eq]; rfl
      rw [e]
      refine q s ks k2 ?_ r2 r3 (by omega) (by omega) (by omega) h2 (by omega)
      simp only [Rt]
      exact ⟨hs, by simp, .inl trivial, by simp, fun _ => ⟨trivial, trivial⟩, fun _ => ⟨trivial, r2⟩, by simp, by simp, r1⟩
    have finE : ∀ (k1 : Ch), k1.Ok → k1.c ≤ k.c + 10 → k1.d = k.d - 1 → Ok (exS (cn P (n + 2)) s_q_bare_node_5 [.own true k1.o, .val (.int deep), .val (.int g), .val (.tup []), .no, .no]) (KF (cn P (n + 2)) .nil (RF 3 Q)) := fun k1 r1 r2 r3 => by
      have kb1 : k1.bud = k.d.toNat - 1 := by show k1.d.toNat = _; omega
      exact fin [] k1 .no (by simp only [Rts]) (by simp) (by simp [hts]) (by simp [szs]) (by omega) (by omega) r1 (by simp only [szs]; omega) (by simp [szs])
    simp! only [s_q_bare_node_4, ch_v, ch_len, ch_ix, ch_3]
    by_cases h0 : (0 : Int) < deep
    · have hx : ∃ m : Nat, (deep : Int) - 1 = (m : Int) ∧ m + 1 = deep := ⟨deep - 1, by omega, by omega⟩
      obtain ⟨dp', hdd, hde⟩ := hx
      simp! only [h0]
      by_cases h3 : 0 < k0.d
      · simp! only [h3, sh_q_scoop_2]
        refine scoop_ok hk0 (by omega) (by omega) (by omega) fun d k1 d1 h1 c1 b1 => ?_
        simp! only [eq_int]
        cases hz : ((d : Int) == 0) with
        | false =>
          simp! only []
          exact finE k1 h1 (by omega) (by omega)
        | true =>
          simp! only [s_q_bare_node_2, sh_q_scoop_2]
          refine scoop_ok h1 (by omega) (by omega) (by omega) fun e k2 e1 h2 c2 b2 => ?_
          obtain ⟨z, z1, z2, ez⟩ := many_at e1
          simp! only [ixn (show e < 3 by omega), ez]
          refine scoop_ok h2 (by omega) (by omega) (by omega) fun u k3 u1 h3' c3 b3 => ?_
          simp! only []
          have em : (1 : Int) + u = ((1 + u : Nat) : Int) := by omega
          have kb3 : k3.bud = k.d.toNat - 1 := by show k3.d.toNat = _; omega
          simp! only [s_q_bare_node_3, em, rng_of (show 1 + u < 1000000 by omega), rng_len]
          refine ⟨by decide, comp_inv (N := 1 + u) (fun i acc σ => ∃ (k' : Ch) (ks : List Nd) (x : Sl), σ = [.own true k'.o, .val (.int deep), .val (.int g), .val (.tup []), .val (.int (1 + u : Nat)), x] ∧ acc = ks.map nodeV ∧ ks.length = i ∧ Rts g 3 ks ∧ (∀ x ∈ ks, x.bare) ∧ hts ks ≤ deep ∧ szs ks ≤ i + 6 * (k3.bud - k'.bud) ∧ k'.bud ≤ k3.bud ∧ k'.d ≤ k3.d ∧ k'.Ok ∧ k'.c ≤ k.c + 3 + 1100 * (szs ks : Nat))
            (fun i acc σ hi ⟨k', ks, x, es, ea, el, q1, q2, q3, q4, q5, q6, q7, q8⟩ => ?_) (fun acc σ ⟨k', ks, x, es, ea, el, q1, q2, q3, q4, q5, q6, q7, q8⟩ => ⟨rng_end _, ?_⟩) _ 0 _ _ (Nat.zero_add _) ⟨k3, [], _, rfl, rfl, rfl, by simp only [Rts], by simp, by simp [hts], by simp [szs], Nat.le_refl _, Int.le_refl _, h3', by simp only [szs]; omega⟩⟩
          · subst es ea
            refine ⟨_, rng_at hi, ?_⟩
            simp! only [hdd, sh_q_bare_node_3]
            refine bare_ok hg hg2 dp' (by omega) q7 (by omega) (by omega) (by omega) fun w kk k4 a1 a2 a3 a4 a5 a6 a7 a8 => ?_
            simp! only [List.length_map]
            have es4 : szs (ks ++ [.mk w .flat kk [] [] []]) = szs ks + (1 + szs kk) := by rw [szs_app]; simp only [szs, sz]; omega
            refine ⟨by unfold SF.lenMax; omega, k4, ks ++ [.mk w .flat kk [] [] []], _, rfl, by simp, by simp; omega, ?_, ?_, ?_, by omega, by omega, by omega, a7, by omega⟩
            · rw [Rts_iff] at q1 ⊢
              intro m hm
              rw [List.mem_append, List.mem_singleton] at hm
              rcases hm with hm | rfl
              · exact q1 m hm
              · exact a1
            · intro m hm
              rw [List.mem_append, List.mem_singleton] at hm
              rcases hm with hm | rfl
              · exact q2 m hm
              · exact ⟨rfl, rfl, rfl⟩
            · refine hts_le fun m hm => ?_
              rw [List.mem_append, List.mem_singleton] at hm
              rcases hm with hm | rfl
              · have := ht_mem hm; omega
              · simp only [ht]; omega
          · subst es ea
            have := len_szs ks
            simp! only [List.length_map]
            refine ⟨by unfold SF.lenMax; omega, ?_⟩
            exact fin ks k' _ q1 q2 q3 (by omega) (by omega) (by omega) q7 (by omega) (by omega)
      · simp! only [h3]
        exact finE k0 hk0 (by omega) kd
    · simp! only [h0]
      exact finE k0 hk0 (by omega) kd
termination_by deep => deep
decreasing_by omega
end K20
set_option Elab.async false
set_option linter.all false
set_option maxRecDepth 100000
set_option maxHeartbeats 4000000
namespace K20
open EP PySem
open SF (Ky Bo Co Ty Bi Fi Sh lenMax bigOk small62)
local macro_rules | `(tactic| simp! only [$ls,*]) => `(tactic| simp -implicitDefEqProofs only [ok_ok, ok_bind, ok_ofO, ok_ite, ok_ifst, oko_some, oko_bind, oko_map, oko_if, rf_rt, rf_nx, fv_val, fv_own, ow_l, ow_d, ow_t, vq, w_var, w_con, w_gl, w_pr, sq, w_me, w_sl, w_bo, w_ch, w_ite, w_tup, w_lst, w_dic0, w_dic1, w_comp, w_nil, w_cons, w_star, aq_own, aq_val, g_own, g_var, g_con, g_gl, g_pr, g_me, g_sl, g_bo, g_ch, g_ite, g_tup, g_lst, g_dic0, g_comp, g_call, w_b1, bq, w_b2, w_tval, w_tbo, w_tnt, w_t1, w_t2, w_c0, w_c1, w_o0, iq, w_o1, w_seq, w_enm, w_zip, w_rng, w_rng2, w_call, w_turn, w_fturn, s_asg, s_aso, s_frz, s_app, s_seti, gq, grq, s_aug, s_par, s_if, s_for, s_rt, s_rto, s_rtN, s_ex, s_brk, s_cnt, s_pas, s_nil, s_cons, kf_nx, kf_rt, kf_bk, kf_ct, r_own, r_lst, r_comp, r_pr, r_call, o_set, a_na, a_nil, a_cons, a_star, st_cons, st_nil, get_nil, get_va, get_ow, ge_va, ge_ow, vals_nil, vals_va, vals_map, p_add, p_sub, p_cat, p_catT, p_catL, p_mul, p_fdiv, p_mod, p_pow, p_neg, p_nt, p_cmp, p_isi, p_isis, p_ix, p_int, p_abs, p_max, p_min, p_len, p_list, p_tuple, p_all, p_any, p_sum, p_ord, p_lset, c_lt, c_le, c_gt, c_ge, c_eq, c_ne, c_in, c_nin, c_is, c_isn, t_bl, it_tup, it_lst, it_ro, l_tup, l_lst, l_ro, q_tup, q_lst, i_tup, i_lst, i_dic, v_tup, v_lst, n_fix, o_newL, e_val, e_dic, y_int, y_str, f_nil, f_kw, k_nil, k_va, k_ow, u_nil, u_va, u_ow, kp_val, kp_no, kp_f, kp_t, fl_at, fo_some, fs_val, fs_no, fs_own, sl_at, fz_val, fz_own, un_own, isNonV, flatV, isOwned, arOk, one, two, plainX, Option.map_none, Option.map_some, Option.bind_some, List.map_cons, List.map_nil, List.cons_append, List.nil_append, List.replicate, Nat.reduceSub, List.getElem?_cons_zero, List.getElem?_cons_succ, List.set_cons_zero, List.set_cons_succ, List.length_cons, List.length_nil, Nat.reduceAdd, List.take_succ_cons, List.take_zero, and_true, true_and, if_true, if_false, Bool.false_eq_true, Bool.not_true, Bool.not_false, Bool.not_eq_true', eq_self, and_self, wipeE, backE, ex_own, Nat.reduceEqDiff, reduceCtorEq, decide_true, decide_false, lm, Nat.reduceLeDiff, w_p0, w_p1, pk_fv, pk_fo, pk_to, sp_nil, sp_cons, p_rev, p_m0, m_strip1, true_or, or_true, Nat.reduceLT, p_mulT, p_mulL, p_intb, s_wh, f_df, cv_int, cv_str, cv_bl, cv_non, cv_tup, p_mulS, p_str, w_mk, w_dun, p_fld, p_slf, p_blo, $ls,*])
theorem rts_snoc {g L : Nat} {ks : List Nd} {n : Nd} (h : Rts g L ks) (h2 : Rt g L n) : Rts g L (ks ++ [n]) := by
  rw [Rts_iff] at h ⊢
  intro m hm
  rw [List.mem_append, List.mem_singleton] at hm
  rcases hm with hm | rfl
  · exact h m hm
  · exact h2
theorem hts_snoc {d : Nat} {ks : List Nd} {n : Nd} (h : hts ks ≤ d) (h2 : ht n + 1 ≤ d) : hts (ks ++ [n]) ≤ d := by
  refine hts_le fun m hm => ?_
  rw [List.mem_append, List.mem_singleton] at hm
  rcases hm with hm | rfl
  · have := ht_mem hm; omega
  · exact h2
theorem szs_snoc (ks : List Nd) (n : Nd) : szs (ks ++ [n]) = szs ks + sz n := by rw [szs_app]; simp only [szs]; omega
theorem shape_at {e : Nat} (h : (e : Int) < 3) : ∃ f : Frm, f ≠ .flat ∧ [V.str [111, 112, 101, 110], .str [111, 112, 101, 110], .str [99, 111, 109, 109, 97]][e]? = some (.str (fS f)) := by
  match e, h with
  | 0, _ => exact ⟨.opn, by decide, rfl⟩
  | 1, _ => exact ⟨.opn, by decide, rfl⟩
  | 2, _ => exact ⟨.comma, by decide, rfl⟩
  | e + 3, h => omega
theorem dnode_ok {g : Nat} (hg : 1 ≤ g) (hg2 : g ≤ 400) : ∀ (deep : Nat) {n : Nat} {k : Ch} {Q : Sl → List Sl → Prop}, deep < 100 → k.Ok → k.d ≤ 1000 → k.c + 200000 * ((k.bud : Int) + 10) < 2 ^ 85 → deep + 10 ≤ n →
    (∀ (nd : Nd) (k' : Ch), Rt g 3 nd → ht nd ≤ deep → sz nd ≤ 1 + 6 * (k.bud - k'.bud) → k'.bud ≤ k.bud → k'.d ≤ k.d → k'.Ok → k'.c ≤ k.c + 2000 * (sz nd : Nat) → Q (.val (nodeV nd)) [.own true k'.o, .no, .no]) →
    OkC (runF P n i_q_drawn_node [.own true k.o, .val (.int deep), .val (.int g)]) Q
  | deep, n, k, Q, hdeep, h, hd, hc, hn, q => by
    obtain ⟨n, rfl⟩ : ∃ m, n = m + 5 := ⟨n - 5, by omega⟩
    refine run_ok fn_q_drawn_node rfl ?_
    have eb : k.bud = k.d.toNat := rfl
    have i0 : L2.ixN 6 0 = some 0 := by decide
    have i2 : L2.ixN 6 2 = some 2 := by decide
    have main : ∀ (l : List (List Nat)) (t : List Nat) (k1 : Ch), (∀ s ∈ l, Cm s) → l.length ≤ 3 → (t = [] ∨ Cm t) → k1.Ok → k1.c ≤ k.c + 130 → k1.d = k.d →
        Ok (exs (cn P (n + 4)) (.cons s_q_drawn_node_3 (.cons s_q_drawn_node_4 (.cons s_q_drawn_node_5 (.cons s_q_drawn_node_6 (.cons s_q_drawn_node_7 (.cons s_q_drawn_node_8 .nil))))))
          [.own true k1.o, .val (.int deep), .val (.int g), .no, .no, .no, .val (.tup (l.map .str)), .val (.str t), .no, .no]) (RF 3 Q) := fun l t k1 l1 l2 t1 h1 c1 b1 => by
      have kb1 : k1.bud = k.bud := by show k1.d.toNat = k.d.toNat; rw [b1]
      -- the bare one
      have fin1 : ∀ k2 : Ch, k2.Ok → k2.c ≤ k.c + 140 → k2.d = k.d → Ok (exS (cn P (n + 4)) s_q_drawn_node_1 [.own true k2.o, .val (.int deep), .val (.int g), .no, .no, .no, .val (.tup (l.map .str)), .val (.str t), .no, .no]) (KF (cn P (n + 4)) (.cons s_q_drawn_node_2 .nil) (KF (cn P (n + 4)) (.cons s_q_drawn_node_4 (.cons s_q_drawn_node_5 (.cons s_q_drawn_node_6 (.cons s_q_drawn_node_7 (.cons s_q_drawn_node_8 .nil))))) (RF 3 Q))) := fun k2 h2 c2 b2 => by
        have kb2 : k2.bud = k.bud := by show k2.d.toNat = k.d.toNat; rw [b2]
        have hm : ∃ m : Nat, m ≤ deep ∧ (if (2 : Int) < (deep : Int) then (2 : Int) else (deep : Int)) = (m : Int) := by
          by_cases hh : 2 < deep
          · exact ⟨2, by omega, by rw [if_pos (by omega)]; rfl⟩
          · exact ⟨deep, Nat.le_refl _, by rw [if_neg (by omega)]⟩
        obtain ⟨m, hm1, em⟩ := hm
        simp! only [s_q_drawn_node_1, em, sh_q_bare_node_3]
        refine bare_ok hg hg2 m (by omega) h2 (by omega) (by omega) (by omega) fun w ks k3 a1 a2 a3 a4 a5 a6 a7 a8 => ?_
        simp! only []
        simp! only [s_q_drawn_node_2, node_eq, i0, i2]
        have e : V.tup [.str w, .str [102, 108, 97, 116], .tup (ks.map nodeV), .tup (l.map .str), .str t, .tup []] = nodeV (.mk w .flat ks l t []) := by rw [node_eq]; rfl
        rw [e]
        simp only [Rt] at a1
        refine q _ k3 ?_ (by simp only [ht]; omega) (by simp only [sz]; omega) (by omega) (by omega) a7 (by simp only [sz]; omega)
        simp only [Rt]
        exact ⟨a1.1, l1, t1, by simp, fun _ => ⟨trivial, trivial⟩, fun _ => ⟨trivial, a2⟩, by omega, by simp, a1.2.2.2.2.2.2.2.2⟩
      -- the call
      have fin2 : ∀ k2 : Ch, 0 < deep → 1 ≤ k2.d → k2.Ok → k2.c ≤ k.c + 140 → k2.d = k.d → Ok (exS (cn P (n + 4)) s_q_drawn_node_4 [.own true k2.o, .val (.int deep), .val (.int g), .no, .no, .no, .val (.tup (l.map .str)), .val (.str t), .no, .no]) (KF (cn P (n + 4)) (.cons s_q_drawn_node_5 (.cons s_q_drawn_node_6 (.cons s_q_drawn_node_7 (.cons s_q_drawn_node_8 .nil)))) (RF 3 Q)) := fun k2 hp d2 h2 c2 b2 => by
        obtain ⟨dp', hdd, hde⟩ : ∃ m : Nat, (deep : Int) - 1 = (m : Int) ∧ m + 1 = deep := ⟨deep - 1, by omega, by omega⟩
        have hk0 : Ch.Ok { k2 with d := k2.d - 1 } := ⟨h2.a, h2.b, h2.b', h2.c, h2.c'⟩
        simp! only [s_q_drawn_node_4, ch_v, ch_len, ch_ix, ch_3, ch_set]
        generalize hk : ({ k2 with d := k2.d - 1 } : Ch) = k0 at hk0
        have kc : k0.c = k2.c := by rw [← hk]
        have kd : k0.d = k2.d - 1 := by rw [← hk]
        simp! only [s_q_drawn_node_5, sh_q_scoop_2]
        refine scoop_ok hk0 (by omega) (by omega) (by omega) fun e k3 e1 h3 c3 b3 => ?_
        obtain ⟨z, z1, z2, ez⟩ := many_at e1
        simp! only [ixn (show e < 3 by omega), ez]
        refine scoop_ok h3 (by omega) (by omega) (by omega) fun u k4 u1 h4 c4 b4 => ?_
        simp! only []
        have em : (1 : Int) + u = ((1 + u : Nat) : Int) := by omega
        have kb4 : k4.bud = k.bud - 1 := by show k4.d.toNat = k.d.toNat - 1; omega
        have hb1 : 1 ≤ k.bud := by show 1 ≤ k.d.toNat; omega
        simp! only [s_q_drawn_node_6, em, rng_of (show 1 + u < 1000000 by omega), rng_len]
        refine ⟨by decide, comp_inv (N := 1 + u) (fun i acc σ => ∃ (k' : Ch) (ks : List Nd) (x : Sl), σ = [.own true k'.o, .val (.int deep), .val (.int g), .val (.int (1 + u : Nat)), .no, .no, .val (.tup (l.map .str)), .val (.str t), .no, x] ∧ acc = ks.map nodeV ∧ ks.length = i ∧ Rts g 3 ks ∧ hts ks ≤ deep ∧ szs ks ≤ i + 6 * (k4.bud - k'.bud) ∧ k'.bud ≤ k4.bud ∧ k'.d ≤ k4.d ∧ k'.Ok ∧ k'.c ≤ k.c + 150 + 2000 * (szs ks : Nat))
          (fun i acc σ hi ⟨k', ks, x, es, ea, el, q1, q3, q4, q5, q6, q7, q8⟩ => ?_) (fun acc σ ⟨k', ks, x, es, ea, el, q1, q3, q4, q5, q6, q7, q8⟩ => ⟨rng_end _, ?_⟩) _ 0 _ _ (Nat.zero_add _) ⟨k4, [], _, rfl, rfl, rfl, by simp only [Rts], by simp [hts], by simp [szs], Nat.le_refl _, Int.le_refl _, h4, by simp only [szs]; omega⟩⟩
        · subst es ea
          refine ⟨_, rng_at hi, ?_⟩
          simp! only [hdd, sh_q_drawn_node_3]
          refine dnode_ok hg hg2 dp' (by omega) q7 (by omega) (by omega) (by omega) fun nd k5 a1 a3 a4 a5 a6 a7 a8 => ?_
          have es5 := szs_snoc ks nd
          simp! only [List.length_map]
          exact ⟨by unfold SF.lenMax; omega, k5, ks ++ [nd], _, rfl, by simp, by simp; omega, rts_snoc q1 a1, hts_snoc q3 (by omega), by omega, by omega, by omega, a7, by omega⟩
        · subst es ea
          have hls := len_szs ks
          simp! only [List.length_map]
          refine ⟨by unfold SF.lenMax; omega, ?_⟩
          simp! only [s_q_drawn_node_7, sh_q_scoop_2]
          refine scoop_ok q7 (by omega) (by omega) (by omega) fun v k5 v1 h5 c5 b5 => ?_
          obtain ⟨f, hf, ef⟩ := shape_at v1
          simp! only [ixn (show v < 3 by omega), ef]
          simp! only [s_q_drawn_node_8, sh_q_name_2]
          refine name_ok h5 hg hg2 (by omega) fun s k6 hs h6 c6 b6 => ?_
          simp! only [sh_q_some_remarks_2]
          refine remarks_ok h6 (b := 7) (by omega) (by omega) (by omega) fun r k7 r1 r2 h7 c7 b7 => ?_
          have kb7 : k7.bud = k'.bud := by show k7.d.toNat = k'.d.toNat; omega
          simp! only []
          have e : V.tup [.str s, .str (fS f), .tup (ks.map nodeV), .tup (l.map .str), .str t, .tup (r.map .str)] = nodeV (.mk s f ks l t r) := by rw [node_eq]
          rw [e]
          refine q _ k7 ?_ (by simp only [ht]; exact q3) (by simp only [sz]; omega) (by omega) (by omega) h7 (by simp only [sz]; omega)
          simp only [Rt]
          exact ⟨hs, l1, t1, r1, fun e => by subst e; simp at el; omega, fun e => absurd e hf, by omega, by omega, q1⟩
      simp! only [s_q_drawn_node_3, ch_v, ch_len, ch_ix, ch_3, eq_int]
      cases h0 : ((deep : Int) == 0) with
      | true => simp! only []; exact fin1 k1 h1 (by omega) b1
      | false =>
        have hp : 0 < deep := by simp at h0; omega
        by_cases h3 : k1.d < 1
        · simp! only [h3]; exact fin1 k1 h1 (by omega) b1
        · simp! only [h3, sh_q_scoop_2]
          refine scoop_ok h1 (by omega) (by omega) (by omega) fun e k2 e1 h2 c2 b2 => ?_
          simp! only [eq_int]
          cases he : ((e : Int) == 0) with
          | true => simp! only []; exact fin1 k2 h2 (by omega) (by omega)
          | false => simp! only []; exact fin2 k2 hp (by omega) h2 (by omega) (by omega)
    simp only [f_q_drawn_node, b_q_drawn_node, List.cons_append, List.nil_append, List.replicate, Nat.reduceSub]
    rw [s_cons]
    simp! only [s_q_drawn_node_0, sh_q_some_remarks_2]
    refine remarks_ok h (b := 4) (by omega) (by omega) (by omega) fun l k1 l1 l2 h1 c1 b1 => ?_
    simp! only [sh_q_scoop_2]
    refine scoop_ok h1 (by omega) (by omega) (by omega) fun d k2 d1 h2 c2 b2 => ?_
    simp! only [eq_int]
    cases hz : ((d : Int) == 0) with
    | false =>
      simp! only []
      have := main l [] k2 l1 l2 (.inl rfl) h2 (by omega) (by omega)
      rw [s_cons] at this
      exact this
    | true =>
      simp! only [sh_q_remark_1]
      refine remark_ok h2 (by omega) fun s k3 hs h3 c3 b3 => ?_
      simp! only []
      have := main l s k3 l1 l2 (.inr hs) h3 (by omega) (by omega)
      rw [s_cons] at this
      exact this
termination_by deep => deep
decreasing_by omega
end K20
set_option Elab.async false
set_option linter.all false
set_option maxRecDepth 100000
set_option maxHeartbeats 4000000
namespace K20
open EP PySem
open SF (Ky Bo Co Ty Bi Fi Sh lenMax bigOk small62)
local macro_rules | `(tactic| simp! only [$ls,*]) => `(tactic| simp -implicitDefEqProofs only [ok_ok, ok_bind, ok_ofO, ok_ite, ok_ifst, oko_some, oko_bind, oko_map, oko_if, rf_rt, rf_nx, fv_val, fv_own, ow_l, ow_d, ow_t, vq, w_var, w_con, w_gl, w_pr, sq, w_me, w_sl, w_bo, w_ch, w_ite, w_tup, w_lst, w_dic0, w_dic1, w_comp, w_nil, w_cons, w_star, aq_own, aq_val, g_own, g_var, g_con, g_gl, g_pr, g_me, g_sl, g_bo, g_ch, g_ite, g_tup, g_lst, g_dic0, g_comp, g_call, w_b1, bq, w_b2, w_tval, w_tbo, w_tnt, w_t1, w_t2, w_c0, w_c1, w_o0, iq, w_o1, w_seq, w_enm, w_zip, w_rng, w_rng2, w_call, w_turn, w_fturn, s_asg, s_aso, s_frz, s_app, s_seti, gq, grq, s_aug, s_par, s_if, s_for, s_rt, s_rto, s_rtN, s_ex, s_brk, s_cnt, s_pas, s_nil, s_cons, kf_nx, kf_rt, kf_bk, kf_ct, r_own, r_lst, r_comp, r_pr, r_call, o_set, a_na, a_nil, a_cons, a_star, st_cons, st_nil, get_nil, get_va, get_ow, ge_va, ge_ow, vals_nil, vals_va, vals_map, p_add, p_sub, p_cat, p_catT, p_catL, p_mul, p_fdiv, p_mod, p_pow, p_neg, p_nt, p_cmp, p_isi, p_isis, p_ix, p_int, p_abs, p_max, p_min, p_len, p_list, p_tuple, p_all, p_any, p_sum, p_ord, p_lset, c_lt, c_le, c_gt, c_ge, c_eq, c_ne, c_in, c_nin, c_is, c_isn, t_bl, it_tup, it_lst, it_ro, l_tup, l_lst, l_ro, q_tup, q_lst, i_tup, i_lst, i_dic, v_tup, v_lst, n_fix, o_newL, e_val, e_dic, y_int, y_str, f_nil, f_kw, k_nil, k_va, k_ow, u_nil, u_va, u_ow, kp_val, kp_no, kp_f, kp_t, fl_at, fo_some, fs_val, fs_no, fs_own, sl_at, fz_val, fz_own, un_own, isNonV, flatV, isOwned, arOk, one, two, plainX, Option.map_none, Option.map_some, Option.bind_some, List.map_cons, List.map_nil, List.cons_append, List.nil_append, List.replicate, Nat.reduceSub, List.getElem?_cons_zero, List.getElem?_cons_succ, List.set_cons_zero, List.set_cons_succ, List.length_cons, List.length_nil, Nat.reduceAdd, List.take_succ_cons, List.take_zero, and_true, true_and, if_true, if_false, Bool.false_eq_true, Bool.not_true, Bool.not_false, Bool.not_eq_true', eq_self, and_self, wipeE, backE, ex_own, Nat.reduceEqDiff, reduceCtorEq, decide_true, decide_false, lm, Nat.reduceLeDiff, w_p0, w_p1, pk_fv, pk_fo, pk_to, sp_nil, sp_cons, p_rev, p_m0, m_strip1, true_or, or_true, Nat.reduceLT, p_mulT, p_mulL, p_intb, s_wh, f_df, cv_int, cv_str, cv_bl, cv_non, cv_tup, p_mulS, p_str, w_mk, w_dun, p_fld, p_slf, p_blo, $ls,*])
theorem chest_ok {n : Nat} {ns : List Int} {at_ : Nat} {Q : Sl → List Sl → Prop} (ha : at_ ≤ 1000) (hn : ns.length ≤ 1000) (q : ∀ k : Ch, k.Ok → k.c = 0 → k.d = 0 → Q (.own false k.o) [.no, .no]) : OkC (runF P (n + 1) i_q_chest [.val (.ro (ns.map .int)), .val (.int at_)]) Q := by
  refine run_ok fn_q_chest rfl ?_
  have fin : ∀ x : Int, Ok (exS (cn P n) s_q_chest_1 [.val (.ro (ns.map .int)), .val (.int at_), .val (.int x)]) (KF (cn P n) .nil (RF 2 Q)) := fun x => by
    have e1 : (10 ^ Int.toNat 18 : Int) = 1000000000000000000 := by decide
    have e2 : (10 ^ Int.toNat 38 + 67 : Int) = 100000000000000000000000000000000000067 := by decide
    have p0 := na400 (i := 10) (by decide) (by decide)
    have r0 : 0 ≤ x % 100000000000000000000000000000000000067 := Int.emod_nonneg _ (by decide)
    have r1 : x % 100000000000000000000000000000000000067 < 100000000000000000000000000000000000067 := Int.emod_lt_of_pos _ (by decide)
    have g0 := big_of r0 (by omega)
    have g1 := big_of (i := 73) (by decide) (by decide)
    have g2 := big_of (i := 53) (by decide) (by decide)
    have g3 := big_of (i := (at_ : Int)) (by omega) (by omega)
    simp! only [s_q_chest_1, e1, e2, p0, g0, g1, g2, g3, Bool.and_self]
    have := q ⟨if (if x < 0 then -x else x) - 1000000000000000000 > 0 then (if x < 0 then -x else x) - 1000000000000000000 else 0, x % 100000000000000000000000000000000000067 * 73 + 53 * at_ + 29, 0, 0⟩ ⟨by show 0 ≤ ite _ _ _; split <;> omega, by show 0 ≤ _ + _ + _; omega, by show _ + _ + _ < _; omega, Int.le_refl 0, by show (0 : Int) < _; decide⟩ rfl rfl
    exact ⟨by decide, by decide, by decide, this⟩
  simp! only [f_q_chest, b_q_chest, s_q_chest_0, List.length_map]
  by_cases h : at_ < ns.length
  · have h' : decide ((at_ : Int) < (ns.length : Int)) = true := decide_eq_true (by omega)
    simp! only [h', ixn h, List.getElem?_map, List.getElem?_eq_getElem h]
    exact fin _
  · have h' : decide ((at_ : Int) < (ns.length : Int)) = false := decide_eq_false (by omega)
    simp! only [h']
    exact fin _
end K20
set_option Elab.async false
set_option linter.all false
set_option maxRecDepth 100000
set_option maxHeartbeats 4000000
namespace K20
open EP PySem
open SF (Ky Bo Co Ty Bi Fi Sh lenMax bigOk small62)
local macro_rules | `(tactic| simp! only [$ls,*]) => `(tactic| simp -implicitDefEqProofs only [ok_ok, ok_bind, ok_ofO, ok_ite, ok_ifst, oko_some, oko_bind, oko_map, oko_if, rf_rt, rf_nx, fv_val, fv_own, ow_l, ow_d, ow_t, vq, w_var, w_con, w_gl, w_pr, sq, w_me, w_sl, w_bo, w_ch, w_ite, w_tup, w_lst, w_dic0, w_dic1, w_comp, w_nil, w_cons, w_star, aq_own, aq_val, g_own, g_var, g_con, g_gl, g_pr, g_me, g_sl, g_bo, g_ch, g_ite, g_tup, g_lst, g_dic0, g_comp, g_call, w_b1, bq, w_b2, w_tval, w_tbo, w_tnt, w_t1, w_t2, w_c0, w_c1, w_o0, iq, w_o1, w_seq, w_enm, w_zip, w_rng, w_rng2, w_call, w_turn, w_fturn, s_asg, s_aso, s_frz, s_app, s_seti, gq, grq, s_aug, s_par, s_if, s_for, s_rt, s_rto, s_rtN, s_ex, s_brk, s_cnt, s_pas, s_nil, s_cons, kf_nx, kf_rt, kf_bk, kf_ct, r_own, r_lst, r_comp, r_pr, r_call, o_set, a_na, a_nil, a_cons, a_star, st_cons, st_nil, get_nil, get_va, get_ow, ge_va, ge_ow, vals_nil, vals_va, vals_map, p_add, p_sub, p_cat, p_catT, p_catL, p_mul, p_fdiv, p_mod, p_pow, p_neg, p_nt, p_cmp, p_isi, p_isis, p_ix, p_int, p_abs, p_max, p_min, p_len, p_list, p_tuple, p_all, p_any, p_sum, p_ord, p_lset, c_lt, c_le, c_gt, c_ge, c_eq, c_ne, c_in, c_nin, c_is, c_isn, t_bl, it_tup, it_lst, it_ro, l_tup, l_lst, l_ro, q_tup, q_lst, i_tup, i_lst, i_dic, v_tup, v_lst, n_fix, o_newL, e_val, e_dic, y_int, y_str, f_nil, f_kw, k_nil, k_va, k_ow, u_nil, u_va, u_ow, kp_val, kp_no, kp_f, kp_t, fl_at, fo_some, fs_val, fs_no, fs_own, sl_at, fz_val, fz_own, un_own, isNonV, flatV, isOwned, arOk, one, two, plainX, Option.map_none, Option.map_some, Option.bind_some, List.map_cons, List.map_nil, List.cons_append, List.nil_append, List.replicate, Nat.reduceSub, List.getElem?_cons_zero, List.getElem?_cons_succ, List.set_cons_zero, List.set_cons_succ, List.length_cons, List.length_nil, Nat.reduceAdd, List.take_succ_cons, List.take_zero, and_true, true_and, if_true, if_false, Bool.false_eq_true, Bool.not_true, Bool.not_false, Bool.not_eq_true', eq_self, and_self, wipeE, backE, ex_own, Nat.reduceEqDiff, reduceCtorEq, decide_true, decide_false, lm, Nat.reduceLeDiff, w_p0, w_p1, pk_fv, pk_fo, pk_to, sp_nil, sp_cons, p_rev, p_m0, m_strip1, true_or, or_true, Nat.reduceLT, p_mulT, p_mulL, p_intb, s_wh, f_df, cv_int, cv_str, cv_bl, cv_non, cv_tup, p_mulS, p_str, w_mk, w_dun, p_fld, p_slf, p_blo, $ls,*])
/-! # pages drawn -/
def pageV (ns : List Nd) (r : List (List Nat)) : V := .tup [.tup (ns.map nodeV), .tup (r.map .str)]
theorem dpage_ok {g m deep : Nat} (hg : 1 ≤ g) (hg2 : g ≤ 400) (hm : m ≤ 40) (hdp : deep ≤ 8) {n : Nat} {k : Ch} {Q : Sl → List Sl → Prop} (h : k.Ok) (hc : k.c < 2 ^ 70) (hn : 30 ≤ n)
    (q : ∀ (ns : List Nd) (r : List (List Nat)) (k' : Ch), Rts g 3 ns → hts ns ≤ deep + 1 → szs ns ≤ ns.length + 480 → ns.length ≤ m → (∀ x ∈ r, Cm x) → r.length ≤ 3 → k'.Ok → k'.c ≤ k.c + 2000000 → Q (.val (pageV ns r)) [.own true k'.o, .no, .no, .no]) :
    OkC (runF P (n + 1) i_q_drawn_page [.own true k.o, .val (.int m), .val (.int deep), .val (.int g)]) Q := by
  obtain ⟨n, rfl⟩ : ∃ z, n = z + 5 := ⟨n - 5, by omega⟩
  refine run_ok fn_q_drawn_page rfl ?_
  have hk0 : Ch.Ok { k with d := 80 } := ⟨h.a, h.b, h.b', h.c, h.c'⟩
  simp! only [f_q_drawn_page, b_q_drawn_page, s_q_drawn_page_0, ch_v, ch_len, ch_ix, ch_3, ch_set]
  generalize hk : ({ k with d := 80 } : Ch) = k0 at hk0
  have kc : k0.c = k.c := by rw [← hk]
  have kd : k0.d = 80 := by rw [← hk]
  have kb : k0.bud = 80 := by show k0.d.toNat = 80; rw [kd]; rfl
  simp! only [s_q_drawn_page_1, sh_q_scoop_2]
  refine ⟨by decide, scoop_ok hk0 (by omega) (by omega) (by omega) fun u k1 u1 h1 c1 b1 => ?_⟩
  have kb1 : k1.bud = 80 := by show k1.d.toNat = 80; rw [b1, kd]; rfl
  simp! only [rng_of (show u < 1000000 by omega), rng_len]
  refine comp_inv (N := u) (fun i acc σ => ∃ (k' : Ch) (ks : List Nd) (x : Sl), σ = [.own true k'.o, .val (.int m), .val (.int deep), .val (.int g), .no, x] ∧ acc = ks.map nodeV ∧ ks.length = i ∧ Rts g 3 ks ∧ hts ks ≤ deep + 1 ∧ szs ks ≤ i + 6 * (80 - k'.bud) ∧ k'.bud ≤ 80 ∧ k'.d ≤ 80 ∧ k'.Ok ∧ k'.c ≤ k.c + 5 + 2000 * (szs ks : Nat))
    (fun i acc σ hi ⟨k', ks, x, es, ea, el, q1, q3, q4, q5, q6, q7, q8⟩ => ?_) (fun acc σ ⟨k', ks, x, es, ea, el, q1, q3, q4, q5, q6, q7, q8⟩ => ⟨rng_end _, ?_⟩) _ 0 _ _ (Nat.zero_add _) ⟨k1, [], _, rfl, rfl, rfl, by simp only [Rts], by simp [hts], by simp [szs], by omega, by omega, h1, by simp only [szs]; omega⟩
  · subst es ea
    refine ⟨_, rng_at hi, ?_⟩
    simp! only [sh_q_drawn_node_3]
    refine dnode_ok hg hg2 deep (by omega) q7 (by omega) (by omega) (by omega) fun nd k5 a1 a3 a4 a5 a6 a7 a8 => ?_
    have es5 := szs_snoc ks nd
    simp! only [List.length_map]
    exact ⟨by unfold SF.lenMax; omega, k5, ks ++ [nd], _, rfl, by simp, by simp; omega, rts_snoc q1 a1, hts_snoc q3 (by omega), by omega, by omega, by omega, a7, by omega⟩
  · subst es ea
    have hls := len_szs ks
    simp! only [List.length_map]
    refine ⟨by unfold SF.lenMax; omega, ?_⟩
    simp! only [s_q_drawn_page_2, sh_q_some_remarks_2]
    refine remarks_ok q7 (b := 5) (by omega) (by omega) (by omega) fun r k7 r1 r2 h7 c7 b7 => ?_
    simp! only []
    exact q ks r k7 q1 q3 (by omega) (by omega) r1 r2 h7 (by omega)
end K20
set_option Elab.async false
set_option linter.all false
set_option maxRecDepth 100000
set_option maxHeartbeats 4000000
namespace K20
open EP PySem
open SF (Ky Bo Co Ty Bi Fi Sh lenMax bigOk small62)
local macro_rules | `(tactic| simp! only [$ls,*]) => `(tactic| simp -implicitDefEqProofs only [ok_ok, ok_bind, ok_ofO, ok_ite, ok_ifst, oko_some, oko_bind, oko_map, oko_if, rf_rt, rf_nx, fv_val, fv_own, ow_l, ow_d, ow_t, vq, w_var, w_con, w_gl, w_pr, sq, w_me, w_sl, w_bo, w_ch, w_ite, w_tup, w_lst, w_dic0, w_dic1, w_comp, w_nil, w_cons, w_star, aq_own, aq_val, g_own, g_var, g_con, g_gl, g_pr, g_me, g_sl, g_bo, g_ch, g_ite, g_tup, g_lst, g_dic0, g_comp, g_call, w_b1, bq, w_b2, w_tval, w_tbo, w_tnt, w_t1, w_t2, w_c0, w_c1, w_o0, iq, w_o1, w_seq, w_enm, w_zip, w_rng, w_rng2, w_call, w_turn, w_fturn, s_asg, s_aso, s_frz, s_app, s_seti, gq, grq, s_aug, s_par, s_if, s_for, s_rt, s_rto, s_rtN, s_ex, s_brk, s_cnt, s_pas, s_nil, s_cons, kf_nx, kf_rt, kf_bk, kf_ct, r_own, r_lst, r_comp, r_pr, r_call, o_set, a_na, a_nil, a_cons, a_star, st_cons, st_nil, get_nil, get_va, get_ow, ge_va, ge_ow, vals_nil, vals_va, vals_map, p_add, p_sub, p_cat, p_catT, p_catL, p_mul, p_fdiv, p_mod, p_pow, p_neg, p_nt, p_cmp, p_isi, p_isis, p_ix, p_int, p_abs, p_max, p_min, p_len, p_list, p_tuple, p_all, p_any, p_sum, p_ord, p_lset, c_lt, c_le, c_gt, c_ge, c_eq, c_ne, c_in, c_nin, c_is, c_isn, t_bl, it_tup, it_lst, it_ro, l_tup, l_lst, l_ro, q_tup, q_lst, i_tup, i_lst, i_dic, v_tup, v_lst, n_fix, o_newL, e_val, e_dic, y_int, y_str, f_nil, f_kw, k_nil, k_va, k_ow, u_nil, u_va, u_ow, kp_val, kp_no, kp_f, kp_t, fl_at, fo_some, fs_val, fs_no, fs_own, sl_at, fz_val, fz_own, un_own, isNonV, flatV, isOwned, arOk, one, two, plainX, Option.map_none, Option.map_some, Option.bind_some, List.map_cons, List.map_nil, List.cons_append, List.nil_append, List.replicate, Nat.reduceSub, List.getElem?_cons_zero, List.getElem?_cons_succ, List.set_cons_zero, List.set_cons_succ, List.length_cons, List.length_nil, Nat.reduceAdd, List.take_succ_cons, List.take_zero, and_true, true_and, if_true, if_false, Bool.false_eq_true, Bool.not_true, Bool.not_false, Bool.not_eq_true', eq_self, and_self, wipeE, backE, ex_own, Nat.reduceEqDiff, reduceCtorEq, decide_true, decide_false, lm, Nat.reduceLeDiff, w_p0, w_p1, pk_fv, pk_fo, pk_to, sp_nil, sp_cons, p_rev, p_m0, m_strip1, true_or, or_true, Nat.reduceLT, p_mulT, p_mulL, p_intb, s_wh, f_df, cv_int, cv_str, cv_bl, cv_non, cv_tup, p_mulS, p_str, w_mk, w_dun, p_fld, p_slf, p_blo, $ls,*])
/-! # verdicts -/
theorem page_gd {g L : Nat} {ns : List Nd} {r : List (List Nat)} (h1 : Rts g L ns) (h2 : hts ns ≤ 31) (h3 : szs ns ≤ 10000) (h4 : L ≤ 900) (h5 : ∀ x ∈ r, Cm x) (h6 : r.length ≤ 40) :
    gd (pageV ns r) = true ∧ nr (pageV ns r) = true ∧ dp (pageV ns r) ≤ 64 ∧ wid (pageV ns r) < 1000000 := by
  obtain ⟨c1, c2, c3, c4⟩ := nodes_nb ns
  have c5 := nodes_gd ns h1
  have c6 := nodes_wid ns h1
  have cl := len_szs ns
  obtain ⟨a1, a2, a3, a4, a5⟩ := strs_leaf r
  have q2 := strs_gd (ts := r) fun t ht => (h5 t ht).ok
  rw [nodes_map] at c1 c2 c3 c4 c5 c6
  simp only [pageV, gd, gds, nr, nrs, dp, dps, wid, wids, c2, c5, a1, a3, a4, q2, List.length_map, List.length_cons, List.length_nil]
  refine ⟨rfl, rfl, ?_, ?_⟩
  · rcases c4 with ⟨c4, c7⟩ | c4 <;> omega
  · omega
def fl (h w o p q : V) : List (Str × V) := [("holds", h), ("width", w), ("other", o), ("page", p), ("partner", q)]
def verV (h w o p q : V) : V := .ins "Verdict" (fl h w o p q)
def dueL (h w o p q : V) : V := .tup [h, w, o, p, q]
section
variable (h w o p q : V)
theorem n1 : (("width" : Str) == "holds") = false := by decide +kernel
theorem n2 : (("other" : Str) == "holds") = false := by decide +kernel
theorem n3 : (("other" : Str) == "width") = false := by decide +kernel
theorem n4 : (("page" : Str) == "holds") = false := by decide +kernel
theorem n5 : (("page" : Str) == "width") = false := by decide +kernel
theorem n6 : (("page" : Str) == "other") = false := by decide +kernel
theorem n7 : (("partner" : Str) == "holds") = false := by decide +kernel
theorem n8 : (("partner" : Str) == "width") = false := by decide +kernel
theorem n9 : (("partner" : Str) == "other") = false := by decide +kernel
theorem n10 : (("partner" : Str) == "page") = false := by decide +kernel
theorem m1 : (("holds_at" : Str) == "holds") = false := by decide +kernel
theorem m2 : (("holds_at" : Str) == "width") = false := by decide +kernel
theorem m3 : (("holds_at" : Str) == "other") = false := by decide +kernel
theorem m4 : (("holds_at" : Str) == "page") = false := by decide +kernel
theorem m5 : (("holds_at" : Str) == "partner") = false := by decide +kernel
theorem b1 : ((SF.Dk.m .bool) == ("holds" : Str)) = false := by decide +kernel
theorem b2 : ((SF.Dk.m .bool) == ("width" : Str)) = false := by decide +kernel
theorem b3 : ((SF.Dk.m .bool) == ("other" : Str)) = false := by decide +kernel
theorem b4 : ((SF.Dk.m .bool) == ("page" : Str)) = false := by decide +kernel
theorem b5 : ((SF.Dk.m .bool) == ("partner" : Str)) = false := by decide +kernel
theorem lk_h : (fl h w o p q).lookup ("holds" : Str) = some h := by unfold fl; rw [List.lookup_cons, beq_self_eq_true]
theorem lk_w : (fl h w o p q).lookup ("width" : Str) = some w := by unfold fl; rw [List.lookup_cons, n1, List.lookup_cons, beq_self_eq_true]
theorem lk_o : (fl h w o p q).lookup ("other" : Str) = some o := by unfold fl; rw [List.lookup_cons, n2, List.lookup_cons, n3, List.lookup_cons, beq_self_eq_true]
theorem lk_p : (fl h w o p q).lookup ("page" : Str) = some p := by unfold fl; rw [List.lookup_cons, n4, List.lookup_cons, n5, List.lookup_cons, n6, List.lookup_cons, beq_self_eq_true]
theorem lk_q : (fl h w o p q).lookup ("partner" : Str) = some q := by unfold fl; rw [List.lookup_cons, n7, List.lookup_cons, n8, List.lookup_cons, n9, List.lookup_cons, n10, List.lookup_cons, beq_self_eq_true]
theorem lk_at : (fl h w o p q).lookup ("holds_at" : Str) = none := by unfold fl; rw [List.lookup_cons, m1, List.lookup_cons, m2, List.lookup_cons, m3, List.lookup_cons, m4, List.lookup_cons, m5, List.lookup_nil]
theorem lk_b : (fl h w o p q).lookup (SF.Dk.m .bool) = none := by unfold fl; rw [List.lookup_cons, b1, List.lookup_cons, b2, List.lookup_cons, b3, List.lookup_cons, b4, List.lookup_cons, b5, List.lookup_nil]
theorem is_ver : isInsV "Verdict" (SF.Dk.m .bool) (.ins "Verdict" (fl h w o p q)) = true := by
  show (("Verdict" : Str) == "Verdict" && ((fl h w o p q).lookup (SF.Dk.m .bool)).isNone) = true
  rw [lk_b, beq_self_eq_true]; rfl
end
theorem exv {a : V} {d : SF.Dk} {Q : V → Prop} : (∃ w, Sl.val a = Sl.val w ∧ dkOk d w = true ∧ Q w) = (dkOk d a = true ∧ Q a) := propext ⟨fun ⟨w, e, x⟩ => by cases e; exact x, fun x => ⟨a, rfl, x⟩⟩
theorem dk_b (b : Bool) : dkOk .bool (.bl b) = true := rfl
theorem v_new (n : Nat) (h w o p q : V) : runF P (n + 2) i_Verdict___init__ [.val h, .val w, .val o, .val p, .val q] = .ok (.val (verV h w o p q)) [.no, .no, .no, .no, .no] := by
  refine okc_of (run_ok2 fn_Verdict___init__ rfl ?_)
  simp! only [f_Verdict___init__, b_Verdict___init__, s_Verdict___init___0, rfi_rt]
  rfl
theorem v_bool (n : Nat) (b : Bool) (w o p q : V) : runF P (n + 3) i_Verdict___bool__ [.val (verV (.bl b) w o p q)] = .ok (.val (.bl b)) [.no] := by
  refine okc_of (run_ok1 fn_Verdict___bool__ rfl ?_)
  simp! only [f_Verdict___bool__, b_Verdict___bool__, s_Verdict___bool___0, verV, lk_h]
theorem v_at_t (n : Nat) (w o p q : V) (i : Int) : runF P (n + 1) i_Verdict_holds_at [.val (verV (.bl true) w o p q), .val (.int i)] = .ok (.val (.bl true)) [.no, .no] := by
  refine okc_of (run_ok fn_Verdict_holds_at rfl ?_)
  simp! only [f_Verdict_holds_at, b_Verdict_holds_at, s_Verdict_holds_at_0, verV, lk_h, lk_w]
theorem v_at_f (n : Nat) (x : Int) (o p q : V) (i : Int) : runF P (n + 1) i_Verdict_holds_at [.val (verV (.bl false) (.int x) o p q), .val (.int i)] = .ok (.val (.bl (decide (i < x)))) [.no, .no] := by
  refine okc_of (run_ok fn_Verdict_holds_at rfl ?_)
  simp! only [f_Verdict_holds_at, b_Verdict_holds_at, s_Verdict_holds_at_0, verV, lk_h, lk_w]
/-- what is made -/
inductive VOk : V → V → V → V → V → Prop
  | t : VOk (.bl true) .non .non .non .non
  | f (x : Int) (o p q : V) : VOk (.bl false) (.int x) o p q
def GdL (h w o p q : V) : Prop := gd (dueL h w o p q) = true ∧ nr (dueL h w o p q) = true ∧ dp (dueL h w o p q) ≤ 70 ∧ wid (dueL h w o p q) < 1000000
theorem fr_ok {h w o p q : V} (g : GdL h w o p q) {n : Nat} (hn : 71 ≤ n) : runF P (n + 1) i_q_fields_right [.val (verV h w o p q), .val (dueL h w o p q)] = .ok (.val (.bl true)) [.no, .no] := by
  obtain ⟨g1, g2, g3, g4⟩ := g
  refine okc_of (run_ok fn_q_fields_right rfl ?_)
  obtain ⟨n, rfl⟩ : ∃ m, n = m + 1 := ⟨n - 1, by omega⟩
  have sm := same_ok 70 _ g1 g2 g3 g4 n (by omega)
  simp! only [f_q_fields_right, b_q_fields_right, s_q_fields_right_0, verV, lk_h, lk_w, lk_o, lk_p, lk_q]
  simp! only [s_q_fields_right_1, sh_q_same_2]
  rw [show (V.tup [h, w, o, p, q]) = dueL h w o p q from rfl, okc_eq sm]
  simp! only []
/-- plain data, not too great -/
def GV (v : V) : Prop := gd v = true ∧ nr v = true ∧ dp v ≤ 64 ∧ wid v < 1000000
theorem gv_non : GV .non := ⟨rfl, rfl, by decide, by decide⟩
theorem gv_int (i : Int) : GV (.int i) := ⟨rfl, rfl, Nat.zero_le _, by show 0 < 1000000; omega⟩
theorem gv_bl (b : Bool) : GV (.bl b) := ⟨rfl, rfl, Nat.zero_le _, by show 0 < 1000000; omega⟩
theorem gdl_of {h w o p q : V} (a : GV h) (b : GV w) (c : GV o) (d : GV p) (e : GV q) : GdL h w o p q := by
  obtain ⟨a1, a2, a3, a4⟩ := a
  obtain ⟨b1, b2, b3, b4⟩ := b
  obtain ⟨c1, c2, c3, c4⟩ := c
  obtain ⟨d1, d2, d3, d4⟩ := d
  obtain ⟨e1, e2, e3, e4⟩ := e
  unfold GdL dueL
  simp only [gd, gds, nr, nrs, dp, dps, wid, wids, a1, a2, b1, b2, c1, c2, d1, d2, e1, e2, List.length_cons, List.length_nil]
  refine ⟨rfl, rfl, by omega, by omega⟩
theorem made_ok {n : Nat} {k : Ch} {Q : Sl → List Sl → Prop} (hk : k.Ok) (hc : k.c < 2 ^ 60) (q : ∀ (h w o p q : V) (k' : Ch), VOk h w o p q → GdL h w o p q → k'.Ok → k'.c ≤ k.c + 5000000 → Q (.val (.tup [verV h w o p q, dueL h w o p q])) [.own true k'.o]) :
    OkC (runF P (n + 40) i_q_made [.own true k.o]) Q := by
  have vn : ∀ (h w o p q : V) (R : Sl → List Sl → Prop), OkC (runF P (n + 39) i_Verdict___init__ [.val h, .val w, .val o, .val p, .val q]) R = R (.val (verV h w o p q)) [.no, .no, .no, .no, .no] := fun h w o p q R => okc_eq (v_new (n + 37) h w o p q)
  refine run_ok (n := n + 39) fn_q_made rfl ?_
  simp! only [f_q_made, b_q_made, s_q_made_1, sh_q_scoop_2]
  refine scoop_ok (b := 3) hk (by omega) (by omega) (by omega) fun d k1 hd h1 c1 b1 => ?_
  have rest : Ok (exs (cn P (n + 39)) (.cons s_q_made_2 (.cons s_q_made_3 (.cons s_q_made_4 (.cons s_q_made_6 (.cons s_q_made_8 (.cons s_q_made_10 (.cons s_q_made_11 .nil))))))) [.own true k1.o, .no, .no, .no, .no]) (RF 1 Q) := by
    simp! only [s_q_made_2, sh_q_scoop_2]
    refine scoop_ok (b := 399) h1 (by omega) (by omega) (by omega) fun s k2 hs h2 c2 b2 => ?_
    simp! only [sh_q_drawn_page_4]
    refine dpage_ok (g := 3) (m := 2) (deep := 1) (by omega) (by omega) (by omega) (by omega) h2 (by omega) (by omega) fun ms r k3 a1 a2 a3 a4 a5 a6 a7 a8 => ?_
    have g1 := page_gd a1 (by omega) (by omega) (by omega) a5 (by omega)
    generalize pageV ms r = pg1 at g1
    simp! only [s_q_made_3, sh_q_drawn_page_4]
    refine dpage_ok (g := 3) (m := 2) (deep := 1) (by omega) (by omega) (by omega) (by omega) a7 (by omega) (by omega) fun ms2 r2 k4 a1' a2' a3' a4' a5' a6' a7' a8' => ?_
    have g2 := page_gd a1' (by omega) (by omega) (by omega) a5' (by omega)
    generalize pageV ms2 r2 = pg2 at g2
    simp! only [s_q_made_4, sh_q_scoop_2]
    refine scoop_ok (b := 4) a7' (by omega) (by omega) (by omega) fun e k5 he h5 c5 b5 => ?_
    have hg1 : GV pg1 := g1
    have hg2 : GV pg2 := g2
    match e, he with
    | 0, _ =>
      simp! only [s_q_made_6, s_q_made_5, sh_Verdict___init___4, vn]
      exact q _ _ _ _ _ _ (.f _ _ _ _) (gdl_of (gv_bl _) (gv_int _) gv_non hg1 gv_non) h5 (by omega)
    | 1, _ =>
      simp! only [s_q_made_6, s_q_made_8, s_q_made_7, sh_Verdict___init___5, vn]
      exact q _ _ _ _ _ _ (.f _ _ _ _) (gdl_of (gv_bl _) (gv_int _) (gv_int _) hg1 gv_non) h5 (by omega)
    | 2, _ =>
      simp! only [s_q_made_6, s_q_made_8, s_q_made_10, s_q_made_9, sh_Verdict___init___1_page_partner_width, vn]
      exact q _ _ _ _ _ _ (.f _ _ _ _) (gdl_of (gv_bl _) (gv_int _) gv_non hg1 hg2) h5 (by omega)
    | 3, _ =>
      simp! only [s_q_made_6, s_q_made_8, s_q_made_10, s_q_made_11, sh_Verdict___init___0_holds_width_other_page, vn]
      exact q _ _ _ _ _ _ (.f _ _ _ _) (gdl_of (gv_bl _) (gv_int _) (gv_int _) hg1 gv_non) h5 (by omega)
    | e + 4, he => omega
  match d, hd with
  | 0, _ =>
    simp! only [s_q_made_0, sh_Verdict___init___1, sh_Verdict___init___0_holds, vn, sh_q_scoop_2]
    refine scoop_ok (b := 2) h1 (by omega) (by omega) (by omega) fun e k2 he h2 c2 b2 => ?_
    have hz : [verV (.bl true) .non .non .non .non, verV (.bl true) .non .non .non .non][e]? = some (verV (.bl true) .non .non .non .non) := by
      match e, he with
      | 0, _ => rfl
      | 1, _ => rfl
      | e + 2, he => omega
    simp! only [ixn (show e < 2 by omega), hz]
    exact q _ _ _ _ _ _ .t (gdl_of (gv_bl _) gv_non gv_non gv_non gv_non) h2 (by omega)
  | 1, _ =>
    simp! only []
    rw [s_cons] at rest
    exact rest
  | 2, _ =>
    simp! only []
    rw [s_cons] at rest
    exact rest
  | d + 3, hd => omega
theorem in_tf (b : Bool) : inV (.bl b) (.lst [.bl true, .bl false]) = some true := by cases b <;> rfl
theorem wr_ok {n : Nat} {h w o p q : V} {k : Ch} {Q : Sl → List Sl → Prop} (hv : VOk h w o p q) (hk : k.Ok) (hc : k.c < 2 ^ 60) (qq : ∀ k' : Ch, k'.Ok → k'.c ≤ k.c + 30 → Q (.val (.bl true)) [.no, .no, .own true k'.o]) :
    OkC (runF P (n + 10) i_q_widths_right [.val (verV h w o p q), .val (dueL h w o p q), .own true k.o]) Q := by
  refine run_ok (n := n + 9) fn_q_widths_right rfl ?_
  have e3 : rngOf (.int 3) = some (.rng 0 3) := rfl
  have j0 : L2.ixN 5 0 = some 0 := by decide
  have j1 : L2.ixN 5 1 = some 1 := by decide
  have sm : ∀ b : Bool, runF P (n + 9) i_q_same [.val (.bl b), .val (.bl b)] = .ok (.val (.bl true)) [.no, .no] := fun b => same_leaf (n := n + 8) (.inr (.inl ⟨b, rfl⟩))
  have vb : ∀ (b : Bool) (w o p q : V) (R : Sl → List Sl → Prop), OkC (runF P (n + 9) i_Verdict___bool__ [.val (.ins "Verdict" (fl (.bl b) w o p q))]) R = R (.val (.bl b)) [.no] := fun b w o p q R => okc_eq (v_bool (n + 6) b w o p q)
  have vt : ∀ (i : Int) (R : Sl → List Sl → Prop), OkC (runF P (n + 9) i_Verdict_holds_at [.val (.ins "Verdict" (fl (.bl true) .non .non .non .non)), .val (.int i)]) R = R (.val (.bl true)) [.no, .no] := fun i R => okc_eq (v_at_t (n + 8) _ _ _ _ i)
  have vf : ∀ (x : Int) (o p q : V) (i : Int) (R : Sl → List Sl → Prop), OkC (runF P (n + 9) i_Verdict_holds_at [.val (.ins "Verdict" (fl (.bl false) (.int x) o p q)), .val (.int i)]) R = R (.val (.bl (decide (i < x)))) [.no, .no] := fun x o p q i R => okc_eq (v_at_f (n + 8) x o p q i)
  simp! only [f_q_widths_right, b_q_widths_right, s_q_widths_right_5, e3, rng_len]
  refine for_inv (N := 3) (fun j σ => ∃ (k' : Ch) (x3 x4 : Sl), σ = [.val (verV h w o p q), .val (dueL h w o p q), .own true k'.o, x3, x4] ∧ k'.Ok ∧ k'.c ≤ k.c + 3 * j ∧ flagS x3 = false ∧ flagS x4 = false)
    (fun j σ hj ⟨k', x3, x4, es, hk', ck, f3, f4⟩ => ?_) (fun σ ⟨k', x3, x4, es, hk', ck, f3, f4⟩ => ⟨rng_end _, ?_⟩) _ 0 _ (Nat.zero_add _) ⟨k, .no, .no, rfl, hk, by omega, rfl, rfl⟩
  · subst es
    refine ⟨_, rng_at hj, ?_⟩
    simp! only [f3]
    simp! only [s_q_widths_right_0, sh_q_scoop_2, dueL]
    refine scoop_ok (b := 400) hk' (by omega) (by omega) (by omega) fun d1 k1 hd1 h1 c1 b1 => ?_
    simp! only []
    refine scoop_ok (b := 9) h1 (by omega) (by omega) (by omega) fun d2 k2 hd2 h2 c2 b2 => ?_
    simp! only []
    refine scoop_ok (b := 5) h2 (by omega) (by omega) (by omega) fun e k3 he h3 c3 b3 => ?_
    have hz : ∃ z : V, [V.int 1, .int 400, w, .int (1 + d1), .int (0 - d2)][e]? = some z ∧ (z = .non ∨ ∃ i, z = .int i) := by
      match e, he with
      | 0, _ => exact ⟨_, rfl, .inr ⟨_, rfl⟩⟩
      | 1, _ => exact ⟨_, rfl, .inr ⟨_, rfl⟩⟩
      | 2, _ => exact ⟨_, rfl, by cases hv <;> first | exact .inl rfl | exact .inr ⟨_, rfl⟩⟩
      | 3, _ => exact ⟨_, rfl, .inr ⟨_, rfl⟩⟩
      | 4, _ => exact ⟨_, rfl, .inr ⟨_, rfl⟩⟩
      | e + 5, he => omega
    obtain ⟨z, ez, hz⟩ := hz
    have main : ∀ (i : Int) (R : Fl → En → Prop), R .nx [.val (verV h w o p q), .val (dueL h w o p q), .own true k3.o, .val (.int j), .val (.int i)] → Ok (exS (cn P (n + 9)) s_q_widths_right_4 [.val (verV h w o p q), .val (dueL h w o p q), .own true k3.o, .val (.int j), .val (.int i)]) (KF (cn P (n + 9)) .nil R) := fun i R hR => by
      cases hv with
      | t =>
        simp! only [s_q_widths_right_4, verV, dueL, sh_Verdict_holds_at_2, sh_Verdict___bool___1, sh_q_same_2, lk_at, Option.isNone_none, beq_self_eq_true, Bool.and_self, vt, vb, exv, dk_b, is_ver, okc_eq (sm _)]
        exact hR
      | f x =>
        simp! only [s_q_widths_right_4, verV, dueL, sh_Verdict_holds_at_2, sh_Verdict___bool___1, sh_q_same_2, lk_at, Option.isNone_none, beq_self_eq_true, Bool.and_self, vf, vb, exv, dk_b, is_ver, okc_eq (sm _), j0, j1]
        exact hR
    rcases hz with rfl | ⟨i, rfl⟩
    · simp! only [ixn (show e < 5 by omega), ez, f4]
      simp! only [s_q_widths_right_2, s_q_widths_right_1]
      refine main _ _ ?_
      exact ⟨k3, _, _, rfl, h3, by omega, rfl, rfl⟩
    · simp! only [ixn (show e < 5 by omega), ez, f4]
      simp! only [s_q_widths_right_2, s_q_widths_right_1]
      refine main _ _ ?_
      exact ⟨k3, _, _, rfl, h3, by omega, rfl, rfl⟩
  · subst es
    simp! only [s_q_widths_right_6, sh_q_scoop_2, verV, dueL, sh_Verdict_holds_at_1_width, lk_at, Option.isNone_none, beq_self_eq_true, Bool.and_self]
    refine scoop_ok (b := 400) hk' (by omega) (by omega) (by omega) fun d1 k1 hd1 h1 c1 b1 => ?_
    cases hv with
    | t =>
      simp! only [vt, in_tf]
      exact qq _ h1 (by omega)
    | f x =>
      simp! only [vf, in_tf]
      exact qq _ h1 (by omega)
theorem wr_ok2 {n : Nat} {h w o p q vv dd : V} {k : Ch} {Q : Sl → List Sl → Prop} (hV : verV h w o p q = vv) (hD : dueL h w o p q = dd) (hv : VOk h w o p q) (hk : k.Ok) (hc : k.c < 2 ^ 60) (qq : ∀ k' : Ch, k'.Ok → k'.c ≤ k.c + 30 → Q (.val (.bl true)) [.no, .no, .own true k'.o]) :
    OkC (runF P (n + 10) i_q_widths_right [.val vv, .val dd, .own true k.o]) Q := by
  subst hV hD
  exact wr_ok hv hk hc qq
theorem plain : ∀ ns : List Int, ns.length ≤ 63 → ∃ outs, runF P 100 i_law [.val (.ro (ns.map .int))] = .ok (.val (.bl true)) outs := fun ns hn => by
  have key : OkC (runF P 100 i_law [.val (.ro (ns.map .int))]) fun r _ => r = .val (.bl true) := by
    have i20 : L2.ixN 2 0 = some 0 := by decide
    have i21 : L2.ixN 2 1 = some 1 := by decide
    refine run_ok fn_law rfl ?_
    have hm : ∃ m : Nat, m ≤ 40 ∧ (if (if (ns.length : Int) < 40 then (ns.length : Int) else 40) > 1 then (if (ns.length : Int) < 40 then (ns.length : Int) else 40) else 1) = (m : Int) := by
      refine ⟨if ns.length < 40 then (if 1 < ns.length then ns.length else 1) else 40, ?_, ?_⟩ <;> repeat' split
      all_goals omega
    obtain ⟨m, hm, em⟩ := hm
    simp! only [f_law, b_law, s_law_0]
    simp! only [s_law_10, List.length_map, em, rng_of (show m < 1000000 by omega), rng_len]
    refine for_inv (N := m) (fun i σ => ∃ (x1 : V) (x2 x3 x4 : Sl), σ = [.val (.ro (ns.map .int)), .val x1, x2, x3, x4] ∧ (x1 = .non ∨ ∃ h w o p q, x1 = .tup [verV h w o p q, dueL h w o p q] ∧ GdL h w o p q) ∧ flagS x2 = false ∧ flagS x3 = false ∧ flagS x4 = false)
      (fun i σ hi ⟨x1, x2, x3, x4, es, g1, f2, f3, f4⟩ => ?_) (fun σ ⟨x1, x2, x3, x4, es, g1, f2, f3, f4⟩ => ⟨rng_end _, ?_⟩) _ 0 _ (Nat.zero_add _) ⟨.non, .no, .no, .no, rfl, .inl rfl, rfl, rfl, rfl⟩
    · subst es
      refine ⟨_, rng_at hi, ?_⟩
      simp! only [f2, s_law_1, sh_q_chest_2]
      refine chest_ok (by omega) (by omega) fun k hk kc kd => ?_
      simp! only [f3]
      simp! only [s_law_2, sh_q_made_1]
      refine made_ok (n := 59) hk (by omega) fun h w o p q k1 hv hg h1 c1 => ?_
      have fr : ∀ R : Sl → List Sl → Prop, OkC (runF P 99 i_q_fields_right [.val (verV h w o p q), .val (dueL h w o p q)]) R = R (.val (.bl true)) [.no, .no] := fun R => okc_eq (fr_ok hg (n := 98) (by omega))
      generalize hV : verV h w o p q = vv at fr
      generalize hD : dueL h w o p q = dd at fr
      simp! only [f4]
      simp! only [s_law_4, i20, i21, sh_q_fields_right_2, fr, sh_q_widths_right_3]
      refine wr_ok2 (n := 89) hV hD hv h1 (by omega) fun k2 h2 c2 => ?_
      simp! only []
      have hd1 : Ok (exs (cn P 99) (.cons s_law_8 (.cons s_law_9 .nil)) [.val (.ro (ns.map .int)), .val x1, .val (.int i), .own false k2.o, .val (.tup [vv, dd])]) (fun fl σ => fl = .nx ∧ σ = [.val (.ro (ns.map .int)), .val (.tup [vv, dd]), .val (.int i), .own false k2.o, .val (.tup [vv, dd])]) := by
        simp! only [s_law_8, s_law_9, i20, i21, sh_q_fields_right_2, fr]
      rcases g1 with rfl | ⟨h', w', o', p', q', rfl, hg'⟩
      · simp! only [s_law_6]
        simp! only [s_law_8, s_law_9, i20, i21, sh_q_fields_right_2, fr]
        exact ⟨_, _, _, _, rfl, .inr ⟨h, w, o, p, q, by rw [hV, hD], hg⟩, rfl, rfl, rfl⟩
      · have fr' : ∀ R : Sl → List Sl → Prop, OkC (runF P 99 i_q_fields_right [.val (verV h' w' o' p' q'), .val (dueL h' w' o' p' q')]) R = R (.val (.bl true)) [.no, .no] := fun R => okc_eq (fr_ok hg' (n := 98) (by omega))
        generalize hV' : verV h' w' o' p' q' = vv' at fr' hd1
        generalize hD' : dueL h' w' o' p' q' = dd' at fr' hd1
        simp! only [s_law_6, i20, i21, sh_q_fields_right_2, fr']
        simp! only [s_law_8, s_law_9, i20, i21, sh_q_fields_right_2, fr]
        exact ⟨_, _, _, _, rfl, .inr ⟨h, w, o, p, q, by rw [hV, hD], hg⟩, rfl, rfl, rfl⟩
    · subst es
      simp! only [s_law_11]
  obtain ⟨a, os, e, rfl⟩ := key.ex
  exact ⟨os, e⟩
end K20
set_option Elab.async false
set_option linter.all false
set_option maxRecDepth 100000
set_option maxHeartbeats 4000000
namespace K20
open PySem EP
def top (i : Nat) : Stmt := PySem.Challenge.pw_stayedform_k20_verdicts.main.body.getD i (.Pass ⟨0, 0, 0, 0⟩)
def pg : SF.Pg := EP.cmpPg P
def d0 : SF.Df := ⟨"_law_chest", top 3, ["_law_script", "_law_at", "_law_cell"], EP.cmpFn f_q_chest, [], [], false, "", "_law_chest"⟩
def d1 : SF.Df := ⟨"_law_scoop", top 4, ["_law_chest_here", "_law_below", "_law_brew", "_law_digit"], EP.cmpFn f_q_scoop, [], [], false, "", "_law_scoop"⟩
def d2 : SF.Df := ⟨"_law_same", top 5, ["_law_found", "_law_due", "_law_k"], EP.cmpFn f_q_same, [], [], false, "", "_law_same"⟩
def d3 : SF.Df := ⟨"_law_name", top 6, ["_law_chest_here", "_law_great", "_law_letters", "_law_size", "_law_k"], EP.cmpFn f_q_name, [], [], false, "", "_law_name"⟩
def d4 : SF.Df := ⟨"_law_remark", top 7, ["_law_chest_here", "_law_signs", "_law_size", "_law_remark_here", "_law_k"], EP.cmpFn f_q_remark, [], [], false, "", "_law_remark"⟩
def d5 : SF.Df := ⟨"_law_some_remarks", top 8, ["_law_chest_here", "_law_chance", "_law_k"], EP.cmpFn f_q_some_remarks, [], [], false, "", "_law_some_remarks"⟩
def d6 : SF.Df := ⟨"_law_bare_node", top 9, ["_law_chest_here", "_law_deep", "_law_great", "_law_inner", "_law_many", "_law_k"], EP.cmpFn f_q_bare_node, [], [], false, "", "_law_bare_node"⟩
def d7 : SF.Df := ⟨"_law_drawn_node", top 10, ["_law_chest_here", "_law_deep", "_law_great", "_law_many", "_law_inner", "_law_shape", "_law_front", "_law_hind", "_law_bare", "_law_k"], EP.cmpFn f_q_drawn_node, [], [], false, "", "_law_drawn_node"⟩
def d8 : SF.Df := ⟨"_law_drawn_page", top 11, ["_law_chest_here", "_law_many", "_law_deep", "_law_great", "_law_nodes", "_law_k"], EP.cmpFn f_q_drawn_page, [], [], false, "", "_law_drawn_page"⟩
def d9 : SF.Df := ⟨"_law_fields_right", top 12, ["_law_told", "_law_due", "_law_found"], EP.cmpFn f_q_fields_right, [], [], false, "", "_law_fields_right"⟩
def d10 : SF.Df := ⟨"_law_widths_right", top 13, ["_law_told", "_law_due", "_law_chest_here", "_law_turn", "_law_span"], EP.cmpFn f_q_widths_right, [], [], false, "", "_law_widths_right"⟩
def d11 : SF.Df := ⟨"_law_made", top 14, ["_law_chest_here", "_law_more", "_law_way", "_law_span", "_law_sheet"], EP.cmpFn f_q_made, [], [], false, "", "_law_made"⟩
def d12 : SF.Df := ⟨"law", top 15, ["_law_script", "_law_earlier", "_law_at", "_law_chest_here", "_law_built_up"], EP.cmpFn f_law, [], [], false, "", "law"⟩
def d13 : SF.Df := ⟨"__init__", (SF.memSt (top 1) "__init__"), ["self", "holds", "width", "other", "page", "partner"], EP.cmpFn f_Verdict___init__, [.non, .non, .non, .non], [], false, "Verdict", "Verdict.__init__"⟩
def d14 : SF.Df := ⟨"__bool__", (SF.memSt (top 1) "__bool__"), ["self"], EP.cmpFn f_Verdict___bool__, [], [], false, "Verdict", "Verdict.__bool__"⟩
def d15 : SF.Df := ⟨"holds_at", (SF.memSt (top 1) "holds_at"), ["self", "width"], EP.cmpFn f_Verdict_holds_at, [], [], false, "Verdict", "Verdict.holds_at"⟩
def dfs : List SF.Df := [d0, d1, d2, d3, d4, d5, d6, d7, d8, d9, d10, d11, d12, d13, d14, d15]
def gns : List Str := []
def cls : List SF.Cl := []
theorem oks : dfs.all (SF.dfB dfs pg.shs gns cls) = true := by decide +kernel
theorem sh0 : SF.ShT d2 ⟨2, 2, [], []⟩ [] := SF.sht0 rfl fun D kV _ _ _ _ _ us ws mv h1 h2 h4 h5 => match us, ws, mv, h1, h2, h4 with | [_, _], [], [], _, _, _ => (SF.kc_nil rfl)
theorem sh1 : SF.ShT d1 ⟨1, 2, [], []⟩ [] := SF.sht0 rfl fun D kV _ _ _ _ _ us ws mv h1 h2 h4 h5 => match us, ws, mv, h1, h2, h4 with | [_, _], [], [], _, _, _ => (SF.kc_nil rfl)
theorem sh2 : SF.ShT d4 ⟨4, 1, [], []⟩ [] := SF.sht0 rfl fun D kV _ _ _ _ _ us ws mv h1 h2 h4 h5 => match us, ws, mv, h1, h2, h4 with | [_], [], [], _, _, _ => (SF.kc_nil rfl)
theorem sh3 : SF.ShT d6 ⟨6, 3, [], []⟩ [] := SF.sht0 rfl fun D kV _ _ _ _ _ us ws mv h1 h2 h4 h5 => match us, ws, mv, h1, h2, h4 with | [_, _, _], [], [], _, _, _ => (SF.kc_nil rfl)
theorem sh4 : SF.ShT d3 ⟨3, 2, [], []⟩ [] := SF.sht0 rfl fun D kV _ _ _ _ _ us ws mv h1 h2 h4 h5 => match us, ws, mv, h1, h2, h4 with | [_, _], [], [], _, _, _ => (SF.kc_nil rfl)
theorem sh5 : SF.ShT d5 ⟨5, 2, [], []⟩ [] := SF.sht0 rfl fun D kV _ _ _ _ _ us ws mv h1 h2 h4 h5 => match us, ws, mv, h1, h2, h4 with | [_, _], [], [], _, _, _ => (SF.kc_nil rfl)
theorem sh6 : SF.ShT d7 ⟨7, 3, [], []⟩ [] := SF.sht0 rfl fun D kV _ _ _ _ _ us ws mv h1 h2 h4 h5 => match us, ws, mv, h1, h2, h4 with | [_, _, _], [], [], _, _, _ => (SF.kc_nil rfl)
theorem sh7 : SF.ShT d15 ⟨15, 2, [], []⟩ [] := SF.sht0 rfl fun D kV _ _ _ _ _ us ws mv h1 h2 h4 h5 => match us, ws, mv, h1, h2, h4 with | [_, _], [], [], _, _, _ => (SF.kc_nil rfl)
theorem sh8 : SF.ShT d14 ⟨14, 1, [], []⟩ [] := SF.sht0 rfl fun D kV _ _ _ _ _ us ws mv h1 h2 h4 h5 => match us, ws, mv, h1, h2, h4 with | [_], [], [], _, _, _ => (SF.kc_nil rfl)
theorem sh9 : SF.ShT d15 ⟨15, 1, ["width"], [.kw 0]⟩ [.kw 0] := SF.sht0 rfl fun D kV _ _ _ _ _ us ws mv h1 h2 h4 h5 => match us, ws, mv, h1, h2, h4 with | [_], [_], [], _, _, _ => (SF.kc_nil rfl)
theorem sh10 : SF.ShT d13 ⟨13, 1, ["holds"], [.kw 0, .df .non, .df .non, .df .non, .df .non]⟩ [.kw 0, .dv 0, .dv 1, .dv 2, .dv 3] := fun T D kV _ _ _ _ _ us ws its mv h1 h2 h3 h4 h5 => match us, ws, its, mv, h1, h2, h3, h4 with | [_], [_], [_, _, _, _], [], _, _, _, _ => by exact ⟨_, rfl, (SF.kc_nil rfl)⟩
theorem sh11 : SF.ShT d13 ⟨13, 2, [], [.df .non, .df .non, .df .non, .df .non]⟩ [.dv 0, .dv 1, .dv 2, .dv 3] := fun T D kV _ _ _ _ _ us ws its mv h1 h2 h3 h4 h5 => match us, ws, its, mv, h1, h2, h3, h4 with | [_, _], [], [_, _, _, _], [], _, _, _, _ => by exact ⟨_, rfl, (SF.kc_nil rfl)⟩
theorem sh12 : SF.ShT d8 ⟨8, 4, [], []⟩ [] := SF.sht0 rfl fun D kV _ _ _ _ _ us ws mv h1 h2 h4 h5 => match us, ws, mv, h1, h2, h4 with | [_, _, _, _], [], [], _, _, _ => (SF.kc_nil rfl)
theorem sh13 : SF.ShT d13 ⟨13, 5, [], [.df .non]⟩ [.dv 3] := fun T D kV _ _ _ _ _ us ws its mv h1 h2 h3 h4 h5 => match us, ws, its, mv, h1, h2, h3, h4 with | [_, _, _, _, _], [], [_, _, _, _], [], _, _, _, _ => by exact ⟨_, rfl, (SF.kc_nil rfl)⟩
theorem sh14 : SF.ShT d13 ⟨13, 6, [], []⟩ [] := fun T D kV _ _ _ _ _ us ws its mv h1 h2 h3 h4 h5 => match us, ws, its, mv, h1, h2, h3, h4 with | [_, _, _, _, _, _], [], [_, _, _, _], [], _, _, _, _ => by exact ⟨_, rfl, (SF.kc_nil rfl)⟩
theorem sh15 : SF.ShT d13 ⟨13, 2, ["page", "partner", "width"], [.kw 2, .df .non, .kw 0, .kw 1]⟩ [.kw 2, .dv 1, .kw 0, .kw 1] := fun T D kV _ _ _ _ _ us ws its mv h1 h2 h3 h4 h5 => match us, ws, its, mv, h1, h2, h3, h4 with | [_, _], [_, _, _], [_, _, _, _], [], _, _, _, _ => by exact ⟨_, rfl, (SF.kc_nil rfl)⟩
theorem sh16 : SF.ShT d13 ⟨13, 1, ["holds", "width", "other", "page"], [.kw 0, .kw 1, .kw 2, .kw 3, .df .non]⟩ [.kw 0, .kw 1, .kw 2, .kw 3, .dv 3] := fun T D kV _ _ _ _ _ us ws its mv h1 h2 h3 h4 h5 => match us, ws, its, mv, h1, h2, h3, h4 with | [_], [_, _, _, _], [_, _, _, _], [], _, _, _, _ => by exact ⟨_, rfl, (SF.kc_nil rfl)⟩
theorem sh17 : SF.ShT d0 ⟨0, 2, [], []⟩ [] := SF.sht0 rfl fun D kV _ _ _ _ _ us ws mv h1 h2 h4 h5 => match us, ws, mv, h1, h2, h4 with | [_, _], [], [], _, _, _ => (SF.kc_nil rfl)
theorem sh18 : SF.ShT d11 ⟨11, 1, [], []⟩ [] := SF.sht0 rfl fun D kV _ _ _ _ _ us ws mv h1 h2 h4 h5 => match us, ws, mv, h1, h2, h4 with | [_], [], [], _, _, _ => (SF.kc_nil rfl)
theorem sh19 : SF.ShT d9 ⟨9, 2, [], []⟩ [] := SF.sht0 rfl fun D kV _ _ _ _ _ us ws mv h1 h2 h4 h5 => match us, ws, mv, h1, h2, h4 with | [_, _], [], [], _, _, _ => (SF.kc_nil rfl)
theorem sh20 : SF.ShT d10 ⟨10, 3, [], []⟩ [] := SF.sht0 rfl fun D kV _ _ _ _ _ us ws mv h1 h2 h4 h5 => match us, ws, mv, h1, h2, h4 with | [_, _, _], [], [], _, _, _ => (SF.kc_nil rfl)
end K20
set_option Elab.async false
set_option linter.all false
set_option maxRecDepth 100000
set_option maxHeartbeats 4000000
namespace K20
open PySem L2 SF
theorem plain2 : ∀ ns : List Int, ns.length ≤ 63 → ∃ S', SF.runF pg 100 12 [.ref 0] [.ro (ns.map .int)] = .ok (.bl true) S' := fun ns h => by
  obtain ⟨outs, e⟩ := plain ns h
  exact EP.plain_of P grnd e
theorem all_sh : ∀ (h : Nat) (sh : Sh) (d : Df), pg.shs[h]? = some sh → dfs[sh.fn]? = some d → ∃ sel, ShT d { sh with np := sh.np + d.off } sel ∧ selOk sh.ks.length d.dv (d.kw.map (·.2)) sh.fill sel = true
  | 0, _, _, h1, h2 => by cases h1; cases h2; exact ⟨_, sh0, rfl⟩
  | 1, _, _, h1, h2 => by cases h1; cases h2; exact ⟨_, sh1, rfl⟩
  | 2, _, _, h1, h2 => by cases h1; cases h2; exact ⟨_, sh2, rfl⟩
  | 3, _, _, h1, h2 => by cases h1; cases h2; exact ⟨_, sh3, rfl⟩
  | 4, _, _, h1, h2 => by cases h1; cases h2; exact ⟨_, sh4, rfl⟩
  | 5, _, _, h1, h2 => by cases h1; cases h2; exact ⟨_, sh5, rfl⟩
  | 6, _, _, h1, h2 => by cases h1; cases h2; exact ⟨_, sh6, rfl⟩
  | 7, _, _, h1, h2 => by cases h1; cases h2; exact ⟨_, sh7, rfl⟩
  | 8, _, _, h1, h2 => by cases h1; cases h2; exact ⟨_, sh8, rfl⟩
  | 9, _, _, h1, h2 => by cases h1; cases h2; exact ⟨_, sh9, rfl⟩
  | 10, _, _, h1, h2 => by cases h1; cases h2; exact ⟨_, sh10, rfl⟩
  | 11, _, _, h1, h2 => by cases h1; cases h2; exact ⟨_, sh11, rfl⟩
  | 12, _, _, h1, h2 => by cases h1; cases h2; exact ⟨_, sh12, rfl⟩
  | 13, _, _, h1, h2 => by cases h1; cases h2; exact ⟨_, sh13, rfl⟩
  | 14, _, _, h1, h2 => by cases h1; cases h2; exact ⟨_, sh14, rfl⟩
  | 15, _, _, h1, h2 => by cases h1; cases h2; exact ⟨_, sh15, rfl⟩
  | 16, _, _, h1, h2 => by cases h1; cases h2; exact ⟨_, sh16, rfl⟩
  | 17, _, _, h1, h2 => by cases h1; cases h2; exact ⟨_, sh17, rfl⟩
  | 18, _, _, h1, h2 => by cases h1; cases h2; exact ⟨_, sh18, rfl⟩
  | 19, _, _, h1, h2 => by cases h1; cases h2; exact ⟨_, sh19, rfl⟩
  | 20, _, _, h1, h2 => by cases h1; cases h2; exact ⟨_, sh20, rfl⟩
  | n + 21, _, _, h1, _ => nomatch h1
section
variable {K : PySem.W.Frag}
theorem all_df (h0 : DefIn K d0) (h1 : DefIn K d1) (h2 : DefIn K d2) (h3 : DefIn K d3) (h4 : DefIn K d4) (h5 : DefIn K d5) (h6 : DefIn K d6) (h7 : DefIn K d7) (h8 : DefIn K d8) (h9 : DefIn K d9) (h10 : DefIn K d10) (h11 : DefIn K d11) (h12 : DefIn K d12) (h13 : DefIn K d13) (h14 : DefIn K d14) (h15 : DefIn K d15) : ∀ (i : Nat) (d : Df), dfs[i]? = some d → DefIn K d
  | 0, _, h => by cases h; exact h0
  | 1, _, h => by cases h; exact h1
  | 2, _, h => by cases h; exact h2
  | 3, _, h => by cases h; exact h3
  | 4, _, h => by cases h; exact h4
  | 5, _, h => by cases h; exact h5
  | 6, _, h => by cases h; exact h6
  | 7, _, h => by cases h; exact h7
  | 8, _, h => by cases h; exact h8
  | 9, _, h => by cases h; exact h9
  | 10, _, h => by cases h; exact h10
  | 11, _, h => by cases h; exact h11
  | 12, _, h => by cases h; exact h12
  | 13, _, h => by cases h; exact h13
  | 14, _, h => by cases h; exact h14
  | 15, _, h => by cases h; exact h15
  | n + 16, _, h => nomatch h
theorem all_gl  : ∀ (j : Nat) x w, gns[j]? = some x → pg.gls[j]? = some w → GlIn K x w
  | n + 0, _, _, a, _ => nomatch a
theorem all_bl (h0 : PySem.W.nsIn K mainGlobals "int" = some none) (h1 : PySem.W.nsIn K mainGlobals "abs" = some none) (h2 : PySem.W.nsIn K mainGlobals "max" = some none) (h3 : PySem.W.nsIn K mainGlobals "min" = some none) (h4 : PySem.W.nsIn K mainGlobals "len" = some none) (h5 : PySem.W.nsIn K mainGlobals "list" = some none) (h6 : PySem.W.nsIn K mainGlobals "tuple" = some none) (h7 : PySem.W.nsIn K mainGlobals "all" = some none) (h8 : PySem.W.nsIn K mainGlobals "any" = some none) (h9 : PySem.W.nsIn K mainGlobals "sum" = some none) (h10 : PySem.W.nsIn K mainGlobals "ord" = some none) (h11 : PySem.W.nsIn K mainGlobals "set" = some none) (h12 : PySem.W.nsIn K mainGlobals "isinstance" = some none) (h13 : PySem.W.nsIn K mainGlobals "range" = some none) (h14 : PySem.W.nsIn K mainGlobals "enumerate" = some none) (h15 : PySem.W.nsIn K mainGlobals "zip" = some none) (h16 : PySem.W.nsIn K mainGlobals "bool" = some none) (h17 : PySem.W.nsIn K mainGlobals "str" = some none) : ∀ x ∈ bltNames, PySem.W.nsIn K mainGlobals x = some none := by
  intro x hx
  simp only [bltNames, List.mem_cons, List.not_mem_nil, or_false] at hx
  rcases hx with rfl | rfl | rfl | rfl | rfl | rfl | rfl | rfl | rfl | rfl | rfl | rfl | rfl | rfl | rfl | rfl | rfl | rfl
  all_goals assumption
end
end K20
open PySem PySem.W PyProof.Rows SF
set_option maxRecDepth 100000 in
set_option maxHeartbeats 0 in
theorem PySem.Challenge.cw_stayedform_k20_verdicts_holds : PySem.Challenge.rw_stayedform_k20_verdicts.Holds := by
  w_on; o_law; k_head; (case hw => w_witness2)
  k_fill
  refine SF.walk (l := PySem.Challenge.rw_stayedform_k20_verdicts) (k := 100) (m := 63) (x := "_law_script") rfl (by decide) rfl (by decide) (fun w h Y => PySem.W.kIn_of Y) ?F
  case F =>
    intro w mg fa h KX G hmg
    refine SF.law_mk (P := K20.pg) (defs := K20.dfs) (gls := K20.gns) (cls := K20.cls) (i := 12) (dl := K20.d12) KX G hmg rfl K20.oks K20.all_sh rfl rfl rfl (fun _ _ _ _ _ _ _ => rfl) K20.plain2 rfl rfl rfl rfl ?D ?L ?B ?X
    case D =>
      refine K20.all_df ?sfd0 ?sfd1 ?sfd2 ?sfd3 ?sfd4 ?sfd5 ?sfd6 ?sfd7 ?sfd8 ?sfd9 ?sfd10 ?sfd11 ?sfd12 ?sfd13 ?sfd14 ?sfd15
      (case sfd0 => refine' def_in (at_fn rfl rfl ?a) ?l ?c ?k rfl rfl; (case a => k_is); (case l => k_is); (case c => k_is); (case k => k_is))
      (case sfd1 => refine' def_in (at_fn rfl rfl ?a) ?l ?c ?k rfl rfl; (case a => k_is); (case l => k_is); (case c => k_is); (case k => k_is))
      (case sfd2 => refine' def_in (at_fn rfl rfl ?a) ?l ?c ?k rfl rfl; (case a => k_is); (case l => k_is); (case c => k_is); (case k => k_is))
      (case sfd3 => refine' def_in (at_fn rfl rfl ?a) ?l ?c ?k rfl rfl; (case a => k_is); (case l => k_is); (case c => k_is); (case k => k_is))
      (case sfd4 => refine' def_in (at_fn rfl rfl ?a) ?l ?c ?k rfl rfl; (case a => k_is); (case l => k_is); (case c => k_is); (case k => k_is))
      (case sfd5 => refine' def_in (at_fn rfl rfl ?a) ?l ?c ?k rfl rfl; (case a => k_is); (case l => k_is); (case c => k_is); (case k => k_is))
      (case sfd6 => refine' def_in (at_fn rfl rfl ?a) ?l ?c ?k rfl rfl; (case a => k_is); (case l => k_is); (case c => k_is); (case k => k_is))
      (case sfd7 => refine' def_in (at_fn rfl rfl ?a) ?l ?c ?k rfl rfl; (case a => k_is); (case l => k_is); (case c => k_is); (case k => k_is))
      (case sfd8 => refine' def_in (at_fn rfl rfl ?a) ?l ?c ?k rfl rfl; (case a => k_is); (case l => k_is); (case c => k_is); (case k => k_is))
      (case sfd9 => refine' def_in (at_fn rfl rfl ?a) ?l ?c ?k rfl rfl; (case a => k_is); (case l => k_is); (case c => k_is); (case k => k_is))
      (case sfd10 => refine' def_in (at_fn rfl rfl ?a) ?l ?c ?k rfl rfl; (case a => k_is); (case l => k_is); (case c => k_is); (case k => k_is))
      (case sfd11 => refine' def_in (at_fn rfl rfl ?a) ?l ?c ?k rfl rfl; (case a => k_is); (case l => k_is); (case c => k_is); (case k => k_is))
      (case sfd12 => refine' def_in (at_fn rfl rfl ?a) ?l ?c ?k rfl rfl; (case a => k_is); (case l => k_is); (case c => k_is); (case k => k_is))
      (case sfd13 => refine' def_inP (at_nw (fs := ["holds", "width", "other", "page", "partner"]) rfl rfl rfl ?nC ?mk ?iC ?fF ?kC ?pg ?hd ?po ?sa ⟨?no0, ⟨?no1, ⟨?no2, ⟨?no3, ⟨?no4, trivial⟩⟩⟩⟩⟩) ?l ?c ?k ?t ?v rfl rfl; (case nC => k_is); (case mk => k_is); (case iC => k_is); (case fF => k_is); (case kC => k_is); (case pg => k_is); (case hd => k_is); (case po => k_is); (case sa => k_is); (case no0 => k_is); (case no1 => k_is); (case no2 => k_is); (case no3 => k_is); (case no4 => k_is); (case l => k_is); (case c => k_is); (case k => k_is); (case t => k_is); (case v => rfl))
      (case sfd14 => refine' def_in (at_dn rfl rfl ?nC ?m ?tf) ?l ?c ?k rfl rfl; (case nC => k_is); (case m => k_is); (case tf => k_is); (case l => k_is); (case c => k_is); (case k => k_is))
      (case sfd15 => refine' def_in (at_mt rfl rfl ?nC ?m ?fF ?kf) ?l ?c ?k rfl rfl; (case nC => k_is); (case m => k_is); (case fF => k_is); (case kf => k_is); (case l => k_is); (case c => k_is); (case k => k_is))
    case L =>
      refine K20.all_gl 
    case B =>
      refine K20.all_bl ?sfz0 ?sfz1 ?sfz2 ?sfz3 ?sfz4 ?sfz5 ?sfz6 ?sfz7 ?sfz8 ?sfz9 ?sfz10 ?sfz11 ?sfz12 ?sfz13 ?sfz14 ?sfz15 ?sfz16 ?sfz17
      (case sfz0 => k_is)
      (case sfz1 => k_is)
      (case sfz2 => k_is)
      (case sfz3 => k_is)
      (case sfz4 => k_is)
      (case sfz5 => k_is)
      (case sfz6 => k_is)
      (case sfz7 => k_is)
      (case sfz8 => k_is)
      (case sfz9 => k_is)
      (case sfz10 => k_is)
      (case sfz11 => k_is)
      (case sfz12 => k_is)
      (case sfz13 => k_is)
      (case sfz14 => k_is)
      (case sfz15 => k_is)
      (case sfz16 => k_is)
      (case sfz17 => k_is)
    case X => exact fun _ _ => exc_nil
#print axioms PySem.Challenge.cw_stayedform_k20_verdicts_holds
