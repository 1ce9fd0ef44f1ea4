import PyProof.Rows.All
import Wide.All
import OpenK.AllK
import Wide.FinOn
import HandS.ForMost
import HandS.More
import HandS.WordsExc
import HandS.TupAny
import HandS.IsInst
import HandS.Flow
import HandS.Text
import HandS.ExcField
import HandS.ExcIs
import KE.DatumIndex
import HandS.CallSlots
import HandS.ExcInit
import HandS.TryMany
import HandS.AnyAll
import HandS.WordsDict
import HandS.Comp
import HandS.Small
import HandS.Iter
import KE.KTryMore
import HandS.Defaults
import HandS.HeadEnd
import HandS.HeadHook2
import KE.KStateDown
import HandS.Head0
import HandS.Head1
import HandS.Head2
import HandS.HeadHook3
import PySem.Challenge.RW_choosemeet_k51_things_called_otherwise
set_option Elab.async false
set_option linter.all false
set_option maxRecDepth 100000
/-! The evaluator: plain data, a small store of mutable objects, a form of the program without places. -/
namespace Ev
open PySem

/-- plain data; ref: a mutable object of the store -/
inductive PV where
  | non | bl (b : Bool) | int (i : Int) | str (s : Str)
  | tup (xs : List PV) | lst (xs : List PV) | dct (ks vs : List PV)
  | ins (c : Nat) (as : List Nat) (vs : List PV)
  | gd (g : Nat) | scr (ns : List Int) | exn (c : Nat) (as : List Nat) (vs : List PV) | ref (i : Nat)

/-- a mutable object -/
inductive MO where
  | lst (xs : List PV) | dct (ks vs : List PV) | ins (c : Nat) (as : List Nat) (vs : List PV)

abbrev Sto := List (Option MO)
abbrev Loc := List (Option PV)

inductive Ty where
  | int | bool | str | tuple | list | dict | cls (c : Nat) | exc (c : Nat) | ve

inductive Op2 where
  | add | sub | mul | fdiv | mod | pow
inductive Cp where
  | eq | ne | lt | le | gt | ge | is | isn | in_ | nin
inductive Pr where
  | len | abs | int | min2 | max2 | all | any | tuple | list | repr | isi (t : Ty) | listR | dictP | set | sorted | str
inductive Bm where
  | append | extend | get1 | get2 | pop0 | pop1 | clear | insert | remove | index | keys | items | values | count | setdefault
  | split1 | split2 | join | partition | replace | startswith | dpop | dget1 | dget2
/-- what is walked -/
inductive Ik where
  | seq | rng1 | rng2 | enum | zip | zips | keys | items | vals | str
inductive Tg where
  | var (i : Nat) | tup (ts : List Tg) | star (pre : List Nat) (s : Nat) (post : List Nat)

inductive C where
  | var (i : Nat)
  | con (v : PV)
  | kn (j : Nat)
  | bin (o : Op2) (m : Bool) (a b : C)
  | neg (a : C)
  | cmp (o : Cp) (a b : C)
  | chn (o1 o2 : Cp) (a b c : C)
  | and (es : List C) | or (es : List C) | not (a : C)
  | ite (c a b : C)
  | tup (es : List C)
  | lst (m : Bool) (es : List C)
  | dnew (m : Bool)
  | attr (e : C) (f : Nat)
  | idx (a b : C)
  | slc (m : Bool) (a lo : C) (hl : Bool) (hi : C) (hh : Bool)
  | call (f : Nat) (md : Nat) (es : List C)
  | meth (o : C) (m : Nat) (md : Nat) (es : List C)
  | make (c : Nat) (md : Nat) (es : List C)
  | prim (p : Pr) (m : Bool) (es : List C)
  | bm (p : Bm) (m : Bool) (o : C) (es : List C)
  | lc (m : Bool) (t : Tg) (k : Ik) (it : List C) (ifs : List C) (elt : C) (own : List Nat)
  | lc2 (m : Bool) (t : Tg) (k : Ik) (it : List C) (t2 : Tg) (k2 : Ik) (it2 : List C) (ifs : List C) (elt : C) (own : List Nat)
  | dc (t : Tg) (k : Ik) (it : List C) (ifs : List C) (key elt : C) (own : List Nat)

inductive Res (α : Type) where
  | ok (a : α) | exc (e : PV) (μ : Sto) | err

@[reducible] def Res.bind {α β : Type} (x : Res α) (f : α → Res β) : Res β := match x with
  | .ok a => f a
  | .exc e μ => .exc e μ
  | .err => .err
def Res.of {α : Type} (x : Option α) : Res α := match x with
  | some a => .ok a
  | none => .err
end Ev

namespace Ev
open PySem
/-! ### references -/
mutual
def PV.sub (f : Nat → Option PV) : PV → Option PV
  | .non => some .non
  | .bl b => some (.bl b)
  | .int i => some (.int i)
  | .str s => some (.str s)
  | .tup xs => (PV.subs f xs).map .tup
  | .lst xs => (PV.subs f xs).map .lst
  | .dct ks vs => (PV.subs f ks).bind fun a => (PV.subs f vs).map fun b => .dct a b
  | .ins c as vs => (PV.subs f vs).map fun b => .ins c as b
  | .gd g => some (.gd g)
  | .scr xs => some (.scr xs)
  | .exn c as vs => (PV.subs f vs).map fun b => .exn c as b
  | .ref i => f i
def PV.subs (f : Nat → Option PV) : List PV → Option (List PV)
  | [] => some []
  | x :: xs => (PV.sub f x).bind fun a => (PV.subs f xs).map fun b => a :: b
end
mutual
/-- all its references lie below b -/
def PV.refLt (b : Nat) : PV → Bool
  | .tup xs => PV.refsLt b xs
  | .lst xs => PV.refsLt b xs
  | .dct ks vs => PV.refsLt b ks && PV.refsLt b vs
  | .ins _ _ vs => PV.refsLt b vs
  | .exn _ _ vs => PV.refsLt b vs
  | .ref i => Nat.blt i b
  | _ => true
def PV.refsLt (b : Nat) : List PV → Bool
  | [] => true
  | x :: xs => PV.refLt b x && PV.refsLt b xs
end
def MO.frz (o : MO) (f : Nat → Option PV) : Option PV := match o with
  | .lst xs => (PV.subs f xs).map .lst
  | .dct ks vs => (PV.subs f ks).bind fun a => (PV.subs f vs).map fun b => .dct a b
  | .ins c as vs => (PV.subs f vs).map fun b => .ins c as b
/-- the object at i of the store, as plain data: references from b on are followed -/
def frzAt (μ : Sto) (b : Nat) : Nat → Nat → Option PV
  | 0, _ => none
  | n + 1, i => if Nat.blt i b then some (.ref i) else match μ[i]? with
    | some (some o) => o.frz (frzAt μ b n)
    | _ => none
def freeze (μ : Sto) (b : Nat) (v : PV) : Option PV := v.sub (frzAt μ b 12)

/-! ### plain data as the library has it -/
mutual
def PV.dat0 : PV → Option PyData
  | .non => some .none
  | .bl b => some (.bool b)
  | .int i => some (.int i)
  | .str s => some (.str s)
  | .tup xs => (PV.dats0 xs).map .tuple
  | .lst xs => (PV.dats0 xs).map .list
  | _ => none
def PV.dats0 : List PV → Option (List PyData)
  | [] => some []
  | x :: xs => (PV.dat0 x).bind fun a => (PV.dats0 xs).map fun b => a :: b
end
mutual
/-- as repr shows it -/
def PV.shw0 : PV → Option PyData
  | .non => some .none
  | .bl b => some (.bool b)
  | .int i => some (.int i)
  | .str s => some (.str s)
  | .tup xs => (PV.shws0 xs).map .tuple
  | .lst xs => (PV.shws0 xs).map .list
  | .dct ks vs => (PV.shws0 ks).bind fun a => (PV.shws0 vs).map fun b => .dict (a.zip b)
  | _ => none
def PV.shws0 : List PV → Option (List PyData)
  | [] => some []
  | x :: xs => (PV.shw0 x).bind fun a => (PV.shws0 xs).map fun b => a :: b
end
def shw (μ : Sto) (v : PV) : Option PyData := match v with
  | .ref i => (match μ[i]? with
    | some (some (.lst xs)) => PV.shw0 (.lst xs)
    | some (some (.dct ks vs)) => PV.shw0 (.dct ks vs)
    | _ => none)
  | v => v.shw0
/-- a value that may be a list of the store -/
def dat (μ : Sto) (v : PV) : Option PyData := match v with
  | .ref i => (match μ[i]? with
    | some (some (.lst xs)) => (PV.dats0 xs).map .list
    | _ => none)
  | v => v.dat0
/-- the items of a list, frozen or not -/
def listOf (μ : Sto) (v : PV) : Option (List PV) := match v with
  | .lst xs => some xs
  | .ref i => (match μ[i]? with
    | some (some (.lst xs)) => some xs
    | _ => none)
  | _ => none
def dictOf (μ : Sto) (v : PV) : Option (List PV × List PV) := match v with
  | .dct ks vs => some (ks, vs)
  | .ref i => (match μ[i]? with
    | some (some (.dct ks vs)) => some (ks, vs)
    | _ => none)
  | _ => none
def insOf (μ : Sto) (v : PV) : Option (Nat × List Nat × List PV) := match v with
  | .ins c as vs => some (c, as, vs)
  | .ref i => (match μ[i]? with
    | some (some (.ins c as vs)) => some (c, as, vs)
    | _ => none)
  | _ => none
def newL (m : Bool) (xs : List PV) (μ : Sto) : PV × Sto := if m then (.ref μ.length, μ ++ [some (.lst xs)]) else (.lst xs, μ)
def newD (m : Bool) (ks vs : List PV) (μ : Sto) : PV × Sto := if m then (.ref μ.length, μ ++ [some (.dct ks vs)]) else (.dct ks vs, μ)
def line : Nat := 16777216
end Ev

namespace Ev
open PySem
/-! ### operations on values -/
def PV.keq : PV → PV → Bool
  | .int i, .int j => decide (i = j)
  | .str x, .str y => decide (x = y)
  | _, _ => false
def PV.isKey : PV → Bool
  | .int _ => true
  | .str _ => true
  | _ => false
def lookP : List PV → List PV → PV → Option PV
  | k :: ks, v :: vs, x => if PV.keq k x then some v else lookP ks vs x
  | _, _, _ => none
def hasP : List PV → PV → Bool
  | [], _ => false
  | k :: ks, x => PV.keq k x || hasP ks x
def setP : List PV → List PV → PV → PV → List PV
  | k :: ks, v :: vs, x, y => (if PV.keq k x then y else v) :: setP ks vs x y
  | _, _, _, _ => []
def putP (ks vs : List PV) (x y : PV) : List PV × List PV := if hasP ks x then (ks, setP ks vs x y) else (ks ++ [x], vs ++ [y])
def lookN : List Nat → List PV → Nat → Option PV
  | k :: ks, v :: vs, x => if Nat.beq k x then some v else lookN ks vs x
  | _, _, _ => none
def putN : List Nat → List PV → Nat → PV → List Nat × List PV
  | k :: ks, v :: vs, x, y => if Nat.beq k x then (k :: ks, y :: vs) else ((k :: (putN ks vs x y).1), (v :: (putN ks vs x y).2))
  | _, _, x, y => ([x], [y])

/-- pairs, put one after the other -/
def pairsP : List PV → List PV → List PV → Option (List PV × List PV)
  | [], ks, vs => some (ks, vs)
  | .tup [k, v] :: r, ks, vs => if PV.isKey k then pairsP r (putP ks vs k v).1 (putP ks vs k v).2 else none
  | _, _, _ => none
structure Tab where
  /-- the module's dicts -/
  gds : Nat → Option (List PV × List PV)
  /-- the module's constants -/
  kn : Nat → Option PV
  /-- the def that a class's method is -/
  meth : Nat → Nat → Option Nat
  /-- is a class under another one -/
  sub : Nat → Nat → Bool
  /-- is a class one of exceptions -/
  exc : Nat → Bool
  xsub : Nat → Nat → Bool
  /-- the attribute that an exception's one argument becomes -/
  xat : Nat → Option Nat
  /-- is a name one of an instance's own -/
  isA : Nat → Bool

def small64 (i : Int) : Bool := decide (-(2 ^ 64) < i) && decide (i < 2 ^ 64)
def truth (μ : Sto) (v : PV) : Option Bool := match v with
  | .non => some false
  | .bl b => some b
  | .int i => some (i != 0)
  | .tup xs => some (!xs.isEmpty)
  | .str s => if s.length ≤ line then some ((s.length : Int) != 0) else none
  | v => (listOf μ v).map fun xs => !xs.isEmpty

def op2 (o : Op2) (m : Bool) (x y : PV) (μ : Sto) : Option (PV × Sto) := match o, x, y with
  | .add, .int i, .int j => some (.int (i + j), μ)
  | .sub, .int i, .int j => some (.int (i - j), μ)
  | .mul, .int i, .int j => if small64 i || small64 j then some (.int (i * j), μ) else none
  | .fdiv, .int i, .int j => if decide (0 < j) && decide (j < 1073741824) then some (.int (i / j), μ) else none
  | .mod, .int i, .int j => if decide (0 < j) then some (.int (i % j), μ) else none
  | .pow, .int i, .int j => if decide (0 ≤ j) && (decide (j ≤ 1000000) && decide (i.natAbs < 2 ^ 64)) then some (.int (i ^ j.toNat), μ) else none
  | .add, .str a, .str b => if a.length + b.length ≤ line then some (.str (a ++ b), μ) else none
  | .add, .tup xs, .tup ys => if xs.length + ys.length ≤ line then some (.tup (xs ++ ys), μ) else none
  | .add, x, y => (listOf μ x).bind fun xs => (listOf μ y).bind fun ys => if xs.length + ys.length ≤ line then some (newL m (xs ++ ys) μ) else none
  | .mul, x, .int k => (listOf μ x).bind fun xs => if decide (-(2 ^ 63) ≤ k) && (decide (k < 2 ^ 63) && decide (xs.length * k.toNat ≤ line)) then some (newL m (List.replicate k.toNat xs).flatten μ) else none
  | _, _, _ => none

def PV.flat : PV → Bool
  | .non => true | .bl _ => true | .int _ => true | .str _ => true
  | _ => false
/-- == of flat things, as Python has it -/
def PV.feq : PV → PV → Bool
  | .non, .non => true
  | .bl a, .bl b => a == b
  | .bl a, .int i => (if a then 1 else 0) == i
  | .int i, .bl a => i == (if a then 1 else 0)
  | .int i, .int j => i == j
  | .str x, .str y => x == y
  | _, _ => false
def inP (x : PV) (xs : List PV) : Bool := xs.any fun y => PV.feq y x

def cmpEq (μ : Sto) (x y : PV) : Option Bool := (dat μ x).bind fun d => (dat μ y).bind fun e => if SeqAt.shaped d && SeqAt.shaped e then some (PyData.eqv d e) else none
def cmpIn (τ : Tab) (μ : Sto) (x y : PV) : Option Bool := match y with
  | .gd g => (match x with
    | .str _ => (τ.gds g).map fun kv => hasP kv.1 x
    | _ => none)
  | .str s => (match x with
    | .str ⟨⟨[c]⟩⟩ => some (decide (c ∈ s.cps.toList))
    | _ => none)
  | .tup ys => if x.flat && ys.all PV.flat then some (inP x ys) else none
  | y => (match listOf μ y with
    | some ys => if x.flat && ys.all PV.flat then some (inP x ys) else none
    | none => (dictOf μ y).bind fun kv => if PV.isKey x then some (hasP kv.1 x) else none)
def cmp (τ : Tab) (o : Cp) (x y : PV) (μ : Sto) : Option Bool := match o with
  | .eq => cmpEq μ x y
  | .ne => (cmpEq μ x y).map fun b => !b
  | .lt => (match x, y with | .int i, .int j => some (decide (i < j)) | _, _ => none)
  | .le => (match x, y with | .int i, .int j => some (decide (i ≤ j)) | _, _ => none)
  | .gt => (match x, y with | .int i, .int j => some (decide (j < i)) | _, _ => none)
  | .ge => (match x, y with | .int i, .int j => some (decide (j ≤ i)) | _, _ => none)
  | .is => (match x, y with | .non, .non => some true | _, .non => some false | _, _ => none)
  | .isn => (match x, y with | .non, .non => some false | _, .non => some true | _, _ => none)
  | .in_ => cmpIn τ μ x y
  | .nin => (cmpIn τ μ x y).map fun b => !b

def atP (xs : List PV) (i : Int) : Option PV := L2.atI xs i
def getIx (τ : Tab) (μ : Sto) (x y : PV) : Option PV := match x, y with
  | .gd g, .str k => (τ.gds g).bind fun kv => lookP kv.1 kv.2 (.str k)
  | .tup xs, .int i => atP xs i
  | .scr ns, .int i => (L2.atI ns i).map .int
  | .str s, .int i => if s.length ≤ line then (L2.atI s.cps.toList i).map fun c => .str ⟨#[c]⟩ else none
  | x, y => match listOf μ x with
    | some xs => (match y with | .int i => atP xs i | _ => none)
    | none => (dictOf μ x).bind fun kv => if PV.isKey y then lookP kv.1 kv.2 y else none
def partOf (t : Bool) (v : PV) : Option (Option Int) := match t, v with
  | false, .non => some none
  | true, .int i => some (some i)
  | _, _ => none
def cutP (xs : List PV) (lo hi : Option Int) : List PV := (xs.drop (HT.sIx xs.length 0 lo)).take (HT.sIx xs.length xs.length hi - HT.sIx xs.length 0 lo)
def slice (m : Bool) (x : PV) (l h : Option Int) (μ : Sto) : Option (PV × Sto) := match x with
  | .tup xs => some (.tup (cutP xs l h), μ)
  | .str s => if s.length ≤ line then some (.str (L2.cutS s l h), μ) else none
  | x => (listOf μ x).map fun xs => newL m (cutP xs l h) μ

/-- what a value is an instance of -/
inductive Kd where
  | b (n : Nat) | i (c : Nat) | x (c : Nat)
def kindP (μ : Sto) (v : PV) : Option Kd := match v with
  | .non => some (.b 0)
  | .bl _ => some (.b 1)
  | .int _ => some (.b 2)
  | .str _ => some (.b 3)
  | .tup _ => some (.b 4)
  | .lst _ => some (.b 5)
  | .dct _ _ => some (.b 6)
  | .ins c _ _ => some (.i c)
  | .exn c _ _ => some (.x c)
  | .ref i => (match μ[i]? with
    | some (some (.lst _)) => some (.b 5)
    | some (some (.dct _ _)) => some (.b 6)
    | some (some (.ins c _ _)) => some (.i c)
    | _ => none)
  | _ => none
def bname : Nat → String
  | 0 => "NoneType" | 1 => "bool" | 2 => "int" | 3 => "str" | 4 => "tuple" | 5 => "list" | _ => "dict"
def Ty.num : Ty → Nat
  | .bool => 1 | .int => 2 | .str => 3 | .tuple => 4 | .list => 5 | .dict => 6 | _ => 0
def isTy (τ : Tab) (μ : Sto) (v : PV) (t : Ty) : Option Bool := (kindP μ v).bind fun k => match t, k with
  | .cls c, .b _ => if τ.sub c c then some false else none
  | .cls c, .i d => if τ.sub c c && τ.sub d d then some (τ.sub d c) else none
  | .cls _, .x _ => none
  | .exc c, .b _ => if τ.exc c then some false else none
  | .exc c, .x d => if τ.exc c && τ.exc d then some (τ.xsub d c) else none
  | .exc _, .i _ => none
  | .ve, .b _ => some false
  | .ve, .x d => if τ.exc d then some true else none
  | .ve, .i _ => none
  | t, .b n => some (Nat.beq t.num n || (Nat.beq t.num 2 && Nat.beq n 1))
  | _, .i d => if τ.sub d d then some false else none
  | _, .x _ => none

def boolsOf : List PV → Option (List Bool)
  | [] => some []
  | .bl b :: xs => (boolsOf xs).map fun r => b :: r
  | _ => none
def prim (τ : Tab) (p : Pr) (m : Bool) (vs : List PV) (μ : Sto) : Option (PV × Sto) := match p, vs with
  | .isi t, [v] => (isTy τ μ v t).map fun b => (.bl b, μ)
  | .len, [.tup xs] => some (.int xs.length, μ)
  | .len, [.scr xs] => some (.int xs.length, μ)
  | .len, [.str s] => if s.length ≤ line then some (.int s.length, μ) else none
  | .len, [v] => (match listOf μ v with
    | some xs => some (.int xs.length, μ)
    | none => (dictOf μ v).map fun kv => (.int kv.1.length, μ))
  | .abs, [.int i] => some (.int (if i < 0 then -i else i), μ)
  | .int, [.bl b] => some (.int (if b then 1 else 0), μ)
  | .min2, [.int i, .int j] => some (.int (if j < i then j else i), μ)
  | .max2, [.int i, .int j] => some (.int (if i < j then j else i), μ)
  | .all, [v] => (listOf μ v).bind fun xs => (boolsOf xs).map fun bs => (.bl (bs.all id), μ)
  | .any, [v] => (listOf μ v).bind fun xs => (boolsOf xs).map fun bs => (.bl (bs.any id), μ)
  | .tuple, [.tup xs] => some (.tup xs, μ)
  | .tuple, [v] => (listOf μ v).map fun xs => (.tup xs, μ)
  | .list, [.tup xs] => some (newL m xs μ)
  | .list, [v] => (listOf μ v).map fun xs => newL m xs μ
  | .dictP, [v] => (listOf μ v).bind fun xs => (pairsP xs [] []).map fun kv => newD m kv.1 kv.2 μ
  | .repr, [v] => (shw μ v).bind fun d => if d.showable && (decide (d.shown.length ≤ line) && decide (d.depth ≤ 60)) then some (.str d.shown, μ) else none
  | _, _ => none

/-- the things walked -/
def numb : Nat → List PV → List PV
  | _, [] => []
  | n, x :: xs => .tup [.int n, x] :: numb (n + 1) xs
def zipP : List PV → List PV → List PV
  | x :: xs, y :: ys => .tup [x, y] :: zipP xs ys
  | _, _ => []
def upP (lo : Int) : Nat → List PV
  | 0 => []
  | n + 1 => .int lo :: upP (lo + 1) n
def small62 (i : Int) : Bool := decide (-(2 ^ 62) ≤ i) && decide (i < 2 ^ 62)
def walked (k : Ik) (vs : List PV) (μ : Sto) : Option (List PV) := match k, vs with
  | .seq, [.tup xs] => some xs
  | .seq, [.lst xs] => some xs
  | .rng1, [.int j] => if small62 j then some (upP 0 j.toNat) else none
  | .rng2, [.int i, .int j] => if small62 i && small62 j then some (upP i (j - i).toNat) else none
  | .enum, [.lst xs] => some (numb 0 xs)
  | .keys, [.dct ks _] => some ks
  | _, _ => none

/-! ### targets -/
mutual
def asg (t : Tg) (v : PV) (σ : Loc) : Option Loc := match t with
  | .var i => if i < σ.length then some (σ.set i (some v)) else none
  | .tup ts => (match v with
    | .tup xs => asgs ts xs σ
    | _ => none)
  | .star pre s post => (match v with
    | .tup xs => if pre.length + post.length ≤ xs.length then
        let mid := xs.length - pre.length - post.length
        (asgV pre (xs.take pre.length) σ).bind fun σ1 => (if s < σ.length then some (σ1.set s (some (.lst ((xs.drop pre.length).take mid)))) else none).bind fun σ2 => asgV post (xs.drop (pre.length + mid)) σ2
      else none
    | _ => none)
def asgs (ts : List Tg) (vs : List PV) (σ : Loc) : Option Loc := match ts, vs with
  | [], [] => some σ
  | t :: ts, v :: vs => (asg t v σ).bind fun σ1 => asgs ts vs σ1
  | _, _ => none
def asgV (ts : List Nat) (vs : List PV) (σ : Loc) : Option Loc := match ts, vs with
  | [], [] => some σ
  | i :: ts, v :: vs => if i < σ.length then asgV ts vs (σ.set i (some v)) else none
  | _, _ => none
end
def wipeP (σ : Loc) : List Nat → Loc
  | [] => σ
  | i :: is => (wipeP σ is).set i none
end Ev

namespace Ev
open PySem
/-! ### expressions -/
/-- the calls: a def by its number, arguments, the base of references, the store -/
abbrev Calls := Nat → List PV → Nat → Sto → Res (PV × Sto)
/-- a call by its way: 0: plain data in and out, a store of its own; 1: plain data out (or what stood ahead), the rest goes; 2: all is kept -/
def callBy (Φ : Calls) (b : Nat) (f md : Nat) (vs : List PV) (μ : Sto) : Res (PV × Sto) := match md with
  | 0 => if PV.refsLt 0 vs then (match Φ f vs 0 [] with
      | .ok (v, μ1) => Res.of ((freeze μ1 0 v).map fun v => (v, μ))
      | .exc e μ1 => (match freeze μ1 0 e with
        | some e => .exc e μ
        | none => .err)
      | .err => .err) else .err
  | 1 => (match Φ f vs μ.length μ with
      | .ok (v, μ1) => Res.of ((freeze μ1 μ.length v).map fun v => (v, μ1.take μ.length))
      | .exc e μ1 => (match freeze μ1 μ.length e with
        | some e => .exc e (μ1.take μ.length)
        | none => .err)
      | .err => .err)
  | _ => Φ f vs b μ
/-- a list that may change -/
def isMl (μ : Sto) (o : PV) : Bool := match o with
  | .ref i => (match μ[i]? with
    | some (some (.lst _)) => true
    | _ => false)
  | _ => false
/-- a new instance -/
def makeBy (Φ : Calls) (b : Nat) (c : Nat) (f md : Nat) (vs : List PV) (μ : Sto) : Res (PV × Sto) := match md with
  | 1 => (match Φ f (.ref μ.length :: vs) μ.length (μ ++ [some (.ins c [] [])]) with
      | .ok (.non, μ1) => Res.of ((freeze μ1 μ.length (.ref μ.length)).map fun v => (v, μ1.take μ.length))
      | .exc e μ1 => (match freeze μ1 μ.length e with
        | some e => .exc e (μ1.take μ.length)
        | none => .err)
      | _ => .err)
  | _ => (match Φ f (.ref μ.length :: vs) b (μ ++ [some (.ins c [] [])]) with
      | .ok (.non, μ1) => .ok (.ref μ.length, μ1)
      | .exc e μ1 => .exc e μ1
      | _ => .err)
/-- an object of the store is written: older ones than the frame take plain data alone -/
def mayWrite (b i : Nat) (v : PV) : Bool := Nat.ble b i || v.refLt 0
def setObj (μ : Sto) (i : Nat) (o : MO) : Sto := μ.set i (some o)
def bmeth (p : Bm) (m : Bool) (b : Nat) (o : PV) (vs : List PV) (μ : Sto) : Option (PV × Sto) := match p, o, vs with
  | .append, .ref i, [v] => (match μ[i]? with
    | some (some (.lst xs)) => if decide (xs.length < line) && mayWrite b i v then some (.non, setObj μ i (.lst (xs ++ [v]))) else none
    | _ => none)
  | .extend, .ref i, [v] => (match μ[i]? with
    | some (some (.lst xs)) => (listOf μ v).bind fun ys => if decide (xs.length + ys.length ≤ line) && mayWrite b i (.lst ys) then some (.non, setObj μ i (.lst (xs ++ ys))) else none
    | _ => none)
  | .pop0, .ref i, [] => (match μ[i]? with
    | some (some (.lst xs)) => (xs[xs.length - 1]?).map fun y => (y, setObj μ i (.lst xs.dropLast))
    | _ => none)
  | .pop1, .ref i, [.int k] => (match μ[i]? with
    | some (some (.lst xs)) => if decide (-(2 ^ 63) ≤ k) && decide (k < 2 ^ 63) then (L2.ixN xs.length k).bind fun j => (xs[j]?).map fun y => (y, setObj μ i (.lst (xs.eraseIdx j))) else none
    | _ => none)
  | .clear, .ref i, [] => (match μ[i]? with
    | some (some (.lst _)) => some (.non, setObj μ i (.lst []))
    | _ => none)
  | .get2, o, [k, d] => (dictOf μ o).bind fun kv => if PV.isKey k then some ((lookP kv.1 kv.2 k).getD d, μ) else none
  | .get1, o, [k] => (dictOf μ o).bind fun kv => if PV.isKey k then some ((lookP kv.1 kv.2 k).getD .non, μ) else none
  | _, _, _ => none
/-- what a method may be asked of -/
def recv (p : Bm) (o : PV) (μ : Sto) : Bool := match p with
  | .get1 => (dictOf μ o).isSome
  | .get2 => (dictOf μ o).isSome
  | .append => isMl μ o
  | .extend => isMl μ o
  | .pop0 => isMl μ o
  | .pop1 => isMl μ o
  | .clear => isMl μ o
  | _ => false
def attrOf (τ : Tab) (μ : Sto) (v : PV) (f : Nat) : Option PV := match v with
  | .exn c as vs => if τ.exc c && τ.isA f then lookN as vs f else none
  | v => (insOf μ v).bind fun r => if τ.sub r.1 r.1 && τ.isA f then lookN r.2.1 r.2.2 f else none

/-- a comprehension's turns -/
def evLc (f : PV → Loc → Sto → Res (Option PV × Sto)) (xs : List PV) (σ : Loc) (μ : Sto) : Res (List PV × Sto) := match xs with
  | [] => .ok ([], μ)
  | x :: xs => (f x σ μ).bind fun p => (evLc f xs σ p.2).bind fun q => .ok ((match p.1 with
    | some y => y :: q.1
    | none => q.1), q.2)
section
variable (τ : Tab) (Φ : Calls) (b : Nat)
mutual
def evE (c : C) (σ : Loc) (μ : Sto) : Res (PV × Sto) := match c with
  | .var i => (match σ[i]? with
    | some (some v) => .ok (v, μ)
    | _ => .err)
  | .con v => .ok (v, μ)
  | .kn j => (match τ.kn j with
    | some v => .ok (v, μ)
    | none => .err)
  | .bin o m x y => (evE x σ μ).bind fun p => (evE y σ p.2).bind fun q => Res.of (op2 o m p.1 q.1 q.2)
  | .neg x => (evE x σ μ).bind fun p => (match p.1 with
    | .int i => .ok (.int (-i), p.2)
    | _ => .err)
  | .cmp o x y => (evE x σ μ).bind fun p => (evE y σ p.2).bind fun q => Res.of ((cmp τ o p.1 q.1 q.2).map fun r => (.bl r, q.2))
  | .chn o1 o2 x y z => (evE x σ μ).bind fun p => (evE y σ p.2).bind fun q => (Res.of (cmp τ o1 p.1 q.1 q.2)).bind fun r => match r with
    | true => (evE z σ q.2).bind fun s => Res.of ((cmp τ o2 q.1 s.1 s.2).map fun r => (.bl r, s.2))
    | false => .ok (.bl false, q.2)
  | .and es => evAnd es σ μ
  | .or es => evOr es σ μ
  | .not x => (evE x σ μ).bind fun p => Res.of ((truth p.2 p.1).map fun r => (.bl (!r), p.2))
  | .ite c x y => (evE c σ μ).bind fun p => (Res.of (truth p.2 p.1)).bind fun r => match r with
    | true => evE x σ p.2
    | false => evE y σ p.2
  | .tup es => (evEs es σ μ).bind fun p => if p.1.length ≤ line then .ok (.tup p.1, p.2) else .err
  | .lst m es => (evEs es σ μ).bind fun p => if p.1.length ≤ line then .ok (newL m p.1 p.2) else .err
  | .dnew m => if m then .ok (.ref μ.length, μ ++ [some (.dct [] [])]) else .ok (.dct [] [], μ)
  | .attr x f => (evE x σ μ).bind fun p => Res.of ((attrOf τ p.2 p.1 f).map fun v => (v, p.2))
  | .idx x y => (evE x σ μ).bind fun p => (evE y σ p.2).bind fun q => Res.of ((getIx τ q.2 p.1 q.1).map fun v => (v, q.2))
  | .slc m x lo hl hi hh => (evE x σ μ).bind fun p => (evE lo σ p.2).bind fun q => (Res.of (partOf hl q.1)).bind fun l => (evE hi σ q.2).bind fun r => Res.of ((partOf hh r.1).bind fun h => slice m p.1 l h r.2)
  | .call f md es => (evEs es σ μ).bind fun p => callBy Φ b f md p.1 p.2
  | .meth o m md es => (evE o σ μ).bind fun p => match insOf p.2 p.1 with
    | some (c, as, _) => if as.contains m then .err else (evEs es σ p.2).bind fun q => (match τ.meth c m with
      | some f => callBy Φ b f md (p.1 :: q.1) q.2
      | none => .err)
    | none => .err
  | .make c md es => (evEs es σ μ).bind fun p => match τ.meth c 0 with
    | some f => makeBy Φ b c f md p.1 p.2
    | none => .err
  | .prim p m es => (evEs es σ μ).bind fun q => Res.of (prim τ p m q.1 q.2)
  | .bm p m o es => (evE o σ μ).bind fun q => match recv p q.1 q.2 with
    | true => (evEs es σ q.2).bind fun r => Res.of (bmeth p m b q.1 r.1 r.2)
    | false => .err
  | .lc m t k it ifs elt own => (evEs it σ μ).bind fun p => match walked k p.1 p.2 with
    | some xs => (match evLc (fun v σ μ => match asg t v σ with
        | some σ1 => (evIfs ifs σ1 μ).bind fun q => (match q.1 with
          | true => (evE elt σ1 q.2).bind fun r => .ok (some r.1, r.2)
          | false => .ok (none, q.2))
        | none => .err) xs (wipeP σ own) p.2 with
      | .ok (ys, μ1) => if ys.length ≤ line then .ok (newL m ys μ1) else .err
      | _ => .err)
    | none => .err
  | .lc2 .. => .err
  | .dc .. => .err
termination_by structural c
def evEs (cs : List C) (σ : Loc) (μ : Sto) : Res (List PV × Sto) := match cs with
  | [] => .ok ([], μ)
  | c :: cs => (evE c σ μ).bind fun p => (evEs cs σ p.2).bind fun q => .ok (p.1 :: q.1, q.2)
termination_by structural cs
def evAnd (cs : List C) (σ : Loc) (μ : Sto) : Res (PV × Sto) := match cs with
  | [] => .err
  | c :: cs => (evE c σ μ).bind fun p => match cs.isEmpty with
    | true => .ok p
    | false => (Res.of (truth p.2 p.1)).bind fun r => match r with
      | true => evAnd cs σ p.2
      | false => .ok p
termination_by structural cs
def evOr (cs : List C) (σ : Loc) (μ : Sto) : Res (PV × Sto) := match cs with
  | [] => .err
  | c :: cs => (evE c σ μ).bind fun p => match cs.isEmpty with
    | true => .ok p
    | false => (Res.of (truth p.2 p.1)).bind fun r => match r with
      | true => .ok p
      | false => evOr cs σ p.2
termination_by structural cs
def evIfs (cs : List C) (σ : Loc) (μ : Sto) : Res (Bool × Sto) := match cs with
  | [] => .ok (true, μ)
  | c :: cs => (evE c σ μ).bind fun p => (Res.of (truth p.2 p.1)).bind fun r => match r with
    | true => evIfs cs σ p.2
    | false => .ok (false, p.2)
termination_by structural cs
end
end
end Ev

namespace Ev
open PySem
/-! ### statements -/
mutual
inductive S where
  | set (t : Tg) (e : C)
  | par (i j : Nat) (e f : C)
  | setA (o : C) (f : Nat) (e : C)
  | setI (o i e : C)
  | aug (i : Nat) (o : Op2) (e : C)
  | augA (o : C) (f : Nat) (op : Op2) (e : C)
  | expr (e : C)
  | ret (e : C)
  | retN
  | pass
  | iff (c : C) (a b : List S)
  | for (t : Tg) (k : Ik) (it : List C) (body : List S)
  | whil (c : C) (body : List S)
  | raise (c : Nat) (es : List C)
  | nev
  | try (body : List S) (hs : List Hd)
  | frz (i : Nat)
inductive Hd where
  | mk (cs : List Nat) (i : Option Nat) (body : List S)
end
inductive Out where
  | nx (σ : Loc) (μ : Sto) | ret (v : PV) (μ : Sto) | exc (e : PV) (σ : Loc) (μ : Sto) | err
@[reducible] def Out.next (x : Out) (f : Loc → Sto → Out) : Out := match x with
  | .nx σ μ => f σ μ
  | .ret v μ => .ret v μ
  | .exc e σ μ => .exc e σ μ
  | .err => .err
@[reducible] def Res.out {α : Type} (x : Res α) (σ : Loc) (f : α → Out) : Out := match x with
  | .ok a => f a
  | .exc e μ => .exc e σ μ
  | .err => .err
def Out.of {α : Type} (x : Option α) (f : α → Out) : Out := match x with
  | some a => f a
  | none => .err
def setAttr (τ : Tab) (b : Nat) (μ : Sto) (o : PV) (f : Nat) (v : PV) : Option Sto := match o with
  | .ref i => (match μ[i]? with
    | some (some (.ins c as vs)) => if (τ.sub c c && τ.isA f) && (decide (as.length < 900) && mayWrite b i v) then some (setObj μ i (.ins c (putN as vs f v).1 (putN as vs f v).2)) else none
    | _ => none)
  | _ => none
def setItem (b : Nat) (μ : Sto) (o k v : PV) : Option Sto := match o with
  | .ref i => (match μ[i]? with
    | some (some (.lst xs)) => (match k with
      | .int j => (L2.ixN xs.length j).bind fun j => if mayWrite b i v then some (setObj μ i (.lst (xs.set j v))) else none
      | _ => none)
    | some (some (.dct ks vs)) => if PV.isKey k && (decide (ks.length < line) && mayWrite b i v) then some (setObj μ i (.dct (putP ks vs k v).1 (putP ks vs k v).2)) else none
    | _ => none)
  | _ => none
/-- a loop's turns -/
def loop (f : PV → Loc → Sto → Out) (xs : List PV) (σ : Loc) (μ : Sto) : Out := match xs with
  | [] => .nx σ μ
  | x :: xs => (f x σ μ).next fun σ μ => loop f xs σ μ
def wloop (c : Loc → Sto → Res (Bool × Sto)) (f : Loc → Sto → Out) (n : Nat) (σ : Loc) (μ : Sto) : Out := match n with
  | 0 => .err
  | n + 1 => (c σ μ).out σ fun p => match p.1 with
    | true => (f σ p.2).next fun σ μ => wloop c f n σ μ
    | false => .nx σ p.2
/-- a reference at a slot becomes plain data -/
def frzSlot (b : Nat) (i : Nat) (σ : Loc) (μ : Sto) : Out := match σ[i]? with
  | some (some (.ref j)) => if Nat.ble b j then (match μ[j]? with
    | some (some o) => Out.of (o.frz fun k => if Nat.blt k b then some (.ref k) else none) fun v => .nx (σ.set i (some v)) (μ.set j none)
    | _ => .err) else .err
  | _ => .err
section
variable (τ : Tab) (Φ : Calls) (b : Nat) (wf : Nat)
mutual
def evS (s : S) (σ : Loc) (μ : Sto) : Out := match s with
  | .set t e => (evE τ Φ b e σ μ).out σ fun p => Out.of (asg t p.1 σ) fun σ => .nx σ p.2
  | .par i j e f => (evE τ Φ b e σ μ).out σ fun p => (evE τ Φ b f σ p.2).out σ fun q => if i < σ.length ∧ j < σ.length then .nx ((σ.set i (some p.1)).set j (some q.1)) q.2 else .err
  | .setA o f e => (evE τ Φ b e σ μ).out σ fun p => (evE τ Φ b o σ p.2).out σ fun q => Out.of (setAttr τ b q.2 q.1 f p.1) fun μ => .nx σ μ
  | .setI o i e => (evE τ Φ b e σ μ).out σ fun p => (evE τ Φ b o σ p.2).out σ fun q => (evE τ Φ b i σ q.2).out σ fun r => Out.of (setItem b r.2 q.1 r.1 p.1) fun μ => .nx σ μ
  | .aug i o e => (match σ[i]? with
    | some (some x) => (evE τ Φ b e σ μ).out σ fun p => Out.of (op2 o false x p.1 p.2) fun q => .nx (σ.set i (some q.1)) q.2
    | _ => .err)
  | .augA o f op e => (evE τ Φ b o σ μ).out σ fun p => Out.of (attrOf τ p.2 p.1 f) fun x => (evE τ Φ b e σ p.2).out σ fun q => Out.of (op2 op false x q.1 q.2) fun r => Out.of (setAttr τ b r.2 p.1 f r.1) fun μ => .nx σ μ
  | .expr e => (evE τ Φ b e σ μ).out σ fun p => .nx σ p.2
  | .ret e => (evE τ Φ b e σ μ).out σ fun p => .ret p.1 p.2
  | .retN => .ret .non μ
  | .pass => .nx σ μ
  | .iff c x y => (evE τ Φ b c σ μ).out σ fun p => Out.of (truth p.2 p.1) fun r => match r with
    | true => evSs x σ p.2
    | false => evSs y σ p.2
  | .for t k it body => (evEs τ Φ b it σ μ).out σ fun p => Out.of (walked k p.1 p.2) fun xs => loop (fun v σ μ => Out.of (asg t v σ) fun σ => evSs body σ μ) xs σ p.2
  | .whil c body => wloop (fun σ μ => (evE τ Φ b c σ μ).bind fun p => Res.of ((truth p.2 p.1).map fun r => (r, p.2))) (fun σ μ => evSs body σ μ) wf σ μ
  | .raise c es => (match τ.xat c with
    | some f => (evEs τ Φ b es σ μ).out σ fun p => (match p.1 with
      | [v] => .exc (.exn c [f] [v]) σ p.2
      | _ => .err)
    | none => .err)
  | .nev => .err
  | .try body hs => (match evSs body σ μ with
    | .exc e σ1 μ1 => evHs hs e σ1 μ1
    | o => o)
  | .frz i => frzSlot b i σ μ
termination_by structural s
def evSs (ss : List S) (σ : Loc) (μ : Sto) : Out := match ss with
  | [] => .nx σ μ
  | s :: ss => (evS s σ μ).next fun σ μ => evSs ss σ μ
termination_by structural ss
def evHs (hs : List Hd) (e : PV) (σ : Loc) (μ : Sto) : Out := match hs with
  | [] => .exc e σ μ
  | h :: hs => evH h (evHs hs e σ μ) e σ μ
termination_by structural hs
def evH (h : Hd) (other : Out) (e : PV) (σ : Loc) (μ : Sto) : Out := match h with
  | .mk cs i body => (match e with
    | .exn d _ _ => (match τ.exc d && cs.all τ.exc with
      | true => (match cs.any fun c => τ.xsub d c with
        | true => (match i with
          | some i => if i < σ.length then (evSs body (σ.set i (some e)) μ).next fun σ μ => .nx (σ.set i none) μ else .err
          | none => evSs body σ μ)
        | false => other)
      | false => .err)
    | _ => .err)
termination_by structural h
end
end
/-- a def: how many parameters, how many slots, its statements -/
structure Fn where
  ps : Nat
  ns : Nat
  body : List S
def Out.fin (o : Out) : Res (PV × Sto) := match o with
  | .nx _ μ => .ok (.non, μ)
  | .ret v μ => .ok (v, μ)
  | .exc e _ μ => .exc e μ
  | .err => .err
def runFn (τ : Tab) (Φ : Calls) (wf : Nat) (f : Fn) (vs : List PV) (b : Nat) (μ : Sto) : Res (PV × Sto) :=
  if vs.length = f.ps then (evSs τ Φ b wf f.body (vs.map some ++ List.replicate (f.ns - f.ps) none) μ).fin else .err
/-- the calls to a depth -/
def callN (τ : Tab) (Δ : Nat → Option Fn) (wf : Nat) : Nat → Calls
  | 0 => fun _ _ _ _ => .err
  | n + 1 => fun f vs b μ => match Δ f with
    | some fn => runFn τ (callN τ Δ wf n) wf fn vs b μ
    | none => .err
end Ev


set_option Elab.async false
set_option linter.all false
set_option maxRecDepth 100000
/-! Worlds: how plain data and the store lie in the abstract heap. -/
namespace Ev
open PySem L2
/-- what is fixed: the written part, the classes, the attributes' names, the module's dicts -/
structure Gx where
  K : PySem.W.Frag
  cls : Nat → Addr
  gda : Nat → Addr
/-- a name by its number: its signs are the number's digits -/
def digs : Nat → Nat → List Nat
  | 0, _ => []
  | k + 1, n => if n = 0 then [] else (n % 256) :: digs k (n / 256)
def val : List Nat → Nat
  | [] => 0
  | d :: r => d + 256 * val r
theorem val_digs : ∀ (k n : Nat), n ≤ k → val (digs k n) = n
  | 0, n, h => by
    have : n = 0 := by omega
    subst this
    rfl
  | k + 1, n, h => by
    unfold digs
    split
    · rename_i e
      subst e
      rfl
    · rename_i e
      have hk : n / 256 ≤ k := by omega
      simp only [val, val_digs k (n / 256) hk]
      omega
def dec (n : Nat) : Str := ⟨⟨digs n n⟩⟩
theorem dec_inj {n m : Nat} (h : dec n = dec m) : n = m := by
  have e : digs n n = digs m m := by
    have := congrArg (fun s : Str => s.cps.toList) h
    exact this
  have := congrArg val e
  rwa [val_digs n n (Nat.le_refl _), val_digs m m (Nat.le_refl _)] at this

structure Wd where
  Z : Addr → Prop
  ρ : List Addr
  μ : Sto
  H : Hp
/-- the addresses of what may change -/
def Wd.B (w : Wd) (a : Addr) : Prop := w.Z a ∨ ∃ (i : Nat) (o : MO), w.μ[i]? = some (some o) ∧ w.ρ[i]? = some a

def keyV : PV → Option Key
  | .int i => some (.inl i)
  | .str s => some (.inr s)
  | _ => none
def Keys : List PV → List Key → Prop
  | [], ks => ks = []
  | k :: r, ks => ∃ x s, ks = x :: s ∧ keyV k = some x ∧ Keys r s

/-- a list of the module's own -/
def KLst (K : PySem.W.Frag) (a : Addr) (xs : List V) : Prop := ∃ (o : Obj) (its : Array Value) (n : Nat), K.lookup a = some o ∧ o.cls = .type "list" ∧ o.dict = none ∧ o.data = .seq its n ∧ its.size ≤ sizeLine ∧ Vals xs its.toList
/-- a caught exception: of the class at C, its dict at d -/
def ExV (cls : Value) (d : Option Addr) (a : Addr) : HO := HO.ext fun h => ∃ (oe : Obj) (vs : Array Value), h.get? a = some oe ∧ Zc cls d oe ∧ oe.data = .fields vs
def ExD (C d a : Addr) : HO := ExV (.ref C) (some d) a
mutual
def Den (g : Gx) (w : Wd) : PV → V → Prop
  | .non, x => x = .non
  | .bl b, x => x = .bl b
  | .int i, x => x = .int i
  | .str s, x => x = .str s
  | .tup xs, x => ∃ a vs, x = .ref a ∧ SqT g.K w.H a vs ∧ Dens g w xs vs
  | .lst xs, x => ∃ a vs, x = .ref a ∧ ¬ w.B a ∧ w.H a = some (.lst vs) ∧ Dens g w xs vs
  | .scr ns, x => ∃ a, x = .ref a ∧ ((∃ o, w.H a = some (.frz o (.lst (ns.map V.int)))) ∨ KLst g.K a (ns.map V.int))
  | .dct ks vs, x => ∃ a kvs, x = .ref a ∧ ¬ w.B a ∧ Rd w.H a (.dK kvs) ∧ Keys ks (kvs.map (·.1)) ∧ Dens g w vs (kvs.map (·.2))
  | .ins c as vs, x => ∃ a dx fs, x = .ref a ∧ ¬ w.B a ∧ w.H a = some (.ins (g.cls c) dx fs) ∧ fs.map (·.1) = as.map dec ∧ Dens g w vs (fs.map (·.2))
  | .gd d, x => x = .ref (g.gda d)
  | .exn c as vs, x => ∃ a d fs, x = .ref a ∧ w.H a = some (ExD (g.cls c) d a) ∧ w.H d = some (.xd fs) ∧ fs.map (·.1) = as.map dec ∧ Dens g w vs (fs.map (·.2))
  | .ref i, x => ∃ a, x = .ref a ∧ w.ρ[i]? = some a
def Dens (g : Gx) (w : Wd) : List PV → List V → Prop
  | [], vs => vs = []
  | x :: xs, vs => ∃ v r, vs = v :: r ∧ Den g w x v ∧ Dens g w xs r
end
def DenO (g : Gx) (w : Wd) (o : MO) (h : Option HO) : Prop := match o with
  | .lst xs => ∃ vs, h = some (.lst vs) ∧ Dens g w xs vs
  | .dct ks vs => ∃ kvs, h = some (.dK kvs) ∧ Keys ks (kvs.map (·.1)) ∧ Dens g w vs (kvs.map (·.2))
  | .ins c as vs => ∃ dx fs, h = some (.ins (g.cls c) dx fs) ∧ fs.map (·.1) = as.map dec ∧ Dens g w vs (fs.map (·.2))
/-- what may change is a list, a dict, an instance -/
def Kind (h : Option HO) : Prop := match h with
  | some (.lst _) => True
  | some (.dK _) => True
  | some (.ins _ _ _) => True
  | _ => False
structure Rel (g : Gx) (b : Nat) (w : Wd) : Prop where
  len : w.ρ.length = w.μ.length
  blen : b ≤ w.μ.length
  nd : w.ρ.Nodup
  nz : ∀ a ∈ w.ρ, ¬ w.Z a
  tr : ∀ a ∈ w.ρ, w.H a ≠ none
  zk : ∀ a, w.Z a → Kind (w.H a)
  obj : ∀ (i : Nat) (o : MO) (a : Addr), w.μ[i]? = some (some o) → w.ρ[i]? = some a → DenO g w o (w.H a)
def MO.refLt (b : Nat) : MO → Bool
  | .lst xs => PV.refsLt b xs
  | .dct ks vs => PV.refsLt b ks && PV.refsLt b vs
  | .ins _ _ vs => PV.refsLt b vs
/-- a dict that stays may come to be locked -/
def isDK : HO → Bool
  | .dK _ => true
  | _ => false
def Kp (h : Option HO) (o : HO) : Prop := h = some o ∨ ∃ od, isDK o = true ∧ h = some (.frz od o)
structure Lk (w w' : Wd) : Prop where
  pre : w.ρ <+: w'.ρ
  keepf : ∀ a o, w.H a = some o → ¬ w.B a → Kp (w'.H a) o ∧ ¬ w'.B a
structure Le (b : Nat) (w w' : Wd) : Prop extends Lk w w' where
  z : w'.Z = w.Z
  zkeep : ∀ a, w.Z a → w'.H a = w.H a
  old : ∀ (i : Nat) (o' : MO), i < b → w'.μ[i]? = some (some o') → ∃ o, w.μ[i]? = some (some o) ∧ ∀ k, o.refLt k = true → o'.refLt k = true

theorem Lk.keep {w w' : Wd} (L : Lk w w') (a : Addr) (o : HO) (h : w.H a = some o) (n : ¬ w.B a) (k : isDK o = false := by rfl) : w'.H a = some o ∧ ¬ w'.B a := by
  obtain ⟨q, n'⟩ := L.keepf a o h n
  rcases q with q | ⟨od, q, _⟩
  · exact ⟨q, n'⟩
  · rw [k] at q; cases q
theorem Kp.refl {h : Option HO} {o : HO} (e : h = some o) : Kp h o := .inl e
theorem DenO.kind {g : Gx} {w : Wd} {o : MO} {h : Option HO} (d : DenO g w o h) : Kind h := by
  cases o with
  | lst xs => obtain ⟨vs, rfl, _⟩ := d; trivial
  | dct ks vs => obtain ⟨kvs, rfl, _⟩ := d; trivial
  | ins c as vs => obtain ⟨dx, fs, rfl, _⟩ := d; trivial
theorem Rel.kind {g : Gx} {b : Nat} {w : Wd} (R : Rel g b w) {a : Addr} (h : w.B a) : Kind (w.H a) := by
  rcases h with h | ⟨i, o, h1, h2⟩
  · exact R.zk a h
  · exact (R.obj i o a h1 h2).kind
theorem Rel.nb {g : Gx} {b : Nat} {w : Wd} (R : Rel g b w) {a : Addr} {o : HO} (h : w.H a = some o) (k : ¬ Kind (some o)) : ¬ w.B a := fun q => k (h ▸ R.kind q)

theorem Le.refl (b : Nat) (w : Wd) : Le b w w := ⟨⟨List.prefix_refl _, fun _ _ h n => ⟨.inl h, n⟩⟩, rfl, fun _ _ => rfl, fun i o _ h => ⟨o, h, fun _ h => h⟩⟩
theorem Le.trans {b : Nat} {w w1 w2 : Wd} (x : Le b w w1) (y : Le b w1 w2) : Le b w w2 where
  z := y.z.trans x.z
  pre := x.pre.trans y.pre
  keepf := fun a o h n => by
    obtain ⟨h1, n1⟩ := x.keepf a o h n
    rcases h1 with h1 | ⟨od, k, h1⟩
    · exact y.keepf a o h1 n1
    · obtain ⟨h2, n2⟩ := y.keep a _ h1 n1
      exact ⟨.inr ⟨od, k, h2⟩, n2⟩
  zkeep := fun a h => (y.zkeep a (by rw [x.z]; exact h)).trans (x.zkeep a h)
  old := fun i o' hi h => by
    obtain ⟨o1, h1, m1⟩ := y.old i o' hi h
    obtain ⟨o2, h2, m2⟩ := x.old i o1 hi h1
    exact ⟨o2, h2, fun k q => m1 k (m2 k q)⟩
theorem Le.low {b c : Nat} {w w' : Wd} (h : b ≤ c) (x : Le c w w') : Le b w w' := ⟨x.toLk, x.z, x.zkeep, fun i o' hi q => x.old i o' (Nat.lt_of_lt_of_le hi h) q⟩

section
variable {g : Gx} {b c : Nat} {w w' : Wd}
theorem rd_keep (R : Rel g b w) (L : Lk w w') {a : Addr} {u : HO} (n : ¬ w.B a) (h : Rd w.H a u) : Rd w'.H a u ∧ ¬ w'.B a := by
  rcases h with h | ⟨o, h⟩
  · obtain ⟨q, n'⟩ := L.keepf _ _ h n
    rcases q with q | ⟨od, _, q⟩
    · exact ⟨.inl q, n'⟩
    · exact ⟨.inr ⟨od, q⟩, n'⟩
  · exact ⟨.inr ⟨o, (L.keep _ _ h n).1⟩, (L.keep _ _ h n).2⟩
theorem sqT_keep (R : Rel g b w) (L : Lk w w') {a : Addr} {xs : List V} (h : SqT g.K w.H a xs) : SqT g.K w'.H a xs := by
  rcases h with (h | ⟨o, h⟩) | h
  · exact .inl (.inl (L.keep _ _ h (R.nb h (fun z => z))).1)
  · exact .inl (.inr ⟨o, (L.keep _ _ h (R.nb h (fun z => z))).1⟩)
  · exact .inr h
theorem pre_get {α : Type} {l l' : List α} (h : l <+: l') {i : Nat} {a : α} (e : l[i]? = some a) : l'[i]? = some a := by
  obtain ⟨r, rfl⟩ := h
  have hi := (List.getElem?_eq_some_iff.mp e).1
  rw [List.getElem?_append_left hi]
  exact e
mutual
theorem Den.mono0 (R : Rel g b w) (L : Lk w w') : ∀ (v : PV) (x : V), Den g w v x → Den g w' v x
  | .non, _, h => by simpa only [Den] using h
  | .bl _, _, h => by simpa only [Den] using h
  | .int _, _, h => by simpa only [Den] using h
  | .str _, _, h => by simpa only [Den] using h
  | .tup xs, _, h => by
    simp only [Den] at h ⊢
    obtain ⟨a, vs, e, s, d⟩ := h
    exact ⟨a, vs, e, sqT_keep R L s, Dens.mono0 R L xs vs d⟩
  | .lst xs, _, h => by
    simp only [Den] at h ⊢
    obtain ⟨a, vs, e, n, s, d⟩ := h
    exact ⟨a, vs, e, (L.keep _ _ s n).2, (L.keep _ _ s n).1, Dens.mono0 R L xs vs d⟩
  | .scr xs, _, h => by
    simp only [Den] at h ⊢
    obtain ⟨a, e, s⟩ := h
    refine ⟨a, e, ?_⟩
    rcases s with ⟨o, s⟩ | s
    · exact .inl ⟨o, (L.keep _ _ s (R.nb s (fun z => z))).1⟩
    · exact .inr s
  | .dct ks vs, _, h => by
    simp only [Den] at h ⊢
    obtain ⟨a, kvs, e, n, s, q, d⟩ := h
    exact ⟨a, kvs, e, (rd_keep R L n s).2, (rd_keep R L n s).1, q, Dens.mono0 R L vs _ d⟩
  | .ins c as vs, _, h => by
    simp only [Den] at h ⊢
    obtain ⟨a, dx, fs, e, n, s, q, d⟩ := h
    exact ⟨a, dx, fs, e, (L.keep _ _ s n).2, (L.keep _ _ s n).1, q, Dens.mono0 R L vs _ d⟩
  | .gd _, _, h => by simpa only [Den] using h
  | .exn c as vs, _, h => by
    simp only [Den] at h ⊢
    obtain ⟨a, dx, fs, e, s1, s2, q, d⟩ := h
    exact ⟨a, dx, fs, e, (L.keep _ _ s1 (R.nb s1 (fun z => z))).1, (L.keep _ _ s2 (R.nb s2 (fun z => z))).1, q, Dens.mono0 R L vs _ d⟩
  | .ref i, _, h => by
    simp only [Den] at h ⊢
    obtain ⟨a, e, q⟩ := h
    exact ⟨a, e, pre_get L.pre q⟩
theorem Dens.mono0 (R : Rel g b w) (L : Lk w w') : ∀ (vs : List PV) (xs : List V), Dens g w vs xs → Dens g w' vs xs
  | [], _, h => by simpa only [Dens] using h
  | v :: vs, _, h => by
    simp only [Dens] at h ⊢
    obtain ⟨x, r, e, d, q⟩ := h
    exact ⟨x, r, e, Den.mono0 R L v x d, Dens.mono0 R L vs r q⟩
end
theorem Den.mono (R : Rel g b w) (L : Le c w w') {v : PV} {x : V} (d : Den g w v x) : Den g w' v x := Den.mono0 R L.toLk v x d
theorem Dens.mono (R : Rel g b w) (L : Le c w w') {v : List PV} {x : List V} (d : Dens g w v x) : Dens g w' v x := Dens.mono0 R L.toLk v x d
end

section
variable {g : Gx} {b c : Nat} {w w' : Wd}
theorem DenO.mono (R : Rel g b w) (L : Le c w w') {o : MO} {h : Option HO} (d : DenO g w o h) : DenO g w' o h := by
  cases o with
  | lst xs => obtain ⟨vs, e, d⟩ := d; exact ⟨vs, e, d.mono R L⟩
  | dct ks vs => obtain ⟨kvs, e, q, d⟩ := d; exact ⟨kvs, e, q, d.mono R L⟩
  | ins c as vs => obtain ⟨dx, fs, e, q, d⟩ := d; exact ⟨dx, fs, e, q, d.mono R L⟩
theorem Dens.length : ∀ {vs : List PV} {xs : List V}, Dens g w vs xs → vs.length = xs.length
  | [], _, h => by simp only [Dens] at h; subst h; rfl
  | v :: vs, _, h => by
    simp only [Dens] at h
    obtain ⟨x, r, e, d, q⟩ := h
    subst e
    simp only [List.length_cons, q.length]
theorem Dens.nil : Dens g w [] [] := by simp only [Dens]
theorem Dens.cons {v : PV} {x : V} {vs : List PV} {xs : List V} (h : Den g w v x) (r : Dens g w vs xs) : Dens g w (v :: vs) (x :: xs) := by
  simp only [Dens]; exact ⟨x, xs, rfl, h, r⟩
theorem Dens.of_cons {v : PV} {x : V} {vs : List PV} {xs : List V} (h : Dens g w (v :: vs) (x :: xs)) : Den g w v x ∧ Dens g w vs xs := by
  simp only [Dens] at h
  obtain ⟨y, r, e, d, q⟩ := h
  cases e
  exact ⟨d, q⟩
theorem Dens.inv_cons {v : PV} {vs : List PV} {xs : List V} (h : Dens g w (v :: vs) xs) : ∃ x r, xs = x :: r ∧ Den g w v x ∧ Dens g w vs r := by
  simpa only [Dens] using h
theorem Dens.inv_nil {xs : List V} (h : Dens g w [] xs) : xs = [] := by simpa only [Dens] using h
theorem Dens.append : ∀ {vs ws : List PV} {xs ys : List V}, Dens g w vs xs → Dens g w ws ys → Dens g w (vs ++ ws) (xs ++ ys)
  | [], _, _, _, h, r => by cases h.inv_nil; exact r
  | v :: vs, _, _, _, h, r => by
    obtain ⟨x, r', rfl, d, q⟩ := h.inv_cons
    exact .cons d (Dens.append q r)
theorem Dens.get : ∀ {vs : List PV} {xs : List V} {i : Nat} {v : PV}, Dens g w vs xs → vs[i]? = some v → ∃ x, xs[i]? = some x ∧ Den g w v x
  | [], _, _, _, _, e => by simp at e
  | u :: vs, _, 0, v, h, e => by
    obtain ⟨x, r', rfl, d, q⟩ := h.inv_cons
    simp at e
    subst e
    exact ⟨x, rfl, d⟩
  | u :: vs, _, i + 1, v, h, e => by
    obtain ⟨x, r', rfl, d, q⟩ := h.inv_cons
    obtain ⟨y, h1, h2⟩ := Dens.get (i := i) q (by simpa using e)
    exact ⟨y, by simpa using h1, h2⟩
theorem Dens.take : ∀ {vs : List PV} {xs : List V} (n : Nat), Dens g w vs xs → Dens g w (vs.take n) (xs.take n)
  | _, _, 0, _ => by simp only [List.take_zero]; exact .nil
  | [], _, n + 1, h => by cases h.inv_nil; simp only [List.take_nil]; exact .nil
  | v :: vs, _, n + 1, h => by
    obtain ⟨x, r', rfl, d, q⟩ := h.inv_cons
    simp only [List.take_succ_cons]
    exact .cons d (q.take n)
theorem Dens.drop : ∀ {vs : List PV} {xs : List V} (n : Nat), Dens g w vs xs → Dens g w (vs.drop n) (xs.drop n)
  | _, _, 0, h => by simpa only [List.drop_zero] using h
  | [], _, n + 1, h => by cases h.inv_nil; simp only [List.drop_nil]; exact .nil
  | v :: vs, _, n + 1, h => by
    obtain ⟨x, r', rfl, d, q⟩ := h.inv_cons
    simp only [List.drop_succ_cons]
    exact q.drop n
theorem Dens.set : ∀ {vs : List PV} {xs : List V} (i : Nat) {v : PV} {x : V}, Dens g w vs xs → Den g w v x → Dens g w (vs.set i v) (xs.set i x)
  | [], _, _, _, _, h, _ => by cases h.inv_nil; simp only [List.set_nil]; exact .nil
  | u :: vs, _, 0, v, x, h, d => by
    obtain ⟨y, r', rfl, _, q⟩ := h.inv_cons
    exact .cons d q
  | u :: vs, _, i + 1, v, x, h, d => by
    obtain ⟨y, r', rfl, d', q⟩ := h.inv_cons
    exact .cons d' (q.set i d)
theorem Dens.eraseIdx : ∀ {vs : List PV} {xs : List V} (i : Nat), Dens g w vs xs → Dens g w (vs.eraseIdx i) (xs.eraseIdx i)
  | [], _, _, h => by cases h.inv_nil; exact .nil
  | u :: vs, _, 0, h => by
    obtain ⟨y, r', rfl, _, q⟩ := h.inv_cons
    exact q
  | u :: vs, _, i + 1, h => by
    obtain ⟨y, r', rfl, d, q⟩ := h.inv_cons
    exact .cons d (q.eraseIdx i)
theorem Dens.dropLast : ∀ {vs : List PV} {xs : List V}, Dens g w vs xs → Dens g w vs.dropLast xs.dropLast := fun {vs xs} h => by
  rw [List.dropLast_eq_take, List.dropLast_eq_take, h.length]
  exact h.take _
theorem Dens.one {v : PV} {xs : List V} (h : Dens g w [v] xs) : ∃ x, xs = [x] ∧ Den g w v x := by
  obtain ⟨x, r, rfl, d, q⟩ := h.inv_cons
  cases q.inv_nil
  exact ⟨x, rfl, d⟩
theorem Dens.two {v u : PV} {xs : List V} (h : Dens g w [v, u] xs) : ∃ x y, xs = [x, y] ∧ Den g w v x ∧ Den g w u y := by
  obtain ⟨x, r, rfl, d, q⟩ := h.inv_cons
  obtain ⟨y, rfl, e⟩ := q.one
  exact ⟨x, y, rfl, d, e⟩

/-! ### locals -/
structure RelL (g : Gx) (w : Wd) (σp : Loc) (σ : St) : Prop where
  len : σp.length = σ.length
  get : ∀ (i : Nat) (v : PV), σp[i]? = some (some v) → ∃ x, σ[i]? = some (some x) ∧ Den g w v x
theorem RelL.mono {σp : Loc} {σ : St} (R : Rel g b w) (L : Le c w w') (h : RelL g w σp σ) : RelL g w' σp σ :=
  ⟨h.len, fun i v e => let ⟨x, h1, h2⟩ := h.get i v e; ⟨x, h1, h2.mono R L⟩⟩
theorem RelL.set {σp : Loc} {σ : St} {i : Nat} {v : PV} {x : V} (h : RelL g w σp σ) (d : Den g w v x) : RelL g w (σp.set i (some v)) (σ.set i (some x)) := by
  refine ⟨by simp [h.len], fun j u e => ?_⟩
  by_cases hj : i = j
  · subst hj
    by_cases hi : i < σp.length
    · rw [List.getElem?_set_self hi] at e
      cases e
      exact ⟨x, List.getElem?_set_self (h.len ▸ hi), d⟩
    · rw [List.getElem?_eq_none (by simpa using hi)] at e; cases e
  · rw [List.getElem?_set_ne hj] at e ⊢
    exact h.get j u e
theorem RelL.wipe1 {σp : Loc} {σ : St} {i : Nat} (h : RelL g w σp σ) : RelL g w (σp.set i none) (σ.set i none) := by
  refine ⟨by simp [h.len], fun j u e => ?_⟩
  by_cases hj : i = j
  · subst hj
    by_cases hi : i < σp.length
    · rw [List.getElem?_set_self hi] at e
      cases e
    · rw [List.getElem?_eq_none (by simpa using hi)] at e; cases e
  · rw [List.getElem?_set_ne hj] at e ⊢
    exact h.get j u e
theorem RelL.wipe {σp : Loc} {σ : St} (h : RelL g w σp σ) : ∀ is : List Nat, RelL g w (wipeP σp is) (wipe σ is)
  | [] => h
  | i :: is => (RelL.wipe h is).wipe1

theorem nodup_at {α : Type} : ∀ {l : List α} {i j : Nat} {a : α}, l.Nodup → l[i]? = some a → l[j]? = some a → i = j
  | [], _, _, _, _, h, _ => by simp at h
  | x :: l, 0, 0, _, _, _, _ => rfl
  | x :: l, 0, j + 1, a, nd, h1, h2 => by
    simp at h1
    subst h1
    exact absurd (List.mem_of_getElem? (by simpa using h2)) (List.nodup_cons.mp nd).1
  | x :: l, i + 1, 0, a, nd, h1, h2 => by
    simp at h2
    subst h2
    exact absurd (List.mem_of_getElem? (by simpa using h1)) (List.nodup_cons.mp nd).1
  | x :: l, i + 1, j + 1, a, nd, h1, h2 => congrArg (· + 1) (nodup_at (List.nodup_cons.mp nd).2 (by simpa using h1) (by simpa using h2))
/-! ### new objects -/
theorem Rel.freeNB (R : Rel g b w) {p : Addr} (h : w.H p = none) : ¬ w.B p := fun q => by
  have := R.kind q
  rw [h] at this
  exact this
/-- a new object that stays as it is -/
def Wd.put (w : Wd) (p : Addr) (o : HO) : Wd := { w with H := upd w.H p o }
theorem put_le {p : Addr} {o : HO} (R : Rel g b w) (h : w.H p = none) : Le c w (w.put p o) := by
  refine ⟨⟨List.prefix_refl _, fun a u e n => ⟨.inl ?_, n⟩⟩, rfl, fun a z => ?_, fun i o' _ q => ⟨o', q, fun _ r => r⟩⟩
  · show upd w.H p o a = some u
    rw [upd_ne (ne_of_none e h)]
    exact e
  · show upd w.H p o a = w.H a
    refine upd_ne fun e => ?_
    subst e
    exact R.freeNB h (.inl z)
theorem put_rel {p : Addr} {o : HO} (R : Rel g b w) (h : w.H p = none) : Rel g b (w.put p o) := by
  have L : Le b w (w.put p o) := put_le R h
  have ne : ∀ a, w.B a → a ≠ p := fun a q e => by subst e; exact R.freeNB h q
  refine ⟨R.len, R.blen, R.nd, R.nz, fun a ha => ?_, fun a z => ?_, fun i mo a h1 h2 => ?_⟩
  · show upd w.H p o a ≠ none
    unfold upd
    split
    · simp
    · exact R.tr a ha
  · show Kind (upd w.H p o a)
    rw [upd_ne (ne a (.inl z))]
    exact R.zk a z
  · show DenO g (w.put p o) mo (upd w.H p o a)
    rw [upd_ne (ne a (.inr ⟨i, mo, h1, h2⟩))]
    exact (R.obj i mo a h1 h2).mono R L
theorem put_nb {p : Addr} {o : HO} (R : Rel g b w) (h : w.H p = none) : ¬ (w.put p o).B p := R.freeNB h
/-- a new mutable object -/
def Wd.add (w : Wd) (p : Addr) (o : HO) (m : MO) : Wd := { w with H := upd w.H p o, ρ := w.ρ ++ [p], μ := w.μ ++ [some m] }
theorem add_B {p : Addr} {o : HO} {m : MO} (R : Rel g b w) {a : Addr} : (w.add p o m).B a ↔ (w.B a ∨ a = p) := by
  constructor
  · rintro (h | ⟨i, o', h1, h2⟩)
    · exact .inl (.inl h)
    · by_cases hi : i < w.μ.length
      · have e1 : w.μ[i]? = some (some o') := by
          have : (w.μ ++ [some m])[i]? = some (some o') := h1
          rwa [List.getElem?_append_left hi] at this
        have e2 : w.ρ[i]? = some a := by
          have : (w.ρ ++ [p])[i]? = some a := h2
          rwa [List.getElem?_append_left (by rw [R.len]; exact hi)] at this
        exact .inl (.inr ⟨i, o', e1, e2⟩)
      · have e2 : (w.ρ ++ [p])[i]? = some a := h2
        rw [List.getElem?_append_right (by rw [R.len]; omega)] at e2
        have : i - w.ρ.length = 0 := by
          have := (List.getElem?_eq_some_iff.mp e2).1
          simp at this
          omega
        rw [this] at e2
        simp at e2
        exact .inr e2.symm
  · rintro ((h | ⟨i, o', h1, h2⟩) | rfl)
    · exact .inl h
    · refine .inr ⟨i, o', ?_, ?_⟩
      · show (w.μ ++ [some m])[i]? = _
        rw [List.getElem?_append_left (List.getElem?_eq_some_iff.mp h1).1]
        exact h1
      · show (w.ρ ++ [p])[i]? = _
        rw [List.getElem?_append_left (List.getElem?_eq_some_iff.mp h2).1]
        exact h2
    · refine .inr ⟨w.μ.length, m, ?_, ?_⟩
      · show (w.μ ++ [some m])[w.μ.length]? = _
        simp
      · show (w.ρ ++ [a])[w.μ.length]? = _
        rw [← R.len]
        simp
theorem add_le {p : Addr} {o : HO} {m : MO} (R : Rel g b w) (hb : c ≤ w.μ.length) (h : w.H p = none) : Le c w (w.add p o m) := by
  refine ⟨⟨List.prefix_append _ _, fun a u e n => ⟨.inl ?_, fun q => ?_⟩⟩, rfl, fun a z => ?_, fun i o' hi q => ⟨o', ?_, fun _ r => r⟩⟩
  · show upd w.H p o a = some u
    rw [upd_ne (ne_of_none e h)]
    exact e
  · rcases (add_B R).mp q with q | q
    · exact n q
    · exact ne_of_none e h q
  · show upd w.H p o a = w.H a
    refine upd_ne fun e => ?_
    subst e
    exact R.freeNB h (.inl z)
  · have : (w.μ ++ [some m])[i]? = some (some o') := q
    rwa [List.getElem?_append_left (by omega)] at this
theorem add_rel {p : Addr} {o : HO} {m : MO} (R : Rel g b w) (h : w.H p = none) (d : DenO g (w.add p o m) m (some o)) : Rel g b (w.add p o m) := by
  have L : Le b w (w.add p o m) := add_le R R.blen h
  have ne : ∀ a, w.B a → a ≠ p := fun a q e => by subst e; exact R.freeNB h q
  have np : p ∉ w.ρ := fun q => R.tr p q h
  refine ⟨?_, ?_, ?_, fun a ha z => ?_, fun a ha => ?_, fun a z => ?_, fun i mo a h1 h2 => ?_⟩
  · show (w.ρ ++ [p]).length = (w.μ ++ [some m]).length
    simp [R.len]
  · show b ≤ (w.μ ++ [some m]).length
    have := R.blen
    simp
    omega
  · show (w.ρ ++ [p]).Nodup
    rw [List.nodup_append]
    exact ⟨R.nd, by simp, fun a ha c hc e => by simp at hc; subst hc; subst e; exact np ha⟩
  · have ha : a ∈ w.ρ ++ [p] := ha
    rcases List.mem_append.mp ha with ha | ha
    · exact R.nz a ha z
    · simp at ha
      subst ha
      exact R.freeNB h (.inl z)
  · show upd w.H p o a ≠ none
    have ha : a ∈ w.ρ ++ [p] := ha
    unfold upd
    split
    · simp
    · rename_i hne
      rcases List.mem_append.mp ha with ha | ha
      · exact R.tr a ha
      · simp at ha
        exact absurd ha hne
  · show Kind (upd w.H p o a)
    rw [upd_ne (ne a (.inl z))]
    exact R.zk a z
  · show DenO g (w.add p o m) mo (upd w.H p o a)
    by_cases hi : i < w.μ.length
    · have e1 : w.μ[i]? = some (some mo) := by
        have : (w.μ ++ [some m])[i]? = some (some mo) := h1
        rwa [List.getElem?_append_left hi] at this
      have e2 : w.ρ[i]? = some a := by
        have : (w.ρ ++ [p])[i]? = some a := h2
        rwa [List.getElem?_append_left (by rw [R.len]; exact hi)] at this
      rw [upd_ne (ne a (.inr ⟨i, mo, e1, e2⟩))]
      exact (R.obj i mo a e1 e2).mono R L
    · have e1 : (w.μ ++ [some m])[i]? = some (some mo) := h1
      have hi' : i = w.μ.length := by
        have := (List.getElem?_eq_some_iff.mp e1).1
        simp at this
        omega
      subst hi'
      have e2 : (w.ρ ++ [p])[w.μ.length]? = some a := h2
      simp at e1
      rw [← R.len] at e2
      simp at e2
      subst e1 e2
      rw [upd_same]
      exact d
/-- a mutable object is changed -/
def Wd.wr (w : Wd) (i : Nat) (a : Addr) (o : HO) (m : MO) : Wd := { w with H := upd w.H a o, μ := w.μ.set i (some m) }
theorem wr_B {i : Nat} {p : Addr} {o : HO} {m m0 : MO} (h1 : w.μ[i]? = some (some m0)) {a : Addr} : (w.wr i p o m).B a ↔ w.B a := by
  have hi : i < w.μ.length := (List.getElem?_eq_some_iff.mp h1).1
  constructor
  · rintro (h | ⟨j, o', e1, e2⟩)
    · exact .inl h
    · by_cases hj : i = j
      · subst hj
        exact .inr ⟨i, m0, h1, e2⟩
      · have e1 : (w.μ.set i (some m))[j]? = some (some o') := e1
        rw [List.getElem?_set_ne hj] at e1
        exact .inr ⟨j, o', e1, e2⟩
  · rintro (h | ⟨j, o', e1, e2⟩)
    · exact .inl h
    · by_cases hj : i = j
      · subst hj
        exact .inr ⟨i, m, List.getElem?_set_self hi, e2⟩
      · refine .inr ⟨j, o', ?_, e2⟩
        show (w.μ.set i (some m))[j]? = _
        rw [List.getElem?_set_ne hj]
        exact e1
theorem wr_le {i : Nat} {p : Addr} {o : HO} {m m0 : MO} (R : Rel g b w) (h1 : w.μ[i]? = some (some m0)) (h2 : w.ρ[i]? = some p) (hm : i < c → ∀ k, m0.refLt k = true → m.refLt k = true) : Le c w (w.wr i p o m) := by
  have Bp : w.B p := .inr ⟨i, m0, h1, h2⟩
  have hi : i < w.μ.length := (List.getElem?_eq_some_iff.mp h1).1
  refine ⟨⟨List.prefix_refl _, fun a u e n => ⟨.inl ?_, fun q => n ((wr_B h1).mp q)⟩⟩, rfl, fun a z => ?_, fun j o' hj q => ?_⟩
  · show upd w.H p o a = some u
    rw [upd_ne (fun e => by subst e; exact n Bp)]
    exact e
  · show upd w.H p o a = w.H a
    refine upd_ne fun e => ?_
    subst e
    exact R.nz a (List.mem_of_getElem? h2) z
  · have q : (w.μ.set i (some m))[j]? = some (some o') := q
    by_cases hj' : i = j
    · subst hj'
      rw [List.getElem?_set_self hi] at q
      cases q
      exact ⟨m0, h1, hm hj⟩
    · rw [List.getElem?_set_ne hj'] at q
      exact ⟨o', q, fun _ r => r⟩
theorem wr_rel {i : Nat} {p : Addr} {o : HO} {m m0 : MO} (R : Rel g b w) (h1 : w.μ[i]? = some (some m0)) (h2 : w.ρ[i]? = some p) (L : Le b w (w.wr i p o m)) (k : Kind (some o)) (d : DenO g (w.wr i p o m) m (some o)) : Rel g b (w.wr i p o m) := by
  have hi : i < w.μ.length := (List.getElem?_eq_some_iff.mp h1).1
  refine ⟨?_, ?_, R.nd, R.nz, fun a ha => ?_, fun a z => ?_, fun j mo a e1 e2 => ?_⟩
  · show w.ρ.length = (w.μ.set i (some m)).length
    simp [R.len]
  · show b ≤ (w.μ.set i (some m)).length
    have := R.blen
    simpa using this
  · show upd w.H p o a ≠ none
    unfold upd
    split
    · simp
    · exact R.tr a ha
  · show Kind (upd w.H p o a)
    unfold upd
    split
    · exact k
    · exact R.zk a z
  · show DenO g (w.wr i p o m) mo (upd w.H p o a)
    have e1 : (w.μ.set i (some m))[j]? = some (some mo) := e1
    have e2 : w.ρ[j]? = some a := e2
    by_cases hj : i = j
    · subst hj
      rw [List.getElem?_set_self hi] at e1
      cases e1
      rw [h2] at e2
      cases e2
      rw [upd_same]
      exact d
    · rw [List.getElem?_set_ne hj] at e1
      have ne : a ≠ p := fun e => by
        subst e
        exact hj (nodup_at R.nd h2 e2)
      rw [upd_ne ne]
      exact (R.obj j mo a e1 e2).mono R L
end
end Ev


set_option Elab.async false
set_option linter.all false
set_option maxRecDepth 100000
set_option maxHeartbeats 4000000
/-! The operations on values are the model's. -/
namespace Ev
open PySem L2
/-- what is wanted of an operation's result -/
def okR (g : Gx) (b : Nat) (w : Wd) (r : Option (PV × Sto)) (Q : VK) : Prop := match r with
  | some (v, μ') => ∀ (w' : Wd) (x : V), w'.μ = μ' → Le b w w' → Rel g b w' → Den g w' v x → Q x w'.H
  | none => False
section
variable {g : Gx} {b : Nat} {w : Wd} {Q : VK}
theorem okR.pure {v : PV} {x : V} (k : okR g b w (some (v, w.μ)) Q) (R : Rel g b w) (d : Den g w v x) : Q x w.H := k w x rfl (.refl b w) R d
theorem okR.int {i : Int} (k : okR g b w (some (.int i, w.μ)) Q) (R : Rel g b w) : Q (.int i) w.H := k.pure R (by simp only [Den])
theorem okR.bl {i : Bool} (k : okR g b w (some (.bl i, w.μ)) Q) (R : Rel g b w) : Q (.bl i) w.H := k.pure R (by simp only [Den])
theorem okR.non (k : okR g b w (some (.non, w.μ)) Q) (R : Rel g b w) : Q .non w.H := k.pure R (by simp only [Den])
theorem okR.str {s : Str} (k : okR g b w (some (.str s, w.μ)) Q) (R : Rel g b w) : Q (.str s) w.H := k.pure R (by simp only [Den])
theorem okR.tup {xs : List PV} {vs : List V} (k : okR g b w (some (.tup xs, w.μ)) Q) (R : Rel g b w) (d : Dens g w xs vs) (p : Addr) (h : w.H p = none) : Q (.ref p) (upd w.H p (.tup vs)) := by
  refine k (w.put p (.tup vs)) (.ref p) rfl (put_le R h) (put_rel R h) ?_
  simp only [Den]
  exact ⟨p, vs, rfl, .inl (.inl upd_same), d.mono R (put_le (c := b) R h)⟩
theorem okR.new {m : Bool} {xs : List PV} {vs : List V} (k : okR g b w (some (newL m xs w.μ)) Q) (R : Rel g b w) (d : Dens g w xs vs) (p : Addr) (h : w.H p = none) : Q (.ref p) (upd w.H p (.lst vs)) := by
  cases m with
  | false =>
    refine k (w.put p (.lst vs)) (.ref p) rfl (put_le R h) (put_rel R h) ?_
    simp only [Den]
    exact ⟨p, vs, rfl, put_nb R h, upd_same, d.mono R (put_le (c := b) R h)⟩
  | true =>
    have L : Le b w (w.add p (.lst vs) (.lst xs)) := add_le R R.blen h
    refine k (w.add p (.lst vs) (.lst xs)) (.ref p) rfl L (add_rel R h ⟨vs, rfl, d.mono R L⟩) ?_
    simp only [Den]
    refine ⟨p, rfl, ?_⟩
    show (w.ρ ++ [p])[w.μ.length]? = some p
    rw [← R.len]
    simp
/-! ### reading values -/
theorem listOf_ok {v : PV} {x : V} {xs : List PV} (R : Rel g b w) (d : Den g w v x) (e : listOf w.μ v = some xs) : ∃ a vs, x = .ref a ∧ w.H a = some (.lst vs) ∧ Dens g w xs vs := by
  cases v with
  | lst ys =>
    simp only [listOf, Option.some.injEq] at e
    subst e
    simp only [Den] at d
    obtain ⟨a, vs, e, _, h, q⟩ := d
    exact ⟨a, vs, e, h, q⟩
  | ref i =>
    simp only [listOf] at e
    simp only [Den] at d
    obtain ⟨a, rfl, hr⟩ := d
    split at e
    · rename_i ys hm
      cases e
      obtain ⟨vs, h, q⟩ := R.obj i _ a hm hr
      exact ⟨a, vs, rfl, h, q⟩
    · cases e
  | _ => simp [listOf] at e
theorem dictOf_ok {v : PV} {x : V} {kv : List PV × List PV} (R : Rel g b w) (d : Den g w v x) (e : dictOf w.μ v = some kv) : ∃ a kvs, x = .ref a ∧ Rd w.H a (.dK kvs) ∧ Keys kv.1 (kvs.map (·.1)) ∧ Dens g w kv.2 (kvs.map (·.2)) := by
  cases v with
  | dct ks vs =>
    simp only [dictOf, Option.some.injEq] at e
    subst e
    simp only [Den] at d
    obtain ⟨a, kvs, e, _, h, q1, q2⟩ := d
    exact ⟨a, kvs, e, h, q1, q2⟩
  | ref i =>
    simp only [dictOf] at e
    simp only [Den] at d
    obtain ⟨a, rfl, hr⟩ := d
    split at e
    · rename_i ys zs hm
      cases e
      obtain ⟨kvs, h, q1, q2⟩ := R.obj i _ a hm hr
      exact ⟨a, kvs, rfl, .inl h, q1, q2⟩
    · cases e
  | _ => simp [dictOf] at e
theorem insOf_ok {v : PV} {x : V} {r : Nat × List Nat × List PV} (R : Rel g b w) (d : Den g w v x) (e : insOf w.μ v = some r) : ∃ a dx fs, x = .ref a ∧ w.H a = some (.ins (g.cls r.1) dx fs) ∧ fs.map (·.1) = r.2.1.map dec ∧ Dens g w r.2.2 (fs.map (·.2)) := by
  cases v with
  | ins c as vs =>
    simp only [insOf, Option.some.injEq] at e
    subst e
    simp only [Den] at d
    obtain ⟨a, dx, fs, e, _, h, q1, q2⟩ := d
    exact ⟨a, dx, fs, e, h, q1, q2⟩
  | ref i =>
    simp only [insOf] at e
    simp only [Den] at d
    obtain ⟨a, rfl, hr⟩ := d
    split at e
    · rename_i c as vs hm
      cases e
      obtain ⟨dx, fs, h, q1, q2⟩ := R.obj i _ a hm hr
      exact ⟨a, dx, fs, rfl, h, q1, q2⟩
    · cases e
  | _ => simp [insOf] at e

/-! ### operators -/
abbrev mulC : Int → Int → Prop := CMul
def rOp (K : PySem.W.Frag) : Op2 → R2
  | .add => fun x y H Q => (rI0 (fun i j => .int (i + j)) x y H Q ∨ (∃ i j, x = .str i ∧ y = .str j ∧ i.length + j.length ≤ sizeLine ∧ Q (.str (i ++ j)) H)) ∨ (rCatA K x y H Q ∨ rCat x y H Q)
  | .sub => rI0 fun i j => .int (i - j)
  | .mul => fun x y H Q => rI CMul (fun i j => .int (i * j)) x y H Q ∨ rRep x y H Q
  | .fdiv => rI CDiv fun i j => .int (i / j)
  | .mod => rI (fun _ j => 0 < j) fun i j => .int (i % j)
  | .pow => rI CPow fun i j => .int (i ^ j.toNat)
def opr : Op2 → Operator
  | .add => .Add | .sub => .Sub | .mul => .Mult | .fdiv => .FloorDiv | .mod => .Mod | .pow => .Pow
theorem rOp_ok {X : Cx} : ∀ o : Op2, OpR X (binaryOp (opr o)) (rOp X.K o)
  | .add => (op_add.or op_add_str).or (op_catA.or op_cat)
  | .sub => op_sub
  | .mul => op_mul.or op_rep
  | .fdiv => op_fdiv
  | .mod => op_mod
  | .pow => op_pow
theorem line_eq : line = sizeLine := by rw [sizeLine_eq]; rfl
theorem Dens.rep {xs : List PV} {vs : List V} (h : Dens g w xs vs) : ∀ k : Nat, Dens g w (List.replicate k xs).flatten (List.replicate k vs).flatten
  | 0 => .nil
  | k + 1 => by
    simp only [List.replicate_succ, List.flatten_cons]
    exact h.append (Dens.rep h k)
theorem small64_ok {i : Int} (h : small64 i = true) : -(2 ^ 64) < i ∧ i < 2 ^ 64 := by
  simp only [small64, Bool.and_eq_true, decide_eq_true_eq] at h
  exact h
theorem Dens.nil_iff {xs : List PV} {vs : List V} (h : Dens g w xs vs) : xs = [] ↔ vs = [] := by
  cases xs with
  | nil => cases h.inv_nil; simp
  | cons a r => obtain ⟨x, r', rfl, _⟩ := h.inv_cons; simp
theorem op2_list {K : PySem.W.Frag} {m : Bool} {x y : PV} {vx vy : V} (R : Rel g b w) (dx : Den g w x vx) (dy : Den g w y vy)
    (k : okR g b w ((listOf w.μ x).bind fun xs => (listOf w.μ y).bind fun ys => if xs.length + ys.length ≤ line then some (newL m (xs ++ ys) w.μ) else none) Q) : rCat vx vy w.H Q := by
  cases ex : listOf w.μ x with
  | none => rw [ex] at k; exact k.elim
  | some xs =>
    cases ey : listOf w.μ y with
    | none => rw [ex, ey] at k; exact k.elim
    | some ys =>
      rw [ex, ey] at k
      simp only [Option.bind_some] at k
      split at k
      · rename_i hz
        obtain ⟨a, vs, rfl, ha, da⟩ := listOf_ok R dx ex
        obtain ⟨c, us, rfl, hc, dc⟩ := listOf_ok R dy ey
        refine ⟨a, c, vs, us, rfl, rfl, ha, hc, ?_, fun p hp => k.new R (da.append dc) p hp⟩
        rw [← da.length, ← dc.length, ← line_eq]
        exact hz
      · exact k.elim
theorem op2_rep {m : Bool} {x : PV} {vx : V} {n : Int} (R : Rel g b w) (dx : Den g w x vx)
    (k : okR g b w ((listOf w.μ x).bind fun xs => if decide (-(2 ^ 63) ≤ n) && (decide (n < 2 ^ 63) && decide (xs.length * n.toNat ≤ line)) then some (newL m (List.replicate n.toNat xs).flatten w.μ) else none) Q) : rRep vx (.int n) w.H Q := by
  cases ex : listOf w.μ x with
  | none => rw [ex] at k; exact k.elim
  | some xs =>
    rw [ex] at k
    simp only [Option.bind_some] at k
    split at k
    · rename_i hz
      simp only [Bool.and_eq_true, decide_eq_true_eq] at hz
      obtain ⟨a, vs, rfl, ha, da⟩ := listOf_ok R dx ex
      refine ⟨a, n, vs, rfl, rfl, ha, hz.1, hz.2.1, ?_, fun p hp => k.new R (da.rep _) p hp⟩
      rw [← da.length, ← line_eq]
      exact hz.2.2
    · exact k.elim
theorem op2_ok {K : PySem.W.Frag} (hK : g.K = K) {o : Op2} {m : Bool} {x y : PV} {vx vy : V} (R : Rel g b w) (dx : Den g w x vx) (dy : Den g w y vy) (k : okR g b w (op2 o m x y w.μ) Q) : rOp K o vx vy w.H Q := by
  subst hK
  unfold op2 at k
  split at k
  · simp only [Den] at dx dy; subst dx dy
    exact .inl (.inl ⟨_, _, rfl, rfl, k.int R⟩)
  · simp only [Den] at dx dy; subst dx dy
    exact ⟨_, _, rfl, rfl, k.int R⟩
  · simp only [Den] at dx dy; subst dx dy
    split at k
    · rename_i h
      refine .inl ⟨_, _, rfl, rfl, ?_, k.int R⟩
      rcases Bool.or_eq_true_iff.mp h with h | h
      · exact .inl (small64_ok h)
      · exact .inr (small64_ok h)
    · exact k.elim
  · simp only [Den] at dx dy; subst dx dy
    split at k
    · rename_i h
      simp only [Bool.and_eq_true, decide_eq_true_eq] at h
      exact ⟨_, _, rfl, rfl, h, k.int R⟩
    · exact k.elim
  · simp only [Den] at dx dy; subst dx dy
    split at k
    · rename_i h
      simp only [decide_eq_true_eq] at h
      exact ⟨_, _, rfl, rfl, h, k.int R⟩
    · exact k.elim
  · simp only [Den] at dx dy; subst dx dy
    split at k
    · rename_i h
      simp only [Bool.and_eq_true, decide_eq_true_eq] at h
      exact ⟨_, _, rfl, rfl, ⟨h.1, h.2.1, h.2.2⟩, k.int R⟩
    · exact k.elim
  · simp only [Den] at dx dy; subst dx dy
    split at k
    · rename_i h
      exact .inl (.inr ⟨_, _, rfl, rfl, by rw [← line_eq]; exact h, k.str R⟩)
    · exact k.elim
  · split at k
    · rename_i xs ys h
      have dx0 := dx
      have dy0 := dy
      simp only [Den] at dx dy
      obtain ⟨a, vs, rfl, ha, da⟩ := dx
      obtain ⟨c, us, rfl, hc, dc⟩ := dy
      refine .inr (.inl ⟨a, c, vs, us, rfl, rfl, ha, hc, ?_, fun e => ?_, fun _ e => ?_, fun _ _ p hp => k.tup R (da.append dc) p hp⟩)
      · rw [← da.length, ← dc.length, ← line_eq]; exact h
      · have := da.nil_iff.mpr e
        subst this
        exact k.pure R dy0
      · have := dc.nil_iff.mpr e
        subst this
        rw [List.append_nil] at k
        exact k.pure R dx0
    · exact k.elim
  · exact .inr (.inr (op2_list (K := g.K) R dx dy k))
  · simp only [Den] at dy; subst dy
    exact .inr (op2_rep R dx k)
  · exact k.elim
end
end Ev


set_option Elab.async false
set_option linter.all false
set_option maxRecDepth 100000
set_option maxHeartbeats 4000000
namespace Ev
open PySem L2
section
variable {g : Gx} {b : Nat} {w : Wd} {Q : VK}
/-! ### data -/
mutual
theorem dat0_ok (R : Rel g b w) : ∀ (v : PV) (x : V) (d : PyData), Den g w v x → v.dat0 = some d → Dp g.K w.H x d
  | .non, _, _, h, e => by simp only [Den] at h; simp only [PV.dat0, Option.some.injEq] at e; subst h e; exact .non
  | .bl c, _, _, h, e => by simp only [Den] at h; simp only [PV.dat0, Option.some.injEq] at e; subst h e; exact .bl c
  | .int i, _, _, h, e => by simp only [Den] at h; simp only [PV.dat0, Option.some.injEq] at e; subst h e; exact .int i
  | .str s, _, _, h, e => by simp only [Den] at h; simp only [PV.dat0, Option.some.injEq] at e; subst h e; exact .str s
  | .tup xs, _, _, h, e => by
    simp only [Den] at h
    obtain ⟨a, vs, rfl, s, d⟩ := h
    simp only [PV.dat0, Option.map_eq_some_iff] at e
    obtain ⟨ds, e1, rfl⟩ := e
    exact .tup s (dats0_ok R xs vs ds d e1)
  | .lst xs, _, _, h, e => by
    simp only [Den] at h
    obtain ⟨a, vs, rfl, n, s, d⟩ := h
    simp only [PV.dat0, Option.map_eq_some_iff] at e
    obtain ⟨ds, e1, rfl⟩ := e
    exact .lst (.of s) (dats0_ok R xs vs ds d e1)
  | .dct _ _, _, _, _, e => by simp [PV.dat0] at e
  | .ins _ _ _, _, _, _, e => by simp [PV.dat0] at e
  | .gd _, _, _, _, e => by simp [PV.dat0] at e
  | .scr _, _, _, _, e => by simp [PV.dat0] at e
  | .exn _ _ _, _, _, _, e => by simp [PV.dat0] at e
  | .ref _, _, _, _, e => by simp [PV.dat0] at e
theorem dats0_ok (R : Rel g b w) : ∀ (vs : List PV) (xs : List V) (ds : List PyData), Dens g w vs xs → PV.dats0 vs = some ds → DpAll g.K w.H xs ds
  | [], _, _, h, e => by cases h.inv_nil; simp only [PV.dats0, Option.some.injEq] at e; subst e; exact .nil
  | v :: vs, _, _, h, e => by
    obtain ⟨x, r, rfl, d, q⟩ := h.inv_cons
    simp only [PV.dats0, Option.bind_eq_some_iff, Option.map_eq_some_iff] at e
    obtain ⟨d1, e1, ds, e2, rfl⟩ := e
    exact .cons (dat0_ok R v x d1 d e1) (dats0_ok R vs r ds q e2)
end
theorem dat_ok (R : Rel g b w) {v : PV} {x : V} {d : PyData} (h : Den g w v x) (e : dat w.μ v = some d) : Dp g.K w.H x d := by
  unfold dat at e
  split at e
  · rename_i i
    simp only [Den] at h
    obtain ⟨a, rfl, hr⟩ := h
    split at e
    · rename_i xs hm
      simp only [Option.map_eq_some_iff] at e
      obtain ⟨ds, e1, rfl⟩ := e
      obtain ⟨vs, hv, q⟩ := R.obj i _ a hm hr
      exact .lst (.of hv) (dats0_ok R xs vs ds q e1)
    · cases e
  · exact dat0_ok R v x d h e
/-! ### keys -/
theorem keq_iff {k x : PV} {a c : Key} (h1 : keyV k = some a) (h2 : keyV x = some c) : PV.keq k x = decide (a = c) := by
  cases k <;> simp only [keyV, Option.some.injEq, reduceCtorEq] at h1 <;> cases x <;> simp only [keyV, Option.some.injEq, reduceCtorEq] at h2 <;> subst h1 <;> subst h2 <;> simp [PV.keq]
theorem isKey_of {k : PV} (h : PV.isKey k = true) : ∃ a, keyV k = some a := by
  cases k <;> simp [PV.isKey] at h <;> exact ⟨_, rfl⟩
theorem den_key {k : PV} {a : Key} {x : V} (h : keyV k = some a) (d : Den g w k x) : x = kV a := by
  cases k <;> simp only [keyV, Option.some.injEq, reduceCtorEq] at h <;> subst h <;> simp only [Den] at d <;> exact d
theorem look_ok : ∀ {ks vs : List PV} {kvs : List (Key × V)} {x : PV} {a : Key}, Keys ks (kvs.map (·.1)) → Dens g w vs (kvs.map (·.2)) → keyV x = some a →
    (match lookP ks vs x with
      | some v => ∃ y, valV kvs a = some y ∧ Den g w v y
      | none => valV kvs a = none)
  | [], vs, kvs, x, a, hk, hd, hx => by
    have e : kvs = [] := by
      simp only [Keys] at hk
      simpa using hk
    subst e
    cases vs <;> rfl
  | k :: ks, vs, kvs, x, a, hk, hd, hx => by
    simp only [Keys] at hk
    obtain ⟨c, s, e, hc, hr⟩ := hk
    cases kvs with
    | nil => cases e
    | cons p kvs =>
      simp only [List.map_cons, List.cons.injEq] at e
      obtain ⟨e1, e2⟩ := e
      subst e1 e2
      cases vs with
      | nil => cases hd.inv_nil
      | cons v vs =>
        have hd2 := Dens.of_cons (by simpa only [List.map_cons] using hd)
        show (match (if PV.keq k x then some v else lookP ks vs x) with
          | some v => ∃ y, valV (p :: kvs) a = some y ∧ Den g w v y
          | none => valV (p :: kvs) a = none)
        rw [keq_iff hc hx]
        by_cases q : p.1 = a
        · rw [decide_eq_true q]
          refine ⟨p.2, ?_, hd2.1⟩
          unfold valV
          rw [List.find?_cons_of_pos (by simpa using q)]
          rfl
        · rw [decide_eq_false q]
          have ih := look_ok hr hd2.2 hx
          have ev : valV (p :: kvs) a = valV kvs a := by
            unfold valV
            rw [List.find?_cons_of_neg (by simpa using q)]
          simp only [ev]
          simpa using ih
theorem has_ok : ∀ {ks : List PV} {kvs : List (Key × V)} {x : PV} {a : Key}, Keys ks (kvs.map (·.1)) → keyV x = some a → hasP ks x = (valV kvs a).isSome
  | [], kvs, x, a, hk, hx => by
    have e : kvs = [] := by
      simp only [Keys] at hk
      simpa using hk
    subst e
    rfl
  | k :: ks, kvs, x, a, hk, hx => by
    simp only [Keys] at hk
    obtain ⟨c, s, e, hc, hr⟩ := hk
    cases kvs with
    | nil => cases e
    | cons p kvs =>
      simp only [List.map_cons, List.cons.injEq] at e
      obtain ⟨e1, e2⟩ := e
      subst e1 e2
      show (PV.keq k x || hasP ks x) = _
      rw [keq_iff hc hx, has_ok hr hx]
      unfold valV
      by_cases q : p.1 = a
      · rw [decide_eq_true q, List.find?_cons_of_pos (by simpa using q)]
        rfl
      · rw [decide_eq_false q, List.find?_cons_of_neg (by simpa using q)]
        rfl
theorem flat_ok {v : PV} {x : V} (d : Den g w v x) (h : v.flat = true) : flatV x = true := by
  cases v <;> simp [PV.flat] at h <;> simp only [Den] at d <;> subst d <;> rfl
theorem flats_ok : ∀ {vs : List PV} {xs : List V}, Dens g w vs xs → vs.all PV.flat = true → xs.all flatV = true
  | [], _, d, _ => by cases d.inv_nil; rfl
  | v :: vs, _, d, h => by
    obtain ⟨x, r, rfl, d1, d2⟩ := d.inv_cons
    simp only [List.all_cons, Bool.and_eq_true] at h ⊢
    exact ⟨flat_ok d1 h.1, flats_ok d2 h.2⟩
theorem feq_ok {y x : PV} {vy vx : V} (d : Den g w y vy) (e : Den g w x vx) (h : y.flat = true) (k : x.flat = true) : PV.feq y x = eqV vy vx := by
  cases y <;> simp [PV.flat] at h <;> cases x <;> simp [PV.flat] at k <;> simp only [Den] at d e <;> subst d e <;> rfl
theorem in_ok : ∀ {ys : List PV} {vs : List V} {x : PV} {vx : V}, Dens g w ys vs → Den g w x vx → ys.all PV.flat = true → x.flat = true → inP x ys = inV vx vs
  | [], _, _, _, d, _, _, _ => by cases d.inv_nil; rfl
  | y :: ys, _, x, vx, d, e, h, k => by
    obtain ⟨vy, r, rfl, d1, d2⟩ := d.inv_cons
    simp only [List.all_cons, Bool.and_eq_true] at h
    unfold inP inV
    simp only [List.any_cons]
    rw [feq_ok d1 e h.1 k]
    exact congrArg _ (in_ok d2 e h.2 k)
end

/-! ### comparisons -/
/-- what is known of the module's dicts and classes -/
structure TOk (τ : Tab) (g : Gx) (w : World) : Prop where
  gd : ∀ d kv, τ.gds d = some kv → (∃ es n, KDict g.K w (g.gda d) es n) ∧ ∀ z : Str, ∃ r, PySem.W.nsIn g.K (g.gda d) z = some r ∧ hasP kv.1 (.str z) = r.isSome ∧
    ∀ v, lookP kv.1 kv.2 (.str z) = some v → ∃ u y, r = some u ∧ RelV y u ∧ ∀ wd : Wd, Den g wd v y
  cl : ∀ c, τ.sub c c = true → Cls g.K (g.cls c)
  noat : ∀ c f, τ.sub c c = true → τ.isA f = true → NoAttr g.K (g.cls c) (dec f)
  insT : ∀ c, τ.sub c c = true → ∀ (H : Hp) (a dx : Addr) (fs : List (Str × V)), H a = some (.ins (g.cls c) dx fs) → TyX g.K H (.ref a) (.ref (g.cls c))
  kcc : ∀ c d, τ.sub c c = true → τ.sub d d = true → PySem.W.kitOne g.K (.ref (g.cls c)) (.ref (g.cls d)) = some (τ.sub c d)
  kcb : ∀ c n, τ.sub c c = true → n ∈ ["int", "bool", "str", "tuple", "list", "dict"] → PySem.W.kitOne g.K (.ref (g.cls c)) (.type n) = some false
  xcc : ∀ c d, τ.exc c = true → τ.exc d = true → PySem.W.kitOne g.K (.ref (g.cls c)) (.ref (g.cls d)) = some (τ.xsub c d)
  xve : ∀ c, τ.exc c = true → PySem.W.kitOne g.K (.ref (g.cls c)) (.type "ValueError") = some true
  xbc : ∀ c n, τ.exc c = true → n ∈ ["NoneType", "int", "bool", "str", "tuple", "list", "dict"] → PySem.W.kitOne g.K (.type n) (.ref (g.cls c)) = some false
  xmo : ∀ c d, τ.exc c = true → τ.exc d = true → PySem.W.exmOne g.K (.ref (g.cls c)) (.ref (g.cls d)) = some (τ.xsub c d)
  exC : ∀ c, τ.exc c = true → ExcC g.K (g.cls c)
  xfC : ∀ c, τ.exc c = true → XfC g.K (g.cls c)
  xno : ∀ c f, τ.exc c = true → τ.isA f = true → NoAttr g.K (g.cls c) (dec f)
  kbc : ∀ c n, τ.sub c c = true → n ∈ ["NoneType", "int", "bool", "str", "tuple", "list", "dict"] → PySem.W.kitOne g.K (.type n) (.ref (g.cls c)) = some false
section
variable {X : Cx}
theorem op_din (hu : X.A.units + 1 < cLine) : OpR X (compareOp .In) (fun y x H Q => ∃ a o, x = .ref a ∧ DGet H a y o ∧ Q (.bl o.isSome) H) := by
  intro pins s σ H y x u v Q I ry rx h
  obtain ⟨a, o, rfl, dg, q⟩ := h
  cases rx
  exact d_in hu I dg ry fun s3 I3 => ⟨.bl o.isSome, H, I3, rfl, q⟩
theorem op_dnin (hu : X.A.units + 1 < cLine) : OpR X (compareOp .NotIn) (fun y x H Q => ∃ a o, x = .ref a ∧ DGet H a y o ∧ Q (.bl (!o.isSome)) H) := by
  intro pins s σ H y x u v Q I ry rx h
  obtain ⟨a, o, rfl, dg, q⟩ := h
  cases rx
  exact d_notIn hu I dg ry fun s3 I3 => ⟨.bl (!o.isSome), H, I3, rfl, q⟩
theorem op_inkd : OpR X (compareOp .In) (fun x y H Q => ∃ d es n, KDict X.K X.w d es n ∧ ∃ (z : Str) (r : Option Value), x = .str z ∧ y = .ref d ∧ PySem.W.nsIn X.K d z = some r ∧ Q (.bl r.isSome) H) := by
  intro pins s σ H x y v u Q I rx ry ⟨d, es, n, D, h⟩
  exact op_in_kd D pins s σ H x y v u Q I rx ry h
theorem op_ninkd : OpR X (compareOp .NotIn) (fun x y H Q => ∃ d es n, KDict X.K X.w d es n ∧ ∃ (z : Str) (r : Option Value), x = .str z ∧ y = .ref d ∧ PySem.W.nsIn X.K d z = some r ∧ Q (.bl (!r.isSome)) H) := by
  intro pins s σ H x y v u Q I rx ry ⟨d, es, n, D, h⟩
  exact op_notIn_kd D pins s σ H x y v u Q I rx ry h
end
def cpr : Cp → CmpOp
  | .eq => .Eq | .ne => .NotEq | .lt => .Lt | .le => .LtE | .gt => .Gt | .ge => .GtE | .is => .Is | .isn => .IsNot | .in_ => .In | .nin => .NotIn
def rCmp (X : Cx) : Cp → R2
  | .eq => rEqD X.K
  | .ne => rNeD X.K
  | .lt => rI0 fun i j => .bl (decide (i < j))
  | .le => rI0 fun i j => .bl (decide (i ≤ j))
  | .gt => rI0 fun i j => .bl (decide (j < i))
  | .ge => rI0 fun i j => .bl (decide (j ≤ i))
  | .is => fun x y H Q => y = .non ∧ Q (.bl (decide (x = .non))) H
  | .isn => fun x y H Q => y = .non ∧ Q (.bl (!decide (x = .non))) H
  | .in_ => fun x y H Q => (rIn X.K false x y H Q ∨ (∃ (c : Nat) (z : Str), x = .str ⟨#[c]⟩ ∧ y = .str z ∧ Q (.bl (decide (c ∈ z.cps.toList))) H)) ∨
      ((∃ a o, y = .ref a ∧ DGet H a x o ∧ Q (.bl o.isSome) H) ∨ (∃ d es n, KDict X.K X.w d es n ∧ ∃ (z : Str) (r : Option Value), x = .str z ∧ y = .ref d ∧ PySem.W.nsIn X.K d z = some r ∧ Q (.bl r.isSome) H))
  | .nin => fun x y H Q => (rIn X.K true x y H Q ∨ (∃ (c : Nat) (z : Str), x = .str ⟨#[c]⟩ ∧ y = .str z ∧ Q (.bl (!decide (c ∈ z.cps.toList))) H)) ∨
      ((∃ a o, y = .ref a ∧ DGet H a x o ∧ Q (.bl (!o.isSome)) H) ∨ (∃ d es n, KDict X.K X.w d es n ∧ ∃ (z : Str) (r : Option Value), x = .str z ∧ y = .ref d ∧ PySem.W.nsIn X.K d z = some r ∧ Q (.bl (!r.isSome)) H))
theorem rCmp_ok {X : Cx} (hu : X.A.units + 64 < cLine) : ∀ o : Cp, OpR X (compareOp (cpr o)) (rCmp X o)
  | .eq => op_eqD hu
  | .ne => op_neD hu
  | .lt => op_lt
  | .le => op_le
  | .gt => op_gt
  | .ge => op_ge
  | .is => op_isN
  | .isn => op_notN
  | .in_ => (op_in_seq.or op_in_sign).or ((op_din (by omega)).or op_inkd)
  | .nin => (op_notIn_seq.or op_notIn_sign).or ((op_dnin (by omega)).or op_ninkd)
section
variable {g : Gx} {b : Nat} {w : Wd} {Q : VK} {X : Cx}
theorem dget_ok {v : PV} {x : V} {kv : List PV × List PV} {k : PV} {y : V} (R : Rel g b w) (d : Den g w v x) (e : dictOf w.μ v = some kv) (dk : Den g w k y) (hk : PV.isKey k = true) :
    ∃ a kvs c, x = .ref a ∧ Rd w.H a (.dK kvs) ∧ y = kV c ∧ keyV k = some c ∧ DGet w.H a y (valV kvs c) ∧ Keys kv.1 (kvs.map (·.1)) ∧ Dens g w kv.2 (kvs.map (·.2)) := by
  obtain ⟨a, kvs, rfl, hr, h1, h2⟩ := dictOf_ok R d e
  obtain ⟨c, hc⟩ := isKey_of hk
  have := den_key hc dk
  subst this
  exact ⟨a, kvs, c, rfl, hr, rfl, hc, .inl ⟨kvs, c, hr, rfl, rfl⟩, h1, h2⟩
theorem den_ne {x : PV} {vx : V} (h : x = .non → False) (d : Den g w x vx) : vx ≠ .non := by
  rintro rfl
  cases x <;> first | exact h rfl | simp [Den] at d
/-- the four ways of in -/
theorem cmpIn_ok {τ : Tab} (T : TOk τ g X.w) (hK : g.K = X.K) {x y : PV} {vx vy : V} {r : Bool} (R : Rel g b w) (dx : Den g w x vx) (dy : Den g w y vy) (e : cmpIn τ w.μ x y = some r) :
    ((∃ p xs, vy = .ref p ∧ (SqL X.K w.H p xs ∨ SqT X.K w.H p xs) ∧ flatV vx = true ∧ xs.all flatV = true ∧ r = inV vx xs) ∨ (∃ (c : Nat) (z : Str), vx = .str ⟨#[c]⟩ ∧ vy = .str z ∧ r = decide (c ∈ z.cps.toList))) ∨
    ((∃ a o, vy = .ref a ∧ DGet w.H a vx o ∧ r = o.isSome) ∨ (∃ d es n, KDict X.K X.w d es n ∧ ∃ (z : Str) (q : Option Value), vx = .str z ∧ vy = .ref d ∧ PySem.W.nsIn X.K d z = some q ∧ r = q.isSome)) := by
  rw [← hK]
  unfold cmpIn at e
  split at e
  · rename_i d
    split at e
    · rename_i z
      simp only [Option.map_eq_some_iff] at e
      obtain ⟨kv, e1, rfl⟩ := e
      simp only [Den] at dx dy
      subst dx dy
      obtain ⟨⟨es, n, D⟩, h⟩ := T.gd d kv e1
      obtain ⟨q, h1, h2, _⟩ := h z
      exact .inr (.inr ⟨_, es, n, D, z, q, rfl, rfl, h1, h2⟩)
    · cases e
  · split at e
    · rename_i c
      simp only [Den] at dx dy
      subst dx dy
      cases e
      exact .inl (.inr ⟨c, _, rfl, rfl, rfl⟩)
    · cases e
  · rename_i ys
    split at e
    · rename_i h
      simp only [Bool.and_eq_true] at h
      cases e
      simp only [Den] at dy
      obtain ⟨a, vs, rfl, s, d⟩ := dy
      exact .inl (.inl ⟨a, vs, rfl, .inr s, flat_ok dx h.1, flats_ok d h.2, in_ok d dx h.2 h.1⟩)
    · cases e
  · split at e
    · rename_i ys hl
      split at e
      · rename_i h
        simp only [Bool.and_eq_true] at h
        cases e
        obtain ⟨a, vs, rfl, s, d⟩ := listOf_ok R dy hl
        exact .inl (.inl ⟨a, vs, rfl, .inl (.of s), flat_ok dx h.1, flats_ok d h.2, in_ok d dx h.2 h.1⟩)
      · cases e
    · cases hd : dictOf w.μ y with
      | none => rw [hd] at e; cases e
      | some kv =>
        rw [hd] at e
        simp only [Option.bind_some] at e
        split at e
        · rename_i h
          cases e
          obtain ⟨a, kvs, c, rfl, hr, e2, hc, dg, h1, h2⟩ := dget_ok R dy hd dx h
          exact .inr (.inl ⟨a, _, rfl, dg, has_ok h1 hc⟩)
        · cases e
theorem cmp_ok {τ : Tab} (T : TOk τ g X.w) (hK : g.K = X.K) {o : Cp} {x y : PV} {vx vy : V} (R : Rel g b w) (dx : Den g w x vx) (dy : Den g w y vy) (k : okR g b w ((cmp τ o x y w.μ).map fun r => (.bl r, w.μ)) Q) : rCmp X o vx vy w.H Q := by
  cases e : cmp τ o x y w.μ with
  | none => rw [e] at k; exact k.elim
  | some r =>
    rw [e] at k
    have q := k.bl R
    have eqc : ∀ r', cmpEq w.μ x y = some r' → ∃ d e, Dp g.K w.H vx d ∧ Dp g.K w.H vy e ∧ SeqAt.shaped d = true ∧ SeqAt.shaped e = true ∧ r' = PyData.eqv d e := fun r' h => by
      unfold cmpEq at h
      simp only [Option.bind_eq_some_iff] at h
      obtain ⟨d, h1, f, h2, h3⟩ := h
      split at h3
      · rename_i hs
        simp only [Bool.and_eq_true] at hs
        cases h3
        exact ⟨d, f, dat_ok R dx h1, dat_ok R dy h2, hs.1, hs.2, rfl⟩
      · cases h3
    cases o with
    | eq =>
      obtain ⟨d, f, h1, h2, h3, h4, rfl⟩ := eqc r e
      rw [hK] at h1 h2
      exact ⟨d, f, h1, h2, h3, h4, q⟩
    | ne =>
      simp only [cmp, Option.map_eq_some_iff] at e
      obtain ⟨r', e1, rfl⟩ := e
      obtain ⟨d, f, h1, h2, h3, h4, rfl⟩ := eqc r' e1
      rw [hK] at h1 h2
      exact ⟨d, f, h1, h2, h3, h4, q⟩
    | lt | le | gt | ge =>
      all_goals
        simp only [cmp] at e
        split at e
        · cases e
          simp only [Den] at dx dy
          subst dx dy
          exact ⟨_, _, rfl, rfl, q⟩
        · cases e
    | is | isn =>
      all_goals
        simp only [cmp] at e
        split at e
        · cases e
          simp only [Den] at dx dy
          subst dx dy
          exact ⟨rfl, q⟩
        · cases e
          simp only [Den] at dy
          subst dy
          have nn : vx ≠ .non := den_ne (by assumption) dx
          refine ⟨rfl, ?_⟩
          rw [decide_eq_false nn]
          exact q
        · cases e
    | in_ =>
      simp only [cmp] at e
      rcases cmpIn_ok (X := X) T hK R dx dy e with (⟨p, xs, h1, h2, h3, h4, rfl⟩ | ⟨c, z, h1, h2, rfl⟩) | (⟨a, o, h1, h2, rfl⟩ | ⟨d, es, n, D, z, q', h1, h2, h3, rfl⟩)
      · exact .inl (.inl ⟨p, xs, h1, h2, h3, h4, q⟩)
      · exact .inl (.inr ⟨c, z, h1, h2, q⟩)
      · exact .inr (.inl ⟨a, o, h1, h2, q⟩)
      · exact .inr (.inr ⟨d, es, n, D, z, q', h1, h2, h3, q⟩)
    | nin =>
      simp only [cmp, Option.map_eq_some_iff] at e
      obtain ⟨r', e1, rfl⟩ := e
      rcases cmpIn_ok (X := X) T hK R dx dy e1 with (⟨p, xs, h1, h2, h3, h4, rfl⟩ | ⟨c, z, h1, h2, rfl⟩) | (⟨a, o, h1, h2, rfl⟩ | ⟨d, es, n, D, z, q', h1, h2, h3, rfl⟩)
      · exact .inl (.inl ⟨p, xs, h1, h2, h3, h4, q⟩)
      · exact .inl (.inr ⟨c, z, h1, h2, q⟩)
      · exact .inr (.inl ⟨a, o, h1, h2, q⟩)
      · exact .inr (.inr ⟨d, es, n, D, z, q', h1, h2, h3, q⟩)
end
end Ev


set_option Elab.async false
set_option linter.all false
set_option maxRecDepth 100000
set_option maxHeartbeats 4000000
namespace Ev
open PySem L2
open PyProof.Rows (subscriptTail)
section
variable {X : Cx}
/-! ### subscripts -/
theorem ix_dict_tail {value slice : Expr} {pins : List (Addr × Obj)} {s : Shared} {σ : St} {Q : VK} {v u : Value} (hT : s.TypeIs v "dict") (hs : subscripted slice false v u = operate [v, u] (getItem v u))
    (h : wpAny (model X.prog X.w) X.A (getItem v u) (EP X pins σ Q) X.xe s) : wpAny (model X.prog X.w) X.A (subscriptTail value slice v u) (EP X pins σ Q) X.xe s := by
  unfold subscriptTail
  refine wpAny_bind ?_
  rw [getitemInPython_of_ne hT.not_modules]
  refine wpAny_bind (wpAny_specialOf hT PySem.F.slot_dict_getitem.lookup ?_)
  have fin : wpAny (model X.prog X.w) X.A (subscripted slice false v u) (fun r s₃ => wpAny (model X.prog X.w) X.A (letTemporaryGo value v r >>= fun _ => pure r) (EP X pins σ Q) X.xe s₃) X.xe s := by
    rw [hs]
    exact wpAny_operating (wpAny_mono h (fun r s₃ h₃ => wpAny_bind (wpAny_letTemporaryGo (wpAny_pure h₃))) fun _ _ x => x)
  first
    | exact wpAny_pure (wpAny_bind fin)
    | exact wpAny_bind (wpAny_pure (wpAny_bind fin))
    | exact wpAny_bind fin
def rIxD : R2 := fun x y H Q => ∃ a v, x = .ref a ∧ DGet H a y (some v) ∧ Q v H
theorem ix_d (hu : X.A.units + 1 < cLine) : IxR X rIxD := by
  intro value slice pins s σ H x y v u Q I rx ry h hs
  obtain ⟨a, z, rfl, dg, q⟩ := h
  cases rx
  exact ix_dict_tail (dict_typeIs I dg) hs (d_getItem hu I dg ry fun w' s' I' r' => ⟨z, H, I', r', q⟩)
def rIxK (X : Cx) : R2 := fun x y H Q => ∃ d es n, KDict X.K X.w d es n ∧ ∃ (z : Str) (u0 : Value) (v0 : V), x = .ref d ∧ y = .str z ∧ PySem.W.nsIn X.K d z = some (some u0) ∧ RelV v0 u0 ∧ Q v0 H
theorem ix_k : IxR X (rIxK X) := by
  intro value slice pins s σ H x y v u Q I rx ry ⟨d, es, n, D, h⟩ hs
  have hx : x = .ref d := by obtain ⟨_, _, _, e, _⟩ := h; exact e
  subst hx
  cases rx
  refine ix_dict_tail ?_ hs (op_item_kd D pins s σ H (.ref d) y (.ref d) u Q I rfl ry h)
  exact ⟨_, I.kIn _ _ D.at_, rfl⟩
def rIxA (X : Cx) : R2 := fun x y H Q => rIx X.K x y H Q ∨ (rIxD x y H Q ∨ rIxK X x y H Q)
theorem ix_all (hu : X.A.units + 1 < cLine) : IxR X (rIxA X) := ix_seq.or ((ix_d hu).or ix_k)
end
section
variable {g : Gx} {b : Nat} {w : Wd} {Q : VK} {X : Cx}
theorem at_ok {vs : List PV} {xs : List V} {i : Int} {v : PV} (d : Dens g w vs xs) (h : atP vs i = some v) : ∃ x, atI xs i = some x ∧ Den g w v x := by
  unfold atP atI at h
  simp only [Option.bind_eq_some_iff] at h
  obtain ⟨j, h1, h2⟩ := h
  obtain ⟨x, h3, h4⟩ := d.get h2
  refine ⟨x, ?_, h4⟩
  unfold atI
  rw [← d.length, h1]
  exact h3
theorem getIx_ok {τ : Tab} (T : TOk τ g X.w) (hK : g.K = X.K) {x y : PV} {vx vy : V} (R : Rel g b w) (dx : Den g w x vx) (dy : Den g w y vy) (k : okR g b w ((getIx τ w.μ x y).map fun v => (v, w.μ)) Q) : rIxA X vx vy w.H Q := by
  cases e : getIx τ w.μ x y with
  | none => rw [e] at k; exact k.elim
  | some v =>
    rw [e] at k
    unfold getIx at e
    split at e
    · rename_i d z
      simp only [Option.bind_eq_some_iff] at e
      obtain ⟨kv, e1, e2⟩ := e
      simp only [Den] at dx dy
      subst dx dy
      obtain ⟨⟨es, n, D⟩, h⟩ := T.gd d kv e1
      obtain ⟨r, h1, _, h3⟩ := h z
      obtain ⟨u, y, rfl, ry, dv⟩ := h3 v e2
      rw [hK] at D h1
      exact .inr (.inr ⟨_, es, n, D, z, u, y, rfl, rfl, h1, ry, k.pure R (dv w)⟩)
    · simp only [Den] at dx dy
      subst dy
      obtain ⟨a, vs, rfl, s, d⟩ := dx
      obtain ⟨z, h1, h2⟩ := at_ok d e
      rw [hK] at s
      exact .inl (.inr (.inl ⟨a, vs, _, z, rfl, rfl, s, h1, k.pure R h2⟩))
    · simp only [Den] at dx dy
      subst dy
      rename_i ns i
      obtain ⟨a, rfl, s⟩ := dx
      simp only [Option.map_eq_some_iff] at e
      obtain ⟨z, h1, rfl⟩ := e
      rw [hK] at s
      refine .inl (.inl ⟨a, ns.map V.int, i, .int z, rfl, rfl, ?_, ?_, k.int R⟩)
      case refine_2 =>
        unfold atI at h1 ⊢
        simp only [Option.bind_eq_some_iff, List.length_map] at h1 ⊢
        obtain ⟨j, h2, h3⟩ := h1
        exact ⟨j, h2, by rw [List.getElem?_map, h3]; rfl⟩
      rcases s with ⟨o, s⟩ | s
      · exact .inl (.inr ⟨o, s⟩)
      · exact .inr s
    · split at e
      · rename_i hz
        simp only [Option.map_eq_some_iff] at e
        obtain ⟨c, h1, rfl⟩ := e
        simp only [Den] at dx dy
        subst dx dy
        exact .inl (.inr (.inr ⟨_, _, c, rfl, rfl, by rw [← line_eq]; exact hz, h1, k.str R⟩))
      · cases e
    · split at e
      · rename_i xs hl
        split at e
        · obtain ⟨a, vs, rfl, s, d⟩ := listOf_ok R dx hl
          simp only [Den] at dy
          subst dy
          obtain ⟨z, h1, h2⟩ := at_ok d e
          exact .inl (.inl ⟨a, vs, _, z, rfl, rfl, .of s, h1, k.pure R h2⟩)
        · cases e
      · simp only [Option.bind_eq_some_iff] at e
        obtain ⟨kv, e1, e2⟩ := e
        split at e2
        · rename_i hk
          obtain ⟨a, kvs, c, rfl, hr, rfl, hc, dg, h1, h2⟩ := dget_ok R dx e1 dy hk
          have h3 := look_ok (x := y) (a := c) h1 h2 hc
          rw [e2] at h3
          obtain ⟨z, h4, h5⟩ := h3
          rw [h4] at dg
          exact .inr (.inl ⟨a, z, rfl, dg, k.pure R h5⟩)
        · cases e2
/-! ### slices -/
theorem part_ok {t : Bool} {v : PV} {x : V} {o : Option Int} (d : Den g w v x) (h : partOf t v = some o) : (t = false ∧ o = none) ∨ (t = true ∧ ∃ i, o = some i ∧ x = .int i) := by
  unfold partOf at h
  split at h
  · cases h; exact .inl ⟨rfl, rfl⟩
  · cases h; simp only [Den] at d; exact .inr ⟨rfl, _, rfl, d⟩
  · cases h
def rSlX (X : Cx) : V → Option Int → Option Int → Hp → VK → Prop := fun x lo hi H Q => rSlA X.K x lo hi H Q ∨ (rSlS x lo hi H Q ∨ rSlL X.K x lo hi H Q)
theorem sl_all : SlR X (rSlX X) := sl_tupA.or (sl_str.or sl_list)
theorem cut_ok {vs : List PV} {xs : List V} (d : Dens g w vs xs) (l h : Option Int) : Dens g w (cutP vs l h) (cutV xs l h) := by
  unfold cutP cutV
  rw [d.length]
  exact (d.drop _).take _
theorem cut_whole {xs : List PV} {l h : Option Int} (e : HT.sIx xs.length 0 l = 0 ∧ HT.sIx xs.length xs.length h = xs.length) : cutP xs l h = xs := by
  unfold cutP
  rw [e.1, e.2]
  simp
theorem slice_ok (hK : g.K = X.K) {m : Bool} {x : PV} {vx : V} {l h : Option Int} (R : Rel g b w) (dx : Den g w x vx) (k : okR g b w (slice m x l h w.μ) Q) : rSlX X vx l h w.H Q := by
  unfold slice at k
  split at k
  · have dx0 := dx
    simp only [Den] at dx
    obtain ⟨a, vs, rfl, s, d⟩ := dx
    rw [hK] at s
    refine .inl ⟨a, vs, rfl, s, fun e => ?_, fun _ p hp => k.tup R (cut_ok d l h) p hp⟩
    rw [← d.length] at e
    rw [cut_whole e] at k
    exact k.pure R dx0
  · split at k
    · rename_i hz
      simp only [Den] at dx
      subst dx
      exact .inr (.inl ⟨_, rfl, by rw [← line_eq]; exact hz, k.str R⟩)
    · exact k.elim
  · rename_i x1 _ _
    cases e : listOf w.μ x with
    | none => rw [e] at k; exact k.elim
    | some xs =>
      rw [e] at k
      obtain ⟨a, vs, rfl, s, d⟩ := listOf_ok R dx e
      exact .inr (.inr ⟨a, vs, rfl, .of s, fun p hp => k.new R (cut_ok d l h) p hp⟩)

/-! ### truth -/
theorem truth_ok {v : PV} {x : V} {r : Bool} (R : Rel g b w) (d : Den g w v x) (h : truth w.μ v = some r) : TruV g.K x w.H r := by
  unfold truth at h
  split at h
  · cases h; simp only [Den] at d; subst d; rfl
  · cases h; simp only [Den] at d; subst d; rfl
  · cases h; simp only [Den] at d; subst d; rfl
  · cases h
    simp only [Den] at d
    obtain ⟨a, vs, rfl, s, d⟩ := d
    refine .inr (.inl ⟨vs, s, ?_⟩)
    rename_i xs
    cases xs with
    | nil => cases d.inv_nil; rfl
    | cons y ys => obtain ⟨z, r, rfl, _⟩ := d.inv_cons; rfl
  · split at h
    · rename_i hz
      cases h
      simp only [Den] at d
      subst d
      exact ⟨by rw [← line_eq]; exact hz, rfl⟩
    · cases h
  · simp only [Option.map_eq_some_iff] at h
    obtain ⟨xs, h1, rfl⟩ := h
    obtain ⟨a, vs, rfl, s, d⟩ := listOf_ok R d h1
    refine .inl ⟨vs, .of s, ?_⟩
    cases xs with
    | nil => cases d.inv_nil; rfl
    | cons y ys => obtain ⟨z, r, rfl, _⟩ := d.inv_cons; rfl
end
end Ev


set_option Elab.async false
set_option linter.all false
set_option maxRecDepth 100000
set_option maxHeartbeats 4000000
/-! Expressions: the evaluator's reading is a reading of the model's. -/
namespace Ev
open PySem L2
/-- an exception of an own class with its dict -/
def DenX (g : Gx) (w : Wd) (e : PV) (cls : Value) (d : Option Addr) : Prop := match e with
  | .exn c as vs => cls = .ref (g.cls c) ∧ ∃ dd fs, d = some dd ∧ w.H dd = some (.xd fs) ∧ fs.map (·.1) = as.map dec ∧ Dens g w vs (fs.map (·.2))
  | _ => False
/-- what is wanted of a result, of an exception -/
def okX (g : Gx) (b : Nat) (W : WX) (w : Wd) (σ : St) (e : PV) (μ' : Sto) : Prop :=
  ∀ (w' : Wd) (cls : Value) (d : Option Addr), w'.μ = μ' → Le b w w' → Rel g b w' → DenX g w' e cls d → W cls d σ w'.H
def okE (g : Gx) (b : Nat) (W : WX) (w : Wd) (σ : St) (r : Res (PV × Sto)) (Q : VK) : Prop := match r with
  | .ok (v, μ') => ∀ (w' : Wd) (x : V), w'.μ = μ' → Le b w w' → Rel g b w' → Den g w' v x → Q x w'.H
  | .exc e μ' => okX g b W w σ e μ'
  | .err => False
def okB (g : Gx) (b : Nat) (W : WX) (w : Wd) (σ : St) (r : Res (Bool × Sto)) (Q : Bool → Hp → Prop) : Prop := match r with
  | .ok (v, μ') => ∀ (w' : Wd), w'.μ = μ' → Le b w w' → Rel g b w' → Q v w'.H
  | .exc e μ' => okX g b W w σ e μ'
  | .err => False
def okL (g : Gx) (b : Nat) (W : WX) (w : Wd) (σ : St) (r : Res (List PV × Sto)) (Q : List V → Hp → Prop) : Prop := match r with
  | .ok (vs, μ') => ∀ (w' : Wd) (xs : List V), w'.μ = μ' → Le b w w' → Rel g b w' → Dens g w' vs xs → Q xs w'.H
  | .exc e μ' => okX g b W w σ e μ'
  | .err => False
def tE (g : Gx) (b : Nat) (W : WX) (f : Loc → Sto → Res (PV × Sto)) : TE := fun σ H Q => ∃ (w : Wd) (σp : Loc), w.H = H ∧ Rel g b w ∧ RelL g w σp σ ∧ okE g b W w σ (f σp w.μ) Q
def tT (g : Gx) (b : Nat) (W : WX) (f : Loc → Sto → Res (Bool × Sto)) : TT := fun σ H Q => ∃ (w : Wd) (σp : Loc), w.H = H ∧ Rel g b w ∧ RelL g w σp σ ∧ okB g b W w σ (f σp w.μ) Q
def tL (g : Gx) (b : Nat) (W : WX) (f : Loc → Sto → Res (List PV × Sto)) : TA := fun σ H Q => ∃ (w : Wd) (σp : Loc), w.H = H ∧ Rel g b w ∧ RelL g w σp σ ∧ okL g b W w σ (f σp w.μ) Q
/-- the truth of what an expression gives -/
def evT (f : Loc → Sto → Res (PV × Sto)) : Loc → Sto → Res (Bool × Sto) := fun σ μ => (f σ μ).bind fun p => Res.of ((truth p.2 p.1).map fun r => (r, p.2))

section
variable {g : Gx} {b : Nat} {W : WX} {w w1 : Wd} {σ : St} {Q : VK}
theorem DenX.mono {c c' : Nat} {w' : Wd} (R : Rel g c w) (L : Le c' w w') {e : PV} {cls : Value} {d : Option Addr} (h : DenX g w e cls d) : DenX g w' e cls d := by
  unfold DenX at h ⊢
  split at h
  · obtain ⟨h1, dd, fs, h2, h3, h4, h5⟩ := h
    exact ⟨h1, dd, fs, h2, (L.keep _ _ h3 (R.nb h3 (fun z => z))).1, h4, h5.mono R L⟩
  · exact h.elim
theorem okX.le {e : PV} {μ' : Sto} (h : okX g b W w σ e μ') (L : Le b w w1) : okX g b W w1 σ e μ' := fun w' cls d e1 L1 R1 d1 => h w' cls d e1 (L.trans L1) R1 d1
/-- a step of a bind: E to E -/
theorem okE.step {x : Res (PV × Sto)} {f : PV × Sto → Res (PV × Sto)} (h : okE g b W w σ (x.bind f) Q) :
    okE g b W w σ x fun x1 H1 => ∃ (w1 : Wd) (v : PV), w1.H = H1 ∧ Le b w w1 ∧ Rel g b w1 ∧ Den g w1 v x1 ∧ x = .ok (v, w1.μ) ∧ okE g b W w1 σ (f (v, w1.μ)) Q := by
  cases x with
  | ok a =>
    obtain ⟨v, μ'⟩ := a
    intro w1 x1 e L R d
    subst e
    refine ⟨w1, v, rfl, L, R, d, rfl, ?_⟩
    have h : okE g b W w σ (f (v, w1.μ)) Q := h
    unfold okE at h ⊢
    split at h
    · intro w' x e' L' R' d'
      exact h w' x e' (L.trans L') R' d'
    · exact h.le L
    · exact h
  | exc e μ' => exact h
  | err => exact h.elim
theorem okB.step {x : Res (PV × Sto)} {f : PV × Sto → Res (Bool × Sto)} {Q : Bool → Hp → Prop} (h : okB g b W w σ (x.bind f) Q) :
    okE g b W w σ x fun x1 H1 => ∃ (w1 : Wd) (v : PV), w1.H = H1 ∧ Le b w w1 ∧ Rel g b w1 ∧ Den g w1 v x1 ∧ x = .ok (v, w1.μ) ∧ okB g b W w1 σ (f (v, w1.μ)) Q := by
  cases x with
  | ok a =>
    obtain ⟨v, μ'⟩ := a
    intro w1 x1 e L R d
    subst e
    refine ⟨w1, v, rfl, L, R, d, rfl, ?_⟩
    have h : okB g b W w σ (f (v, w1.μ)) Q := h
    unfold okB at h ⊢
    split at h
    · intro w' e' L' R'
      exact h w' e' (L.trans L') R'
    · exact h.le L
    · exact h
  | exc e μ' => exact h
  | err => exact h.elim
theorem okL.step {x : Res (PV × Sto)} {f : PV × Sto → Res (List PV × Sto)} {Q : List V → Hp → Prop} (h : okL g b W w σ (x.bind f) Q) :
    okE g b W w σ x fun x1 H1 => ∃ (w1 : Wd) (v : PV), w1.H = H1 ∧ Le b w w1 ∧ Rel g b w1 ∧ Den g w1 v x1 ∧ x = .ok (v, w1.μ) ∧ okL g b W w1 σ (f (v, w1.μ)) Q := by
  cases x with
  | ok a =>
    obtain ⟨v, μ'⟩ := a
    intro w1 x1 e L R d
    subst e
    refine ⟨w1, v, rfl, L, R, d, rfl, ?_⟩
    have h : okL g b W w σ (f (v, w1.μ)) Q := h
    unfold okL at h ⊢
    split at h
    · intro w' x e' L' R' d'
      exact h w' x e' (L.trans L') R' d'
    · exact h.le L
    · exact h
  | exc e μ' => exact h
  | err => exact h.elim
/-- a step of a bind: a list to E -/
theorem okE.stepL {x : Res (List PV × Sto)} {f : List PV × Sto → Res (PV × Sto)} (h : okE g b W w σ (x.bind f) Q) :
    okL g b W w σ x fun xs H1 => ∃ (w1 : Wd) (vs : List PV), w1.H = H1 ∧ Le b w w1 ∧ Rel g b w1 ∧ Dens g w1 vs xs ∧ x = .ok (vs, w1.μ) ∧ okE g b W w1 σ (f (vs, w1.μ)) Q := by
  cases x with
  | ok a =>
    obtain ⟨v, μ'⟩ := a
    intro w1 x1 e L R d
    subst e
    refine ⟨w1, v, rfl, L, R, d, rfl, ?_⟩
    have h : okE g b W w σ (f (v, w1.μ)) Q := h
    unfold okE at h ⊢
    split at h
    · intro w' x e' L' R' d'
      exact h w' x e' (L.trans L') R' d'
    · exact h.le L
    · exact h
  | exc e μ' => exact h
  | err => exact h.elim
theorem okL.stepL {x : Res (List PV × Sto)} {f : List PV × Sto → Res (List PV × Sto)} {Q : List V → Hp → Prop} (h : okL g b W w σ (x.bind f) Q) :
    okL g b W w σ x fun xs H1 => ∃ (w1 : Wd) (vs : List PV), w1.H = H1 ∧ Le b w w1 ∧ Rel g b w1 ∧ Dens g w1 vs xs ∧ x = .ok (vs, w1.μ) ∧ okL g b W w1 σ (f (vs, w1.μ)) Q := by
  cases x with
  | ok a =>
    obtain ⟨v, μ'⟩ := a
    intro w1 x1 e L R d
    subst e
    refine ⟨w1, v, rfl, L, R, d, rfl, ?_⟩
    have h : okL g b W w σ (f (v, w1.μ)) Q := h
    unfold okL at h ⊢
    split at h
    · intro w' x e' L' R' d'
      exact h w' x e' (L.trans L') R' d'
    · exact h.le L
    · exact h
  | exc e μ' => exact h
  | err => exact h.elim
theorem okE.of {r : Option (PV × Sto)} (h : okE g b W w σ (Res.of r) Q) : okR g b w r Q := by
  cases r with
  | none => exact h.elim
  | some a => exact h
theorem okE.imp {r : Res (PV × Sto)} {Q Q' : VK} (h : okE g b W w σ r Q) (i : ∀ x H, Q x H → Q' x H) : okE g b W w σ r Q' := by
  unfold okE at h ⊢
  split at h
  · exact fun w' x e L R d => i _ _ (h w' x e L R d)
  · exact h
  · exact h
end
/-! ### the judgement -/
structure SE (g : Gx) (X : Cx) (W : WX) (b : Nat) (e : Expr) (f : Loc → Sto → Res (PV × Sto)) : Prop where
  pe : PE X e (tE g b W f)
  pt : PT X e (tT g b W (evT f))
def SL (g : Gx) (X : Cx) (W : WX) (b : Nat) (es : List Expr) (f : Loc → Sto → Res (List PV × Sto)) : Prop := PA X es (tL g b W f)

section
variable {g : Gx} {X : Cx} {W : WX} {b : Nat} {τ : Tab} {Φ : Calls}
/-- how a test of most forms is read: its value's truth -/
def plainT (e : Expr) : Bool := match e with
  | .UnaryOp .Not _ _ => false
  | .BoolOp _ _ _ => false
  | .IfExp _ _ _ _ => false
  | .Compare _ _ _ _ => false
  | _ => true
theorem plainT_ok {e : Expr} (h : plainT e = true) (env : Env) (whole : Sem Value) : isTrue e env whole = (do let v ← whole; standAt e.pos; holding [v] (truthy v)) := by
  cases e <;> first | rfl | (rename_i o _ _; cases o <;> first | rfl | simp [plainT] at h) | simp [plainT] at h
theorem tT_of {f : Loc → Sto → Res (PV × Sto)} (hK : g.K = X.K) {σ : St} {H : Hp} {Q : Bool → Hp → Prop} (h : tT g b W (evT f) σ H Q) : tE g b W f σ H fun x H' => ∃ k, TruV X.K x H' k ∧ Q k H' := by
  obtain ⟨w, σp, e, R, L, k⟩ := h
  refine ⟨w, σp, e, R, L, ?_⟩
  refine (okB.step k).imp fun x H1 ⟨w1, v, e1, L1, R1, d, _, k1⟩ => ?_
  cases q : truth w1.μ v with
  | none => rw [q] at k1; exact k1.elim
  | some r =>
    rw [q] at k1
    subst e1
    exact ⟨r, hK ▸ truth_ok R1 d q, k1 w1 rfl (.refl _ _) R1⟩
theorem SE.of (hK : g.K = X.K) {e : Expr} {f : Loc → Sto → Res (PV × Sto)} (ht : plainT e = true) (h : PE X e (tE g b W f)) : SE g X W b e f := by
  refine ⟨h, ⟨fun pins s σ H Q I q => ?_⟩⟩
  exact (pt_truth h fun wh => plainT_ok ht X.env wh).run pins s σ H Q I (tT_of hK q)
/-- a stronger reading -/
theorem PE.imp {e : Expr} {t t' : TE} (h : PE X e t) (i : ∀ σ H Q, t' σ H Q → t σ H Q) : PE X e t' := ⟨fun pins s σ H Q I q => h.run pins s σ H Q I (i _ _ _ q)⟩
theorem PT.imp {e : Expr} {t t' : TT} (h : PT X e t) (i : ∀ σ H Q, t' σ H Q → t σ H Q) : PT X e t' := ⟨fun pins s σ H Q I q => h.run pins s σ H Q I (i _ _ _ q)⟩
theorem PA.imp {e : List Expr} {t t' : TA} (h : PA X e t) (i : ∀ σ H Q, t' σ H Q → t σ H Q) : PA X e t' := ⟨fun pos pins s σ H Q I q => h.run pos pins s σ H Q I (i _ _ _ q)⟩

theorem se_var (hK : g.K = X.K) {i : Nat} {x : Str} {pos : Pos} (hN : X.N[i]? = some x) (hv : Vis X.env.scope x) (hd : (x == ("__debug__" : Str)) = false) (hcd : (x == ("__classdict__" : Str)) = false) : SE g X W b (.Name x pos) (evE τ Φ b (.var i)) := by
  refine .of hK rfl (PE.imp (pe_var hN hv hd hcd) fun σ H Q h => ?_)
  obtain ⟨w, σp, rfl, R, L, k⟩ := h
  unfold evE at k
  split at k
  · rename_i v hv
    obtain ⟨x, h1, h2⟩ := L.get i v hv
    exact ⟨x, h1, k w x rfl (.refl _ _) R h2⟩
  · exact k.elim
theorem se_con (hK : g.K = X.K) {e : Expr} {v : PV} {x : V} (ht : plainT e = true) (h : PE X e (tC x)) (d : ∀ w : Wd, Den g w v x) : SE g X W b e (evE τ Φ b (.con v)) := by
  refine .of hK ht (PE.imp h fun σ H Q h => ?_)
  obtain ⟨w, σp, rfl, R, L, k⟩ := h
  unfold evE at k
  exact k w x rfl (.refl _ _) R (d w)
/-- two in a row -/
theorem tE2 {fa fb : Loc → Sto → Res (PV × Sto)} {op : PV → PV → Sto → Res (PV × Sto)} {r : R2} {σ : St} {H : Hp} {Q : VK}
    (h : tE g b W (fun σ μ => (fa σ μ).bind fun p => (fb σ p.2).bind fun q => op p.1 q.1 q.2) σ H Q)
    (hr : ∀ (w : Wd) (x y : PV) (vx vy : V), Rel g b w → Den g w x vx → Den g w y vy → okE g b W w σ (op x y w.μ) Q → r vx vy w.H Q) : tOp r (tE g b W fa) (tE g b W fb) σ H Q := by
  obtain ⟨w, σp, rfl, R, L, k⟩ := h
  refine ⟨w, σp, rfl, R, L, (okE.step k).imp fun x H1 ⟨w1, v, e1, L1, R1, d1, _, k1⟩ => ?_⟩
  refine ⟨w1, σp, e1, R1, L.mono R L1, (okE.step k1).imp fun y H2 ⟨w2, u, e2, L2, R2, d2, _, k2⟩ => ?_⟩
  subst e2
  exact hr w2 v u x y R2 (d1.mono R1 L2) d2 k2
theorem se_bin (hK : g.K = X.K) {o : Op2} {m : Bool} {l r : Expr} {a c : C} {pos : Pos} (ha : SE g X W b l (evE τ Φ b a)) (hc : SE g X W b r (evE τ Φ b c)) : SE g X W b (.BinOp l (opr o) r pos) (evE τ Φ b (.bin o m a c)) := by
  refine .of hK rfl (PE.imp (pe_op (rOp_ok o) ha.pe hc.pe) fun σ H Q h => ?_)
  exact tE2 (op := fun x y μ => Res.of (op2 o m x y μ)) h fun w x y vx vy R dx dy k => op2_ok hK R dx dy k.of
end
end Ev


set_option Elab.async false
set_option linter.all false
set_option maxRecDepth 100000
set_option maxHeartbeats 4000000
namespace Ev
open PySem L2
section
variable {g : Gx} {X : Cx} {W : WX} {b : Nat} {τ : Tab} {Φ : Calls}
theorem Res.bind_assoc {α β γ : Type} (x : Res α) (f : α → Res β) (h : β → Res γ) : (x.bind f).bind h = x.bind fun a => (f a).bind h := by cases x <;> rfl
theorem rI_neg : UnR X (unaryOp .USub) (rU fun i => .int (-i)) := un_neg
theorem se_neg (hK : g.K = X.K) {e : Expr} {a : C} {pos : Pos} (ha : SE g X W b e (evE τ Φ b a)) : SE g X W b (.UnaryOp .USub e pos) (evE τ Φ b (.neg a)) := by
  refine .of hK rfl (PE.imp (pe_un un_neg ha.pe) fun σ H Q h => ?_)
  obtain ⟨w, σp, rfl, R, L, k⟩ := h
  unfold evE at k
  refine ⟨w, σp, rfl, R, L, (okE.step k).imp fun x H1 ⟨w1, v, e1, L1, R1, d1, _, k1⟩ => ?_⟩
  dsimp only at k1
  split at k1
  · rename_i _ i _
    simp only [Den] at d1
    subst d1 e1
    exact ⟨i, rfl, k1 w1 _ rfl (.refl _ _) R1 (by simp only [Den])⟩
  · exact k1.elim
/-! ### comparisons -/
theorem okB_of {w : Wd} {σ : St} {r : Res (PV × Sto)} {Q : Bool → Hp → Prop} (h : okB g b W w σ (r.bind fun p => Res.of ((truth p.2 p.1).map fun r => (r, p.2))) Q) :
    okE g b W w σ r fun x H1 => ∃ (w1 : Wd) (v : PV) (k : Bool), w1.H = H1 ∧ Rel g b w1 ∧ Den g w1 v x ∧ truth w1.μ v = some k ∧ Q k H1 := by
  refine (okB.step h).imp fun x H1 ⟨w1, v, e1, L1, R1, d1, _, k1⟩ => ?_
  cases q : truth w1.μ v with
  | none => rw [q] at k1; exact k1.elim
  | some r =>
    rw [q] at k1
    subst e1
    exact ⟨w1, v, r, rfl, R1, d1, q, k1 w1 rfl (.refl _ _) R1⟩
theorem okE_bl {w : Wd} {σ : St} {r : Option Bool} {Q : Bool → Hp → Prop} (h : okB g b W w σ ((Res.of (r.map fun r => (PV.bl r, w.μ))).bind fun p => Res.of ((truth p.2 p.1).map fun r => (r, p.2))) Q) :
    okR g b w (r.map fun r => (PV.bl r, w.μ)) fun x H1 => ∃ k, x = .bl k ∧ Q k H1 := by
  cases r with
  | none => exact h.elim
  | some r =>
    have h : ∀ w' : Wd, w'.μ = w.μ → Le b w w' → Rel g b w' → Q r w'.H := h
    intro w' x e L R d
    simp only [Den] at d
    exact ⟨r, d, h w' e L R⟩
theorem se_cmp (T : TOk τ g X.w) (hK : g.K = X.K) (hu : X.A.units + 64 < cLine) {o : Cp} {l r : Expr} {a c : C} {pos : Pos} (hm : behindInMarks (cpr o) r = false) (ha : SE g X W b l (evE τ Φ b a)) (hc : SE g X W b r (evE τ Φ b c)) :
    SE g X W b (.Compare l [cpr o] [r] pos) (evE τ Φ b (.cmp o a c)) := by
  constructor
  · refine PE.imp (pe_cmpR (rCmp_ok hu o) ha.pe hc.pe hm) fun σ H Q h => ?_
    exact tE2 (op := fun x y μ => Res.of ((cmp τ o x y μ).map fun r => (.bl r, μ))) h fun w x y vx vy R dx dy k => cmp_ok T hK R dx dy k.of
  · refine PT.imp (pt_cmpR (rCmp_ok hu o) ha.pe hc.pe hm) fun σ H Q h => ?_
    obtain ⟨w, σp, rfl, R, L, k⟩ := h
    unfold evT evE at k
    simp only [Res.bind_assoc] at k
    refine ⟨w, σp, rfl, R, L, (okB.step k).imp fun x H1 ⟨w1, v, e1, L1, R1, d1, _, k1⟩ => ?_⟩
    refine ⟨w1, σp, e1, R1, L.mono R L1, (okB.step k1).imp fun y H2 ⟨w2, u, e2, L2, R2, d2, _, k3⟩ => ?_⟩
    subst e2
    exact cmp_ok T hK R2 (d1.mono R1 L2) d2 (okE_bl k3)
/-- a chain -/
theorem chain_ok (T : TOk τ g X.w) (hK : g.K = X.K) {o1 o2 : Cp} {σ : St} {fa fb fc : Loc → Sto → Res (PV × Sto)} {H : Hp} {Q : VK}
    (h : tE g b W (fun σ μ => (fa σ μ).bind fun p => (fb σ p.2).bind fun q => (Res.of (cmp τ o1 p.1 q.1 q.2)).bind fun r => match r with
      | true => (fc σ q.2).bind fun s => Res.of ((cmp τ o2 q.1 s.1 s.2).map fun r => (.bl r, s.2))
      | false => .ok (.bl false, q.2)) σ H Q) : tChain (rCmp X o1) (rCmp X o2) (tE g b W fa) (tE g b W fb) (tE g b W fc) σ H Q := by
  obtain ⟨w, σp, rfl, R, L, k⟩ := h
  refine ⟨w, σp, rfl, R, L, (okE.step k).imp fun x H1 ⟨w1, v, e1, L1, R1, d1, _, k1⟩ => ?_⟩
  refine ⟨w1, σp, e1, R1, L.mono R L1, (okE.step k1).imp fun y H2 ⟨w2, u, e2, L2, R2, d2, _, k2⟩ => ?_⟩
  subst e2
  dsimp only at k2
  cases q : cmp τ o1 v u w2.μ with
  | none => rw [q] at k2; exact k2.elim
  | some r =>
    rw [q] at k2
    have L02 := (L.mono R L1).mono R1 L2
    refine cmp_ok (g := g) (b := b) (w := w2) T hK R2 (d1.mono R1 L2) d2 ?_
    rw [q]
    intro w3 z e3 L3 R3 d3
    simp only [Den] at d3
    refine ⟨r, d3, ?_⟩
    cases r with
    | false =>
      rw [if_neg Bool.false_ne_true]
      have k2 : ∀ (w' : Wd) (x : V), w'.μ = w2.μ → Le b w2 w' → Rel g b w' → Den g w' (.bl false) x → Q x w'.H := k2
      exact k2 w3 _ e3 L3 R3 (by simp only [Den])
    | true =>
      rw [if_pos rfl]
      have k2 : okE g b W w2 σ ((fc σp w2.μ).bind fun s => Res.of ((cmp τ o2 u s.1 s.2).map fun r => (.bl r, s.2))) Q := k2
      refine ⟨w3, σp, rfl, R3, L02.mono R2 L3, ?_⟩
      have k3 : okE g b W w3 σ ((fc σp w3.μ).bind fun s => Res.of ((cmp τ o2 u s.1 s.2).map fun r => (.bl r, s.2))) Q := by
        rw [e3]
        unfold okE at k2 ⊢
        split at k2
        · exact fun w' x e' L' R' d' => k2 w' x e' (L3.trans L') R' d'
        · exact k2.le L3
        · exact k2
      refine (okE.step k3).imp fun t H4 ⟨w4, s, e4, L4, R4, d4, _, k4⟩ => ?_
      subst e4
      exact cmp_ok T hK R4 ((d2.mono R2 L3).mono R3 L4) d4 k4.of
theorem se_chn (T : TOk τ g X.w) (hK : g.K = X.K) (hu : X.A.units + 64 < cLine) {o1 o2 : Cp} {l m r : Expr} {a c d : C} {pos : Pos} (hm : lastMarks [cpr o1, cpr o2] [m, r] = false) (ha : SE g X W b l (evE τ Φ b a)) (hc : SE g X W b m (evE τ Φ b c)) (hd : SE g X W b r (evE τ Φ b d)) :
    SE g X W b (.Compare l [cpr o1, cpr o2] [m, r] pos) (evE τ Φ b (.chn o1 o2 a c d)) := by
  constructor
  · refine PE.imp (pe_chain (rCmp_ok hu o1) (rCmp_ok hu o2) ha.pe hc.pe hd.pe hm) fun σ H Q h => chain_ok T hK h
  · refine PT.imp (pt_chain (rCmp_ok hu o1) (rCmp_ok hu o2) ha.pe hc.pe hd.pe hm) fun σ H Q h => ?_
    refine chain_ok T hK (Q := fun x H1 => ∃ k, x = .bl k ∧ Q k H1) ?_
    obtain ⟨w, σp, rfl, R, L, k⟩ := h
    refine ⟨w, σp, rfl, R, L, ?_⟩
    -- the chain's value is a bool
    have hb : ∀ v μ', evE τ Φ b (.chn o1 o2 a c d) σp w.μ = .ok (v, μ') → ∃ k, v = .bl k := fun v μ' e => by
      unfold evE at e
      cases q1 : evE τ Φ b a σp w.μ with
      | ok p =>
        rw [q1] at e
        simp only [Res.bind] at e
        cases q2 : evE τ Φ b c σp p.2 with
        | ok q =>
          rw [q2] at e
          simp only at e
          cases q3 : cmp τ o1 p.1 q.1 q.2 with
          | none => rw [q3] at e; simp [Res.of] at e
          | some r =>
            rw [q3] at e
            simp only [Res.of] at e
            cases r with
            | false => simp only [Res.ok.injEq, Prod.mk.injEq] at e; exact ⟨_, e.1.symm⟩
            | true =>
              simp only at e
              cases q4 : evE τ Φ b d σp q.2 with
              | ok s =>
                rw [q4] at e
                simp only at e
                cases q5 : cmp τ o2 q.1 s.1 s.2 with
                | none => rw [q5] at e; simp [Res.of] at e
                | some r =>
                  rw [q5] at e
                  simp only [Option.map_some, Res.of, Res.ok.injEq, Prod.mk.injEq] at e
                  exact ⟨_, e.1.symm⟩
              | exc _ _ => rw [q4] at e; simp at e
              | err => rw [q4] at e; simp at e
        | exc _ _ => rw [q2] at e; simp at e
        | err => rw [q2] at e; simp at e
      | exc _ _ => rw [q1] at e; simp [Res.bind] at e
      | err => rw [q1] at e; simp [Res.bind] at e
    unfold evT at k
    show okE g b W w σ (evE τ Φ b (.chn o1 o2 a c d) σp w.μ) _
    cases q : evE τ Φ b (.chn o1 o2 a c d) σp w.μ with
    | ok p =>
      obtain ⟨v, μ'⟩ := p
      obtain ⟨r, rfl⟩ := hb v μ' q
      rw [q] at k
      intro w' x e L R d
      simp only [Den] at d
      exact ⟨r, d, k w' e L R⟩
    | exc e μ' => rw [q] at k; exact k
    | err => rw [q] at k; exact k.elim
/-! ### not, if else -/
theorem evT_not {a : C} {σp : Loc} {μ : Sto} : evT (evE τ Φ b (.not a)) σp μ = (evT (evE τ Φ b a) σp μ).bind fun p => .ok (!p.1, p.2) := by
  unfold evT
  rw [evE]
  cases evE τ Φ b a σp μ with
  | ok p =>
    simp only [Res.bind]
    cases truth p.2 p.1 <;> simp [Res.of, truth]
  | exc _ _ => rfl
  | err => rfl
theorem se_not (hK : g.K = X.K) {e : Expr} {a : C} {pos : Pos} (ha : SE g X W b e (evE τ Φ b a)) : SE g X W b (.UnaryOp .Not e pos) (evE τ Φ b (.not a)) := by
  constructor
  · refine PE.imp (pe_notT ha.pe) fun σ H Q h => ?_
    obtain ⟨w, σp, rfl, R, L, k⟩ := h
    unfold evE at k
    refine ⟨w, σp, rfl, R, L, (okE.step k).imp fun x H1 ⟨w1, v, e1, L1, R1, d1, _, k1⟩ => ?_⟩
    cases q : truth w1.μ v with
    | none => rw [q] at k1; exact k1.elim
    | some r =>
      rw [q] at k1
      subst e1
      exact ⟨r, hK ▸ truth_ok R1 d1 q, k1 w1 _ rfl (.refl _ _) R1 (by simp only [Den])⟩
  · refine PT.imp (pt_not ha.pt) fun σ H Q h => ?_
    obtain ⟨w, σp, rfl, R, L, k⟩ := h
    refine ⟨w, σp, rfl, R, L, ?_⟩
    rw [evT_not] at k
    cases q : evT (evE τ Φ b a) σp w.μ with
    | ok p => rw [q] at k; exact fun w' e L R => k w' e L R
    | exc e μ' => rw [q] at k; exact k
    | err => rw [q] at k; exact k.elim
/-- a step of a test -/
theorem okE.stepT {w : Wd} {σ : St} {x : Res (PV × Sto)} {f : Bool → PV → Sto → Res (PV × Sto)} {Q : VK} (h : okE g b W w σ (x.bind fun p => (Res.of (truth p.2 p.1)).bind fun r => f r p.1 p.2) Q) :
    okB g b W w σ (x.bind fun p => Res.of ((truth p.2 p.1).map fun r => (r, p.2))) fun r H1 => ∃ (w1 : Wd) (v : PV), w1.H = H1 ∧ Le b w w1 ∧ Rel g b w1 ∧ okE g b W w1 σ (f r v w1.μ) Q := by
  cases x with
  | ok p =>
    obtain ⟨v, μ'⟩ := p
    simp only [Res.bind] at h ⊢
    cases q : truth μ' v with
    | none => rw [q] at h; exact h.elim
    | some r =>
      rw [q] at h
      intro w1 e1 L1 R1
      refine ⟨w1, v, rfl, L1, R1, ?_⟩
      subst e1
      have h : okE g b W w σ (f r v w1.μ) Q := h
      unfold okE at h ⊢
      split at h
      · exact fun w' x e' L' R' d' => h w' x e' (L1.trans L') R' d'
      · exact h.le L1
      · exact h
  | exc e μ' => exact h
  | err => exact h.elim
theorem okB.stepT {w : Wd} {σ : St} {x : Res (PV × Sto)} {f : Bool → PV → Sto → Res (Bool × Sto)} {Q : Bool → Hp → Prop} (h : okB g b W w σ (x.bind fun p => (Res.of (truth p.2 p.1)).bind fun r => f r p.1 p.2) Q) :
    okB g b W w σ (x.bind fun p => Res.of ((truth p.2 p.1).map fun r => (r, p.2))) fun r H1 => ∃ (w1 : Wd) (v : PV), w1.H = H1 ∧ Le b w w1 ∧ Rel g b w1 ∧ x = .ok (v, w1.μ) ∧ truth w1.μ v = some r ∧ okB g b W w1 σ (f r v w1.μ) Q := by
  cases x with
  | ok p =>
    obtain ⟨v, μ'⟩ := p
    simp only [Res.bind] at h ⊢
    cases q : truth μ' v with
    | none => rw [q] at h; exact h.elim
    | some r =>
      rw [q] at h
      intro w1 e1 L1 R1
      subst e1
      refine ⟨w1, v, rfl, L1, R1, rfl, q, ?_⟩
      have h : okB g b W w σ (f r v w1.μ) Q := h
      unfold okB at h ⊢
      split at h
      · exact fun w' e' L' R' => h w' e' (L1.trans L') R'
      · exact h.le L1
      · exact h
  | exc e μ' => exact h
  | err => exact h.elim
theorem se_ite (hK : g.K = X.K) {t l r : Expr} {a c d : C} {pos : Pos} (ht : SE g X W b t (evE τ Φ b a)) (hl : SE g X W b l (evE τ Φ b c)) (hr : SE g X W b r (evE τ Φ b d)) :
    PE X (.IfExp t l r pos) (tE g b W (evE τ Φ b (.ite a c d))) := by
  refine PE.imp (pe_ifExp ht.pt hl.pe hr.pe) fun σ H Q h => ?_
  obtain ⟨w, σp, rfl, R, L, k⟩ := h
  unfold evE at k
  refine ⟨w, σp, rfl, R, L, ?_⟩
  have k2 := okE.stepT (f := fun r _ μ => match r with | true => evE τ Φ b c σp μ | false => evE τ Φ b d σp μ) k
  show okB g b W w σ (evT (evE τ Φ b a) σp w.μ) _
  unfold evT
  unfold okB at k2 ⊢
  split at k2
  · rename_i v μ' _
    intro w' e' L' R'
    obtain ⟨w1, u, e1, L1, R1, k3⟩ := k2 w' e' L' R'
    cases v with
    | true => rw [if_pos rfl]; exact ⟨w1, σp, e1, R1, L.mono R L1, k3⟩
    | false => rw [if_neg Bool.false_ne_true]; exact ⟨w1, σp, e1, R1, L.mono R L1, k3⟩
  · exact k2
  · exact k2
end
end Ev


set_option Elab.async false
set_option linter.all false
set_option maxRecDepth 100000
set_option maxHeartbeats 4000000
/-! Defs, where no repr is under way. -/
namespace Ev
open PySem L2
/-- room, and no repr under way -/
structure GRoom (k : Nat) (A : Around) : Prop where
  rm : Room k A
  gd : A.guards = some []
theorem GRoom.mono {j k : Nat} {A : Around} (r : GRoom k A) (h : j ≤ k) : GRoom j A := ⟨r.rm.mono h, r.gd⟩
theorem GRoom.deeper {k : Nat} {A : Around} (r : GRoom (k + 1) A) (env : Env) : GRoom k (A.deeper env) := ⟨r.rm.deeper env, r.gd⟩
theorem GRoom.make {k : Nat} {A : Around} (r : GRoom (k + 1) A) (C : Addr) (us : List Value) (kw : List (Str × Value)) : GRoom k (A.under (.builtin "type.__call__" ⟨.ref C :: us, kw⟩)) := by
  refine ⟨r.rm.make C us kw, ?_⟩
  show pushGuards (Code.guards (.builtin "type.__call__" ⟨.ref C :: us, kw⟩)) A.guards = some []
  rw [r.gd]
  rfl
section
variable (P : Program) (w : World) (K : PySem.W.Frag) (mg : Str → Option Value) (base : Heap)
/-- a def's promise -/
structure FnG (cx : CXT) (k : Nat) (f : Addr) (fd : FuncData) (ps : List Str) (sp : Sp) : Prop where
  len : ∀ vs H Q E, sp vs H Q E → vs.length = ps.length
  go : ∀ (A : Around) (outer : List Env) (s : Shared) (H : Hp) (args : Args) (us : List Value) (vs : List V) (Q : VK) (E : XK), GRoom k A → Env0 P w K mg base A outer s H →
    BindsTo s fd args (ps.zip us) → Vals vs us → sp vs H Q E → codeAny (model P w) A (.call (.ref f) args) (CR cx outer P w H s Q E) s
end
theorem fng_of {cx : CXT} {P : Program} {w : World} {K : PySem.W.Frag} {mg : Str → Option Value} {base : Heap} {k : Nat} {f : Addr} {nm ql : Str} {prm : Arguments} {bd : List Stmt} {scp : Scope} {dV kV doc pm cdv ct oc : Value} {an od : Option Addr}
    {osl : Array (Option Value)} {N ps : List Str} {sp : Sp} (there : K.lookup f = some ⟨oc, od, .func (PySem.W.fnOf nm ql prm bd scp dV kV doc pm an cdv ct), osl⟩) (code : PySem.W.codeIn K cdv ql = true) (S : FnScope N ps scp)
    (len : ∀ vs H Q E, sp vs H Q E → vs.length = ps.length)
    (body : ∀ (A : Around) (outer : List Env) (s : Shared) (H : Hp) (vs : List V) (Q : VK) (E : XK), GRoom k (A.deeper (PyProof.Rows.envOfC ql scp s.heap.objs.size f cdv)) → sp vs H Q E →
      ∃ t, PSs (cxOf cx P w K mg base N ql scp f cdv A outer s H E) bd t ∧ t { nx := fun _ H' => Q .non H', rt := Q } (start N vs) H) :
    FnG P w K mg base cx (k + 1) f (PySem.W.fnOf nm ql prm bd scp dV kV doc pm an cdv ct) ps sp := by
  constructor
  · exact len
  intro A outer s H args us vs Q E room at0 bind rel want
  have kin : K.In s.heap := at0.mod.kin.keeps fun b o q => (at0.bs b o q).1
  have lim : s.heap.NoLimit := at0.mod.nolimit.keeps fun b o q => (at0.bs b o q).1
  have kinds : ∀ y ∈ ps.zip us, scp.names.lookup y.1 = some .local ∨
      (scp.names.lookup y.1 = some .cell ∧ ((cellsFrom (s.heap.objs.size + 1) scp.names []).lookup y.1).isSome = true) := by
    rintro ⟨n, v⟩ hy
    cases S.par n (List.of_mem_zip hy).1 with
    | inl q => exact Or.inl q
    | inr q => exact Or.inr ⟨q, PySem.W.cellsFrom_some _ _ _ (Or.inl q)⟩
  apply codeAny_call_function room.rm.depth (kin _ _ there) rfl S.co S.gen rfl (PySem.W.codeRec_of kin code) (bind _ _ _ _ _)
  apply wpAny_newFunctionEnv_cells S.kind kinds
  intro env ee s1 fr
  subst ee
  refine And.intro (lim.keeps fr.toInCall.keep) (codeAny_func ?_)
  obtain ⟨t, ht, hq⟩ := body A outer s H vs Q E (room.deeper _) want
  have J : Inv (cxOf cx P w K mg base N ql scp f cdv A outer s H E) [] (start N vs) H s1 :=
    inv_start S room.rm.hd at0 (len _ _ _ _ want) rel fr
  have out : ∀ {σ' : St} {H' : Hp} {v : V} {u : Value} {s' : Shared}, Inv (cxOf cx P w K mg base N ql scp f cdv A outer s H E) [] σ' H' s' → RelV v u → Q v H' → CE outer P w H s Q u s' := by
    intro σ' H' v u s' J' rv q
    exact ⟨v, H', J'.os, J'.bare, J'.base, J'.hok, rv, q⟩
  refine wpAny_mono (ht.run [] s1 (start N vs) H _ J hq) ?_ (fun _ _ h => h)
  intro fl s' hs
  match fl, hs with
  | .ret u, ⟨v, σ', H', J', rv, q⟩ => exact out J' rv q
  | .next, ⟨σ', H', J', q⟩ => exact out (v := V.non) (u := Value.none) J' rfl q
  | .brk, ⟨_, _, _, q⟩ => exact q.elim
  | .cont, ⟨_, _, _, q⟩ => exact q.elim
section
variable {X : Cx} {cx : CXT} {k : Nat} {f : Addr} {fd : FuncData} {ps : List Str} {sp : Sp} {E : XK}
/-- the callee runs: args bound to the parameters' values ws -/
theorem run_g {pins : List (Addr × Obj)} {σ : St} {H : Hp} {s : Shared} {Q : VK} {us ws : List Value} {kw : List (Str × Value)} {vs : List V} (F : FnG X.prog X.w X.K X.mg X.base cx k f fd ps sp) (room : GRoom k X.A)
    (bind : BindsTo s fd ⟨us, kw⟩ (ps.zip ws)) (pass : PassesAt cx X σ E) (I : Inv X pins σ H s) (rel : Vals vs ws) (want : sp vs H Q E) :
    wpAny (model X.prog X.w) X.A (call (.ref f) us kw) (EP X pins σ Q) X.xe s := by
  apply wpAny_call
  refine codeAny_mono (F.go X.A X.stack s H ⟨us, kw⟩ ws vs Q E room I.env0 bind rel want) ?_
  intro r s' hr
  match r, hr with
  | .error e, hr => exact pass pins H s e s' I hr
  | .ok (.ret u), hr => exact I.after hr
  | .ok .next, hr => exact hr.elim
  | .ok .brk, hr => exact hr.elim
  | .ok .cont, hr => exact hr.elim
end
end Ev


set_option Elab.async false
set_option linter.all false
set_option maxRecDepth 100000
set_option maxHeartbeats 4000000
/-! Calls: three ways to hand a store on. -/
namespace Ev
open PySem L2
/-- what is wanted of a call -/
def okC (g : Gx) (b : Nat) (E : XK) (w : Wd) (r : Res (PV × Sto)) (Q : VK) : Prop := match r with
  | .ok (v, μ') => ∀ (w' : Wd) (x : V), w'.μ = μ' → Le b w w' → Rel g b w' → Den g w' v x → Q x w'.H
  | .exc e μ' => ∀ (w' : Wd) (cls : Value) (d : Option Addr), w'.μ = μ' → Le b w w' → Rel g b w' → DenX g w' e cls d → E cls d w'.H
  | .err => False
def spF (g : Gx) (φ : List PV → Nat → Sto → Res (PV × Sto)) : Sp := fun vs H Q E => ∃ (w : Wd) (args : List PV) (b : Nat), w.H = H ∧ Rel g b w ∧ Dens g w args vs ∧ okC g b E w (φ args b w.μ) Q
theorem keys_sub {f : Nat → Option PV} : ∀ (ks ks' : List PV) {K : List Key}, PV.subs f ks = some ks' → Keys ks K → Keys ks' K
  | [], _, _, e, d => by
    simp only [PV.subs, Option.some.injEq] at e
    subst e
    exact d
  | k :: ks, _, _, e, d => by
    simp only [PV.subs, Option.bind_eq_some_iff, Option.map_eq_some_iff] at e
    obtain ⟨k', e1, ks', e2, rfl⟩ := e
    simp only [Keys] at d ⊢
    obtain ⟨x, s, rfl, h1, h2⟩ := d
    refine ⟨x, s, rfl, ?_, keys_sub ks ks' e2 h2⟩
    cases k <;> simp only [keyV, Option.some.injEq, reduceCtorEq] at h1 <;> simp only [PV.sub, Option.some.injEq] at e1 <;> subst e1 <;> simpa only [keyV, Option.some.injEq] using h1
theorem keys_lt {m : Nat} : ∀ (ks : List PV) (K : List Key), Keys ks K → PV.refsLt m ks = true
  | [], _, _ => rfl
  | k :: ks, _, d => by
    simp only [Keys] at d
    obtain ⟨x, s, rfl, h1, h2⟩ := d
    simp only [PV.refsLt, Bool.and_eq_true]
    refine ⟨?_, keys_lt ks s h2⟩
    cases k <;> simp only [keyV, reduceCtorEq] at h1 <;> rfl
section
variable {g : Gx} {b n : Nat} {w w1 t : Wd}
/-- a world t takes over from w1, whose references from n on are gone -/
structure Ov (n : Nat) (w1 t : Wd) : Prop where
  h : t.H = w1.H
  nb : ∀ a, ¬ w1.B a → ¬ t.B a
  low : ∀ (i : Nat) (a : Addr), i < n → w1.ρ[i]? = some a → t.ρ[i]? = some a
structure Over (n : Nat) (w1 t : Wd) : Prop extends Ov n w1 t where
  high : ∀ (i : Nat) (a : Addr), ¬ i < n → w1.ρ[i]? = some a → ¬ t.B a
mutual
theorem sub_den (O : Ov n w1 t) {f : Nat → Option PV} (hf : ∀ (i : Nat) (v' : PV), f i = some v' → ∀ a, w1.ρ[i]? = some a → Den g t v' (.ref a)) : ∀ (v v' : PV) (x : V), v.sub f = some v' → Den g w1 v x → Den g t v' x
  | .non, _, _, e, d => by simp only [PV.sub, Option.some.injEq] at e; subst e; simpa only [Den] using d
  | .bl _, _, _, e, d => by simp only [PV.sub, Option.some.injEq] at e; subst e; simpa only [Den] using d
  | .int _, _, _, e, d => by simp only [PV.sub, Option.some.injEq] at e; subst e; simpa only [Den] using d
  | .str _, _, _, e, d => by simp only [PV.sub, Option.some.injEq] at e; subst e; simpa only [Den] using d
  | .gd _, _, _, e, d => by simp only [PV.sub, Option.some.injEq] at e; subst e; simpa only [Den] using d
  | .exn c as vs, _, _, e, d => by
    simp only [PV.sub, Option.map_eq_some_iff] at e
    obtain ⟨vs', e2, rfl⟩ := e
    simp only [Den] at d ⊢
    obtain ⟨a, dx, fs, rfl, s1, s2, k, d⟩ := d
    exact ⟨a, dx, fs, rfl, O.h ▸ s1, O.h ▸ s2, k, subs_den O hf vs vs' _ e2 d⟩
  | .tup xs, _, _, e, d => by
    simp only [PV.sub, Option.map_eq_some_iff] at e
    obtain ⟨ys, e1, rfl⟩ := e
    simp only [Den] at d ⊢
    obtain ⟨a, vs, rfl, s, d⟩ := d
    exact ⟨a, vs, rfl, O.h ▸ s, subs_den O hf xs ys vs e1 d⟩
  | .lst xs, _, _, e, d => by
    simp only [PV.sub, Option.map_eq_some_iff] at e
    obtain ⟨ys, e1, rfl⟩ := e
    simp only [Den] at d ⊢
    obtain ⟨a, vs, rfl, nb, s, d⟩ := d
    exact ⟨a, vs, rfl, O.nb a nb, O.h ▸ s, subs_den O hf xs ys vs e1 d⟩
  | .scr ns, _, _, e, d => by
    simp only [PV.sub, Option.some.injEq] at e
    subst e
    simp only [Den] at d ⊢
    obtain ⟨a, rfl, s⟩ := d
    exact ⟨a, rfl, O.h ▸ s⟩
  | .dct ks vs, _, _, e, d => by
    simp only [PV.sub, Option.bind_eq_some_iff, Option.map_eq_some_iff] at e
    obtain ⟨ks', e1, vs', e2, rfl⟩ := e
    simp only [Den] at d ⊢
    obtain ⟨a, kvs, rfl, nb, s, k, d⟩ := d
    exact ⟨a, kvs, rfl, O.nb a nb, O.h ▸ s, keys_sub ks ks' e1 k, subs_den O hf vs vs' _ e2 d⟩
  | .ins c as vs, _, _, e, d => by
    simp only [PV.sub, Option.map_eq_some_iff] at e
    obtain ⟨vs', e2, rfl⟩ := e
    simp only [Den] at d ⊢
    obtain ⟨a, dx, fs, rfl, nb, s, k, d⟩ := d
    exact ⟨a, dx, fs, rfl, O.nb a nb, O.h ▸ s, k, subs_den O hf vs vs' _ e2 d⟩
  | .ref i, v', _, e, d => by
    simp only [PV.sub] at e
    simp only [Den] at d
    obtain ⟨a, rfl, hr⟩ := d
    exact hf i v' e a hr
theorem subs_den (O : Ov n w1 t) {f : Nat → Option PV} (hf : ∀ (i : Nat) (v' : PV), f i = some v' → ∀ a, w1.ρ[i]? = some a → Den g t v' (.ref a)) : ∀ (vs vs' : List PV) (xs : List V), PV.subs f vs = some vs' → Dens g w1 vs xs → Dens g t vs' xs
  | [], _, _, e, d => by
    simp only [PV.subs, Option.some.injEq] at e
    subst e
    cases d.inv_nil
    exact .nil
  | v :: vs, _, _, e, d => by
    simp only [PV.subs, Option.bind_eq_some_iff, Option.map_eq_some_iff] at e
    obtain ⟨v', e1, vs', e2, rfl⟩ := e
    obtain ⟨x, r, rfl, d1, d2⟩ := d.inv_cons
    exact .cons (sub_den O hf v v' x e1 d1) (subs_den O hf vs vs' r e2 d2)
end
theorem frz_den (O : Ov n w1 t) (R : Rel g b w1) {f : Nat → Option PV} (hf : ∀ (i : Nat) (v' : PV), f i = some v' → ∀ a, w1.ρ[i]? = some a → Den g t v' (.ref a)) {o : MO} {v' : PV} {i : Nat} {a : Addr} (e : o.frz f = some v') (nb : ¬ t.B a)
    (hm : w1.μ[i]? = some (some o)) (hr : w1.ρ[i]? = some a) : Den g t v' (.ref a) := by
  have d := R.obj i o a hm hr
  have hH := O.h
  cases o with
  | lst xs =>
    simp only [MO.frz, Option.map_eq_some_iff] at e
    obtain ⟨ys, e1, rfl⟩ := e
    obtain ⟨vs, h1, h2⟩ := d
    simp only [Den]
    exact ⟨a, vs, rfl, nb, by rw [hH]; exact h1, subs_den O hf xs ys vs e1 h2⟩
  | dct ks vs =>
    simp only [MO.frz, Option.bind_eq_some_iff, Option.map_eq_some_iff] at e
    obtain ⟨ks', e1, vs', e2, rfl⟩ := e
    obtain ⟨kvs, h1, h2, h3⟩ := d
    simp only [Den]
    exact ⟨a, kvs, rfl, nb, .inl (by rw [hH]; exact h1), keys_sub ks ks' e1 h2, subs_den O hf vs vs' _ e2 h3⟩
  | ins c as vs =>
    simp only [MO.frz, Option.map_eq_some_iff] at e
    obtain ⟨vs', e2, rfl⟩ := e
    obtain ⟨dx, fs, h1, h2, h3⟩ := d
    simp only [Den]
    exact ⟨a, dx, fs, rfl, nb, by rw [hH]; exact h1, h2, subs_den O hf vs vs' _ e2 h3⟩
theorem frzAt_den (O : Over n w1 t) (R : Rel g b w1) : ∀ (k i : Nat) (v' : PV), frzAt w1.μ n k i = some v' → ∀ a, w1.ρ[i]? = some a → Den g t v' (.ref a)
  | 0, _, _, e, _, _ => by simp [frzAt] at e
  | k + 1, i, v', e, a, hr => by
    unfold frzAt at e
    split at e
    · rename_i hi
      simp only [Option.some.injEq] at e
      subst e
      simp only [Den]
      exact ⟨a, rfl, O.low i a (by simpa [Nat.blt_eq] using hi) hr⟩
    · rename_i hi
      split at e
      · rename_i o hm
        exact frz_den O.toOv R (fun j u h c hc => frzAt_den O R k j u h c hc) e (O.high i a (by simpa [Nat.blt_eq] using hi) hr) hm hr
      · cases e
theorem freeze_den (O : Over n w1 t) (R : Rel g b w1) {v v' : PV} {x : V} (e : freeze w1.μ n v = some v') (d : Den g w1 v x) : Den g t v' x :=
  sub_den O.toOv (fun i v' h a ha => frzAt_den O R 12 i v' h a ha) v v' x e d
theorem freeze_denX (O : Over n w1 t) (R : Rel g b w1) {v v' : PV} {c : Value} {dd : Option Addr} (e : freeze w1.μ n v = some v') (d : DenX g w1 v c dd) : DenX g t v' c dd := by
  unfold DenX at d
  split at d
  · rename_i c as vs
    unfold freeze at e
    simp only [PV.sub, Option.map_eq_some_iff] at e
    obtain ⟨vs', e2, rfl⟩ := e
    obtain ⟨h1, a, fs, h2, h3, h4, h5⟩ := d
    exact ⟨h1, a, fs, h2, by rw [O.h]; exact h3, h4, subs_den O.toOv (fun i v' h a ha => frzAt_den O R 12 i v' h a ha) vs vs' _ e2 h5⟩
  · exact d.elim
-- the same value in a world that has its references
mutual
theorem cut_den (O : Ov n w1 t) : ∀ (v : PV) (x : V), v.refLt n = true → Den g w1 v x → Den g t v x
  | .non, _, _, d => by simpa only [Den] using d
  | .bl _, _, _, d => by simpa only [Den] using d
  | .int _, _, _, d => by simpa only [Den] using d
  | .str _, _, _, d => by simpa only [Den] using d
  | .gd _, _, _, d => by simpa only [Den] using d
  | .exn c as vs, _, h, d => by
    simp only [PV.refLt] at h
    simp only [Den] at d ⊢
    obtain ⟨a, dx, fs, rfl, s1, s2, k, d⟩ := d
    exact ⟨a, dx, fs, rfl, O.h ▸ s1, O.h ▸ s2, k, cuts_den O vs _ h d⟩
  | .scr _, _, _, d => by simp only [Den] at d ⊢; rw [O.h]; exact d
  | .tup xs, _, h, d => by
    simp only [PV.refLt] at h
    simp only [Den] at d ⊢
    obtain ⟨a, vs, rfl, s, d⟩ := d
    exact ⟨a, vs, rfl, O.h ▸ s, cuts_den O xs vs h d⟩
  | .lst xs, _, h, d => by
    simp only [PV.refLt] at h
    simp only [Den] at d ⊢
    obtain ⟨a, vs, rfl, nb, s, d⟩ := d
    exact ⟨a, vs, rfl, O.nb a nb, O.h ▸ s, cuts_den O xs vs h d⟩
  | .dct ks vs, _, h, d => by
    simp only [PV.refLt, Bool.and_eq_true] at h
    simp only [Den] at d ⊢
    obtain ⟨a, kvs, rfl, nb, s, k, d⟩ := d
    exact ⟨a, kvs, rfl, O.nb a nb, O.h ▸ s, k, cuts_den O vs _ h.2 d⟩
  | .ins c as vs, _, h, d => by
    simp only [PV.refLt] at h
    simp only [Den] at d ⊢
    obtain ⟨a, dx, fs, rfl, nb, s, k, d⟩ := d
    exact ⟨a, dx, fs, rfl, O.nb a nb, O.h ▸ s, k, cuts_den O vs _ h d⟩
  | .ref i, _, h, d => by
    simp only [PV.refLt, Nat.blt_eq] at h
    simp only [Den] at d ⊢
    obtain ⟨a, rfl, hr⟩ := d
    exact ⟨a, rfl, O.low i a h hr⟩
theorem cuts_den (O : Ov n w1 t) : ∀ (vs : List PV) (xs : List V), PV.refsLt n vs = true → Dens g w1 vs xs → Dens g t vs xs
  | [], _, _, d => by cases d.inv_nil; exact .nil
  | v :: vs, _, h, d => by
    simp only [PV.refsLt, Bool.and_eq_true] at h
    obtain ⟨x, r, rfl, d1, d2⟩ := d.inv_cons
    exact .cons (cut_den O v x h.1 d1) (cuts_den O vs r h.2 d2)
end
theorem cutO_den (O : Ov n w1 t) {o : MO} {h : Option HO} (r : o.refLt n = true) (d : DenO g w1 o h) : DenO g t o h := by
  cases o with
  | lst xs => obtain ⟨vs, e, d⟩ := d; exact ⟨vs, e, cuts_den O xs vs r d⟩
  | dct ks vs =>
    simp only [MO.refLt, Bool.and_eq_true] at r
    obtain ⟨kvs, e, k, d⟩ := d
    exact ⟨kvs, e, k, cuts_den O vs _ r.2 d⟩
  | ins c as vs => obtain ⟨dx, fs, e, k, d⟩ := d; exact ⟨dx, fs, e, k, cuts_den O vs _ r d⟩
-- references are bound by the store
mutual
theorem den_lt : ∀ (v : PV) (x : V), Den g w v x → v.refLt w.ρ.length = true
  | .non, _, _ => rfl
  | .bl _, _, _ => rfl
  | .int _, _, _ => rfl
  | .str _, _, _ => rfl
  | .gd _, _, _ => rfl
  | .scr _, _, _ => rfl
  | .exn c as vs, _, d => by
    simp only [Den] at d
    obtain ⟨a, dx, fs, rfl, s1, s2, k, d⟩ := d
    exact dens_lt vs _ d
  | .tup xs, _, d => by
    simp only [Den] at d
    obtain ⟨a, vs, rfl, s, d⟩ := d
    exact dens_lt xs vs d
  | .lst xs, _, d => by
    simp only [Den] at d
    obtain ⟨a, vs, rfl, nb, s, d⟩ := d
    exact dens_lt xs vs d
  | .dct ks vs, _, d => by
    simp only [Den] at d
    obtain ⟨a, kvs, rfl, nb, s, k, d⟩ := d
    simp only [PV.refLt, Bool.and_eq_true]
    exact ⟨keys_lt ks _ k, dens_lt vs _ d⟩
  | .ins c as vs, _, d => by
    simp only [Den] at d
    obtain ⟨a, dx, fs, rfl, nb, s, k, d⟩ := d
    exact dens_lt vs _ d
  | .ref i, _, d => by
    simp only [Den] at d
    obtain ⟨a, rfl, hr⟩ := d
    simp only [PV.refLt, Nat.blt_eq]
    exact (List.getElem?_eq_some_iff.mp hr).1
theorem dens_lt : ∀ (vs : List PV) (xs : List V), Dens g w vs xs → PV.refsLt w.ρ.length vs = true
  | [], _, _ => rfl
  | v :: vs, _, d => by
    obtain ⟨x, r, rfl, d1, d2⟩ := d.inv_cons
    simp only [PV.refsLt, Bool.and_eq_true]
    exact ⟨den_lt v x d1, dens_lt vs r d2⟩
end
theorem denO_lt {o : MO} {h : Option HO} (d : DenO g w o h) : o.refLt w.ρ.length = true := by
  cases o with
  | lst xs => obtain ⟨vs, e, d⟩ := d; exact dens_lt xs vs d
  | dct ks vs =>
    obtain ⟨kvs, e, k, d⟩ := d
    simp only [MO.refLt, Bool.and_eq_true]
    exact ⟨keys_lt ks _ k, dens_lt vs _ d⟩
  | ins c as vs => obtain ⟨dx, fs, e, k, d⟩ := d; exact dens_lt vs _ d
/-! ### the store cut at its old length -/
def Wd.cut (w w1 : Wd) : Wd := ⟨w.Z, w.ρ, w1.μ.take w.μ.length, w1.H⟩
theorem take_get {α : Type} {l : List α} {n i : Nat} {x : α} (h : (l.take n)[i]? = some x) : i < n ∧ l[i]? = some x := by
  rw [List.getElem?_take] at h
  split at h
  · rename_i hi
    exact ⟨hi, h⟩
  · cases h
theorem cut_over (R : Rel g b w) (R1 : Rel g w.μ.length w1) (L : Le w.μ.length w w1) : Over w.μ.length w1 (w.cut w1) where
  h := rfl
  nb := fun a n q => by
    rcases q with q | ⟨i, o, h1, h2⟩
    · exact n (.inl (by rw [L.z]; exact q))
    · exact n (.inr ⟨i, o, (take_get h1).2, pre_get L.pre h2⟩)
  low := fun i a hi h => by
    have hi' : i < w.ρ.length := by rw [R.len]; exact hi
    have e := List.getElem?_eq_getElem hi'
    have e2 := pre_get L.pre e
    rw [h] at e2
    rw [e2]
    exact e
  high := fun i a hi h q => by
    rcases q with q | ⟨j, o, h1, h2⟩
    · exact R1.nz a (List.mem_of_getElem? h) (by rw [L.z]; exact q)
    · have := nodup_at R1.nd h (pre_get L.pre h2)
      subst this
      exact hi (take_get h1).1
theorem cut_le (R : Rel g b w) (R1 : Rel g w.μ.length w1) (L : Le w.μ.length w w1) : Le b w (w.cut w1) where
  z := rfl
  pre := List.prefix_refl _
  keepf := fun a o h n => ⟨(L.keepf a o h n).1, (cut_over R R1 L).nb a (L.keepf a o h n).2⟩
  zkeep := L.zkeep
  old := fun i o' hi h => L.old i o' (Nat.lt_of_lt_of_le hi R.blen) (take_get h).2
theorem cut_rel (R : Rel g b w) (R1 : Rel g w.μ.length w1) (L : Le w.μ.length w w1) : Rel g b (w.cut w1) where
  len := by
    show w.ρ.length = (w1.μ.take w.μ.length).length
    rw [List.length_take, R.len]
    have := R1.blen
    omega
  blen := by
    show b ≤ (w1.μ.take w.μ.length).length
    rw [List.length_take]
    have := R1.blen
    have := R.blen
    omega
  nd := R.nd
  nz := R.nz
  tr := fun a ha => by
    obtain ⟨r, e⟩ := L.pre
    exact R1.tr a (by rw [← e]; exact List.mem_append_left _ ha)
  zk := fun a z => R1.zk a (by rw [L.z]; exact z)
  obj := fun i o a h1 h2 => by
    have h3 := R1.obj i o a (take_get h1).2 (pre_get L.pre h2)
    obtain ⟨o0, h4, h5⟩ := L.old i o (take_get h1).1 (take_get h1).2
    have h6 := h5 _ (denO_lt (R.obj i o0 a h4 h2))
    rw [R.len] at h6
    exact cutO_den (cut_over R R1 L).toOv h6 h3
/-! ### a store of one's own -/
def Wd.bare (w : Wd) : Wd := ⟨w.B, [], [], w.H⟩
theorem bare_B {a : Addr} : (w.bare).B a ↔ w.B a := by
  constructor
  · rintro (h | ⟨i, o, h1, _⟩)
    · exact h
    · simp [Wd.bare] at h1
  · exact fun h => .inl h
theorem bare_rel (R : Rel g b w) : Rel g 0 w.bare where
  len := rfl
  blen := Nat.zero_le _
  nd := List.nodup_nil
  nz := fun a ha => absurd ha (by simp [Wd.bare])
  tr := fun a ha => absurd ha (by simp [Wd.bare])
  zk := fun a z => R.kind z
  obj := fun i o a h1 _ => by simp [Wd.bare] at h1
theorem bare_ov : Ov 0 w w.bare := ⟨rfl, fun a n q => n (bare_B.mp q), fun i a hi => absurd hi (Nat.not_lt_zero i)⟩
/-- behind a call with a store of its own -/
def Wd.back (w w1 : Wd) : Wd := ⟨w.Z, w.ρ, w.μ, w1.H⟩
theorem back_B {a : Addr} : (w.back w1).B a ↔ w.B a := Iff.rfl
theorem back_le (R : Rel g b w) (L : Le 0 w.bare w1) : Le b w (w.back w1) where
  z := rfl
  pre := List.prefix_refl _
  keepf := fun a o h n => ⟨(L.keepf a o h (fun q => n (bare_B.mp q))).1, n⟩
  zkeep := fun a z => L.zkeep a (.inl z)
  old := fun i o' _ h => ⟨o', h, fun _ q => q⟩
theorem back_rel (R : Rel g b w) (L : Le 0 w.bare w1) : Rel g b (w.back w1) where
  len := R.len
  blen := R.blen
  nd := R.nd
  nz := R.nz
  tr := fun a ha => by
    show w1.H a ≠ none
    by_cases q : w.B a
    · rw [L.zkeep a q]
      exact R.tr a ha
    · intro e
      have h := R.tr a ha
      cases hh : w.H a with
      | none => exact h hh
      | some o =>
        have := (L.keepf a o hh (fun z => q (bare_B.mp z))).1
        rw [e] at this
        rcases this with z | ⟨_, _, z⟩ <;> cases z
  zk := fun a z => by
    show Kind (w1.H a)
    rw [L.zkeep a (.inl z)]
    exact R.zk a z
  obj := fun i o a h1 h2 => by
    show DenO g (w.back w1) o (w1.H a)
    rw [L.zkeep a (.inr ⟨i, o, h1, h2⟩)]
    exact (R.obj i o a h1 h2).mono R (back_le R L)
theorem back_over (R1 : Rel g 0 w1) (L : Le 0 w.bare w1) : Over 0 w1 (w.back w1) where
  h := rfl
  nb := fun a n q => n (.inl (by rw [L.z]; exact q))
  low := fun i a hi => absurd hi (Nat.not_lt_zero i)
  high := fun i a _ h q => R1.nz a (List.mem_of_getElem? h) (by rw [L.z]; exact q)

/-! ### the three ways -/
variable {W : WX} {σ : St} {Q : VK} {Φ : Calls} {f md : Nat} {vs : List PV} {xs : List V}
theorem callBy_ok (R : Rel g b w) (d : Dens g w vs xs) (k : okE g b W w σ (callBy Φ b f md vs w.μ) Q) : spF g (Φ f) xs w.H Q fun cls dd H => W cls dd σ H := by
  unfold callBy at k
  split at k
  · split at k
    · rename_i hc
      refine ⟨w.bare, vs, 0, rfl, bare_rel R, cuts_den bare_ov vs xs hc d, ?_⟩
      show okC g 0 _ w.bare (Φ f vs 0 []) Q
      cases q : Φ f vs 0 [] with
      | ok p =>
        obtain ⟨v, μ1⟩ := p
        rw [q] at k
        intro w1 x e L R1 d1
        subst e
        dsimp only at k
        cases hf : freeze w1.μ 0 v with
        | none => rw [hf] at k; exact k.elim
        | some v' =>
          rw [hf] at k
          exact k (w.back w1) x rfl (back_le R L) (back_rel R L) (freeze_den (back_over R1 L) R1 hf d1)
      | exc e μ1 =>
        rw [q] at k
        intro w1 cls dd e1 L R1 d1
        subst e1
        dsimp only at k
        cases hf : freeze w1.μ 0 e with
        | none => rw [hf] at k; exact k.elim
        | some e' =>
          rw [hf] at k
          exact k (w.back w1) cls dd rfl (back_le R L) (back_rel R L) (freeze_denX (back_over R1 L) R1 hf d1)
      | err => rw [q] at k; exact k.elim
    · exact k.elim
  · refine ⟨w, vs, w.μ.length, rfl, ⟨R.len, Nat.le_refl _, R.nd, R.nz, R.tr, R.zk, R.obj⟩, d, ?_⟩
    cases q : Φ f vs w.μ.length w.μ with
    | ok p =>
      obtain ⟨v, μ1⟩ := p
      rw [q] at k
      intro w1 x e L R1 d1
      subst e
      dsimp only at k
      cases hf : freeze w1.μ w.μ.length v with
      | none => rw [hf] at k; exact k.elim
      | some v' =>
        rw [hf] at k
        exact k (w.cut w1) x rfl (cut_le R R1 L) (cut_rel R R1 L) (freeze_den (cut_over R R1 L) R1 hf d1)
    | exc e μ1 =>
      rw [q] at k
      intro w1 cls dd e1 L R1 d1
      subst e1
      dsimp only at k
      cases hf : freeze w1.μ w.μ.length e with
      | none => rw [hf] at k; exact k.elim
      | some e' =>
        rw [hf] at k
        exact k (w.cut w1) cls dd rfl (cut_le R R1 L) (cut_rel R R1 L) (freeze_denX (cut_over R R1 L) R1 hf d1)
    | err => rw [q] at k; exact k.elim
  · refine ⟨w, vs, b, rfl, R, d, ?_⟩
    unfold okE at k
    unfold okC
    split at k
    · rename_i h
      first | (rw [h]; exact k) | exact k
    · rename_i h
      first | (rw [h]; exact k) | exact k
    · exact k.elim
end
end Ev


set_option Elab.async false
set_option linter.all false
set_option maxRecDepth 100000
set_option maxHeartbeats 4000000
/-! Lists of expressions, displays, and/or, reading. -/
namespace Ev
open PySem L2
/-- not starred -/
def nst : Expr → Bool
  | .Starred .. => false
  | _ => true
theorem star_ok {e : Expr} (h : nst e = true) (es : List Expr) (env : Env) : starEach (e :: es) env = (false, eval e env) :: starEach es env := by
  cases e <;> first | rfl | simp [nst] at h
theorem stars_ok {env : Env} {pos : Pos} : ∀ {es : List Expr}, es.all nst = true → (backTo pos (starEach es env)).any (·.1) = false
  | [], _ => rfl
  | e :: es, h => by
    simp only [List.all_cons, Bool.and_eq_true] at h
    rw [star_ok h.1]
    have := stars_ok (env := env) (pos := pos) h.2
    simp only [backTo, List.map_cons, List.any_cons, Bool.false_or] at this ⊢
    exact this
/-- no call without arguments -/
def bas : Expr → Bool
  | .Call (.Name _ _) [] [] _ => false
  | _ => true
theorem bas_ok {o : Expr} (h : bas o = true) (m : Str) (env : Env) (x : Sem Value) : attributeBase o m env x = x := by
  unfold attributeBase
  split
  · simp [bas] at h
  · rfl
section
variable {g : Gx} {X : Cx} {W : WX} {b : Nat} {τ : Tab} {Φ : Calls}
theorem okL.imp {w : Wd} {σ : St} {r : Res (List PV × Sto)} {Q Q' : List V → Hp → Prop} (h : okL g b W w σ r Q) (i : ∀ x H, Q x H → Q' x H) : okL g b W w σ r Q' := by
  unfold okL at h ⊢
  split at h
  · exact fun w' x e L R d => i _ _ (h w' x e L R d)
  · exact h
  · exact h
theorem sl_nil : SL g X W b [] (evEs τ Φ b []) := by
  refine PA.imp pa_nil fun σ H Q h => ?_
  obtain ⟨w, σp, rfl, R, L, k⟩ := h
  unfold evEs at k
  exact k w [] rfl (.refl _ _) R .nil
theorem sl_cons {e : Expr} {es : List Expr} {c : C} {cs : List C} (hs : nst e = true) (ha : SE g X W b e (evE τ Φ b c)) (hr : SL g X W b es (evEs τ Φ b cs)) : SL g X W b (e :: es) (evEs τ Φ b (c :: cs)) := by
  refine PA.imp (pa_cons ha.pe hr (star_ok hs es X.env)) fun σ H Q h => ?_
  obtain ⟨w, σp, rfl, R, L, k⟩ := h
  unfold evEs at k
  refine ⟨w, σp, rfl, R, L, (okL.step k).imp fun x H1 ⟨w1, v, e1, L1, R1, d1, _, k1⟩ => ?_⟩
  refine ⟨w1, σp, e1, R1, L.mono R L1, (okL.stepL k1).imp fun y H2 ⟨w2, u, e2, L2, R2, d2, _, k2⟩ => ?_⟩
  subst e2
  exact k2 w2 _ rfl (.refl _ _) R2 (.cons (d1.mono R1 L2) d2)
theorem se_tup (hK : g.K = X.K) {es : List Expr} {cs : List C} {pos : Pos} {x1} (h : SL g X W b es (evEs τ Φ b cs)) : SE g X W b (.Tuple es x1 pos) (evE τ Φ b (.tup cs)) := by
  refine .of hK rfl (PE.imp (pe_tup h) fun σ H Q h => ?_)
  obtain ⟨w, σp, rfl, R, L, k⟩ := h
  unfold evE at k
  refine ⟨w, σp, rfl, R, L, (okE.stepL k).imp fun xs H1 ⟨w1, vs, e1, L1, R1, d1, _, k1⟩ => ?_⟩
  subst e1
  dsimp only at k1
  split at k1
  · rename_i hl
    refine ⟨by rw [← d1.length, ← line_eq]; exact hl, fun p hp => ?_⟩
    exact okR.tup (w := w1) k1 R1 d1 p hp
  · exact k1.elim
theorem se_lst (hK : g.K = X.K) {m : Bool} {es : List Expr} {cs : List C} {pos : Pos} (h : SL g X W b es (evEs τ Φ b cs)) : SE g X W b (.List es pos) (evE τ Φ b (.lst m cs)) := by
  refine .of hK rfl (PE.imp (pe_lst h) fun σ H Q h => ?_)
  obtain ⟨w, σp, rfl, R, L, k⟩ := h
  unfold evE at k
  refine ⟨w, σp, rfl, R, L, (okE.stepL k).imp fun xs H1 ⟨w1, vs, e1, L1, R1, d1, _, k1⟩ => ?_⟩
  subst e1
  dsimp only at k1
  split at k1
  · rename_i hl
    refine ⟨by rw [← d1.length, ← line_eq]; exact hl, fun p hp => ?_⟩
    exact okR.new (w := w1) k1 R1 d1 p hp
  · exact k1.elim
theorem se_dnew (hK : g.K = X.K) {m : Bool} {pos : Pos} : SE g X W b (.Dict [] [] pos) (evE τ Φ b (.dnew m)) := by
  refine .of hK rfl (PE.imp pe_dnewK fun σ H Q h => ?_)
  obtain ⟨w, σp, rfl, R, L, k⟩ := h
  unfold evE at k
  intro p hp
  cases m with
  | false =>
    rw [if_neg Bool.false_ne_true] at k
    refine k (w.put p (.dK [])) (.ref p) rfl (put_le R hp) (put_rel R hp) ?_
    simp only [Den]
    exact ⟨p, [], rfl, put_nb R hp, .inl upd_same, rfl, by simp only [Dens, List.map_nil]⟩
  | true =>
    rw [if_pos rfl] at k
    have L1 : Le b w (w.add p (.dK []) (.dct [] [])) := add_le R R.blen hp
    refine k (w.add p (.dK []) (.dct [] [])) (.ref p) rfl L1 (add_rel R hp ⟨[], rfl, rfl, by simp only [Dens, List.map_nil]⟩) ?_
    simp only [Den]
    refine ⟨p, rfl, ?_⟩
    show (w.ρ ++ [p])[w.μ.length]? = some p
    rw [← R.len]
    simp
/-! ### and, or -/
theorem se_and1 (hK : g.K = X.K) {e : Expr} {c : C} {pos : Pos} (h : SE g X W b e (evE τ Φ b c)) : SE g X W b (.BoolOp .And [e] pos) (evE τ Φ b (.and [c])) := by
  have eq : (evE τ Φ b (.and [c])) = evE τ Φ b c := by
    funext σ μ
    rw [evE, evAnd]
    cases evE τ Φ b c σ μ <;> rfl
  rw [eq]
  exact ⟨pe_one h.pe, (pw_and1 h.pt).pt⟩
theorem se_or1 (hK : g.K = X.K) {e : Expr} {c : C} {pos : Pos} (h : SE g X W b e (evE τ Φ b c)) : SE g X W b (.BoolOp .Or [e] pos) (evE τ Φ b (.or [c])) := by
  have eq : (evE τ Φ b (.or [c])) = evE τ Φ b c := by
    funext σ μ
    rw [evE, evOr]
    cases evE τ Φ b c σ μ <;> rfl
  rw [eq]
  exact ⟨pe_one h.pe, (pw_or1 h.pt).pt⟩
theorem okB.le {w w1 : Wd} {σ : St} {r : Res (Bool × Sto)} {Q : Bool → Hp → Prop} (h : okB g b W w σ r Q) (L : Le b w w1) : okB g b W w1 σ r Q := by
  unfold okB at h ⊢
  split at h
  · exact fun w' e L' R' => h w' e (L.trans L') R'
  · exact h.le L
  · exact h
theorem okE.le {w w1 : Wd} {σ : St} {r : Res (PV × Sto)} {Q : VK} (h : okE g b W w σ r Q) (L : Le b w w1) : okE g b W w1 σ r Q := by
  unfold okE at h ⊢
  split at h
  · exact fun w' x e L' R' d => h w' x e (L.trans L') R' d
  · exact h.le L
  · exact h
theorem okB.imp {w : Wd} {σ : St} {r : Res (Bool × Sto)} {Q Q' : Bool → Hp → Prop} (h : okB g b W w σ r Q) (i : ∀ x H, Q x H → Q' x H) : okB g b W w σ r Q' := by
  unfold okB at h ⊢
  split at h
  · exact fun w' e L R => i _ _ (h w' e L R)
  · exact h
  · exact h
theorem boolop (hK : g.K = X.K) (isAnd : Bool) {op : BoolOp} {e e2 : Expr} {es : List Expr} {c : C} {fr fw : Loc → Sto → Res (PV × Sto)} {pos : Pos}
    (hop : op = if isAnd then .And else .Or)
    (heq : ∀ σ μ, fw σ μ = (evE τ Φ b c σ μ).bind fun p => (Res.of (truth p.2 p.1)).bind fun r => if r = isAnd then fr σ p.2 else .ok p)
    (h : SE g X W b e (evE τ Φ b c)) (hr : SE g X W b (.BoolOp op (e2 :: es) pos) fr) (hw : PW X (.BoolOp op (e2 :: es) pos) (tT g b W (evT fr))) :
    SE g X W b (.BoolOp op (e :: e2 :: es) pos) fw ∧ PW X (.BoolOp op (e :: e2 :: es) pos) (tT g b W (evT fw)) := by
  have key : ∀ (w : Wd) (σ : St) (σp : Loc) (Q : VK), RelL g w σp σ → Rel g b w → okE g b W w σ (fw σp w.μ) Q → okE g b W w σ (evE τ Φ b c σp w.μ) fun x H1 => ∃ k, TruV X.K x H1 k ∧ if k = isAnd then tE g b W fr σ H1 Q else Q x H1 := by
    intro w σ σp Q L R k
    rw [heq] at k
    refine (okE.step k).imp fun x H1 ⟨w1, v, e1, L1, R1, d1, _, k1⟩ => ?_
    dsimp only at k1
    cases q : truth w1.μ v with
    | none => rw [q] at k1; exact k1.elim
    | some r =>
      rw [q] at k1
      subst e1
      refine ⟨r, hK ▸ truth_ok R1 d1 q, ?_⟩
      have k1 : okE g b W w1 σ (if r = isAnd then fr σp w1.μ else .ok (v, w1.μ)) Q := k1
      split
      · rename_i hc
        rw [if_pos hc] at k1
        exact ⟨w1, σp, rfl, R1, L.mono R L1, k1⟩
      · rename_i hc
        rw [if_neg hc] at k1
        exact k1 w1 x rfl (.refl _ _) R1 d1
  have keyT : ∀ (w : Wd) (σ : St) (σp : Loc) (Q : Bool → Hp → Prop), RelL g w σp σ → Rel g b w → okB g b W w σ (evT fw σp w.μ) Q → okB g b W w σ (evT (evE τ Φ b c) σp w.μ) fun r H1 => if r = isAnd then tT g b W (evT fr) σ H1 Q else Q r H1 := by
    intro w σ σp Q L R k
    unfold evT at k ⊢
    rw [heq, Res.bind_assoc] at k
    have k' : okB g b W w σ ((evE τ Φ b c σp w.μ).bind fun p => (Res.of (truth p.2 p.1)).bind fun r => if r = isAnd then evT fr σp p.2 else .ok (r, p.2)) Q := by
      refine cast ?_ k
      congr 1
      cases evE τ Φ b c σp w.μ with
      | ok p =>
        simp only [Res.bind]
        cases q : truth p.2 p.1 with
        | none => rfl
        | some r =>
          simp only [Res.of]
          by_cases hc : r = isAnd
          · simp only [if_pos hc]; rfl
          · simp only [if_neg hc, q, Option.map_some]
      | exc _ _ => rfl
      | err => rfl
    refine (okB.stepT (f := fun r _ μ => if r = isAnd then evT fr σp μ else .ok (r, μ)) k').imp fun r H1 ⟨w1, v, e1, L1, R1, ex, qt, k1⟩ => ?_
    subst e1
    by_cases hc : r = isAnd
    · rw [if_pos hc] at k1 ⊢
      exact ⟨w1, σp, rfl, R1, L.mono R L1, k1⟩
    · rw [if_neg hc] at k1 ⊢
      exact k1 w1 rfl (.refl _ _) R1
  have W1 : PW X (.BoolOp op (e :: e2 :: es) pos) (tT g b W (evT fw)) := by
    subst hop
    cases isAnd with
    | true =>
      refine ⟨fun sz pins s σ H Q I hq => (pw_and h.pt hw).run sz pins s σ H Q I ?_⟩
      obtain ⟨w, σp, rfl, R, L, k⟩ := hq
      refine ⟨w, σp, rfl, R, L, (keyT w σ σp Q L R k).imp fun r H1 q => ?_⟩
      cases r with
      | true => rw [if_pos rfl] at q ⊢; exact q
      | false => rw [if_neg Bool.false_ne_true] at q ⊢; exact q
    | false =>
      refine ⟨fun sz pins s σ H Q I hq => (pw_or h.pt hw).run sz pins s σ H Q I ?_⟩
      obtain ⟨w, σp, rfl, R, L, k⟩ := hq
      refine ⟨w, σp, rfl, R, L, (keyT w σ σp Q L R k).imp fun r H1 q => ?_⟩
      cases r with
      | true => rw [if_neg (by decide)] at q; rw [if_pos rfl]; exact q
      | false => rw [if_pos rfl] at q; rw [if_neg Bool.false_ne_true]; exact q
  refine ⟨⟨?_, W1.pt⟩, W1⟩
  subst hop
  cases isAnd with
  | true =>
    refine PE.imp (pe_andT h.pe hr.pe) fun σ H Q hq => ?_
    obtain ⟨w, σp, rfl, R, L, k⟩ := hq
    refine ⟨w, σp, rfl, R, L, (key w σ σp Q L R k).imp fun x H1 ⟨r, t, q⟩ => ⟨r, t, ?_⟩⟩
    exact q
  | false =>
    refine PE.imp (pe_orT h.pe hr.pe) fun σ H Q hq => ?_
    obtain ⟨w, σp, rfl, R, L, k⟩ := hq
    refine ⟨w, σp, rfl, R, L, (key w σ σp Q L R k).imp fun x H1 ⟨r, t, q⟩ => ⟨r, t, ?_⟩⟩
    cases r with
    | true => rw [if_neg (by decide)] at q; rw [if_pos rfl]; exact q
    | false => rw [if_pos rfl] at q; rw [if_neg Bool.false_ne_true]; exact q
end
end Ev


set_option Elab.async false
set_option linter.all false
set_option maxRecDepth 100000
set_option maxHeartbeats 4000000
/-! Attributes, subscripts, slices, if-else as a test. -/
namespace Ev
open PySem L2
/-- what is no slice -/
def nsl : Expr → Bool
  | .Slice .. => false
  | _ => true
theorem nsl_ok {e : Expr} (h : nsl e = true) : L2.PlainIx e := by
  intro o i
  cases e <;> first | rfl | simp [nsl] at h
theorem lookN_ok {g : Gx} {w : Wd} : ∀ {as : List Nat} {vs : List PV} {fs : List (Str × V)} {f : Nat} {v : PV}, fs.map (·.1) = as.map dec → Dens g w vs (fs.map (·.2)) → lookN as vs f = some v → ∃ x, fs.lookup (dec f) = some x ∧ Den g w v x
  | [], _, _, _, _, _, _, h => by simp [lookN] at h
  | k :: as, [], _, _, _, _, _, h => by simp [lookN] at h
  | k :: as, u :: vs, [], _, _, e, _, _ => by simp at e
  | k :: as, u :: vs, (n, y) :: fs, f, v, e, d, h => by
    simp only [List.map_cons, List.cons.injEq] at e
    obtain ⟨e1, e2⟩ := e
    obtain ⟨d1, d2⟩ := d.of_cons
    unfold lookN at h
    subst e1
    split at h
    · rename_i hk
      cases h
      have := Nat.eq_of_beq_eq_true hk
      subst this
      exact ⟨y, by simp [List.lookup], d1⟩
    · rename_i hk
      obtain ⟨x, h1, h2⟩ := lookN_ok e2 d2 h
      refine ⟨x, ?_, h2⟩
      have : (dec f == dec k) = false := by
        rw [beq_eq_false_iff_ne]
        intro z
        have := dec_inj z
        subst this
        simp at hk
      simp only [List.lookup, this]
      exact h1
section
variable {g : Gx} {X : Cx} {W : WX} {b : Nat} {τ : Tab} {Φ : Calls}
theorem se_idx (T : TOk τ g X.w) (hK : g.K = X.K) (hu : X.A.units + 64 < cLine) {l r : Expr} {a c : C} {pos : Pos} (hs : nsl r = true) (ha : SE g X W b l (evE τ Φ b a)) (hc : SE g X W b r (evE τ Φ b c)) : SE g X W b (.Subscript l r pos) (evE τ Φ b (.idx a c)) := by
  refine .of hK rfl (PE.imp (pe_ix (ix_all (by omega)) ha.pe hc.pe (nsl_ok hs)) fun σ H Q h => ?_)
  refine tE2 (op := fun x y μ => Res.of ((getIx τ μ x y).map fun v => (v, μ))) ?_ fun w x y vx vy R dx dy k => getIx_ok T hK R dx dy k.of
  obtain ⟨w, σp, rfl, R, L, k⟩ := h
  rw [evE] at k
  exact ⟨w, σp, rfl, R, L, k⟩
/-- a slice's part -/
def tO (g : Gx) (b : Nat) (W : WX) (t : Bool) (f : Loc → Sto → Res (PV × Sto)) : TO := fun σ H Q => ∃ (w : Wd) (σp : Loc), w.H = H ∧ Rel g b w ∧ RelL g w σp σ ∧ okE g b W w σ (f σp w.μ) fun x H1 => (t = false ∧ Q none H1) ∨ (t = true ∧ ∃ i, x = .int i ∧ Q (some i) H1)
def isS {α : Type} : Option α → Bool
  | some _ => true
  | none => false
theorem po_no (v : PV) (hv : v = .non) : PO X none (tO g b W false (evE τ Φ b (.con v))) := by
  refine ⟨fun pins s σ H Q I h => po_none.run pins s σ H Q I ?_⟩
  obtain ⟨w, σp, rfl, R, L, k⟩ := h
  rw [evE] at k
  subst hv
  rcases k w .non rfl (.refl _ _) R (by simp only [Den]) with ⟨_, q⟩ | ⟨e, _⟩
  · exact q
  · cases e
theorem po_yes {e : Expr} {c : C} (h : SE g X W b e (evE τ Φ b c)) : PO X (some e) (tO g b W true (evE τ Φ b c)) := by
  refine ⟨fun pins s σ H Q I q => (po_some h.pe).run pins s σ H Q I ?_⟩
  obtain ⟨w, σp, rfl, R, L, k⟩ := q
  refine ⟨w, σp, rfl, R, L, k.imp fun x H1 q => ?_⟩
  rcases q with ⟨e, _⟩ | ⟨_, q⟩
  · cases e
  · exact q
theorem se_slc (hK : g.K = X.K) {m hl hh : Bool} {e : Expr} {lo hi : Option Expr} {a c d : C} {p2 pos : Pos} (ha : SE g X W b e (evE τ Φ b a)) (hlo : PO X lo (tO g b W hl (evE τ Φ b c))) (hhi : PO X hi (tO g b W hh (evE τ Φ b d))) :
    SE g X W b (.Subscript e (.Slice lo hi none p2) pos) (evE τ Φ b (.slc m a c hl d hh)) := by
  refine .of hK rfl (PE.imp (pe_slice sl_all ha.pe hlo hhi) fun σ H Q h => ?_)
  obtain ⟨w, σp, rfl, R, L, k⟩ := h
  rw [evE] at k
  refine ⟨w, σp, rfl, R, L, (okE.step k).imp fun x H1 ⟨w1, v, e1, L1, R1, d1, _, k1⟩ => ?_⟩
  refine ⟨w1, σp, e1, R1, L.mono R L1, (okE.step k1).imp fun y H2 ⟨w2, u, e2, L2, R2, d2, _, k2⟩ => ?_⟩
  dsimp only at k2
  cases el : partOf hl u with
  | none => rw [el] at k2; exact k2.elim
  | some l =>
    rw [el] at k2
    have k2 : okE g b W w2 σ ((evE τ Φ b d σp w2.μ).bind fun r => Res.of ((partOf hh r.1).bind fun h => slice m v l h r.2)) Q := k2
    have go : tO g b W hh (evE τ Φ b d) σ H2 fun h H3 => rSlX X x l h H3 Q := by
      refine ⟨w2, σp, e2, R2, (L.mono R L1).mono R1 L2, (okE.step k2).imp fun z H3 ⟨w3, t, e3, L3, R3, d3, _, k3⟩ => ?_⟩
      dsimp only at k3
      cases eh : partOf hh t with
      | none => rw [eh] at k3; exact k3.elim
      | some h =>
        rw [eh] at k3
        subst e3
        have q := slice_ok hK R3 ((d1.mono R1 L2).mono R2 L3) k3.of
        rcases part_ok d3 eh with ⟨e4, e5⟩ | ⟨e4, i, e5, e6⟩
        · subst e5; exact .inl ⟨e4, q⟩
        · subst e5; exact .inr ⟨e4, i, e6, q⟩
    rcases part_ok d2 el with ⟨e4, e5⟩ | ⟨e4, i, e5, e6⟩
    · subst e5; exact .inl ⟨e4, go⟩
    · subst e5; exact .inr ⟨e4, i, e6, go⟩
theorem pt_ifExp2 {X : Cx} {c x y : Expr} {tA t1 t2 : TT} {pos : Pos} (hc : PT X c tA) (ha : PT X x t1) (hb : PT X y t2) : PT X (.IfExp c x y pos) (fun σ H Q => tA σ H fun k H1 => if k = true then t1 σ H1 Q else t2 σ H1 Q) := by
  refine ⟨fun pins s σ H Q I h => ?_⟩
  rw [arm_isTrue_IfExp]
  refine wpAny_bind (thn (hc.run pins s σ H _ I h) fun d s1 ⟨H1, I1, q1⟩ => ?_)
  cases d with
  | true => exact ha.run pins s1 σ H1 Q I1 q1
  | false => exact hb.run pins s1 σ H1 Q I1 q1
theorem se_ite2 (hK : g.K = X.K) {t l r : Expr} {a c d : C} {pos : Pos} (ht : SE g X W b t (evE τ Φ b a)) (hl : SE g X W b l (evE τ Φ b c)) (hr : SE g X W b r (evE τ Φ b d)) :
    SE g X W b (.IfExp t l r pos) (evE τ Φ b (.ite a c d)) := by
  refine ⟨se_ite hK ht hl hr, PT.imp (pt_ifExp2 ht.pt hl.pt hr.pt) fun σ H Q h => ?_⟩
  obtain ⟨w, σp, rfl, R, L, k⟩ := h
  refine ⟨w, σp, rfl, R, L, ?_⟩
  unfold evT at k
  rw [evE, Res.bind_assoc] at k
  have k' : okB g b W w σ ((evE τ Φ b a σp w.μ).bind fun p => (Res.of (truth p.2 p.1)).bind fun r => match r with | true => evT (evE τ Φ b c) σp p.2 | false => evT (evE τ Φ b d) σp p.2) Q := by
    refine cast ?_ k
    congr 1
    cases evE τ Φ b a σp w.μ with
    | ok p =>
      simp only [Res.bind]
      cases truth p.2 p.1 with
      | none => rfl
      | some r => cases r <;> rfl
    | exc _ _ => rfl
    | err => rfl
  refine (okB.stepT (f := fun r _ μ => match r with | true => evT (evE τ Φ b c) σp μ | false => evT (evE τ Φ b d) σp μ) k').imp fun r H1 ⟨w1, v, e1, L1, R1, ex, qt, k1⟩ => ?_
  subst e1
  cases r with
  | true => rw [if_pos rfl]; exact ⟨w1, σp, rfl, R1, L.mono R L1, k1⟩
  | false => rw [if_neg Bool.false_ne_true]; exact ⟨w1, σp, rfl, R1, L.mono R L1, k1⟩
end
end Ev


set_option Elab.async false
set_option linter.all false
set_option maxRecDepth 100000
set_option maxHeartbeats 4000000
/-! Built-in functions. -/
namespace Ev
open PySem L2
/-! ### repr -/
def keyDat : Key → PyData
  | .inl i => .int i
  | .inr x => .str x
section
variable {g : Gx} {b : Nat} {w : Wd} {X : Cx} {pins : List (Addr × Obj)} {σ : St} {s : Shared}
theorem keyRd {k : Key} {v : Value} (h : keyIs k v = true) (hp : Heap) : Reads hp v (keyDat k) [] := by
  rcases keyIs_shape h with ⟨i, t, rfl, rfl⟩ | ⟨x, t, rfl, rfl⟩
  · exact .int i t
  · exact .str x t
theorem keysRd (hp : Heap) : ∀ (ks : List PV) (K : List Key) (ds : List PyData) (es : List DictEntry) (kvs : List (Key × Value)), Keys ks K → PV.shws0 ks = some ds → kvs.map (·.1) = K → Pairs (mixKind X.prog X.w) es kvs → ReadsAll hp (es.map (·.key)) ds []
  | [], K, ds, es, kvs, h, e, hk, p => by
    simp only [Keys] at h
    subst h
    simp only [PV.shws0, Option.some.injEq] at e
    subst e
    cases p with
    | nil => exact .nil
    | cons => simp at hk
  | k :: ks, K, ds, es, kvs, h, e, hk, p => by
    simp only [Keys] at h
    obtain ⟨x, r, rfl, h1, h2⟩ := h
    simp only [PV.shws0, Option.bind_eq_some_iff, Option.map_eq_some_iff] at e
    obtain ⟨d, e1, ds', e2, rfl⟩ := e
    cases p with
    | nil => simp at hk
    | @cons en kv es' kvs' q1 q2 q3 =>
      simp only [List.map_cons, List.cons.injEq] at hk
      have q4 := keyRd q1 hp
      have := keysRd hp ks r ds' es' kvs' h2 e2 hk.2 q3
      rw [List.map_cons]
      refine (show ReadsAll hp _ _ ([] ++ []) from ReadsAll.cons ?_ this)
      rw [hk.1] at q4
      cases k <;> simp only [keyV, Option.some.injEq, reduceCtorEq] at h1 <;> subst h1 <;> simp only [PV.shw0, Option.some.injEq] at e1 <;> subst e1 <;> exact q4
theorem zip_fst {α β : Type} : ∀ {as : List α} {bs : List β}, as.length = bs.length → (as.zip bs).map (·.1) = as ∧ (as.zip bs).map (·.2) = bs
  | [], [], _ => ⟨rfl, rfl⟩
  | [], _ :: _, h => by simp at h
  | _ :: _, [], h => by simp at h
  | a :: as, b :: bs, h => by
    obtain ⟨h1, h2⟩ := zip_fst (as := as) (bs := bs) (by simpa using h)
    exact ⟨by simp [h1], by simp [h2]⟩
theorem pairs_vals {es : List DictEntry} {kvs : List (Key × Value)} (h : Pairs (mixKind X.prog X.w) es kvs) : es.map (·.val) = kvs.map (·.2) := by
  induction h with
  | nil => rfl
  | cons _ h2 _ ih => simp [h2, ih]
theorem kv_vals {kvs : List (Key × V)} {vs : List (Key × Value)} (h : KV kvs vs) : vs.map (·.1) = kvs.map (·.1) ∧ Vals (kvs.map (·.2)) (vs.map (·.2)) := by
  unfold KV at h
  induction h with
  | nil => exact ⟨rfl, .nil⟩
  | cons h1 _ ih => exact ⟨by simp [ih.1, h1.1], .cons h1.2 ih.2⟩
theorem shws_len : ∀ {xs : List PV} {ds : List PyData}, PV.shws0 xs = some ds → ds.length = xs.length
  | [], _, e => by simp only [PV.shws0, Option.some.injEq] at e; subst e; rfl
  | x :: xs, _, e => by
    simp only [PV.shws0, Option.bind_eq_some_iff, Option.map_eq_some_iff] at e
    obtain ⟨d, e1, ds', e2, rfl⟩ := e
    simp [shws_len e2]
theorem keys_len : ∀ {ks : List PV} {K : List Key}, Keys ks K → K.length = ks.length
  | [], _, h => by simp only [Keys] at h; subst h; rfl
  | k :: ks, _, h => by
    simp only [Keys] at h
    obtain ⟨x, r, rfl, _, h2⟩ := h
    simp [keys_len h2]
/-- what the module's dict of modules is -/
def Sysd (K : PySem.W.Frag) : Prop := ∃ o : Obj, K.lookup sysModules = some o ∧ o.cls = .type "dict"
theorem sys_free (I : Inv X pins σ w.H s) (S : Sysd X.K) {a : Addr} {u : HO} (h : w.H a = some u) : a ≠ sysModules := fun e => by
  obtain ⟨o, h1, _⟩ := S
  have := (I.bs _ _ (I.mod.kin _ _ h1)).2
  subst e
  rw [h] at this
  cases this
theorem seq_sys (I : Inv X pins σ w.H s) (S : Sysd X.K) {a : Addr} {xs : List V} (h : SqL X.K w.H a xs) : a ≠ sysModules := by
  rcases h with (h | ⟨o, h⟩) | ⟨o, its, n, h, hc, _⟩
  · exact sys_free I S h
  · exact sys_free I S h
  · rintro rfl
    obtain ⟨o', h1, h2⟩ := S
    rw [h] at h1
    cases h1
    rw [hc] at h2
    exact absurd h2 (by decide)
theorem dct_reads (I : Inv X pins σ w.H s) (S : Sysd X.K) {a : Addr} {kvs : List (Key × V)} {ks : List PV} {ds es : List PyData} (h : Rd w.H a (.dK kvs)) (hk : Keys ks (kvs.map (·.1))) (e1 : PV.shws0 ks = some ds)
    (hv : ∀ us, Vals (kvs.map (·.2)) us → ∃ as, ReadsAll s.heap us es as ∧ sysModules ∉ as) (hl : ds.length = es.length) : ∃ as, Reads s.heap (.ref a) (.dict (ds.zip es)) as ∧ sysModules ∉ as := by
  have ne : a ≠ sysModules := by rcases h with h | ⟨o, h⟩ <;> exact sys_free I S h
  obtain ⟨_, _, vs, rel, o, en, ep, ho, hx, hd, _, hp, _⟩ := h.ok I.hok
  obtain ⟨k1, k2⟩ := kv_vals rel
  obtain ⟨as, r, na⟩ := hv _ k2
  obtain ⟨z1, z2⟩ := zip_fst hl
  refine ⟨a :: [] ++ as, .dict ho hx.1 hd ?_ ?_, ?_⟩
  · rw [z1]
    exact keysRd s.heap ks _ ds en.toList vs hk e1 k1 hp
  · rw [z2, pairs_vals hp]
    exact r
  · simp only [List.cons_append, List.nil_append, List.mem_cons, not_or]
    exact ⟨fun e => ne e.symm, na⟩
mutual
theorem shw_reads (I : Inv X pins σ w.H s) (S : Sysd X.K) (hK : g.K = X.K) : ∀ (v : PV) (x : V) (d : PyData) (u : Value), Den g w v x → v.shw0 = some d → RelV x u → ∃ as, Reads s.heap u d as ∧ sysModules ∉ as
  | .non, x, d, u, h, e, r => by simp only [Den] at h; subst h; simp only [PV.shw0, Option.some.injEq] at e; subst e; cases r; exact ⟨_, .none, by simp⟩
  | .bl _, x, d, u, h, e, r => by simp only [Den] at h; subst h; simp only [PV.shw0, Option.some.injEq] at e; subst e; cases r; exact ⟨_, .bool _, by simp⟩
  | .int _, x, d, u, h, e, r => by simp only [Den] at h; subst h; simp only [PV.shw0, Option.some.injEq] at e; subst e; obtain ⟨t, rfl⟩ := r; exact ⟨_, .int _ _, by simp⟩
  | .str _, x, d, u, h, e, r => by simp only [Den] at h; subst h; simp only [PV.shw0, Option.some.injEq] at e; subst e; obtain ⟨t, rfl⟩ := r; exact ⟨_, .str _ _, by simp⟩
  | .tup xs, x, d, u, h, e, r => by
    simp only [Den] at h
    obtain ⟨a, vs, rfl, h1, h2⟩ := h
    simp only [PV.shw0, Option.map_eq_some_iff] at e
    obtain ⟨ds, e1, rfl⟩ := e
    cases r
    obtain ⟨its, rv, ⟨o, ho, hc, n, hd⟩, _⟩ := I.tuple (hK ▸ h1)
    obtain ⟨as, q, na⟩ := shws_reads I S hK xs vs ds its h2 e1 rv
    exact ⟨as, .tuple ho hc hd q, na⟩
  | .lst xs, x, d, u, h, e, r => by
    simp only [Den] at h
    obtain ⟨a, vs, rfl, _, h1, h2⟩ := h
    simp only [PV.shw0, Option.map_eq_some_iff] at e
    obtain ⟨ds, e1, rfl⟩ := e
    cases r
    obtain ⟨its, rv, ⟨o, n, ho, hc, _, hd⟩, _⟩ := I.list (.of h1)
    obtain ⟨as, q, na⟩ := shws_reads I S hK xs vs ds its h2 e1 rv
    exact ⟨a :: as, .list ho hc hd q, by simp only [List.mem_cons, not_or]; exact ⟨fun z => sys_free I S h1 z.symm, na⟩⟩
  | .dct ks vs, x, d, u, h, e, r => by
    simp only [Den] at h
    obtain ⟨a, kvs, rfl, _, h1, h2, h3⟩ := h
    simp only [PV.shw0, Option.bind_eq_some_iff, Option.map_eq_some_iff] at e
    obtain ⟨ds, e1, es, e2, rfl⟩ := e
    cases r
    refine dct_reads I S h1 h2 e1 (fun us rv => shws_reads I S hK vs _ es us h3 e2 rv) ?_
    have l1 := shws_len e1
    have l2 := shws_len e2
    have l3 := h3.length
    have l4 := keys_len h2
    simp only [List.length_map] at l3 l4
    omega
  | .ins _ _ _, _, _, _, _, e, _ => by simp [PV.shw0] at e
  | .gd _, _, _, _, _, e, _ => by simp [PV.shw0] at e
  | .scr _, _, _, _, _, e, _ => by simp [PV.shw0] at e
  | .exn _ _ _, _, _, _, _, e, _ => by simp [PV.shw0] at e
  | .ref _, _, _, _, _, e, _ => by simp [PV.shw0] at e
theorem shws_reads (I : Inv X pins σ w.H s) (S : Sysd X.K) (hK : g.K = X.K) : ∀ (vs : List PV) (xs : List V) (ds : List PyData) (us : List Value), Dens g w vs xs → PV.shws0 vs = some ds → Vals xs us → ∃ as, ReadsAll s.heap us ds as ∧ sysModules ∉ as
  | [], _, _, _, h, e, r => by
    cases h.inv_nil
    simp only [PV.shws0, Option.some.injEq] at e
    subst e
    cases r
    exact ⟨[], .nil, by simp⟩
  | v :: vs, _, _, _, h, e, r => by
    obtain ⟨x, xs, rfl, h1, h2⟩ := h.inv_cons
    simp only [PV.shws0, Option.bind_eq_some_iff, Option.map_eq_some_iff] at e
    obtain ⟨d, e1, ds, e2, rfl⟩ := e
    cases r with
    | cons r1 r2 =>
      obtain ⟨as, q1, n1⟩ := shw_reads I S hK v x d _ h1 e1 r1
      obtain ⟨bs, q2, n2⟩ := shws_reads I S hK vs xs ds _ h2 e2 r2
      exact ⟨as ++ bs, .cons q1 q2, by simp only [List.mem_append, not_or]; exact ⟨n1, n2⟩⟩
end
theorem shwT_reads (I : Inv X pins σ w.H s) (R : Rel g b w) (S : Sysd X.K) (hK : g.K = X.K) {v : PV} {x : V} {d : PyData} {u : Value} (h : Den g w v x) (e : shw w.μ v = some d) (r : RelV x u) : ∃ as, Reads s.heap u d as ∧ sysModules ∉ as := by
  cases v with
  | ref i =>
    simp only [Den] at h
    obtain ⟨a, rfl, hr⟩ := h
    simp only [shw] at e
    cases r
    split at e
    · rename_i xs hm
      obtain ⟨vs, h1, h2⟩ := R.obj i _ a hm hr
      simp only [PV.shw0, Option.map_eq_some_iff] at e
      obtain ⟨ds, e1, rfl⟩ := e
      obtain ⟨its, rv, ⟨o, n, ho, hc, _, hd⟩, _⟩ := I.list (.of h1)
      obtain ⟨as, q, na⟩ := shws_reads I S hK xs vs ds its h2 e1 rv
      exact ⟨a :: as, .list ho hc hd q, by simp only [List.mem_cons, not_or]; exact ⟨fun z => sys_free I S h1 z.symm, na⟩⟩
    · rename_i ks vs hm
      obtain ⟨kvs, h1, h2, h3⟩ := R.obj i _ a hm hr
      simp only [PV.shw0, Option.bind_eq_some_iff, Option.map_eq_some_iff] at e
      obtain ⟨ds, e1, es, e2, rfl⟩ := e
      refine dct_reads I S (.inl h1) h2 e1 (fun us rv => shws_reads I S hK vs _ es us h3 e2 rv) ?_
      have l1 := shws_len e1
      have l2 := shws_len e2
      have l3 := h3.length
      have l4 := keys_len h2
      simp only [List.length_map] at l3 l4
      omega
    · cases e
  | _ => exact shw_reads I S hK _ x d u h e r
end
/-- repr(x) -/
def rRepr (g : Gx) : List V → Hp → VK → Prop := fun xs H Q => ∃ (w : Wd) (b : Nat) (v : PV) (x : V) (d : PyData), xs = [x] ∧ w.H = H ∧ Rel g b w ∧ Den g w v x ∧ shw w.μ v = some d ∧ d.showable = true ∧ d.shown.length ≤ sizeLine ∧ d.depth ≤ 60 ∧ Q (.str d.shown) H
theorem call_reprD {X : Cx} {g : Gx} (S : Sysd X.K) (hK : g.K = X.K) (hg : X.A.guards = some []) (hu : X.A.units + 64 < cLine) : CallR X (.builtin "repr") (rRepr g) := by
  intro pins s σ H xs us Q I r h
  obtain ⟨w, b, v, x, d, rfl, rfl, R, dn, e, hs, hz, hd, q⟩ := h
  obtain ⟨u, rfl, rx⟩ := vals1 r
  obtain ⟨as, rd, na⟩ := shwT_reads I R S hK dn e rx
  have fin : ∀ {h' : Heap} {t : Tok} {tk : Nat}, (∀ b o, s.heap.get? b = some o → h'.get? b = some o) → EP X pins σ Q (.str d.shown t) { s with heap := h', toks := tk } := fun {h' t tk} k => ⟨.str d.shown, w.H, I.kept (t' := tk) k, ⟨_, rfl⟩, q⟩
  cases rd with
  | none => exact PySem.P.repr_of_none (fin (h' := s.heap) fun _ _ z => z)
  | bool k =>
    refine PySem.P.repr_of_bool ?_
    have := fin (h' := s.heap) (t := s.toks) (tk := s.toks + 1) fun _ _ z => z
    simpa only [PyData.shown] using this
  | int i t => exact PySem.P.repr_of_int (by simpa [PyData.showable] using hs) (fin (h' := s.heap) fun _ _ z => z)
  | str y t => exact PySem.P.repr_of_str (fin (h' := s.heap) fun _ _ z => z) (by simpa only [PyData.shown] using hz)
  | list a1 a2 a3 a4 => exact repr_of_reads' (.list a1 a2 a3 a4) hs (fun _ => na) hg (by omega) (fun _ _ z => z) (fun h' t tk k => fin k) hz
  | tuple a1 a2 a3 a4 => exact repr_of_reads' (.tuple a1 a2 a3 a4) hs (fun _ => na) hg (by omega) (fun _ _ z => z) (fun h' t tk k => fin k) hz
  | dict a1 a2 a3 a4 a5 => exact repr_of_reads' (.dict a1 a2 a3 a4 a5) hs (fun _ => na) hg (by omega) (fun _ _ z => z) (fun h' t tk k => fin k) hz
end Ev


set_option Elab.async false
set_option linter.all false
set_option maxRecDepth 100000
set_option maxHeartbeats 4000000
/-! Built-in functions, by their numbers. -/
namespace Ev
open PySem L2
/-- the value that a built-in's name stands for -/
def prV : Pr → Value
  | .len => .builtin "len" | .abs => .builtin "abs" | .int => .type "int" | .min2 => .builtin "min" | .max2 => .builtin "max"
  | .all => .builtin "all" | .any => .builtin "any" | .tuple => .type "tuple" | .list => .type "list" | .repr => .builtin "repr"
  | .isi _ => .builtin "isinstance" | .listR => .type "list" | .dictP => .type "dict" | .set => .type "set" | .sorted => .builtin "sorted" | .str => .type "str"
def prN : Pr → Str
  | .len => "len" | .abs => "abs" | .int => "int" | .min2 => "min" | .max2 => "max"
  | .all => "all" | .any => "any" | .tuple => "tuple" | .list => "list" | .repr => "repr"
  | .isi _ => "isinstance" | .listR => "list" | .dictP => "dict" | .set => "set" | .sorted => "sorted" | .str => "str"
def rDictP (K : PySem.W.Frag) : List V → Hp → VK → Prop := fun xs H Q => ∃ (a : Addr) (ps : List Addr) (kvs : List (Key × V)), xs = [.ref a] ∧ SqL K H a (ps.map V.ref) ∧ Paired (fun p kv => SqT K H p [kV kv.1, kv.2]) ps kvs ∧
    ∀ p, H p = none → Q (.ref p) (upd H p (.dK (mergeK [] kvs)))
def prR (g : Gx) (K : PySem.W.Frag) : Pr → List V → Hp → VK → Prop
  | .len => fun xs H Q => (∃ x n, xs = [x] ∧ LenV K x H n ∧ Q (.int n) H) ∨ ∃ a kvs, xs = [V.ref a] ∧ Rd H a (.dK kvs) ∧ Q (.int kvs.length) H
  | .abs => fun xs H Q => ∃ i, xs = [.int i] ∧ Q (.int (if i < 0 then -i else i)) H
  | .int => fun xs H Q => (∃ i, xs = [.int i] ∧ Q (.int i) H) ∨ ∃ k, xs = [.bl k] ∧ Q (.int (if k then 1 else 0)) H
  | .min2 => fun xs H Q => ∃ i j, xs = [.int i, .int j] ∧ Q (.int (if j < i then j else i)) H
  | .max2 => fun xs H Q => ∃ i j, xs = [.int i, .int j] ∧ Q (.int (if j > i then j else i)) H
  | .all => rAll K
  | .any => rAny K
  | .tuple => fun xs H Q => ∃ p ys, xs = [.ref p] ∧ ((SqL K H p ys ∧ ∀ l, H l = none → Q (.ref l) (upd H l (.tup ys))) ∨ (SqT K H p ys ∧ Q (.ref p) H))
  | .list => fun xs H Q => ∃ p ys, xs = [.ref p] ∧ (SqL K H p ys ∨ SqT K H p ys) ∧ ∀ l, H l = none → Q (.ref l) (upd H l (.lst ys))
  | .repr => rRepr g
  | .dictP => rDictP K
  | _ => fun _ _ _ => False
section
variable {g : Gx} {X : Cx} {W : WX} {b : Nat} {τ : Tab} {Φ : Calls}
theorem call_lenR : CallR X (.builtin "len") (fun xs H Q => ∃ a kvs, xs = [V.ref a] ∧ Rd H a (.dK kvs) ∧ Q (.int kvs.length) H) := by
  intro pins s σ H xs us Q I r h
  obtain ⟨a, kvs, rfl, ha, q⟩ := h
  obtain ⟨u, rfl, ru⟩ := vals1 r
  cases ru
  exact d_len I ha fun t s' I' => ⟨.int kvs.length, H, I', ⟨t, rfl⟩, q⟩
theorem callR_no {f : Value} : CallR X f (fun _ _ _ => False) := fun _ _ _ _ _ _ _ _ _ h => h.elim
theorem prR_ok (S : Sysd X.K) (hK : g.K = X.K) (hg : X.A.guards = some []) (hu : X.A.units + 64 < cLine) (hc : X.calm = true) : ∀ p : Pr, CallR X (prV p) (prR g X.K p)
  | .len => call_len.or call_lenR
  | .abs => call_abs
  | .int => call_int1
  | .min2 => call_min2 hc
  | .max2 => call_max2 hc
  | .all => cr_all hc
  | .any => cr_any hc
  | .tuple => call_tuple_of
  | .list => call_list_of
  | .repr => call_reprD S hK hg hu
  | .dictP => call_dictP hc
  | .isi _ => callR_no
  | .listR => callR_no
  | .set => callR_no
  | .sorted => callR_no
  | .str => callR_no
theorem bools_ok {w : Wd} : ∀ {xs : List PV} {vs : List V} {bs : List Bool}, Dens g w xs vs → boolsOf xs = some bs → vs = bs.map V.bl
  | [], _, _, d, e => by
    cases d.inv_nil
    simp only [boolsOf, Option.some.injEq] at e
    subst e
    rfl
  | x :: xs, _, _, d, e => by
    obtain ⟨v, r, rfl, d1, d2⟩ := d.inv_cons
    cases x <;> simp only [boolsOf, reduceCtorEq, Option.map_eq_some_iff] at e
    obtain ⟨bs, e1, rfl⟩ := e
    simp only [Den] at d1
    subst d1
    rw [bools_ok d2 e1]
    rfl
theorem scr_sql {w : Wd} {ns : List Int} {x : V} (hK : g.K = X.K) (d : Den g w (.scr ns) x) : ∃ a, x = .ref a ∧ SqL X.K w.H a (ns.map V.int) := by
  simp only [Den] at d
  obtain ⟨a, rfl, d⟩ := d
  refine ⟨a, rfl, ?_⟩
  rcases d with ⟨o, d⟩ | ⟨o, its, n, h⟩
  · exact .inl (.inr ⟨o, d⟩)
  · exact .inr ⟨o, its, n, hK ▸ h.1, h.2⟩
theorem newD_ok {w : Wd} {Q : VK} {m : Bool} {ks vs : List PV} {kvs : List (Key × V)} (k : okR g b w (some (newD m ks vs w.μ)) Q) (R : Rel g b w) (hk : Keys ks (kvs.map (·.1))) (d : Dens g w vs (kvs.map (·.2))) (p : Addr) (h : w.H p = none) : Q (.ref p) (upd w.H p (.dK kvs)) := by
  cases m with
  | false =>
    refine k (w.put p (.dK kvs)) (.ref p) rfl (put_le R h) (put_rel R h) ?_
    simp only [Den]
    exact ⟨p, kvs, rfl, put_nb R h, .inl upd_same, hk, d.mono R (put_le (c := b) R h)⟩
  | true =>
    have L : Le b w (w.add p (.dK kvs) (.dct ks vs)) := add_le R R.blen h
    refine k (w.add p (.dK kvs) (.dct ks vs)) (.ref p) rfl L (add_rel R h ⟨kvs, rfl, hk, d.mono R L⟩) ?_
    simp only [Den]
    refine ⟨p, rfl, ?_⟩
    show (w.ρ ++ [p])[w.μ.length]? = some p
    rw [← R.len]
    simp
theorem keys_app : ∀ {ks ls : List PV} {K L : List Key}, Keys ks K → Keys ls L → Keys (ks ++ ls) (K ++ L)
  | [], _, _, _, h, h' => by simp only [Keys] at h; subst h; exact h'
  | k :: ks, _, _, _, h, h' => by
    simp only [Keys] at h
    obtain ⟨x, r, rfl, h1, h2⟩ := h
    simp only [List.cons_append, Keys]
    exact ⟨x, r ++ _, rfl, h1, keys_app h2 h'⟩
theorem setP_ok {w : Wd} {v : PV} {x : V} {k : PV} {a : Key} (hk : keyV k = some a) (dv : Den g w v x) : ∀ {ks vs : List PV} {kvs : List (Key × V)}, Keys ks (kvs.map (·.1)) → Dens g w vs (kvs.map (·.2)) →
    Dens g w (setP ks vs k v) ((kvs.map (fun kv => if kv.1 = a then (kv.1, x) else kv)).map (·.2))
  | [], vs, kvs, h, d => by
    have e : kvs = [] := by
      simp only [Keys] at h
      simpa using h
    subst e
    exact .nil
  | c :: ks, vs, kvs, h, d => by
    simp only [Keys] at h
    obtain ⟨c', s, e, hc, hr⟩ := h
    cases kvs with
    | nil => cases e
    | cons p kvs =>
      simp only [List.map_cons, List.cons.injEq] at e
      obtain ⟨e1, e2⟩ := e
      subst e1 e2
      cases vs with
      | nil => cases d.inv_nil
      | cons u vs =>
        obtain ⟨d1, d2⟩ := Dens.of_cons (by simpa only [List.map_cons] using d)
        have ih := setP_ok hk dv hr d2
        simp only [setP, List.map_cons]
        refine .cons ?_ ih
        rw [keq_iff hc hk]
        by_cases q : p.1 = a
        · rw [decide_eq_true q, if_pos rfl, if_pos q]
          exact dv
        · rw [decide_eq_false q, if_neg Bool.false_ne_true, if_neg q]
          exact d1
theorem putP_ok {w : Wd} {ks vs : List PV} {kvs : List (Key × V)} {k v : PV} {a : Key} {x : V} (hs : Keys ks (kvs.map (·.1))) (ds : Dens g w vs (kvs.map (·.2))) (hk : keyV k = some a) (dv : Den g w v x) :
    Keys (putP ks vs k v).1 ((putK kvs a x).map (·.1)) ∧ Dens g w (putP ks vs k v).2 ((putK kvs a x).map (·.2)) := by
  unfold putP putK
  rw [has_ok hs hk, valV_any]
  split
  · refine ⟨?_, setP_ok hk dv hs ds⟩
    have : (kvs.map fun kv => if kv.1 = a then (kv.1, x) else kv).map (·.1) = kvs.map (·.1) := by
      rw [List.map_map]
      refine List.map_congr_left fun p _ => ?_
      simp only [Function.comp]
      split <;> rfl
    rw [this]
    exact hs
  · simp only [List.map_append, List.map_cons, List.map_nil]
    exact ⟨keys_app hs (by simp only [Keys]; exact ⟨a, [], rfl, hk, rfl⟩), ds.append (.cons dv .nil)⟩
theorem pairsP_ok {w : Wd} (hK : g.K = X.K) : ∀ {xs : List PV} {us : List V} {ks vs : List PV} {kvs : List (Key × V)} {r : List PV × List PV}, Dens g w xs us → Keys ks (kvs.map (·.1)) → Dens g w vs (kvs.map (·.2)) → pairsP xs ks vs = some r →
    ∃ (ps : List Addr) (more : List (Key × V)), us = ps.map V.ref ∧ Paired (fun p kv => SqT X.K w.H p [kV kv.1, kv.2]) ps more ∧ Keys r.1 ((mergeK kvs more).map (·.1)) ∧ Dens g w r.2 ((mergeK kvs more).map (·.2))
  | [], _, _, _, _, _, d, hs, ds, e => by
    cases d.inv_nil
    simp only [pairsP, Option.some.injEq] at e
    subst e
    exact ⟨[], [], rfl, .nil, hs, ds⟩
  | x :: xs, _, ks, vs, kvs, r, d, hs, ds, e => by
    obtain ⟨u, us, rfl, d1, d2⟩ := d.inv_cons
    unfold pairsP at e
    split at e
    · rename_i h0
      cases h0
    · rename_i k v xs' ks' vs' e0
      cases e0
      split at e
      · rename_i hk
        obtain ⟨a, ha⟩ := isKey_of hk
        simp only [Den] at d1
        obtain ⟨p, ys, rfl, h1, h2⟩ := d1
        obtain ⟨y, z, rfl, dy, dz⟩ := h2.two
        obtain ⟨q1, q2⟩ := putP_ok hs ds ha dz
        obtain ⟨ps, more, rfl, q3, q4, q5⟩ := pairsP_ok hK d2 q1 q2 e
        have := den_key ha dy
        subst this
        exact ⟨p :: ps, (a, z) :: more, rfl, .cons (hK ▸ h1) q3, q4, q5⟩
      · cases e
    · cases e
/-- the readings are met -/
theorem prim_ok (hK : g.K = X.K) {p : Pr} {m : Bool} {vs : List PV} {xs : List V} {w : Wd} {Q : VK} (R : Rel g b w) (d : Dens g w vs xs) (hp : ∀ t, p ≠ .isi t) (k : okR g b w (prim τ p m vs w.μ) Q) : prR g X.K p xs w.H Q := by
  unfold prim at k
  split at k
  · exact absurd rfl (hp _)
  · obtain ⟨x, rfl, d1⟩ := d.one
    simp only [Den] at d1
    obtain ⟨a, vs, rfl, s, d2⟩ := d1
    exact .inl ⟨_, _, rfl, .inr ⟨vs, hK ▸ s, d2.length⟩, k.int R⟩
  · obtain ⟨x, rfl, d1⟩ := d.one
    obtain ⟨a, rfl, s⟩ := scr_sql hK d1
    exact .inl ⟨_, _, rfl, .inl ⟨_, s, by simp⟩, k.int R⟩
  · obtain ⟨x, rfl, d1⟩ := d.one
    simp only [Den] at d1
    subst d1
    split at k
    · rename_i hl
      exact .inl ⟨_, _, rfl, ⟨by rw [← line_eq]; exact hl, rfl⟩, k.int R⟩
    · exact k.elim
  · obtain ⟨x, rfl, d1⟩ := d.one
    split at k
    · rename_i ys hl
      obtain ⟨a, us, rfl, h1, h2⟩ := listOf_ok R d1 hl
      exact .inl ⟨_, _, rfl, .inl ⟨us, .of h1, h2.length⟩, k.int R⟩
    · rename_i v _ _ _ _ _
      cases e : dictOf w.μ v with
      | none => rw [e] at k; exact k.elim
      | some kv =>
        rw [e] at k
        obtain ⟨a, kvs, rfl, h1, h2, h3⟩ := dictOf_ok R d1 e
        refine .inr ⟨a, kvs, rfl, h1, ?_⟩
        have := keys_len h2
        rw [List.length_map] at this
        rw [this]
        exact k.int R
  · obtain ⟨x, rfl, d1⟩ := d.one
    simp only [Den] at d1
    subst d1
    exact ⟨_, rfl, k.int R⟩
  · obtain ⟨x, rfl, d1⟩ := d.one
    simp only [Den] at d1
    subst d1
    exact .inr ⟨_, rfl, k.int R⟩
  · obtain ⟨x, y, rfl, d1, d2⟩ := d.two
    simp only [Den] at d1 d2
    subst d1 d2
    exact ⟨_, _, rfl, k.int R⟩
  · obtain ⟨x, y, rfl, d1, d2⟩ := d.two
    simp only [Den] at d1 d2
    subst d1 d2
    exact ⟨_, _, rfl, k.int R⟩
  · rename_i v
    obtain ⟨x, rfl, d1⟩ := d.one
    cases e : listOf w.μ v with
    | none => rw [e] at k; exact k.elim
    | some ys =>
      rw [e] at k
      cases e2 : boolsOf ys with
      | none => simp only [Option.bind_some, e2] at k; exact k.elim
      | some bs =>
        simp only [Option.bind_some, e2] at k
        obtain ⟨a, us, rfl, h1, h2⟩ := listOf_ok R d1 e
        have := bools_ok h2 e2
        subst this
        exact ⟨a, bs, rfl, .of h1, k.bl R⟩
  · rename_i v
    obtain ⟨x, rfl, d1⟩ := d.one
    cases e : listOf w.μ v with
    | none => rw [e] at k; exact k.elim
    | some ys =>
      rw [e] at k
      cases e2 : boolsOf ys with
      | none => simp only [Option.bind_some, e2] at k; exact k.elim
      | some bs =>
        simp only [Option.bind_some, e2] at k
        obtain ⟨a, us, rfl, h1, h2⟩ := listOf_ok R d1 e
        have := bools_ok h2 e2
        subst this
        exact ⟨a, bs, rfl, .of h1, k.bl R⟩
  · obtain ⟨x, rfl, d1⟩ := d.one
    have d0 := d1
    simp only [Den] at d1
    obtain ⟨a, us, rfl, h1, h2⟩ := d1
    exact ⟨a, us, rfl, .inr ⟨hK ▸ h1, k.pure R d0⟩⟩
  · rename_i v _
    obtain ⟨x, rfl, d1⟩ := d.one
    cases e : listOf w.μ v with
    | none => rw [e] at k; exact k.elim
    | some ys =>
      rw [e] at k
      obtain ⟨a, us, rfl, h1, h2⟩ := listOf_ok R d1 e
      exact ⟨a, us, rfl, .inl ⟨.of h1, fun l hl => okR.tup k R h2 l hl⟩⟩
  · obtain ⟨x, rfl, d1⟩ := d.one
    simp only [Den] at d1
    obtain ⟨a, us, rfl, h1, h2⟩ := d1
    exact ⟨a, us, rfl, .inr (hK ▸ h1), fun l hl => okR.new k R h2 l hl⟩
  · rename_i v _
    obtain ⟨x, rfl, d1⟩ := d.one
    cases e : listOf w.μ v with
    | none => rw [e] at k; exact k.elim
    | some ys =>
      rw [e] at k
      obtain ⟨a, us, rfl, h1, h2⟩ := listOf_ok R d1 e
      exact ⟨a, us, rfl, .inl (.of h1), fun l hl => okR.new k R h2 l hl⟩
  · rename_i v
    obtain ⟨x, rfl, d1⟩ := d.one
    cases e : listOf w.μ v with
    | none => rw [e] at k; exact k.elim
    | some ys =>
      rw [e] at k
      simp only [Option.bind_some] at k
      cases e2 : pairsP ys [] [] with
      | none => rw [e2] at k; exact k.elim
      | some r =>
        rw [e2] at k
        obtain ⟨a, us, rfl, h1, h2⟩ := listOf_ok R d1 e
        obtain ⟨ps, more, rfl, q1, q2, q3⟩ := pairsP_ok (kvs := []) hK h2 (by simp only [List.map_nil, Keys]) (by simp only [List.map_nil]; exact .nil) e2
        exact ⟨a, ps, more, rfl, .of h1, q1, fun l hl => newD_ok k R q2 q3 l hl⟩
  · rename_i v
    obtain ⟨x, rfl, d1⟩ := d.one
    cases e : shw w.μ v with
    | none => rw [e] at k; exact k.elim
    | some dd =>
      rw [e] at k
      simp only [Option.bind_some] at k
      split at k
      · rename_i hc
        simp only [Bool.and_eq_true, decide_eq_true_eq] at hc
        exact ⟨w, b, v, x, dd, rfl, rfl, R, d1, e, hc.1, by rw [← line_eq]; exact hc.2.1, hc.2.2, k.str R⟩
      · exact k.elim
  · exact k.elim
end
end Ev


set_option Elab.async false
set_option linter.all false
set_option maxRecDepth 100000
set_option maxHeartbeats 4000000
/-! Exceptions that were caught: their class, their attributes. -/
namespace Ev
open PySem L2
section
variable {prog : Program} {wd : World} {Ar : Around} {Er : Value → Shared → Prop} {sh : Shared} {Kf : PySem.W.Frag} {xa Da : Addr} {oo od : Obj}
/-- x.__class__ of an exception that has a dict -/
theorem excls {Qe : Option Value → Shared → Prop} (C : ExcC Kf Da) (X : Kf.In sh.heap) (I : PySem.W.InstAt sh.heap xa oo Da (some od)) (h : Qe (some (.ref Da)) { sh with toks := sh.toks + 1 }) :
    wpAny (model prog wd) Ar (getAttr? (.ref xa) "__class__") Qe Er sh := by
  have fnd : PySem.W.findObj Kf Da (some od) "__class__" = some (.bind (.builtin "getset_descriptor.__get__") (.builtin "object.__class__")) :=
    PySem.W.findObj_data (by obtain ⟨cd, hc, _⟩ := PySem.W.any_some C.hd; rw [hc]; rfl) C.ha C.hn C.ht
  obtain ⟨hh, gg, dd, tt, ss⟩ := sh
  have T0 := I.type (M := model prog wd)
  have T1 := PySem.W.looks_findIn (M := model prog wd) X C.hg
  have T2 := PySem.W.looks_findIn (M := model prog wd) X C.hk
  have T3 := PySem.W.looks_find (M := model prog wd) X I fnd
  have isB : PySem.W.Looks (model prog wd) hh (isInstance (.ref xa) (.type "BaseException")) true := T0.andThen (PySem.W.looks_subIn X C.hs)
  have e0 : (false && onTheHeap (.builtin "BaseException.__getattribute__")) = false := rfl
  have e2 : (Value.builtin "BaseException.__getattribute__" == .builtin "object.__getattribute__") = false := by decide +kernel
  have e1 : (onTheHeap (.ref Da) && Value.builtin "BaseException.__getattribute__" == .builtin "object.__getattribute__") = false := by rw [e2]; rfl
  unfold getAttr? getAttrBy? getAttrBy
  refine wpAny_bind (wpAny_mkText (wpAny_bind (wpAny_attempt ?_)))
  refine wpAny_holding (wpAny_bind (T0.at ?_))
  refine wpAny_bind (T1.at ?_)
  show wpAny _ _ (if (onTheHeap (.ref Da) && Value.builtin "BaseException.__getattribute__" == .builtin "object.__getattribute__") = true then _ else _) _ _ _
  rw [e1]
  rw [if_neg Bool.false_ne_true]
  unfold getAttrByItsOwn hookBefore
  refine wpAny_bind ?_
  rw [if_pos (show onTheHeap (.ref Da) = true from rfl)]
  refine T2.at ?_
  refine wpAny_bind (wpAny_attempt ?_)
  refine wpAny_holding ?_
  unfold callGetattribute
  rw [e0]
  rw [if_neg Bool.false_ne_true]
  unfold boundAndCalled
  rw [PySem.F.excAttr_ValueError.ga.bind (.ref xa)]
  refine wpAny_bind ?_
  refine wpAny_pure ?_
  show wpAny _ _ (call (.builtin "BaseException.__getattribute__") [.ref xa, .str "__class__" tt]) _ _ _
  refine wpAny_call ?_
  refine codeAny_call_builtin PySem.F.excAttr_ValueError.ga.plain PySem.F.entry_bexc_ga ?_
  refine @PySem.W.check_slot (model prog wd) _ _ ⟨hh, gg, dd, tt + 1, ss⟩ "BaseException.__getattribute__" "BaseException" "__getattribute__" (.ref xa) [.str "__class__" tt] [] _ (by decide +kernel) (by decide +kernel) isB (PySem.F.args_bexc_ga (.ref xa) (.str "__class__" tt)) ?_
  unfold Builtin.«object.__getattribute__»
  refine wpAny_bind (wpAny_of_eq (a := ((Value.ref xa : Value), [Value.str "__class__" tt])) (by first | rfl | (simp only [slotArgs]; rfl)) ?_)
  refine wpAny_bind (wpAny_pure ?_)
  refine wpAny_bind (T0.at ?_)
  refine wpAny_bind (T3.at ?_)
  show wpAny _ _ (holding [.builtin "object.__class__"] (call (.builtin "getset_descriptor.__get__") [.builtin "object.__class__", .ref xa, .ref Da]) >>= ret) _ _ _
  refine wpAny_bind (wpAny_holding (wpAny_call ?_))
  refine PySem.W.class_get (s := ⟨hh, gg, dd, tt + 1, ss⟩) (ox := oo) (od := some od) X I C.hm ?_
  refine wpAny_pure ?_
  show wpAny _ _ (handedOut (.ref Da)) _ _ _
  rw [PySem.W.handedOut_of (v := .ref Da) rfl]
  first
    | exact wpAny_pure (wpAny_pure h)
    | exact wpAny_pure h
    | exact wpAny_pure (wpAny_bind (wpAny_pure (wpAny_pure h)))
theorem exkit (C : ExcC Kf Da) : PySem.W.KitX Kf (.ref xa) (.ref Da) (fun h => PySem.W.InstAt h xa oo Da (some od)) where
  ty := fun _ _ _ I => I.type
  it := fun _ _ X _ => by
    obtain ⟨cd, hc, _⟩ := PySem.W.any_some C.hd
    unfold PySem.W.clsIn at hc
    split at hc
    · rename_i ho
      intro A' Q' E' s' k q
      unfold isType loadHead
      refine wpAny_bind (wpAny_loadPart (k _ _ (X _ _ ho)) ?_)
      exact wpAny_pure q
    · cases hc
  ne := fun h tp dd its n sl X htp => by
    obtain ⟨cd, hc, _⟩ := PySem.W.any_some C.hd
    rw [Bool.eq_false_iff]
    intro q
    have e : Da = tp := Value.ref.inj (beq_iff_eq.mp q)
    subst e
    unfold PySem.W.clsIn at hc
    split at hc
    · rename_i ho
      cases (X _ _ ho).symm.trans htp
    · cases hc
  ca := fun X I k => excls C X I k
end
section
variable {g : Gx} {X : Cx} {W : WX} {b : Nat} {pins : List (Addr × Obj)} {σ : St} {H : Hp} {s : Shared}
theorem exd_inst {C d a : Addr} {fs : List (Str × V)} (I : Inv X pins σ H s) (h1 : H a = some (ExD C d a)) (h2 : H d = some (.xd fs)) : ∃ (oe od : Obj), PySem.W.InstAt s.heap a oe C (some od) ∧ ∃ mA : Str → Option Value, (∀ f, RelO (fs.lookup f) (mA f)) ∧ ∀ n, PySem.W.lookIn n od = some (mA n) := by
  obtain ⟨⟨oe, vs, e1, z, e2⟩, _⟩ := (show ObjOk X.prog X.w H s.heap a (ExD C d a) from I.hok a _ h1)
  obtain ⟨mA, hns, hr⟩ := (show ObjOk X.prog X.w H s.heap d (.xd fs) from I.hok d _ h2)
  obtain ⟨od, ho, hl⟩ := lookIn_ns hns
  refine ⟨oe, od, ⟨e1, z.1, ?_, ?_⟩, mA, hr, hl⟩
  · unfold PySem.W.notCls
    rw [e2] <;> rfl
  · rw [z.2]
    exact ho
/-- isinstance(e, c), e a caught one -/
def rIsX (K : PySem.W.Frag) : List V → Hp → VK → Prop := fun xs H Q => ∃ (a C d : Addr) (fs : List (Str × V)) (c : V) (u : Value) (r : Bool), xs = [.ref a, c] ∧ ClsV c u ∧ H a = some (ExD C d a) ∧ H d = some (.xd fs) ∧ ExcC K C ∧ PySem.W.kitOne K (.ref C) u = some r ∧ Q (.bl r) H
theorem call_isX : CallR X (.builtin "isinstance") (rIsX X.K) := by
  intro pins s σ H xs us Q I r h
  obtain ⟨a, C, d, fs, c, u, r', rfl, k, h1, h2, T, e, q⟩ := h
  obtain ⟨u1, u2, rfl, r1, r2⟩ := vals2 r
  have e2 := k.eq r2
  subst e2
  cases r1
  obtain ⟨oe, od, J, _⟩ := exd_inst I h1 h2
  exact PySem.W.kia_one (exkit T) I.kIn J e (fun z => nomatch z) fun tk => ⟨.bl r', H, I.tok tk, rfl, q⟩
/-- x.f, x an instance or a caught exception -/
def rAttr (K : PySem.W.Frag) (f : Str) : V → Hp → VK → Prop := fun x H Q => (∃ a C dx fs v, x = .ref a ∧ H a = some (.ins C dx fs) ∧ Cls K C ∧ NoAttr K C f ∧ fs.lookup f = some v ∧ Q v H) ∨
  ∃ a C d fs v, x = .ref a ∧ H a = some (ExD C d a) ∧ H d = some (.xd fs) ∧ XfC K C ∧ NoAttr K C f ∧ fs.lookup f = some v ∧ Q v H
theorem pe_attrX {e : Expr} {ta : TE} {f : Str} {pos : Pos} (he : PE X e ta) (hb : attributeBase e f X.env (eval e X.env) = eval e X.env) : PE X (.Attribute e f pos) (fun σ H Q => ta σ H fun x H1 => rAttr X.K f x H1 Q) := by
  refine ⟨fun pins s σ H Q I h => ?_⟩
  refine attr_of hb (thn (he.run pins s σ H _ I h) fun u s1 ⟨x, H1, I1, rx, q⟩ => ?_)
  rcases q with ⟨a, C, dx, fs, v, rfl, ea, c, n, l, q⟩ | ⟨a, C, d, fs, v, rfl, h1, h2, T, n, l, q⟩
  · cases rx
    exact getattr_ok I1 ea c n l fun u s' I' r => ⟨v, H1, I', r, q⟩
  · cases rx
    obtain ⟨oe, od, J, mA, hr, hl⟩ := exd_inst I1 h1 h2
    obtain ⟨u, hu, ru⟩ := RelO.some_of (v := v) (o := mA f) (by rw [← l]; exact hr f)
    exact HandSPX.exc_get I1.kIn J T.ga T.gg T.exC (PySem.W.findObj_own T.hdC n rfl (by rw [hl, hu])) (handed_of ru) ⟨v, H1, I1.tok _, ru, q⟩
end
section
variable {g : Gx} {X : Cx} {W : WX} {b : Nat} {τ : Tab} {Φ : Calls}
theorem se_attr (T : TOk τ g X.w) (hK : g.K = X.K) {e : Expr} {a : C} {f : Nat} {nm : Str} {pos : Pos} (hn : nm = dec f) (hb : bas e = true) (ha : SE g X W b e (evE τ Φ b a)) : SE g X W b (.Attribute e nm pos) (evE τ Φ b (.attr a f)) := by
  subst hn
  refine .of hK rfl (PE.imp (pe_attrX ha.pe (bas_ok hb _ _ _)) fun σ H Q h => ?_)
  obtain ⟨w, σp, rfl, R, L, k⟩ := h
  rw [evE] at k
  refine ⟨w, σp, rfl, R, L, (okE.step k).imp fun x H1 ⟨w1, v, e1, L1, R1, d1, _, k1⟩ => ?_⟩
  subst e1
  dsimp only at k1
  unfold attrOf at k1
  split at k1
  · rename_i c as vs _
    split at k1
    · rename_i hc
      rw [Bool.and_eq_true] at hc
      cases el : lookN as vs f with
      | none => rw [el] at k1; exact k1.elim
      | some u =>
        rw [el] at k1
        simp only [Den] at d1
        obtain ⟨a, d, fs, rfl, h1, h2, h3, h4⟩ := d1
        obtain ⟨y, h5, h6⟩ := lookN_ok h3 h4 el
        exact .inr ⟨a, g.cls c, d, fs, y, rfl, h1, h2, hK ▸ T.xfC c hc.1, hK ▸ T.xno c f hc.1 hc.2, h5, k1 w1 y rfl (.refl _ _) R1 h6⟩
    · exact k1.elim
  · cases e : insOf w1.μ v with
    | none => rw [e] at k1; exact k1.elim
    | some r =>
      obtain ⟨c, as, vs⟩ := r
      rw [e] at k1
      simp only [Option.bind_some] at k1
      split at k1
      · rename_i hc
        rw [Bool.and_eq_true] at hc
        cases el : lookN as vs f with
        | none => rw [el] at k1; exact k1.elim
        | some u =>
          rw [el] at k1
          obtain ⟨a, dx, fs, rfl, h2, h3, h4⟩ := insOf_ok R1 d1 e
          obtain ⟨y, h5, h6⟩ := lookN_ok h3 h4 el
          exact .inl ⟨a, g.cls c, dx, fs, y, rfl, h2, hK ▸ T.cl c hc.1, hK ▸ T.noat c f hc.1 hc.2, h5, k1 w1 y rfl (.refl _ _) R1 h6⟩
      · exact k1.elim
/-! ### isinstance -/
theorem bname_mem (n : Nat) : bname n ∈ ["NoneType", "int", "bool", "str", "tuple", "list", "dict"] := by
  unfold bname
  split <;> decide
/-- the class, as a value -/
def tyV (g : Gx) : Ty → V × Value
  | .int => (.ty "int", .type "int") | .bool => (.ty "bool", .type "bool") | .str => (.ty "str", .type "str") | .tuple => (.ty "tuple", .type "tuple")
  | .list => (.ty "list", .type "list") | .dict => (.ty "dict", .type "dict") | .ve => (.ty "ValueError", .type "ValueError")
  | .cls c => (.ref (g.cls c), .ref (g.cls c)) | .exc c => (.ref (g.cls c), .ref (g.cls c))
theorem tyV_cls (g : Gx) (t : Ty) : ClsV (tyV g t).1 (tyV g t).2 := by
  cases t <;> first | exact ClsV.ty _ | exact ClsV.own _
/-- what stands behind a kind -/
def KdOk (τ : Tab) (g : Gx) (H : Hp) (x : V) : Kd → Prop
  | .b n => n < 7 ∧ TyX g.K H x (.type (bname n))
  | .i c => ∃ a dx fs, x = .ref a ∧ H a = some (.ins (g.cls c) dx fs)
  | .x c => ∃ a d fs, x = .ref a ∧ H a = some (ExD (g.cls c) d a) ∧ H d = some (.xd fs)
theorem rd_dK {K : PySem.W.Frag} {H : Hp} {a : Addr} {kvs : List (Key × V)} (h : Rd H a (.dK kvs)) : TyX K H (.ref a) (.type "dict") := by
  rcases h with h | ⟨o, h⟩
  · exact .base (.dK h)
  · exact .fDict h
theorem kind_ok {w : Wd} {v : PV} {x : V} {k : Kd} (R : Rel g b w) (d : Den g w v x) (e : kindP w.μ v = some k) : KdOk τ g w.H x k := by
  unfold kindP at e
  split at e
  · cases e; simp only [Den] at d; subst d; exact ⟨by decide, .base .non⟩
  · cases e; simp only [Den] at d; subst d; exact ⟨by decide, .base (.bl _)⟩
  · cases e; simp only [Den] at d; subst d; exact ⟨by decide, .base (.int _)⟩
  · cases e; simp only [Den] at d; subst d; exact ⟨by decide, .base (.str _)⟩
  · cases e
    simp only [Den] at d
    obtain ⟨a, vs, rfl, s, _⟩ := d
    refine ⟨by decide, ?_⟩
    rcases s with (s | ⟨o, s⟩) | ⟨o, its, n, h1, h2, _⟩
    · exact .base (.tup s)
    · exact .fTuple s
    · exact .kTuple h1 h2
  · cases e
    simp only [Den] at d
    obtain ⟨a, vs, rfl, _, s, _⟩ := d
    exact ⟨by decide, .base (.lst s)⟩
  · cases e
    simp only [Den] at d
    obtain ⟨a, kvs, rfl, _, s, _⟩ := d
    exact ⟨by decide, rd_dK s⟩
  · cases e
    simp only [Den] at d
    obtain ⟨a, dx, fs, rfl, _, s, _⟩ := d
    exact ⟨a, dx, fs, rfl, s⟩
  · cases e
    simp only [Den] at d
    obtain ⟨a, dx, fs, rfl, s1, s2, _⟩ := d
    exact ⟨a, dx, fs, rfl, s1, s2⟩
  · simp only [Den] at d
    obtain ⟨a, rfl, hr⟩ := d
    split at e
    · rename_i hm
      cases e
      obtain ⟨vs, h, _⟩ := R.obj _ _ a hm hr
      exact ⟨by decide, .base (.lst h)⟩
    · rename_i hm
      cases e
      obtain ⟨kvs, h, _⟩ := R.obj _ _ a hm hr
      exact ⟨by decide, rd_dK (.inl h)⟩
    · rename_i hm
      cases e
      obtain ⟨dx, fs, h, _⟩ := R.obj _ _ a hm hr
      exact ⟨a, dx, fs, rfl, h⟩
    · cases e
  · cases e
theorem kit_bb : ∀ (t : Ty) (n : Nat), (match t with | .cls _ => False | .exc _ => False | .ve => False | _ => True) → n < 7 → kitB (bname n) (bname t.num) = some (Nat.beq t.num n || (Nat.beq t.num 2 && Nat.beq n 1)) := by
  intro t n h hn
  have : n = 0 ∨ n = 1 ∨ n = 2 ∨ n = 3 ∨ n = 4 ∨ n = 5 ∨ n = 6 := by omega
  rcases this with rfl | rfl | rfl | rfl | rfl | rfl | rfl <;> cases t <;> first | exact h.elim | decide +kernel
theorem kit_bve : ∀ n : Nat, n < 7 → kitB (bname n) "ValueError" = some false := by
  intro n hn
  have : n = 0 ∨ n = 1 ∨ n = 2 ∨ n = 3 ∨ n = 4 ∨ n = 5 ∨ n = 6 := by omega
  rcases this with rfl | rfl | rfl | rfl | rfl | rfl | rfl <;> decide +kernel
def rIsA (X : Cx) : List V → Hp → VK → Prop := fun xs H Q => rIsi X.K xs H Q ∨ rIsX X.K xs H Q
theorem call_isA : CallR X (.builtin "isinstance") (rIsA X) := call_isi.or call_isX
theorem isTy_ok (T : TOk τ g X.w) (hK : g.K = X.K) {w : Wd} {v : PV} {x : V} {t : Ty} {r : Bool} {Q : VK} (R : Rel g b w) (d : Den g w v x) (e : isTy τ w.μ v t = some r) (q : Q (.bl r) w.H) : rIsA X [x, (tyV g t).1] w.H Q := by
  unfold isTy at e
  cases ek : kindP w.μ v with
  | none => rw [ek] at e; cases e
  | some k =>
    rw [ek] at e
    simp only [Option.bind_some] at e
    have ko := kind_ok (τ := τ) R d ek
    cases k with
    | b n =>
      obtain ⟨hn, ty⟩ := ko
      rw [hK] at ty
      refine .inl ⟨x, _, _, _, r, rfl, tyV_cls g t, ty, ?_, q⟩
      cases t with
      | cls c =>
        simp only at e
        split at e
        · rename_i hc
          cases e
          exact hK ▸ T.kbc c _ hc (bname_mem n)
        · cases e
      | exc c =>
        simp only at e
        split at e
        · rename_i hc
          cases e
          exact hK ▸ T.xbc c _ hc (bname_mem n)
        · cases e
      | ve => cases e; exact kit_ty (kit_bve n hn)
      | int => cases e; exact kit_ty (kit_bb .int n trivial hn)
      | bool => cases e; exact kit_ty (kit_bb .bool n trivial hn)
      | str => cases e; exact kit_ty (kit_bb .str n trivial hn)
      | tuple => cases e; exact kit_ty (kit_bb .tuple n trivial hn)
      | list => cases e; exact kit_ty (kit_bb .list n trivial hn)
      | dict => cases e; exact kit_ty (kit_bb .dict n trivial hn)
    | i c =>
      obtain ⟨a, dx, fs, rfl, h⟩ := ko
      cases t with
      | cls c' =>
        simp only at e
        split at e
        · rename_i hc
          rw [Bool.and_eq_true] at hc
          cases e
          exact .inl ⟨_, _, _, _, _, rfl, tyV_cls g _, hK ▸ T.insT c hc.2 w.H a dx fs h, hK ▸ T.kcc c c' hc.2 hc.1, q⟩
        · cases e
      | exc c => cases e
      | ve => cases e
      | _ =>
        simp only at e
        split at e
        · rename_i hc
          cases e
          exact .inl ⟨_, _, _, _, _, rfl, tyV_cls g _, hK ▸ T.insT c hc w.H a dx fs h, hK ▸ T.kcb c _ hc (by decide), q⟩
        · cases e
    | x c =>
      obtain ⟨a, dx, fs, rfl, h1, h2⟩ := ko
      cases t with
      | cls c' => cases e
      | exc c' =>
        simp only at e
        split at e
        · rename_i hc
          rw [Bool.and_eq_true] at hc
          cases e
          exact .inr ⟨a, g.cls c, dx, fs, _, _, _, rfl, tyV_cls g _, h1, h2, hK ▸ T.exC c hc.2, hK ▸ T.xcc c c' hc.2 hc.1, q⟩
        · cases e
      | ve =>
        simp only at e
        split at e
        · rename_i hc
          cases e
          exact .inr ⟨a, g.cls c, dx, fs, _, _, _, rfl, tyV_cls g _, h1, h2, hK ▸ T.exC c hc, hK ▸ T.xve c hc, q⟩
        · cases e
      | _ => cases e
/-- f(e, ..), f a built-in one -/
theorem se_prim (hS : Sysd X.K) (hK : g.K = X.K) (hg : X.A.guards = some []) (hu : X.A.units + 64 < cLine) (hc : X.calm = true) {p : Pr} {m : Bool} {nm : Str} {e : Expr} {es : List Expr} {cs : List C} {p1 pos : Pos} (hn : nm = prN p) (hp : ∀ t, p ≠ .isi t)
    (gl : Gl X nm) (hm : X.mg nm = none) (hs : nst e = true) (hss : es.all nst = true) (h : SL g X W b (e :: es) (evEs τ Φ b cs)) : SE g X W b (.Call (.Name nm p1) (e :: es) [] pos) (evE τ Φ b (.prim p m cs)) := by
  have key : PE X (.Call (.Name nm p1) (e :: es) [] pos) (tCB (prR g X.K p) (tL g b W (evEs τ Φ b cs))) := by
    have hb : bootBuiltins nm = some (prV p) ∧ nm ≠ "__name__" ∧ (nm == ("__debug__" : Str)) = false := by
      subst hn
      cases p <;> first | decide +kernel | exact absurd rfl (hp _)
    have hr := prR_ok (g := g) hS hK hg hu hc p
    obtain ⟨hb1, hb2, hb3⟩ := hb
    cases p <;> first
      | exact pe_callB hr gl hm hb1 h hb2 hb3 (star_ok hs es X.env) (stars_ok hss)
      | exact pe_callTy hr gl hm hb1 h hb2 hb3 (star_ok hs es X.env) (stars_ok hss)
  refine .of hK rfl (PE.imp key fun σ H Q h => ?_)
  obtain ⟨w, σp, rfl, R, L, k⟩ := h
  rw [evE] at k
  refine ⟨w, σp, rfl, R, L, (okE.stepL k).imp fun xs H1 ⟨w1, vs, e1, L1, R1, d1, _, k1⟩ => ?_⟩
  subst e1
  exact prim_ok hK R1 d1 hp k1.of
/-- a class by its name -/
def NmTy (g : Gx) (X : Cx) (n : Str) (t : Ty) : Prop := PE X (.Name n ⟨0, 0, 0, 0⟩) (tC (tyV g t).1)
theorem se_isi (T : TOk τ g X.w) (hK : g.K = X.K) {m : Bool} {t : Ty} {nm : Str} {e : Expr} {e2 : Expr} {c : C} {p1 pos : Pos} (hn : nm = "isinstance")
    (gl : Gl X nm) (hm : X.mg nm = none) (hs : nst e = true) (hs2 : nst e2 = true) (h : SE g X W b e (evE τ Φ b c)) (h2 : PE X e2 (tC (tyV g t).1)) : SE g X W b (.Call (.Name nm p1) [e, e2] [] pos) (evE τ Φ b (.prim (.isi t) m [c])) := by
  subst hn
  have hss : [e2].all nst = true := by simp [hs2]
  refine .of hK rfl (PE.imp (pe_callB call_isA gl hm (by decide +kernel) (pa_cons h.pe (pa_cons h2 pa_nil (star_ok hs2 [] X.env)) (star_ok hs [e2] X.env)) (by decide) (by decide) (star_ok hs [e2] X.env) (stars_ok hss)) fun σ H Q h => ?_)
  obtain ⟨w, σp, rfl, R, L, k⟩ := h
  rw [evE, evEs, Res.bind_assoc] at k
  refine ⟨w, σp, rfl, R, L, (okE.step k).imp fun x H1 ⟨w1, v, e1, L1, R1, d1, _, k1⟩ => ?_⟩
  subst e1
  rw [evEs] at k1
  have k1 : okE g b W w1 σ (Res.of ((isTy τ w1.μ v t).map fun r => (.bl r, w1.μ))) Q := k1
  cases q : isTy τ w1.μ v t with
  | none => rw [q] at k1; exact k1.elim
  | some r =>
    rw [q] at k1
    exact isTy_ok T hK R1 d1 q (k1 w1 _ rfl (.refl _ _) R1 (by simp only [Den]))
end
end Ev


set_option Elab.async false
set_option linter.all false
set_option maxRecDepth 100000
set_option maxHeartbeats 4000000
/-! The context, as data; calls of defs. -/
namespace Ev
open PySem L2
/-- a def: its name among the module's, its object -/
structure FI where
  nm : Option Str
  adr : Addr
  fd : FuncData
  ps : List Str
/-- the program, as the texts find it -/
structure Pg where
  P : Program
  w : World
  mg : Str → Option Value
  base : Heap
  g : Gx
  τ : Tab
  fn : Nat → Option FI
  cl : Nat → Option Str
  /-- the constants of the module -/
  kn : Nat → Option (Str × V)
  bl : List Str
structure Pg.Ok (p : Pg) : Prop where
  T : TOk p.τ p.g p.w
  sys : Sysd p.g.K
  fn : ∀ f i, p.fn f = some i → PySem.W.keepIn p.g.K (.ref i.adr) = true ∧ Binds p.g.K i.fd i.ps [] ∧ ∀ n, i.nm = some n → p.mg n = some (.ref i.adr)
  cl : ∀ c n, p.cl c = some n → p.mg n = some (.ref (p.g.cls c))
  kn : ∀ k i v, p.kn k = some i → p.τ.kn k = some v → (∃ u, p.mg i.1 = some u ∧ RelV i.2 u) ∧ ∀ w : Wd, Den p.g w v i.2
  bl : ∀ n ∈ p.bl, p.mg n = none
/-- the names of a block -/
structure Sc where
  N : List Str
  names : List (Str × NameKind)
  fn : Str → Bool
/-- a context of the program -/
structure Cok (p : Pg) (sc : Sc) (k : Nat) (X : Cx) (W : WX) : Prop where
  P : X.prog = p.P
  w : X.w = p.w
  K : X.K = p.g.K
  mg : X.mg = p.mg
  base : X.base = p.base
  N : X.N = sc.N
  nd : X.N.Nodup
  nm : X.env.scope.names = sc.names
  fk : X.env.scope.kind = .function
  calm : X.calm = true
  room : GRoom k X.A
  tk : Takes X W
  fn : ∀ x, sc.fn x = true → X.fn x = true
def CallsOk (p : Pg) (k : Nat) (Φ : Calls) : Prop := ∀ f i, p.fn f = some i → FnG p.P p.w p.g.K p.mg p.base (L2.CX p.P p.w) k i.adr i.fd i.ps (spF p.g (Φ f))
theorem FnG.mono {P : Program} {w : World} {K : PySem.W.Frag} {mg : Str → Option Value} {base : Heap} {cx : CXT} {j k : Nat} {f : Addr} {fd : FuncData} {ps : List Str} {sp : Sp} (F : FnG P w K mg base cx j f fd ps sp) (h : j ≤ k) : FnG P w K mg base cx k f fd ps sp :=
  ⟨F.len, fun A outer s H args us vs Q E room => F.go A outer s H args us vs Q E (room.mono h)⟩
theorem CallsOk.mono {p : Pg} {j k : Nat} {Φ : Calls} (h : CallsOk p j Φ) (hj : j ≤ k) : CallsOk p k Φ := fun f i e => (h f i e).mono hj
section
variable {p : Pg} {sc : Sc} {k kk : Nat} {X : Cx} {W : WX} {b : Nat} {Φ : Calls}
theorem Cok.vis (c : Cok p sc k X W) {x : Str} (h : sc.names.lookup x = some .local ∨ sc.names.lookup x = some .cell ∨ sc.names.lookup x = some .free) : Vis X.env.scope x := by
  unfold Vis
  rw [c.nm]
  exact h
theorem Cok.gl (c : Cok p sc k X W) {x : Str} (h : sc.names.lookup x = some .globalImplicit) : Gl X x := by
  show X.env.scope.names.lookup x = _
  rw [c.nm]
  exact h
theorem Cok.hu (c : Cok p sc k X W) : X.A.units + 64 < cLine := c.room.rm.units
theorem Cok.T (c : Cok p sc k X W) (o : p.Ok) : TOk p.τ p.g X.w := c.w ▸ o.T
theorem Cok.sys (c : Cok p sc k X W) (o : p.Ok) : Sysd X.K := by rw [c.K]; exact o.sys
/-- f(..), f a def of the module -/
theorem se_call (o : p.Ok) (c : Cok p sc k X W) (Cs : CallsOk p k Φ) {f md : Nat} {i : FI} {e : Expr} {es : List Expr} {cs : List C} {x : Str} {p1 pos : Pos} (hi : p.fn f = some i) (hx : i.nm = some x) (gl : sc.names.lookup x = some .globalImplicit) (hd : (x == ("__debug__" : Str)) = false)
    (hs : nst e = true) (hss : es.all nst = true) (h : SL p.g X W b (e :: es) (evEs p.τ Φ b cs)) : SE p.g X W b (.Call (.Name x p1) (e :: es) [] pos) (evE p.τ Φ b (.call f md cs)) := by
  obtain ⟨hk, hb, hm⟩ := o.fn f i hi
  have hm := hm x hx
  refine .of c.K.symm rfl ⟨fun pins s σ H Q I q => ?_⟩
  obtain ⟨w, σp, rfl, R, L, q⟩ := q
  rw [evE] at q
  have F := Cs f i hi
  rw [← c.P, ← c.w, ← c.K, ← c.mg, ← c.base] at F
  rw [← c.K] at hk hb
  refine wpAny_Call_Name_kw (ld_glob I (c.gl gl) (by rw [c.mg]; exact hm) ?_ hd)
  refine PySem.W.callWith_K (h₀ := X.base) I.ok.mod.kin hk (thn (h.run pos pins s σ w.H _ I ⟨w, σp, rfl, R, L, okE.stepL q⟩) fun us s1 ⟨xs, H1, I1, r, w1, vs, e1, L1, R1, d1, _, q1⟩ => ⟨I1.kIn, ?_⟩) (star_ok hs es X.env) (stars_ok hss)
  subst e1
  have sp := callBy_ok R1 d1 q1
  have hl : (us ++ []).length = i.ps.length := by
    rw [List.append_nil, ← r.length]
    exact F.len _ _ _ _ sp
  have hb2 := hb s1 us I1.kIn hl
  rw [List.append_nil] at hb2
  exact run_g F c.room hb2 (passAt c.tk σ) I1 r sp
/-- f() -/
theorem se_call0 (o : p.Ok) (c : Cok p sc k X W) (Cs : CallsOk p k Φ) {f md : Nat} {i : FI} {x : Str} {p1 pos : Pos} (hi : p.fn f = some i) (hx : i.nm = some x) (gl : sc.names.lookup x = some .globalImplicit) (hd : (x == ("__debug__" : Str)) = false) :
    SE p.g X W b (.Call (.Name x p1) [] [] pos) (evE p.τ Φ b (.call f md [])) := by
  obtain ⟨hk, hb, hm⟩ := o.fn f i hi
  have hm := hm x hx
  refine .of c.K.symm rfl ⟨fun pins s σ H Q I q => ?_⟩
  obtain ⟨w, σp, rfl, R, L, q⟩ := q
  rw [evE, evEs] at q
  have F := Cs f i hi
  rw [← c.P, ← c.w, ← c.K, ← c.mg, ← c.base] at F
  rw [← c.K] at hk hb
  refine wpAny_Call_Name_kw (ld_glob I (c.gl gl) (by rw [c.mg]; exact hm) ?_ hd)
  have sp := callBy_ok (Φ := Φ) (f := f) (md := md) (W := W) (σ := σ) R Dens.nil q
  have hl : (([] : List Value) ++ []).length = i.ps.length := F.len _ _ _ _ sp
  have hb2 := hb s [] I.kIn hl
  exact PySem.W.callWith_K0 I.kIn hk (run_g (us := []) F c.room hb2 (passAt c.tk σ) I .nil sp)
/-- a name of the module's: a constant, a dict -/
theorem se_kn (o : p.Ok) (c : Cok p sc k X W) {j : Nat} {x : Str} {y : V} {pos : Pos} (h : p.kn j = some (x, y)) (gl : sc.names.lookup x = some .globalImplicit) (hd : (x == ("__debug__" : Str)) = false) : SE p.g X W b (.Name x pos) (evE p.τ Φ b (.kn j)) := by
  cases e : p.τ.kn j with
  | none =>
    refine .of c.K.symm rfl ⟨fun pins s σ H Q I q => ?_⟩
    obtain ⟨w, σp, rfl, R, L, q⟩ := q
    rw [evE, e] at q
    exact q.elim
  | some v =>
    obtain ⟨⟨u, hm, ru⟩, d⟩ := o.kn j _ v h e
    have := se_con (W := W) (b := b) (τ := p.τ) (Φ := Φ) c.K.symm rfl (pe_glob (pos := pos) (c.gl gl) (by rw [c.mg]; exact hm) ru hd) d
    have e2 : evE p.τ Φ b (.kn j) = evE p.τ Φ b (.con v) := by
      funext σ μ
      rw [evE, evE, e]
    rw [e2]
    exact this
/-- a class in isinstance -/
theorem ty_own (o : p.Ok) (c : Cok p sc k X W) {n : Nat} {x : Str} {pos : Pos} (h : p.cl n = some x) (gl : sc.names.lookup x = some .globalImplicit) (hd : (x == ("__debug__" : Str)) = false) : PE X (.Name x pos) (tC (.ref (p.g.cls n))) :=
  pe_glob (c.gl gl) (by rw [c.mg]; exact o.cl n x h) rfl hd
theorem ty_bi (o : p.Ok) (c : Cok p sc k X W) {n : String} {x : Str} {pos : Pos} (h : x ∈ p.bl) (gl : sc.names.lookup x = some .globalImplicit) (hb : bootBuiltins x = some (.type n)) (hn : x ≠ "__name__") (hd : (x == ("__debug__" : Str)) = false) : PE X (.Name x pos) (tC (.ty n)) :=
  pe_bltn (c.gl gl) (by rw [c.mg]; exact o.bl x h) hb rfl hn hd
end
end Ev


set_option Elab.async false
set_option linter.all false
set_option maxRecDepth 100000
set_option maxHeartbeats 4000000
/-! Walks and targets. -/
namespace Ev
open PySem L2
/-- J goes through xs, from w on -/
def WkOk (g : Gx) (b : Nat) (w : Wd) (J : It) (xs : List PV) : Prop :=
  ∀ (i : Nat) (w1 : Wd), Lk w w1 → Rel g b w1 →
    (∀ v, xs[i]? = some v → J.go i w1.H ∧ ∀ x H', J.yld i w1.H x H' → ∃ w2 : Wd, w2.H = H' ∧ w2.μ = w1.μ ∧ Le b w1 w2 ∧ Rel g b w2 ∧ Den g w2 v x) ∧
    (xs.length ≤ i → J.stop i w1.H)
def okI (g : Gx) (b : Nat) (W : WX) (w : Wd) (σ : St) (r : Res (List PV × Sto)) (R : It → Hp → Prop) : Prop := match r with
  | .ok (xs, μ') => ∀ (w' : Wd) (J : It), w'.μ = μ' → Le b w w' → Rel g b w' → WkOk g b w' J xs → R J w'.H
  | .exc e μ' => okX g b W w σ e μ'
  | .err => False
def tI (g : Gx) (b : Nat) (W : WX) (f : Loc → Sto → Res (List PV × Sto)) : TI := fun σ H R => ∃ (w : Wd) (σp : Loc), w.H = H ∧ Rel g b w ∧ RelL g w σp σ ∧ okI g b W w σ (f σp w.μ) R
def wkd (k : Ik) (p : Res (List PV × Sto)) : Res (List PV × Sto) := p.bind fun p => Res.of ((walked k p.1 p.2).map fun xs => (xs, p.2))
section
variable {g : Gx} {X : Cx} {W : WX} {b : Nat} {τ : Tab} {Φ : Calls} {tg : Expr}
theorem pi_imp {e : Expr} {t t' : TI} (h : PI X tg e t) (i : ∀ σ H R, t' σ H R → t σ H R) : PI X tg e t' := ⟨fun pins s σ H R I q => h.run pins s σ H R I (i _ _ _ q)⟩
theorem pi_or {e : Expr} {t t' : TI} (h : PI X tg e t) (h' : PI X tg e t') : PI X tg e (fun σ H R => t σ H R ∨ t' σ H R) := ⟨fun pins s σ H R I q => q.elim (fun q => h.run pins s σ H R I q) fun q => h'.run pins s σ H R I q⟩
/-- the world as it is -/
theorem okI.here {w : Wd} {σ : St} {vs : List PV} {k : Ik} {xs : List PV} {R : It → Hp → Prop} {J : It} (h : okI g b W w σ (Res.of ((walked k vs w.μ).map fun xs => (xs, w.μ))) R) (e : walked k vs w.μ = some xs) (Rl : Rel g b w) (q : WkOk g b w J xs) : R J w.H := by
  rw [e] at h
  exact h w J rfl (.refl _ _) Rl q
theorem okI.step {w : Wd} {σ : St} {x : Res (PV × Sto)} {f : PV × Sto → Res (List PV × Sto)} {R : It → Hp → Prop} (h : okI g b W w σ (x.bind f) R) :
    okE g b W w σ x fun x1 H1 => ∃ (w1 : Wd) (v : PV), w1.H = H1 ∧ Le b w w1 ∧ Rel g b w1 ∧ Den g w1 v x1 ∧ x = .ok (v, w1.μ) ∧ okI g b W w1 σ (f (v, w1.μ)) R := by
  cases x with
  | ok a =>
    obtain ⟨v, μ'⟩ := a
    intro w1 x1 e L R1 d
    subst e
    refine ⟨w1, v, rfl, L, R1, d, rfl, ?_⟩
    have h : okI g b W w σ (f (v, w1.μ)) R := h
    unfold okI at h ⊢
    split at h
    · exact fun w' J e' L' R' q => h w' J e' (L.trans L') R' q
    · exact h.le L
    · exact h
  | exc e μ' => exact h
  | err => exact h.elim
theorem okI.stepL {w : Wd} {σ : St} {x : Res (List PV × Sto)} {f : List PV × Sto → Res (List PV × Sto)} {R : It → Hp → Prop} (h : okI g b W w σ (x.bind f) R) :
    okL g b W w σ x fun xs H1 => ∃ (w1 : Wd) (vs : List PV), w1.H = H1 ∧ Le b w w1 ∧ Rel g b w1 ∧ Dens g w1 vs xs ∧ x = .ok (vs, w1.μ) ∧ okI g b W w1 σ (f (vs, w1.μ)) R := by
  cases x with
  | ok a =>
    obtain ⟨v, μ'⟩ := a
    intro w1 x1 e L R1 d
    subst e
    refine ⟨w1, v, rfl, L, R1, d, rfl, ?_⟩
    have h : okI g b W w σ (f (v, w1.μ)) R := h
    unfold okI at h ⊢
    split at h
    · exact fun w' J e' L' R' q => h w' J e' (L.trans L') R' q
    · exact h.le L
    · exact h
  | exc e μ' => exact h
  | err => exact h.elim
/-! ### lists, tuples -/
theorem wk_list {w : Wd} {a : Addr} {vs : List V} {xs : List PV} (R : Rel g b w) (h : w.H a = some (.lst vs)) (nb : ¬ w.B a) (d : Dens g w xs vs) : WkOk g b w (Itl X.K a) xs := by
  intro i w1 L R1
  have h1 := (L.keep a _ h nb).1
  have d1 := Dens.mono0 R L xs vs d
  refine ⟨fun v e => ?_, fun hl => ⟨vs, .of h1, by rw [← d.length]; exact hl⟩⟩
  obtain ⟨x, e1, d2⟩ := d1.get e
  refine ⟨⟨vs, x, .of h1, e1⟩, fun y H' ⟨e2, e3⟩ => ?_⟩
  have e4 := e3 vs (.of h1)
  rw [e1] at e4
  cases e4
  exact ⟨w1, e2.symm, rfl, .refl _ _, R1, d2⟩
theorem wk_tup {w : Wd} {a : Addr} {vs : List V} {xs : List PV} (hK : g.K = X.K) (R : Rel g b w) (h : SqT g.K w.H a vs) (d : Dens g w xs vs) : WkOk g b w (Itt X.K a) xs := by
  intro i w1 L R1
  have h1 := sqT_keep R L h
  rw [hK] at h1
  have d1 := Dens.mono0 R L xs vs d
  refine ⟨fun v e => ?_, fun hl => ⟨vs, h1, by rw [← d.length]; exact hl⟩⟩
  obtain ⟨x, e1, d2⟩ := d1.get e
  refine ⟨⟨vs, x, h1, e1⟩, fun y H' ⟨e2, e3⟩ => ?_⟩
  have e4 := e3 vs h1
  rw [e1] at e4
  cases e4
  exact ⟨w1, e2.symm, rfl, .refl _ _, R1, d2⟩
theorem numb_get : ∀ (xs : List PV) (n i : Nat) (v : PV), (numb n xs)[i]? = some v → ∃ u, xs[i]? = some u ∧ v = .tup [.int ((n + i : Nat) : Int), u]
  | [], _, _, _, h => by simp [numb] at h
  | x :: xs, n, 0, v, h => by simp [numb] at h; exact ⟨x, rfl, h.symm⟩
  | x :: xs, n, i + 1, v, h => by
    simp only [numb, List.getElem?_cons_succ] at h ⊢
    obtain ⟨u, h1, h2⟩ := numb_get xs (n + 1) i v h
    exact ⟨u, h1, by rw [h2]; congr 4; omega⟩
theorem numb_len : ∀ (xs : List PV) (n : Nat), (numb n xs).length = xs.length
  | [], _ => rfl
  | x :: xs, n => by simp [numb, numb_len xs (n + 1)]
theorem wk_enum {w : Wd} {a : Addr} {vs : List V} {xs : List PV} (R : Rel g b w) (h : w.H a = some (.lst vs)) (nb : ¬ w.B a) (d : Dens g w xs vs) : WkOk g b w (Ite X.K a) (numb 0 xs) := by
  intro i w1 L R1
  have h1 := (L.keep a _ h nb).1
  have d1 := Dens.mono0 R L xs vs d
  refine ⟨fun v e => ?_, fun hl => ⟨vs, .of h1, by rw [numb_len] at hl; rw [← d.length]; exact hl⟩⟩
  obtain ⟨u, e0, rfl⟩ := numb_get xs 0 i v e
  obtain ⟨x, e1, d2⟩ := d1.get e0
  refine ⟨⟨vs, x, .of h1, e1⟩, fun y H' ⟨T, x', e2, e3, e4, e5⟩ => ?_⟩
  have e6 := e5 vs (.of h1)
  rw [e1] at e6
  cases e6
  subst e2 e4
  refine ⟨w1.put T (.tup [.int (i : Nat), x]), rfl, rfl, put_le R1 e3, put_rel R1 e3, ?_⟩
  simp only [Den]
  refine ⟨T, _, rfl, .inl (.inl upd_same), .cons ?_ (.cons (d2.mono R1 (put_le (c := b) R1 e3)) .nil)⟩
  simp only [Den, Nat.zero_add]
theorem upP_get : ∀ (n : Nat) (lo : Int) (i : Nat) (v : PV), (upP lo n)[i]? = some v → i < n ∧ v = .int (lo + i)
  | 0, _, _, _, h => by simp [upP] at h
  | n + 1, lo, 0, v, h => by simp [upP] at h; exact ⟨Nat.succ_pos _, by rw [← h]; simp⟩
  | n + 1, lo, i + 1, v, h => by
    simp only [upP, List.getElem?_cons_succ] at h
    obtain ⟨h1, h2⟩ := upP_get n (lo + 1) i v h
    exact ⟨by omega, by rw [h2]; congr 1; omega⟩
theorem upP_len : ∀ (n : Nat) (lo : Int), (upP lo n).length = n
  | 0, _ => rfl
  | n + 1, lo => by simp [upP, upP_len n (lo + 1)]
theorem wk_rng {w : Wd} {lo : Int} {n : Nat} : WkOk g b w (Itr lo n) (upP lo n) := by
  intro i w1 L R1
  refine ⟨fun v e => ?_, fun hl => by rw [upP_len] at hl; exact hl⟩
  obtain ⟨h1, rfl⟩ := upP_get n lo i v e
  refine ⟨h1, fun y H' ⟨e2, e3⟩ => ⟨w1, e2.symm, rfl, .refl _ _, R1, ?_⟩⟩
  subst e3
  simp only [Den]
/-- a thing that is walked -/
theorem si_seq (hK : g.K = X.K) {e : Expr} {c : C} (h : SE g X W b e (evE τ Φ b c)) : PI X tg e (tI g b W fun σ μ => wkd .seq (evEs τ Φ b [c] σ μ)) := by
  refine pi_imp (pi_or (pi_list h.pe) (pi_tup h.pe)) fun σ H R q => ?_
  obtain ⟨w, σp, rfl, Rl, L, k⟩ := q
  have k' : okI g b W w σ ((evE τ Φ b c σp w.μ).bind fun p => Res.of ((walked .seq [p.1] p.2).map fun xs => (xs, p.2))) R := by
    have k : okI g b W w σ ((evEs τ Φ b [c] σp w.μ).bind _) R := k
    rw [evEs, Res.bind_assoc] at k
    refine cast ?_ k
    congr 1
  have st := okI.step k'
  cases q : evE τ Φ b c σp w.μ with
  | err => rw [q] at st; exact st.elim
  | exc e μ' => exact .inl ⟨w, σp, rfl, Rl, L, by rw [q] at st ⊢; exact st⟩
  | ok p =>
    obtain ⟨v, μ'⟩ := p
    cases v with
    | lst ys =>
      refine .inl ⟨w, σp, rfl, Rl, L, st.imp fun x H1 ⟨w1, v, e1, L1, R1, d1, ex, k1⟩ => ?_⟩
      rw [q] at ex
      cases ex
      subst e1
      have d1' := d1
      simp only [Den] at d1
      obtain ⟨a, vs, rfl, nb, s, d⟩ := d1
      exact ⟨a, rfl, ⟨vs, .of s⟩, okI.here k1 rfl R1 (wk_list R1 s nb d)⟩
    | tup ys =>
      refine .inr ⟨w, σp, rfl, Rl, L, st.imp fun x H1 ⟨w1, v, e1, L1, R1, d1, ex, k1⟩ => ?_⟩
      rw [q] at ex
      cases ex
      subst e1
      simp only [Den] at d1
      obtain ⟨a, vs, rfl, s, d⟩ := d1
      exact ⟨a, rfl, ⟨vs, hK ▸ s⟩, okI.here k1 rfl R1 (wk_tup hK R1 s d)⟩
    | _ => rw [q] at k'; exact k'.elim
theorem okI.one {w : Wd} {σ : St} {k : Ik} {es : List C} {σp : Loc} {R : It → Hp → Prop} (h : okI g b W w σ (wkd k (evEs τ Φ b es σp w.μ)) R) :
    okL g b W w σ (evEs τ Φ b es σp w.μ) fun xs H1 => ∃ (w1 : Wd) (vs : List PV), w1.H = H1 ∧ Le b w w1 ∧ Rel g b w1 ∧ Dens g w1 vs xs ∧ okI g b W w1 σ (Res.of ((walked k vs w1.μ).map fun xs => (xs, w1.μ))) R := by
  refine (okI.stepL h).imp fun xs H1 ⟨w1, vs, e1, L1, R1, d1, _, k1⟩ => ⟨w1, vs, e1, L1, R1, d1, k1⟩
theorem si_enum {e : Expr} {c : C} {p pos tpos : Pos} {elts : List Expr} {kk : Nat} (hg : Gl X "enumerate") (hm : X.mg "enumerate" = none) (hs : nst e = true) (h : SL g X W b [e] (evEs τ Φ b [c])) :
    PI X (.Tuple elts kk tpos) (.Call (.Name "enumerate" p) [e] [] pos) (tI g b W fun σ μ => wkd .enum (evEs τ Φ b [c] σ μ)) := by
  refine pi_imp (pi_enum hg hm h (star_ok hs [] X.env)) fun σ H R q => ?_
  obtain ⟨w, σp, rfl, Rl, L, k⟩ := q
  refine ⟨w, σp, rfl, Rl, L, okL.imp (okI.one k) fun xs H1 ⟨w1, vs, e1, L1, R1, d1, k1⟩ => ?_⟩
  subst e1
  cases e : walked .enum vs w1.μ with
  | none => rw [e] at k1; exact k1.elim
  | some ys =>
    have e0 := e
    unfold walked at e
    split at e <;> rename_i h0 <;> first | (cases h0; done) | skip
    · cases e
      obtain ⟨x, rfl, d2⟩ := d1.one
      simp only [Den] at d2
      obtain ⟨a, us, rfl, nb, s, d⟩ := d2
      exact ⟨a, us, rfl, .of s, okI.here k1 e0 R1 (wk_enum R1 s nb d)⟩
    · cases e
theorem small62_ok {i : Int} (h : small62 i = true) : -(2 ^ 62) ≤ i ∧ i < 2 ^ 62 := by
  simp only [small62, Bool.and_eq_true, decide_eq_true_eq] at h
  exact h
theorem si_rng1 {e : Expr} {c : C} {p pos : Pos} (hg : Gl X "range") (hm : X.mg "range" = none) (hs : nst e = true) (h : SL g X W b [e] (evEs τ Φ b [c])) :
    PI X tg (.Call (.Name "range" p) [e] [] pos) (tI g b W fun σ μ => wkd .rng1 (evEs τ Φ b [c] σ μ)) := by
  refine pi_imp (pi_range1 hg hm h (star_ok hs [] X.env)) fun σ H R q => ?_
  obtain ⟨w, σp, rfl, Rl, L, k⟩ := q
  refine ⟨w, σp, rfl, Rl, L, okL.imp (okI.one k) fun xs H1 ⟨w1, vs, e1, L1, R1, d1, k1⟩ => ?_⟩
  subst e1
  cases e : walked .rng1 vs w1.μ with
  | none => rw [e] at k1; exact k1.elim
  | some ys =>
    have e0 := e
    unfold walked at e
    split at e <;> rename_i h0 <;> first | (cases h0; done) | skip
    · split at e
      · rename_i hz
        cases e
        obtain ⟨x, rfl, d2⟩ := d1.one
        simp only [Den] at d2
        subst d2
        obtain ⟨z1, z2⟩ := small62_ok hz
        exact ⟨_, rfl, z1, z2, okI.here k1 e0 R1 wk_rng⟩
      · cases e
    · cases e
theorem si_rng2 {e f : Expr} {c d : C} {p pos : Pos} (hg : Gl X "range") (hm : X.mg "range" = none) (hs : nst e = true) (hs2 : nst f = true) (h : SL g X W b [e, f] (evEs τ Φ b [c, d])) :
    PI X tg (.Call (.Name "range" p) [e, f] [] pos) (tI g b W fun σ μ => wkd .rng2 (evEs τ Φ b [c, d] σ μ)) := by
  refine pi_imp (pi_range2 hg hm h (by rw [star_ok hs, star_ok hs2]; rfl) (star_ok hs2 [] X.env)) fun σ H R q => ?_
  obtain ⟨w, σp, rfl, Rl, L, k⟩ := q
  refine ⟨w, σp, rfl, Rl, L, okL.imp (okI.one k) fun xs H1 ⟨w1, vs, e1, L1, R1, d1, k1⟩ => ?_⟩
  subst e1
  cases e : walked .rng2 vs w1.μ with
  | none => rw [e] at k1; exact k1.elim
  | some ys =>
    have e0 := e
    unfold walked at e
    split at e <;> rename_i h0 <;> first | (cases h0; done) | skip
    · split at e
      · rename_i hz
        cases e
        obtain ⟨x, y, rfl, d2, d3⟩ := d1.two
        simp only [Den] at d2 d3
        subst d2 d3
        rw [Bool.and_eq_true] at hz
        obtain ⟨z1, z2⟩ := small62_ok hz.1
        obtain ⟨z3, z4⟩ := small62_ok hz.2
        exact ⟨_, _, rfl, ⟨z1, z2, z3, z4⟩, okI.here k1 e0 R1 wk_rng⟩
      · cases e
    · cases e
end
end Ev


set_option Elab.async false
set_option linter.all false
set_option maxRecDepth 100000
set_option maxHeartbeats 4000000
/-! Targets, comprehensions. -/
namespace Ev
open PySem L2
mutual
def Tg.slots : Tg → List Nat
  | .var i => [i]
  | .tup ts => Tg.slotss ts
  | .star pre s post => pre ++ s :: post
def Tg.slotss : List Tg → List Nat
  | [] => []
  | t :: ts => t.slots ++ Tg.slotss ts
end
theorem wipe_set {σ : St} {i : Nat} {x : Option V} : ∀ {vs : List Nat}, i ∈ vs → wipe (σ.set i x) vs = wipe σ vs
  | [], h => by simp at h
  | v :: vs, h => by
    show (wipe (σ.set i x) vs).set v none = (wipe σ vs).set v none
    by_cases hm : i ∈ vs
    · rw [wipe_set hm]
    · have e : i = v := by
        rcases List.mem_cons.mp h with e | e
        · exact e
        · exact absurd e hm
      subst e
      have key : ∀ (us : List Nat), i ∉ us → wipe (σ.set i x) us = (wipe σ us).set i x := by
        intro us
        induction us with
        | nil => intro _; rfl
        | cons u us ih =>
          intro hu
          simp only [List.mem_cons, not_or] at hu
          show (wipe (σ.set i x) us).set u none = ((wipe σ us).set u none).set i x
          rw [ih hu.2, List.set_comm _ _ hu.1]
      rw [key vs hm, List.set_set]
theorem wipe_wipe {σ : St} : ∀ {us vs : List Nat}, (∀ i ∈ us, i ∈ vs) → wipe (wipe σ us) vs = wipe σ vs
  | [], _, _ => rfl
  | u :: us, vs, h => by
    show wipe ((wipe σ us).set u none) vs = _
    rw [wipe_set (h u (by simp)), wipe_wipe fun i hi => h i (by simp [hi])]
/-- but for the slots is, σ' is σ -/
def Same (is : List Nat) (σ σ' : St) : Prop := ∀ vs : List Nat, (∀ i ∈ is, i ∈ vs) → wipe σ' vs = wipe σ vs
section
variable {g : Gx} {X : Cx} {W : WX} {b : Nat} {τ : Tab} {Φ : Calls}
def okT (g : Gx) (b : Nat) (w : Wd) (σ : St) (is : List Nat) (r : Option Loc) (Q : St → Hp → Prop) : Prop := match r with
  | some σp' => ∀ (w' : Wd) (σ' : St), w'.μ = w.μ → Le b w w' → Rel g b w' → RelL g w' σp' σ' → Same is σ σ' → Q σ' w'.H
  | none => False
def tG (g : Gx) (b : Nat) (t : Tg) : TG := fun x σ H Q => ∃ (w : Wd) (σp : Loc) (v : PV), w.H = H ∧ Rel g b w ∧ RelL g w σp σ ∧ Den g w v x ∧ okT g b w σ t.slots (asg t v σp) Q
def tGs (g : Gx) (b : Nat) (ts : List Tg) : TGs := fun xs σ H Q => ∃ (w : Wd) (σp : Loc) (vs : List PV), w.H = H ∧ Rel g b w ∧ RelL g w σp σ ∧ Dens g w vs xs ∧ okT g b w σ (Tg.slotss ts) (asgs ts vs σp) Q
theorem pg_imp {e : Expr} {t t' : TG} (h : PG X e t) (i : ∀ x σ H Q, t' x σ H Q → t x σ H Q) : PG X e t' := ⟨fun pins s σ H v u Q I r q => h.run pins s σ H v u Q I r (i _ _ _ _ q)⟩
theorem pgs_imp {e : List Expr} {t t' : TGs} (h : PGs X e t) (i : ∀ x σ H Q, t' x σ H Q → t x σ H Q) : PGs X e t' := ⟨fun pins s σ H v u Q I r q => h.run pins s σ H v u Q I r (i _ _ _ _ q)⟩
theorem sg_var {i : Nat} {x : Str} {pos : Pos} (hN : X.N.Nodup) (hi : X.N[i]? = some x) (hx : L2.Loc X.env.scope x) (hf : X.fn x = true ∨ X.env.scope.names.lookup x = some .local) : PG X (.Name x pos) (tG g b (.var i)) := by
  refine pg_imp (pg_name hN hi hx hf) fun x σ H Q q => ?_
  obtain ⟨w, σp, v, rfl, R, L, d, k⟩ := q
  unfold asg at k
  split at k
  · exact k w _ rfl (.refl _ _) R (L.set d) fun vs hv => wipe_set (hv i (by simp [Tg.slots]))
  · exact k.elim
theorem sgs_nil : PGs X [] (tGs g b []) := by
  refine pgs_imp pgs_nil fun xs σ H Q q => ?_
  obtain ⟨w, σp, vs, rfl, R, L, d, k⟩ := q
  unfold asgs at k
  cases vs with
  | nil => cases d.inv_nil; exact ⟨rfl, k w σ rfl (.refl _ _) R L fun _ _ => rfl⟩
  | cons => exact k.elim
/-- what may be assigned to -/
def tgt : Expr → Bool
  | .Name _ _ => true
  | .Tuple _ _ _ => true
  | _ => false
theorem asg_each {e : Expr} {es : List Expr} {env : Env} (h : tgt e = true) : (assignEach (e :: es) env).map (·.2) = assign e env :: (assignEach es env).map (·.2) := by
  cases e <;> first | rfl | simp [tgt] at h
theorem sgs_cons {e : Expr} {es : List Expr} {t : Tg} {ts : List Tg} (ht : tgt e = true) (h1 : PG X e (tG g b t)) (h2 : PGs X es (tGs g b ts)) : PGs X (e :: es) (tGs g b (t :: ts)) := by
  refine pgs_imp (pgs_cons h1 h2 (asg_each ht)) fun xs σ H Q q => ?_
  obtain ⟨w, σp, vs, rfl, R, L, d, k⟩ := q
  cases vs with
  | nil => unfold asgs at k; exact k.elim
  | cons v vs =>
    obtain ⟨x, r, rfl, d1, d2⟩ := d.inv_cons
    unfold asgs at k
    refine ⟨x, r, rfl, w, σp, v, rfl, R, L, d1, ?_⟩
    cases e : asg t v σp with
    | none => rw [e] at k; exact k.elim
    | some σ1 =>
      rw [e] at k
      simp only [Option.bind_some] at k
      intro w1 σ' e1 L1 R1 l1 s1
      refine ⟨w1, σ1, vs, rfl, R1, l1, d2.mono R L1, ?_⟩
      cases e2 : asgs ts vs σ1 with
      | none => rw [e2] at k; exact k.elim
      | some σ2 =>
        rw [e2] at k
        intro w2 σ'' e3 L2 R2 l2 s2
        refine k w2 σ'' (e3.trans e1) (L1.trans L2) R2 l2 fun us hu => ?_
        simp only [Tg.slotss, List.mem_append] at hu
        rw [s2 us fun i hi => hu i (.inr hi), s1 us fun i hi => hu i (.inl hi)]
theorem asgEach_len {env : Env} : ∀ {es : List Expr}, es.all tgt = true → (assignEach es env).length = es.length ∧ (assignEach es env).findIdx? (·.1) = none
  | [], _ => ⟨rfl, rfl⟩
  | e :: es, h => by
    simp only [List.all_cons, Bool.and_eq_true] at h
    obtain ⟨h1, h2⟩ := asgEach_len (env := env) h.2
    cases e <;> simp [tgt] at h <;> exact ⟨by show (assignEach es env).length + 1 = _; rw [h1]; rfl, by
      show List.findIdx? _ ((false, _) :: assignEach es env) = none
      rw [List.findIdx?_cons, h2]
      rfl⟩
theorem asgs_len : ∀ {ts : List Tg} {vs : List PV} {σ σ' : Loc}, asgs ts vs σ = some σ' → ts.length = vs.length
  | [], [], _, _, _ => rfl
  | [], _ :: _, _, _, h => by simp [asgs] at h
  | _ :: _, [], _, _, h => by simp [asgs] at h
  | t :: ts, v :: vs, σ, σ', h => by
    simp only [asgs, Option.bind_eq_some_iff] at h
    obtain ⟨σ1, _, h2⟩ := h
    simp [asgs_len h2]
theorem sg_tup (hK : g.K = X.K) (hc : X.calm = true) {es : List Expr} {ts : List Tg} {kk : Nat} {pos : Pos} (ha : es.all tgt = true) (hl : es.length = ts.length) (h : PGs X es (tGs g b ts)) : PG X (.Tuple es kk pos) (tG g b (.tup ts)) := by
  obtain ⟨h1, h2⟩ := asgEach_len (env := X.env) ha
  refine pg_imp (pg_tup hc h (h1.trans hl) h2) fun x σ H Q q => ?_
  obtain ⟨w, σp, v, rfl, R, L, d, k⟩ := q
  unfold asg at k
  split at k
  · rename_i vs
    simp only [Den] at d
    obtain ⟨a, xs, rfl, s, d⟩ := d
    refine ⟨a, xs, rfl, hK ▸ s, ?_, w, σp, vs, rfl, R, L, d, k⟩
    cases e : asgs ts vs σp with
    | none => rw [e] at k; exact k.elim
    | some σ1 => rw [← d.length, asgs_len e]
  · exact k.elim
/-! ### a world with a list that grows -/
/-- the list at D: blocked -/
def Wd.zone (w : Wd) (D : Addr) (vs : List V) : Wd := ⟨fun a => w.Z a ∨ a = D, w.ρ, w.μ, upd w.H D (.lst vs)⟩
theorem zone_B {w : Wd} {D : Addr} {vs : List V} {a : Addr} : (w.zone D vs).B a ↔ (w.B a ∨ a = D) := by
  constructor
  · rintro ((h | h) | h)
    · exact .inl (.inl h)
    · exact .inr h
    · exact .inl (.inr h)
  · rintro ((h | h) | h)
    · exact .inl (.inl h)
    · exact .inr h
    · exact .inl (.inr h)
theorem zone_lk {w : Wd} {D : Addr} {vs : List V} (h : w.H D = none) : Lk w (w.zone D vs) := by
  refine ⟨List.prefix_refl _, fun a o e n => ?_⟩
  have ne : a ≠ D := ne_of_none e h
  refine ⟨.inl ?_, fun q => ?_⟩
  · show upd w.H D (.lst vs) a = some o
    rw [upd_ne ne]
    exact e
  · rcases zone_B.mp q with q | q
    · exact n q
    · exact ne q
theorem DenO.mono0 {c : Nat} {w w' : Wd} (R : Rel g c w) (L : Lk w w') {o : MO} {h : Option HO} (d : DenO g w o h) : DenO g w' o h := by
  cases o with
  | lst xs => obtain ⟨vs, e, d⟩ := d; exact ⟨vs, e, Dens.mono0 R L _ _ d⟩
  | dct ks vs => obtain ⟨kvs, e, q, d⟩ := d; exact ⟨kvs, e, q, Dens.mono0 R L _ _ d⟩
  | ins c as vs => obtain ⟨dx, fs, e, q, d⟩ := d; exact ⟨dx, fs, e, q, Dens.mono0 R L _ _ d⟩
theorem zone_rel {w : Wd} {D : Addr} {vs : List V} (R : Rel g b w) (h : w.H D = none) : Rel g b (w.zone D vs) where
  len := R.len
  blen := R.blen
  nd := R.nd
  nz := fun a ha z => by
    rcases z with z | z
    · exact R.nz a ha z
    · subst z; exact R.tr a ha h
  tr := fun a ha => by
    show upd w.H D (.lst vs) a ≠ none
    unfold upd
    split
    · simp
    · exact R.tr a ha
  zk := fun a z => by
    show Kind (upd w.H D (.lst vs) a)
    unfold upd
    split
    · trivial
    · rename_i ne
      rcases z with z | z
      · exact R.zk a z
      · exact absurd z ne
  obj := fun i o a h1 h2 => by
    have ne : a ≠ D := fun e => R.tr a (List.mem_of_getElem? h2) (e ▸ h)
    show DenO g _ o (upd w.H D (.lst vs) a)
    rw [upd_ne ne]
    exact (R.obj i o a h1 h2).mono0 R (zone_lk h)
/-- the zone's list is changed -/
def Wd.zw (w : Wd) (D : Addr) (vs : List V) : Wd := { w with H := upd w.H D (.lst vs) }
theorem zw_lk {w : Wd} {D : Addr} {vs : List V} (h : w.Z D) : Lk w (w.zw D vs) := by
  refine ⟨List.prefix_refl _, fun a o e n => ⟨.inl ?_, n⟩⟩
  show upd w.H D (.lst vs) a = some o
  rw [upd_ne fun z => by subst z; exact n (.inl h)]
  exact e
theorem zw_rel {w : Wd} {D : Addr} {vs : List V} (R : Rel g b w) (h : w.Z D) : Rel g b (w.zw D vs) where
  len := R.len
  blen := R.blen
  nd := R.nd
  nz := R.nz
  tr := fun a ha => by
    show upd w.H D (.lst vs) a ≠ none
    unfold upd
    split
    · simp
    · exact R.tr a ha
  zk := fun a z => by
    show Kind (upd w.H D (.lst vs) a)
    unfold upd
    split
    · trivial
    · exact R.zk a z
  obj := fun i o a h1 h2 => by
    have ne : a ≠ D := fun e => R.nz a (List.mem_of_getElem? h2) (e ▸ h)
    show DenO g _ o (upd w.H D (.lst vs) a)
    rw [upd_ne ne]
    exact (R.obj i o a h1 h2).mono0 R (zw_lk h)
/-- on the way through a comprehension -/
structure Lz (b : Nat) (D : Addr) (w wz : Wd) : Prop where
  lk : Lk w wz
  z : wz.Z = fun a => w.Z a ∨ a = D
  zkeep : ∀ a, w.Z a → wz.H a = w.H a
  old : ∀ (i : Nat) (o' : MO), i < b → wz.μ[i]? = some (some o') → ∃ o, w.μ[i]? = some (some o) ∧ ∀ k, o.refLt k = true → o'.refLt k = true
theorem Lk.trans {w w1 w2 : Wd} (x : Lk w w1) (y : Lk w1 w2) : Lk w w2 := ⟨x.pre.trans y.pre, fun a o h n => by
  obtain ⟨h1, n1⟩ := x.keepf a o h n
  rcases h1 with h1 | ⟨od, k, h1⟩
  · exact y.keepf a o h1 n1
  · obtain ⟨h2, n2⟩ := y.keep a _ h1 n1
    exact ⟨.inr ⟨od, k, h2⟩, n2⟩⟩
theorem Lz.start {w : Wd} {D : Addr} {vs : List V} (R : Rel g b w) (h : w.H D = none) : Lz b D w (w.zone D vs) := ⟨zone_lk h, rfl, fun a z => by
  show upd w.H D (.lst vs) a = w.H a
  refine upd_ne fun e => ?_
  subst e
  exact R.freeNB h (.inl z), fun i o _ e => ⟨o, e, fun _ q => q⟩⟩
theorem Lz.le {w wz wz' : Wd} {D : Addr} (x : Lz b D w wz) (y : Le b wz wz') : Lz b D w wz' := ⟨x.lk.trans y.toLk, y.z.trans x.z, fun a z => (y.zkeep a (by rw [x.z]; exact .inl z)).trans (x.zkeep a z), fun i o' hi e => by
  obtain ⟨o1, h1, m1⟩ := y.old i o' hi e
  obtain ⟨o2, h2, m2⟩ := x.old i o1 hi h1
  exact ⟨o2, h2, fun k q => m1 k (m2 k q)⟩⟩
theorem Lz.zD {w wz : Wd} {D : Addr} (x : Lz b D w wz) : wz.Z D := by rw [x.z]; exact .inr rfl
theorem Lz.zw {w wz : Wd} {D : Addr} {vs : List V} (R : Rel g b w) (h : w.H D = none) (x : Lz b D w wz) : Lz b D w (wz.zw D vs) := ⟨x.lk.trans (zw_lk x.zD), x.z, fun a z => by
  show upd wz.H D (.lst vs) a = w.H a
  rw [upd_ne fun e => by subst e; exact R.freeNB h (.inl z)]
  exact x.zkeep a z, x.old⟩
/-- the end of it -/
def Wd.unz (w wz : Wd) (D : Addr) (m : Bool) (ys : List PV) : Wd := if m then ⟨w.Z, wz.ρ ++ [D], wz.μ ++ [some (.lst ys)], wz.H⟩ else ⟨w.Z, wz.ρ, wz.μ, wz.H⟩
theorem unz_ok {w wz : Wd} {D : Addr} {m : Bool} {ys : List PV} {vs : List V} (R : Rel g b w) (h : w.H D = none) (x : Lz b D w wz) (Rz : Rel g b wz) (hD : wz.H D = some (.lst vs)) (d : Dens g wz ys vs) :
    Le b w (w.unz wz D m ys) ∧ Rel g b (w.unz wz D m ys) ∧ (w.unz wz D m ys).μ = (newL m ys wz.μ).2 ∧ Den g (w.unz wz D m ys) (newL m ys wz.μ).1 (.ref D) ∧ (w.unz wz D m ys).H = wz.H := by
  have nD : D ∉ wz.ρ := fun q => Rz.nz D q x.zD
  have nZ : ¬ w.Z D := fun q => R.freeNB h (.inl q)
  cases m with
  | false =>
    have B1 : ∀ a, (w.unz wz D false ys).B a → wz.B a := fun a q => by
      rcases q with q | ⟨i, o, h1, h2⟩
      · exact .inl (by rw [x.z]; exact .inl q)
      · exact .inr ⟨i, o, h1, h2⟩
    have lk : Lk wz (w.unz wz D false ys) := ⟨List.prefix_refl _, fun a o e n => ⟨.inl e, fun q => n (B1 a q)⟩⟩
    refine ⟨⟨x.lk.trans lk, rfl, x.zkeep, x.old⟩, ⟨Rz.len, Rz.blen, Rz.nd, fun a ha z => Rz.nz a ha (by rw [x.z]; exact .inl z), Rz.tr, fun a z => Rz.zk a (by rw [x.z]; exact .inl z), fun i o a h1 h2 => (Rz.obj i o a h1 h2).mono0 Rz lk⟩, rfl, ?_, rfl⟩
    show Den g _ (.lst ys) (.ref D)
    simp only [Den]
    refine ⟨D, vs, rfl, fun q => ?_, hD, Dens.mono0 Rz lk _ _ d⟩
    rcases q with q | ⟨i, o, _, h2⟩
    · exact nZ q
    · exact nD (List.mem_of_getElem? h2)
  | true =>
    have B1 : ∀ a, (w.unz wz D true ys).B a → wz.B a := fun a q => by
      rcases q with q | ⟨i, o, h1, h2⟩
      · exact .inl (by rw [x.z]; exact .inl q)
      · by_cases hi : i < wz.μ.length
        · refine .inr ⟨i, o, ?_, ?_⟩
          · have : (wz.μ ++ [some (.lst ys)])[i]? = some (some o) := h1
            rwa [List.getElem?_append_left hi] at this
          · have : (wz.ρ ++ [D])[i]? = some a := h2
            rwa [List.getElem?_append_left (by rw [Rz.len]; exact hi)] at this
        · have e2 : (wz.ρ ++ [D])[i]? = some a := h2
          rw [List.getElem?_append_right (by rw [Rz.len]; omega)] at e2
          have := List.mem_of_getElem? e2
          simp at this
          subst this
          exact .inl x.zD
    have lk : Lk wz (w.unz wz D true ys) := ⟨List.prefix_append _ _, fun a o e n => ⟨.inl e, fun q => n (B1 a q)⟩⟩
    refine ⟨⟨x.lk.trans lk, rfl, x.zkeep, fun i o' hi e => ?_⟩, ⟨?_, ?_, ?_, fun a ha z => ?_, fun a ha => ?_, fun a z => Rz.zk a (by rw [x.z]; exact .inl z), fun i o a h1 h2 => ?_⟩, rfl, ?_, rfl⟩
    · have e : (wz.μ ++ [some (.lst ys)])[i]? = some (some o') := e
      rw [List.getElem?_append_left (by have := Rz.blen; omega)] at e
      exact x.old i o' hi e
    · show (wz.ρ ++ [D]).length = (wz.μ ++ [some (MO.lst ys)]).length
      simp [Rz.len]
    · show b ≤ (wz.μ ++ [some (MO.lst ys)]).length
      have := Rz.blen
      simp
      omega
    · show (wz.ρ ++ [D]).Nodup
      rw [List.nodup_append]
      exact ⟨Rz.nd, by simp, fun a ha c hc e => by simp at hc; subst hc; subst e; exact nD ha⟩
    · have ha : a ∈ wz.ρ ++ [D] := ha
      rcases List.mem_append.mp ha with ha | ha
      · exact Rz.nz a ha (by rw [x.z]; exact .inl z)
      · simp at ha; subst ha; exact nZ z
    · have ha : a ∈ wz.ρ ++ [D] := ha
      show wz.H a ≠ none
      rcases List.mem_append.mp ha with ha | ha
      · exact Rz.tr a ha
      · simp at ha; subst ha; rw [hD]; simp
    · have h1 : (wz.μ ++ [some (.lst ys)])[i]? = some (some o) := h1
      have h2 : (wz.ρ ++ [D])[i]? = some a := h2
      by_cases hi : i < wz.μ.length
      · rw [List.getElem?_append_left hi] at h1
        rw [List.getElem?_append_left (by rw [Rz.len]; exact hi)] at h2
        exact (Rz.obj i o a h1 h2).mono0 Rz lk
      · rw [List.getElem?_append_right (by omega)] at h1
        rw [List.getElem?_append_right (by rw [Rz.len]; omega)] at h2
        have h4 : a = D := by simpa using List.mem_of_getElem? h2
        have h5 : o = .lst ys := by
          have h6 := List.mem_of_getElem? h1
          rw [List.mem_singleton] at h6
          exact Option.some.inj h6
        subst h4 h5
        exact ⟨vs, hD, Dens.mono0 Rz lk _ _ d⟩
    · show Den g _ (.ref wz.μ.length) (.ref D)
      simp only [Den]
      refine ⟨D, rfl, ?_⟩
      show (wz.ρ ++ [D])[wz.μ.length]? = some D
      rw [← Rz.len]
      simp
/-! ### comprehensions -/
def W0 : WX := fun _ _ _ _ => False
/-- a turn -/
def turnF (τ : Tab) (Φ : Calls) (b : Nat) (t : Tg) (ifs : List C) (elt : C) (v : PV) (σ : Loc) (μ : Sto) : Res (Option PV × Sto) := match asg t v σ with
  | some σ1 => (evIfs τ Φ b ifs σ1 μ).bind fun q => (match q.1 with
    | true => (evE τ Φ b elt σ1 q.2).bind fun r => .ok (some r.1, r.2)
    | false => .ok (none, q.2))
  | none => .err
theorem evE_lc {m : Bool} {t : Tg} {k : Ik} {it : List C} {ifs : List C} {elt : C} {own : List Nat} {σ : Loc} {μ : Sto} : evE τ Φ b (.lc m t k it ifs elt own) σ μ = (evEs τ Φ b it σ μ).bind fun p => match walked k p.1 p.2 with
    | some xs => (match evLc (turnF τ Φ b t ifs elt) xs (wipeP σ own) p.2 with
      | .ok (ys, μ1) => if ys.length ≤ line then .ok (newL m ys μ1) else .err
      | _ => .err)
    | none => .err := by
  rw [evE]
  rfl
theorem evLc_cons {f : PV → Loc → Sto → Res (Option PV × Sto)} {x : PV} {xs : List PV} {σ : Loc} {μ μf : Sto} {zs : List PV} (h : evLc f (x :: xs) σ μ = .ok (zs, μf)) :
    ∃ (o : Option PV) (μ1 : Sto) (ys : List PV), f x σ μ = .ok (o, μ1) ∧ evLc f xs σ μ1 = .ok (ys, μf) ∧ zs = (match o with | some y => y :: ys | none => ys) := by
  unfold evLc at h
  cases e : f x σ μ with
  | ok p =>
    obtain ⟨o, μ1⟩ := p
    rw [e] at h
    simp only [Res.bind] at h
    cases e2 : evLc f xs σ μ1 with
    | ok q =>
      obtain ⟨ys, μ2⟩ := q
      rw [e2] at h
      simp only [Res.ok.injEq, Prod.mk.injEq] at h
      obtain ⟨h1, rfl⟩ := h
      exact ⟨o, μ1, ys, rfl, e2, h1.symm⟩
    | exc _ _ => rw [e2] at h; simp at h
    | err => rw [e2] at h; simp at h
  | exc _ _ => rw [e] at h; simp [Res.bind] at h
  | err => rw [e] at h; simp [Res.bind] at h
theorem sps_nil : PTs X [] (tT g b W (evIfs τ Φ b [])) := ⟨fun pins s σ H Q I q => pts_nil.run pins s σ H Q I (by
  obtain ⟨w, σp, rfl, R, L, k⟩ := q
  rw [evIfs] at k
  exact k w rfl (.refl _ _) R)⟩
theorem sps_one {e : Expr} {c : C} (h : SE g X W b e (evE τ Φ b c)) : PTs X [e] (tT g b W (evIfs τ Φ b [c])) := ⟨fun pins s σ H Q I q => (pts_one h.pt).run pins s σ H Q I (by
  obtain ⟨w, σp, rfl, R, L, k⟩ := q
  refine ⟨w, σp, rfl, R, L, ?_⟩
  have e : evIfs τ Φ b [c] σp w.μ = evT (evE τ Φ b c) σp w.μ := by
    rw [evIfs]
    unfold evT
    have e0 : ∀ μ, evIfs τ Φ b [] σp μ = .ok (true, μ) := fun μ => by rw [evIfs]
    simp only [e0]
    cases evE τ Φ b c σp w.μ with
    | ok p =>
      show Res.bind (Res.of (truth p.2 p.1)) _ = Res.of _
      cases truth p.2 p.1 with
      | none => rfl
      | some r => cases r <;> rfl
    | exc _ _ => rfl
    | err => rfl
  rw [← e]
  exact k)⟩
theorem RelL.mono0 {w w' : Wd} {σp : Ev.Loc} {σ : St} (R : Rel g b w) (L : Lk w w') (h : RelL g w σp σ) : RelL g w' σp σ :=
  ⟨h.len, fun i v e => let ⟨x, h1, h2⟩ := h.get i v e; ⟨x, h1, Den.mono0 R L _ _ h2⟩⟩
/-- the reading of a comprehension -/
theorem lc_reads {m : Bool} {t : Tg} {k : Ik} {it : List C} {ifs : List C} {elt : C} {own : List Nat} {σ : St} {H : Hp} {Q : VK} (hs : ∀ i ∈ t.slots, i ∈ own) (h : tE g b W (evE τ Φ b (.lc m t k it ifs elt own)) σ H Q) :
    tLc (tI g b W fun σ μ => wkd k (evEs τ Φ b it σ μ)) (tG g b t) (tT g b W0 (evIfs τ Φ b ifs)) (tE g b W0 (evE τ Φ b elt)) own σ H Q := by
  obtain ⟨w, σp, rfl, R, L, kk⟩ := h
  refine ⟨w, σp, rfl, R, L, ?_⟩
  rw [evE_lc] at kk
  show okI g b W w σ (wkd k (evEs τ Φ b it σp w.μ)) _
  unfold wkd
  cases e1 : evEs τ Φ b it σp w.μ with
  | err => rw [e1] at kk; exact kk.elim
  | exc e μ' => rw [e1] at kk; exact kk
  | ok p =>
    obtain ⟨vs, μ1⟩ := p
    rw [e1] at kk
    simp only [Res.bind] at kk ⊢
    cases e2 : walked k vs μ1 with
    | none => rw [e2] at kk; exact kk.elim
    | some xs =>
      rw [e2] at kk
      simp only [Option.map_some, Res.of]
      dsimp only at kk
      cases e3 : evLc (turnF τ Φ b t ifs elt) xs (wipeP σp own) μ1 with
      | err => rw [e3] at kk; exact kk.elim
      | exc _ _ => rw [e3] at kk; exact kk.elim
      | ok q =>
        obtain ⟨tot, μf⟩ := q
        rw [e3] at kk
        dsimp only at kk
        split at kk
        · rename_i hz
          intro w1 J eμ L1 R1 wk D hD
          subst eμ
          have Rl1 := (L.mono R L1).wipe own
          refine ⟨fun i mm H => mm = xs.length - i ∧ i ≤ xs.length ∧ ∃ (wz : Wd) (ys zs : List PV) (us : List V), wz.H = H ∧ Rel g b wz ∧ Lz b D w1 wz ∧ wz.H D = some (.lst us) ∧ Dens g wz ys us ∧
            evLc (turnF τ Φ b t ifs elt) (xs.drop i) (wipeP σp own) wz.μ = .ok (zs, μf) ∧ ys ++ zs = tot, ⟨xs.length, by simp, Nat.zero_le _, w1.zone D [], [], tot, [], rfl, zone_rel R1 hD, .start R1 hD, upd_same, .nil, by rw [List.drop_zero]; exact e3, rfl⟩, ?_⟩
          rintro i mm H ⟨rfl, hi, wz, ys, zs, us, rfl, Rz, lz, hDz, dz, ez, et⟩
          obtain ⟨wk1, wk2⟩ := wk i wz lz.lk Rz
          by_cases hlt : i < xs.length
          · right
            have ex : xs[i]? = some xs[i] := List.getElem?_eq_getElem hlt
            obtain ⟨go, yl⟩ := wk1 _ ex
            rw [List.drop_eq_getElem_cons hlt] at ez
            obtain ⟨o, μ2, zs', f1, f2, f3⟩ := evLc_cons ez
            refine ⟨go, fun H' => ∃ (wz : Wd) (ys zs : List PV) (us : List V), wz.H = H' ∧ Rel g b wz ∧ Lz b D w1 wz ∧ wz.H D = some (.lst us) ∧ Dens g wz ys us ∧
              evLc (turnF τ Φ b t ifs elt) (xs.drop (i + 1)) (wipeP σp own) wz.μ = .ok (zs, μf) ∧ ys ++ zs = tot, fun H' q => ⟨xs.length - (i + 1), by omega, rfl, hlt, q⟩, fun x H' y => ?_⟩
            obtain ⟨w2, rfl, m2, L2', R2, d2⟩ := yl x H' y
            have lz2 := lz.le L2'
            have hD2 : w2.H D = some (.lst us) := (L2'.zkeep D lz.zD).trans hDz
            have dz2 := dz.mono Rz L2'
            rw [← m2] at f1
            unfold turnF at f1
            refine ⟨w2, wipeP σp own, xs[i], rfl, R2, Rl1.mono0 R1 lz2.lk, d2, ?_⟩
            cases ea : asg t xs[i] (wipeP σp own) with
            | none => rw [ea] at f1; cases f1
            | some σ1 =>
              rw [ea] at f1
              dsimp only at f1
              intro w3 σ3 m3 L3 R3 l3 s3
              refine ⟨by rw [s3 own hs, wipe_wipe fun _ h => h], w3, σ1, rfl, R3, l3, ?_⟩
              rw [m3]
              have lz3 := lz2.le L3
              have hD3 : w3.H D = some (.lst us) := (L3.zkeep D lz2.zD).trans hD2
              have dz3 := dz2.mono R2 L3
              cases ei : evIfs τ Φ b ifs σ1 w2.μ with
              | err => rw [ei] at f1; cases f1
              | exc _ _ => rw [ei] at f1; cases f1
              | ok q =>
                obtain ⟨bo, μ4⟩ := q
                rw [ei] at f1
                simp only [Res.bind] at f1
                intro w4 m4 L4 R4
                have lz4 := lz3.le L4
                have hD4 : w4.H D = some (.lst us) := (L4.zkeep D lz3.zD).trans hD3
                have dz4 := dz3.mono R3 L4
                cases bo with
                | false =>
                  rw [if_neg Bool.false_ne_true]
                  simp only [Res.ok.injEq, Prod.mk.injEq] at f1
                  obtain ⟨rfl, rfl⟩ := f1
                  subst f3
                  exact ⟨w4, ys, zs, us, rfl, R4, lz4, hD4, dz4, by rw [m4]; exact f2, et⟩
                | true =>
                  rw [if_pos rfl]
                  simp only at f1
                  refine ⟨w4, σ1, rfl, R4, l3.mono R3 L4, ?_⟩
                  rw [m4]
                  cases ee : evE τ Φ b elt σ1 μ4 with
                  | err => rw [ee] at f1; cases f1
                  | exc _ _ => rw [ee] at f1; cases f1
                  | ok q =>
                    obtain ⟨yv, μ5⟩ := q
                    rw [ee] at f1
                    simp only [Res.bind, Res.ok.injEq, Prod.mk.injEq] at f1
                    obtain ⟨rfl, rfl⟩ := f1
                    simp only at f3
                    subst f3
                    intro w5 yx m5 L5 R5 d5
                    have lz5 := lz4.le L5
                    have hD5 : w5.H D = some (.lst us) := (L5.zkeep D lz4.zD).trans hD4
                    have dz5 := dz4.mono R4 L5
                    refine ⟨us, hD5, ?_, w5.zw D (us ++ [yx]), ys ++ [yv], zs', us ++ [yx], rfl, zw_rel R5 lz5.zD, Lz.zw R1 hD lz5, upd_same, ?_, by rw [← m5] at f2; exact f2, by rw [← et]; simp⟩
                    · have h1 := dz5.length
                      have h2 : tot.length ≤ line := hz
                      rw [← et] at h2
                      simp only [List.length_append, List.length_cons] at h2
                      rw [← line_eq]
                      omega
                    · exact Dens.mono0 R5 (zw_lk lz5.zD) _ _ (dz5.append (.cons d5 .nil))
          · left
            have ei : i = xs.length := by omega
            subst ei
            refine ⟨wk2 (Nat.le_refl _), ?_⟩
            rw [List.drop_length] at ez
            simp only [evLc, Res.ok.injEq, Prod.mk.injEq] at ez
            obtain ⟨rfl, em⟩ := ez
            rw [List.append_nil] at et
            subst et
            obtain ⟨u1, u2, u3, u4, u5⟩ := unz_ok (m := m) R1 hD lz Rz hDz dz
            have kk' : ∀ (w' : Wd) (x : V), w'.μ = (newL m ys μf).2 → Le b w w' → Rel g b w' → Den g w' (newL m ys μf).1 x → Q x w'.H := by
              cases m <;> exact kk
            have := kk' (w1.unz wz D m ys) (.ref D) (by rw [u3, em]) (L1.trans u1) u2 (by rw [← em]; exact u4)
            rw [u5] at this
            exact this
        · exact kk.elim
end
end Ev


set_option Elab.async false
set_option linter.all false
set_option maxRecDepth 100000
set_option maxHeartbeats 4000000
/-! Statements. -/
namespace Ev
open PySem L2
def okS (g : Gx) (b : Nat) (W : WX) (w : Wd) (o : Out) (D : Ends) : Prop := match o with
  | .nx σp' μ' => ∀ (w' : Wd) (σ' : St), w'.μ = μ' → Le b w w' → Rel g b w' → RelL g w' σp' σ' → D.nx σ' w'.H
  | .ret v μ' => ∀ (w' : Wd) (x : V), w'.μ = μ' → Le b w w' → Rel g b w' → Den g w' v x → D.rt x w'.H
  | .exc e σp' μ' => ∀ (w' : Wd) (σ' : St) (cls : Value) (d : Option Addr), w'.μ = μ' → Le b w w' → Rel g b w' → RelL g w' σp' σ' → DenX g w' e cls d → W cls d σ' w'.H
  | .err => False
def tS (g : Gx) (b : Nat) (W : WX) (f : Ev.Loc → Sto → Out) : TS := fun D σ H => ∃ (w : Wd) (σp : Ev.Loc), w.H = H ∧ Rel g b w ∧ RelL g w σp σ ∧ okS g b W w (f σp w.μ) D
section
variable {g : Gx} {X : Cx} {W : WX} {b wf : Nat} {τ : Tab} {Φ : Calls} {w : Wd} {σ : St} {σp : Ev.Loc} {D : Ends}
theorem okS.le {w1 : Wd} {o : Out} (h : okS g b W w o D) (L : Le b w w1) : okS g b W w1 o D := by
  unfold okS at h ⊢
  split at h
  · exact fun w' σ' e L' R' l => h w' σ' e (L.trans L') R' l
  · exact fun w' x e L' R' d => h w' x e (L.trans L') R' d
  · exact fun w' σ' c d e L' R' l q => h w' σ' c d e (L.trans L') R' l q
  · exact h
theorem okS.step {x : Res (PV × Sto)} {f : PV × Sto → Out} (h : okS g b W w (x.out σp f) D) (R : Rel g b w) (l : RelL g w σp σ) :
    okE g b W w σ x fun x1 H1 => ∃ (w1 : Wd) (v : PV), w1.H = H1 ∧ Le b w w1 ∧ Rel g b w1 ∧ Den g w1 v x1 ∧ RelL g w1 σp σ ∧ okS g b W w1 (f (v, w1.μ)) D := by
  cases x with
  | ok a =>
    obtain ⟨v, μ'⟩ := a
    intro w1 x1 e L R1 d
    subst e
    exact ⟨w1, v, rfl, L, R1, d, l.mono R L, okS.le (o := f (v, w1.μ)) h L⟩
  | exc e μ' => exact fun w' cls d e1 L R1 d1 => h w' σ cls d e1 L R1 (l.mono R L) d1
  | err => exact h.elim
theorem okS.stepL {x : Res (List PV × Sto)} {f : List PV × Sto → Out} (h : okS g b W w (x.out σp f) D) (R : Rel g b w) (l : RelL g w σp σ) :
    okL g b W w σ x fun x1 H1 => ∃ (w1 : Wd) (v : List PV), w1.H = H1 ∧ Le b w w1 ∧ Rel g b w1 ∧ Dens g w1 v x1 ∧ RelL g w1 σp σ ∧ okS g b W w1 (f (v, w1.μ)) D := by
  cases x with
  | ok a =>
    obtain ⟨v, μ'⟩ := a
    intro w1 x1 e L R1 d
    subst e
    exact ⟨w1, v, rfl, L, R1, d, l.mono R L, okS.le (o := f (v, w1.μ)) h L⟩
  | exc e μ' => exact fun w' cls d e1 L R1 d1 => h w' σ cls d e1 L R1 (l.mono R L) d1
  | err => exact h.elim
theorem okS.next {o : Out} {f : Ev.Loc → Sto → Out} (h : okS g b W w (o.next f) D) : okS g b W w o { D with nx := fun σ' H' => ∃ (w' : Wd) (σp' : Ev.Loc), w'.H = H' ∧ Le b w w' ∧ Rel g b w' ∧ RelL g w' σp' σ' ∧ okS g b W w' (f σp' w'.μ) D } := by
  cases o with
  | nx σp' μ' =>
    intro w' σ' e L R l
    subst e
    exact ⟨w', σp', rfl, L, R, l, okS.le (o := f σp' w'.μ) h L⟩
  | ret v μ' => exact h
  | exc e σp' μ' => exact h
  | err => exact h
theorem ps_imp {s : Stmt} {t t' : TS} (h : PS X s t) (i : ∀ D σ H, t' D σ H → t D σ H) : PS X s t' := ⟨fun pins s σ H D I q => h.run pins s σ H D I (i _ _ _ q)⟩
theorem pss_imp {s : List Stmt} {t t' : TS} (h : PSs X s t) (i : ∀ D σ H, t' D σ H → t D σ H) : PSs X s t' := ⟨fun pins s σ H D I q => h.run pins s σ H D I (i _ _ _ q)⟩
theorem Out.of_some {α : Type} {x : Option α} {f : α → Out} (h : okS g b W w (Out.of x f) D) : ∃ a, x = some a ∧ okS g b W w (f a) D := by
  cases x with
  | none => exact h.elim
  | some a => exact ⟨a, rfl, h⟩
/-! ### rows of statements -/
theorem ss_nil : PSs X [] (tS g b W (evSs τ Φ b wf [])) := by
  refine pss_imp pss_nil fun D σ H q => ?_
  obtain ⟨w, σp, rfl, R, l, k⟩ := q
  rw [evSs] at k
  exact k w σ rfl (.refl _ _) R l
theorem ss_cons {st : Stmt} {sts : List Stmt} {s : S} {ss : List S} (h : PS X st (tS g b W (evS τ Φ b wf s))) (hr : PSs X sts (tS g b W (evSs τ Φ b wf ss))) : PSs X (st :: sts) (tS g b W (evSs τ Φ b wf (s :: ss))) := by
  refine pss_imp (pss_cons h hr) fun D σ H q => ?_
  obtain ⟨w, σp, rfl, R, l, k⟩ := q
  rw [evSs] at k
  refine ⟨w, σp, rfl, R, l, ?_⟩
  have k2 := okS.next k
  unfold okS at k2 ⊢
  split at k2
  · intro w' σ' e L R' l'
    obtain ⟨w1, σp1, e1, L1, R1, l1, q⟩ := k2 w' σ' e L R' l'
    exact ⟨w1, σp1, e1, R1, l1, q⟩
  · exact k2
  · exact k2
  · exact k2
/-- a local becomes plain data -/
theorem ss_frz {sts : List Stmt} {i : Nat} {ss : List S} (hr : PSs X sts (tS g b W (evSs τ Φ b wf ss))) : PSs X sts (tS g b W (evSs τ Φ b wf (.frz i :: ss))) := by
  refine pss_imp hr fun D σ H q => ?_
  obtain ⟨w, σp, rfl, R, l, k⟩ := q
  rw [evSs, evS] at k
  unfold frzSlot at k
  split at k
  · rename_i j e
    split at k
    · rename_i hb
      split at k
      · rename_i o hm
        cases e2 : o.frz fun k => if Nat.blt k b then some (.ref k) else none with
        | none => rw [e2] at k; exact k.elim
        | some v =>
        rw [e2] at k
        have hbj : b ≤ j := Nat.le_of_ble_eq_true hb
        obtain ⟨x, ex, dx⟩ := l.get i _ e
        have dx0 := dx
        simp only [Den] at dx
        obtain ⟨a, rfl, hr⟩ := dx
        have sub : ∀ (i : Nat) (o : MO), (w.μ.set j none)[i]? = some (some o) → i ≠ j ∧ w.μ[i]? = some (some o) := fun i o h => by
          by_cases hj : j = i
          · subst hj
            rw [List.getElem?_set_self (List.getElem?_eq_some_iff.mp hm).1] at h
            cases h
          · rw [List.getElem?_set_ne hj] at h
            exact ⟨fun z => hj z.symm, h⟩
        let t : Wd := ⟨w.Z, w.ρ, w.μ.set j none, w.H⟩
        have B1 : ∀ a, t.B a → w.B a := fun a q => by
          rcases q with q | ⟨i, o, h1, h2⟩
          · exact .inl q
          · exact .inr ⟨i, o, (sub i o h1).2, h2⟩
        have lk : Lk w t := ⟨List.prefix_refl _, fun a o e n => ⟨.inl e, fun q => n (B1 a q)⟩⟩
        have Lt : Le b w t := ⟨lk, rfl, fun _ _ => rfl, fun i o' _ h => ⟨o', (sub i o' h).2, fun _ q => q⟩⟩
        have Rt : Rel g b t := ⟨by show w.ρ.length = (w.μ.set j none).length; simp [R.len], by show b ≤ (w.μ.set j none).length; simpa using R.blen, R.nd, R.nz, R.tr, R.zk, fun i o a h1 h2 => (R.obj i o a (sub i o h1).2 h2).mono0 R lk⟩
        have nb : ¬ t.B a := fun q => by
          rcases q with q | ⟨i, o', h1, h2⟩
          · exact R.nz a (List.mem_of_getElem? hr) q
          · exact (sub i o' h1).1 (nodup_at R.nd h2 hr)
        have dv : Den g t v (.ref a) := frz_den (n := w.ρ.length) (w1 := w) (t := t) ⟨rfl, fun a n q => n (B1 a q), fun _ _ _ h => h⟩ R (fun k v' h c hc => by
          split at h
          · cases h
            simp only [Den]
            exact ⟨c, rfl, hc⟩
          · cases h) e2 nb hm hr
        refine ⟨t, σp.set i (some v), rfl, Rt, ⟨by simp [l.len], fun i' u h => ?_⟩, okS.le (o := evSs τ Φ b wf ss (σp.set i (some v)) (w.μ.set j none)) k Lt⟩
        by_cases hi : i = i'
        · subst hi
          rw [List.getElem?_set_self (List.getElem?_eq_some_iff.mp e).1] at h
          cases h
          exact ⟨_, ex, dv⟩
        · rw [List.getElem?_set_ne hi] at h
          obtain ⟨y, h1, h2⟩ := l.get i' u h
          exact ⟨y, h1, Den.mono0 R lk _ _ h2⟩
      · exact k.elim
    · exact k.elim
  · exact k.elim
theorem s_pass {pos : Pos} : PS X (.Pass pos) (tS g b W (evS τ Φ b wf .pass)) := by
  refine ps_imp ps_pass fun D σ H q => ?_
  obtain ⟨w, σp, rfl, R, l, k⟩ := q
  rw [evS] at k
  exact k w σ rfl (.refl _ _) R l
theorem s_doc {x : Str} {j : Nat} {p pos : Pos} : PS X (.Expr (.Constant (.str x) j p) pos) (tS g b W (evS τ Φ b wf .pass)) := by
  refine ps_imp ps_doc fun D σ H q => ?_
  obtain ⟨w, σp, rfl, R, l, k⟩ := q
  rw [evS] at k
  exact k w σ rfl (.refl _ _) R l
theorem s_retN {pos : Pos} : PS X (.Return none pos) (tS g b W (evS τ Φ b wf .retN)) := by
  refine ps_imp ps_retN fun D σ H q => ?_
  obtain ⟨w, σp, rfl, R, l, k⟩ := q
  rw [evS] at k
  exact k w .non rfl (.refl _ _) R (by simp only [Den])
theorem s_ret {e : Expr} {c : C} {pos : Pos} (h : SE g X W b e (evE τ Φ b c)) : PS X (.Return (some e) pos) (tS g b W (evS τ Φ b wf (.ret c))) := by
  refine ps_imp (ps_ret h.pe) fun D σ H q => ?_
  obtain ⟨w, σp, rfl, R, l, k⟩ := q
  rw [evS] at k
  refine ⟨w, σp, rfl, R, l, (okS.step k R l).imp fun x H1 ⟨w1, v, e1, L1, R1, d1, l1, k1⟩ => ?_⟩
  subst e1
  exact k1 w1 x rfl (.refl _ _) R1 d1
/-- what is no comprehension -/
def noLc : Expr → Bool
  | .ListComp .. => false
  | .SetComp .. => false
  | .DictComp .. => false
  | _ => true
theorem noLc_ok {e : Expr} (h : noLc e = true) (t : Option Expr) (l : Nat) (env : Env) : swapsWith e t l env = pure false := by
  cases e <;> first | rfl | simp [noLc] at h
theorem s_expr {e : Expr} {c : C} {pos : Pos} (hn : noLc e = true) (h : SE g X W b e (evE τ Φ b c)) : PS X (.Expr e pos) (tS g b W (evS τ Φ b wf (.expr c))) := by
  refine ps_imp (ps_expr h.pe (noLc_ok hn _ _ _)) fun D σ H q => ?_
  obtain ⟨w, σp, rfl, R, l, k⟩ := q
  rw [evS] at k
  refine ⟨w, σp, rfl, R, l, (okS.step k R l).imp fun x H1 ⟨w1, v, e1, L1, R1, d1, l1, k1⟩ => ?_⟩
  subst e1
  exact k1 w1 σ rfl (.refl _ _) R1 l1
theorem s_if {e : Expr} {c : C} {a d : List Stmt} {x y : List S} {pos : Pos} (h : SE g X W b e (evE τ Φ b c)) (ha : PSs X a (tS g b W (evSs τ Φ b wf x))) (hd : PSs X d (tS g b W (evSs τ Φ b wf y))) : PS X (.If e a d pos) (tS g b W (evS τ Φ b wf (.iff c x y))) := by
  refine ps_imp (ps_if h.pt ha hd) fun D σ H q => ?_
  obtain ⟨w, σp, rfl, R, l, k⟩ := q
  rw [evS] at k
  refine ⟨w, σp, rfl, R, l, ?_⟩
  have st := okS.step k R l
  unfold evT
  cases q : evE τ Φ b c σp w.μ with
  | err => rw [q] at st; exact st.elim
  | exc e μ' => rw [q] at st; exact st
  | ok p =>
    obtain ⟨v, μ'⟩ := p
    rw [q] at st k
    simp only [Res.out] at k
    simp only [Res.bind]
    cases q2 : truth μ' v with
    | none => rw [q2] at k; exact k.elim
    | some r =>
      rw [q2] at k
      intro w1 e1 L1 R1
      subst e1
      cases r with
      | true => rw [if_pos rfl]; exact ⟨w1, σp, rfl, R1, l.mono R L1, okS.le (o := evSs τ Φ b wf x σp w1.μ) k L1⟩
      | false => rw [if_neg Bool.false_ne_true]; exact ⟨w1, σp, rfl, R1, l.mono R L1, okS.le (o := evSs τ Φ b wf y σp w1.μ) k L1⟩
/-! ### assignments -/
theorem asg_reads {t : Tg} {c : C} (h : tS g b W (evS τ Φ b wf (.set t c)) D σ w.H) : tAsg (tE g b W (evE τ Φ b c)) (tG g b t) D σ w.H := by
  obtain ⟨w', σp, e, R, l, k⟩ := h
  rw [evS] at k
  refine ⟨w', σp, e, R, l, (okS.step k R l).imp fun x H1 ⟨w1, v, e1, L1, R1, d1, l1, k1⟩ => ?_⟩
  subst e1
  obtain ⟨σ1, e2, k2⟩ := Out.of_some k1
  refine ⟨w1, σp, v, rfl, R1, l1, d1, ?_⟩
  rw [e2]
  intro w2 σ2 m2 L2 R2 l2 _
  exact k2 w2 σ2 m2 L2 R2 l2
theorem s_set {e : Expr} {c : C} {i : Nat} {x : Str} {p pos : Pos} (hN : X.N.Nodup) (hi : X.N[i]? = some x) (hx : L2.Loc X.env.scope x) (hf : X.fn x = true ∨ X.env.scope.names.lookup x = some .local)
    (hs : swapsWith e (some (.Name x p)) pos.line X.env = pure false) (h : SE g X W b e (evE τ Φ b c)) : PS X (.Assign [.Name x p] e pos) (tS g b W (evS τ Φ b wf (.set (.var i) c))) := by
  refine ps_imp (ps_set hN hi hx h.pe hs hf) fun D σ H q => ?_
  obtain ⟨w, σp, rfl, R, l, k⟩ := q
  rw [evS] at k
  refine ⟨w, σp, rfl, R, l, (okS.step k R l).imp fun x H1 ⟨w1, v, e1, L1, R1, d1, l1, k1⟩ => ?_⟩
  subst e1
  obtain ⟨σ1, e2, k2⟩ := Out.of_some k1
  unfold asg at e2
  split at e2
  · cases e2
    exact k2 w1 _ rfl (.refl _ _) R1 (l1.set d1)
  · cases e2
/-- a list of the block, at once given to a local -/
theorem s_setT {e tg : Expr} {t : Tg} {c : C} {pos : Pos} (ht : tgt tg = true) (hs : swapsWithSole [tg] e pos.line X.env = pure false) (hw : swappedStores [tg] e X.env = pure none) (h : SE g X W b e (evE τ Φ b c)) (hg : PG X tg (tG g b t)) :
    PS X (.Assign [tg] e pos) (tS g b W (evS τ Φ b wf (.set t c))) := by
  refine ps_imp (ps_asg h.pe hg hs hw (asg_each ht)) fun D σ H q => ?_
  have e : ∃ w : Wd, w.H = H := ⟨⟨fun _ => False, [], [], H⟩, rfl⟩
  obtain ⟨w, rfl⟩ := e
  exact asg_reads q
/-! ### o[i] = e -/
def rSetLD (o i v : V) (H : Hp) (Q : Hp → Prop) : Prop := rSetL o i v H Q ∨ rSetD o i v H Q
theorem set_any (hu : X.A.units + 1 < cLine) : PSet X rSetLD := by
  intro pins s σ H o i v ov iv u Q I ro ri rv q
  rcases q with q | q
  · exact set_list pins s σ H o i v ov iv u Q I ro ri rv q
  · exact set_dict hu pins s σ H o i v ov iv u Q I ro ri rv q
theorem refLt_le : ∀ {n m : Nat} {v : PV}, n ≤ m → v.refLt n = true → v.refLt m = true := by
  intro n m
  have key : ∀ v : PV, n ≤ m → v.refLt n = true → v.refLt m = true := fun v => by
    refine PV.rec (motive_1 := fun v => n ≤ m → v.refLt n = true → v.refLt m = true) (motive_2 := fun vs => n ≤ m → PV.refsLt n vs = true → PV.refsLt m vs = true) ?_ ?_ ?_ ?_ ?_ ?_ ?_ ?_ ?_ ?_ ?_ ?_ ?_ ?_ v
    · intro _ _; rfl
    · intro _ _ _; rfl
    · intro _ _ _; rfl
    · intro _ _ _; rfl
    · intro xs ih h q; exact ih h q
    · intro xs ih h q; exact ih h q
    · intro ks vs i1 i2 h q
      simp only [PV.refLt, Bool.and_eq_true] at q ⊢
      exact ⟨i1 h q.1, i2 h q.2⟩
    · intro c as vs ih h q; exact ih h q
    · intro _ _ _; rfl
    · intro _ _ _; rfl
    · intro c as vs ih h q; exact ih h q
    · intro i h q
      simp only [PV.refLt, Nat.blt_eq] at q ⊢
      omega
    · intro _ _; rfl
    · intro v vs i1 i2 h q
      simp only [PV.refsLt, Bool.and_eq_true] at q ⊢
      exact ⟨i1 h q.1, i2 h q.2⟩
  intro v h q
  exact key v h q
theorem mayWrite_ok {i : Nat} {v : PV} (h : mayWrite b i v = true) : i < b → ∀ k, v.refLt k = true := fun hi k => by
  unfold mayWrite at h
  rw [Bool.or_eq_true] at h
  rcases h with h | h
  · have := Nat.le_of_ble_eq_true h
    omega
  · exact refLt_le (Nat.zero_le k) h
theorem refsLt_set {k : Nat} {v : PV} (hv : v.refLt k = true) : ∀ {xs : List PV} {j : Nat}, PV.refsLt k xs = true → PV.refsLt k (xs.set j v) = true
  | [], _, h => h
  | x :: xs, 0, h => by
    simp only [PV.refsLt, Bool.and_eq_true, List.set_cons_zero] at h ⊢
    exact ⟨hv, h.2⟩
  | x :: xs, j + 1, h => by
    simp only [PV.refsLt, Bool.and_eq_true, List.set_cons_succ] at h ⊢
    exact ⟨h.1, refsLt_set hv h.2⟩
theorem refsLt_app {k : Nat} : ∀ {xs ys : List PV}, PV.refsLt k (xs ++ ys) = (PV.refsLt k xs && PV.refsLt k ys)
  | [], _ => by simp [PV.refsLt]
  | x :: xs, ys => by simp [PV.refsLt, refsLt_app (xs := xs), Bool.and_assoc]
theorem refsLt_setP {k : Nat} {x v : PV} (hv : v.refLt k = true) : ∀ {ks vs : List PV}, PV.refsLt k vs = true → PV.refsLt k (setP ks vs x v) = true
  | [], _, _ => rfl
  | _ :: _, [], _ => rfl
  | c :: ks, u :: vs, h => by
    simp only [PV.refsLt, Bool.and_eq_true, setP] at h ⊢
    refine ⟨?_, refsLt_setP hv h.2⟩
    split
    · exact hv
    · exact h.1
/-- an object is written -/
theorem setObj_ok {i : Nat} {o m : MO} {a : Addr} {u : HO} {Q : Hp → Prop} (R : Rel g b w) (h1 : w.μ[i]? = some (some o)) (h2 : w.ρ[i]? = some a) (hm : i < b → ∀ k, o.refLt k = true → m.refLt k = true) (k : Kind (some u))
    (d : ∀ t : Wd, t.H = upd w.H a u → Le b w t → DenO g t m (some u)) (q : ∀ t : Wd, t.μ = setObj w.μ i m → Le b w t → Rel g b t → Q t.H) : Q (upd w.H a u) := by
  have L := wr_le (c := b) (p := a) (o := u) R h1 h2 hm
  exact q (w.wr i a u m) rfl L (wr_rel R h1 h2 L k (d _ rfl L))
theorem setItem_ok {o x v : PV} {vo vx vv : V} {Q : Hp → Prop} (R : Rel g b w) (do_ : Den g w o vo) (dx : Den g w x vx) (dv : Den g w v vv) {μ' : Sto} (e : setItem b w.μ o x v = some μ') (q : ∀ t : Wd, t.μ = μ' → Le b w t → Rel g b t → Q t.H) : rSetLD vo vx vv w.H Q := by
  unfold setItem at e
  split at e
  · rename_i i
    simp only [Den] at do_
    obtain ⟨a, rfl, hr⟩ := do_
    split at e
    · rename_i xs hm
      split at e
      · rename_i j
        simp only [Den] at dx
        subst dx
        obtain ⟨us, h1, h2⟩ := R.obj i _ a hm hr
        rw [Option.bind_eq_some_iff] at e
        obtain ⟨n, e1, e2⟩ := e
        split at e2
        · rename_i hw
          cases e2
          refine .inl ⟨a, us, j, n, rfl, rfl, h1, by rw [← h2.length]; exact e1, ?_⟩
          exact setObj_ok (m := .lst (xs.set n v)) R hm hr (fun hi k hk => refsLt_set (mayWrite_ok hw hi k) hk) trivial (fun t _ L => ⟨_, rfl, (h2.mono R L).set n (dv.mono R L)⟩) q
        · cases e2
      · cases e
    · rename_i ks vs hm
      split at e
      · rename_i hc
        cases e
        simp only [Bool.and_eq_true, decide_eq_true_eq] at hc
        obtain ⟨hk, hl, hw⟩ := hc
        obtain ⟨kvs, h1, h2, h3⟩ := R.obj i _ a hm hr
        obtain ⟨c, hc⟩ := isKey_of hk
        have := den_key hc dx
        subst this
        have hlen : kvs.length = ks.length := by
          have := keys_len h2
          rwa [List.length_map] at this
        refine .inr ⟨a, _, rfl, .inl ⟨kvs, c, h1, rfl, by rw [hlen, ← line_eq]; exact hl, rfl⟩, ?_⟩
        refine setObj_ok (m := .dct (putP ks vs x v).1 (putP ks vs x v).2) R hm hr (fun hi k hk' => ?_) trivial (fun t _ L => ?_) q
        · simp only [MO.refLt, Bool.and_eq_true] at hk' ⊢
          have hv := mayWrite_ok hw hi k
          unfold putP
          split
          · exact ⟨hk'.1, refsLt_setP hv hk'.2⟩
          · simp only [refsLt_app, PV.refsLt, Bool.and_eq_true, Bool.and_true]
            refine ⟨⟨hk'.1, ?_⟩, hk'.2, hv⟩
            cases x <;> simp [PV.isKey] at hk <;> rfl
        · obtain ⟨p1, p2⟩ := putP_ok h2 (h3.mono R L) hc (dv.mono R L)
          exact ⟨putK kvs c vv, rfl, p1, p2⟩
      · cases e
    · cases e
  · cases e
theorem asg_sub {o i : Expr} {p : Pos} {env : Env} : (assignEach [.Subscript o i p] env).map (·.2) = [assign (.Subscript o i p) env] := rfl
theorem s_setI (hu : X.A.units + 64 < cLine) {o i e : Expr} {co ci c : C} {p pos : Pos} (hsl : nsl i = true) (hs : noLc e = true) (hw : swappedStores [.Subscript o i p] e X.env = pure none) (ho : SE g X W b o (evE τ Φ b co)) (hi : SE g X W b i (evE τ Φ b ci)) (h : SE g X W b e (evE τ Φ b c)) :
    PS X (.Assign [.Subscript o i p] e pos) (tS g b W (evS τ Φ b wf (.setI co ci c))) := by
  refine ps_imp (ps_asg h.pe (pg_sub ho.pe hi.pe (set_any (by omega)) (fun v => by rw [arm_assign_Subscript]; cases i <;> first | rfl | simp [nsl] at hsl)) (show swapsWith e (some (.Subscript o i p)) pos.line X.env = pure false from noLc_ok hs _ _ _) hw (asg_sub)) fun D σ H q => ?_
  obtain ⟨w, σp, rfl, R, l, k⟩ := q
  rw [evS] at k
  refine ⟨w, σp, rfl, R, l, (okS.step k R l).imp fun x H1 ⟨w1, v, e1, L1, R1, d1, l1, k1⟩ => ?_⟩
  refine ⟨w1, σp, e1, R1, l1, (okS.step k1 R1 l1).imp fun y H2 ⟨w2, u, e2, L2, R2, d2, l2, k2⟩ => ?_⟩
  refine ⟨w2, σp, e2, R2, l2, (okS.step k2 R2 l2).imp fun z H3 ⟨w3, t, e3, L3, R3, d3, l3, k3⟩ => ?_⟩
  subst e3
  obtain ⟨μ', e4, k4⟩ := Out.of_some k3
  exact setItem_ok R3 (d2.mono R2 L3) d3 ((d1.mono R1 L2).mono R2 L3) e4 fun t m L4 R4 => k4 t σ m L4 R4 (l3.mono R3 L4)
/-! ### loops -/
theorem for_reads {t : Tg} {k : Ik} {it : List C} {ss : List S} {H : Hp} (h : tS g b W (evS τ Φ b wf (.for t k it ss)) D σ H) : tFor (tI g b W fun σ μ => wkd k (evEs τ Φ b it σ μ)) (tG g b t) (tS g b W (evSs τ Φ b wf ss)) D σ H := by
  obtain ⟨w, σp, rfl, R, l, kk⟩ := h
  rw [evS] at kk
  refine ⟨w, σp, rfl, R, l, ?_⟩
  show okI g b W w σ (wkd k (evEs τ Φ b it σp w.μ)) _
  have st := okS.stepL kk R l
  unfold wkd
  cases e1 : evEs τ Φ b it σp w.μ with
  | err => rw [e1] at st; exact st.elim
  | exc e μ' => rw [e1] at st; exact st
  | ok p =>
    obtain ⟨vs, μ1⟩ := p
    rw [e1] at kk
    simp only [Res.out] at kk
    simp only [Res.bind]
    obtain ⟨xs, e2, kk⟩ := Out.of_some kk
    rw [e2]
    simp only [Option.map_some, Res.of]
    intro w1 J eμ L1 R1 wk
    subst eμ
    refine ⟨fun i mm σ' H => mm = xs.length - i ∧ i ≤ xs.length ∧ ∃ (wz : Wd) (σq : Ev.Loc), wz.H = H ∧ Rel g b wz ∧ Lk w1 wz ∧ RelL g wz σq σ' ∧ okS g b W wz (loop (fun v σ μ => Out.of (asg t v σ) fun σ => evSs τ Φ b wf ss σ μ) (xs.drop i) σq wz.μ) D,
      ⟨xs.length, by simp, Nat.zero_le _, w1, σp, rfl, R1, (Le.refl b w1).toLk, l.mono R L1, okS.le (o := loop _ (xs.drop 0) σp w1.μ) (by rw [List.drop_zero]; exact kk) L1⟩, ?_⟩
    rintro i mm σ' H ⟨rfl, hi, wz, σq, rfl, Rz, lk, lz, oz⟩
    obtain ⟨wk1, wk2⟩ := wk i wz lk Rz
    by_cases hlt : i < xs.length
    · right
      obtain ⟨go, yl⟩ := wk1 _ (List.getElem?_eq_getElem hlt)
      rw [List.drop_eq_getElem_cons hlt, loop] at oz
      refine ⟨go, fun σ' H' => ∃ (wz : Wd) (σq : Ev.Loc), wz.H = H' ∧ Rel g b wz ∧ Lk w1 wz ∧ RelL g wz σq σ' ∧ okS g b W wz (loop (fun v σ μ => Out.of (asg t v σ) fun σ => evSs τ Φ b wf ss σ μ) (xs.drop (i + 1)) σq wz.μ) D, fun σ' H' q => ⟨xs.length - (i + 1), by omega, rfl, hlt, q⟩, fun x H' y => ?_⟩
      obtain ⟨w2, rfl, m2, L2', R2, d2⟩ := yl x H' y
      have o2 := okS.next (okS.le oz L2')
      rw [← m2] at o2
      obtain ⟨σ1, ea, o3⟩ := Out.of_some o2
      refine ⟨w2, σq, xs[i], rfl, R2, lz.mono Rz L2', d2, ?_⟩
      rw [ea]
      intro w3 σ3 m3 L3 R3 l3 _
      refine ⟨w3, σ1, rfl, R3, l3, ?_⟩
      have o4 := okS.le o3 L3
      rw [← m3] at o4
      have lk2 : Lk w1 w2 := lk.trans L2'.toLk
      unfold okS at o4 ⊢
      split at o4
      · intro w4 σ4 e4 L4 R4 l4
        obtain ⟨w5, σ5, e5, L5, R5, l5, q5⟩ := o4 w4 σ4 e4 L4 R4 l4
        exact ⟨w5, σ5, e5, R5, lk2.trans L5.toLk, l5, q5⟩
      · exact o4
      · exact o4
      · exact o4
    · left
      have ei : i = xs.length := by omega
      subst ei
      refine ⟨wk2 (Nat.le_refl _), ?_⟩
      rw [List.drop_length, loop] at oz
      exact oz wz σ' rfl (.refl _ _) Rz lz
theorem s_for {tg iter : Expr} {body : List Stmt} {t : Tg} {k : Ik} {it : List C} {ss : List S} {pos : Pos} (hp : PassesOwn (model X.prog X.w) X.A X.env X.xe) (hc : X.calm = true) (hi : PI X tg iter (tI g b W fun σ μ => wkd k (evEs τ Φ b it σ μ))) (hg : PG X tg (tG g b t))
    (hb : PSs X body (tS g b W (evSs τ Φ b wf ss))) (hs : ∀ x, foldedSetIterable iter X.env x = pure x) : PS X (.For tg iter body [] pos) (tS g b W (evS τ Φ b wf (.for t k it ss))) :=
  ps_imp (ps_for hp hc hi hg hb hs) fun _ _ _ q => for_reads q
theorem wloop_reads {c : C} {ss : List S} {H : Hp} (h : tS g b W (evS τ Φ b wf (.whil c ss)) D σ H) : tWhile (tT g b W (evT (evE τ Φ b c))) (tS g b W (evSs τ Φ b wf ss)) D σ H := by
  obtain ⟨w, σp, rfl, R, l, kk⟩ := h
  rw [evS] at kk
  refine ⟨fun m σ' H => ∃ (wz : Wd) (σq : Ev.Loc), wz.H = H ∧ Rel g b wz ∧ RelL g wz σq σ' ∧ okS g b W wz (wloop (fun σ μ => (evE τ Φ b c σ μ).bind fun p => Res.of ((truth p.2 p.1).map fun r => (r, p.2))) (fun σ μ => evSs τ Φ b wf ss σ μ) m σq wz.μ) D, ⟨wf, w, σp, rfl, R, l, kk⟩, ?_⟩
  rintro m σ' H ⟨wz, σq, rfl, Rz, lz, oz⟩
  cases m with
  | zero => unfold wloop at oz; exact oz.elim
  | succ m =>
    rw [wloop] at oz
    refine ⟨wz, σq, rfl, Rz, lz, ?_⟩
    show okB g b W wz σ' (evT (evE τ Φ b c) σq wz.μ) _
    unfold evT
    cases e : ((evE τ Φ b c σq wz.μ).bind fun p => Res.of ((truth p.2 p.1).map fun r => (r, p.2))) with
    | err => rw [e] at oz; exact oz.elim
    | exc e μ' => rw [e] at oz; exact fun w' cls d e1 L R1 d1 => oz w' σ' cls d e1 L R1 (lz.mono Rz L) d1
    | ok p =>
      obtain ⟨r, μ'⟩ := p
      rw [e] at oz
      simp only [Res.out] at oz
      intro w1 e1 L1 R1
      subst e1
      cases r with
      | true =>
        rw [if_pos rfl]
        refine ⟨fun σ' H' => ∃ (wz : Wd) (σq : Ev.Loc), wz.H = H' ∧ Rel g b wz ∧ RelL g wz σq σ' ∧ okS g b W wz (wloop (fun σ μ => (evE τ Φ b c σ μ).bind fun p => Res.of ((truth p.2 p.1).map fun r => (r, p.2))) (fun σ μ => evSs τ Φ b wf ss σ μ) m σq wz.μ) D, fun σ' H' q => ⟨m, Nat.lt_succ_self _, q⟩, w1, σq, rfl, R1, lz.mono Rz L1, ?_⟩
        have o2 := okS.le (okS.next oz) L1
        unfold okS at o2 ⊢
        split at o2
        · intro w4 σ4 e4 L4 R4 l4
          obtain ⟨w5, σ5, e5, L5, R5, l5, q5⟩ := o2 w4 σ4 e4 L4 R4 l4
          exact ⟨w5, σ5, e5, R5, l5, q5⟩
        · exact o2
        · exact o2
        · exact o2
      | false =>
        rw [if_neg Bool.false_ne_true]
        exact oz w1 σ' rfl L1 R1 (lz.mono Rz L1)
theorem s_while {e : Expr} {body : List Stmt} {c : C} {ss : List S} {pos : Pos} (hp : PassesOwn (model X.prog X.w) X.A X.env X.xe) (h : SE g X W b e (evE τ Φ b c)) (hb : PSs X body (tS g b W (evSs τ Φ b wf ss))) :
    PS X (.While e body [] pos) (tS g b W (evS τ Φ b wf (.whil c ss))) :=
  ps_imp (ps_while hp h.pt hb) fun _ _ _ q => wloop_reads q
end
end Ev


set_option Elab.async false
set_option linter.all false
set_option maxRecDepth 100000
set_option maxHeartbeats 8000000
/-! The evaluator's terms against the program's text. -/
namespace Ev
open PySem L2
/-- the names that a text needs, by number -/
structure Ck where
  fn : List (Option Str)
  cl : List (Option Str)
  kn : List Str
  bl : List Str
def eqS (o : Option Str) (x : Str) : Bool := decide (o = some x)
def nat0 (l : List Nat) (i : Nat) : Bool := l.any fun j => Nat.beq i j
def visB (sc : Sc) (x : Str) : Bool := match sc.names.lookup x with
  | some .local => true
  | some .cell => true
  | some .free => true
  | _ => false
def glB (sc : Sc) (x : Str) : Bool := (match sc.names.lookup x with
  | some .globalImplicit => true
  | _ => false) && !(x == ("__debug__" : Str))
def locB (sc : Sc) (x : Str) : Bool := match sc.names.lookup x with
  | some .local => true
  | some .cell => sc.fn x
  | _ => false
def blB (ck : Ck) (x : Str) : Bool := ck.bl.any fun y => decide (x = y)
def opB : Op2 → Operator → Bool
  | .add, .Add => true | .sub, .Sub => true | .mul, .Mult => true | .fdiv, .FloorDiv => true | .mod, .Mod => true | .pow, .Pow => true
  | _, _ => false
def cpB : Cp → CmpOp → Bool
  | .eq, .Eq => true | .ne, .NotEq => true | .lt, .Lt => true | .le, .LtE => true | .gt, .Gt => true | .ge, .GtE => true
  | .is, .Is => true | .isn, .IsNot => true | .in_, .In => true | .nin, .NotIn => true
  | _, _ => false
def conB : PV → Const → Bool
  | .int i, .int j => decide (i = j)
  | .str s, .str t => decide (s = t)
  | .bl a, .bool c => a == c
  | .non, .none => true
  | _, _ => false
/-- the class that isinstance asks for -/
def tyB (ck : Ck) (sc : Sc) (t : Ty) (e : Expr) : Bool := match e with
  | .Name x _ => glB sc x && (match t with
    | .int => decide (x = "int") && blB ck x
    | .bool => decide (x = "bool") && blB ck x
    | .str => decide (x = "str") && blB ck x
    | .tuple => decide (x = "tuple") && blB ck x
    | .list => decide (x = "list") && blB ck x
    | .dict => decide (x = "dict") && blB ck x
    | .ve => decide (x = "ValueError") && blB ck x
    | .cls c => eqS (ck.cl[c]?).join x
    | .exc c => eqS (ck.cl[c]?).join x)
  | _ => false
def relN (own names : List (Str × NameKind)) : List (Str × NameKind) := own.map fun (n, k) => if (k == .free && names.lookup n == some .cell) then (n, .cell) else (n, k)
def blkS (sc : Sc) (scope : Scope) : Sc := ⟨sc.N, relN scope.names sc.names, fun x => scope.names.lookup x == some .cell⟩
def ownL (N : List Str) (own : List Nat) : List (Str × Nat) := own.filterMap fun i => (N[i]?).map fun x => (x, i)
def blkB (sc : Sc) (scope : Scope) (own : List Nat) : Bool := blkC sc.N ⟨.function, sc.names, false, false, []⟩ scope (ownL sc.N own) && decide ((ownL sc.N own).map (·.2) = own)
def subB (is own : List Nat) : Bool := is.all fun i => own.any fun j => Nat.beq i j
mutual
def chkT (sc : Sc) (t : Tg) (e : Expr) : Bool := match t with
  | .var i => (match e with
    | .Name x _ => eqS (sc.N[i]?) x && locB sc x
    | _ => false)
  | .tup ts => (match e with
    | .Tuple es _ _ => es.all tgt && chkTs sc ts es
    | _ => false)
  | .star _ _ _ => false
termination_by structural t
def chkTs (sc : Sc) (ts : List Tg) (es : List Expr) : Bool := match ts with
  | [] => es.isEmpty
  | t :: ts => (match es with
    | e :: es => chkT sc t e && chkTs sc ts es
    | [] => false)
termination_by structural ts
end
def isNon : C → Bool
  | .con .non => true
  | _ => false
def noSet : Expr → Bool
  | .Set .. => false
  | _ => true
mutual
def chkE (ck : Ck) (sc : Sc) (c : C) (e : Expr) : Bool := match c with
  | .var i => (match e with
    | .Name x _ => eqS (sc.N[i]?) x && visB sc x && (!(x == ("__debug__" : Str)) && !(x == ("__classdict__" : Str)))
    | _ => false)
  | .con v => (match e with
    | .Constant k _ _ => conB v k
    | _ => false)
  | .kn j => (match e with
    | .Name x _ => eqS (ck.kn[j]?) x && glB sc x
    | _ => false)
  | .bin o _ x y => (match e with
    | .BinOp l op r _ => opB o op && (chkE ck sc x l && chkE ck sc y r)
    | _ => false)
  | .neg x => (match e with
    | .UnaryOp .USub l _ => chkE ck sc x l
    | _ => false)
  | .cmp o x y => (match e with
    | .Compare l [op] [r] _ => cpB o op && (!behindInMarks op r && (chkE ck sc x l && chkE ck sc y r))
    | _ => false)
  | .chn o1 o2 x y z => (match e with
    | .Compare l [op, op'] [m, r] _ => cpB o1 op && (cpB o2 op' && (!lastMarks [op, op'] [m, r] && (chkE ck sc x l && (chkE ck sc y m && chkE ck sc z r))))
    | _ => false)
  | .and cs => (match e with
    | .BoolOp .And es _ => chkB ck sc cs es
    | _ => false)
  | .or cs => (match e with
    | .BoolOp .Or es _ => chkB ck sc cs es
    | _ => false)
  | .not x => (match e with
    | .UnaryOp .Not l _ => chkE ck sc x l
    | _ => false)
  | .ite c x y => (match e with
    | .IfExp t l r _ => chkE ck sc c t && (chkE ck sc x l && chkE ck sc y r)
    | _ => false)
  | .tup cs => (match e with
    | .Tuple es _ _ => chkEs ck sc cs es
    | _ => false)
  | .lst _ cs => (match e with
    | .List es _ => chkEs ck sc cs es
    | _ => false)
  | .dnew _ => (match e with
    | .Dict [] [] _ => true
    | _ => false)
  | .attr x f => (match e with
    | .Attribute l n _ => decide (n = dec f) && (bas l && chkE ck sc x l)
    | _ => false)
  | .idx x y => (match e with
    | .Subscript l r _ => nsl r && (chkE ck sc x l && chkE ck sc y r)
    | _ => false)
  | .slc _ x lo hl hi hh => (match e with
    | .Subscript l (.Slice lo' hi' none _) _ => chkE ck sc x l && ((match lo' with
      | none => !hl && isNon lo
      | some e => hl && chkE ck sc lo e) && (match hi' with
      | none => !hh && isNon hi
      | some e => hh && chkE ck sc hi e))
    | _ => false)
  | .call f _ cs => (match e with
    | .Call (.Name x _) es [] _ => eqS (ck.fn[f]?).join x && (glB sc x && chkEs ck sc cs es)
    | _ => false)
  | .meth _ _ _ _ => false
  | .make _ _ _ => false
  | .prim p _ cs => (match e with
    | .Call (.Name x _) es [] _ => glB sc x && (blB ck x && (match p, es with
      | .isi t, [_, e2] => decide (x = "isinstance") && (nst e2 && tyB ck sc t e2)
      | .isi _, _ => false
      | p, _ => decide (x = prN p) && !es.isEmpty) && (match p, es with
        | .isi _, [e1, _] => chkEs ck sc cs [e1]
        | _, es => chkEs ck sc cs es))
    | _ => false)
  | .bm p _ o cs => (match e with
    | .Call (.Attribute l n ap) es [] cp => bas l && ((ap.endLine == cp.line) && ((match p with
      | .get2 => decide (n = "get") && Nat.beq es.length 2
      | _ => false) && (chkE ck sc o l && chkEs ck sc cs es)))
    | _ => false)
  | .lc _ t k it ifs elt own => (match e with
    | .ListComp el [⟨tg, iter, ifs', 0⟩] scope _ => blkB sc scope own && (subB t.slots own && (noSet iter && (chkT (blkS sc scope) t tg && ((match ifs, ifs' with
      | [], [] => true
      | [_], [_] => true
      | _, _ => false) && (chkEs ck (blkS sc scope) ifs ifs' && (chkE ck (blkS sc scope) elt el && (match k with
        | .seq => chkEs ck sc it [iter]
        | .rng1 => (match iter with
          | .Call (.Name x _) [a] [] _ => decide (x = "range") && (glB sc x && (blB ck x && chkEs ck sc it [a]))
          | _ => false)
        | .rng2 => (match iter with
          | .Call (.Name x _) [a, d] [] _ => decide (x = "range") && (glB sc x && (blB ck x && chkEs ck sc it [a, d]))
          | _ => false)
        | .enum => (match iter, tg with
          | .Call (.Name x _) [a] [] _, .Tuple _ _ _ => decide (x = "enumerate") && (glB sc x && (blB ck x && chkEs ck sc it [a]))
          | _, _ => false)
        | .keys => chkEs ck sc it [iter]
        | _ => false)))))))
    | _ => false)
  | .lc2 .. => false
  | .dc .. => false
termination_by structural c
def chkEs (ck : Ck) (sc : Sc) (cs : List C) (es : List Expr) : Bool := match cs with
  | [] => es.isEmpty
  | c :: cs => (match es with
    | e :: es => nst e && (chkE ck sc c e && chkEs ck sc cs es)
    | [] => false)
termination_by structural cs
def chkB (ck : Ck) (sc : Sc) (cs : List C) (es : List Expr) : Bool := match cs with
  | [] => false
  | c :: cs => (match es with
    | e :: es => chkE ck sc c e && ((cs.isEmpty && es.isEmpty) || chkB ck sc cs es)
    | [] => false)
termination_by structural cs
end
end Ev


set_option Elab.async false
set_option linter.all false
set_option maxRecDepth 100000
set_option maxHeartbeats 8000000
/-! What the check says. -/
namespace Ev
open PySem L2
structure Link (ck : Ck) (p : Pg) : Prop where
  fn : ∀ f x, (ck.fn[f]?).join = some x → ∃ i, p.fn f = some i ∧ i.nm = some x
  cl : ∀ c x, (ck.cl[c]?).join = some x → p.cl c = some x
  kn : ∀ j x, ck.kn[j]? = some x → ∃ y, p.kn j = some (x, y)
  bl : ∀ x ∈ ck.bl, x ∈ p.bl
theorem eqS_ok {o : Option Str} {x : Str} (h : eqS o x = true) : o = some x := of_decide_eq_true h
theorem glB_ok {sc : Sc} {x : Str} (h : glB sc x = true) : sc.names.lookup x = some .globalImplicit ∧ (x == ("__debug__" : Str)) = false := by
  unfold glB at h
  rw [Bool.and_eq_true] at h
  obtain ⟨h1, h2⟩ := h
  refine ⟨?_, by simpa using h2⟩
  split at h1
  · assumption
  · cases h1
theorem visB_ok {sc : Sc} {x : Str} (h : visB sc x = true) : sc.names.lookup x = some .local ∨ sc.names.lookup x = some .cell ∨ sc.names.lookup x = some .free := by
  unfold visB at h
  split at h
  · exact .inl (by assumption)
  · exact .inr (.inl (by assumption))
  · exact .inr (.inr (by assumption))
  · cases h
theorem locB_ok {sc : Sc} {x : Str} (h : locB sc x = true) : (sc.names.lookup x = some .local ∨ sc.names.lookup x = some .cell) ∧ (sc.fn x = true ∨ sc.names.lookup x = some .local) := by
  unfold locB at h
  split at h
  · exact ⟨.inl (by assumption), .inr (by assumption)⟩
  · exact ⟨.inr (by assumption), .inl h⟩
  · cases h
theorem blB_ok {ck : Ck} {x : Str} (h : blB ck x = true) : x ∈ ck.bl := by
  unfold blB at h
  rw [List.any_eq_true] at h
  obtain ⟨y, h1, h2⟩ := h
  rw [of_decide_eq_true h2]
  exact h1
theorem opB_ok {o : Op2} {p : Operator} (h : opB o p = true) : p = opr o := by
  cases o <;> cases p <;> first | rfl | cases h
theorem cpB_ok {o : Cp} {p : CmpOp} (h : cpB o p = true) : p = cpr o := by
  cases o <;> cases p <;> first | rfl | cases h
section
variable {p : Pg} {ck : Ck} {k : Nat} {Φ : Calls} {b : Nat}
theorem Cok.loc {sc : Sc} {X : Cx} {W : WX} (c : Cok p sc k X W) {x : Str} (h : locB sc x = true) : L2.Loc X.env.scope x ∧ (X.fn x = true ∨ X.env.scope.names.lookup x = some .local) := by
  obtain ⟨h1, h2⟩ := locB_ok h
  unfold L2.Loc
  rw [c.nm]
  exact ⟨h1, h2.imp (c.fn x) fun z => z⟩
mutual
theorem chkT_ok {sc : Sc} {X : Cx} {W : WX} (c : Cok p sc k X W) : ∀ (t : Tg) (e : Expr), chkT sc t e = true → PG X e (tG p.g b t)
  | .var i, e, h => by
    unfold chkT at h
    split at h
    · rw [Bool.and_eq_true] at h
      obtain ⟨h1, h2⟩ := c.loc h.2
      exact sg_var c.nd (by rw [c.N]; exact eqS_ok h.1) h1 h2
    · cases h
  | .tup ts, e, h => by
    unfold chkT at h
    split at h
    · rw [Bool.and_eq_true] at h
      obtain ⟨h1, h2⟩ := chkTs_ok c ts _ h.2
      exact sg_tup c.K.symm c.calm h.1 h2 (h1 h.1)
    · cases h
  | .star _ _ _, e, h => by unfold chkT at h; cases h
theorem chkTs_ok {sc : Sc} {X : Cx} {W : WX} (c : Cok p sc k X W) : ∀ (ts : List Tg) (es : List Expr), chkTs sc ts es = true → (es.all tgt = true → PGs X es (tGs p.g b ts)) ∧ es.length = ts.length
  | [], es, h => by
    unfold chkTs at h
    rw [List.isEmpty_iff] at h
    subst h
    exact ⟨fun _ => sgs_nil, rfl⟩
  | t :: ts, es, h => by
    unfold chkTs at h
    cases es with
    | nil => cases h
    | cons e es =>
      simp only [Bool.and_eq_true] at h
      obtain ⟨h1, h2⟩ := chkTs_ok c ts es h.2
      refine ⟨fun ha => ?_, by simp [h2]⟩
      simp only [List.all_cons, Bool.and_eq_true] at ha
      exact sgs_cons ha.1 (chkT_ok c t e h.1) (h1 ha.2)
end
theorem tyB_ok (o : p.Ok) (L : Link ck p) {sc : Sc} {X : Cx} {W : WX} (c : Cok p sc k X W) {t : Ty} {e : Expr} (h : tyB ck sc t e = true) : PE X e (tC (tyV p.g t).1) := by
  unfold tyB at h
  split at h
  · rw [Bool.and_eq_true] at h
    obtain ⟨g1, g2⟩ := glB_ok h.1
    have h2 := h.2
    cases t with
    | cls n => exact ty_own o c (L.cl n _ (eqS_ok h2)) g1 g2
    | exc n => exact ty_own o c (L.cl n _ (eqS_ok h2)) g1 g2
    | int => simp only [Bool.and_eq_true, decide_eq_true_eq] at h2; obtain ⟨rfl, h3⟩ := h2; exact ty_bi o c (L.bl _ (blB_ok h3)) g1 (by decide +kernel) (by decide) g2
    | bool => simp only [Bool.and_eq_true, decide_eq_true_eq] at h2; obtain ⟨rfl, h3⟩ := h2; exact ty_bi o c (L.bl _ (blB_ok h3)) g1 (by decide +kernel) (by decide) g2
    | str => simp only [Bool.and_eq_true, decide_eq_true_eq] at h2; obtain ⟨rfl, h3⟩ := h2; exact ty_bi o c (L.bl _ (blB_ok h3)) g1 (by decide +kernel) (by decide) g2
    | tuple => simp only [Bool.and_eq_true, decide_eq_true_eq] at h2; obtain ⟨rfl, h3⟩ := h2; exact ty_bi o c (L.bl _ (blB_ok h3)) g1 (by decide +kernel) (by decide) g2
    | list => simp only [Bool.and_eq_true, decide_eq_true_eq] at h2; obtain ⟨rfl, h3⟩ := h2; exact ty_bi o c (L.bl _ (blB_ok h3)) g1 (by decide +kernel) (by decide) g2
    | dict => simp only [Bool.and_eq_true, decide_eq_true_eq] at h2; obtain ⟨rfl, h3⟩ := h2; exact ty_bi o c (L.bl _ (blB_ok h3)) g1 (by decide +kernel) (by decide) g2
    | ve => simp only [Bool.and_eq_true, decide_eq_true_eq] at h2; obtain ⟨rfl, h3⟩ := h2; exact ty_bi o c (L.bl _ (blB_ok h3)) g1 (by decide +kernel) (by decide) g2
  · cases h
theorem conB_ok {X : Cx} {W : WX} {v : PV} {cn : Const} {j : Nat} {pos : Pos} (hK : p.g.K = X.K) (h : conB v cn = true) : SE p.g X W b (.Constant cn j pos) (evE p.τ Φ b (.con v)) := by
  unfold conB at h
  split at h
  · rw [of_decide_eq_true h]
    exact se_con hK rfl pe_int fun w => by simp only [Den]
  · rw [of_decide_eq_true h]
    exact se_con hK rfl pe_str fun w => by simp only [Den]
  · rw [eq_of_beq h]
    exact se_con hK rfl pe_bl fun w => by simp only [Den]
  · exact se_con hK rfl pe_non fun w => by simp only [Den]
  · cases h
/-- the block's own context -/
theorem relN_eq {env : Env} {scope : Scope} (h : env.scope.kind = .function) : (relabel scope env).names = relN scope.names env.scope.names := by
  unfold relabel relN Env.kindOf
  rw [h]
  simp
theorem cok_blk {sc : Sc} {X : Cx} {W : WX} (c : Cok p sc k X W) {scope : Scope} (hk : scope.kind = .function) (s : Shared) (H : Hp) (C : Addr) (cl : List (Str × Addr)) (fp : List Addr) : Cok p (blkS sc scope) k (X.blk s H scope (compEnvC scope cl C X.env) fp) W0 where
  P := c.P
  w := c.w
  K := c.K
  mg := c.mg
  base := c.base
  N := c.N
  nd := c.nd
  nm := by
    show (relabel scope X.env).names = relN scope.names sc.names
    rw [relN_eq c.fk, c.nm]
  fk := hk
  calm := c.calm
  room := c.room
  tk := takes0
  fn := fun x h => h
theorem subB_ok {is own : List Nat} (h : subB is own = true) : ∀ i ∈ is, i ∈ own := fun i hi => by
  unfold subB at h
  rw [List.all_eq_true] at h
  have := h i hi
  rw [List.any_eq_true] at this
  obtain ⟨j, h1, h2⟩ := this
  rw [Nat.eq_of_beq_eq_true h2]
  exact h1
theorem blkB_ok {sc : Sc} {X : Cx} {W : WX} (c : Cok p sc k X W) {scope : Scope} {own : List Nat} (h : blkB sc scope own = true) : BlkOk X.N X.env.scope scope (ownL sc.N own) ∧ (ownL sc.N own).map (·.2) = own := by
  unfold blkB at h
  rw [Bool.and_eq_true, decide_eq_true_eq] at h
  obtain ⟨h1, h2⟩ := h
  refine ⟨?_, h2⟩
  have := blkOk_by h1
  rw [c.N]
  exact ⟨this.kind, this.uniq, this.ix, fun y hy e => by rw [c.nm]; exact this.free y hy e, this.own⟩
theorem noSet_ok {e : Expr} (h : noSet e = true) (env : Env) (x : Value) : foldedSetIterable e env x = pure x := by
  cases e <;> first | rfl | simp [noSet] at h
theorem isNon_ok {c : C} (h : isNon c = true) : c = .con .non := by
  unfold isNon at h
  split at h
  · rfl
  · cases h
end
end Ev


set_option Elab.async false
set_option linter.all false
set_option maxRecDepth 100000
set_option maxHeartbeats 8000000
/-! Walks over a dict's keys; d.get; a list of a block. -/
namespace Ev
open PySem L2
section
variable {g : Gx} {X : Cx} {W : WX} {b : Nat} {τ : Tab} {Φ : Calls} {tg : Expr}
/-- a dict may be locked, for good -/
theorem pe_frz {e : Expr} {te : TE} (he : PE X e te) : PE X e (fun σ H Q => te σ H fun x H1 => (∃ d kvs, x = .ref d ∧ H1 d = some (.dK kvs) ∧ ∀ o, Q x (upd H1 d (.frz o (.dK kvs)))) ∨ Q x H1) := by
  refine ⟨fun pins s σ H Q I h => thn (he.run pins s σ H _ I h) fun u s1 ⟨x, H1, I1, r, q⟩ => ?_⟩
  rcases q with ⟨d, kvs, rfl, hd, q⟩ | q
  · obtain ⟨od, I2⟩ := I1.lock hd trivial
    exact ⟨_, _, I2, r, q od⟩
  · exact ⟨x, H1, I1, r, q⟩
/-- the dict at d is locked -/
def Wd.lock (w : Wd) (d : Addr) (o : Obj) (kvs : List (Key × V)) : Wd := { w with H := upd w.H d (.frz o (.dK kvs)) }
theorem lock_le {w : Wd} {d : Addr} {o : Obj} {kvs : List (Key × V)} {c : Nat} (R : Rel g b w) (h : w.H d = some (.dK kvs)) (nb : ¬ w.B d) : Le c w (w.lock d o kvs) := by
  refine ⟨⟨List.prefix_refl _, fun a u e n => ⟨?_, n⟩⟩, rfl, fun a z => ?_, fun i o' _ q => ⟨o', q, fun _ r => r⟩⟩
  · show Kp (upd w.H d (.frz o (.dK kvs)) a) u
    by_cases hd : a = d
    · subst hd
      rw [h] at e
      cases e
      exact .inr ⟨o, rfl, upd_same⟩
    · rw [upd_ne hd]
      exact .inl e
  · show upd w.H d (.frz o (.dK kvs)) a = w.H a
    exact upd_ne fun e => by subst e; exact nb (.inl z)
theorem lock_rel {w : Wd} {d : Addr} {o : Obj} {kvs : List (Key × V)} (R : Rel g b w) (h : w.H d = some (.dK kvs)) (nb : ¬ w.B d) : Rel g b (w.lock d o kvs) := by
  have L : Le b w (w.lock d o kvs) := lock_le R h nb
  refine ⟨R.len, R.blen, R.nd, R.nz, fun a ha => ?_, fun a z => ?_, fun i mo a h1 h2 => ?_⟩
  · show upd w.H d (.frz o (.dK kvs)) a ≠ none
    unfold upd
    split
    · simp
    · exact R.tr a ha
  · show Kind (upd w.H d (.frz o (.dK kvs)) a)
    rw [upd_ne fun e => by subst e; exact nb (.inl z)]
    exact R.zk a z
  · show DenO g _ mo (upd w.H d (.frz o (.dK kvs)) a)
    rw [upd_ne fun e => by subst e; exact nb (.inr ⟨i, mo, h1, h2⟩)]
    exact (R.obj i mo a h1 h2).mono R L
theorem keys_get : ∀ {ks : List PV} {K : List Key} {i : Nat} {v : PV}, Keys ks K → ks[i]? = some v → ∃ k, K[i]? = some k ∧ keyV v = some k
  | [], _, _, _, _, h => by simp at h
  | k :: ks, _, 0, v, h, e => by
    simp only [Keys] at h
    obtain ⟨x, r, rfl, h1, _⟩ := h
    simp at e
    subst e
    exact ⟨x, rfl, h1⟩
  | k :: ks, _, i + 1, v, h, e => by
    simp only [Keys] at h
    obtain ⟨x, r, rfl, _, h2⟩ := h
    obtain ⟨y, h3, h4⟩ := keys_get (i := i) h2 (by simpa using e)
    exact ⟨y, by simpa using h3, h4⟩
theorem key_den {w : Wd} {v : PV} {k : Key} (h : keyV v = some k) : Den g w v (kV k) := by
  cases v <;> simp only [keyV, Option.some.injEq, reduceCtorEq] at h <;> subst h <;> simp only [Den, kV]
theorem wk_keys {w : Wd} {d : Addr} {o : Obj} {kvs : List (Key × V)} {ks : List PV} (R : Rel g b w) (h : w.H d = some (.frz o (.dK kvs))) (hk : Keys ks (kvs.map (·.1))) : WkOk g b w (Itk d o kvs) ks := by
  intro i w1 L R1
  have h1 := (L.keep d _ h (R.nb h (fun z => z))).1
  have hl := keys_len hk
  rw [List.length_map] at hl
  refine ⟨fun v e => ?_, fun hi => ⟨h1, by omega⟩⟩
  obtain ⟨k, e1, e2⟩ := keys_get hk e
  rw [List.getElem?_map, Option.map_eq_some_iff] at e1
  obtain ⟨⟨k', v'⟩, e3, rfl⟩ := e1
  refine ⟨⟨h1, (List.getElem?_eq_some_iff.mp e3).1⟩, fun y H' ⟨e4, k2, v2, e5, e6⟩ => ?_⟩
  rw [e3] at e5
  cases e5
  subst e6
  exact ⟨w1, e4.symm, rfl, .refl _ _, R1, key_den e2⟩
theorem si_keys {e : Expr} {c : C} (h : SE g X W b e (evE τ Φ b c)) : PI X tg e (tI g b W fun σ μ => wkd .keys (evEs τ Φ b [c] σ μ)) := by
  refine pi_imp (pi_keys (pe_frz h.pe)) fun σ H R q => ?_
  obtain ⟨w, σp, rfl, Rl, L, k⟩ := q
  have k' : okI g b W w σ ((evE τ Φ b c σp w.μ).bind fun p => Res.of ((walked .keys [p.1] p.2).map fun xs => (xs, p.2))) R := by
    have k : okI g b W w σ ((evEs τ Φ b [c] σp w.μ).bind _) R := k
    rw [evEs, Res.bind_assoc] at k
    refine cast ?_ k
    congr 1
  refine ⟨w, σp, rfl, Rl, L, (okI.step k').imp fun x H1 ⟨w1, v, e1, L1, R1, d1, ex, k1⟩ => ?_⟩
  subst e1
  cases e : walked .keys [v] w1.μ with
  | none => rw [e] at k1; exact k1.elim
  | some ys =>
    have e0 := e
    unfold walked at e
    split at e <;> rename_i h1 h0 <;> first | (cases h1; done) | skip
    · cases e
      cases h0
      simp only [Den] at d1
      obtain ⟨a, kvs, rfl, nb, s, hk, d⟩ := d1
      rcases s with s | ⟨o, s⟩
      · refine .inl ⟨a, kvs, rfl, s, fun o => ⟨a, o, rfl, .inl ⟨kvs, upd_same, ?_⟩⟩⟩
        have Ll : Le b w1 (w1.lock a o kvs) := lock_le R1 s nb
        have Rl2 : Rel g b (w1.lock a o kvs) := lock_rel R1 s nb
        rw [e0] at k1
        exact k1 (w1.lock a o kvs) _ rfl Ll Rl2 (wk_keys Rl2 upd_same hk)
      · exact .inr ⟨a, o, rfl, .inl ⟨kvs, s, okI.here k1 e0 R1 (wk_keys R1 s hk)⟩⟩
    · cases e
/-- d.get(k, x) -/
theorem m2_ok {o e f : Expr} {m : Str} {apos cpos : Pos} (hb : bas o = true) (hl : (apos.endLine == cpos.line) = true) (h1 : nst e = true) (h2 : nst f = true) : M2 X o m apos e f cpos where
  base := bas_ok hb _ _ _
  few := by rw [star_ok h1, star_ok h2]; rfl
  line := hl
  trees := by rw [star_ok h1, star_ok h2]; rfl
theorem se_get2 (hK : g.K = X.K) (hu : X.A.units + 64 < cLine) {m : Bool} {o e f : Expr} {co ce cf : C} {apos cpos : Pos} (hb : bas o = true) (hl : (apos.endLine == cpos.line) = true) (h1 : nst e = true) (h2 : nst f = true)
    (ho : SE g X W b o (evE τ Φ b co)) (he : SE g X W b e (evE τ Φ b ce)) (hf : SE g X W b f (evE τ Φ b cf)) : SE g X W b (.Call (.Attribute o "get" apos) [e, f] [] cpos) (evE τ Φ b (.bm .get2 m co [ce, cf])) := by
  refine .of hK rfl (PE.imp (pe_dget2 (by omega) ho.pe he.pe hf.pe (m2_ok hb hl h1 h2)) fun σ H Q h => ?_)
  obtain ⟨w, σp, rfl, R, L, k⟩ := h
  rw [evE] at k
  refine ⟨w, σp, rfl, R, L, (okE.step k).imp fun x H1 ⟨w1, v, e1, L1, R1, d1, _, k1⟩ => ?_⟩
  subst e1
  dsimp only at k1
  cases hr : recv .get2 v w1.μ with
  | false => rw [hr] at k1; exact k1.elim
  | true =>
    rw [hr] at k1
    dsimp only at k1
    simp only [recv, Option.isSome_iff_exists] at hr
    obtain ⟨kv, hr⟩ := hr
    obtain ⟨a, kvs, rfl, s, _, _⟩ := dictOf_ok R1 d1 hr
    refine ⟨a, rfl, .inl ⟨kvs, s⟩, ?_⟩
    rw [evEs, Res.bind_assoc] at k1
    refine ⟨w1, σp, rfl, R1, L.mono R L1, (okE.step k1).imp fun y H2 ⟨w2, u, e2, L2, R2, d2, _, k2⟩ => ?_⟩
    subst e2
    have k2 : okE g b W w2 σ (((evEs τ Φ b [cf] σp w2.μ).bind fun q => .ok (u :: q.1, q.2)).bind fun r => Res.of (bmeth .get2 m b v r.1 r.2)) Q := k2
    rw [evEs, Res.bind_assoc, Res.bind_assoc] at k2
    refine ⟨w2, σp, rfl, R2, (L.mono R L1).mono R1 L2, (okE.step k2).imp fun z H3 ⟨w3, t, e3, L3, R3, d3, _, k3⟩ => ?_⟩
    subst e3
    rw [evEs] at k3
    have k3 : okE g b W w3 σ (Res.of (bmeth .get2 m b v [u, t] w3.μ)) Q := k3
    have e0 : bmeth .get2 m b v [u, t] w3.μ = (dictOf w3.μ v).bind fun kv => if PV.isKey u then some ((lookP kv.1 kv.2 u).getD t, w3.μ) else none := by cases v <;> rfl
    rw [e0] at k3
    cases e4 : dictOf w3.μ v with
    | none => rw [e4] at k3; exact k3.elim
    | some kv =>
      rw [e4] at k3
      simp only [Option.bind_some] at k3
      split at k3
      · rename_i hk
        obtain ⟨a', kvs', e5, s', hks, hvs⟩ := dictOf_ok R3 ((d1.mono R1 L2).mono R2 L3) e4
        cases e5
        obtain ⟨c, hc⟩ := isKey_of hk
        have := den_key hc (d2.mono R2 L3)
        subst this
        have lk := look_ok hks hvs hc
        refine ⟨valV kvs' c, .inl ⟨kvs', c, s', rfl, rfl⟩, ?_⟩
        cases e6 : lookP kv.1 kv.2 u with
        | none =>
          rw [e6] at lk k3
          rw [lk]
          exact k3 w3 z rfl (.refl _ _) R3 d3
        | some y =>
          rw [e6] at lk k3
          obtain ⟨yv, e7, d7⟩ := lk
          rw [e7]
          exact k3 w3 yv rfl (.refl _ _) R3 d7
      · exact k3.elim
end
end Ev


set_option Elab.async false
set_option linter.all false
set_option maxRecDepth 100000
set_option maxHeartbeats 8000000
/-! The check of expressions is sound. -/
namespace Ev
open PySem L2
section
variable {p : Pg} {ck : Ck} {k : Nat} {Φ : Calls} {b : Nat}
theorem chk_nst : ∀ {cs : List C} {es : List Expr} {sc : Sc}, chkEs ck sc cs es = true → es.all nst = true
  | [], es, sc, h => by
    unfold chkEs at h
    rw [List.isEmpty_iff] at h
    subst h
    rfl
  | c :: cs, [], sc, h => by unfold chkEs at h; cases h
  | c :: cs, e :: es, sc, h => by
    unfold chkEs at h
    simp only [Bool.and_eq_true] at h
    simp only [List.all_cons, Bool.and_eq_true]
    exact ⟨h.1, chk_nst h.2.2⟩
/-- a list of a block -/
theorem se_lc (o : p.Ok) {sc : Sc} {X : Cx} {W : WX} (c : Cok p sc k X W) {m : Bool} {t : Tg} {kd : Ik} {it ifs : List C} {elt : C} {own : List Nat} {el tg iter : Expr} {ifs' : List Expr} {scope : Scope} {pos : Pos}
    (hb : blkB sc scope own = true) (hs : subB t.slots own = true) (hn : noSet iter = true) (hi : PI X tg iter (tI p.g b W fun σ μ => wkd kd (evEs p.τ Φ b it σ μ)))
    (hg : ∀ (s : Shared) (H : Hp) (C : Addr) (cl : List (Str × Addr)) (fp : List Addr), PG (X.blk s H scope (compEnvC scope cl C X.env) fp) tg (tG p.g b t))
    (ht : ∀ (s : Shared) (H : Hp) (C : Addr) (cl : List (Str × Addr)) (fp : List Addr), PTs (X.blk s H scope (compEnvC scope cl C X.env) fp) ifs' (tT p.g b W0 (evIfs p.τ Φ b ifs)))
    (he : ∀ (s : Shared) (H : Hp) (C : Addr) (cl : List (Str × Addr)) (fp : List Addr), PE (X.blk s H scope (compEnvC scope cl C X.env) fp) el (tE p.g b W0 (evE p.τ Φ b elt))) :
    SE p.g X W b (.ListComp el [⟨tg, iter, ifs', 0⟩] scope pos) (evE p.τ Φ b (.lc m t kd it ifs elt own)) := by
  obtain ⟨h1, h2⟩ := blkB_ok c hb
  refine .of c.K.symm rfl (PE.imp (pe_lc c.calm c.nd hi h1 hg ht he fun x => noSet_ok hn _ x) fun σ H Q h => ?_)
  rw [h2]
  exact lc_reads (subB_ok hs) h
/-- one by one -/
def AllE (p : Pg) (Φ : Calls) (b : Nat) (X : Cx) (W : WX) : List C → List Expr → Prop
  | [], [] => True
  | c :: cs, e :: es => SE p.g X W b e (evE p.τ Φ b c) ∧ AllE p Φ b X W cs es
  | _, _ => False
theorem allE_sl {X : Cx} {W : WX} : ∀ {cs : List C} {es : List Expr}, AllE p Φ b X W cs es → es.all nst = true → SL p.g X W b es (evEs p.τ Φ b cs)
  | [], [], _, _ => sl_nil
  | [], _ :: _, h, _ => h.elim
  | _ :: _, [], h, _ => h.elim
  | c :: cs, e :: es, h, n => by
    simp only [List.all_cons, Bool.and_eq_true] at n
    exact sl_cons n.1 h.1 (allE_sl h.2 n.2)
theorem allE_one {X : Cx} {W : WX} {cs : List C} {e : Expr} (h : AllE p Φ b X W cs [e]) : ∃ c, cs = [c] ∧ SE p.g X W b e (evE p.τ Φ b c) := by
  match cs, h with
  | [c], h => exact ⟨c, rfl, h.1⟩
  | _ :: _ :: _, h => exact h.2.elim
theorem allE_two {X : Cx} {W : WX} {cs : List C} {e f : Expr} (h : AllE p Φ b X W cs [e, f]) : ∃ c d, cs = [c, d] ∧ SE p.g X W b e (evE p.τ Φ b c) ∧ SE p.g X W b f (evE p.τ Φ b d) := by
  match cs, h with
  | [c], h => exact h.2.elim
  | [c, d], h => exact ⟨c, d, rfl, h.1, h.2.1⟩
  | _ :: _ :: _ :: _, h => exact h.2.2.elim
theorem and_one {c : C} {τ : Tab} : evE τ Φ b (.and [c]) = evE τ Φ b c := by
  funext σ μ
  rw [evE, evAnd]
  cases evE τ Φ b c σ μ <;> rfl
theorem or_one {c : C} {τ : Tab} : evE τ Φ b (.or [c]) = evE τ Φ b c := by
  funext σ μ
  rw [evE, evOr]
  cases evE τ Φ b c σ μ <;> rfl
theorem blk_kind {sc : Sc} {scope : Scope} {own : List Nat} {X : Cx} {W : WX} (c : Cok p sc k X W) (hb : blkB sc scope own = true) : scope.kind = .function := (blkB_ok c hb).1.kind
mutual
theorem chkE_ok (o : p.Ok) (L : Link ck p) (Cs : CallsOk p k Φ) : ∀ (c : C) (sc : Sc) (X : Cx) (W : WX) (e : Expr), Cok p sc k X W → chkE ck sc c e = true → SE p.g X W b e (evE p.τ Φ b c)
  | .var i, sc, X, W, e, x, h => by
    unfold chkE at h
    split at h
    · simp only [Bool.and_eq_true] at h
      obtain ⟨⟨h1, h2⟩, h3, h4⟩ := h
      exact se_var x.K.symm (by rw [x.N]; exact eqS_ok h1) (x.vis (visB_ok h2)) (by simpa using h3) (by simpa using h4)
    · cases h
  | .con v, sc, X, W, e, x, h => by
    unfold chkE at h
    split at h
    · exact conB_ok x.K.symm h
    · cases h
  | .kn j, sc, X, W, e, x, h => by
    unfold chkE at h
    split at h
    · rw [Bool.and_eq_true] at h
      obtain ⟨y, hy⟩ := L.kn j _ (eqS_ok h.1)
      obtain ⟨g1, g2⟩ := glB_ok h.2
      exact se_kn o x hy g1 g2
    · cases h
  | .bin op m a d, sc, X, W, e, x, h => by
    unfold chkE at h
    split at h
    · simp only [Bool.and_eq_true] at h
      obtain ⟨h1, h2, h3⟩ := h
      rw [opB_ok h1]
      exact se_bin x.K.symm (chkE_ok o L Cs a sc X W _ x h2) (chkE_ok o L Cs d sc X W _ x h3)
    · cases h
  | .neg a, sc, X, W, e, x, h => by
    unfold chkE at h
    split at h
    · exact se_neg x.K.symm (chkE_ok o L Cs a sc X W _ x h)
    · cases h
  | .cmp op a d, sc, X, W, e, x, h => by
    unfold chkE at h
    split at h
    · simp only [Bool.and_eq_true] at h
      obtain ⟨h1, h2, h3, h4⟩ := h
      rw [cpB_ok h1] at h2 ⊢
      exact se_cmp (x.T o) x.K.symm x.hu (by simpa using h2) (chkE_ok o L Cs a sc X W _ x h3) (chkE_ok o L Cs d sc X W _ x h4)
    · cases h
  | .chn o1 o2 a d f, sc, X, W, e, x, h => by
    unfold chkE at h
    split at h
    · simp only [Bool.and_eq_true] at h
      obtain ⟨h1, h2, h3, h4, h5, h6⟩ := h
      rw [cpB_ok h1, cpB_ok h2] at h3 ⊢
      exact se_chn (x.T o) x.K.symm x.hu (by simpa using h3) (chkE_ok o L Cs a sc X W _ x h4) (chkE_ok o L Cs d sc X W _ x h5) (chkE_ok o L Cs f sc X W _ x h6)
    · cases h
  | .and cs, sc, X, W, e, x, h => by
    unfold chkE at h
    split at h
    · exact (chkB_ok o L Cs true cs sc X W _ _ x h).1
    · cases h
  | .or cs, sc, X, W, e, x, h => by
    unfold chkE at h
    split at h
    · exact (chkB_ok o L Cs false cs sc X W _ _ x h).1
    · cases h
  | .not a, sc, X, W, e, x, h => by
    unfold chkE at h
    split at h
    · exact se_not x.K.symm (chkE_ok o L Cs a sc X W _ x h)
    · cases h
  | .ite a d f, sc, X, W, e, x, h => by
    unfold chkE at h
    split at h
    · simp only [Bool.and_eq_true] at h
      obtain ⟨h1, h2, h3⟩ := h
      exact se_ite2 x.K.symm (chkE_ok o L Cs a sc X W _ x h1) (chkE_ok o L Cs d sc X W _ x h2) (chkE_ok o L Cs f sc X W _ x h3)
    · cases h
  | .tup cs, sc, X, W, e, x, h => by
    unfold chkE at h
    split at h
    · exact se_tup x.K.symm (allE_sl (chkEs_ok o L Cs cs sc X W _ x h) (chk_nst h))
    · cases h
  | .lst m cs, sc, X, W, e, x, h => by
    unfold chkE at h
    split at h
    · exact se_lst x.K.symm (allE_sl (chkEs_ok o L Cs cs sc X W _ x h) (chk_nst h))
    · cases h
  | .dnew m, sc, X, W, e, x, h => by
    unfold chkE at h
    split at h
    · exact se_dnew x.K.symm
    · cases h
  | .attr a f, sc, X, W, e, x, h => by
    unfold chkE at h
    split at h
    · simp only [Bool.and_eq_true, decide_eq_true_eq] at h
      obtain ⟨h1, h2, h3⟩ := h
      exact se_attr (x.T o) x.K.symm h1 h2 (chkE_ok o L Cs a sc X W _ x h3)
    · cases h
  | .idx a d, sc, X, W, e, x, h => by
    unfold chkE at h
    split at h
    · simp only [Bool.and_eq_true] at h
      obtain ⟨h1, h2, h3⟩ := h
      exact se_idx (x.T o) x.K.symm x.hu h1 (chkE_ok o L Cs a sc X W _ x h2) (chkE_ok o L Cs d sc X W _ x h3)
    · cases h
  | .slc m a lo hl hi hh, sc, X, W, e, x, h => by
    unfold chkE at h
    split at h
    · simp only [Bool.and_eq_true] at h
      obtain ⟨h1, h2, h3⟩ := h
      refine se_slc x.K.symm (chkE_ok o L Cs a sc X W _ x h1) ?_ ?_
      · split at h2
        · simp only [Bool.and_eq_true, Bool.not_eq_true'] at h2
          obtain ⟨e1, e2⟩ := h2
          rw [isNon_ok e2]
          subst e1
          exact po_no _ rfl
        · simp only [Bool.and_eq_true] at h2
          obtain ⟨e1, e2⟩ := h2
          subst e1
          exact po_yes (chkE_ok o L Cs lo sc X W _ x e2)
      · split at h3
        · simp only [Bool.and_eq_true, Bool.not_eq_true'] at h3
          obtain ⟨e1, e2⟩ := h3
          rw [isNon_ok e2]
          subst e1
          exact po_no _ rfl
        · simp only [Bool.and_eq_true] at h3
          obtain ⟨e1, e2⟩ := h3
          subst e1
          exact po_yes (chkE_ok o L Cs hi sc X W _ x e2)
    · cases h
  | .call f md cs, sc, X, W, e, x, h => by
    unfold chkE at h
    split at h
    · rename_i es _
      simp only [Bool.and_eq_true] at h
      obtain ⟨h1, h2, h3⟩ := h
      obtain ⟨i, hi, hx⟩ := L.fn f _ (eqS_ok h1)
      obtain ⟨g1, g2⟩ := glB_ok h2
      have hn := chk_nst h3
      have hs := allE_sl (chkEs_ok o L Cs cs sc X W _ x h3) hn
      cases es with
      | nil =>
        cases cs with
        | nil => exact se_call0 o x Cs hi hx g1 g2
        | cons c cs => unfold chkEs at h3; cases h3
      | cons e es =>
        simp only [List.all_cons, Bool.and_eq_true] at hn
        exact se_call o x Cs hi hx g1 g2 hn.1 hn.2 hs
    · cases h
  | .meth _ _ _ _, sc, X, W, e, x, h => by unfold chkE at h; cases h
  | .make _ _ _, sc, X, W, e, x, h => by unfold chkE at h; cases h
  | .prim q m cs, sc, X, W, e, x, h => by
    unfold chkE at h
    split at h
    · rename_i nm _ es _
      simp only [Bool.and_eq_true] at h
      obtain ⟨h1, ⟨h2, h3⟩, h4⟩ := h
      obtain ⟨g1, g2⟩ := glB_ok h1
      have hm : X.mg nm = none := by rw [x.mg]; exact o.bl _ (L.bl _ (blB_ok h2))
      by_cases hq : ∃ t, q = .isi t
      · obtain ⟨t, rfl⟩ := hq
        split at h3
        · rename_i t' e1 e2 eq
          cases eq
          simp only [Bool.and_eq_true, decide_eq_true_eq] at h3
          obtain ⟨rfl, h5, h6⟩ := h3
          have h4 : chkEs ck sc cs [e1] = true := h4
          have hn := chk_nst h4
          obtain ⟨c, rfl, hc⟩ := allE_one (chkEs_ok o L Cs cs sc X W _ x h4)
          simp only [List.all_cons, Bool.and_eq_true] at hn
          exact se_isi (x.T o) x.K.symm rfl (x.gl g1) hm hn.1 h5 hc (tyB_ok o L x h6)
        · cases h3
        · rename_i hh1 hh2
          exact (hh1 _ rfl).elim
      · have hp : ∀ t, q ≠ .isi t := fun t e => hq ⟨t, e⟩
        have h3' : nm = prN q ∧ es.isEmpty = false := by
          split at h3
          · exact absurd rfl (hp _)
          · exact absurd rfl (hp _)
          · simpa using h3
        have h4' : chkEs ck sc cs es = true := by
          split at h4
          · exact absurd rfl (hp _)
          · exact h4
        have hn := chk_nst h4'
        have hs := allE_sl (chkEs_ok o L Cs cs sc X W _ x h4') hn
        cases es with
        | nil => exact absurd h3'.2 (by simp)
        | cons e es =>
          simp only [List.all_cons, Bool.and_eq_true] at hn
          exact se_prim (x.sys o) x.K.symm x.room.gd x.hu x.calm h3'.1 hp (x.gl g1) hm hn.1 hn.2 hs
    · cases h
  | .bm q m a cs, sc, X, W, e, x, h => by
    unfold chkE at h
    split at h
    · simp only [Bool.and_eq_true] at h
      obtain ⟨h1, h2, h3, h4, h5⟩ := h
      split at h3
      · simp only [Bool.and_eq_true, decide_eq_true_eq] at h3
        obtain ⟨rfl, h6⟩ := h3
        have h7 := Nat.eq_of_beq_eq_true h6
        rename_i es _ _
        have hn := chk_nst h5
        have ha := chkEs_ok o L Cs cs sc X W _ x h5
        match es, h7, hn, ha with
        | [e1, e2], _, hn, ha =>
          obtain ⟨c1, c2, rfl, q1, q2⟩ := allE_two ha
          simp only [List.all_cons, Bool.and_eq_true] at hn
          exact se_get2 x.K.symm x.hu h1 h2 hn.1 hn.2.1 (chkE_ok o L Cs a sc X W _ x h4) q1 q2
      · cases h3
    · cases h
  | .lc m t kd it ifs elt own, sc, X, W, e, x, h => by
    unfold chkE at h
    split at h
    · simp only [Bool.and_eq_true] at h
      obtain ⟨h1, h2, h3, h4, h5, h6, h7, h8⟩ := h
      have bk : ∀ (s : Shared) (H : Hp) (C : Addr) (cl : List (Str × Addr)) (fp : List Addr), Cok p (blkS sc _) k (X.blk s H _ (compEnvC _ cl C X.env) fp) W0 := fun s H C cl fp => cok_blk x (blk_kind x h1) s H C cl fp
      refine se_lc o x h1 h2 h3 ?_ (fun s H C cl fp => chkT_ok (bk s H C cl fp) t _ h4) (fun s H C cl fp => ?_) fun s H C cl fp => (chkE_ok o L Cs elt _ _ _ _ (bk s H C cl fp) h7).pe
      · split at h8
        · obtain ⟨ci, rfl, hc⟩ := allE_one (chkEs_ok o L Cs it sc X W _ x h8)
          exact si_seq x.K.symm hc
        · split at h8
          · simp only [Bool.and_eq_true, decide_eq_true_eq] at h8
            obtain ⟨rfl, g1, g2, g3⟩ := h8
            obtain ⟨g1, _⟩ := glB_ok g1
            have hm := (congrFun x.mg _).trans (o.bl _ (L.bl _ (blB_ok g2)))
            have hn := chk_nst g3
            have ha := chkEs_ok o L Cs it sc X W _ x g3
            obtain ⟨ci, rfl, hc⟩ := allE_one ha
            have hs := allE_sl ha hn
            simp only [List.all_cons, Bool.and_eq_true] at hn
            exact si_rng1 (x.gl g1) hm hn.1 hs
          · cases h8
        · split at h8
          · simp only [Bool.and_eq_true, decide_eq_true_eq] at h8
            obtain ⟨rfl, g1, g2, g3⟩ := h8
            obtain ⟨g1, _⟩ := glB_ok g1
            have hm := (congrFun x.mg _).trans (o.bl _ (L.bl _ (blB_ok g2)))
            have hn := chk_nst g3
            have ha := chkEs_ok o L Cs it sc X W _ x g3
            obtain ⟨ci, cj, rfl, hc, hd⟩ := allE_two ha
            have hs := allE_sl ha hn
            simp only [List.all_cons, Bool.and_eq_true] at hn
            exact si_rng2 (x.gl g1) hm hn.1 hn.2.1 hs
          · cases h8
        · split at h8
          · simp only [Bool.and_eq_true, decide_eq_true_eq] at h8
            obtain ⟨rfl, g1, g2, g3⟩ := h8
            obtain ⟨g1, _⟩ := glB_ok g1
            have hm := (congrFun x.mg _).trans (o.bl _ (L.bl _ (blB_ok g2)))
            have hn := chk_nst g3
            have ha := chkEs_ok o L Cs it sc X W _ x g3
            obtain ⟨ci, rfl, hc⟩ := allE_one ha
            have hs := allE_sl ha hn
            simp only [List.all_cons, Bool.and_eq_true] at hn
            exact si_enum (x.gl g1) hm hn.1 hs
          · cases h8
        · obtain ⟨ci, rfl, hc⟩ := allE_one (chkEs_ok o L Cs it sc X W _ x h8)
          exact si_keys hc
        · cases h8
      · have ha := chkEs_ok o L Cs ifs _ _ _ _ (bk s H C cl fp) h6
        split at h5
        · exact sps_nil
        · exact sps_one ha.1
        · cases h5
    · cases h
  | .lc2 .., sc, X, W, e, x, h => by unfold chkE at h; cases h
  | .dc .., sc, X, W, e, x, h => by unfold chkE at h; cases h
theorem chkEs_ok (o : p.Ok) (L : Link ck p) (Cs : CallsOk p k Φ) : ∀ (cs : List C) (sc : Sc) (X : Cx) (W : WX) (es : List Expr), Cok p sc k X W → chkEs ck sc cs es = true → AllE p Φ b X W cs es
  | [], sc, X, W, es, x, h => by
    unfold chkEs at h
    rw [List.isEmpty_iff] at h
    subst h
    exact True.intro
  | c :: cs, sc, X, W, [], x, h => by unfold chkEs at h; cases h
  | c :: cs, sc, X, W, e :: es, x, h => by
    unfold chkEs at h
    simp only [Bool.and_eq_true] at h
    obtain ⟨h1, h2, h3⟩ := h
    exact ⟨chkE_ok o L Cs c sc X W e x h2, chkEs_ok o L Cs cs sc X W es x h3⟩
theorem chkB_ok (o : p.Ok) (L : Link ck p) (Cs : CallsOk p k Φ) (isAnd : Bool) : ∀ (cs : List C) (sc : Sc) (X : Cx) (W : WX) (es : List Expr) (pos : Pos), Cok p sc k X W → chkB ck sc cs es = true →
    SE p.g X W b (.BoolOp (if isAnd then .And else .Or) es pos) (evE p.τ Φ b (if isAnd then .and cs else .or cs)) ∧ PW X (.BoolOp (if isAnd then .And else .Or) es pos) (tT p.g b W (evT (evE p.τ Φ b (if isAnd then .and cs else .or cs))))
  | [], sc, X, W, es, pos, x, h => by unfold chkB at h; cases h
  | c :: cs, sc, X, W, [], pos, x, h => by unfold chkB at h; cases h
  | c :: cs, sc, X, W, e :: es, pos, x, h => by
    unfold chkB at h
    rw [Bool.and_eq_true] at h
    obtain ⟨h1, h2⟩ := h
    have ih := chkE_ok o L Cs c sc X W e x h1
    have ihr := chkB_ok o L Cs isAnd cs sc X W es pos x
    cases es with
    | nil =>
      cases cs with
      | nil =>
        cases isAnd with
        | true => exact ⟨se_and1 x.K.symm ih, by
            rw [if_pos rfl, if_pos rfl, and_one]
            exact pw_and1 ih.pt⟩
        | false => exact ⟨se_or1 x.K.symm ih, by
            rw [if_neg Bool.false_ne_true, if_neg Bool.false_ne_true, or_one]
            exact pw_or1 ih.pt⟩
      | cons c2 cs =>
        simp only [List.isEmpty_cons, Bool.false_and, Bool.false_or] at h2
        unfold chkB at h2
        cases h2
    | cons e2 es =>
      cases cs with
      | nil =>
        simp only [List.isEmpty_cons, Bool.and_false, Bool.false_or] at h2
        unfold chkB at h2
        cases h2
      | cons c2 cs =>
        simp only [List.isEmpty_cons, Bool.false_and, Bool.false_or] at h2
        obtain ⟨hr, hw⟩ := ihr h2
        cases isAnd with
        | true => exact boolop x.K.symm true rfl (fun σ μ => by
            have e2 : ∀ σ μ, evE p.τ Φ b (.and (c2 :: cs)) σ μ = evAnd p.τ Φ b (c2 :: cs) σ μ := fun _ _ => by rw [evE]
            show evE p.τ Φ b (.and (c :: c2 :: cs)) σ μ = (evE p.τ Φ b c σ μ).bind fun q => (Res.of (truth q.2 q.1)).bind fun r => if r = true then evE p.τ Φ b (.and (c2 :: cs)) σ q.2 else .ok q
            simp only [e2]
            rw [evE, evAnd]
            congr 1
            funext q
            show ((Res.of (truth q.2 q.1)).bind fun r => match r with
              | true => evAnd p.τ Φ b (c2 :: cs) σ q.2
              | false => .ok q) = (Res.of (truth q.2 q.1)).bind fun r => if r = true then evAnd p.τ Φ b (c2 :: cs) σ q.2 else .ok q
            congr 1
            funext r
            cases r <;> rfl) ih hr hw
        | false => exact boolop x.K.symm false rfl (fun σ μ => by
            have e2 : ∀ σ μ, evE p.τ Φ b (.or (c2 :: cs)) σ μ = evOr p.τ Φ b (c2 :: cs) σ μ := fun _ _ => by rw [evE]
            show evE p.τ Φ b (.or (c :: c2 :: cs)) σ μ = (evE p.τ Φ b c σ μ).bind fun q => (Res.of (truth q.2 q.1)).bind fun r => if r = false then evE p.τ Φ b (.or (c2 :: cs)) σ q.2 else .ok q
            simp only [e2]
            rw [evE, evOr]
            congr 1
            funext q
            show ((Res.of (truth q.2 q.1)).bind fun r => match r with
              | true => .ok q
              | false => evOr p.τ Φ b (c2 :: cs) σ q.2) = (Res.of (truth q.2 q.1)).bind fun r => if r = false then evOr p.τ Φ b (c2 :: cs) σ q.2 else .ok q
            congr 1
            funext r
            cases r <;> rfl) ih hr hw
end
end
end Ev


set_option Elab.async false
set_option linter.all false
set_option maxRecDepth 100000
set_option maxHeartbeats 8000000
/-! try .. except (A, B) as n: what was caught may be kept. -/
namespace Ev
open PySem L2
theorem exV_ok {P : Program} {w : World} {H : Hp} {h : Heap} {cls : Value} {d : Option Addr} {a : Addr} {oe : Obj} {vs : Array Value} (e : h.get? a = some oe) (z : Zc cls d oe) (q : oe.data = .fields vs) : ObjOk P w H h a (ExV cls d a) :=
  ⟨⟨oe, vs, e, z, q⟩, ⟨oe, e⟩, fun _ _ ⟨o, v, e1, z1, q1⟩ k => ⟨o, v, k o e1, z1, q1⟩⟩
section
variable {X : Cx} {pins : List (Addr × Obj)} {σ : St} {H : Hp} {s : Shared}
/-- an object that nobody tracks comes to be tracked -/
theorem track_ok {a : Addr} {o : HO} (I : Inv X pins σ H s) (na : H a = none) (h0 : X.s_0.heap.get? a = none) (nL : a ≠ X.env.locals) (nC : ∀ x c, X.env.cells.lookup x = some c → c ≠ a) (nP : ∀ p ∈ X.pn ++ pins, p.1 ≠ a)
    (new : ObjOk X.prog X.w (upd H a o) s.heap a o) : Inv X pins σ (upd H a o) s := by
  have ne : ∀ {b : Addr} {u : HO}, H b = some u → b ≠ a := fun e => ne_of_none e na
  refine ⟨I.ok, I.os, I.bare, ⟨I.base.keep, I.base.slot, fun b u e n hx => ?_, I.base.there, fun b xs e => ?_, fun b u v e => ?_, fun b ps e => ?_⟩, I.loc, I.cell, ?_, fun x c e => ?_, fun q hq => ?_, fun b u e => ?_, I.len⟩
  · have hb : b ≠ a := fun z => by
      rw [z, h0] at e
      cases e
    rw [upd_ne hb]
    exact I.base.free b u e n hx
  · have q := I.base.tups b xs e
    rw [upd_ne (ne q)]
    exact q
  · have q := I.base.frzs b u v e
    rw [upd_ne (ne q)]
    exact q
  · obtain ⟨m, q⟩ := I.base.tbls b ps e
    refine ⟨m, ?_⟩
    rw [upd_ne (ne q)]
    exact q
  · rw [upd_ne (Ne.symm nL)]
    exact I.free
  · rw [upd_ne (nC x c e)]
    exact I.freeC x c e
  · obtain ⟨z1, z2, z3⟩ := I.pin q hq
    refine ⟨z1, ?_, z3⟩
    rw [upd_ne (nP q hq)]
    exact z2
  · by_cases hb : b = a
    · subst hb
      rw [upd_same] at e
      cases e
      exact new
    · rw [upd_ne hb] at e
      refine (I.hok b u e).stay (fun _ _ _ z => z) (fun c z => ?_) fun c xs z => ?_
      · rw [upd_ne (ne z)]
        exact z
      · rw [upd_ne (ne z)]
        exact z
theorem suite_in {a : Addr} (I : Inv X pins σ H s) : Inv (X.suite a (X.pn ++ pins)) [] σ H s :=
  ⟨I.ok.suite _ _, I.os, I.bare, I.base, I.loc, I.cell, I.free, I.freeC, fun q hq => I.pin q (by rwa [List.append_nil] at hq), I.hok, I.len⟩
theorem suite_out {a : Addr} {pn' : List (Addr × Obj)} (I : Inv (X.suite a (X.pn ++ pins)) pn' σ H s) (ok : X.Ok) : Inv X pins σ H s :=
  ⟨ok, I.os, I.bare, I.base, I.loc, I.cell, I.free, I.freeC, fun q hq => I.pin q (List.mem_append_left _ hq), I.hok, I.len⟩
theorem fly_keeps {B h h' : Heap} {l : List Env} {a : Addr} {Z : Obj → Prop} (F : HandSPX.FlyingZ B l a Z h) (k : ∀ b o, h.get? b = some o → h'.get? b = some o) : HandSPX.FlyingZ B l a Z h' := by
  obtain ⟨f1, f2, f3, oe, vs, T, oT, ts, g1, g2, g3, g4, g5, g6, g7, g8, g9⟩ := F
  refine ⟨fun b o e => k b o (f1 b o e), f2, Heap.FunFrames.of_keeps (fun b o e _ => ⟨o, k b o e, rfl⟩) f3, oe, vs, T, oT, ts, k _ _ g1, g2, g3, g4, g5, g6, k _ _ g7, g8, g9⟩
end
/-- the classes that a clause names: what their test answers -/
def Asks (X : Cx) (ty : Expr) (cs : List Value) : Prop := ∀ (E : Value → Shared → Prop) (Q : Bool → Shared → Prop) (pn : List (Addr × Obj)) (σ : St) (H : Hp) (s : Shared) (a : Addr) (cls : Value) (r : Bool), Inv (X.suite a pn) [] σ H s →
  PySem.W.Looks (model X.prog X.w) s.heap (typeOf (.ref a)) cls → PySem.W.exmAny X.K cls cs = some r → (∀ h' : Heap, (∀ b o, s.heap.get? b = some o → h'.get? b = some o) → Q r { s with heap := h' }) →
  wpAny (model X.prog X.w) (X.A.mark (some (.ref a))) (eval ty X.env) (fun c s1 => wpAny (model X.prog X.w) (X.A.mark (some (.ref a))) (excMatches (.ref a) c) Q E s1) E s
section
variable {X : Cx}
theorem nm_load {E : Value → Shared → Prop} {Q : Value → Shared → Prop} {pn : List (Addr × Obj)} {σ : St} {H : Hp} {s : Shared} {a : Addr} {x : Str} {c : Value} {np : Pos} (hc : Names X x c) (I : Inv (X.suite a pn) [] σ H s) (q : Q c s) :
    wpAny (model X.prog X.w) (X.A.mark (some (.ref a))) (eval (.Name x np) X.env) Q E s := by
  obtain ⟨hg, hd, hm | ⟨hm, hv, hn⟩⟩ := hc
  · exact ld_glob (X := X.suite a pn) I hg hm q hd
  · exact ld_blt (X := X.suite a pn) I hg hm hv q hn hd
theorem asks_one {x : Str} {c : Value} {np : Pos} (hc : Names X x c) : Asks X (.Name x np) [c] := by
  intro E Q pn σ H s a cls r I LT e q
  obtain ⟨b1, d1, h1, h2, rfl⟩ := PySem.W.exmAny_cons e
  simp only [PySem.W.exmAny, Option.some.injEq] at h2
  subst h2
  rw [Bool.or_false] at q
  exact nm_load hc I ((PySem.W.exm_one (M := model X.prog X.w) I.kIn LT h1).here (q s.heap fun _ _ z => z))
theorem asks_two {x y : Str} {c d : Value} {np1 np2 tp : Pos} {kk : Nat} (hc : Names X x c) (hd : Names X y d) : Asks X (.Tuple [.Name x np1, .Name y np2] kk tp) [c, d] := by
  intro E Q pn σ H s a cls r I LT e q
  refine wpAny_Tuple (wpAny_items_cons (nm_load hc I (wpAny_items_cons (nm_load hd I (wpAny_items_nil ⟨by show 2 ≤ sizeLine; decide, ?_⟩)))))
  have kp : ∀ b o, s.heap.get? b = some o → (s.heap.push { cls := .type "tuple", data := .seq [c, d].toArray }).get? b = some o := fun _ _ z => Heap.get?_push_of_some _ z
  exact (PySem.W.exm_tup2 (I.kIn.keeps kp) (LT.keeps kp) (Heap.get?_push_size s.heap rfl) e).here (q _ kp)
/-- what the clause wishes of an exception of the body -/
def wKeep (K : PySem.W.Frag) (cs : List Value) (i : Nat) (ts : TS) (Wout : WX) (D : Ends) : WX := fun cls d σ H =>
  ∃ r, PySem.W.exmAny K cls cs = some r ∧ (r = true → ∀ a, H a = none → ts { nx := fun σ' H' => D.nx (σ'.set i none) H', rt := D.rt, bk := fun σ' H' => D.bk (σ'.set i none) H', ct := fun σ' H' => D.ct (σ'.set i none) H' } (σ.set i (some (.ref a))) (upd H a (ExV cls d a))) ∧
    (r = false → Wout cls d σ H)
theorem ps_tryK {n : Str} {i : Nat} {ty : Expr} {cs : List Value} {body suite : List Stmt} {b0 : Stmt} {pos pos' : Pos} {tb : WX → TS} {ts : TS} {Wout : WX} (hs : X.stack = X.env :: X.outer) (hf : X.env.frame = some X.env.locals) (hex : X.ex = []) (hN : X.N.Nodup) (hi : X.N[i]? = some n) (hln : X.env.kindOf n = some .local)
    (hc : Asks X ty cs) (tk : Takes X Wout)
    (hb : ∀ (W : WX) (pn : List (Addr × Obj)) (xe : Value → Shared → Prop), Takes (X.tr pn xe) W → PassesOwn (model X.prog X.w) X.A X.env xe → PSs (X.tr pn xe) body (tb W))
    (hsu : ∀ (a : Addr) (pn : List (Addr × Obj)), PSs (X.suite a pn) (b0 :: suite) ts) :
    PS X (.Try body [.ExceptHandler (some ty) (some n) (b0 :: suite) pos'] [] [] pos) (fun D σ H => tb (wKeep X.K cs i ts Wout D) D σ H) := by
  refine ⟨fun pins s σ H D I h => ?_⟩
  have ok := I.ok
  have fr0 : X.A.frames = some (X.env :: X.outer) := by rw [ok.frames, hs]
  have loc0 : L2.Loc X.env.scope n := .inl hln
  refine wpAny_Try_except ?_
  refine wpAny_mono ((hb (wKeep X.K cs i ts Wout D) (X.pn ++ pins) (fun e s1 => wpAny (model X.prog X.w) X.A (noteFrame e X.env) (fun _ s2 => wpAny (model X.prog X.w) X.A (setFlight e none) (fun _ s3 =>
    wpAny (model X.prog X.w) X.A (handleBy e X.env [.ExceptHandler (some ty) (some n) (b0 :: suite) pos']) (SP X pins D) X.xe s3) X.xe s2) X.xe s1) (fun u s1 xx => ?_) PassesOwn.looking).run [] s σ H D (I.toTry _) h) (fun f s1 hsp => ?_) (fun e s1 he => he)
  · obtain ⟨a, B, sI, pins', σ1, H1, cls, d, rfl, J0, nb, up, sky, na, os, ag, r, hr, yes, no⟩ := xx
    have J : Inv X pins σ1 H1 sI := J0.ofTry ok
    have sky1 : Sky B (X.env :: X.outer) a (Zc cls d) X.env.locals s1.heap := by
      rw [← hs]
      exact sky
    show wpAny (model X.prog X.w) X.A (noteFrame (.ref a) X.env) _ _ _
    refine Sky.land Zc.steady fr0 hf sky1 fun h3 fl3 up3 => ?_
    have J3 : Inv X pins σ1 H1 { s1 with heap := h3 } := J.landed nb fl3.1 (up.trans up3) os ag
    obtain ⟨oe3, vs3, he3, hz3, hd3⟩ := fl3.there
    have offF : a ∉ frs (X.env :: X.outer) := fun hm => by
      obtain ⟨_, o', e', hnf⟩ := fl3.2.2.1.mem hm
      rw [he3] at e'
      cases e'
      exact hnf _ hd3
    have offL : a ≠ X.env.locals := fun z => offF (List.mem_filterMap.mpr ⟨X.env, List.mem_cons_self, by rw [hf, z]⟩)
    have nB : B.get? a = none := fl3.2.1
    have old : X.s_0.heap.get? a = none := by
      cases q : X.s_0.heap.get? a with
      | none => rfl
      | some o =>
        exfalso
        obtain ⟨o', e'⟩ := J.base.there a o q (by rw [hex]; simp)
        have := nb a o' e' (by rw [hs]; exact offF)
        rw [nB] at this
        cases this
    refine wpAny_handleBy_cons (codeAny_handlers_test ?_) (by intro q; cases q)
    have LT : PySem.W.Looks (model X.prog X.w) h3 (typeOf (.ref a)) cls := fun A Q E s k q => wpAny_typeOf_ref (k _ _ he3) (by rw [hz3.1]; exact q)
    refine hc _ _ _ _ _ _ a cls r (suite_in J3) LT hr fun h5 k5 => ?_
    have fl5 := fly_keeps fl3 k5
    have up5 : h3.UpToSlots h5 := Heap.UpToSlots.of_keeps k5
    cases r with
    | true =>
      refine codeAny_handlers_suite_as ?_
      refine HandSPX.lands_againZ fl5 fun h4 fl4 up4 => ?_
      have J4 : Inv X pins σ1 H1 { s1 with heap := h4 } := J.landed nb fl4.1 (((up.trans up3).trans up5).trans up4) os ag
      obtain ⟨oe4, vs4, he4, hz4, hd4⟩ := fl4.there
      have T4 : Inv X pins σ1 (upd H1 a (ExV cls d a)) { s1 with heap := h4 } := by
        refine track_ok J4 na old offL (fun x c e z => ?_) (fun q hq z => ?_) (exV_ok he4 hz4 hd4)
        · subst z
          obtain ⟨v, o', q1, q2⟩ := J4.cell x _ e
          rw [he4] at q1
          cases q1
          simp [hd4] at q2
        · obtain ⟨z1, _⟩ := J.pin q hq
          have z2 := (J.pin q hq)
          have := nb q.1 q.2 z1 (fun hm => ?_)
          · rw [z, nB] at this
            cases this
          · rw [hs, z] at hm
            exact offF hm
      refine store_ok (X := X.suite a (X.pn ++ pins)) (v := .ref a) (suite_in T4) hN hi loc0 rfl (fun s5 S5 => ?_) (.inr hln)
      refine wpAny_mono ((hsu a (X.pn ++ pins)).run [] s5 _ _ _ S5 (yes rfl a na)) (fun f s6 hsp => ?_) (fun _ _ z => False.elim z)
      have fin : ∀ {σ6 : St} {H6 : Hp} {Q : Shared → Prop}, Inv (X.suite a (X.pn ++ pins)) [] σ6 H6 s6 → (∀ s7, Inv X pins (σ6.set i none) H6 s7 → Q s7) →
          wpAny (model X.prog X.w) X.A (do bindName X.env n .none; unbindBehindTheSuite X.env n pos') (fun _ s7 => Q s7) X.xe s6 := fun {σ6 H6 Q} S6 hq => gone_ok (suite_out S6 ok) hN hi hln hq
      cases f with
      | next =>
        obtain ⟨σ6, H6, S6, q6⟩ := hsp
        exact fin S6 fun s7 J7 => ⟨_, _, J7, q6⟩
      | brk =>
        obtain ⟨σ6, H6, S6, q6⟩ := hsp
        exact fin S6 fun s7 J7 => ⟨_, _, J7, q6⟩
      | cont =>
        obtain ⟨σ6, H6, S6, q6⟩ := hsp
        exact fin S6 fun s7 J7 => ⟨_, _, J7, q6⟩
      | ret u =>
        obtain ⟨v6, σ6, H6, S6, r6, q6⟩ := hsp
        exact fin S6 fun s7 J7 => ⟨_, _, _, J7, r6, q6⟩
    | false =>
      show wpAny _ X.A (handleBy (.ref a) X.env []) _ _ _
      refine wpAny_handleBy_nil ?_
      obtain ⟨k1, k2, k3, oe, vs, T, oT, ts', he, hz, hd, h1, hrest⟩ := id fl5
      unfold PySem.passOn
      refine wpAny_bind (wpAny_field he hd h1 ?_)
      rw [if_neg (show ¬ ((Value.ref T == Value.none) = true) from by simp)]
      have out : wpAny (model X.prog X.w) X.A (setFlight (.ref a) X.env.frame) (fun _ s4 => wpAny (model X.prog X.w) X.A (throw (.ref a) : Sem Flow) (SP X pins D) X.xe s4) X.xe { s1 with heap := h5 } := by
        rw [hf]
        refine HandSPX.setFlight_upZ fl5 fun h4 hh4 up4 => wpAny_throw (tk _ _ ?_)
        exact ⟨a, B, sI, pins, σ1, H1, cls, d, rfl, J, nb, ((up.trans up3).trans up5).trans up4, .inr (.inr (by rw [hs]; exact hh4)), na, os, ag, no rfl⟩
      first
        | exact wpAny_bind (wpAny_pure (wpAny_bind out))
        | exact wpAny_bind out
  · cases f with
    | next =>
      obtain ⟨σ1, H1, J1, q⟩ := hsp
      exact wpAny_execs_nil ⟨σ1, H1, J1.ofTry ok, q⟩
    | brk =>
      obtain ⟨σ1, H1, J1, q⟩ := hsp
      exact ⟨σ1, H1, J1.ofTry ok, q⟩
    | cont =>
      obtain ⟨σ1, H1, J1, q⟩ := hsp
      exact ⟨σ1, H1, J1.ofTry ok, q⟩
    | ret u =>
      obtain ⟨v, σ1, H1, J1, r, q⟩ := hsp
      exact ⟨v, σ1, H1, J1.ofTry ok, r, q⟩
end
end Ev


set_option Elab.async false
set_option linter.all false
set_option maxRecDepth 100000
set_option maxHeartbeats 8000000
/-! raise C(e), C an own class over ValueError with one attribute; try. -/
namespace Ev
open PySem L2
/-- o.m(..), plain arguments, all on one line -/
theorem form_ok {env : Env} {pos : Pos} : ∀ {es : List Expr}, es.all nst = true → (backTo pos (starEach es env)).all (fun x => !x.1) = true
  | [], _ => rfl
  | e :: es, h => by
    simp only [List.all_cons, Bool.and_eq_true] at h
    rw [star_ok h.1]
    have := form_ok (env := env) (pos := pos) h.2
    simp only [backTo, List.map_cons, List.all_cons, Bool.not_false, Bool.true_and] at this ⊢
    exact this
theorem mcall_eq {o : Expr} {m : Str} {apos pos : Pos} {es : List Expr} {env : Env} (hb : attributeBase o m env (eval o env) = eval o env) (hn : es.all nst = true) (hlen : es.length < 30) (hl : (apos.endLine == pos.line) = true) :
    eval (.Call (.Attribute o m apos) es [] pos) env = (do
      let ov ← eval o env
      standAt apos.atName
      let (f, first) ← holding [ov] (getMethod ov m (do return (← importBound o env).getD true))
      callWith pos f first (backTo pos (starEach es env)) (backToKw pos (keywordEach [] env))) := by
  have h1 : methodCallForm (es.length + ([] : List Keyword).length) (backTo pos (starEach es env)) (backToKw pos (keywordEach [] env)) = true := by
    unfold methodCallForm
    rw [form_ok hn]
    show (true && true && decide (es.length + 0 + 0 < 30)) = true
    simpa using hlen
  have h2 : methodCallPos true o env apos pos = pure pos := by
    unfold methodCallPos
    rw [hl]
    rfl
  rw [arm_eval_Call, hb]
  unfold methodCall
  simp only [h1, h2]
  rfl
/-- C's __init__(self, x): x becomes the attribute f -/
def spI (C : Addr) (f : Str) : Sp := fun vs H Q _ => ∃ (a : Addr) (v : V), vs = [.ref a, v] ∧ H a = some (exo a C none) ∧ ∀ dx, H dx = none → dx ≠ a → Q .non (upd (upd H dx (exd dx [(f, v)])) a (exo a C (some dx)))
theorem init_body {X : Cx} {C : Addr} {f xs xv : Str} {m : Str} {j : Nat} {p1 p2 p3 p4 p5 p6 p7 p8 p9 p10 : Pos} (T : OexC X.K C) (hno : PySem.W.findIn X.K (.ref C) f = some none) (hl : (p2.endLine == p5.line) = true) (hg : Gl X "ValueError") (hm : X.mg "ValueError" = none)
    (vV : PySem.W.findCls X.K (.type "ValueError") (.type "type") "__init__" = some (.val (.builtin "ValueError.__init__"))) (h0 : X.N[0]? = some xs) (h1 : X.N[1]? = some xv) (v0 : Vis X.env.scope xs) (v1 : Vis X.env.scope xv)
    (d0 : (xs == ("__debug__" : Str)) = false) (c0 : (xs == ("__classdict__" : Str)) = false) (d1 : (xv == ("__debug__" : Str)) = false) (c1 : (xv == ("__classdict__" : Str)) = false) :
    ∃ t, PSs X [.Expr (.Call (.Attribute (.Name "ValueError" p1) "__init__" p2) [.Name xs p3, .Constant (.str m) j p4] [] p5) p6, .Assign [.Attribute (.Name xs p7) f p8] (.Name xv p9) p10] t ∧
      ∀ (a : Addr) (v : V) (σ : St) (H : Hp) (D : Ends), σ[0]? = some (some (.ref a)) → σ[1]? = some (some v) → H a = some (exo a C none) →
        (∀ dx, H dx = none → dx ≠ a → D.nx σ (upd (upd H dx (exd dx [(f, v)])) a (exo a C (some dx)))) → t D σ H := by
  refine ⟨_, pss_cons (ps_expr (pe_veinit hg hm vV (pa_cons (pe_var h0 v0 d0 c0) (pa_cons pe_str pa_nil)) (mcall_eq (bas_ok rfl _ _ _) rfl (by simp) hl))) (pss_one (ps_ost (pe_var h0 v0 d0 c0) (pe_var h1 v1 d1 c1))), fun a v σ H D e0 e1 ha k => ?_⟩
  refine ⟨_, e0, a, C, _, rfl, by simp, T, ha, ?_⟩
  exact ⟨_, e1, _, e0, a, C, rfl, T, hno, .inl ⟨ha, k⟩⟩
/-- what an exception's class has, to be raised -/
structure XmOk (p : Pg) (c f : Nat) : Prop where
  ex : p.τ.exc c = true
  T : OexC p.g.K (p.g.cls c)
  mkI : ∃ (fI : Addr) (fd : FuncData) (ps : List Str), PySem.W.findIn p.g.K (.ref (p.g.cls c)) "__init__" = some (some (.ref fI)) ∧ PySem.W.typeIn p.g.K (.ref fI) = some (.type "function") ∧
    FnOk p.P p.w p.g.K p.mg p.base (L2.CX p.P p.w) 1 fI fd ps (spI (p.g.cls c) (dec f)) ∧ Binds p.g.K fd ps []
section
variable {p : Pg} {sc : Sc} {k : Nat} {X : Cx} {W : WX} {b wf : Nat} {Φ : Calls}
theorem pmk_imp {e : Expr} {t t' : St → Hp → XK → Prop} (h : PMk X e t) (i : ∀ σ H Q, t' σ H Q → t σ H Q) : PMk X e t' := fun pins s σ H Q I q => h pins s σ H Q I (i _ _ _ q)
theorem s_raise (o : p.Ok) (x : Cok p sc (k + 2) X W) {c f : Nat} {cs : List C} {e : Expr} {nm : Str} {p1 p2 pos : Pos} (M : XmOk p c f) (hx : p.τ.xat c = some f) (hn : p.cl c = some nm) (gl : sc.names.lookup nm = some .globalImplicit) (hd : (nm == ("__debug__" : Str)) = false) (hs : nst e = true)
    (h : SL p.g X W b [e] (evEs p.τ Φ b cs)) : PS X (.Raise (some (.Call (.Name nm p1) [e] [] p2)) none pos) (tS p.g b W (evS p.τ Φ b wf (.raise c cs))) := by
  obtain ⟨fI, fd, ps, h1, h2, F, hb⟩ := M.mkI
  have T := M.T
  rw [← x.K] at h1 h2 hb T
  rw [← x.P, ← x.w, ← x.K, ← x.mg, ← x.base] at F
  have F' : FnOk X.prog X.w X.K X.mg X.base (L2.CX X.prog X.w) (k + 1) fI fd ps (spI (p.g.cls c) (dec f)) := F.mono (by omega)
  refine ps_imp (ps_raise x.calm x.tk (pmk_oex T h1 h2 F' x.room.rm hb (.nil : Vals [] []) passL (x.gl gl) (by rw [x.mg]; exact o.cl c nm hn) h hd (star_ok hs [] X.env) (stars_ok rfl))) fun D σ H q => ?_
  obtain ⟨w, σp, rfl, R, l, k⟩ := q
  rw [evS, hx] at k
  refine ⟨w, σp, rfl, R, l, (okS.stepL k R l).imp fun xs H1 ⟨w1, vs, e1, L1, R1, d1, l1, k1⟩ => ?_⟩
  subst e1
  dsimp only at k1
  split at k1
  · rename_i v
    obtain ⟨y, rfl, d2⟩ := d1.one
    refine ⟨by simp, fun a ha => ⟨a, y, rfl, upd_same, fun dx hdx hne => ⟨rfl, dx, [(dec f, y)], upd_same, ?_, ?_, ?_⟩⟩⟩
    · rw [upd_ne hne, upd_same]
    · rw [upd_ne hne] at hdx
      exact hdx
    · have hdx1 : w1.H dx = none := by rw [upd_ne hne] at hdx; exact hdx
      have e3 : upd (del (upd (upd (upd w1.H a (exo a (p.g.cls c) none)) dx (exd dx [(dec f, y)])) a (exo a (p.g.cls c) (some dx))) a) dx (.xd [(dec f, y)]) = upd w1.H dx (.xd [(dec f, y)]) := by
        funext z
        unfold upd del
        by_cases h3 : z = dx
        · simp [h3]
        · by_cases h4 : z = a
          · subst h4
            simp [h3, ha]
          · simp [h3, h4]
      show W _ _ σ (upd (del _ a) dx (.xd [(dec f, y)]))
      rw [e3]
      have L2 : Le b w1 (w1.put dx (.xd [(dec f, y)])) := put_le R1 hdx1
      refine k1 (w1.put dx (.xd [(dec f, y)])) σ _ _ rfl L2 (put_rel R1 hdx1) (l1.mono R1 L2) ?_
      exact ⟨rfl, dx, _, rfl, upd_same, rfl, .cons (d2.mono R1 L2) .nil⟩
  · exact k1.elim
/-! ### try -/
theorem okS.imp {g : Gx} {w : Wd} {o : Out} {D D' : Ends} (h : okS g b W w o D) (n : ∀ σ H, D.nx σ H → D'.nx σ H) (r : ∀ x H, D.rt x H → D'.rt x H) : okS g b W w o D' := by
  unfold okS at h ⊢
  split at h
  · exact fun w' σ' e L R l => n _ _ (h w' σ' e L R l)
  · exact fun w' x e L R d => r _ _ (h w' x e L R d)
  · exact h
  · exact h
theorem exm_any (T : TOk p.τ p.g p.w) {d : Nat} (hd : p.τ.exc d = true) : ∀ {cs : List Nat}, cs.all p.τ.exc = true → PySem.W.exmAny p.g.K (.ref (p.g.cls d)) (cs.map fun c => .ref (p.g.cls c)) = some (cs.any fun c => p.τ.xsub d c)
  | [], _ => rfl
  | c :: cs, h => by
    simp only [List.all_cons, Bool.and_eq_true] at h
    have h1 := T.xmo d c hd h.1
    have h2 := exm_any T hd h.2
    simp only [List.map_cons, PySem.W.exmAny, h1, h2, List.any_cons]
theorem s_tryK (o : p.Ok) (x : Cok p sc k X W) {i : Nat} {n : Str} {cs : List Nat} {ty : Expr} {body suite : List Stmt} {b0 : Stmt} {ss hb : List S} {pos pos' : Pos} (hs : X.stack = X.env :: X.outer) (hf : X.env.frame = some X.env.locals) (hex : X.ex = []) (hi : X.N[i]? = some n)
    (hln : sc.names.lookup n = some .local) (hc : Asks X ty (cs.map fun c => .ref (p.g.cls c)))
    (hbd : ∀ (W' : WX) (pn : List (Addr × Obj)) (xe : Value → Shared → Prop), Takes (X.tr pn xe) W' → PassesOwn (model X.prog X.w) X.A X.env xe → PSs (X.tr pn xe) body (tS p.g b W' (evSs p.τ Φ b wf ss)))
    (hsu : ∀ (a : Addr) (pn : List (Addr × Obj)), PSs (X.suite a pn) (b0 :: suite) (tS p.g b W (evSs p.τ Φ b wf hb))) :
    PS X (.Try body [.ExceptHandler (some ty) (some n) (b0 :: suite) pos'] [] [] pos) (tS p.g b W (evS p.τ Φ b wf (.try ss [.mk cs (some i) hb]))) := by
  refine ps_imp (ps_tryK (tb := fun W' => tS p.g b W' (evSs p.τ Φ b wf ss)) hs hf hex x.nd hi (by show X.env.scope.names.lookup n = _; rw [x.nm]; exact hln) hc x.tk hbd hsu) fun D σ H q => ?_
  obtain ⟨w, σp, rfl, R, l, k⟩ := q
  refine ⟨w, σp, rfl, R, l, ?_⟩
  rw [evS] at k
  cases e : evSs p.τ Φ b wf ss σp w.μ with
  | nx σ1 μ1 => rw [e] at k; exact k
  | ret v μ1 => rw [e] at k; exact k
  | err => rw [e] at k; exact k
  | exc ex σ1 μ1 =>
    rw [e] at k
    dsimp only at k
    intro w1 σ' cls d em L1 R1 l1 dx
    subst em
    cases ex with
    | exn dc as vs =>
      rw [evHs, evHs, evH] at k
      obtain ⟨rfl, dd, fs, rfl, hxd, hfs, dvs⟩ := dx
      split at k
      · rename_i he
        rw [Bool.and_eq_true] at he
        have ea := exm_any o.T he.1 he.2
        rw [← x.K] at ea
        refine ⟨_, ea, fun hr a ha => ?_, fun hr => ?_⟩
        · rw [hr] at k
          dsimp only at k
          split at k
          · rename_i hlt
            have L2 : Le b w1 (w1.put a (ExD (p.g.cls dc) dd a)) := put_le R1 ha
            have R2 : Rel p.g b (w1.put a (ExD (p.g.cls dc) dd a)) := put_rel R1 ha
            have den : Den p.g (w1.put a (ExD (p.g.cls dc) dd a)) (.exn dc as vs) (.ref a) := by
              simp only [Den]
              refine ⟨a, dd, fs, rfl, upd_same, ?_, hfs, dvs.mono R1 L2⟩
              exact (L2.keep dd _ hxd (R1.nb hxd (fun z => z))).1
            refine ⟨w1.put a (ExD (p.g.cls dc) dd a), σ1.set i (some (.exn dc as vs)), rfl, R2, (l1.mono R1 L2).set den, ?_⟩
            have k2 := okS.next (okS.le (okS.le k L1) L2)
            refine okS.imp (o := evSs p.τ Φ b wf hb (σ1.set i (some (.exn dc as vs))) w1.μ) k2 (fun σ3 H3 ⟨w4, σ4, e4, L4, R4, l4, q4⟩ => ?_) fun _ _ q => q
            rw [← e4]
            exact q4 w4 (σ3.set i none) rfl (.refl _ _) R4 l4.wipe1
          · exact k.elim
        · rw [hr] at k
          dsimp only at k
          exact k w1 σ' _ _ rfl L1 R1 l1 ⟨rfl, dd, fs, rfl, hxd, hfs, dvs⟩
      · exact k.elim
    | _ => exact dx.elim
end
end Ev


set_option Elab.async false
set_option linter.all false
set_option maxRecDepth 100000
set_option maxHeartbeats 8000000
/-! The check of statements. -/
namespace Ev
open PySem L2
def chkI (ck : Ck) (sc : Sc) (k : Ik) (it : List C) (iter tg : Expr) : Bool := noSet iter && (match k with
  | .seq => chkEs ck sc it [iter]
  | .rng1 => (match iter with
    | .Call (.Name x _) [a] [] _ => decide (x = "range") && (glB sc x && (blB ck x && chkEs ck sc it [a]))
    | _ => false)
  | .rng2 => (match iter with
    | .Call (.Name x _) [a, d] [] _ => decide (x = "range") && (glB sc x && (blB ck x && chkEs ck sc it [a, d]))
    | _ => false)
  | .enum => (match iter, tg with
    | .Call (.Name x _) [a] [] _, .Tuple _ _ _ => decide (x = "enumerate") && (glB sc x && (blB ck x && chkEs ck sc it [a]))
    | _, _ => false)
  | .keys => chkEs ck sc it [iter]
  | _ => false)
/-- does a block's list go straight into the local -/
def swB (sc : Sc) (x : Str) (p : Pos) (v : Expr) : Option Bool := match v with
  | .ListComp _ _ scope pos => some ((match sc.names.lookup x with | some .local => true | _ => false) && ((p.line == pos.line) && !(scope.names.any fun (n, k) => n == x && (k == .local || k == .cell))))
  | .SetComp .. => none
  | .DictComp .. => none
  | _ => some false
def noTup : Expr → Bool
  | .Tuple .. => false
  | _ => true
def tyL (ck : Ck) (sc : Sc) (cs : List Nat) (ty : Expr) : Bool := match cs, ty with
  | [c], .Name x _ => eqS (ck.cl[c]?).join x && glB sc x
  | [c, d], .Tuple [.Name x _, .Name y _] _ _ => (eqS (ck.cl[c]?).join x && glB sc x) && (eqS (ck.cl[d]?).join y && glB sc y)
  | _, _ => false
mutual
def chkS (ck : Ck) (sc : Sc) (s : S) (st : Stmt) : Bool := match s with
  | .set t c => (match st with
    | .Assign [tg] v _ => chkT sc t tg && (chkE ck sc c v && (match tg with
      | .Name x p => (swB sc x p v).isSome
      | .Tuple _ _ _ => noLc v && noTup v
      | _ => false))
    | _ => false)
  | .setI co ci c => (match st with
    | .Assign [.Subscript o i _] v _ => nsl i && (noLc v && (chkE ck sc co o && (chkE ck sc ci i && chkE ck sc c v)))
    | _ => false)
  | .expr c => (match st with
    | .Expr e _ => noLc e && chkE ck sc c e
    | _ => false)
  | .ret c => (match st with
    | .Return (some e) _ => chkE ck sc c e
    | _ => false)
  | .retN => (match st with
    | .Return none _ => true
    | _ => false)
  | .pass => (match st with
    | .Pass _ => true
    | .Expr (.Constant (.str _) _ _) _ => true
    | _ => false)
  | .iff c x y => (match st with
    | .If e a d _ => chkE ck sc c e && (chkSs ck sc x a && chkSs ck sc y d)
    | _ => false)
  | .for t k it ss => (match st with
    | .For tg iter body [] _ => chkI ck sc k it iter tg && (chkT sc t tg && chkSs ck sc ss body)
    | _ => false)
  | .whil c ss => (match st with
    | .While e body [] _ => chkE ck sc c e && chkSs ck sc ss body
    | _ => false)
  | .raise c cs => (match st with
    | .Raise (some (.Call (.Name x _) [e] [] _)) none _ => eqS (ck.cl[c]?).join x && (glB sc x && chkEs ck sc cs [e])
    | _ => false)
  | .nev => true
  | .try ss hs => (match st with
    | .Try body [.ExceptHandler (some ty) (some n) suite _] [] [] _ => chkSs ck sc ss body && (match hs, suite with
      | [.mk cs (some i) [.set (.var j) (.var l)]], [.Assign [.Name y _] (.Name x _) _] => (eqS (sc.N[i]?) n && ((match sc.names.lookup n with | some .local => true | _ => false) && tyL ck sc cs ty)) &&
        ((eqS (sc.N[j]?) y && locB sc y) && (eqS (sc.N[l]?) x && (visB sc x && (!(x == ("__debug__" : Str)) && !(x == ("__classdict__" : Str))))))
      | _, _ => false)
    | _ => false)
  | _ => false
termination_by structural s
def chkSs (ck : Ck) (sc : Sc) (ss : List S) (sts : List Stmt) : Bool := match ss with
  | [] => sts.isEmpty
  | s :: ss => (match s with
    | .frz _ => chkSs ck sc ss sts
    | s => (match sts with
      | st :: sts => chkS ck sc s st && chkSs ck sc ss sts
      | [] => false))
termination_by structural ss
end
/-- a def's frame -/
structure Fok (X : Cx) : Prop where
  stack : X.stack = X.env :: X.outer
  frame : X.env.frame = some X.env.locals
  ex : X.ex = []
  pw : PassesOwn (model X.prog X.w) X.A X.env X.xe
section
variable {p : Pg} {ck : Ck} {k : Nat} {Φ : Calls} {b wf : Nat}
theorem chkI_ok (o : p.Ok) (L : Link ck p) (Cs : CallsOk p k Φ) {sc : Sc} {X : Cx} {W : WX} (x : Cok p sc k X W) {kd : Ik} {it : List C} {iter tg : Expr} (h : chkI ck sc kd it iter tg = true) : PI X tg iter (tI p.g b W fun σ μ => wkd kd (evEs p.τ Φ b it σ μ)) ∧ noSet iter = true := by
  unfold chkI at h
  rw [Bool.and_eq_true] at h
  obtain ⟨h0, h8⟩ := h
  refine ⟨?_, h0⟩
  split at h8
  · obtain ⟨ci, rfl, hc⟩ := allE_one (chkEs_ok o L Cs it sc X W _ x h8)
    exact si_seq x.K.symm hc
  · split at h8
    · simp only [Bool.and_eq_true, decide_eq_true_eq] at h8
      obtain ⟨rfl, g1, g2, g3⟩ := h8
      obtain ⟨g1, _⟩ := glB_ok g1
      have hm := (congrFun x.mg _).trans (o.bl _ (L.bl _ (blB_ok g2)))
      have hn := chk_nst g3
      have ha := chkEs_ok (b := b) o L Cs it sc X W _ x g3
      obtain ⟨ci, rfl, hc⟩ := allE_one ha
      have hs := allE_sl ha hn
      simp only [List.all_cons, Bool.and_eq_true] at hn
      exact si_rng1 (x.gl g1) hm hn.1 hs
    · cases h8
  · split at h8
    · simp only [Bool.and_eq_true, decide_eq_true_eq] at h8
      obtain ⟨rfl, g1, g2, g3⟩ := h8
      obtain ⟨g1, _⟩ := glB_ok g1
      have hm := (congrFun x.mg _).trans (o.bl _ (L.bl _ (blB_ok g2)))
      have hn := chk_nst g3
      have ha := chkEs_ok (b := b) o L Cs it sc X W _ x g3
      obtain ⟨ci, cj, rfl, hc, hd⟩ := allE_two ha
      have hs := allE_sl ha hn
      simp only [List.all_cons, Bool.and_eq_true] at hn
      exact si_rng2 (x.gl g1) hm hn.1 hn.2.1 hs
    · cases h8
  · split at h8
    · simp only [Bool.and_eq_true, decide_eq_true_eq] at h8
      obtain ⟨rfl, g1, g2, g3⟩ := h8
      obtain ⟨g1, _⟩ := glB_ok g1
      have hm := (congrFun x.mg _).trans (o.bl _ (L.bl _ (blB_ok g2)))
      have hn := chk_nst g3
      have ha := chkEs_ok (b := b) o L Cs it sc X W _ x g3
      obtain ⟨ci, rfl, hc⟩ := allE_one ha
      have hs := allE_sl ha hn
      simp only [List.all_cons, Bool.and_eq_true] at hn
      exact si_enum (x.gl g1) hm hn.1 hs
    · cases h8
  · obtain ⟨ci, rfl, hc⟩ := allE_one (chkEs_ok o L Cs it sc X W _ x h8)
    exact si_keys hc
  · cases h8
/-- name = [..]: the block's list goes straight into the local -/
theorem s_setLc (o : p.Ok) (L : Link ck p) (Cs : CallsOk p k Φ) {sc : Sc} {X : Cx} {W : WX} (x : Cok p sc k X W) {i : Nat} {y : Str} {py spos : Pos} {c : C} {el : Expr} {gens : List Comprehension} {scope : Scope} {pos : Pos} (hi : X.N[i]? = some y)
    (hl : sc.names.lookup y = some .local) (hp : (py.line == pos.line) = true) (hn : (scope.names.any fun (n, k) => n == y && (k == .local || k == .cell)) = false) (h : chkE ck sc c (.ListComp el gens scope pos) = true) :
    PS X (.Assign [.Name y py] (.ListComp el gens scope pos) spos) (tS p.g b W (evS p.τ Φ b wf (.set (.var i) c))) := by
  cases c with
  | lc m t kd it ifs elt own =>
    unfold chkE at h
    split at h
    · rename_i el' tg iter ifs' scope' _ heq
      cases heq
      simp only [Bool.and_eq_true] at h
      obtain ⟨h1, h2, h3, h4, h5, h6, h7, h8⟩ := h
      have bk : ∀ (s : Shared) (H : Hp) (C : Addr) (cl : List (Str × Addr)) (fp : List Addr), Cok p (blkS sc scope) k (X.blk s H scope (compEnvC scope cl C X.env) fp) W0 := fun s H C cl fp => cok_blk x (blk_kind x h1) s H C cl fp
      obtain ⟨hI, _⟩ := chkI_ok (b := b) o L Cs x (kd := kd) (it := it) (iter := iter) (tg := tg) (by unfold chkI; rw [h3]; exact h8)
      obtain ⟨q1, q2⟩ := blkB_ok x h1
      have hl' : X.env.scope.names.lookup y = some .local := by rw [x.nm]; exact hl
      have hG : ∀ (s : Shared) (H : Hp) (C : Addr) (cl : List (Str × Addr)) (fp : List Addr), PG (X.blk s H scope (compEnvC scope cl C X.env) fp) tg (tG p.g b t) := fun s H C cl fp => chkT_ok (b := b) (bk s H C cl fp) t _ h4
      have hE : ∀ (s : Shared) (H : Hp) (C : Addr) (cl : List (Str × Addr)) (fp : List Addr), PE (X.blk s H scope (compEnvC scope cl C X.env) fp) el (tE p.g b W0 (evE p.τ Φ b elt)) := fun s H C cl fp => (chkE_ok o L Cs elt _ _ _ _ (bk s H C cl fp) h7).pe
      have hT : ∀ (s : Shared) (H : Hp) (C : Addr) (cl : List (Str × Addr)) (fp : List Addr), PTs (X.blk s H scope (compEnvC scope cl C X.env) fp) ifs' (tT p.g b W0 (evIfs p.τ Φ b ifs)) := fun s H C cl fp => by
        have ha := chkEs_ok (b := b) o L Cs ifs _ _ _ _ (bk s H C cl fp) h6
        split at h5
        · exact sps_nil
        · exact sps_one ha.1
        · cases h5
      refine ps_imp (ps_setLc x.calm x.nd hi hl' (sw_true x.fk hl' hp hn) hI q1 hG hT hE fun z => noSet_ok h3 _ z) fun D σ H q => ?_
      rw [q2]
      refine lc_reads (m := m) (Q := fun v H1 => gName i v σ H1 D.nx) (subB_ok h2) ?_
      obtain ⟨w, σp, rfl, R, l, kk⟩ := q
      rw [evS] at kk
      refine ⟨w, σp, rfl, R, l, (okS.step kk R l).imp fun v H1 ⟨w1, u, e1, L1, R1, d1, l1, k1⟩ => ?_⟩
      subst e1
      obtain ⟨σ1, e2, k2⟩ := Out.of_some k1
      unfold asg at e2
      split at e2
      · cases e2
        exact k2 w1 _ rfl (.refl _ _) R1 (l1.set d1)
      · cases e2
    · cases h
  | _ => unfold chkE at h; first | cases h | (split at h <;> first | cases h | (rename_i heq; cases heq))
theorem sw_none {tg v : Expr} {env : Env} (h : noTup v = true) : swappedStores [tg] v env = pure none := by
  cases v <;> first | (cases tg <;> rfl) | simp [noTup] at h
theorem sw_sole (t v : Expr) (l : Nat) (env : Env) : swapsWithSole [t] v l env = swapsWith v (some t) l env := rfl
theorem sw_sub {o i v : Expr} {q : Pos} {env : Env} : swappedStores [.Subscript o i q] v env = pure none := by
  cases v <;> rfl
theorem swB_no {sc : Sc} {X : Cx} {W : WX} (x : Cok p sc k X W) {y : Str} {py : Pos} {v : Expr} {l : Nat} (h : swB sc y py v = some false) : swapsWith v (some (.Name y py)) l X.env = pure false := by
  unfold swB at h
  split at h
  · rename_i el gens scope pos
    rw [Option.some.injEq] at h
    have hk : X.env.kindOf y = sc.names.lookup y := by unfold Env.kindOf; rw [x.nm]
    have hb : X.env.blockKind = .function := by unfold Env.blockKind; rw [x.fk]; rfl
    show (return X.env.blockKind == .function && X.env.kindOf y == some .local && py.line == pos.line && !(scope.names.any fun (n, k) => n == y && (k == .local || k == .cell)) : Sem Bool) = pure false
    rw [hb, hk]
    have e : ((match sc.names.lookup y with | some .local => true | _ => false) : Bool) = (sc.names.lookup y == some .local) := by
      cases sc.names.lookup y with
      | none => rfl
      | some q => cases q <;> rfl
    rw [e] at h
    show (pure (((ScopeKind.function == ScopeKind.function && (sc.names.lookup y == some .local)) && (py.line == pos.line)) && !(scope.names.any fun (n, k) => n == y && (k == .local || k == .cell))) : Sem Bool) = pure false
    have e2 : (ScopeKind.function == ScopeKind.function) = true := rfl
    rw [e2, Bool.true_and, Bool.and_assoc, h]
  · cases h
  · cases h
  · rename_i n1 n2 n3
    exact noLc_ok (by cases v <;> first | rfl | exact absurd rfl (n1 _ _ _ _) | exact absurd rfl (n2 _ _ _ _) | exact absurd rfl (n3 _ _ _ _ _)) _ _ _
theorem tyL_ok (o : p.Ok) (L : Link ck p) {sc : Sc} {X : Cx} {W : WX} (x : Cok p sc k X W) {cs : List Nat} {ty : Expr} (h : tyL ck sc cs ty = true) : Asks X ty (cs.map fun c => .ref (p.g.cls c)) := by
  have nm : ∀ {c : Nat} {y : Str}, (eqS (ck.cl[c]?).join y && glB sc y) = true → Names X y (.ref (p.g.cls c)) := fun {c y} h => by
    rw [Bool.and_eq_true] at h
    obtain ⟨g1, g2⟩ := glB_ok h.2
    exact ⟨x.gl g1, g2, .inl (by rw [x.mg]; exact o.cl _ _ (L.cl _ _ (eqS_ok h.1)))⟩
  unfold tyL at h
  split at h
  · exact asks_one (nm h)
  · rw [Bool.and_eq_true] at h
    exact asks_two (nm h.1) (nm h.2)
  · cases h
theorem Cok.tr {sc : Sc} {X : Cx} {W W' : WX} (x : Cok p sc k X W) {pn : List (Addr × Obj)} {xe : Value → Shared → Prop} (tk : Takes (X.tr pn xe) W') : Cok p sc k (X.tr pn xe) W' :=
  ⟨x.P, x.w, x.K, x.mg, x.base, x.N, x.nd, x.nm, x.fk, x.calm, x.room, tk, x.fn⟩
theorem Fok.tr {X : Cx} (f : Fok X) {pn : List (Addr × Obj)} {xe : Value → Shared → Prop} (pw : PassesOwn (model X.prog X.w) X.A X.env xe) : Fok (X.tr pn xe) := ⟨f.stack, f.frame, f.ex, pw⟩
mutual
theorem chkS_ok (o : p.Ok) (L : Link ck p) (Cs : CallsOk p (k + 2) Φ) (Xm : ∀ c f, p.τ.xat c = some f → XmOk p c f) : ∀ (s : S) (sc : Sc) (X : Cx) (W : WX) (st : Stmt), Cok p sc (k + 2) X W → Fok X → chkS ck sc s st = true → PS X st (tS p.g b W (evS p.τ Φ b wf s))
  | .set t c, sc, X, W, st, x, f, h => by
    unfold chkS at h
    split at h
    · rename_i tg v pos
      simp only [Bool.and_eq_true] at h
      obtain ⟨h1, h2, h3⟩ := h
      have ih := chkE_ok (b := b) o L Cs c sc X W v x h2
      split at h3
      · rename_i y py
        cases t with
        | var i =>
          unfold chkT at h1
          simp only [Bool.and_eq_true] at h1
          obtain ⟨g1, g2⟩ := h1
          obtain ⟨l1, l2⟩ := x.loc g2
          have hi : X.N[i]? = some y := by rw [x.N]; exact eqS_ok g1
          cases e : swB sc y py v with
          | none => rw [e] at h3; cases h3
          | some r =>
            cases r with
            | false => exact s_set x.nd hi l1 l2 (swB_no x e) ih
            | true =>
              unfold swB at e
              split at e
              · rename_i el gens scope pos'
                rw [Option.some.injEq] at e
                simp only [Bool.and_eq_true, Bool.not_eq_true'] at e
                obtain ⟨e1, e2, e3⟩ := e
                refine s_setLc o L Cs x hi ?_ e2 e3 h2
                split at e1
                · assumption
                · cases e1
              · cases e
              · cases e
              · cases e
        | tup _ => unfold chkT at h1; cases h1
        | star _ _ _ => unfold chkT at h1; cases h1
      · rw [Bool.and_eq_true] at h3
        exact s_setT rfl ((sw_sole _ _ _ _).trans (noLc_ok h3.1 _ _ _)) (sw_none h3.2) ih (chkT_ok x t _ h1)
      · cases h3
    · cases h
  | .setI co ci c, sc, X, W, st, x, f, h => by
    unfold chkS at h
    split at h
    · simp only [Bool.and_eq_true] at h
      obtain ⟨h1, h2, h3, h4, h5⟩ := h
      exact s_setI x.hu h1 h2 sw_sub (chkE_ok o L Cs co sc X W _ x h3) (chkE_ok o L Cs ci sc X W _ x h4) (chkE_ok o L Cs c sc X W _ x h5)
    · cases h
  | .expr c, sc, X, W, st, x, f, h => by
    unfold chkS at h
    split at h
    · rw [Bool.and_eq_true] at h
      exact s_expr h.1 (chkE_ok o L Cs c sc X W _ x h.2)
    · cases h
  | .ret c, sc, X, W, st, x, f, h => by
    unfold chkS at h
    split at h
    · exact s_ret (chkE_ok o L Cs c sc X W _ x h)
    · cases h
  | .retN, sc, X, W, st, x, f, h => by
    unfold chkS at h
    split at h
    · exact s_retN
    · cases h
  | .pass, sc, X, W, st, x, f, h => by
    unfold chkS at h
    split at h
    · exact s_pass
    · exact s_doc
    · cases h
  | .iff c a d, sc, X, W, st, x, f, h => by
    unfold chkS at h
    split at h
    · simp only [Bool.and_eq_true] at h
      obtain ⟨h1, h2, h3⟩ := h
      exact s_if (chkE_ok o L Cs c sc X W _ x h1) (chkSs_ok o L Cs Xm a sc X W _ x f h2) (chkSs_ok o L Cs Xm d sc X W _ x f h3)
    · cases h
  | .for t kd it ss, sc, X, W, st, x, f, h => by
    unfold chkS at h
    split at h
    · simp only [Bool.and_eq_true] at h
      obtain ⟨h1, h2, h3⟩ := h
      obtain ⟨i1, i2⟩ := chkI_ok (b := b) o L Cs x h1
      exact s_for f.pw x.calm i1 (chkT_ok x t _ h2) (chkSs_ok o L Cs Xm ss sc X W _ x f h3) fun z => noSet_ok i2 _ z
    · cases h
  | .whil c ss, sc, X, W, st, x, f, h => by
    unfold chkS at h
    split at h
    · rw [Bool.and_eq_true] at h
      exact s_while f.pw (chkE_ok o L Cs c sc X W _ x h.1) (chkSs_ok o L Cs Xm ss sc X W _ x f h.2)
    · cases h
  | .raise c cs, sc, X, W, st, x, f, h => by
    unfold chkS at h
    split at h
    · simp only [Bool.and_eq_true] at h
      obtain ⟨h1, h2, h3⟩ := h
      obtain ⟨g1, g2⟩ := glB_ok h2
      have hn := chk_nst h3
      have hs := allE_sl (b := b) (chkEs_ok o L Cs cs sc X W _ x h3) hn
      simp only [List.all_cons, Bool.and_eq_true] at hn
      cases e : p.τ.xat c with
      | none =>
        refine ps_imp ps_never fun D σ H q => ?_
        obtain ⟨w, σp, rfl, R, l, kk⟩ := q
        rw [evS, e] at kk
        exact kk
      | some fa => exact s_raise o x (Xm c fa e) e (L.cl _ _ (eqS_ok h1)) g1 g2 hn.1 hs
    · cases h
  | .nev, sc, X, W, st, x, f, h => by
    refine ps_imp ps_never fun D σ H q => ?_
    obtain ⟨w, σp, rfl, R, l, kk⟩ := q
    rw [evS] at kk
    exact kk
  | .try ss hs, sc, X, W, st, x, f, h => by
    unfold chkS at h
    split at h
    · rw [Bool.and_eq_true] at h
      obtain ⟨h1, h2⟩ := h
      split at h2
      · simp only [Bool.and_eq_true] at h2
        obtain ⟨⟨h3, h4, h5⟩, ⟨h6, h7⟩, h8, h9, h10, h11⟩ := h2
        obtain ⟨l1, l2⟩ := x.loc h7
        refine s_tryK o x f.stack f.frame f.ex (by rw [x.N]; exact eqS_ok h3) (by split at h4 <;> first | assumption | cases h4) (tyL_ok o L x h5) (fun W' pn xe tk pw => chkSs_ok o L Cs Xm ss sc _ W' _ (x.tr tk) (f.tr pw) h1) fun a pn => ?_
        have hx : Vis (X.suite a pn).env.scope _ := x.vis (visB_ok h9)
        exact ss_cons (s_set (X := X.suite a pn) x.nd (by show X.N[_]? = _; rw [x.N]; exact eqS_ok h6) l1 l2 rfl (se_var (X := X.suite a pn) x.K.symm (by show X.N[_]? = _; rw [x.N]; exact eqS_ok h8) hx (by simpa using h10) (by simpa using h11))) ss_nil
      · cases h2
    · cases h
  | .par _ _ _ _, sc, X, W, st, x, f, h => by unfold chkS at h; cases h
  | .setA _ _ _, sc, X, W, st, x, f, h => by unfold chkS at h; cases h
  | .aug _ _ _, sc, X, W, st, x, f, h => by unfold chkS at h; cases h
  | .augA _ _ _ _, sc, X, W, st, x, f, h => by unfold chkS at h; cases h
  | .frz _, sc, X, W, st, x, f, h => by unfold chkS at h; cases h
theorem chkSs_ok (o : p.Ok) (L : Link ck p) (Cs : CallsOk p (k + 2) Φ) (Xm : ∀ c f, p.τ.xat c = some f → XmOk p c f) : ∀ (ss : List S) (sc : Sc) (X : Cx) (W : WX) (sts : List Stmt), Cok p sc (k + 2) X W → Fok X → chkSs ck sc ss sts = true → PSs X sts (tS p.g b W (evSs p.τ Φ b wf ss))
  | [], sc, X, W, sts, x, f, h => by
    unfold chkSs at h
    rw [List.isEmpty_iff] at h
    subst h
    exact ss_nil
  | s :: ss, sc, X, W, sts, x, f, h => by
    unfold chkSs at h
    split at h
    · exact ss_frz (chkSs_ok o L Cs Xm ss sc X W sts x f h)
    · cases sts with
      | nil => cases h
      | cons st sts =>
        rw [Bool.and_eq_true] at h
        exact ss_cons (chkS_ok o L Cs Xm s sc X W st x f h.1) (chkSs_ok o L Cs Xm ss sc X W sts x f h.2)
end
end
end Ev


set_option Elab.async false
set_option linter.all false
set_option maxRecDepth 100000
set_option maxHeartbeats 8000000
/-! Defs by their terms; the law's end. -/
namespace Ev
open PySem L2
section
variable {p : Pg} {ck : Ck} {k wf : Nat} {Φ : Calls}
theorem okS_fin {g : Gx} {b : Nat} {E : XK} {w : Wd} {o : Out} {Q : VK} (h : okC g b E w o.fin Q) : okS g b (fun cls d _ H => E cls d H) w o { nx := fun _ H' => Q .non H', rt := Q, bk := fun _ _ => False, ct := fun _ _ => False } := by
  cases o with
  | nx σ μ => exact fun w' σ' e L R l => h w' .non e L R (by simp only [Den])
  | ret v μ => exact fun w' x e L R d => h w' x e L R d
  | exc e σ μ => exact fun w' σ' c d e1 L R l q => h w' c d e1 L R q
  | err => exact h.elim
theorem start_rel {g : Gx} {w : Wd} {args : List PV} {vs : List V} {N : List Str} {ns ps : Nat} (d : Dens g w args vs) (hn : ns = N.length) (hp : args.length = ps) : RelL g w (args.map some ++ List.replicate (ns - ps) none) (L2.start N vs) := by
  have hl := d.length
  subst hn hp
  refine ⟨by simp [L2.start, hl], fun i v e => ?_⟩
  by_cases hi : i < args.length
  · rw [List.getElem?_append_left (by simpa using hi)] at e
    rw [List.getElem?_map, Option.map_eq_some_iff] at e
    obtain ⟨u, e1, e2⟩ := e
    cases e2
    obtain ⟨x, e3, e4⟩ := d.get e1
    refine ⟨x, ?_, e4⟩
    unfold L2.start
    rw [List.getElem?_append_left (by rw [List.length_map]; omega), List.getElem?_map, e3]
    rfl
  · rw [List.getElem?_append_right (by simpa using hi)] at e
    have := List.mem_of_getElem? e
    rw [List.mem_replicate] at this
    cases this.2
/-- a def whose term is checked keeps its promise -/
theorem fng_chk (o : p.Ok) (L : Link ck p) (Cs : CallsOk p (k + 2) Φ) (Xm : ∀ c f, p.τ.xat c = some f → XmOk p c f) {x qual : Str} {params : Arguments} {body : List Stmt} {scope : Scope} {dvs : List V} {kws : List (Str × V)} {f : Addr} {fd : FuncData} {N ps : List Str} {fn : Fn}
    (F : FunD p.g.K x qual params body scope dvs kws f fd) (S : FnScope N ps scope) (hps : fn.ps = ps.length) (hns : fn.ns = N.length) (hc : chkSs ck ⟨N, scope.names, fun _ => true⟩ fn.body body = true) :
    FnG p.P p.w p.g.K p.mg p.base (L2.CX p.P p.w) (k + 3) f fd ps (spF p.g fun vs b μ => runFn p.τ Φ wf fn vs b μ) := by
  obtain ⟨oc, od, dV, kV, doc, pm, an, cdv, ct, osl, rfl, lk, hcd, _, _⟩ := F.ex
  refine fng_of lk hcd S (fun vs H Q E h => ?_) fun A outer s H vs Q E room h => ?_
  · obtain ⟨w, args, b, _, _, d, h⟩ := h
    unfold runFn at h
    dsimp only at h
    split at h
    · rename_i e
      rw [← d.length, e, hps]
    · exact h.elim
  · obtain ⟨w, args, b, rfl, R, d, h⟩ := h
    unfold runFn at h
    dsimp only at h
    split at h
    · rename_i e
      have tk : Takes (cxOf (L2.CX p.P p.w) p.P p.w p.g.K p.mg p.base N qual scope f cdv A outer s w.H E) (fun cls d _ H => E cls d H) := takes_of rfl rfl rfl rfl
      have cok : Cok p ⟨N, scope.names, fun _ => true⟩ (k + 2) (cxOf (L2.CX p.P p.w) p.P p.w p.g.K p.mg p.base N qual scope f cdv A outer s w.H E) (fun cls d _ H => E cls d H) :=
        ⟨rfl, rfl, rfl, rfl, rfl, rfl, S.nd, rfl, S.kind, rfl, room, tk, fun _ _ => rfl⟩
      have fok : Fok (cxOf (L2.CX p.P p.w) p.P p.w p.g.K p.mg p.base N qual scope f cdv A outer s w.H E) := ⟨rfl, rfl, rfl, passes_of rfl⟩
      refine ⟨_, chkSs_ok (b := b) (wf := wf) o L Cs Xm fn.body _ _ _ body cok fok hc, w, _, rfl, R, start_rel d hns (by rw [e]), ?_⟩
      exact okS.imp (okS_fin h) (fun _ _ q => q) fun _ _ q => q
    · exact h.elim
/-- all the defs of the program, by numbers -/
structure Dfs (p : Pg) (ck : Ck) (Δ : Nat → Option Fn) : Prop where
  at_ : ∀ f i fn, p.fn f = some i → Δ f = some fn → ∃ (x qual : Str) (params : Arguments) (body : List Stmt) (scope : Scope) (dvs : List V) (kws : List (Str × V)) (N : List Str),
    FunD p.g.K x qual params body scope dvs kws i.adr i.fd ∧ FnScope N i.ps scope ∧ fn.ps = i.ps.length ∧ fn.ns = N.length ∧ chkSs ck ⟨N, scope.names, fun _ => true⟩ fn.body body = true
theorem spF_err {g : Gx} {vs : List V} {H : Hp} {Q : VK} {E : XK} (h : spF g (fun _ _ _ => .err) vs H Q E) : False := by
  obtain ⟨w, args, b, _, _, _, h⟩ := h
  exact h
/-- the calls to any depth keep their promises -/
theorem calls_ok (o : p.Ok) (L : Link ck p) (Xm : ∀ c f, p.τ.xat c = some f → XmOk p c f) {Δ : Nat → Option Fn} (D : Dfs p ck Δ) : ∀ n : Nat, CallsOk p (n + 2) (callN p.τ Δ wf n)
  | 0 => fun f i e => ⟨fun vs H Q E h => (spF_err h).elim, fun A outer s H args us vs Q E room e0 hb hv h => (spF_err h).elim⟩
  | n + 1 => fun f i e => by
    cases ed : Δ f with
    | none =>
      have eq : callN p.τ Δ wf (n + 1) f = fun _ _ _ => .err := by
        funext vs b μ
        show (match Δ f with | some fn => runFn p.τ (callN p.τ Δ wf n) wf fn vs b μ | none => .err) = _
        rw [ed]
      rw [eq]
      exact ⟨fun vs H Q E h => (spF_err h).elim, fun A outer s H args us vs Q E room e0 hb hv h => (spF_err h).elim⟩
    | some fn =>
      have eq : callN p.τ Δ wf (n + 1) f = fun vs b μ => runFn p.τ (callN p.τ Δ wf n) wf fn vs b μ := by
        funext vs b μ
        show (match Δ f with | some fn => runFn p.τ (callN p.τ Δ wf n) wf fn vs b μ | none => .err) = _
        rw [ed]
      rw [eq]
      obtain ⟨x, qual, params, body, scope, dvs, kws, N, F, S, h1, h2, h3⟩ := D.at_ f i fn e ed
      exact fng_chk o L (calls_ok o L Xm D n) Xm F S h1 h2 h3
end
end Ev
namespace Ev
open PySem PySem.Spec PyProof.Rows L2
/-! ### the law's end -/
section
variable {P : Program} {w : World} {K : PySem.W.Frag} {mg mb : Str → Option Value} {k : Nat} {fa a : Addr} {fd : FuncData} {x : Str} {sp : Sp} {s1 : Shared} {vs : List Value} {ns : List Int}
theorem law_callG (kin : K.In s1.heap) (glob : s1.heap.Ns mainGlobals mg) (blt : s1.heap.Ns builtinsNs mb) (boot : ∀ y : Str, y ≠ "__name__" → mb y = bootBuiltins y) (nolim : s1.heap.NoLimit) (gens : s1.gens = #[])
    (ha : s1.heap.get? a = some { cls := .type "list", data := .seq vs.toArray }) (ints' : IntsAre vs ns) (hz : ns.length ≤ sizeLine) (room : GRoom k callerA)
    (F : ∀ base : Heap, K.In base → base.Ns mainGlobals mg → FnG P w K mg base (L2.CX P w) k fa fd [x] sp) (bind : ∀ (s : Shared) (u : Value), BindsTo s fd ⟨[u], []⟩ [(x, u)])
    (hsp : ∀ H : Hp, Only H → SqL K H a (ns.map V.int) → sp [.ref a] H (fun v _ => v = .bl true) fun _ _ _ => False) :
    codeAny (model P w) callerA (.call (.ref fa) ⟨[.ref a], []⟩) (fun r s' => r = .ok (.ret (.bool true)) ∧ OldK s1.heap s'.heap ∧ s'.os = s1.os ∧ AllBare s'.gens) s1 := by
  have vv := vals_ints ints'
  have lv := ints'.length
  have main : ∀ T : Hp, Only T → SqL K T a (ns.map V.int) → HOk P w T s1.heap → (∀ c, T c ≠ none → c = a) → (T a ≠ none → K.lookup a = none) →
      codeAny (model P w) callerA (.call (.ref fa) ⟨[.ref a], []⟩) (fun r s' => r = .ok (.ret (.bool true)) ∧ OldK s1.heap s'.heap ∧ s'.os = s1.os ∧ AllBare s'.gens) s1 := by
    intro T only sq okT one out
    have low : ∀ {c : Addr} {o : Obj}, s1.heap.get? c = some o → T c = none → (hidT s1.heap T).get? c = some o := fun e q => hidT_get e q
    have free : ∀ {c : Addr} {o : Obj} {es : Array DictEntry} {n : Nat}, s1.heap.get? c = some o → o.data = .dict es n → T c = none := fun {c o es n} e q => by
      cases z : T c with
      | none => rfl
      | some u =>
        have := one c (by rw [z]; simp)
        subst this
        rw [ha] at e
        cases e
        cases q
    have low2 : ∀ {c : Addr} {m : Str → Option Value}, s1.heap.Ns c m → (hidT s1.heap T).Ns c m := fun {c m} h => by
      obtain ⟨o, es, n, e, q, r⟩ := h
      exact ⟨o, es, n, low e (free e q), q, r⟩
    have kb : K.In (hidT s1.heap T) := fun c o e => by
      refine low (kin c o e) ?_
      cases z : T c with
      | none => rfl
      | some u =>
        have := one c (by rw [z]; simp)
        subst this
        rw [out (by rw [z]; simp)] at e
        cases e
    obtain ⟨mc, lim1, lim2⟩ := nolim
    have md : Mod K mg (hidT s1.heap T) := ⟨kb, low2 glob, ⟨mb, low2 blt, boot⟩, ⟨mc, low2 lim1, lim2⟩⟩
    have env0 : Env0 P w K mg (hidT s1.heap T) callerA [] s1 T := by
      refine ⟨rfl, md, fun c o e => of_hidT e, Nat.le_of_eq (hidT_size _ _), trivial, fun c hc => ?_, okT, .of_eq gens⟩
      cases (show c ∈ ([] : List Addr) from hc)
    refine codeAny_mono ((F _ kb (low2 glob)).go callerA [] s1 T ⟨[.ref a], []⟩ [.ref a] [.ref a] _ _ room env0 (bind s1 (.ref a)) (.cons rfl .nil) (hsp T only sq)) fun r s' q => ?_
    cases r with
    | error e =>
      obtain ⟨_, _, _, _, _, _, _, _, _, _, _, _, z⟩ := q
      exact z.elim
    | ok fl =>
      cases fl with
      | ret u =>
        obtain ⟨v, T', os, bare, un, ok', rv, qv⟩ := q
        have qv : v = .bl true := qv
        subst qv
        cases rv
        refine ⟨rfl, OldK.of_keep fun c o e => ?_, os, bare⟩
        rcases only c with z | ⟨ob, xs, z⟩
        · exact un.keep c o e z (fun z => by cases (show c ∈ ([] : List Addr) from z)) (by simp)
        · obtain ⟨e1, _⟩ := okT c _ z
          obtain ⟨e2, _⟩ := ok' c _ (un.frzs c ob _ z)
          rw [e] at e1
          cases e1
          exact e2
      | next => exact q.elim
      | brk => exact q.elim
      | cont => exact q.elim
  cases hk : K.lookup a with
  | some o =>
    have e := kin a o hk
    rw [ha] at e
    cases e
    refine main (fun _ => none) (fun _ => .inl rfl) ?_ (fun c u z => by cases (show (none : Option HO) = some u from z)) (fun c z => absurd rfl z) fun z => absurd rfl z
    exact .inr ⟨_, vs.toArray, _, hk, rfl, rfl, rfl, by rw [List.size_toArray, lv]; exact hz, by simpa using vv⟩
  | none =>
    have at1 : ∀ c, c = a → (if c = a then some (HO.frz { cls := .type "list", data := .seq vs.toArray } (.lst (ns.map V.int))) else none) = some (HO.frz { cls := .type "list", data := .seq vs.toArray } (.lst (ns.map V.int))) := fun c h => if_pos h
    refine main (fun c => if c = a then some (.frz { cls := .type "list", data := .seq vs.toArray } (.lst (ns.map V.int))) else none) (fun c => ?_) (.inl (.inr ⟨_, if_pos rfl⟩)) (fun c u z => ?_) (fun c z => ?_) fun _ => hk
    · by_cases hc : c = a
      · exact .inr ⟨_, _, if_pos hc⟩
      · exact .inl (if_neg hc)
    · by_cases hc : c = a
      · have q := (at1 c hc).symm.trans z
        cases q
        subst hc
        exact ⟨ha, by rw [List.length_map]; exact hz, vs, _, vv, ha⟩
      · cases (if_neg hc).symm.trans z
    · by_cases hc : c = a
      · exact hc
      · exact absurd (if_neg hc) z
end
/-- the end of a law whose defs are terms -/
theorem walk_ofG {l : PySem.W.OpenLaw} {n k : Nat} {q : Program} {loose : List Str} {XP : (Str → Option Value) → Heap → Prop} {YP : World → Heap → Prop} {d : DefRec} {x : Str}
    (hn : l.most = some n) (hn2 : n ≤ sizeLine) (hdf : d.params.defaults = []) (room : GRoom k callerA)
    (F : ∀ (w : World) (mg : Str → Option Value) (fa : Addr) (h : Heap), YP w h → h.Ns mainGlobals mg → mg d.name = some (.ref fa) →
      ∃ (K : PySem.W.Frag) (fd : FuncData) (sp : Sp), K.In h ∧ (∀ (s : Shared) (u : Value), BindsTo s fd ⟨[u], []⟩ [(x, u)]) ∧
        (∀ (H : Hp) (a : Addr) (ns : List Int), ns.length ≤ n → Only H → SqL K H a (ns.map V.int) → sp [.ref a] H (fun v _ => v = .bl true) fun _ _ _ => False) ∧
        ∀ base : Heap, K.In base → base.Ns mainGlobals mg → FnG l.prog w K mg base (L2.CX l.prog w) k fa fd [x] sp) :
    PySem.W.WalkO q loose XP YP l.row.toRowW d [] (fun f vs => PySem.call f vs) := by
  refine Att.attach_call hn hdf fun w s0 s1 mg mb fa o pm cd doc a vs ns G Y ho hd hcd hmg hobj hi hlen hg => ?_
  obtain ⟨K, fd, sp, KX, hb, hsp, hF⟩ := F w mg fa _ Y G.T.g hmg
  exact law_callG KX G.T.g G.T.b G.T.builtins G.T.nolimit hg hobj hi (Nat.le_trans hlen hn2) room hF hb fun H hO hS => hsp H a ns hlen hO hS
end Ev


set_option Elab.async false
set_option linter.all false
set_option maxRecDepth 100000
set_option maxHeartbeats 4000000
/-! Facts of the written part, by checks. -/
namespace Ev
open PySem PySem.Spec PyProof.Rows L2 He
/-! ### tables of ints -/
theorem nsIn_not {K : PySem.W.Frag} {P : Params} {a : Addr} {ks : List Str} (h : dicW K a = some (keysIn P ks)) {z : Str} (hz : z ∉ ks) : PySem.W.nsIn K a z = some none := by
  unfold dicW at h
  unfold PySem.W.nsIn
  cases q : K.lookup a with
  | none => rw [q] at h; cases h
  | some o =>
    obtain ⟨oc, od, dt, osl⟩ := o
    rw [q] at h
    cases oc with
    | type c =>
      cases od with
      | some b => cases dt <;> cases h
      | none =>
        cases dt with
        | dict es n =>
          have h1 : (match decide (c = "dict") && (osl.isEmpty && !(a == sysModules)) with
            | true => some (es.toList.map keyOf)
            | false => none) = some (keysIn P ks) := h
          cases y : decide (c = "dict") && (osl.isEmpty && !(a == sysModules)) with
          | false => rw [y] at h1; cases h1
          | true =>
            rw [y] at h1
            have h2 := Option.some.inj h1
            have key : ∀ (l : List DictEntry) (ks : List Str), l.map keyOf = keysIn P ks → z ∉ ks → l.find? (·.key.isStr z) = none ∧ l.any (·.refKey) = false := by
              intro l
              induction l with
              | nil => intro ks _ _; exact ⟨rfl, rfl⟩
              | cons e r ih =>
                intro ks hk hz
                cases ks with
                | nil => cases hk
                | cons k ks =>
                  have hk : keyOf e :: r.map keyOf = some (k, PyData.keyHash P k) :: keysIn P ks := hk
                  injection hk with k1 k2
                  simp only [List.mem_cons, not_or] at hz
                  obtain ⟨i1, i2⟩ := ih ks k2 hz.2
                  unfold keyOf at k1
                  split at k1
                  · rename_i x t q
                    have e1 : x = k := (Prod.mk.inj (Option.some.inj k1)).1
                    subst e1
                    refine ⟨?_, ?_⟩
                    · rw [List.find?_cons_of_neg]
                      · exact i1
                      · rw [q]
                        simp only [Value.isStr]
                        simpa using fun z' => hz.1 (by first | exact z' | exact z'.symm)
                    · simp only [List.any_cons, i2, Bool.or_false]
                      unfold DictEntry.refKey
                      rw [q]
                  · cases k1
            obtain ⟨k1, k2⟩ := key es.toList ks h2 hz
            show (match es.toList.find? (·.key.isStr z) with
              | some e => some (some e.val)
              | none => if es.toList.any (·.refKey) then none else some none) = _
            rw [k1, k2]
            rfl
        | _ => cases h
    | _ => cases od <;> cases dt <;> cases h
theorem lookI {z : Str} : ∀ {kvs : List (Str × Int)} {v : PV}, lookP (kvs.map fun q => .str q.1) (kvs.map fun q => .int q.2) (.str z) = some v → ∃ q ∈ kvs, q.1 = z ∧ v = .int q.2
  | [], v, h => by simp [lookP] at h
  | q :: kvs, v, h => by
    simp only [List.map_cons, lookP] at h
    split at h
    · rename_i e
      cases h
      exact ⟨q, by simp, of_decide_eq_true e, rfl⟩
    · obtain ⟨q', h1, h2⟩ := lookI h
      exact ⟨q', by simp [h1], h2⟩
theorem hasI {z : Str} : ∀ {kvs : List (Str × Int)}, hasP (kvs.map fun q => .str q.1) (.str z) = true ↔ z ∈ kvs.map (·.1)
  | [] => by simp [hasP]
  | q :: kvs => by
    have ih := hasI (z := z) (kvs := kvs)
    simp only [List.map_cons, hasP, Bool.or_eq_true, ih, List.mem_cons, PV.keq, decide_eq_true_eq]
    constructor
    · rintro (h | h)
      · exact .inl h.symm
      · exact .inr h
    · rintro (h | h)
      · exact .inl h.symm
      · exact .inr h
theorem gdI {g : Gx} {w : World} {a : Addr} (kvs : List (Str × Int)) (h1 : dicW g.K a = some (keysIn w.params (kvs.map (·.1)))) (h2 : valsB g.K a (kvs.map fun q => (q.1, .int q.2)) = true) :
    (∃ es n, KDict g.K w a es n) ∧ ∀ z : Str, ∃ r, PySem.W.nsIn g.K a z = some r ∧ hasP (kvs.map fun q => .str q.1) (.str z) = r.isSome ∧
      ∀ v, lookP (kvs.map fun q => .str q.1) (kvs.map fun q => .int q.2) (.str z) = some v → ∃ u y, r = some u ∧ RelV y u ∧ ∀ wd : Wd, Den g wd v y := by
  refine ⟨dicW_ok h1, fun z => ?_⟩
  by_cases hz : z ∈ kvs.map (·.1)
  · obtain ⟨q, hq, rfl⟩ := List.mem_map.mp hz
    obtain ⟨u, e1, e2⟩ := valsB_ok h2 (q := (q.1, .int q.2)) (List.mem_map.mpr ⟨q, hq, rfl⟩)
    refine ⟨some u, e1, hasI.mpr hz, fun v hv => ?_⟩
    obtain ⟨q', hq', e3, rfl⟩ := lookI hv
    obtain ⟨u', e4, e5⟩ := valsB_ok h2 (q := (q'.1, .int q'.2)) (List.mem_map.mpr ⟨q', hq', rfl⟩)
    rw [e3] at e4
    have e4 : PySem.W.nsIn g.K a q.1 = some (some u') := e4
    rw [e1] at e4
    cases e4
    exact ⟨u, .int q'.2, rfl, e5, fun wd => by simp only [Den]⟩
  · refine ⟨none, nsIn_not h1 hz, ?_, fun v hv => ?_⟩
    · cases q : hasP (kvs.map fun q => .str q.1) (.str z) with
      | false => rfl
      | true => exact absurd (hasI.mp q) hz
    · obtain ⟨q, hq, rfl, _⟩ := lookI hv
      exact absurd (List.mem_map.mpr ⟨q, hq, rfl⟩) hz
/-! ### exception classes -/
def excNames : List String := ["NoneType", "int", "bool", "str", "tuple", "list", "dict"]
/-- what an exception class over ValueError must say -/
def excB (K : PySem.W.Frag) (C : Addr) (f : Str) : Bool :=
  (xfB K C && (eqO (PySem.W.findIn K (.ref C) "__class__") (some (some (.builtin "object.__class__"))) && (eqO (PySem.W.specialIn K (.builtin "object.__class__") "__get__") (some (some (.builtin "getset_descriptor.__get__"))) &&
    (decide (PySem.W.takesIn K (.builtin "object.__class__") = some true) && decide (PySem.W.mroIn K C (.type "object") = some true))))) &&
  ((match K.lookup C with
    | some ⟨.type t, _, .cls cd, sl⟩ => (match cd.mro, sl.toList with
      | .ref C' :: bm, [_, _, _, _, some (.builtin n), _] => decide (t = "type") && (decide (C' = C) && (decide (n = "ValueError.__new__") && (!cd.hasDel && (cd.hasDict && HandSPX.refsVE bm))))
      | _, _ => false)
    | _ => false) &&
  ((eqO (PySem.W.findIn K (.ref C) "__setattr__") (some (some (.builtin "object.__setattr__"))) && (decide (PySem.W.typeIn K (.ref C) = some (.type "type")) && PySem.W.keepIn K (.ref C))) &&
  ((eqO (PySem.W.findIn K (.ref C) f) (some none) && decide (PySem.W.kitOne K (.ref C) (.type "ValueError") = some true)) && excNames.all fun n => decide (PySem.W.kitOne K (.type n) (.ref C) = some false))))
structure ExcF (K : PySem.W.Frag) (C : Addr) (f : Str) : Prop where
  c : ExcC K C
  x : XfC K C
  o : OexC K C
  no : NoAttr K C f
  ve : PySem.W.kitOne K (.ref C) (.type "ValueError") = some true
  bc : ∀ n ∈ excNames, PySem.W.kitOne K (.type n) (.ref C) = some false
theorem excB_ok {K : PySem.W.Frag} {C : Addr} {f : Str} (h : excB K C f = true) : ExcF K C f := by
  unfold excB at h
  simp only [Bool.and_eq_true, List.all_eq_true, decide_eq_true_eq] at h
  obtain ⟨⟨h1, h2, h3, h4, h5⟩, h6, ⟨h7, h8, h9⟩, ⟨h10, h11⟩, h12⟩ := h
  have x := xfB_ok h1
  refine ⟨⟨x.ga, x.gg, x.exC, x.hdC, eqO_ok h2, eqO_ok h3, h4, h5⟩, x, ⟨?_, eqO_ok h7, x.exC, h8, h9⟩, eqO_ok h10, h11, h12⟩
  split at h6
  · rename_i t dd cd sl ho
    split at h6
    · rename_i C' bm k0 k1 k2 k3 n k5 hm hs
      simp only [Bool.and_eq_true, Bool.not_eq_true', decide_eq_true_eq] at h6
      obtain ⟨rfl, rfl, rfl, hdel, hdict, hbm⟩ := h6
      obtain ⟨nm, bs, mro, ns, qn, hd, sn, sub, ab, col, del⟩ := cd
      dsimp only at hm hdel hdict
      subst hm hdel hdict
      have hsl : sl = #[k0, k1, k2, k3, some (.builtin "ValueError.__new__"), k5] := by
        obtain ⟨l⟩ := sl
        simp only at hs
        rw [hs]
      subst hsl
      exact ⟨nm, qn, ns, bs, bm, sn, sub, ab, col, dd, k0, k1, k2, k3, k5, ho, hbm⟩
    · cases h6
  · cases h6
/-- all the exception classes of a program: name, attribute -/
def excsB (K : PySem.W.Frag) (xs : List (Str × Str)) : Bool :=
  (match K.lookup sysModules with
    | some o => decide (o.cls = .type "dict")
    | none => false) &&
  ((match PySem.W.findCls K (.type "ValueError") (.type "type") "__init__" with
    | some (.val (.builtin s)) => decide (s = "ValueError.__init__")
    | _ => false) &&
  (xs.all fun q => excB K (ga K q.1) q.2 && (eqO (PySem.W.findIn K (.ref (ga K q.1)) "__init__") (some (some (.ref (fAd K (q.1, some "__init__"))))) && (decide (PySem.W.typeIn K (.ref (fAd K (q.1, some "__init__"))) = some (.type "function")) &&
    (xs.all fun r => decide (PySem.W.kitOne K (.ref (ga K q.1)) (.ref (ga K r.1)) = some (decide (q.1 = r.1))) && (decide (PySem.W.exmOne K (.ref (ga K q.1)) (.ref (ga K r.1)) = some (decide (q.1 = r.1))) && eqO (PySem.W.findIn K (.ref (ga K q.1)) r.2) (some none)))))))
theorem excsB_sys {K : PySem.W.Frag} {xs : List (Str × Str)} (h : excsB K xs = true) : Sysd K := by
  unfold excsB at h
  rw [Bool.and_eq_true] at h
  have := h.1
  split at this
  · rename_i o e
    exact ⟨o, e, of_decide_eq_true this⟩
  · cases this
theorem excsB_ve {K : PySem.W.Frag} {xs : List (Str × Str)} (h : excsB K xs = true) : PySem.W.findCls K (.type "ValueError") (.type "type") "__init__" = some (.val (.builtin "ValueError.__init__")) := by
  unfold excsB at h
  simp only [Bool.and_eq_true] at h
  have := h.2.1
  split at this
  · rename_i s e
    rw [of_decide_eq_true this] at e
    exact e
  · cases this
theorem excsB_at {K : PySem.W.Frag} {xs : List (Str × Str)} (h : excsB K xs = true) {q : Str × Str} (hq : q ∈ xs) : ExcF K (ga K q.1) q.2 ∧ PySem.W.findIn K (.ref (ga K q.1)) "__init__" = some (some (.ref (fAd K (q.1, some "__init__")))) ∧ PySem.W.typeIn K (.ref (fAd K (q.1, some "__init__"))) = some (.type "function") ∧
    ∀ r ∈ xs, PySem.W.kitOne K (.ref (ga K q.1)) (.ref (ga K r.1)) = some (decide (q.1 = r.1)) ∧ PySem.W.exmOne K (.ref (ga K q.1)) (.ref (ga K r.1)) = some (decide (q.1 = r.1)) ∧ PySem.W.findIn K (.ref (ga K q.1)) r.2 = some none := by
  unfold excsB at h
  simp only [Bool.and_eq_true, List.all_eq_true] at h
  obtain ⟨h1, h2, h3, h4⟩ := h.2.2 q hq
  refine ⟨excB_ok h1, eqO_ok h2, of_decide_eq_true h3, fun r hr => ?_⟩
  obtain ⟨h5, h6, h7⟩ := h4 r hr
  exact ⟨of_decide_eq_true h5, of_decide_eq_true h6, eqO_ok h7⟩
/-! ### the hook: all that the top has made -/
def asX (b m : Nat) : List Addr := mainGlobals :: sysModules :: (List.range m).map (fun i => i + b)
abbrev AlX : Type := (Bool × List FnW) × List (Option (List (Option (Str × Int))))
def obsX (fa : List Fa) (fn : List DefD) (xt : PySem.W.Frag → Bool) (ts : List He.Tab) (K : PySem.W.Frag) : AlX := ((xt K && ((fa.all fun f => f.ok K) && fn.all fun d => d.ok K), fn.map fun d => fnW K d.at_), ts.map fun t => dicW K (t.1 K))
def valX (fn : List DefD) (ts : List He.Tab) (w : World) : AlX := ((true, fn.map DefD.val), ts.map fun t => some (keysIn w.params t.2))
def obsXG (b m : Nat) (fa : List Fa) (fn : List DefD) (xt : PySem.W.Frag → Bool) (ts : List He.Tab) (g : Addr → Option Obj) : AlX := obsX fa fn xt ts (frG g (asX b m))
def SaysX (fa : List Fa) (fn : List DefD) (xt : PySem.W.Frag → Bool) (ts : List He.Tab) (w : World) (K : PySem.W.Frag) : Prop := obsX fa fn xt ts K = valX fn ts w
def hookX (b m : Nat) (fa : List Fa) (fn : List DefD) (xt : PySem.W.Frag → Bool) (ts : List He.Tab) : PySem.W.Hook where
  α := AlX
  obs := fun s => obsXG b m fa fn xt ts s.heap.get?
  val := fun w => valX fn ts w
  says := fun w h => ∃ K : PySem.W.Frag, K.In h ∧ SaysX fa fn xt ts w K
  of := fun _ _ e => ⟨_, frG_in, e⟩
  keeps := fun _ _ _ h k => let ⟨K, hK, c⟩ := h; ⟨K, PySem.W.Frag.In.keeps hK k, c⟩
theorem obsXG_eq {b m : Nat} {fa : List Fa} {fn : List DefD} {xt : PySem.W.Frag → Bool} {ts : List He.Tab} {g : Addr → Option Obj} {s : Shared} (h : ∀ a, g a = s.heap.get? a) : obsXG b m fa fn xt ts g = (hookX b m fa fn xt ts).obs s := by
  have e : g = s.heap.get? := funext h
  rw [e]
  rfl
section
variable {fa : List Fa} {fn : List DefD} {xt : PySem.W.Frag → Bool} {ts : List He.Tab} {w : World} {K : PySem.W.Frag}
theorem SaysX.b (c : SaysX fa fn xt ts w K) : xt K = true ∧ (fa.all fun f => f.ok K) = true ∧ (fn.all fun d => d.ok K) = true := by
  have e := congrArg (fun z : AlX => z.1.1) c
  have e : (xt K && ((fa.all fun f => f.ok K) && fn.all fun d => d.ok K)) = true := e
  rw [Bool.and_eq_true, Bool.and_eq_true] at e
  exact e
theorem SaysX.fact (c : SaysX fa fn xt ts w K) {f : Fa} (h : f ∈ fa) : f.ok K = true := List.all_eq_true.mp c.b.2.1 f h
theorem SaysX.d (c : SaysX fa fn xt ts w K) : SaysD fa fn K := by
  have e := congrArg (fun z : AlX => z.1.2) c
  have e : (fn.map fun d => fnW K d.at_) = fn.map DefD.val := e
  unfold SaysD obsD valD
  rw [c.b.2.1, c.b.2.2, e]
  rfl
theorem SaysX.tab (c : SaysX fa fn xt ts w K) (i : Nat) {t : He.Tab} (h : ts[i]? = some t := by rfl) : dicW K (t.1 K) = some (keysIn w.params t.2) := by
  have e : (ts.map fun t => dicW K (t.1 K)) = ts.map fun t => some (keysIn w.params t.2) := congrArg (fun z : AlX => z.2) c
  have e2 : (ts.map fun t => dicW K (t.1 K))[i]? = (ts.map fun t => some (keysIn w.params t.2))[i]? := by rw [e]
  rw [List.getElem?_map, List.getElem?_map, h] at e2
  exact Option.some.inj e2
end
/-! ### what the tables say -/
theorem tok_exc {w : World} {g : Gx} {xs : List (Str × Str)} {τ : Ev.Tab} (hb : excsB g.K xs = true) (hsub : ∀ c d, τ.sub c d = false) (hexc : ∀ c, τ.exc c = true → ∃ q, xs[c]? = some q ∧ g.cls c = ga g.K q.1)
    (hx : ∀ c d q r, τ.exc c = true → τ.exc d = true → xs[c]? = some q → xs[d]? = some r → τ.xsub c d = decide (q.1 = r.1)) (hA : ∀ f, τ.isA f = true → ∃ q ∈ xs, dec f = q.2)
    (hgd : ∀ d kv, τ.gds d = some kv → (∃ es n, KDict g.K w (g.gda d) es n) ∧ ∀ z : Str, ∃ r, PySem.W.nsIn g.K (g.gda d) z = some r ∧ hasP kv.1 (.str z) = r.isSome ∧ ∀ v, lookP kv.1 kv.2 (.str z) = some v → ∃ u y, r = some u ∧ RelV y u ∧ ∀ wd : Wd, Den g wd v y) : TOk τ g w := by
  have no : ∀ {c : Nat} {p : Prop}, τ.sub c c = true → p := fun {c p} h => by rw [hsub] at h; cases h
  have at1 : ∀ {c : Nat}, τ.exc c = true → ∃ q ∈ xs, xs[c]? = some q ∧ g.cls c = ga g.K q.1 := fun {c} h => by
    obtain ⟨q, h1, h2⟩ := hexc c h
    exact ⟨q, List.mem_of_getElem? h1, h1, h2⟩
  exact {
    gd := hgd
    cl := fun c h => no h
    noat := fun c f h => no h
    insT := fun c h => no h
    kcc := fun c d h => no h
    kcb := fun c n h => no h
    xcc := fun c d h1 h2 => by
      obtain ⟨q, m1, e1, e2⟩ := at1 h1
      obtain ⟨r, m2, e3, e4⟩ := at1 h2
      rw [e2, e4, hx c d q r h1 h2 e1 e3]
      exact ((excsB_at hb m1).2.2.2 r m2).1
    xve := fun c h => by
      obtain ⟨q, m, _, e⟩ := at1 h
      rw [e]
      exact (excsB_at hb m).1.ve
    xbc := fun c n h hn => by
      obtain ⟨q, m, _, e⟩ := at1 h
      rw [e]
      exact (excsB_at hb m).1.bc n hn
    xmo := fun c d h1 h2 => by
      obtain ⟨q, m1, e1, e2⟩ := at1 h1
      obtain ⟨r, m2, e3, e4⟩ := at1 h2
      rw [e2, e4, hx c d q r h1 h2 e1 e3]
      exact ((excsB_at hb m1).2.2.2 r m2).2.1
    exC := fun c h => by
      obtain ⟨q, m, _, e⟩ := at1 h
      rw [e]
      exact (excsB_at hb m).1.c
    xfC := fun c h => by
      obtain ⟨q, m, _, e⟩ := at1 h
      rw [e]
      exact (excsB_at hb m).1.x
    xno := fun c f h hf => by
      obtain ⟨q, m, _, e⟩ := at1 h
      obtain ⟨r, m2, e2⟩ := hA f hf
      rw [e, e2]
      exact ((excsB_at hb m).2.2.2 r m2).2.2
    kbc := fun c n h => no h }
/-- an __init__ by its text -/
def sc3 (ns : List (Str × NameKind)) (x y : Str) : Bool := match ns.lookup x, ns.lookup y, ns.lookup ("ValueError" : Str) with
  | some .local, some .local, some .globalImplicit => true
  | _, _, _ => false
def initOk (f : Str) (st : Stmt) (ps : List Str) : Bool := match defBody st, ps with
  | [.Expr (.Call (.Attribute (.Name b _) i p2) [.Name s1 _, .Constant (.str _) _ _] [] p5) _, .Assign [.Attribute (.Name s2 _) g _] (.Name v _) _], [x, y] => decide (b = "ValueError") && (decide (i = "__init__") && ((p2.endLine == p5.line) && (decide (s1 = x) && (decide (s2 = x) && (decide (g = f) && (decide (v = y) &&
    (sc3 (defScope st).names x y && (!(x == ("__debug__" : Str)) && (!(x == ("__classdict__" : Str)) && (!(y == ("__debug__" : Str)) && !(y == ("__classdict__" : Str))))))))))))
  | _, _ => false
theorem init_ok {P : Program} {w : World} {K : PySem.W.Frag} {mg : Str → Option Value} {base : Heap} {C : Addr} {f x qual : Str} {st : Stmt} {ps : List Str} {a : Addr} {fd : FuncData} (F : FunD K x qual (defArgs st) (defBody st) (defScope st) [] [] a fd) (S : FnScope ps ps (defScope st))
    (hi : initOk f st ps = true) (E : ExcF K C f) (hm : mg "ValueError" = none) (vV : PySem.W.findCls K (.type "ValueError") (.type "type") "__init__" = some (.val (.builtin "ValueError.__init__"))) : FnOk P w K mg base (L2.CX P w) 1 a fd ps (spI C f) := by
  unfold initOk at hi
  split at hi
  · rename_i b p1 i p2 s1 p3 m j p4 p5 p6 s2 p7 g p8 v p9 p10 x0 y0 hb
    simp only [Bool.and_eq_true, decide_eq_true_eq] at hi
    obtain ⟨rfl, rfl, h3, rfl, rfl, rfl, rfl, h4, h5, h6, h7, h8⟩ := hi
    refine F.ok S (fun vs H Q E h => ?_) fun cdv A outer s H vs Q E0 room h => ?_
    · obtain ⟨a, v, rfl, _⟩ := h
      rfl
    · obtain ⟨a', v', rfl, ha, hq⟩ := h
      unfold sc3 at h4
      split at h4
      · rename_i l1 l2 l3
        obtain ⟨t, ht, hr⟩ := init_body (X := cxOf (L2.CX P w) P w K mg base [s2, v] qual (defScope st) a cdv A outer s H E0) (C := C) (f := g) (xs := s2) (xv := v) (m := m) (j := j) (p1 := p1) (p2 := p2) (p3 := p3) (p4 := p4) (p5 := p5) (p6 := p6) (p7 := p7) (p8 := p8) (p9 := p9) (p10 := p10)
          E.o E.no h3 l3 hm vV rfl rfl (.inl l1) (.inl l2) (by simpa using h5) (by simpa using h6) (by simpa using h7) (by simpa using h8)
        rw [hb]
        exact ⟨t, ht, hr a' v' _ H _ rfl rfl ha fun dx h1 h2 => hq dx h1 h2⟩
      · cases h4
  · cases hi
/-- one after the other -/
def AllA {α : Type} (Q : Nat → α → Prop) : Nat → List (Option α) → Prop
  | _, [] => True
  | n, none :: r => AllA Q (n + 1) r
  | n, some a :: r => Q n a ∧ AllA Q (n + 1) r
theorem at_all {α : Type} {Q : Nat → α → Prop} : ∀ (l : List (Option α)) (n : Nat), AllA Q n l → ∀ f i, (l[f]?).join = some i → Q (n + f) i
  | [], _, _, f, i, h => by simp at h
  | none :: r, n, q, 0, i, h => by cases h
  | some a :: r, n, q, 0, i, h => by cases h; exact q.1
  | none :: r, n, q, f + 1, i, h => by
    have := at_all r (n + 1) q f i (by simpa using h)
    rw [show n + (f + 1) = n + 1 + f from by omega]
    exact this
  | some a :: r, n, q, f + 1, i, h => by
    have := at_all r (n + 1) q.2 f i (by simpa using h)
    rw [show n + (f + 1) = n + 1 + f from by omega]
    exact this
end Ev


set_option Elab.async false
set_option linter.all false
set_option maxRecDepth 100000
set_option maxHeartbeats 4000000
/-! Plain mathematics over the evaluator: data, repr, ==, calls, the pool. -/
namespace Ev
open PySem
/-! ### no references -/
mutual
theorem sub_id (f : Nat → Option PV) : ∀ v : PV, v.refLt 0 = true → v.sub f = some v
  | .non, _ => by simp only [PV.sub]
  | .bl _, _ => by simp only [PV.sub]
  | .int _, _ => by simp only [PV.sub]
  | .str _, _ => by simp only [PV.sub]
  | .tup xs, h => by
    have h' : PV.refsLt 0 xs = true := by simpa only [PV.refLt] using h
    simp only [PV.sub, subs_id f xs h', Option.map_some]
  | .lst xs, h => by
    have h' : PV.refsLt 0 xs = true := by simpa only [PV.refLt] using h
    simp only [PV.sub, subs_id f xs h', Option.map_some]
  | .dct ks vs, h => by
    have h' : PV.refsLt 0 ks = true ∧ PV.refsLt 0 vs = true := by simpa only [PV.refLt, Bool.and_eq_true] using h
    simp only [PV.sub, subs_id f ks h'.1, subs_id f vs h'.2, Option.map_some, Option.bind_some]
  | .ins c as vs, h => by
    have h' : PV.refsLt 0 vs = true := by simpa only [PV.refLt] using h
    simp only [PV.sub, subs_id f vs h', Option.map_some]
  | .gd _, _ => by simp only [PV.sub]
  | .scr _, _ => by simp only [PV.sub]
  | .exn c as vs, h => by
    have h' : PV.refsLt 0 vs = true := by simpa only [PV.refLt] using h
    simp only [PV.sub, subs_id f vs h', Option.map_some]
  | .ref i, h => by
    have h' : Nat.blt i 0 = true := by simpa only [PV.refLt] using h
    exact absurd (Nat.blt_eq.mp h') (Nat.not_lt_zero i)
theorem subs_id (f : Nat → Option PV) : ∀ vs : List PV, PV.refsLt 0 vs = true → PV.subs f vs = some vs
  | [], _ => by simp only [PV.subs]
  | v :: vs, h => by
    have h' : v.refLt 0 = true ∧ PV.refsLt 0 vs = true := by simpa only [PV.refsLt, Bool.and_eq_true] using h
    simp only [PV.subs, sub_id f v h'.1, subs_id f vs h'.2, Option.map_some, Option.bind_some]
end
theorem freeze_id {μ : Sto} {b : Nat} {v : PV} (h : v.refLt 0 = true) : freeze μ b v = some v := sub_id _ v h
theorem refsLt_iff {b : Nat} : ∀ {vs : List PV}, PV.refsLt b vs = true ↔ ∀ v ∈ vs, v.refLt b = true
  | [] => by simp [PV.refsLt]
  | v :: vs => by simp [PV.refsLt, refsLt_iff (vs := vs)]
theorem callN_succ {τ : Tab} {Δ : Nat → Option Fn} {wf n f : Nat} {fn : Fn} (h : Δ f = some fn) (vs : List PV) (b : Nat) (μ : Sto) : callN τ Δ wf (n + 1) f vs b μ = runFn τ (callN τ Δ wf n) wf fn vs b μ := by
  show (match Δ f with | some fn => runFn τ (callN τ Δ wf n) wf fn vs b μ | none => .err) = _
  rw [h]
section
variable {Φ : Calls} {b f : Nat} {vs : List PV} {μ μ1 : Sto} {v e : PV}
theorem call0 (hr : PV.refsLt 0 vs = true) (h : Φ f vs 0 [] = .ok (v, μ1)) (hv : v.refLt 0 = true) : callBy Φ b f 0 vs μ = .ok (v, μ) := by
  simp only [callBy, hr, h, freeze_id hv, Option.map_some, Res.of, if_true]
theorem call0x (hr : PV.refsLt 0 vs = true) (h : Φ f vs 0 [] = .exc e μ1) (hv : e.refLt 0 = true) : callBy Φ b f 0 vs μ = .exc e μ := by
  simp only [callBy, hr, h, freeze_id hv, if_true]
theorem call1 (h : Φ f vs μ.length μ = .ok (v, μ1)) (hv : v.refLt 0 = true) : callBy Φ b f 1 vs μ = .ok (v, μ1.take μ.length) := by
  simp only [callBy, h, freeze_id hv, Option.map_some, Res.of]
theorem call1' (h : Φ f vs μ.length μ = .ok (v, μ1)) (hv : v.refLt 0 = true) (hl : μ1.length = μ.length) : callBy Φ b f 1 vs μ = .ok (v, μ1) := by
  rw [call1 h hv, List.take_of_length_le (Nat.le_of_eq hl)]
end
/-! ### plain data -/
mutual
def PV.plain : PV → Bool
  | .non => true
  | .bl _ => true
  | .int i => decide (i.natAbs < 10 ^ 63)
  | .str s => PyData.strOk s
  | .tup xs => PV.plains xs
  | .lst xs => PV.plains xs
  | .dct ks vs => PV.plains ks && PV.plains vs
  | _ => false
def PV.plains : List PV → Bool
  | [] => true
  | x :: xs => PV.plain x && PV.plains xs
end
mutual
def PV.nod : PV → Bool
  | .tup xs => PV.nods xs
  | .lst xs => PV.nods xs
  | .dct _ _ => false
  | _ => true
def PV.nods : List PV → Bool
  | [] => true
  | x :: xs => PV.nod x && PV.nods xs
end
mutual
def PV.wt : PV → Nat
  | .int _ => 64
  | .str s => 10 * s.length + 2
  | .tup xs => 4 + PV.wts xs
  | .lst xs => 4 + PV.wts xs
  | .dct ks vs => 4 + PV.wts ks + PV.wts vs
  | _ => 5
def PV.wts : List PV → Nat
  | [] => 0
  | x :: xs => PV.wt x + 2 + PV.wts xs
end
mutual
def PV.dep : PV → Nat
  | .tup xs => PV.deps xs + 1
  | .lst xs => PV.deps xs + 1
  | .dct ks vs => max (PV.deps ks) (PV.deps vs) + 1
  | _ => 0
def PV.deps : List PV → Nat
  | [] => 0
  | x :: xs => max (PV.dep x) (PV.deps xs)
end
mutual
def PV.toD : PV → PyData
  | .bl b => .bool b
  | .int i => .int i
  | .str s => .str s
  | .tup xs => .tuple (PV.toDs xs)
  | .lst xs => .list (PV.toDs xs)
  | .dct ks vs => .dict ((PV.toDs ks).zip (PV.toDs vs))
  | _ => .none
def PV.toDs : List PV → List PyData
  | [] => []
  | x :: xs => PV.toD x :: PV.toDs xs
end
mutual
theorem plain_ref : ∀ v : PV, v.plain = true → v.refLt 0 = true
  | .non, _ => by simp only [PV.refLt]
  | .bl _, _ => by simp only [PV.refLt]
  | .int _, _ => by simp only [PV.refLt]
  | .str _, _ => by simp only [PV.refLt]
  | .tup xs, h => by simp only [PV.plain] at h; simp only [PV.refLt, plains_ref xs h]
  | .lst xs, h => by simp only [PV.plain] at h; simp only [PV.refLt, plains_ref xs h]
  | .dct ks vs, h => by simp only [PV.plain, Bool.and_eq_true] at h; simp only [PV.refLt, plains_ref ks h.1, plains_ref vs h.2, Bool.and_self]
  | .ins .., h => by simp [PV.plain] at h
  | .gd _, h => by simp [PV.plain] at h
  | .scr _, h => by simp [PV.plain] at h
  | .exn .., h => by simp [PV.plain] at h
  | .ref _, h => by simp [PV.plain] at h
theorem plains_ref : ∀ vs : List PV, PV.plains vs = true → PV.refsLt 0 vs = true
  | [], _ => by simp only [PV.refsLt]
  | v :: vs, h => by simp only [PV.plains, Bool.and_eq_true] at h; simp only [PV.refsLt, plain_ref v h.1, plains_ref vs h.2, Bool.and_self]
end
mutual
theorem shw_plain : ∀ v : PV, v.plain = true → v.shw0 = some v.toD
  | .non, _ => by simp only [PV.shw0, PV.toD]
  | .bl _, _ => by simp only [PV.shw0, PV.toD]
  | .int _, _ => by simp only [PV.shw0, PV.toD]
  | .str _, _ => by simp only [PV.shw0, PV.toD]
  | .tup xs, h => by simp only [PV.plain] at h; simp only [PV.shw0, PV.toD, shws_plain xs h, Option.map_some]
  | .lst xs, h => by simp only [PV.plain] at h; simp only [PV.shw0, PV.toD, shws_plain xs h, Option.map_some]
  | .dct ks vs, h => by simp only [PV.plain, Bool.and_eq_true] at h; simp only [PV.shw0, PV.toD, shws_plain ks h.1, shws_plain vs h.2, Option.map_some, Option.bind_some]
  | .ins .., h => by simp [PV.plain] at h
  | .gd _, h => by simp [PV.plain] at h
  | .scr _, h => by simp [PV.plain] at h
  | .exn .., h => by simp [PV.plain] at h
  | .ref _, h => by simp [PV.plain] at h
theorem shws_plain : ∀ vs : List PV, PV.plains vs = true → PV.shws0 vs = some (PV.toDs vs)
  | [], _ => by simp only [PV.shws0, PV.toDs]
  | v :: vs, h => by simp only [PV.plains, Bool.and_eq_true] at h; simp only [PV.shws0, PV.toDs, shw_plain v h.1, shws_plain vs h.2, Option.map_some, Option.bind_some]
end
mutual
theorem dat_plain : ∀ v : PV, v.plain = true → v.nod = true → v.dat0 = some v.toD
  | .non, _, _ => by simp only [PV.dat0, PV.toD]
  | .bl _, _, _ => by simp only [PV.dat0, PV.toD]
  | .int _, _, _ => by simp only [PV.dat0, PV.toD]
  | .str _, _, _ => by simp only [PV.dat0, PV.toD]
  | .tup xs, h, n => by simp only [PV.plain] at h; simp only [PV.nod] at n; simp only [PV.dat0, PV.toD, dats_plain xs h n, Option.map_some]
  | .lst xs, h, n => by simp only [PV.plain] at h; simp only [PV.nod] at n; simp only [PV.dat0, PV.toD, dats_plain xs h n, Option.map_some]
  | .dct ks vs, _, n => by simp [PV.nod] at n
  | .ins .., h, _ => by simp [PV.plain] at h
  | .gd _, h, _ => by simp [PV.plain] at h
  | .scr _, h, _ => by simp [PV.plain] at h
  | .exn .., h, _ => by simp [PV.plain] at h
  | .ref _, h, _ => by simp [PV.plain] at h
theorem dats_plain : ∀ vs : List PV, PV.plains vs = true → PV.nods vs = true → PV.dats0 vs = some (PV.toDs vs)
  | [], _, _ => by simp only [PV.dats0, PV.toDs]
  | v :: vs, h, n => by simp only [PV.plains, Bool.and_eq_true] at h; simp only [PV.nods, Bool.and_eq_true] at n; simp only [PV.dats0, PV.toDs, dat_plain v h.1 n.1, dats_plain vs h.2 n.2, Option.map_some, Option.bind_some]
end
theorem log_ok {i : Int} (h : i.natAbs < 10 ^ 63) : i.natAbs.log2 < 1920 := by
  by_cases h0 : i.natAbs = 0
  · rw [h0]; decide
  · refine (Nat.log2_lt h0).mpr (Nat.lt_trans h ?_)
    exact Nat.lt_of_lt_of_le (m := 2 ^ 252) (by decide) (Nat.pow_le_pow_right (by decide) (by decide))
theorem toDs_length : ∀ xs : List PV, (PV.toDs xs).length = xs.length
  | [] => rfl
  | x :: xs => by simp only [PV.toDs, List.length_cons, toDs_length xs]
theorem sAll_zip : ∀ {xs ys : List PyData}, PyData.showableAll xs = true → PyData.showableAll ys = true → PyData.showableKv (xs.zip ys) = true
  | [], _, _, _ => by simp only [List.zip_nil_left, PyData.showableKv]
  | _ :: _, [], _, _ => by simp only [List.zip_nil_right, PyData.showableKv]
  | x :: xs, y :: ys, h, k => by
    simp only [PyData.showableAll, Bool.and_eq_true] at h k
    simp only [List.zip_cons_cons, PyData.showableKv, h.1, k.1, sAll_zip h.2 k.2, Bool.and_self]
mutual
theorem showable_plain : ∀ v : PV, v.plain = true → v.toD.showable = true
  | .non, _ => by simp only [PV.toD, PyData.showable]
  | .bl _, _ => by simp only [PV.toD, PyData.showable]
  | .int _, h => by simp only [PV.plain, decide_eq_true_eq] at h; simp only [PV.toD, PyData.showable, decide_eq_true_eq]; exact log_ok h
  | .str _, _ => by simp only [PV.toD, PyData.showable]
  | .tup xs, h => by simp only [PV.plain] at h; simp only [PV.toD, PyData.showable, showables_plain xs h]
  | .lst xs, h => by simp only [PV.plain] at h; simp only [PV.toD, PyData.showable, showables_plain xs h]
  | .dct ks vs, h => by simp only [PV.plain, Bool.and_eq_true] at h; simp only [PV.toD, PyData.showable]; exact sAll_zip (showables_plain ks h.1) (showables_plain vs h.2)
  | .ins .., h => by simp [PV.plain] at h
  | .gd _, h => by simp [PV.plain] at h
  | .scr _, h => by simp [PV.plain] at h
  | .exn .., h => by simp [PV.plain] at h
  | .ref _, h => by simp [PV.plain] at h
theorem showables_plain : ∀ vs : List PV, PV.plains vs = true → PyData.showableAll (PV.toDs vs) = true
  | [], _ => by simp only [PV.toDs, PyData.showableAll]
  | v :: vs, h => by simp only [PV.plains, Bool.and_eq_true] at h; simp only [PV.toDs, PyData.showableAll, showable_plain v h.1, showables_plain vs h.2, Bool.and_self]
end
theorem sl (s : String) : (s : Str).length = s.length := ofString_length s
theorem join_len : ∀ ts : List Str, (Str.join ", " ts).length ≤ (ts.map fun t => t.length + 2).sum
  | [] => by decide
  | [x] => by show x.length ≤ _; simp
  | x :: y :: r => by
    have h := join_len (y :: r)
    show (x ++ ", " ++ Str.join ", " (y :: r)).length ≤ _
    have e2 : ((", " : String) : Str).length = 2 := rfl
    rw [strLen_append, strLen_append, e2, List.map_cons, List.sum_cons]
    omega
theorem tupleText_len (ts : List Str) : (tupleText ts).length ≤ 3 + (ts.map fun t => t.length + 2).sum := by
  have h := join_len ts
  unfold tupleText
  rw [strLen_append, strLen_append]
  have e1 : (("(" : String) : Str).length = 1 := rfl
  have e2 : ((if ts.length == 1 then ",)" else ")" : String) : Str).length ≤ 2 := by split <;> decide
  omega
theorem textFrom_le (ts : List Str) : ∀ (i : Nat) (acc : Str), (textFrom i acc ts).length ≤ acc.length + (ts.map fun t => t.length + 2).sum := by
  induction ts with
  | nil => intro i acc; simp [textFrom]
  | cons t r ih =>
    intro i acc
    rw [List.map_cons, List.sum_cons]
    unfold textFrom
    refine Nat.le_trans (ih _ _) ?_
    have e2 : ((", " : String) : Str).length = 2 := rfl
    have e3 : (("" : String) : Str).length = 0 := rfl
    repeat' split
    all_goals simp only [strLen_append, e2, e3]
    all_goals omega
theorem listText_len (ts : List Str) : (listText ts).length ≤ 2 + (ts.map fun t => t.length + 2).sum := by
  have h := textFrom_le ts 0 "["
  have e1 : (("[" : String) : Str).length = 1 := rfl
  show (textFrom 0 "[" ts ++ "]").length ≤ _
  rw [strLen_append]
  have e2 : (("]" : String) : Str).length = 1 := rfl
  omega
theorem dictText_len (ts : List Str) : (dictText ts).length ≤ 2 + (ts.map fun t => t.length + 2).sum := by
  have h := join_len ts
  unfold dictText
  rw [strLen_append, strLen_append]
  have e1 : (("{" : String) : Str).length = 1 := rfl
  have e2 : (("}" : String) : Str).length = 1 := rfl
  omega

theorem kv_len : ∀ (xs ys : List PyData), ((PyData.shownKv (xs.zip ys)).map fun t => t.length + 2).sum ≤ ((PyData.shownAll xs).map fun t => t.length + 2).sum + ((PyData.shownAll ys).map fun t => t.length + 2).sum
  | [], _ => by simp [PyData.shownKv]
  | _ :: _, [] => by simp [PyData.shownKv]
  | x :: xs, y :: ys => by
    have h := kv_len xs ys
    have e2 : ((": " : String) : Str).length = 2 := rfl
    simp only [List.zip_cons_cons, PyData.shownKv, PyData.shownAll, List.map_cons, List.sum_cons, strLen_append, e2]
    omega
mutual
theorem len_plain : ∀ v : PV, v.plain = true → v.toD.shown.length ≤ v.wt
  | .non, _ => by
    simp only [PV.toD, PyData.shown, PV.wt]
    show (("None" : String) : Str).length ≤ 5
    rw [sl]
    decide
  | .bl b, _ => by
    simp only [PV.toD, PyData.shown, PV.wt]
    cases b <;> decide
  | .int i, h => by
    simp only [PV.plain, decide_eq_true_eq] at h
    simp only [PV.toD, PyData.shown, PV.wt]
    show (Str.ofString (toString i)).length ≤ 64
    rw [ofString_length]
    exact int_text_length_le10 (by decide) h
  | .str s, h => by
    simp only [PV.plain, PyData.strOk] at h
    simp only [PV.toD, PyData.shown, PV.wt]
    refine StrLaws.reprText_len s fun c hc => ?_
    have := Array.all_eq_true_iff_forall_mem.mp h c (by simpa using hc)
    simp only [decide_eq_true_eq] at this
    omega
  | .tup xs, h => by
    simp only [PV.plain] at h
    simp only [PV.toD, PyData.shown, PV.wt]
    have := tupleText_len (PyData.shownAll (PV.toDs xs))
    have := lens_plain xs h
    omega
  | .lst xs, h => by
    simp only [PV.plain] at h
    simp only [PV.toD, PyData.shown, PV.wt]
    have := listText_len (PyData.shownAll (PV.toDs xs))
    have := lens_plain xs h
    omega
  | .dct ks vs, h => by
    simp only [PV.plain, Bool.and_eq_true] at h
    simp only [PV.toD, PyData.shown, PV.wt]
    have := dictText_len (PyData.shownKv ((PV.toDs ks).zip (PV.toDs vs)))
    have := kv_len (PV.toDs ks) (PV.toDs vs)
    have := lens_plain ks h.1
    have := lens_plain vs h.2
    omega
  | .ins .., h => by simp [PV.plain] at h
  | .gd _, h => by simp [PV.plain] at h
  | .scr _, h => by simp [PV.plain] at h
  | .exn .., h => by simp [PV.plain] at h
  | .ref _, h => by simp [PV.plain] at h
theorem lens_plain : ∀ vs : List PV, PV.plains vs = true → ((PyData.shownAll (PV.toDs vs)).map fun t => t.length + 2).sum ≤ PV.wts vs
  | [], _ => by simp only [PV.toDs, PyData.shownAll, PV.wts, List.map_nil, List.sum_nil, Nat.le_refl]
  | v :: vs, h => by
    simp only [PV.plains, Bool.and_eq_true] at h
    have h1 := len_plain v h.1
    have h2 := lens_plain vs h.2
    simp only [PV.toDs, PyData.shownAll, PV.wts, List.map_cons, List.sum_cons]
    omega
end
theorem depthKv_zip : ∀ (xs ys : List PyData), PyData.depthKv (xs.zip ys) ≤ max (PyData.depthAll xs) (PyData.depthAll ys)
  | [], _ => by simp [PyData.depthKv]
  | _ :: _, [] => by simp [PyData.depthKv]
  | x :: xs, y :: ys => by
    have h := depthKv_zip xs ys
    simp only [List.zip_cons_cons, PyData.depthKv, PyData.depthAll]
    omega
mutual
theorem dep_plain : ∀ v : PV, v.toD.depth ≤ v.dep
  | .non => by simp [PV.toD, PyData.depth]
  | .bl _ => by simp [PV.toD, PyData.depth]
  | .int _ => by simp [PV.toD, PyData.depth]
  | .str _ => by simp [PV.toD, PyData.depth]
  | .tup xs => by
    have := deps_plain xs
    simp only [PV.toD, PyData.depth, PV.dep]
    omega
  | .lst xs => by
    have := deps_plain xs
    simp only [PV.toD, PyData.depth, PV.dep]
    omega
  | .dct ks vs => by
    have := deps_plain ks
    have := deps_plain vs
    have := depthKv_zip (PV.toDs ks) (PV.toDs vs)
    simp only [PV.toD, PyData.depth, PV.dep]
    omega
  | .ins .. => by simp [PV.toD, PyData.depth]
  | .gd _ => by simp [PV.toD, PyData.depth]
  | .scr _ => by simp [PV.toD, PyData.depth]
  | .exn .. => by simp [PV.toD, PyData.depth]
  | .ref _ => by simp [PV.toD, PyData.depth]
theorem deps_plain : ∀ vs : List PV, PyData.depthAll (PV.toDs vs) ≤ PV.deps vs
  | [] => by simp [PV.toDs, PyData.depthAll]
  | v :: vs => by
    have := dep_plain v
    have := deps_plain vs
    simp only [PV.toDs, PyData.depthAll, PV.deps]
    omega
end
mutual
theorem can_plain : ∀ v : PV, v.plain = true → v.nod = true → v.toD.canLay0 = true
  | .non, _, _ => by simp only [PV.toD, PyData.canLay0]
  | .bl _, _, _ => by simp only [PV.toD, PyData.canLay0]
  | .int _, _, _ => by simp only [PV.toD, PyData.canLay0]
  | .str _, h, _ => by simp only [PV.plain] at h; simp only [PV.toD, PyData.canLay0, h]
  | .tup xs, h, n => by simp only [PV.plain] at h; simp only [PV.nod] at n; simp only [PV.toD, PyData.canLay0, cans_plain xs h n]
  | .lst xs, h, n => by simp only [PV.plain] at h; simp only [PV.nod] at n; simp only [PV.toD, PyData.canLay0, cans_plain xs h n]
  | .dct ks vs, _, n => by simp [PV.nod] at n
  | .ins .., h, _ => by simp [PV.plain] at h
  | .gd _, h, _ => by simp [PV.plain] at h
  | .scr _, h, _ => by simp [PV.plain] at h
  | .exn .., h, _ => by simp [PV.plain] at h
  | .ref _, h, _ => by simp [PV.plain] at h
theorem cans_plain : ∀ vs : List PV, PV.plains vs = true → PV.nods vs = true → PyData.canLayAll0 (PV.toDs vs) = true
  | [], _, _ => by simp only [PV.toDs, PyData.canLayAll0]
  | v :: vs, h, n => by simp only [PV.plains, Bool.and_eq_true] at h; simp only [PV.nods, Bool.and_eq_true] at n; simp only [PV.toDs, PyData.canLayAll0, can_plain v h.1 n.1, cans_plain vs h.2 n.2, Bool.and_self]
end
theorem shw_of {μ : Sto} {v : PV} (h : v.plain = true) : shw μ v = some v.toD := by
  have e := shw_plain v h
  cases v <;> first | exact e | (simp [PV.plain] at h)
theorem dat_of {μ : Sto} {v : PV} (h : v.plain = true) (n : v.nod = true) : dat μ v = some v.toD := by
  have e := dat_plain v h n
  cases v <;> first | exact e | (simp [PV.plain] at h)
theorem repr_ok {τ : Tab} {m : Bool} {μ : Sto} {v : PV} (h : v.plain = true) (hw : v.wt ≤ line) (hd : v.dep ≤ 60) : prim τ .repr m [v] μ = some (.str v.toD.shown, μ) := by
  have h1 := len_plain v h
  have h2 := dep_plain v
  simp only [prim, shw_of h, showable_plain v h, Option.bind_some, Bool.true_and, decide_eq_true (Nat.le_trans h1 hw), decide_eq_true (Nat.le_trans h2 hd), Bool.and_self, if_true]
theorem shaped_of {v : PV} (h : v.plain = true) (n : v.nod = true) (hd : v.dep ≤ 64) : SeqAt.shaped v.toD = true := by
  have h2 := dep_plain v
  simp only [SeqAt.shaped, can_plain v h n, decide_eq_true (Nat.le_trans h2 hd), Bool.and_self]
theorem eq_ok {μ : Sto} {u v : PV} (hu : u.plain = true) (nu : u.nod = true) (du : u.dep ≤ 64) (hv : v.plain = true) (nv : v.nod = true) (dv : v.dep ≤ 64) : cmpEq μ u v = some (PyData.eqv u.toD v.toD) := by
  simp only [cmpEq, dat_of hu nu, dat_of hv nv, Option.bind_some, shaped_of hu nu du, shaped_of hv nv dv, Bool.and_self, if_true]
theorem eq_self {μ : Sto} {u : PV} (hu : u.plain = true) (nu : u.nod = true) (du : u.dep ≤ 64) : cmpEq μ u u = some true := by
  rw [eq_ok hu nu du hu nu du, SeqAt.eqv_refl _ (can_plain u hu nu)]
theorem eq_str {μ : Sto} {s t : Str} (hs : PyData.strOk s = true) (ht : PyData.strOk t = true) : cmpEq μ (.str s) (.str t) = some (s == t) := by
  rw [eq_ok (by simpa [PV.plain] using hs) (by simp [PV.nod]) (by simp [PV.dep]) (by simpa [PV.plain] using ht) (by simp [PV.nod]) (by simp [PV.dep])]
  simp [PV.toD, PyData.eqv]
theorem eq_int {μ : Sto} {i j : Int} : cmpEq μ (.int i) (.int j) = some (i == j) := by
  simp [cmpEq, dat, PV.dat0, SeqAt.shaped, PyData.canLay0, PyData.depth, PyData.eqv]
/-! ### the pool -/
abbrev Pl (p s : Int) : Option MO := some (.lst [.int p, .int s])
def T_take : Fn := ⟨2, 3, [.iff (.cmp .gt (.idx (.var 0) (.con (.int 0))) (.con (.int 0))) [.set (.var 2) (.bin .mod false (.idx (.var 0) (.con (.int 0))) (.var 1)), .setI (.var 0) (.con (.int 0)) (.bin .fdiv false (.idx (.var 0) (.con (.int 0))) (.var 1)), .ret (.var 2)] [], .setI (.var 0) (.con (.int 1)) (.bin .mod false (.bin .add false (.bin .mul false (.idx (.var 0) (.con (.int 1))) (.con (.int 48271))) (.con (.int 11))) (.con (.int 2147483647))), .ret (.bin .mod false (.bin .fdiv false (.bin .mod false (.bin .mul false (.idx (.var 0) (.con (.int 1))) (.idx (.var 0) (.con (.int 1)))) (.con (.int 2147483629))) (.con (.int 64))) (.var 1))]⟩
end Ev


set_option Elab.async false
set_option linter.all false
set_option maxRecDepth 100000
set_option maxHeartbeats 4000000
/-! The pool. -/
namespace Ev
open PySem
theorem atI0 {α : Type} (x y : α) : L2.atI [x, y] 0 = some x := rfl
theorem atI1 {α : Type} (x y : α) : L2.atI [x, y] 1 = some y := rfl
theorem mid_get {μ0 ν : Sto} {o : Option MO} : (μ0 ++ o :: ν)[μ0.length]? = some o := by simp
theorem mid_set {μ0 ν : Sto} {o o' : Option MO} : (μ0 ++ o :: ν).set μ0.length o' = μ0 ++ o' :: ν := by simp
section
variable {m : Bool} {i j : Int} {μ : Sto}
@[simp] theorem op2_add : op2 .add m (.int i) (.int j) μ = some (.int (i + j), μ) := rfl
@[simp] theorem op2_sub : op2 .sub m (.int i) (.int j) μ = some (.int (i - j), μ) := rfl
@[simp] theorem op2_mul (h : (small64 i || small64 j) = true) : op2 .mul m (.int i) (.int j) μ = some (.int (i * j), μ) := by simp only [op2, h, if_true]
@[simp] theorem op2_fdiv (h : 0 < j) (h2 : j < 1073741824) : op2 .fdiv m (.int i) (.int j) μ = some (.int (i / j), μ) := by simp [op2, h, h2]
@[simp] theorem op2_mod (h : 0 < j) : op2 .mod m (.int i) (.int j) μ = some (.int (i % j), μ) := by simp [op2, h]
theorem op2_pow (h : 0 ≤ j) (h2 : j ≤ 1000000) (h3 : i.natAbs < 2 ^ 64) : op2 .pow m (.int i) (.int j) μ = some (.int (i ^ j.toNat), μ) := by
  simp only [op2, decide_eq_true h, decide_eq_true h2, decide_eq_true h3, Bool.and_self, if_true]
end
theorem small_of {i : Int} (h : -(2 ^ 63) ≤ i) (h2 : i < 2 ^ 63) : small64 i = true := by
  simp only [small64, Bool.and_eq_true, decide_eq_true_eq]
  omega
@[simp] theorem mayWrite_int {b i : Nat} {k : Int} : mayWrite b i (.int k) = true := by simp [mayWrite, PV.refLt]

theorem take_a {τ : Tab} {Δ : Nat → Option Fn} {wf n f : Nat} (hd : Δ f = some T_take) (μ0 ν : Sto) (p s m : Int) (b : Nat) (hm : 0 < m) (hm2 : m < 1073741824) (hp : 0 < p) :
    callN τ Δ wf (n + 1) f [.ref μ0.length, .int m] b (μ0 ++ Pl p s :: ν) = .ok (.int (p % m), μ0 ++ Pl (p / m) s :: ν) := by
  rw [callN_succ hd]
  simp [runFn, T_take, evSs, evS, evE, Out.next, Res.out, Res.bind, Res.of, Out.of, asg, getIx, listOf, mid_get, mid_set, atP, atI0, atI1, cmp, truth, hp, hm, hm2, setItem, L2.ixN, setObj, Out.fin]
theorem take_b {τ : Tab} {Δ : Nat → Option Fn} {wf n f : Nat} (hd : Δ f = some T_take) (μ0 ν : Sto) (p s m : Int) (b : Nat) (hm : 0 < m) (hm2 : m < 1073741824) (hp : ¬ 0 < p) (c1 c2 c3 c4 c5 : Int) (e1 : c1 = 48271) (e2 : c2 = 11) (e3 : c3 = 2147483647) (e4 : c4 = 2147483629) (e5 : c5 = 64) :
    callN τ Δ wf (n + 1) f [.ref μ0.length, .int m] b (μ0 ++ Pl p s :: ν) = .ok (.int ((s * c1 + c2) % c3 * ((s * c1 + c2) % c3) % c4 / c5 % m), μ0 ++ Pl p ((s * c1 + c2) % c3) :: ν) := by
  have h0 := Int.emod_nonneg (s * c1 + c2) (b := c3) (by omega)
  have h1 := Int.emod_lt_of_pos (s * c1 + c2) (b := c3) (by omega)
  have s1 : small64 c1 = true := by subst e1; decide
  have hs : small64 ((s * c1 + c2) % c3) = true := small_of (by omega) (by omega)
  have k3 : 0 < c3 := by omega
  have k4 : 0 < c4 := by omega
  have k5 : 0 < c5 := by omega
  have k6 : c5 < 1073741824 := by omega
  rw [callN_succ hd]
  unfold T_take
  rw [← e1, ← e2, ← e3, ← e4, ← e5]
  simp only [runFn, evSs, evS, evE, Out.next, Res.out, Res.bind, Res.of, Out.of, List.length_cons, List.length_nil, if_true, List.map_cons, List.map_nil, List.cons_append, List.nil_append, List.getElem?_cons_zero, getIx, listOf, mid_get, mid_set, atP, atI0, atI1, cmp, truth, Option.bind_some, Option.map_some, op2_add, setItem]
  simp [asg, getIx, listOf, mid_get, mid_set, atP, atI0, atI1, cmp, truth, hp, hm, hm2, setItem, L2.ixN, setObj, Out.fin, hs, s1, k3, k4, k5, k6]
theorem take_ok {τ : Tab} {Δ : Nat → Option Fn} {wf n f : Nat} (hd : Δ f = some T_take) (μ0 ν : Sto) (p s m : Int) (b : Nat) (hm : 0 < m) (hm2 : m < 1073741824) :
    ∃ r p' s', (0 ≤ r ∧ r < m) ∧ callN τ Δ wf (n + 1) f [.ref μ0.length, .int m] b (μ0 ++ Pl p s :: ν) = .ok (.int r, μ0 ++ Pl p' s' :: ν) := by
  by_cases hp : 0 < p
  · exact ⟨_, _, _, ⟨Int.emod_nonneg _ (by omega), Int.emod_lt_of_pos _ hm⟩, take_a hd μ0 ν p s m b hm hm2 hp⟩
  · exact ⟨_, _, _, ⟨Int.emod_nonneg _ (by omega), Int.emod_lt_of_pos _ hm⟩, take_b hd μ0 ν p s m b hm hm2 hp _ _ _ _ _ rfl rfl rfl rfl rfl⟩

def T_pool : Fn := ⟨2, 5, [.set (.var 2) (.con (.int 0)), .iff (.cmp .lt (.var 1) (.prim .len false [.var 0])) [.set (.var 2) (.idx (.var 0) (.var 1))] [], .set (.var 3) (.prim .abs false [.var 2]), .set (.var 4) (.bin .mod false (.bin .pow false (.bin .add false (.bin .add false (.bin .add false (.bin .mod false (.var 2) (.con (.int 2147483629))) (.bin .mul false (.bin .mul false (.con (.int 104729)) (.var 1)) (.var 1))) (.bin .mul false (.con (.int 7919)) (.var 1))) (.con (.int 11))) (.con (.int 3))) (.con (.int 2147483647))), .ret (.lst true [.bin .mul false (.var 3) (.prim .int false [.cmp .ge (.var 3) (.bin .pow false (.con (.int 10)) (.con (.int 18)))]), .var 4])]⟩
theorem pool_main {τ : Tab} {Φ : Calls} {wf : Nat} (ns : List Int) (k : Nat) (hk : k < 64) (b : Nat) (μ : Sto) (c : Int) (c1 c2 c3 c4 c5 c6 c7 c8 : Int)
    (e1 : c1 = 2147483629) (e2 : c2 = 104729) (e3 : c3 = 7919) (e4 : c4 = 11) (e5 : c5 = 3) (e6 : c6 = 2147483647) (e7 : c7 = 10) (e8 : c8 = 18) :
    ∃ p s, (evSs τ Φ b wf (T_pool.body.drop 2) [some (.scr ns), some (.int k), some (.int c), none, none] μ).fin = .ok (.ref μ.length, μ ++ [Pl p s]) := by
  have h0 := Int.emod_nonneg c (b := c1) (by omega)
  have h1 := Int.emod_lt_of_pos c (b := c1) (by omega)
  have hk2 : (c2 * (k : Int) * k).natAbs ≤ 104729 * 64 * 64 := by
    rw [Int.natAbs_mul, Int.natAbs_mul, Int.natAbs_natCast, e2]
    exact Nat.mul_le_mul (Nat.mul_le_mul (by decide) (by omega)) (by omega)
  have hk3 : c3 * (k : Int) = 7919 * k := by rw [e3]
  have hp : ((c % c1 + c2 * (k : Int) * k + c3 * (k : Int) + c4).natAbs) < 2 ^ 64 := by rw [hk3]; omega
  have hp7 : c7.natAbs < 2 ^ 64 := by omega
  have s1 : small64 c2 = true := small_of (by omega) (by omega)
  have s2 : small64 (k : Int) = true := small_of (by omega) (by omega)
  have s3 : small64 c3 = true := small_of (by omega) (by omega)
  have s4 : small64 0 = true := by decide
  have s5 : small64 1 = true := by decide
  have k1 : 0 < c1 := by omega
  have k6 : 0 < c6 := by omega
  have k5 : 0 ≤ c5 := by omega
  have k5' : c5 ≤ 1000000 := by omega
  have k8 : 0 ≤ c8 := by omega
  have k8' : c8 ≤ 1000000 := by omega
  have hl2 : 2 ≤ line := by decide
  unfold T_pool
  rw [← e1, ← e2, ← e3, ← e4, ← e5, ← e6, ← e7, ← e8]
  cases hq : decide (c7 ^ c8.toNat ≤ (if c < 0 then -c else c)) with
  | true =>
    refine ⟨(if c < 0 then -c else c) * 1, (c % c1 + c2 * (k : Int) * k + c3 * (k : Int) + c4) ^ c5.toNat % c6, ?_⟩
    simp [evSs, evS, evE, evEs, Out.next, Res.out, Res.bind, Res.of, Out.of, asg, prim, op2_pow, s1, s2, s3, s4, s5, hp, hp7, cmp, newL, hl2, Out.fin, k1, k6, k5, k5', k8, k8', hq]
  | false =>
    refine ⟨(if c < 0 then -c else c) * 0, (c % c1 + c2 * (k : Int) * k + c3 * (k : Int) + c4) ^ c5.toNat % c6, ?_⟩
    simp [evSs, evS, evE, evEs, Out.next, Res.out, Res.bind, Res.of, Out.of, asg, prim, op2_pow, s1, s2, s3, s4, s5, hp, hp7, cmp, newL, hl2, Out.fin, k1, k6, k5, k5', k8, k8', hq]

theorem pool_head1 {τ : Tab} {Φ : Calls} {wf b : Nat} {ns : List Int} {k : Nat} {μ : Sto} (hl : k < ns.length) (hi : L2.atI ns (k : Int) = some (ns[k]'hl)) (rest : List S) :
    evSs τ Φ b wf (.set (.var 2) (.con (.int 0)) :: .iff (.cmp .lt (.var 1) (.prim .len false [.var 0])) [.set (.var 2) (.idx (.var 0) (.var 1))] [] :: rest) [some (.scr ns), some (.int k), none, none, none] μ = evSs τ Φ b wf rest [some (.scr ns), some (.int k), some (.int (ns[k]'hl)), none, none] μ := by
  simp [evSs, evS, evE, evEs, Out.next, Res.out, Res.bind, Res.of, Out.of, asg, prim, cmp, truth, hl, getIx, hi]
theorem pool_head0 {τ : Tab} {Φ : Calls} {wf b : Nat} {ns : List Int} {k : Nat} {μ : Sto} (hl : ¬ k < ns.length) (rest : List S) :
    evSs τ Φ b wf (.set (.var 2) (.con (.int 0)) :: .iff (.cmp .lt (.var 1) (.prim .len false [.var 0])) [.set (.var 2) (.idx (.var 0) (.var 1))] [] :: rest) [some (.scr ns), some (.int k), none, none, none] μ = evSs τ Φ b wf rest [some (.scr ns), some (.int k), some (.int 0), none, none] μ := by
  simp [evSs, evS, evE, evEs, Out.next, Res.out, Res.bind, Res.of, Out.of, asg, prim, cmp, truth, hl, getIx]
theorem pool_ok {τ : Tab} {Δ : Nat → Option Fn} {wf n f : Nat} (hd : Δ f = some T_pool) (ns : List Int) (k : Nat) (hk : k < 64) (b : Nat) (μ : Sto) :
    ∃ p s, callN τ Δ wf (n + 1) f [.scr ns, .int k] b μ = .ok (.ref μ.length, μ ++ [Pl p s]) := by
  rw [callN_succ hd]
  by_cases hl : k < ns.length
  · obtain ⟨p, s, e⟩ := pool_main (τ := τ) (Φ := callN τ Δ wf n) (wf := wf) ns k hk b μ (ns[k]'hl) _ _ _ _ _ _ _ _ rfl rfl rfl rfl rfl rfl rfl rfl
    have hi : L2.atI ns (k : Int) = some (ns[k]'hl) := L2.atI_nat (List.getElem?_eq_getElem hl)
    exact ⟨p, s, (congrArg Out.fin (pool_head1 hl hi (T_pool.body.drop 2))).trans e⟩
  · obtain ⟨p, s, e⟩ := pool_main (τ := τ) (Φ := callN τ Δ wf n) (wf := wf) ns k hk b μ 0 _ _ _ _ _ _ _ _ rfl rfl rfl rfl rfl rfl rfl rfl
    exact ⟨p, s, (congrArg Out.fin (pool_head0 hl (T_pool.body.drop 2))).trans e⟩
end Ev


set_option Elab.async false
set_option linter.all false
set_option maxRecDepth 100000
set_option maxHeartbeats 4000000
/-! Items and slices. -/
namespace Ev
open PySem
theorem leline {n : Nat} (h : n ≤ 16777216) : n ≤ line := h
theorem leline0 : (0 ≤ line) = True := eq_true (by decide)
theorem leline1 : (1 ≤ line) = True := eq_true (by decide)
theorem leline2 : (2 ≤ line) = True := eq_true (by decide)
theorem leline3 : (3 ≤ line) = True := eq_true (by decide)
theorem leline4 : (4 ≤ line) = True := eq_true (by decide)
theorem leline5 : (5 ≤ line) = True := eq_true (by decide)
theorem leline6 : (6 ≤ line) = True := eq_true (by decide)
theorem leline7 : (7 ≤ line) = True := eq_true (by decide)
theorem leline8 : (8 ≤ line) = True := eq_true (by decide)
theorem leline9 : (9 ≤ line) = True := eq_true (by decide)
theorem leline10 : (10 ≤ line) = True := eq_true (by decide)
theorem leline11 : (11 ≤ line) = True := eq_true (by decide)
theorem leline12 : (12 ≤ line) = True := eq_true (by decide)
theorem leline13 : (13 ≤ line) = True := eq_true (by decide)
theorem leline14 : (14 ≤ line) = True := eq_true (by decide)
theorem leline15 : (15 ≤ line) = True := eq_true (by decide)
theorem leline16 : (16 ≤ line) = True := eq_true (by decide)
theorem end_get {μ : Sto} {x : Option MO} : (μ ++ [x])[μ.length]? = some x := by simp
theorem atI_lt {α : Type} {xs : List α} {i : Int} {v : α} (h : xs[i.toNat]? = some v) (h0 : 0 ≤ i := by omega) : L2.atI xs i = some v := by
  have e : i = ((i.toNat : Nat) : Int) := by omega
  rw [e]
  exact L2.atI_nat h
section
variable {τ : Tab} {μ : Sto} {xs : List PV} {i j : Int} {v : PV}
theorem getIx_tup (h : xs[i.toNat]? = some v) (h0 : 0 ≤ i := by omega) : getIx τ μ (.tup xs) (.int i) = some v := atI_lt h h0
theorem getIx_lst (h : xs[i.toNat]? = some v) (h0 : 0 ≤ i := by omega) : getIx τ μ (.lst xs) (.int i) = some v := atI_lt h h0
theorem getIx_ref {k : Nat} (e : μ[k]? = some (some (.lst xs))) (h : xs[i.toNat]? = some v) (h0 : 0 ≤ i := by omega) : getIx τ μ (.ref k) (.int i) = some v := by
  simp only [getIx, listOf, e]
  exact atI_lt h h0
theorem sIx_of {n d : Nat} (h : 0 ≤ i) : HT.sIx n d (some i) = min i.toNat n := by
  show (if i < 0 then (i + (n : Int)).toNat else min i.toNat n) = _
  rw [if_neg (by omega)]
theorem cut_hi (h : 0 ≤ i) : cutP xs none (some i) = xs.take i.toNat := by
  simp only [cutP, sIx_of h, HT.sIx_none, List.drop_zero, Nat.sub_zero]
  rcases Nat.le_total i.toNat xs.length with q | q
  · rw [Nat.min_eq_left q]
  · rw [Nat.min_eq_right q, List.take_length, List.take_of_length_le q]
theorem cut_lo (h : 0 ≤ i) : cutP xs (some i) none = xs.drop i.toNat := by
  simp only [cutP, sIx_of h, HT.sIx_none]
  rcases Nat.le_total i.toNat xs.length with q | q
  · rw [Nat.min_eq_left q, List.take_of_length_le (by simp)]
  · rw [Nat.min_eq_right q, Nat.sub_self, List.take_zero, List.drop_of_length_le q]
theorem slice_hi {m : Bool} (h : 0 ≤ i) : slice m (.tup xs) none (some i) μ = some (.tup (xs.take i.toNat), μ) := by simp only [slice, cut_hi h]
theorem slice_lo {m : Bool} (h : 0 ≤ i) : slice m (.tup xs) (some i) none μ = some (.tup (xs.drop i.toNat), μ) := by simp only [slice, cut_lo h]
theorem op2_tup {m : Bool} {ys : List PV} (h : xs.length + ys.length ≤ line) : op2 .add m (.tup xs) (.tup ys) μ = some (.tup (xs ++ ys), μ) := by simp only [op2, if_pos h]
theorem op2_str {m : Bool} {a c : Str} (h : a.length + c.length ≤ line) : op2 .add m (.str a) (.str c) μ = some (.str (a ++ c), μ) := by simp only [op2, if_pos h]
theorem get2_ok {m : Bool} {b : Nat} {ks vs : List PV} {s : Str} {d : PV} : bmeth .get2 m b (.dct ks vs) [.str s, d] μ = some ((lookP ks vs (.str s)).getD d, μ) := rfl
theorem recv_get2 {ks vs : List PV} : recv .get2 (.dct ks vs) μ = true := rfl
end

theorem evLc_map {f : PV → Loc → Sto → Res (Option PV × Sto)} {g : PV → PV} {σ : Loc} {μ : Sto} : ∀ {xs : List PV}, (∀ x ∈ xs, f x σ μ = .ok (some (g x), μ)) → evLc f xs σ μ = .ok (xs.map g, μ)
  | [], _ => rfl
  | x :: xs, h => by
    have e := evLc_map (xs := xs) fun y hy => h y (List.mem_cons_of_mem _ hy)
    simp only [evLc, h x (List.mem_cons_self ..), Res.bind, e, List.map_cons]
section
variable {τ : Tab} {Φ : Calls} {b wf : Nat} {σ σ1 : Loc} {μ μ1 μ2 : Sto}
theorem evE_lc1 {m : Bool} {t : Tg} {k : Ik} {it : List C} {elt : C} {own : List Nat} {p xs : List PV} {g : PV → PV} (h1 : evEs τ Φ b it σ μ = .ok (p, μ1)) (h2 : walked k p μ1 = some xs)
    (h3 : ∀ x ∈ xs, ∃ σ1, asg t x (wipeP σ own) = some σ1 ∧ evE τ Φ b elt σ1 μ1 = .ok (g x, μ1)) (hl : xs.length ≤ line) : evE τ Φ b (.lc m t k it [] elt own) σ μ = .ok (newL m (xs.map g) μ1) := by
  have hl' : (xs.map g).length ≤ line := by rw [List.length_map]; exact hl
  unfold evE
  rw [h1]
  show (match walked k p μ1 with
    | some xs => _
    | none => _) = _
  rw [h2]
  dsimp only
  rw [evLc_map (g := g) (fun x hx => ?_)]
  · dsimp only
    rw [if_pos hl']
  · obtain ⟨σ1, e1, e2⟩ := h3 x hx
    simp only [e1, evIfs, Res.bind, e2]
theorem evE_prim {p : Pr} {m : Bool} {es : List C} {vs : List PV} {r : PV × Sto} (h : evEs τ Φ b es σ μ = .ok (vs, μ1)) (h2 : prim τ p m vs μ1 = some r) : evE τ Φ b (.prim p m es) σ μ = .ok r := by
  unfold evE
  rw [h]
  show Res.of (prim τ p m vs μ1) = _
  rw [h2]
  rfl
theorem evEs_nil : evEs τ Φ b [] σ μ = .ok ([], μ) := rfl
theorem evEs_cons {c : C} {cs : List C} {v : PV} {vs : List PV} (h : evE τ Φ b c σ μ = .ok (v, μ1)) (h2 : evEs τ Φ b cs σ μ1 = .ok (vs, μ2)) : evEs τ Φ b (c :: cs) σ μ = .ok (v :: vs, μ2) := by
  unfold evEs
  rw [h]
  show (evEs τ Φ b cs σ μ1).bind _ = _
  rw [h2]
theorem evEs_one {c : C} {v : PV} (h : evE τ Φ b c σ μ = .ok (v, μ1)) : evEs τ Φ b [c] σ μ = .ok ([v], μ1) := evEs_cons h rfl
theorem evS_set {t : Tg} {c : C} {v : PV} (h : evE τ Φ b c σ μ = .ok (v, μ1)) (h2 : asg t v σ = some σ1) : evS τ Φ b wf (.set t c) σ μ = .nx σ1 μ1 := by
  unfold evS
  rw [h]
  show Out.of (asg t v σ) _ = _
  rw [h2]
  rfl
theorem evS_ret {c : C} {v : PV} (h : evE τ Φ b c σ μ = .ok (v, μ1)) : evS τ Φ b wf (.ret c) σ μ = .ret v μ1 := by
  unfold evS
  rw [h]
theorem st {s : S} {ss : List S} {r : Out} (h : evS τ Φ b wf s σ μ = .nx σ1 μ1) (k : evSs τ Φ b wf ss σ1 μ1 = r) : evSs τ Φ b wf (s :: ss) σ μ = r := by
  unfold evSs
  rw [h]
  exact k
theorem st_ret {s : S} {ss : List S} {v : PV} (h : evS τ Φ b wf s σ μ = .ret v μ1) : evSs τ Φ b wf (s :: ss) σ μ = .ret v μ1 := by
  unfold evSs
  rw [h]
theorem run_ret {f : Fn} {vs : List PV} {v : PV} (σ : Loc) (hl : vs.length = f.ps) (hs : vs.map some ++ List.replicate (f.ns - f.ps) none = σ) (h : evSs τ Φ b wf f.body σ μ = .ret v μ1) : runFn τ Φ wf f vs b μ = .ok (v, μ1) := by
  unfold runFn
  rw [if_pos hl, hs, h]
  rfl
theorem run_nx {f : Fn} {vs : List PV} (σ : Loc) (hl : vs.length = f.ps) (hs : vs.map some ++ List.replicate (f.ns - f.ps) none = σ) (h : evSs τ Φ b wf f.body σ μ = .nx σ1 μ1) : runFn τ Φ wf f vs b μ = .ok (.non, μ1) := by
  unfold runFn
  rw [if_pos hl, hs, h]
  rfl
theorem st_end {σ : Loc} : evSs τ Φ b wf [] σ μ = .nx σ μ := rfl
theorem iff_t {c : C} {x y : List S} {v : PV} {o : Out} (h : evE τ Φ b c σ μ = .ok (v, μ1)) (h2 : truth μ1 v = some true) (k : evSs τ Φ b wf x σ μ1 = o) : evS τ Φ b wf (.iff c x y) σ μ = o := by
  unfold evS
  rw [h]
  show Out.of (truth μ1 v) _ = _
  rw [h2]
  exact k
theorem iff_f {c : C} {x y : List S} {v : PV} {o : Out} (h : evE τ Φ b c σ μ = .ok (v, μ1)) (h2 : truth μ1 v = some false) (k : evSs τ Φ b wf y σ μ1 = o) : evS τ Φ b wf (.iff c x y) σ μ = o := by
  unfold evS
  rw [h]
  show Out.of (truth μ1 v) _ = _
  rw [h2]
  exact k
end

section
variable {τ : Tab} {Φ : Calls} {b wf : Nat} {σ σ0 σ1 : Loc} {μ μ1 : Sto}
theorem evS_for {t : Tg} {k : Ik} {it : List C} {body : List S} {p xs : List PV} {o : Out} (h : evEs τ Φ b it σ μ = .ok (p, μ1)) (h2 : walked k p μ1 = some xs)
    (q : loop (fun v σ μ => Out.of (asg t v σ) fun σ => evSs τ Φ b wf body σ μ) xs σ μ1 = o) : evS τ Φ b wf (.for t k it body) σ μ = o := by
  unfold evS
  rw [h]
  show Out.of (walked k p μ1) _ = _
  rw [h2]
  exact q
theorem loop_cons {t : Tg} {body : List S} {x : PV} {xs : List PV} {o : Out} (h : asg t x σ = some σ0) (h2 : evSs τ Φ b wf body σ0 μ = .nx σ1 μ1) (q : loop (fun v σ μ => Out.of (asg t v σ) fun σ => evSs τ Φ b wf body σ μ) xs σ1 μ1 = o) :
    loop (fun v σ μ => Out.of (asg t v σ) fun σ => evSs τ Φ b wf body σ μ) (x :: xs) σ μ = o := by
  unfold loop
  rw [h]
  show Out.next (evSs τ Φ b wf body σ0 μ) _ = _
  rw [h2]
  exact q
theorem loop_nil {f : PV → Loc → Sto → Out} : loop f [] σ μ = .nx σ μ := rfl
end
theorem loop_ok {f : PV → Loc → Sto → Out} {I : Loc → Prop} : ∀ {xs : List PV} {σ : Loc} {μ : Sto}, (∀ x ∈ xs, ∀ σ μ, I σ → ∃ σ' μ', I σ' ∧ f x σ μ = .nx σ' μ') → I σ → ∃ σ' μ', I σ' ∧ loop f xs σ μ = .nx σ' μ'
  | [], σ, μ, _, h => ⟨σ, μ, h, rfl⟩
  | x :: xs, σ, μ, hf, h => by
    obtain ⟨σ1, μ1, h1, e1⟩ := hf x (List.mem_cons_self ..) σ μ h
    obtain ⟨σ2, μ2, h2, e2⟩ := loop_ok (xs := xs) (μ := μ1) (fun y hy => hf y (List.mem_cons_of_mem _ hy)) h1
    exact ⟨σ2, μ2, h2, by simp only [loop, e1, Out.next, e2]⟩
theorem upP_mem : ∀ {n : Nat} {lo : Int} {x : PV}, x ∈ upP lo n → ∃ i : Nat, i < n ∧ x = .int (lo + i)
  | 0, _, _, h => by cases h
  | n + 1, lo, x, h => by
    rcases List.mem_cons.mp h with rfl | h
    · exact ⟨0, by omega, by simp⟩
    · obtain ⟨i, hi, e⟩ := upP_mem h
      exact ⟨i + 1, by omega, by rw [e]; congr 1; push_cast; omega⟩
end Ev


set_option Elab.async false
set_option linter.all false
set_option maxRecDepth 100000
set_option maxHeartbeats 4000000
/-! Draws within comprehensions. -/
namespace Ev
open PySem
theorem upP_length : ∀ (n : Nat) (lo : Int), (upP lo n).length = n
  | 0, _ => rfl
  | n + 1, lo => by simp only [upP, List.length_cons, upP_length n (lo + 1)]
theorem walked_rng1 {μ : Sto} {j : Int} (h : -(2 ^ 62) ≤ j) (h2 : j < 2 ^ 62) : walked .rng1 [.int j] μ = some (upP 0 j.toNat) := by
  simp only [walked, small62, decide_eq_true h, decide_eq_true h2, Bool.and_self, if_true]
theorem walked_rng2 {μ : Sto} {i j : Int} (h : -(2 ^ 62) ≤ j) (h2 : j < 2 ^ 62) (h3 : -(2 ^ 62) ≤ i) (h4 : i < 2 ^ 62) : walked .rng2 [.int i, .int j] μ = some (upP i (j - i).toNat) := by
  simp only [walked, small62, decide_eq_true h, decide_eq_true h2, decide_eq_true h3, decide_eq_true h4, Bool.and_self, if_true]
theorem evLc_draw {f : PV → Loc → Sto → Res (Option PV × Sto)} {Q : PV → Prop} {σ : Loc} {μ0 ν : Sto} : ∀ {xs : List PV} (p s : Int), (∀ x ∈ xs, ∀ p s : Int, ∃ v p' s', Q v ∧ f x σ (μ0 ++ Pl p s :: ν) = .ok (some v, μ0 ++ Pl p' s' :: ν)) →
    ∃ ys p' s', (∀ y ∈ ys, Q y) ∧ ys.length = xs.length ∧ evLc f xs σ (μ0 ++ Pl p s :: ν) = .ok (ys, μ0 ++ Pl p' s' :: ν)
  | [], p, s, h => ⟨[], p, s, by simp, rfl, rfl⟩
  | x :: xs, p, s, h => by
    obtain ⟨v, p1, s1, q, e⟩ := h x (List.mem_cons_self ..) p s
    obtain ⟨ys, p2, s2, qs, l, e2⟩ := evLc_draw (xs := xs) p1 s1 fun y hy => h y (List.mem_cons_of_mem _ hy)
    refine ⟨v :: ys, p2, s2, ?_, by simp [l], ?_⟩
    · intro y hy
      rcases List.mem_cons.mp hy with rfl | hy
      · exact q
      · exact qs y hy
    · simp only [evLc, e, Res.bind, e2]
section
variable {τ : Tab} {Φ : Calls} {b wf : Nat} {σ σ1 : Loc} {μ μ1 μ2 μ0 ν : Sto}
theorem evE_lcD {m : Bool} {t : Tg} {k : Ik} {it : List C} {elt : C} {own : List Nat} {ps xs : List PV} {Q : PV → Prop} {p s : Int} (h1 : evEs τ Φ b it σ μ = .ok (ps, μ0 ++ Pl p s :: ν)) (h2 : walked k ps (μ0 ++ Pl p s :: ν) = some xs)
    (hl : xs.length ≤ line) (h3 : ∀ x ∈ xs, ∃ σ1, asg t x (wipeP σ own) = some σ1 ∧ ∀ p s : Int, ∃ v p' s', Q v ∧ evE τ Φ b elt σ1 (μ0 ++ Pl p s :: ν) = .ok (v, μ0 ++ Pl p' s' :: ν)) :
    ∃ ys p' s', (∀ y ∈ ys, Q y) ∧ ys.length = xs.length ∧ evE τ Φ b (.lc m t k it [] elt own) σ μ = .ok (newL m ys (μ0 ++ Pl p' s' :: ν)) := by
  have main : ∀ f : PV → Loc → Sto → Res (Option PV × Sto), (∀ x ∈ xs, ∀ p s : Int, ∃ v p' s', Q v ∧ f x (wipeP σ own) (μ0 ++ Pl p s :: ν) = .ok (some v, μ0 ++ Pl p' s' :: ν)) →
      ∃ ys p' s', (∀ y ∈ ys, Q y) ∧ ys.length = xs.length ∧ (match evLc f xs (wipeP σ own) (μ0 ++ Pl p s :: ν) with
        | .ok (ys, μ1) => if ys.length ≤ line then Res.ok (newL m ys μ1) else .err
        | _ => .err) = .ok (newL m ys (μ0 ++ Pl p' s' :: ν)) := by
    intro f hf
    obtain ⟨ys, p', s', q, l, e⟩ := evLc_draw p s hf
    refine ⟨ys, p', s', q, l, ?_⟩
    rw [e]
    dsimp only
    rw [if_pos (by omega)]
  unfold evE
  rw [h1]
  simp only [Res.bind, h2]
  refine main _ fun x hx p s => ?_
  obtain ⟨σ1, e1, h⟩ := h3 x hx
  obtain ⟨v, p', s', q, e⟩ := h p s
  refine ⟨v, p', s', q, ?_⟩
  simp only [e1, evIfs, Res.bind, e]
end

theorem frz_ok {τ : Tab} {Φ : Calls} {wf b i j : Nat} {σ : Loc} {μ : Sto} {o : MO} {v : PV} (h : σ[i]? = some (some (.ref j))) (hb : b ≤ j) (h2 : μ[j]? = some (some o)) (h3 : o.frz (fun k => if Nat.blt k b then some (.ref k) else none) = some v) :
    evS τ Φ b wf (.frz i) σ μ = .nx (σ.set i (some v)) (μ.set j none) := by
  show frzSlot b i σ μ = _
  unfold frzSlot
  rw [h]
  dsimp only
  rw [if_pos (Nat.ble_eq.mpr hb), h2]
  dsimp only
  rw [h3]
  rfl
theorem frz_dct {f : Nat → Option PV} {ks vs : List PV} (hk : PV.refsLt 0 ks = true) (hv : PV.refsLt 0 vs = true) : MO.frz (.dct ks vs) f = some (.dct ks vs) := by
  simp only [MO.frz, subs_id _ ks hk, subs_id _ vs hv, Option.map_some, Option.bind_some]
theorem frz_lst {f : Nat → Option PV} {xs : List PV} (hk : PV.refsLt 0 xs = true) : MO.frz (.lst xs) f = some (.lst xs) := by
  simp only [MO.frz, subs_id _ xs hk, Option.map_some]
end Ev


set_option Elab.async false
set_option linter.all false
set_option maxRecDepth 100000
set_option maxHeartbeats 4000000
/-! Shown texts are texts. -/
namespace Ev
open PySem
def SO (l : List Nat) : Prop := ∀ c ∈ l, c < 0x110000
theorem strOk_iff {s : Str} : PyData.strOk s = true ↔ SO s.cps.toList := by
  unfold PyData.strOk SO
  rw [Array.all_eq_true_iff_forall_mem]
  simp
theorem char_lt (c : Char) : c.toNat < 0x110000 := by
  have h := c.valid
  rcases h with h | ⟨_, h⟩
  · exact Nat.lt_of_lt_of_le h (by decide)
  · exact h
theorem so_chars (l : List Char) : SO (l.map Char.toNat) := fun c hc => by
  obtain ⟨d, _, rfl⟩ := List.mem_map.mp hc
  exact char_lt d
theorem so_append {a b : List Nat} (h : SO a) (k : SO b) : SO (a ++ b) := fun c hc => (List.mem_append.mp hc).elim (h c) (k c)
theorem so_rep {n c : Nat} (h : c < 0x110000) : SO (List.replicate n c) := fun d hd => by
  rw [List.mem_replicate] at hd
  rw [hd.2]
  exact h
theorem ofS_ok (s : String) : PyData.strOk (Str.ofString s) = true := by
  rw [strOk_iff, Str.ofString_eq_toList]
  exact so_chars _
theorem app_ok {a b : Str} (h : PyData.strOk a = true) (k : PyData.strOk b = true) : PyData.strOk (a ++ b) = true := by
  rw [strOk_iff] at h k ⊢
  show SO (a.cps ++ b.cps).toList
  rw [Array.toList_append]
  exact so_append h k
theorem so_reprChar {q c : Nat} (hq : q < 0x110000) (hc : c < 0x110000) : SO (Builtin.Str.reprChar q c) := by
  unfold Builtin.Str.reprChar
  have h1 : ∀ {x : Nat}, x < 0x110000 → SO [92, x] := fun h d hd => by
    rcases List.mem_cons.mp hd with rfl | hd
    · decide
    · rcases List.mem_cons.mp hd with rfl | hd
      · exact h
      · cases hd
  dsimp only
  repeat' split
  all_goals first
    | exact h1 (by omega)
    | exact (fun d hd => by simp only [List.mem_cons, List.not_mem_nil, or_false] at hd; omega)
    | exact so_append (h1 (by omega)) (so_append (so_rep (by omega)) (so_chars _))
    | exact so_append (fun d hd => by simp only [List.mem_cons, List.not_mem_nil, or_false] at hd; omega) (so_append (so_rep (by omega)) (so_chars _))

theorem so_fold (q : Nat) (hq : q < 0x110000) : ∀ (l : List Nat) (acc : Array Nat), SO l → SO acc.toList → SO (l.foldl (fun out c => out ++ (Builtin.Str.reprChar q c).toArray) acc).toList
  | [], acc, _, h => h
  | c :: r, acc, hl, h => by
    simp only [List.foldl_cons]
    refine so_fold q hq r _ (fun d hd => hl d (List.mem_cons_of_mem _ hd)) ?_
    rw [Array.toList_append]
    exact so_append h (so_reprChar hq (hl c (List.mem_cons_self ..)))
theorem reprText_ok {x : Str} (h : PyData.strOk x = true) : PyData.strOk (reprText x) = true := by
  have hq : reprQuote x < 0x110000 := by unfold reprQuote; split <;> decide
  rw [strOk_iff] at h ⊢
  show SO ((x.cps.foldl (fun out c => out ++ (Builtin.Str.reprChar (reprQuote x) c).toArray) #[reprQuote x]).push (reprQuote x)).toList
  rw [Array.toList_push, ← Array.foldl_toList]
  refine so_append (so_fold _ hq _ _ h ?_) ?_
  · intro c hc
    simp at hc
    subst hc
    exact hq
  · intro c hc
    simp at hc
    subst hc
    exact hq
theorem join_ok {sep : Str} (hs : PyData.strOk sep = true) : ∀ {ts : List Str}, (∀ t ∈ ts, PyData.strOk t = true) → PyData.strOk (Str.join sep ts) = true
  | [], _ => by show PyData.strOk (("" : String) : Str) = true; exact ofS_ok _
  | [x], h => h x (by simp)
  | x :: y :: r, h => by
    show PyData.strOk (x ++ sep ++ Str.join sep (y :: r)) = true
    exact app_ok (app_ok (h x (by simp)) hs) (join_ok hs fun t ht => h t (List.mem_cons_of_mem _ ht))
theorem tupleText_ok {ts : List Str} (h : ∀ t ∈ ts, PyData.strOk t = true) : PyData.strOk (tupleText ts) = true := app_ok (app_ok (ofS_ok _) (join_ok (ofS_ok _) h)) (ofS_ok _)
theorem dictText_ok {ts : List Str} (h : ∀ t ∈ ts, PyData.strOk t = true) : PyData.strOk (dictText ts) = true := app_ok (app_ok (ofS_ok _) (join_ok (ofS_ok _) h)) (ofS_ok _)
theorem textFrom_ok : ∀ {ts : List Str} (k : Nat) (acc : Str), PyData.strOk acc = true → (∀ t ∈ ts, PyData.strOk t = true) → PyData.strOk (textFrom k acc ts) = true
  | [], k, acc, h, _ => h
  | t :: ts, k, acc, h, ht => by
    unfold textFrom
    exact textFrom_ok (k + 1) _ (app_ok (app_ok h (ofS_ok _)) (ht t (by simp))) fun u hu => ht u (List.mem_cons_of_mem _ hu)
theorem listText_ok {ts : List Str} (h : ∀ t ∈ ts, PyData.strOk t = true) : PyData.strOk (listText ts) = true := app_ok (textFrom_ok 0 _ (ofS_ok _) h) (ofS_ok _)
theorem kv_ok : ∀ {xs ys : List PyData}, (∀ t ∈ PyData.shownAll xs, PyData.strOk t = true) → (∀ t ∈ PyData.shownAll ys, PyData.strOk t = true) → ∀ t ∈ PyData.shownKv (xs.zip ys), PyData.strOk t = true
  | [], _, _, _, t, ht => by simp [PyData.shownKv] at ht
  | _ :: _, [], _, _, t, ht => by simp [PyData.shownKv] at ht
  | x :: xs, y :: ys, h, k, t, ht => by
    simp only [List.zip_cons_cons, PyData.shownKv, List.mem_cons] at ht
    simp only [PyData.shownAll, List.mem_cons] at h k
    rcases ht with rfl | ht
    · exact app_ok (app_ok (h _ (.inl rfl)) (ofS_ok _)) (k _ (.inl rfl))
    · exact kv_ok (fun u hu => h u (.inr hu)) (fun u hu => k u (.inr hu)) t ht
mutual
theorem shown_ok : ∀ v : PV, v.plain = true → PyData.strOk v.toD.shown = true
  | .non, _ => by simp only [PV.toD, PyData.shown]; exact ofS_ok _
  | .bl c, _ => by simp only [PV.toD, PyData.shown]; cases c <;> exact ofS_ok _
  | .int _, h => by simp only [PV.toD, PyData.shown]; exact ofS_ok _
  | .str _, h => by simp only [PV.plain] at h; simp only [PV.toD, PyData.shown]; exact reprText_ok h
  | .tup xs, h => by simp only [PV.plain] at h; simp only [PV.toD, PyData.shown]; exact tupleText_ok (showns_ok xs h)
  | .lst xs, h => by simp only [PV.plain] at h; simp only [PV.toD, PyData.shown]; exact listText_ok (showns_ok xs h)
  | .dct ks vs, h => by simp only [PV.plain, Bool.and_eq_true] at h; simp only [PV.toD, PyData.shown]; exact dictText_ok (kv_ok (showns_ok ks h.1) (showns_ok vs h.2))
  | .ins .., h => by simp [PV.plain] at h
  | .gd _, h => by simp [PV.plain] at h
  | .scr _, h => by simp [PV.plain] at h
  | .exn .., h => by simp [PV.plain] at h
  | .ref _, h => by simp [PV.plain] at h
theorem showns_ok : ∀ vs : List PV, PV.plains vs = true → ∀ t ∈ PyData.shownAll (PV.toDs vs), PyData.strOk t = true
  | [], _, t, ht => by simp [PV.toDs, PyData.shownAll] at ht
  | v :: vs, h, t, ht => by
    simp only [PV.plains, Bool.and_eq_true] at h
    simp only [PV.toDs, PyData.shownAll, List.mem_cons] at ht
    rcases ht with rfl | ht
    · exact shown_ok v h.1
    · exact showns_ok vs h.2 t ht
end
/-- two shown texts compared -/
theorem eq_shown {μ : Sto} {u v : PV} (h : u.plain = true) (k : v.plain = true) : cmpEq μ (.str u.toD.shown) (.str v.toD.shown) = some (u.toD.shown == v.toD.shown) := eq_str (shown_ok u h) (shown_ok v k)
end Ev


set_option Elab.async false
set_option linter.all false
set_option maxRecDepth 100000
namespace Ev.K51

open PySem
def tab_FORM_PLACES : List (Str × Int) := [("wrap", 2), ("guard", 1), ("notice", 1)]
def T_put_at : Fn := ⟨3, 3, [.ret (.bin .add false (.bin .add false (.slc false (.var 0) (.con .non) false (.var 1) true) (.tup [.bm .get2 false (.var 2) [.idx (.var 0) (.var 1), .idx (.var 0) (.var 1)]])) (.slc false (.var 0) (.bin .add false (.var 1) (.con (.int 1))) true (.con .non) false))]⟩
def T_thing_called : Fn := ⟨2, 4, [.iff (.not (.prim (.isi .dict) false [.var 1])) [.raise 0 [.var 1]] [], .iff (.not (.prim (.isi .tuple) false [.var 0])) [.ret (.var 0)] [], .set (.var 2) (.prim .tuple false [.lc false (.var 3) .seq [.var 0] [] (.call 3 0 [.var 3, .var 1]) [3]]), .iff (.and [.slc false (.var 0) (.con .non) false (.con (.int 1)) true, .prim (.isi .str) false [.idx (.var 0) (.con (.int 0))], .cmp .in_ (.idx (.var 0) (.con (.int 0))) (.kn 0)]) [.set (.var 2) (.call 2 0 [.var 2, .idx (.kn 0) (.idx (.var 0) (.con (.int 0))), .var 1])] [], .ret (.var 2)]⟩
def T__law_pool : Fn := ⟨2, 5, [.set (.var 2) (.con (.int 0)), .iff (.cmp .lt (.var 1) (.prim .len false [.var 0])) [.set (.var 2) (.idx (.var 0) (.var 1))] [], .set (.var 3) (.prim .abs false [.var 2]), .set (.var 4) (.bin .mod false (.bin .pow false (.bin .add false (.bin .add false (.bin .add false (.bin .mod false (.var 2) (.con (.int 2147483629))) (.bin .mul false (.bin .mul false (.con (.int 104729)) (.var 1)) (.var 1))) (.bin .mul false (.con (.int 7919)) (.var 1))) (.con (.int 11))) (.con (.int 3))) (.con (.int 2147483647))), .ret (.lst true [.bin .mul false (.var 3) (.prim .int false [.cmp .ge (.var 3) (.bin .pow false (.con (.int 10)) (.con (.int 18)))]), .var 4])]⟩
def T__law_take : Fn := ⟨2, 3, [.iff (.cmp .gt (.idx (.var 0) (.con (.int 0))) (.con (.int 0))) [.set (.var 2) (.bin .mod false (.idx (.var 0) (.con (.int 0))) (.var 1)), .setI (.var 0) (.con (.int 0)) (.bin .fdiv false (.idx (.var 0) (.con (.int 0))) (.var 1)), .ret (.var 2)] [], .setI (.var 0) (.con (.int 1)) (.bin .mod false (.bin .add false (.bin .mul false (.idx (.var 0) (.con (.int 1))) (.con (.int 48271))) (.con (.int 11))) (.con (.int 2147483647))), .ret (.bin .mod false (.bin .fdiv false (.bin .mod false (.bin .mul false (.idx (.var 0) (.con (.int 1))) (.idx (.var 0) (.con (.int 1)))) (.con (.int 2147483629))) (.con (.int 64))) (.var 1))]⟩
def T__law_number : Fn := ⟨1, 1, [.ret (.idx (.lst false [.con (.int 0), .con (.int 1), .con (.int 9), .con (.int 10), .con (.int 12), .bin .pow false (.con (.int 10)) (.con (.int 30)), .bin .add false (.bin .pow false (.con (.int 10)) (.con (.int 59))) (.call 5 1 [.var 0, .con (.int 9)])]) (.call 5 1 [.var 0, .con (.int 7)]))]⟩
def T__law_drawn_thing : Fn := ⟨2, 4, [.set (.var 2) (.call 5 1 [.var 0, .con (.int 9)]), .set (.var 3) (.call 6 1 [.var 0]), .iff (.cmp .lt (.var 2) (.con (.int 3))) [.ret (.idx (.lst false [.var 3, .bin .sub false (.con (.int 0)) (.var 3), .con (.int 5)]) (.var 2))] [], .iff (.cmp .lt (.var 2) (.con (.int 6))) [.ret (.idx (.lst false [.tup [.con (.str "nothing")], .tup [.con (.str "channel"), .var 3], .tup [.con (.str "thread"), .var 3]]) (.bin .sub false (.var 2) (.con (.int 3))))] [], .ret (.call 9 1 [.var 0, .var 1])]⟩
def T__law_drawn_things : Fn := ⟨2, 3, [.ret (.prim .tuple false [.lc false (.var 2) .rng1 [.call 5 1 [.var 0, .con (.int 5)]] [] (.call 7 1 [.var 0, .var 1]) [2]])]⟩
def T__law_drawn_offer : Fn := ⟨2, 7, [.set (.var 2) (.call 5 1 [.var 0, .con (.int 12)]), .set (.var 3) (.call 6 1 [.var 0]), .iff (.or [.cmp .lt (.var 1) (.con (.int 1)), .cmp .lt (.var 2) (.con (.int 5))]) [.set (.var 5) (.lst false [.tup [.con (.str "never")], .tup [.con (.str "till"), .var 3], .tup [.con (.str "hear"), .var 3], .tup [.con (.str "take"), .tup [.con (.str "channel"), .var 3]]]), .ret (.idx (.bin .add false (.var 5) (.lst false [.tup [.con (.str "over"), .tup [.con (.str "thread"), .var 3]]])) (.bin .mod false (.var 2) (.con (.int 5))))] [], .iff (.cmp .eq (.var 2) (.con (.int 5))) [.ret (.tup [.con (.str "send"), .tup [.con (.str "channel"), .var 3], .call 7 1 [.var 0, .bin .sub false (.var 1) (.con (.int 1))]])] [], .iff (.cmp .eq (.var 2) (.con (.int 6))) [.ret (.tup [.con (.str "always"), .call 7 1 [.var 0, .bin .sub false (.var 1) (.con (.int 1))]])] [], .iff (.cmp .lt (.var 2) (.con (.int 9))) [.ret (.tup [.con (.str "choose"), .prim .tuple false [.lc false (.var 6) .rng1 [.call 5 1 [.var 0, .con (.int 7)]] [] (.call 9 1 [.var 0, .bin .sub false (.var 1) (.con (.int 1))]) [6]]])] [], .set (.var 4) (.idx (.lst false [.con (.str "a"), .con (.str "wraps"), .con (.str "zzzzzzzz"), .con (.str "send")]) (.call 5 1 [.var 0, .con (.int 4)])), .set (.var 5) (.call 8 1 [.var 0, .bin .sub false (.var 1) (.con (.int 1))]), .iff (.cmp .eq (.var 2) (.con (.int 9))) [.ret (.tup [.con (.str "wrap"), .call 9 1 [.var 0, .bin .sub false (.var 1) (.con (.int 1))], .var 4, .var 5])] [], .ret (.tup [.idx (.lst false [.con (.str "guard"), .con (.str "notice")]) (.bin .sub false (.var 2) (.con (.int 10))), .var 4, .var 5])]⟩
def T__law_due : Fn := ⟨2, 5, [.iff (.not (.prim (.isi .tuple) false [.var 0])) [.ret (.var 0)] [], .set (.var 2) (.lc true (.var 4) .seq [.var 0] [] (.call 10 0 [.var 4, .var 1]) [4]), .iff (.and [.cmp .gt (.prim .len false [.var 0]) (.con (.int 2)), .prim (.isi .str) false [.idx (.var 0) (.con (.int 0))], .cmp .in_ (.idx (.var 0) (.con (.int 0))) (.tup [.con (.str "wrap"), .con (.str "guard"), .con (.str "notice")])]) [.set (.var 3) (.bin .add false (.con (.int 1)) (.prim .int false [.cmp .eq (.idx (.var 0) (.con (.int 0))) (.con (.str "wrap"))])), .setI (.var 2) (.var 3) (.bm .get2 false (.var 1) [.idx (.var 0) (.var 3), .idx (.var 0) (.var 3)])] [], .ret (.prim .tuple false [.var 2])]⟩
def T__law_refused : Fn := ⟨2, 4, [.set (.var 2) (.con (.non)), .try [.expr (.call 3 0 [.var 0, .var 1])] [.mk [0, 1] (some 3) [.set (.var 2) (.var 3)]], .ret (.and [.prim (.isi (.exc 0)) false [.var 2], .prim (.isi .ve) false [.var 2], .cmp .eq (.prim .repr false [.attr (.var 2) 495622906222]) (.prim .repr false [.var 1])])]⟩
def T_law : Fn := ⟨1, 15, [.for (.var 1) .rng1 [.prim .max2 false [.con (.int 1), .prim .min2 false [.prim .len false [.var 0], .con (.int 20)]]] [.set (.var 2) (.call 4 2 [.var 0, .var 1]), .set (.var 3) (.dnew true), .set (.var 4) (.lst false [.con (.str "a"), .con (.str "wraps"), .con (.str "zzzzzzzz"), .con (.str "send")]), .set (.var 5) (.lst false [.lst false [.con (.str "wraps"), .con (.str "send"), .con (.str "a"), .con (.str "zzzzzzzz")], .lst false [.con (.str "b"), .con (.str "c"), .con (.str "d"), .con (.str "e")], .lst false [.con (.str "a"), .con (.str "wraps"), .con (.str "never"), .con (.str "guard")]]), .set (.var 6) (.idx (.var 5) (.call 5 1 [.var 2, .con (.int 3)])), .for (.tup [.var 9, .var 10]) .enum [.var 4] [.iff (.cmp .gt (.call 5 1 [.var 2, .con (.int 4)]) (.con (.int 0))) [.setI (.var 3) (.var 10) (.idx (.var 6) (.var 9))] []], .frz 3, .set (.var 7) (.tup [.con (.str "wrap"), .tup [.con (.str "never")], .con (.str "a"), .tup [.con (.int 5), .tup [.con (.str "never")]]]), .for (.var 8) .seq [.lst false [.call 7 1 [.var 2, .con (.int 4)], .call 9 1 [.var 2, .con (.int 4)], .var 7]] [.set (.var 11) (.prim .repr false [.lst false [.var 8, .var 3]]), .set (.var 12) (.call 3 0 [.var 8, .var 3]), .iff (.or [.cmp .ne (.prim .repr false [.var 12]) (.prim .repr false [.call 10 0 [.var 8, .var 3]]), .cmp .ne (.prim .repr false [.lst false [.var 8, .var 3]]) (.var 11)]) [.ret (.con (.bl false))] [], .iff (.cmp .ne (.call 3 0 [.var 8, .dnew false]) (.var 8)) [.ret (.con (.bl false))] [], .set (.var 13) (.prim .dictP false [.lc false (.var 10) .keys [.var 3] [] (.tup [.idx (.var 3) (.var 10), .var 10]) [10]]), .iff (.and [.cmp .eq (.prim .len false [.var 3]) (.con (.int 4)), .cmp .ne (.call 3 0 [.var 12, .var 13]) (.var 8)]) [.ret (.con (.bl false))] [], .set (.var 14) (.idx (.lst false [.con (.non), .lst false [], .tup [], .con (.str "a"), .lst false [.tup [.con (.str "a"), .con (.str "b")]], .con (.int 5)]) (.call 5 1 [.var 2, .con (.int 6)])), .iff (.not (.call 11 0 [.var 8, .var 14])) [.ret (.con (.bl false))] []]], .ret (.con (.bl true))]⟩
def tau : Ev.Tab where
  gds := fun d => match d with
    | 0 => some (tab_FORM_PLACES.map fun q => .str q.1, tab_FORM_PLACES.map fun q => .int q.2)
    | _ => none
  kn := fun j => match j with
    | 0 => some (.gd 0)
    | _ => none
  meth := fun _ _ => none
  sub := fun _ _ => false
  exc := fun c => Nat.blt c 2
  xsub := fun c d => Nat.beq c d
  xat := fun c => match c with
    | 0 => some 495622906222
    | 1 => some 491327481455
    | _ => none
  isA := fun f => Nat.beq f 495622906222 || Nat.beq f 491327481455
def Dl (f : Nat) : Option Fn := match f with
  | 2 => some T_put_at
  | 3 => some T_thing_called
  | 4 => some T__law_pool
  | 5 => some T__law_take
  | 6 => some T__law_number
  | 7 => some T__law_drawn_thing
  | 8 => some T__law_drawn_things
  | 9 => some T__law_drawn_offer
  | 10 => some T__law_due
  | 11 => some T__law_refused
  | 12 => some T_law
  | _ => none
end Ev.K51


set_option Elab.async false
set_option linter.all false
set_option maxRecDepth 100000
set_option maxHeartbeats 4000000
namespace Ev.K51

open PySem
def fPlace (xs : List PV) : Nat := match xs with
  | .str w :: _ => if w = "wrap" then 2 else if w = "guard" then 1 else if w = "notice" then 1 else 0
  | _ => 0
def putF (f : PV → PV) (i : Nat) (ys : List PV) : List PV := if i = 0 then ys else match ys[i]? with
  | some y => ys.set i (f y)
  | none => ys
mutual
def tc (f : PV → PV) : PV → PV
  | .tup xs => .tup (putF f (fPlace xs) (tcs f xs))
  | .non => .non
  | .bl b => .bl b
  | .int i => .int i
  | .str s => .str s
  | .lst xs => .lst xs
  | .dct ks vs => .dct ks vs
  | .ins c as vs => .ins c as vs
  | .gd g => .gd g
  | .scr g => .scr g
  | .exn c as vs => .exn c as vs
  | .ref i => .ref i
def tcs (f : PV → PV) : List PV → List PV
  | [] => []
  | x :: xs => tc f x :: tcs f xs
end
def okH (xs : List PV) : Bool := match fPlace xs with
  | 0 => true
  | i + 1 => decide (3 ≤ xs.length) && (match xs[i + 1]? with
    | some (.str _) => true
    | _ => false)
mutual
def okT : PV → Bool
  | .tup xs => okTs xs && (okH xs && decide (xs.length ≤ 100))
  | .int i => decide (i.natAbs < 10 ^ 63)
  | .str s => PyData.strOk s
  | _ => false
def okTs : List PV → Bool
  | [] => true
  | x :: xs => okT x && okTs xs
end
theorem okTs_mem : ∀ {xs : List PV}, okTs xs = true → ∀ x ∈ xs, okT x = true
  | x :: xs, h, y, hy => by
    simp only [okTs, Bool.and_eq_true] at h
    rcases List.mem_cons.mp hy with rfl | hy
    · exact h.1
    · exact okTs_mem h.2 y hy
theorem tcs_map (f : PV → PV) : ∀ xs : List PV, tcs f xs = xs.map (tc f)
  | [] => rfl
  | x :: xs => by simp only [tcs, List.map_cons, tcs_map f xs]
theorem deps_mem : ∀ {xs : List PV} {x : PV}, x ∈ xs → x.dep ≤ PV.deps xs
  | x :: xs, y, hy => by
    simp only [PV.deps]
    rcases List.mem_cons.mp hy with rfl | hy
    · omega
    · have := deps_mem hy
      omega
mutual
theorem okT_ref : ∀ v : PV, okT v = true → v.refLt 0 = true
  | .int _, _ => by simp only [PV.refLt]
  | .str _, _ => by simp only [PV.refLt]
  | .tup xs, h => by simp only [okT, Bool.and_eq_true] at h; simp only [PV.refLt, okTs_ref xs h.1]
  | .non, h => by simp [okT] at h
  | .bl _, h => by simp [okT] at h
  | .lst _, h => by simp [okT] at h
  | .dct .., h => by simp [okT] at h
  | .ins .., h => by simp [okT] at h
  | .gd _, h => by simp [okT] at h
  | .scr _, h => by simp [okT] at h
  | .exn .., h => by simp [okT] at h
  | .ref _, h => by simp [okT] at h
theorem okTs_ref : ∀ vs : List PV, okTs vs = true → PV.refsLt 0 vs = true
  | [], _ => by simp only [PV.refsLt]
  | v :: vs, h => by simp only [okTs, Bool.and_eq_true] at h; simp only [PV.refsLt, okT_ref v h.1, okTs_ref vs h.2, Bool.and_self]
end
/-- new names by a dict -/
def ren (ks vs : List PV) (x : PV) : PV := (lookP ks vs x).getD x
/-- a dict of names -/
def NmD (ks vs : List PV) : Prop := ∀ v ∈ ks ++ vs, ∃ s, v = .str s ∧ PyData.strOk s = true
theorem lookP_mem : ∀ {ks vs : List PV} {x v : PV}, lookP ks vs x = some v → v ∈ vs
  | [], _, _, _, h => by simp [lookP] at h
  | _ :: _, [], _, _, h => by simp [lookP] at h
  | k :: ks, u :: vs, x, v, h => by
    simp only [lookP] at h
    split at h
    · cases h; exact List.mem_cons_self ..
    · exact List.mem_cons_of_mem _ (lookP_mem h)
theorem ren_str {ks vs : List PV} (h : NmD ks vs) (s : Str) (hs : PyData.strOk s = true) : ∃ t, ren ks vs (.str s) = .str t ∧ PyData.strOk t = true := by
  unfold ren
  cases e : lookP ks vs (.str s) with
  | none => exact ⟨s, rfl, hs⟩
  | some v => exact h v (List.mem_append_right _ (lookP_mem e))
theorem NmD.refs {ks vs : List PV} (h : NmD ks vs) : PV.refsLt 0 ks = true ∧ PV.refsLt 0 vs = true := by
  constructor <;> refine refsLt_iff.mpr fun v hv => ?_
  · obtain ⟨s, rfl, _⟩ := h v (List.mem_append_left _ hv); simp only [PV.refLt]
  · obtain ⟨s, rfl, _⟩ := h v (List.mem_append_right _ hv); simp only [PV.refLt]
theorem putF_ref {f : PV → PV} {i : Nat} {ys : List PV} (h : PV.refsLt 0 ys = true) (hf : ∀ y, ys[i]? = some y → (f y).refLt 0 = true) : PV.refsLt 0 (putF f i ys) = true := by
  unfold putF
  split
  · exact h
  · split
    · rename_i y e
      rw [refsLt_iff] at h ⊢
      intro v hv
      rcases List.mem_or_eq_of_mem_set hv with hv | rfl
      · exact h v hv
      · exact hf y e
    · exact h
theorem len3 {xs : List PV} {i : Nat} (h : okH xs = true) (hi : fPlace xs = i + 1) : 3 ≤ xs.length ∧ ∃ s, xs[i + 1]? = some (.str s) := by
  unfold okH at h
  rw [hi] at h
  simp only [Bool.and_eq_true, decide_eq_true_eq] at h
  refine ⟨h.1, ?_⟩
  have h2 := h.2
  split at h2
  · rename_i s e; exact ⟨s, e⟩
  · cases h2
mutual
theorem tc_ref {ks vs : List PV} (hn : NmD ks vs) : ∀ v : PV, okT v = true → (tc (ren ks vs) v).refLt 0 = true
  | .int _, _ => by simp only [tc, PV.refLt]
  | .str _, _ => by simp only [tc, PV.refLt]
  | .tup xs, h => by
    simp only [okT, Bool.and_eq_true] at h
    simp only [tc, PV.refLt]
    refine putF_ref (tcs_ref hn xs h.1) fun y hy => ?_
    cases e : lookP ks vs y with
    | none =>
      simp only [ren, e, Option.getD_none]
      exact refsLt_iff.mp (tcs_ref hn xs h.1) y (List.mem_of_getElem? hy)
    | some v =>
      simp only [ren, e, Option.getD_some]
      exact refsLt_iff.mp hn.refs.2 v (lookP_mem e)
  | .non, h => by simp [okT] at h
  | .bl _, h => by simp [okT] at h
  | .lst _, h => by simp [okT] at h
  | .dct .., h => by simp [okT] at h
  | .ins .., h => by simp [okT] at h
  | .gd _, h => by simp [okT] at h
  | .scr _, h => by simp [okT] at h
  | .exn .., h => by simp [okT] at h
  | .ref _, h => by simp [okT] at h
theorem tcs_ref {ks vs : List PV} (hn : NmD ks vs) : ∀ xs : List PV, okTs xs = true → PV.refsLt 0 (tcs (ren ks vs) xs) = true
  | [], _ => by simp only [tcs, PV.refsLt]
  | v :: xs, h => by simp only [okTs, Bool.and_eq_true] at h; simp only [tcs, PV.refsLt, tc_ref hn v h.1, tcs_ref hn xs h.2, Bool.and_self]
end

theorem putF_1 (f : PV → PV) (a b : PV) (r : List PV) : putF f 1 (a :: b :: r) = a :: f b :: r := rfl
theorem putF_2 (f : PV → PV) (a b c : PV) (r : List PV) : putF f 2 (a :: b :: c :: r) = a :: b :: f c :: r := rfl
theorem put_at_ok {n b : Nat} {μ : Sto} {ks vs : List PV} {i : Nat} {x y z : PV} {r : List PV} {s : Str} (hi : i = 1 ∨ i = 2) (hl : r.length ≤ 100) (hs : [x, y, z][i]? = some (.str s)) :
    callN tau Dl 100 (n + 1) 2 [.tup (x :: y :: z :: r), .int i, .dct ks vs] b μ = .ok (.tup (putF (ren ks vs) i (x :: y :: z :: r)), μ) := by
  rw [callN_succ (fn := T_put_at) rfl]
  have hb : 200 ≤ line := by decide
  rcases hi with rfl | rfl
  · rw [putF_1]
    simp at hs
    subst hs
    have g : getIx tau μ (.tup (x :: .str s :: z :: r)) (.int 1) = some (.str s) := getIx_tup rfl
    simp (disch := first | assumption | omega | (refine leline ?_; simp only [List.length_cons, List.length_nil, List.length_append]; omega)) [List.getElem?_cons_zero, List.getElem?_cons_succ, runFn, evSs, evS, evE, evEs, evAnd, evOr, evIfs, Out.next, Res.out, Res.bind, Res.of, Out.of, asg, asgs, partOf, Out.fin, truth, slice_hi, slice_lo, recv_get2, get2_ok, op2_tup, op2_str, end_get, leline0, leline1, leline2, leline3, leline4, leline5, leline6, leline7, leline8, leline9, leline10, leline11, leline12, leline13, leline14, leline15, leline16, T_put_at, g, hl, ren]
  · rw [putF_2]
    simp at hs
    subst hs
    have g : getIx tau μ (.tup (x :: y :: .str s :: r)) (.int 2) = some (.str s) := getIx_tup rfl
    simp (disch := first | assumption | omega | (refine leline ?_; simp only [List.length_cons, List.length_nil, List.length_append]; omega)) [List.getElem?_cons_zero, List.getElem?_cons_succ, runFn, evSs, evS, evE, evEs, evAnd, evOr, evIfs, Out.next, Res.out, Res.bind, Res.of, Out.of, asg, asgs, partOf, Out.fin, truth, slice_hi, slice_lo, recv_get2, get2_ok, op2_tup, op2_str, end_get, leline0, leline1, leline2, leline3, leline4, leline5, leline6, leline7, leline8, leline9, leline10, leline11, leline12, leline13, leline14, leline15, leline16, T_put_at, g, hl, ren]

theorem isT_dict {μ : Sto} {ks vs : List PV} : isTy tau μ (.dct ks vs) .dict = some true := rfl
theorem isT_tup {μ : Sto} {xs : List PV} : isTy tau μ (.tup xs) .tuple = some true := rfl
theorem okT_cases {v : PV} (h : okT v = true) : (∃ i, v = .int i) ∨ (∃ s, v = .str s ∧ PyData.strOk s = true) ∨ ∃ xs, v = .tup xs ∧ okTs xs = true ∧ okH xs = true ∧ xs.length ≤ 100 := by
  cases v with
  | int i => exact .inl ⟨i, rfl⟩
  | str s => exact .inr (.inl ⟨s, rfl, by simpa only [okT] using h⟩)
  | tup xs =>
    simp only [okT, Bool.and_eq_true, decide_eq_true_eq] at h
    exact .inr (.inr ⟨xs, rfl, h.1, h.2.1, h.2.2⟩)
  | _ => simp [okT] at h
theorem hasF {s : Str} : hasP (tab_FORM_PLACES.map fun q => .str q.1) (.str s) = (decide (s = "wrap") || (decide (s = "guard") || decide (s = "notice"))) := by
  simp only [tab_FORM_PLACES, List.map_cons, List.map_nil, hasP, PV.keq, Bool.or_false]
  congr 1
  · simp [eq_comm]
  · congr 1 <;> simp [eq_comm]
theorem lookF {s : Str} {i : Nat} {r : List PV} (h : fPlace (.str s :: r) = i + 1) : lookP (tab_FORM_PLACES.map fun q => .str q.1) (tab_FORM_PLACES.map fun q => .int q.2) (.str s) = some (.int ((i + 1 : Nat) : Int)) := by
  simp only [fPlace] at h
  split at h
  · rename_i e; subst e; cases h; rfl
  · split at h
    · rename_i e; subst e; cases h; rfl
    · split at h
      · rename_i e; subst e; cases h; rfl
      · cases h
theorem place_12 {xs : List PV} {i : Nat} (h : fPlace xs = i + 1) : i + 1 = 1 ∨ i + 1 = 2 := by
  unfold fPlace at h
  split at h
  · split at h
    · omega
    · split at h
      · omega
      · split at h <;> omega
  · cases h
theorem tc_nt {f : PV → PV} {v : PV} (h : okT v = true) (ht : ∀ xs, v ≠ .tup xs) : tc f v = v := by
  rcases okT_cases h with ⟨i, rfl⟩ | ⟨s, rfl, _⟩ | ⟨xs, rfl, _⟩
  · simp only [tc]
  · simp only [tc]
  · exact absurd rfl (ht xs)
theorem tcs_get {f : PV → PV} {s : Str} : ∀ {xs : List PV} {i : Nat}, xs[i]? = some (.str s) → (tcs f xs)[i]? = some (.str s)
  | [], _, h => by simp at h
  | x :: xs, 0, h => by simp at h; subst h; simp [tcs, tc]
  | x :: xs, i + 1, h => by
    simp only [tcs, List.getElem?_cons_succ] at h ⊢
    exact tcs_get h
theorem tcs_len {f : PV → PV} {xs : List PV} : (tcs f xs).length = xs.length := by rw [tcs_map, List.length_map]
theorem ex3 {ys : List PV} (h : 3 ≤ ys.length) : ∃ x y z r, ys = x :: y :: z :: r := by
  match ys, h with
  | x :: y :: z :: r, _ => exact ⟨x, y, z, r, rfl⟩
theorem tcall_ok {ks vs : List PV} (hn : NmD ks vs) : ∀ (n : Nat) (v : PV) (b : Nat) (μ : Sto), okT v = true → v.dep < n → callN tau Dl 100 n 3 [v, .dct ks vs] b μ = .ok (tc (ren ks vs) v, μ)
  | 0, v, b, μ, _, hd => absurd hd (Nat.not_lt_zero _)
  | n + 1, v, b, μ, h, hd => by
    rw [callN_succ (fn := T_thing_called) rfl]
    have hk := hn.refs
    rcases okT_cases h with ⟨i, rfl⟩ | ⟨s, rfl, _⟩ | ⟨xs, rfl, hx, hh, hl⟩
    · have e : isTy tau μ (.int i) .tuple = some false := rfl
      simp (disch := first | assumption | omega | (refine leline ?_; simp only [List.length_cons, List.length_nil, List.length_append]; omega)) [List.getElem?_cons_zero, List.getElem?_cons_succ, runFn, evSs, evS, evE, evEs, evAnd, evOr, evIfs, Out.next, Res.out, Res.bind, Res.of, Out.of, asg, asgs, partOf, Out.fin, truth, slice_hi, slice_lo, recv_get2, get2_ok, op2_tup, op2_str, end_get, leline0, leline1, leline2, leline3, leline4, leline5, leline6, leline7, leline8, leline9, leline10, leline11, leline12, leline13, leline14, leline15, leline16, T_thing_called, prim, isT_dict, e, tc]
    · have e : isTy tau μ (.str s) .tuple = some false := rfl
      simp (disch := first | assumption | omega | (refine leline ?_; simp only [List.length_cons, List.length_nil, List.length_append]; omega)) [List.getElem?_cons_zero, List.getElem?_cons_succ, runFn, evSs, evS, evE, evEs, evAnd, evOr, evIfs, Out.next, Res.out, Res.bind, Res.of, Out.of, asg, asgs, partOf, Out.fin, truth, slice_hi, slice_lo, recv_get2, get2_ok, op2_tup, op2_str, end_get, leline0, leline1, leline2, leline3, leline4, leline5, leline6, leline7, leline8, leline9, leline10, leline11, leline12, leline13, leline14, leline15, leline16, T_thing_called, prim, isT_dict, e, tc]
    · have hd' : PV.deps xs < n := by simp only [PV.dep] at hd; omega
      have sub : ∀ (x : PV), x ∈ xs → ∀ (b : Nat) (μ : Sto), callBy (callN tau Dl 100 n) b 3 0 [x, .dct ks vs] μ = .ok (tc (ren ks vs) x, μ) := fun x hx' b μ => by
        have hxx := okTs_mem hx x hx'
        have := deps_mem hx'
        exact call0 (by simp only [PV.refsLt, PV.refLt, okT_ref x hxx, hk.1, hk.2, Bool.and_self]) (tcall_ok hn n x 0 [] hxx (by omega)) (tc_ref hn x hxx)
      have hll : xs.length ≤ line := Nat.le_trans hl (by decide)
      have k0 : tau.kn 0 = some (.gd 0) := rfl
      have g0 : tau.gds 0 = some (tab_FORM_PLACES.map fun q => .str q.1, tab_FORM_PLACES.map fun q => .int q.2) := rfl
      refine run_ret [some (.tup xs), some (.dct ks vs), none, none] rfl rfl (st (iff_f (v := .bl false) (μ1 := μ) (by simp (disch := first | assumption | omega | (refine leline ?_; simp only [List.length_cons, List.length_nil, List.length_append]; omega)) [List.getElem?_cons_zero, List.getElem?_cons_succ, runFn, evSs, evS, evE, evEs, evAnd, evOr, evIfs, Out.next, Res.out, Res.bind, Res.of, Out.of, asg, asgs, partOf, Out.fin, truth, slice_hi, slice_lo, recv_get2, get2_ok, op2_tup, op2_str, end_get, leline0, leline1, leline2, leline3, leline4, leline5, leline6, leline7, leline8, leline9, leline10, leline11, leline12, leline13, leline14, leline15, leline16, prim, isT_dict]) rfl rfl) (st (iff_f (v := .bl false) (μ1 := μ) (by simp (disch := first | assumption | omega | (refine leline ?_; simp only [List.length_cons, List.length_nil, List.length_append]; omega)) [List.getElem?_cons_zero, List.getElem?_cons_succ, runFn, evSs, evS, evE, evEs, evAnd, evOr, evIfs, Out.next, Res.out, Res.bind, Res.of, Out.of, asg, asgs, partOf, Out.fin, truth, slice_hi, slice_lo, recv_get2, get2_ok, op2_tup, op2_str, end_get, leline0, leline1, leline2, leline3, leline4, leline5, leline6, leline7, leline8, leline9, leline10, leline11, leline12, leline13, leline14, leline15, leline16, prim, isT_tup]) rfl rfl) (st (evS_set (v := .tup (tcs (ren ks vs) xs)) (evE_prim (evEs_one (evE_lc1 (p := [.tup xs]) (xs := xs) (g := tc (ren ks vs)) rfl rfl (fun x hx' => ⟨_, rfl, ?_⟩) hll)) (by rw [tcs_map]; rfl)) rfl) ?_)))
      · have e := sub x hx' b μ
        simp (disch := first | assumption | omega | (refine leline ?_; simp only [List.length_cons, List.length_nil, List.length_append]; omega)) [List.getElem?_cons_zero, List.getElem?_cons_succ, runFn, evSs, evS, evE, evEs, evAnd, evOr, evIfs, Out.next, Res.out, Res.bind, Res.of, Out.of, asg, asgs, partOf, Out.fin, truth, slice_hi, slice_lo, recv_get2, get2_ok, op2_tup, op2_str, end_get, leline0, leline1, leline2, leline3, leline4, leline5, leline6, leline7, leline8, leline9, leline10, leline11, leline12, leline13, leline14, leline15, leline16, wipeP, e]
      · have hr : evSs tau (callN tau Dl 100 n) b 100 [.ret (.var 2)] [some (.tup xs), some (.dct ks vs), some (.tup (putF (ren ks vs) (fPlace xs) (tcs (ren ks vs) xs))), none] μ = .ret (tc (ren ks vs) (.tup xs)) μ := by
          simp (disch := first | assumption | omega | (refine leline ?_; simp only [List.length_cons, List.length_nil, List.length_append]; omega)) [List.getElem?_cons_zero, List.getElem?_cons_succ, runFn, evSs, evS, evE, evEs, evAnd, evOr, evIfs, Out.next, Res.out, Res.bind, Res.of, Out.of, asg, asgs, partOf, Out.fin, truth, slice_hi, slice_lo, recv_get2, get2_ok, op2_tup, op2_str, end_get, leline0, leline1, leline2, leline3, leline4, leline5, leline6, leline7, leline8, leline9, leline10, leline11, leline12, leline13, leline14, leline15, leline16, tc]
        cases hf : fPlace xs with
        | zero =>
          rw [hf] at hr
          cases xs with
          | nil =>
            refine st (iff_f (v := .tup []) (μ1 := μ) ?_ rfl rfl) hr
            simp (disch := first | assumption | omega | (refine leline ?_; simp only [List.length_cons, List.length_nil, List.length_append]; omega)) [List.getElem?_cons_zero, List.getElem?_cons_succ, runFn, evSs, evS, evE, evEs, evAnd, evOr, evIfs, Out.next, Res.out, Res.bind, Res.of, Out.of, asg, asgs, partOf, Out.fin, truth, slice_hi, slice_lo, recv_get2, get2_ok, op2_tup, op2_str, end_get, leline0, leline1, leline2, leline3, leline4, leline5, leline6, leline7, leline8, leline9, leline10, leline11, leline12, leline13, leline14, leline15, leline16, listOf]
          | cons x r =>
            refine st (iff_f (v := .bl false) (μ1 := μ) ?_ rfl rfl) hr
            cases x with
            | str s =>
              have g : getIx tau μ (.tup (.str s :: r)) (.int 0) = some (.str s) := getIx_tup rfl
              have e : isTy tau μ (.str s) .str = some true := rfl
              have hp : cmpIn tau μ (.str s) (.gd 0) = some false := by
                have : decide (s = "wrap") = false ∧ decide (s = "guard") = false ∧ decide (s = "notice") = false := by
                  simp only [fPlace] at hf
                  split at hf
                  · cases hf
                  · split at hf
                    · cases hf
                    · split at hf
                      · cases hf
                      · simp [*]
                show some (hasP _ _) = _
                rw [hasF, this.1, this.2.1, this.2.2]
                rfl
              simp (disch := first | assumption | omega | (refine leline ?_; simp only [List.length_cons, List.length_nil, List.length_append]; omega)) [List.getElem?_cons_zero, List.getElem?_cons_succ, runFn, evSs, evS, evE, evEs, evAnd, evOr, evIfs, Out.next, Res.out, Res.bind, Res.of, Out.of, asg, asgs, partOf, Out.fin, truth, slice_hi, slice_lo, recv_get2, get2_ok, op2_tup, op2_str, end_get, leline0, leline1, leline2, leline3, leline4, leline5, leline6, leline7, leline8, leline9, leline10, leline11, leline12, leline13, leline14, leline15, leline16, prim, g, e, k0, cmp, hp, listOf]
            | int i =>
              have g : getIx tau μ (.tup (.int i :: r)) (.int 0) = some (.int i) := getIx_tup rfl
              have e : isTy tau μ (.int i) .str = some false := rfl
              simp (disch := first | assumption | omega | (refine leline ?_; simp only [List.length_cons, List.length_nil, List.length_append]; omega)) [List.getElem?_cons_zero, List.getElem?_cons_succ, runFn, evSs, evS, evE, evEs, evAnd, evOr, evIfs, Out.next, Res.out, Res.bind, Res.of, Out.of, asg, asgs, partOf, Out.fin, truth, slice_hi, slice_lo, recv_get2, get2_ok, op2_tup, op2_str, end_get, leline0, leline1, leline2, leline3, leline4, leline5, leline6, leline7, leline8, leline9, leline10, leline11, leline12, leline13, leline14, leline15, leline16, prim, g, e, listOf]
            | tup ys =>
              have g : getIx tau μ (.tup (.tup ys :: r)) (.int 0) = some (.tup ys) := getIx_tup rfl
              have e : isTy tau μ (.tup ys) .str = some false := rfl
              simp (disch := first | assumption | omega | (refine leline ?_; simp only [List.length_cons, List.length_nil, List.length_append]; omega)) [List.getElem?_cons_zero, List.getElem?_cons_succ, runFn, evSs, evS, evE, evEs, evAnd, evOr, evIfs, Out.next, Res.out, Res.bind, Res.of, Out.of, asg, asgs, partOf, Out.fin, truth, slice_hi, slice_lo, recv_get2, get2_ok, op2_tup, op2_str, end_get, leline0, leline1, leline2, leline3, leline4, leline5, leline6, leline7, leline8, leline9, leline10, leline11, leline12, leline13, leline14, leline15, leline16, prim, g, e, listOf]
            | _ => simp [okTs, okT] at hx
        | succ i =>
          obtain ⟨h3, s, hs⟩ := len3 hh hf
          rw [hf] at hr
          obtain ⟨w, r, rfl⟩ : ∃ w r, xs = .str w :: r := by
            unfold fPlace at hf
            split at hf
            · exact ⟨_, _, rfl⟩
            · cases hf
          have g : getIx tau μ (.tup (.str w :: r)) (.int 0) = some (.str w) := getIx_tup rfl
          have e : isTy tau μ (.str w) .str = some true := rfl
          have gl : getIx tau μ (.gd 0) (.str w) = some (.int ((i + 1 : Nat) : Int)) := lookF hf
          have hp : cmpIn tau μ (.str w) (.gd 0) = some true := by
            show some (hasP _ _) = _
            rw [hasF]
            simp only [fPlace] at hf
            split at hf
            · simp [*]
            · split at hf
              · simp [*]
              · split at hf
                · simp [*]
                · cases hf
          obtain ⟨x, y, z, r', hr'⟩ := ex3 (ys := tcs (ren ks vs) (.str w :: r)) (by rw [tcs_len]; exact h3)
          have hlr : r'.length ≤ 100 := by
            have := congrArg List.length hr'
            rw [tcs_len] at this
            simp at this hl
            omega
          have hs' := tcs_get (f := ren ks vs) hs
          rw [hr'] at hs'
          have h12 := place_12 hf
          have hs2 : [x, y, z][i + 1]? = some (.str s) := by
            rcases h12 with q | q <;> rw [q] at hs' ⊢ <;> simpa using hs'
          have hpp : (PV.tup (putF (ren ks vs) (i + 1) (tcs (ren ks vs) (.str w :: r)))).refLt 0 = true := by
            have := tc_ref hn _ h
            simpa only [tc, hf] using this
          have hts : (PV.tup (tcs (ren ks vs) (.str w :: r))).refLt 0 = true := by simp only [PV.refLt, tcs_ref hn _ hx]
          obtain ⟨n', rfl⟩ : ∃ n', n = n' + 1 := ⟨n - 1, by omega⟩
          obtain ⟨p, hpz⟩ : ∃ p : Int, ((i + 1 : Nat) : Int) = p := ⟨_, rfl⟩
          rw [hpz] at gl
          have hcall := call0 (b := b) (f := 2) (μ := μ) (Φ := callN tau Dl 100 (n' + 1)) (vs := [.tup (tcs (ren ks vs) (.str w :: r)), .int p, .dct ks vs]) (by
            simp only [PV.refsLt, hts, Bool.true_and, Bool.and_true]
            simp only [PV.refLt, hk.1, hk.2, Bool.and_self]) (by
            rw [hr', ← hpz]
            exact put_at_ok h12 hlr hs2) (by rw [← hr']; exact hpp)
          rw [← hr'] at hcall
          refine st (iff_t (v := .bl true) (μ1 := μ) ?_ rfl (st (evS_set (v := .tup (putF (ren ks vs) (i + 1) (tcs (ren ks vs) (.str w :: r)))) (μ1 := μ) ?_ rfl) rfl)) hr
          · simp (disch := first | assumption | omega | (refine leline ?_; simp only [List.length_cons, List.length_nil, List.length_append]; omega)) [List.getElem?_cons_zero, List.getElem?_cons_succ, runFn, evSs, evS, evE, evEs, evAnd, evOr, evIfs, Out.next, Res.out, Res.bind, Res.of, Out.of, asg, asgs, partOf, Out.fin, truth, slice_hi, slice_lo, recv_get2, get2_ok, op2_tup, op2_str, end_get, leline0, leline1, leline2, leline3, leline4, leline5, leline6, leline7, leline8, leline9, leline10, leline11, leline12, leline13, leline14, leline15, leline16, prim, g, e, k0, cmp, hp, listOf]
          · simp (disch := first | assumption | omega | (refine leline ?_; simp only [List.length_cons, List.length_nil, List.length_append]; omega)) [List.getElem?_cons_zero, List.getElem?_cons_succ, runFn, evSs, evS, evE, evEs, evAnd, evOr, evIfs, Out.next, Res.out, Res.bind, Res.of, Out.of, asg, asgs, partOf, Out.fin, truth, slice_hi, slice_lo, recv_get2, get2_ok, op2_tup, op2_str, end_get, leline0, leline1, leline2, leline3, leline4, leline5, leline6, leline7, leline8, leline9, leline10, leline11, leline12, leline13, leline14, leline15, leline16, g, k0, gl, hcall]

theorem asgs_nil {σ : Loc} : asgs [] [] σ = some σ := rfl
theorem due_ok {ks vs : List PV} (hn : NmD ks vs) : ∀ (n : Nat) (v : PV) (b : Nat) (μ : Sto), okT v = true → v.dep < n → ∃ μ', callN tau Dl 100 n 10 [v, .dct ks vs] b μ = .ok (tc (ren ks vs) v, μ')
  | 0, v, b, μ, _, hd => absurd hd (Nat.not_lt_zero _)
  | n + 1, v, b, μ, h, hd => by
    rw [callN_succ (fn := T__law_due) rfl]
    have hk := hn.refs
    rcases okT_cases h with ⟨i, rfl⟩ | ⟨s, rfl, _⟩ | ⟨xs, rfl, hx, hh, hl⟩
    · have e : isTy tau μ (.int i) .tuple = some false := rfl
      refine ⟨μ, ?_⟩
      simp (disch := first | assumption | omega | (refine leline ?_; simp only [List.length_cons, List.length_nil, List.length_append]; omega)) [List.getElem?_cons_zero, List.getElem?_cons_succ, runFn, evSs, evS, evE, evEs, evAnd, evOr, evIfs, Out.next, Res.out, Res.bind, Res.of, Out.of, asg, asgs, partOf, Out.fin, truth, slice_hi, slice_lo, recv_get2, get2_ok, op2_tup, op2_str, end_get, leline0, leline1, leline2, leline3, leline4, leline5, leline6, leline7, leline8, leline9, leline10, leline11, leline12, leline13, leline14, leline15, leline16, T__law_due, prim, isT_dict, e, tc]
    · have e : isTy tau μ (.str s) .tuple = some false := rfl
      refine ⟨μ, ?_⟩
      simp (disch := first | assumption | omega | (refine leline ?_; simp only [List.length_cons, List.length_nil, List.length_append]; omega)) [List.getElem?_cons_zero, List.getElem?_cons_succ, runFn, evSs, evS, evE, evEs, evAnd, evOr, evIfs, Out.next, Res.out, Res.bind, Res.of, Out.of, asg, asgs, partOf, Out.fin, truth, slice_hi, slice_lo, recv_get2, get2_ok, op2_tup, op2_str, end_get, leline0, leline1, leline2, leline3, leline4, leline5, leline6, leline7, leline8, leline9, leline10, leline11, leline12, leline13, leline14, leline15, leline16, T__law_due, prim, isT_dict, e, tc]
    · have hd' : PV.deps xs < n := by simp only [PV.dep] at hd; omega
      have sub : ∀ (x : PV), x ∈ xs → ∀ (b : Nat) (μ : Sto), callBy (callN tau Dl 100 n) b 10 0 [x, .dct ks vs] μ = .ok (tc (ren ks vs) x, μ) := fun x hx' b μ => by
        have hxx := okTs_mem hx x hx'
        have := deps_mem hx'
        obtain ⟨μ', e⟩ := due_ok hn n x 0 [] hxx (by omega)
        exact call0 (by simp only [PV.refsLt, PV.refLt, okT_ref x hxx, hk.1, hk.2, Bool.and_self]) e (tc_ref hn x hxx)
      have hll : xs.length ≤ line := Nat.le_trans hl (by decide)
      have gr : (μ ++ [some (MO.lst (tcs (ren ks vs) xs))])[μ.length]? = some (some (.lst (tcs (ren ks vs) xs))) := by simp
      suffices hs : ∃ μ', evSs tau (callN tau Dl 100 n) b 100 (T__law_due.body.drop 2) [some (.tup xs), some (.dct ks vs), some (.ref μ.length), none, none] (μ ++ [some (.lst (tcs (ren ks vs) xs))]) = .ret (tc (ren ks vs) (.tup xs)) μ' by
        obtain ⟨μ', hs⟩ := hs
        refine ⟨μ', ?_⟩
        refine run_ret [some (.tup xs), some (.dct ks vs), none, none, none] rfl rfl (st (iff_f (v := .bl false) (μ1 := μ) (by simp (disch := first | assumption | omega | (refine leline ?_; simp only [List.length_cons, List.length_nil, List.length_append]; omega)) [List.getElem?_cons_zero, List.getElem?_cons_succ, runFn, evSs, evS, evE, evEs, evAnd, evOr, evIfs, Out.next, Res.out, Res.bind, Res.of, Out.of, asg, asgs, partOf, Out.fin, truth, slice_hi, slice_lo, recv_get2, get2_ok, op2_tup, op2_str, end_get, leline0, leline1, leline2, leline3, leline4, leline5, leline6, leline7, leline8, leline9, leline10, leline11, leline12, leline13, leline14, leline15, leline16, prim, isT_tup]) rfl rfl) (st (evS_set (v := .ref μ.length) (evE_lc1 (p := [.tup xs]) (xs := xs) (g := tc (ren ks vs)) rfl rfl (fun x hx' => ⟨_, rfl, ?_⟩) hll) rfl) ?_))
        · have e := sub x hx' b μ
          simp (disch := first | assumption | omega | (refine leline ?_; simp only [List.length_cons, List.length_nil, List.length_append]; omega)) [List.getElem?_cons_zero, List.getElem?_cons_succ, runFn, evSs, evS, evE, evEs, evAnd, evOr, evIfs, Out.next, Res.out, Res.bind, Res.of, Out.of, asg, asgs, partOf, Out.fin, truth, slice_hi, slice_lo, recv_get2, get2_ok, op2_tup, op2_str, end_get, leline0, leline1, leline2, leline3, leline4, leline5, leline6, leline7, leline8, leline9, leline10, leline11, leline12, leline13, leline14, leline15, leline16, wipeP, e]
        · rw [← tcs_map]
          exact hs
      cases hf : fPlace xs with
      | zero =>
        have hr : tc (ren ks vs) (.tup xs) = .tup (tcs (ren ks vs) xs) := by simp only [tc, hf, putF, if_true]
        refine ⟨μ ++ [some (.lst (tcs (ren ks vs) xs))], st (iff_f (v := .bl false) (μ1 := μ ++ [some (.lst (tcs (ren ks vs) xs))]) ?_ rfl rfl) (st_ret (by rw [hr]; simp (disch := first | assumption | omega | (refine leline ?_; simp only [List.length_cons, List.length_nil, List.length_append]; omega)) [List.getElem?_cons_zero, List.getElem?_cons_succ, runFn, evSs, evS, evE, evEs, evAnd, evOr, evIfs, Out.next, Res.out, Res.bind, Res.of, Out.of, asg, asgs, partOf, Out.fin, truth, slice_hi, slice_lo, recv_get2, get2_ok, op2_tup, op2_str, end_get, leline0, leline1, leline2, leline3, leline4, leline5, leline6, leline7, leline8, leline9, leline10, leline11, leline12, leline13, leline14, leline15, leline16, prim, listOf, gr]))⟩
        by_cases hlen : 2 < xs.length
        · cases xs with
          | nil => simp at hlen
          | cons x r =>
            have hl2 : decide ((2 : Int) < (r.length : Int) + 1) = true := by
              simp only [List.length_cons] at hlen
              exact decide_eq_true (by omega)
            cases x with
            | str s =>
              have g : ∀ μ, getIx tau μ (.tup (.str s :: r)) (.int 0) = some (.str s) := fun μ => getIx_tup rfl
              have e : ∀ μ, isTy tau μ (.str s) .str = some true := fun _ => rfl
              have hp : ∀ μ, cmpIn tau μ (.str s) (.tup [.str "wrap", .str "guard", .str "notice"]) = some false := fun μ => by
                simp only [fPlace] at hf
                split at hf
                · cases hf
                · split at hf
                  · cases hf
                  · split at hf
                    · cases hf
                    · rename_i h1 h2 h3
                      simp [cmpIn, PV.flat, inP, PV.feq, Ne.symm h1, Ne.symm h2, Ne.symm h3]
              simp (disch := first | assumption | omega | (refine leline ?_; simp only [List.length_cons, List.length_nil, List.length_append]; omega)) [List.getElem?_cons_zero, List.getElem?_cons_succ, runFn, evSs, evS, evE, evEs, evAnd, evOr, evIfs, Out.next, Res.out, Res.bind, Res.of, Out.of, asg, asgs, partOf, Out.fin, truth, slice_hi, slice_lo, recv_get2, get2_ok, op2_tup, op2_str, end_get, leline0, leline1, leline2, leline3, leline4, leline5, leline6, leline7, leline8, leline9, leline10, leline11, leline12, leline13, leline14, leline15, leline16, prim, g, e, cmp, hp, hl2]
            | int i =>
              have g : ∀ μ, getIx tau μ (.tup (.int i :: r)) (.int 0) = some (.int i) := fun μ => getIx_tup rfl
              have e : ∀ μ, isTy tau μ (.int i) .str = some false := fun _ => rfl
              simp (disch := first | assumption | omega | (refine leline ?_; simp only [List.length_cons, List.length_nil, List.length_append]; omega)) [List.getElem?_cons_zero, List.getElem?_cons_succ, runFn, evSs, evS, evE, evEs, evAnd, evOr, evIfs, Out.next, Res.out, Res.bind, Res.of, Out.of, asg, asgs, partOf, Out.fin, truth, slice_hi, slice_lo, recv_get2, get2_ok, op2_tup, op2_str, end_get, leline0, leline1, leline2, leline3, leline4, leline5, leline6, leline7, leline8, leline9, leline10, leline11, leline12, leline13, leline14, leline15, leline16, prim, g, e, cmp, hl2]
            | tup ys =>
              have g : ∀ μ, getIx tau μ (.tup (.tup ys :: r)) (.int 0) = some (.tup ys) := fun μ => getIx_tup rfl
              have e : ∀ μ, isTy tau μ (.tup ys) .str = some false := fun _ => rfl
              simp (disch := first | assumption | omega | (refine leline ?_; simp only [List.length_cons, List.length_nil, List.length_append]; omega)) [List.getElem?_cons_zero, List.getElem?_cons_succ, runFn, evSs, evS, evE, evEs, evAnd, evOr, evIfs, Out.next, Res.out, Res.bind, Res.of, Out.of, asg, asgs, partOf, Out.fin, truth, slice_hi, slice_lo, recv_get2, get2_ok, op2_tup, op2_str, end_get, leline0, leline1, leline2, leline3, leline4, leline5, leline6, leline7, leline8, leline9, leline10, leline11, leline12, leline13, leline14, leline15, leline16, prim, g, e, cmp, hl2]
            | _ => simp [okTs, okT] at hx
        · have hl2 : decide ((2 : Int) < (xs.length : Int)) = false := decide_eq_false (by omega)
          simp (disch := first | assumption | omega | (refine leline ?_; simp only [List.length_cons, List.length_nil, List.length_append]; omega)) [List.getElem?_cons_zero, List.getElem?_cons_succ, runFn, evSs, evS, evE, evEs, evAnd, evOr, evIfs, Out.next, Res.out, Res.bind, Res.of, Out.of, asg, asgs, partOf, Out.fin, truth, slice_hi, slice_lo, recv_get2, get2_ok, op2_tup, op2_str, end_get, leline0, leline1, leline2, leline3, leline4, leline5, leline6, leline7, leline8, leline9, leline10, leline11, leline12, leline13, leline14, leline15, leline16, prim, cmp, hl2]
      | succ i =>
        obtain ⟨h3, s, hs⟩ := len3 hh hf
        have hs' := tcs_get (f := ren ks vs) hs
        have hr : tc (ren ks vs) (.tup xs) = .tup ((tcs (ren ks vs) xs).set (i + 1) (ren ks vs (.str s))) := by simp only [tc, hf, putF, hs', Nat.succ_ne_zero, if_false]
        obtain ⟨w, r, rfl⟩ : ∃ w r, xs = .str w :: r := by
          unfold fPlace at hf
          split at hf
          · exact ⟨_, _, rfl⟩
          · cases hf
        have hw : PyData.strOk w = true := by
          simp only [okTs, okT, Bool.and_eq_true] at hx
          exact hx.1
        have g : ∀ μ, getIx tau μ (.tup (.str w :: r)) (.int 0) = some (.str w) := fun μ => getIx_tup rfl
        have e : ∀ μ, isTy tau μ (.str w) .str = some true := fun _ => rfl
        have hp : ∀ μ, cmpIn tau μ (.str w) (.tup [.str "wrap", .str "guard", .str "notice"]) = some true := fun μ => by
          simp only [fPlace] at hf
          split at hf
          · simp [cmpIn, PV.flat, inP, PV.feq, *]
          · split at hf
            · simp [cmpIn, PV.flat, inP, PV.feq, *]
            · split at hf
              · simp [cmpIn, PV.flat, inP, PV.feq, *]
              · cases hf
        obtain ⟨q, hq, hqi⟩ : ∃ q : Bool, (∀ μ, cmpEq μ (.str w) (.str "wrap") = some q) ∧ (1 + (if q then 1 else 0) : Int) = ((i + 1 : Nat) : Int) := by
          refine ⟨w == "wrap", fun μ => eq_str hw (by decide +kernel), ?_⟩
          simp only [fPlace] at hf
          split at hf
          · rename_i e; subst e; have : i = 1 := by omega
            subst this
            simp
          · rename_i e
            have e' : (w == ("wrap" : Str)) = false := by simpa using e
            rw [e']
            split at hf
            · have : i = 0 := by omega
              subst this
              rfl
            · split at hf
              · have : i = 0 := by omega
                subst this
                rfl
              · cases hf
        obtain ⟨p, hpz⟩ : ∃ p : Int, ((i + 1 : Nat) : Int) = p := ⟨_, rfl⟩
        have gs : ∀ μ, getIx tau μ (.tup (.str w :: r)) (.int p) = some (.str s) := fun μ => by
          rw [← hpz]
          exact getIx_tup (by rw [Int.toNat_natCast]; exact hs)
        have hl2 : decide ((2 : Int) < (r.length : Int) + 1) = true := by
          simp only [List.length_cons] at h3
          exact decide_eq_true (by omega)
        have hix : L2.ixN (tcs (ren ks vs) (.str w :: r)).length p = some (i + 1) := by
          have := (List.getElem?_eq_some_iff.mp hs').1
          rw [← hpz]
          unfold L2.ixN
          rw [if_pos (by omega), if_pos (by omega), Int.toNat_natCast]
        have hmw : ∀ b k : Nat, mayWrite b k (ren ks vs (.str s)) = true := fun b k => by
          have : (ren ks vs (.str s)).refLt 0 = true := by
            unfold ren
            cases e : lookP ks vs (.str s) with
            | none => rfl
            | some v => exact refsLt_iff.mp hk.2 v (lookP_mem e)
          unfold mayWrite
          rw [this, Bool.or_true]
        rw [hpz] at hqi
        refine ⟨μ ++ [some (.lst ((tcs (ren ks vs) (.str w :: r)).set (i + 1) (ren ks vs (.str s))))], st (iff_t (v := .bl true) (μ1 := μ ++ [some (.lst (tcs (ren ks vs) (.str w :: r)))]) ?_ rfl (st (evS_set (v := .int p) (μ1 := μ ++ [some (.lst (tcs (ren ks vs) (.str w :: r)))]) ?_ rfl) (st (σ1 := [some (.tup (.str w :: r)), some (.dct ks vs), some (.ref μ.length), some (.int p), none]) (μ1 := μ ++ [some (.lst ((tcs (ren ks vs) (.str w :: r)).set (i + 1) (ren ks vs (.str s))))]) ?_ rfl))) (st_ret (by rw [hr]; simp (disch := first | assumption | omega | (refine leline ?_; simp only [List.length_cons, List.length_nil, List.length_append]; omega)) [List.getElem?_cons_zero, List.getElem?_cons_succ, runFn, evSs, evS, evE, evEs, evAnd, evOr, evIfs, Out.next, Res.out, Res.bind, Res.of, Out.of, asg, asgs, partOf, Out.fin, truth, slice_hi, slice_lo, recv_get2, get2_ok, op2_tup, op2_str, end_get, leline0, leline1, leline2, leline3, leline4, leline5, leline6, leline7, leline8, leline9, leline10, leline11, leline12, leline13, leline14, leline15, leline16, prim, listOf]))⟩
        · simp (disch := first | assumption | omega | (refine leline ?_; simp only [List.length_cons, List.length_nil, List.length_append]; omega)) [List.getElem?_cons_zero, List.getElem?_cons_succ, runFn, evSs, evS, evE, evEs, evAnd, evOr, evIfs, Out.next, Res.out, Res.bind, Res.of, Out.of, asg, asgs, partOf, Out.fin, truth, slice_hi, slice_lo, recv_get2, get2_ok, op2_tup, op2_str, end_get, leline0, leline1, leline2, leline3, leline4, leline5, leline6, leline7, leline8, leline9, leline10, leline11, leline12, leline13, leline14, leline15, leline16, prim, g, e, cmp, hp, hl2]
        · simp (disch := first | assumption | omega | (refine leline ?_; simp only [List.length_cons, List.length_nil, List.length_append]; omega)) [List.getElem?_cons_zero, List.getElem?_cons_succ, runFn, evSs, evS, evE, evEs, evAnd, evOr, evIfs, Out.next, Res.out, Res.bind, Res.of, Out.of, asg, asgs, partOf, Out.fin, truth, slice_hi, slice_lo, recv_get2, get2_ok, op2_tup, op2_str, end_get, leline0, leline1, leline2, leline3, leline4, leline5, leline6, leline7, leline8, leline9, leline10, leline11, leline12, leline13, leline14, leline15, leline16, prim, g, e, cmp, hq, hqi]
        · have hgd : (lookP ks vs (.str s)).getD (.str s) = ren ks vs (.str s) := rfl
          simp (disch := first | assumption | omega | (refine leline ?_; simp only [List.length_cons, List.length_nil, List.length_append]; omega)) [List.getElem?_cons_zero, List.getElem?_cons_succ, runFn, evSs, evS, evE, evEs, evAnd, evOr, evIfs, Out.next, Res.out, Res.bind, Res.of, Out.of, asg, asgs, partOf, Out.fin, truth, slice_hi, slice_lo, recv_get2, get2_ok, op2_tup, op2_str, end_get, leline0, leline1, leline2, leline3, leline4, leline5, leline6, leline7, leline8, leline9, leline10, leline11, leline12, leline13, leline14, leline15, leline16, gs, setItem, gr, hix, hgd, hmw, setObj]
end Ev.K51


set_option Elab.async false
set_option linter.all false
set_option maxRecDepth 100000
set_option maxHeartbeats 4000000
namespace Ev.K51

open PySem
/-- a def that draws from the pool at its first argument -/
def Drw (Φ : Calls) (f : Nat) (as : List PV) (Q : PV → Prop) : Prop := ∀ (μ0 ν : Sto) (p s : Int) (b : Nat), ∃ v p' s', Q v ∧ callBy Φ b f 1 (.ref μ0.length :: as) (μ0 ++ Pl p s :: ν) = .ok (v, μ0 ++ Pl p' s' :: ν)
theorem Drw.mono {Φ : Calls} {f : Nat} {as : List PV} {Q R : PV → Prop} (h : Drw Φ f as Q) (k : ∀ v, Q v → R v) : Drw Φ f as R := fun μ0 ν p s b => by
  obtain ⟨v, p', s', q, e⟩ := h μ0 ν p s b
  exact ⟨v, p', s', k v q, e⟩
theorem Drw.of {Φ : Calls} {f : Nat} {as : List PV} {Q : PV → Prop} (h : ∀ (μ0 ν : Sto) (p s : Int) (b : Nat), ∃ v p' s', (Q v ∧ v.refLt 0 = true) ∧ Φ f (.ref μ0.length :: as) b (μ0 ++ Pl p s :: ν) = .ok (v, μ0 ++ Pl p' s' :: ν)) : Drw Φ f as Q := fun μ0 ν p s b => by
  obtain ⟨v, p', s', ⟨q, r⟩, e⟩ := h μ0 ν p s (μ0 ++ Pl p s :: ν).length
  exact ⟨v, p', s', q, call1' e r (by simp)⟩
theorem take_drw (n : Nat) (m : Int) (hm : 0 < m := by omega) (hm2 : m < 1073741824 := by omega) : Drw (callN tau Dl 100 (n + 1)) 5 [.int m] fun v => ∃ r, v = .int r ∧ 0 ≤ r ∧ r < m := .of fun μ0 ν p s b => by
  obtain ⟨r, p', s', ⟨h0, h1⟩, e⟩ := take_ok (τ := tau) (Δ := Dl) (wf := 100) (n := n) (f := 5) rfl μ0 ν p s m b hm hm2
  exact ⟨_, p', s', ⟨⟨r, rfl, h0, h1⟩, by simp only [PV.refLt]⟩, e⟩
theorem number_drw (n : Nat) : Drw (callN tau Dl 100 (n + 2)) 6 [] fun v => ∃ i, v = .int i ∧ 0 ≤ i ∧ i < 10 ^ 60 := .of fun μ0 ν p s b => by
  rw [callN_succ (fn := T__law_number) rfl]
  obtain ⟨_, p1, s1, ⟨r1, rfl, h1, h1'⟩, e1⟩ := take_drw n 9 (by omega) (by omega) μ0 ν p s b
  obtain ⟨_, p2, s2, ⟨r2, rfl, h2, h2'⟩, e2⟩ := take_drw n 7 (by omega) (by omega) μ0 ν p1 s1 b
  have o1 : ∀ μ, op2 .pow false (.int 10) (.int 30) μ = some (.int (10 ^ 30), μ) := fun μ => rfl
  have o2 : ∀ μ, op2 .pow false (.int 10) (.int 59) μ = some (.int (10 ^ 59), μ) := fun μ => rfl
  obtain ⟨v, hv, hv0, hv1⟩ : ∃ v, (∀ μ, getIx tau μ (.lst [.int 0, .int 1, .int 9, .int 10, .int 12, .int (10 ^ 30), .int (10 ^ 59 + r1)]) (.int r2) = some (.int v)) ∧ 0 ≤ v ∧ v < 10 ^ 60 := by
    have : r2 = 0 ∨ r2 = 1 ∨ r2 = 2 ∨ r2 = 3 ∨ r2 = 4 ∨ r2 = 5 ∨ r2 = 6 := by omega
    rcases this with rfl | rfl | rfl | rfl | rfl | rfl | rfl
    · exact ⟨0, fun μ => getIx_lst rfl, by omega, by omega⟩
    · exact ⟨1, fun μ => getIx_lst rfl, by omega, by omega⟩
    · exact ⟨9, fun μ => getIx_lst rfl, by omega, by omega⟩
    · exact ⟨10, fun μ => getIx_lst rfl, by omega, by omega⟩
    · exact ⟨12, fun μ => getIx_lst rfl, by omega, by omega⟩
    · exact ⟨10 ^ 30, fun μ => getIx_lst rfl, by omega, by omega⟩
    · exact ⟨10 ^ 59 + r1, fun μ => getIx_lst rfl, by omega, by omega⟩
  refine ⟨_, p2, s2, ⟨⟨v, rfl, hv0, hv1⟩, by simp only [PV.refLt]⟩, ?_⟩
  refine run_ret [some (.ref μ0.length)] rfl rfl (st_ret (evS_ret ?_))
  simp (disch := first | assumption | omega | (refine leline ?_; simp only [List.length_cons, List.length_nil, List.length_append]; omega)) only [List.getElem?_cons_zero, List.getElem?_cons_succ, runFn, evSs, evS, evE, evEs, evAnd, evOr, evIfs, Out.next, Res.out, Res.bind, Res.of, Out.of, asg, asgs, partOf, Out.fin, truth, slice_hi, slice_lo, recv_get2, get2_ok, op2_tup, op2_str, end_get, leline0, leline1, leline2, leline3, leline4, leline5, leline6, leline7, leline8, leline9, leline10, leline11, leline12, leline13, leline14, leline15, leline16, o1, o2, e1, e2, op2_add, newL, hv, Option.map_some, if_true, Bool.false_eq_true, if_false, List.length_cons, List.length_nil, Nat.reduceAdd]
end Ev.K51


set_option Elab.async false
set_option linter.all false
set_option maxRecDepth 100000
set_option maxHeartbeats 4000000
namespace Ev.K51

open PySem
def nms : List Str := ["a", "wraps", "zzzzzzzz", "send"]
def nmH (xs : List PV) : Bool := match fPlace xs with
  | 0 => true
  | i + 1 => match xs[i + 1]? with
    | some (.str s) => decide (s ∈ nms)
    | _ => false
mutual
def nmT : PV → Bool
  | .tup xs => nmTs xs && nmH xs
  | _ => true
def nmTs : List PV → Bool
  | [] => true
  | x :: xs => nmT x && nmTs xs
end
def Wt : Nat → Nat
  | 0 => 200
  | d + 1 => 6 * Wt d + 250
structure Itm (d : Nat) (v : PV) : Prop where
  ok : okT v = true
  dep : v.dep ≤ 2 + 2 * d
  wt : v.wt ≤ Wt d
  nm : nmT v = true
  ns : ∀ w, v ≠ .str w
theorem Wt_ge (d : Nat) : 200 ≤ Wt d := by
  induction d with
  | zero => exact Nat.le_refl _
  | succ d ih => simp only [Wt]; omega
theorem Itm.mono {d : Nat} {v : PV} (h : Itm d v) : Itm (d + 1) v := ⟨h.ok, by have := h.dep; omega, by have := h.wt; simp only [Wt]; omega, h.nm, h.ns⟩
theorem okTs_of {xs : List PV} (h : ∀ x ∈ xs, okT x = true) : okTs xs = true := by
  induction xs with
  | nil => simp only [okTs]
  | cons x xs ih => simp only [okTs, h x (List.mem_cons_self ..), ih fun y hy => h y (List.mem_cons_of_mem _ hy), Bool.and_self]
theorem nmTs_of {xs : List PV} (h : ∀ x ∈ xs, nmT x = true) : nmTs xs = true := by
  induction xs with
  | nil => simp only [nmTs]
  | cons x xs ih => simp only [nmTs, h x (List.mem_cons_self ..), ih fun y hy => h y (List.mem_cons_of_mem _ hy), Bool.and_self]
theorem wts_le {xs : List PV} {k : Nat} (h : ∀ x ∈ xs, x.wt ≤ k) : PV.wts xs ≤ xs.length * (k + 2) := by
  induction xs with
  | nil => simp [PV.wts]
  | cons x xs ih =>
    have h1 := h x (List.mem_cons_self ..)
    have h2 := ih fun y hy => h y (List.mem_cons_of_mem _ hy)
    simp only [PV.wts, List.length_cons, Nat.add_mul, Nat.one_mul]
    omega
theorem deps_le {xs : List PV} {k : Nat} (h : ∀ x ∈ xs, x.dep ≤ k) : PV.deps xs ≤ k := by
  induction xs with
  | nil => simp [PV.deps]
  | cons x xs ih =>
    have h1 := h x (List.mem_cons_self ..)
    have h2 := ih fun y hy => h y (List.mem_cons_of_mem _ hy)
    simp only [PV.deps]
    omega
theorem ok_tag {w : Str} {r : List PV} (h : fPlace [.str w] = 0) (h2 : PyData.strOk w = true) (hr : okTs r = true) (hl : r.length ≤ 99) : okT (.tup (.str w :: r)) = true := by
  have e : fPlace (.str w :: r) = 0 := h
  simp only [okT, okTs, okH, e, h2, hr, List.length_cons, Bool.true_and, decide_eq_true_eq]
  omega
theorem nm_tag {w : Str} {r : List PV} (h : fPlace [.str w] = 0) (hr : nmTs r = true) : nmT (.tup (.str w :: r)) = true := by
  have e : fPlace (.str w :: r) = 0 := h
  simp only [nmT, nmTs, nmH, e, hr, Bool.true_and]
theorem place_seq {xs : List PV} (h : ∀ x ∈ xs, ∀ w, x ≠ .str w) : fPlace xs = 0 := by
  cases xs with
  | nil => rfl
  | cons x r =>
    cases x with
    | str s => exact absurd rfl (h _ (List.mem_cons_self ..) s)
    | _ => rfl
theorem seq_itm {xs : List PV} {d : Nat} (h : ∀ x ∈ xs, Itm d x) (hl : xs.length ≤ 6) : okT (.tup xs) = true ∧ nmT (.tup xs) = true ∧ (PV.tup xs).dep ≤ 2 + 2 * d + 1 ∧ (PV.tup xs).wt ≤ 4 + xs.length * (Wt d + 2) := by
  have e := place_seq fun x hx => (h x hx).ns
  refine ⟨?_, ?_, ?_, ?_⟩
  · simp only [okT, okH, e, okTs_of fun x hx => (h x hx).ok, Bool.true_and, decide_eq_true_eq]
    omega
  · simp only [nmT, nmH, e, nmTs_of fun x hx => (h x hx).nm, Bool.and_self]
  · have := deps_le fun x hx => (h x hx).dep
    simp only [PV.dep]
    omega
  · have := wts_le fun x hx => (h x hx).wt
    simp only [PV.wt]
    omega
theorem int_itm {i : Int} (h : i.natAbs ≤ 10 ^ 60) (d : Nat) : Itm d (.int i) := ⟨by simp only [okT, decide_eq_true_eq]; omega, by simp [PV.dep], by have := Wt_ge d; simp only [PV.wt]; omega, by simp only [nmT], by simp⟩
theorem okI {i : Int} (h : i.natAbs ≤ 10 ^ 60) : okT (.int i) = true := (int_itm h 0).ok
theorem nil_ok : okTs [] = true := rfl
theorem one_ok {x : PV} (h : okT x = true) : okTs [x] = true := by simp only [okTs, h, Bool.and_self]
theorem two_ok {x y : PV} (h : okT x = true) (h2 : okT y = true) : okTs [x, y] = true := by simp only [okTs, h, h2, Bool.and_self]
theorem one_nm {x : PV} (h : nmT x = true) : nmTs [x] = true := by simp only [nmTs, h, Bool.and_self]
theorem two_nm {x y : PV} (h : nmT x = true) (h2 : nmT y = true) : nmTs [x, y] = true := by simp only [nmTs, h, h2, Bool.and_self]
theorem nmI {i : Int} : nmT (.int i) = true := by simp only [nmT]
theorem nmS {s : Str} : nmT (.str s) = true := by simp only [nmT]
/-- the small tagged ones -/
theorem leaf1 {w : Str} (d : Nat) (h : fPlace [.str w] = 0 := by rfl) (h2 : PyData.strOk w = true := by decide +kernel) (h3 : 10 * w.length + 2 ≤ 100 := by decide +kernel) : Itm d (.tup [.str w]) :=
  ⟨ok_tag h h2 nil_ok (by simp), by simp only [PV.dep, PV.deps]; omega, by have := Wt_ge d; simp only [PV.wt, PV.wts]; omega, nm_tag h rfl, by simp⟩
theorem leaf2 {w : Str} {i : Int} (hi : i.natAbs ≤ 10 ^ 60) (d : Nat) (h : fPlace [.str w] = 0 := by rfl) (h2 : PyData.strOk w = true := by decide +kernel) (h3 : 10 * w.length + 2 ≤ 100 := by decide +kernel) : Itm d (.tup [.str w, .int i]) :=
  ⟨ok_tag h h2 (one_ok (okI hi)) (by simp), by simp only [PV.dep, PV.deps]; omega, by have := Wt_ge d; simp only [PV.wt, PV.wts]; omega, nm_tag h (one_nm nmI), by simp⟩
theorem leaf3 {w u : Str} {i : Int} (hi : i.natAbs ≤ 10 ^ 60) (d : Nat) (h : fPlace [.str w] = 0 := by rfl) (h2 : PyData.strOk w = true := by decide +kernel) (h3 : 10 * w.length + 2 ≤ 42 := by decide +kernel)
    (k : fPlace [.str u] = 0 := by rfl) (k2 : PyData.strOk u = true := by decide +kernel) (k3 : 10 * u.length + 2 ≤ 72 := by decide +kernel) : Itm d (.tup [.str w, .tup [.str u, .int i]]) :=
  ⟨ok_tag h h2 (one_ok (leaf2 hi 0 k k2 (by omega)).ok) (by simp), by simp only [PV.dep, PV.deps]; omega, by have := Wt_ge d; simp only [PV.wt, PV.wts]; omega, nm_tag h (one_nm (leaf2 hi 0 k k2 (by omega)).nm), by simp⟩
theorem send_itm {i : Int} {d : Nat} {v : PV} (hi : i.natAbs ≤ 10 ^ 60) (h : Itm d v) : Itm (d + 1) (.tup [.str "send", .tup [.str "channel", .int i], v]) := by
  have hc : Itm 0 (.tup [.str "channel", .int i]) := leaf2 hi 0
  have l1 : ("send" : Str).length = 4 := by decide +kernel
  have l2 : ("channel" : Str).length = 7 := by decide +kernel
  refine ⟨ok_tag rfl (by decide +kernel) (two_ok hc.ok h.ok) (by simp), ?_, ?_, nm_tag rfl (two_nm hc.nm h.nm), by simp⟩
  · have := h.dep
    simp only [PV.dep, PV.deps]
    omega
  · have := h.wt
    have := Wt_ge d
    simp only [PV.wt, PV.wts, l1, l2, Wt]
    omega
theorem always_itm {d : Nat} {v : PV} (h : Itm d v) : Itm (d + 1) (.tup [.str "always", v]) := by
  have l1 : ("always" : Str).length = 6 := by decide +kernel
  refine ⟨ok_tag rfl (by decide +kernel) (one_ok h.ok) (by simp), ?_, ?_, nm_tag rfl (one_nm h.nm), by simp⟩
  · have := h.dep
    simp only [PV.dep, PV.deps]
    omega
  · have := h.wt
    have := Wt_ge d
    simp only [PV.wt, PV.wts, l1, Wt]
    omega
theorem choose_itm {d : Nat} {xs : List PV} (h : ∀ x ∈ xs, Itm d x) (hl : xs.length ≤ 6) : Itm (d + 1) (.tup [.str "choose", .tup xs]) := by
  have l1 : ("choose" : Str).length = 6 := by decide +kernel
  obtain ⟨a, b, c, e⟩ := seq_itm h hl
  refine ⟨ok_tag rfl (by decide +kernel) (one_ok a) (by simp), ?_, ?_, nm_tag rfl (one_nm b), by simp⟩
  · simp only [PV.dep, PV.deps] at c ⊢
    omega
  · have := Wt_ge d
    have : xs.length * (Wt d + 2) ≤ 6 * (Wt d + 2) := Nat.mul_le_mul_right _ hl
    simp only [PV.wt, PV.wts, l1, Wt] at e ⊢
    omega
theorem nm_str {s : Str} (h : s ∈ nms) : PyData.strOk s = true ∧ 10 * s.length + 2 ≤ 82 := by
  simp only [nms, List.mem_cons, List.not_mem_nil, or_false] at h
  rcases h with rfl | rfl | rfl | rfl <;> decide +kernel
theorem wrap_itm {d : Nat} {o : PV} {s : Str} {xs : List PV} (ho : Itm d o) (hs : s ∈ nms) (h : ∀ x ∈ xs, Itm d x) (hl : xs.length ≤ 4) : Itm (d + 1) (.tup [.str "wrap", o, .str s, .tup xs]) := by
  have l1 : ("wrap" : Str).length = 4 := by decide +kernel
  obtain ⟨a, b, c, e⟩ := seq_itm h (by omega)
  obtain ⟨s1, s2⟩ := nm_str hs
  have hf : fPlace [.str "wrap", o, .str s, .tup xs] = 2 := rfl
  have hw : PyData.strOk ("wrap" : Str) = true := by decide +kernel
  refine ⟨?_, ?_, ?_, ?_, by simp⟩
  · have hH : okH [.str "wrap", o, .str s, .tup xs] = true := rfl
    have a' : okTs [.str "wrap", o, .str s, .tup xs] = true := by
      simp only [okTs, a, ho.ok, Bool.true_and, Bool.and_true]
      simp only [okT, hw, s1, Bool.and_self]
    rw [okT, a', hH]
    rfl
  · have := ho.dep
    simp only [PV.dep, PV.deps] at c ⊢
    omega
  · have := Wt_ge d
    have := ho.wt
    have : xs.length * (Wt d + 2) ≤ 4 * (Wt d + 2) := Nat.mul_le_mul_right _ hl
    simp only [PV.wt, PV.wts, l1, Wt] at e ⊢
    omega
  · have hH : nmH [.str "wrap", o, .str s, .tup xs] = true := decide_eq_true hs
    have b' : nmTs [.str "wrap", o, .str s, .tup xs] = true := by
      simp only [nmTs, b, ho.nm, nmS, Bool.true_and, Bool.and_true]
    rw [nmT, b', hH]
    rfl
theorem form_itm {d : Nat} {w s : Str} {xs : List PV} (hw : w = "guard" ∨ w = "notice") (hs : s ∈ nms) (h : ∀ x ∈ xs, Itm d x) (hl : xs.length ≤ 4) : Itm (d + 1) (.tup [.str w, .str s, .tup xs]) := by
  have l1 : w.length ≤ 6 := by rcases hw with rfl | rfl <;> decide +kernel
  obtain ⟨a, b, c, e⟩ := seq_itm h (by omega)
  obtain ⟨s1, s2⟩ := nm_str hs
  have hf : fPlace [.str w, .str s, .tup xs] = 1 := by rcases hw with rfl | rfl <;> rfl
  have hw : PyData.strOk w = true := by rcases hw with rfl | rfl <;> decide +kernel
  refine ⟨?_, ?_, ?_, ?_, by simp⟩
  · have hH : okH [.str w, .str s, .tup xs] = true := by unfold okH; rw [hf]; rfl
    have a' : okTs [.str w, .str s, .tup xs] = true := by
      simp only [okTs, a, Bool.true_and, Bool.and_true]
      simp only [okT, hw, s1, Bool.and_self]
    rw [okT, a', hH]
    rfl
  · simp only [PV.dep, PV.deps] at c ⊢
    omega
  · have := Wt_ge d
    have : xs.length * (Wt d + 2) ≤ 4 * (Wt d + 2) := Nat.mul_le_mul_right _ hl
    simp only [PV.wt, PV.wts, Wt] at e ⊢
    omega
  · have hH : nmH [.str w, .str s, .tup xs] = true := by unfold nmH; rw [hf]; exact decide_eq_true hs
    have b' : nmTs [.str w, .str s, .tup xs] = true := by
      simp only [nmTs, b, nmS, Bool.true_and, Bool.and_true]
    rw [nmT, b', hH]
    rfl
end Ev.K51


set_option Elab.async false
set_option linter.all false
set_option maxRecDepth 100000
set_option maxHeartbeats 4000000
namespace Ev.K51

open PySem
/-- the three defs that draw, at one depth -/
structure Drs (d N : Nat) : Prop where
  o : ∀ M, N ≤ M → Drw (callN tau Dl 100 M) 9 [.int d] (Itm d)
  t : ∀ M, N + 1 ≤ M → Drw (callN tau Dl 100 M) 7 [.int d] (Itm d)
  ts : ∀ M, N + 2 ≤ M → Drw (callN tau Dl 100 M) 8 [.int d] fun v => ∃ xs : List PV, v = .tup xs ∧ xs.length ≤ 4 ∧ ∀ x ∈ xs, Itm d x
theorem drs_t {d N : Nat} (o : ∀ M, N ≤ M → Drw (callN tau Dl 100 M) 9 [.int d] (Itm d)) (hN : 3 ≤ N) (M : Nat) (hM : N + 1 ≤ M) : Drw (callN tau Dl 100 M) 7 [.int d] (Itm d) := .of fun μ0 ν p s b => by
  obtain ⟨m, rfl⟩ : ∃ m, M = m + 3 := ⟨M - 3, by omega⟩
  rw [callN_succ (fn := T__law_drawn_thing) rfl]
  obtain ⟨_, p1, s1, ⟨r, rfl, h0, h1⟩, e1⟩ := take_drw (m + 1) 9 (by omega) (by omega) μ0 ν p s b
  obtain ⟨_, p2, s2, ⟨i, rfl, i0, i1⟩, e2⟩ := number_drw m μ0 ν p1 s1 b
  have hi : i.natAbs ≤ 10 ^ 60 := by omega
  by_cases h3 : r < 3
  · obtain ⟨v, hv, hI⟩ : ∃ v, (∀ μ, getIx tau μ (.lst [.int i, .int (-i), .int 5]) (.int r) = some v) ∧ Itm d v := by
      have : r = 0 ∨ r = 1 ∨ r = 2 := by omega
      rcases this with rfl | rfl | rfl
      · exact ⟨.int i, fun μ => getIx_lst rfl, int_itm hi d⟩
      · exact ⟨.int (-i), fun μ => getIx_lst rfl, int_itm (by omega) d⟩
      · exact ⟨.int 5, fun μ => getIx_lst rfl, int_itm (by omega) d⟩
    refine ⟨v, p2, s2, ⟨hI, okT_ref v hI.ok⟩, ?_⟩
    have hb : decide (r < 3) = true := decide_eq_true h3
    refine run_ret [some (.ref μ0.length), some (.int d), none, none] rfl rfl (st (evS_set (v := .int r) (μ1 := μ0 ++ Pl p1 s1 :: ν) ?_ rfl) (st (evS_set (v := .int i) (μ1 := μ0 ++ Pl p2 s2 :: ν) ?_ rfl) (st_ret (iff_t (v := .bl true) (μ1 := μ0 ++ Pl p2 s2 :: ν) ?_ rfl (st_ret (evS_ret ?_))))))
    · simp (disch := first | assumption | omega | (refine leline ?_; simp only [List.length_cons, List.length_nil, List.length_append]; omega)) [List.getElem?_cons_zero, List.getElem?_cons_succ, runFn, evSs, evS, evE, evEs, evAnd, evOr, evIfs, Out.next, Res.out, Res.bind, Res.of, Out.of, asg, asgs, partOf, Out.fin, truth, slice_hi, slice_lo, recv_get2, get2_ok, op2_tup, op2_str, end_get, leline0, leline1, leline2, leline3, leline4, leline5, leline6, leline7, leline8, leline9, leline10, leline11, leline12, leline13, leline14, leline15, leline16, e1]
    · simp (disch := first | assumption | omega | (refine leline ?_; simp only [List.length_cons, List.length_nil, List.length_append]; omega)) [List.getElem?_cons_zero, List.getElem?_cons_succ, runFn, evSs, evS, evE, evEs, evAnd, evOr, evIfs, Out.next, Res.out, Res.bind, Res.of, Out.of, asg, asgs, partOf, Out.fin, truth, slice_hi, slice_lo, recv_get2, get2_ok, op2_tup, op2_str, end_get, leline0, leline1, leline2, leline3, leline4, leline5, leline6, leline7, leline8, leline9, leline10, leline11, leline12, leline13, leline14, leline15, leline16, e2]
    · simp (disch := first | assumption | omega | (refine leline ?_; simp only [List.length_cons, List.length_nil, List.length_append]; omega)) [List.getElem?_cons_zero, List.getElem?_cons_succ, runFn, evSs, evS, evE, evEs, evAnd, evOr, evIfs, Out.next, Res.out, Res.bind, Res.of, Out.of, asg, asgs, partOf, Out.fin, truth, slice_hi, slice_lo, recv_get2, get2_ok, op2_tup, op2_str, end_get, leline0, leline1, leline2, leline3, leline4, leline5, leline6, leline7, leline8, leline9, leline10, leline11, leline12, leline13, leline14, leline15, leline16, cmp, hb]
    · simp (disch := first | assumption | omega | (refine leline ?_; simp only [List.length_cons, List.length_nil, List.length_append]; omega)) [List.getElem?_cons_zero, List.getElem?_cons_succ, runFn, evSs, evS, evE, evEs, evAnd, evOr, evIfs, Out.next, Res.out, Res.bind, Res.of, Out.of, asg, asgs, partOf, Out.fin, truth, slice_hi, slice_lo, recv_get2, get2_ok, op2_tup, op2_str, end_get, leline0, leline1, leline2, leline3, leline4, leline5, leline6, leline7, leline8, leline9, leline10, leline11, leline12, leline13, leline14, leline15, leline16, newL, hv]
  · have hb : decide (r < 3) = false := decide_eq_false h3
    by_cases h6 : r < 6
    · obtain ⟨v, hv, hI⟩ : ∃ v, (∀ μ, getIx tau μ (.lst [.tup [.str "nothing"], .tup [.str "channel", .int i], .tup [.str "thread", .int i]]) (.int (r - 3)) = some v) ∧ Itm d v := by
        have : r = 3 ∨ r = 4 ∨ r = 5 := by omega
        rcases this with rfl | rfl | rfl
        · exact ⟨_, fun μ => getIx_lst rfl, leaf1 d⟩
        · exact ⟨_, fun μ => getIx_lst rfl, leaf2 hi d⟩
        · exact ⟨_, fun μ => getIx_lst rfl, leaf2 hi d⟩
      refine ⟨v, p2, s2, ⟨hI, okT_ref v hI.ok⟩, ?_⟩
      have hb6 : decide (r < 6) = true := decide_eq_true h6
      refine run_ret [some (.ref μ0.length), some (.int d), none, none] rfl rfl (st (evS_set (v := .int r) (μ1 := μ0 ++ Pl p1 s1 :: ν) ?_ rfl) (st (evS_set (v := .int i) (μ1 := μ0 ++ Pl p2 s2 :: ν) ?_ rfl) (st (iff_f (v := .bl false) (μ1 := μ0 ++ Pl p2 s2 :: ν) ?_ rfl rfl) (st_ret (iff_t (v := .bl true) (μ1 := μ0 ++ Pl p2 s2 :: ν) ?_ rfl (st_ret (evS_ret ?_)))))))
      · simp (disch := first | assumption | omega | (refine leline ?_; simp only [List.length_cons, List.length_nil, List.length_append]; omega)) [List.getElem?_cons_zero, List.getElem?_cons_succ, runFn, evSs, evS, evE, evEs, evAnd, evOr, evIfs, Out.next, Res.out, Res.bind, Res.of, Out.of, asg, asgs, partOf, Out.fin, truth, slice_hi, slice_lo, recv_get2, get2_ok, op2_tup, op2_str, end_get, leline0, leline1, leline2, leline3, leline4, leline5, leline6, leline7, leline8, leline9, leline10, leline11, leline12, leline13, leline14, leline15, leline16, e1]
      · simp (disch := first | assumption | omega | (refine leline ?_; simp only [List.length_cons, List.length_nil, List.length_append]; omega)) [List.getElem?_cons_zero, List.getElem?_cons_succ, runFn, evSs, evS, evE, evEs, evAnd, evOr, evIfs, Out.next, Res.out, Res.bind, Res.of, Out.of, asg, asgs, partOf, Out.fin, truth, slice_hi, slice_lo, recv_get2, get2_ok, op2_tup, op2_str, end_get, leline0, leline1, leline2, leline3, leline4, leline5, leline6, leline7, leline8, leline9, leline10, leline11, leline12, leline13, leline14, leline15, leline16, e2]
      · simp (disch := first | assumption | omega | (refine leline ?_; simp only [List.length_cons, List.length_nil, List.length_append]; omega)) [List.getElem?_cons_zero, List.getElem?_cons_succ, runFn, evSs, evS, evE, evEs, evAnd, evOr, evIfs, Out.next, Res.out, Res.bind, Res.of, Out.of, asg, asgs, partOf, Out.fin, truth, slice_hi, slice_lo, recv_get2, get2_ok, op2_tup, op2_str, end_get, leline0, leline1, leline2, leline3, leline4, leline5, leline6, leline7, leline8, leline9, leline10, leline11, leline12, leline13, leline14, leline15, leline16, cmp, hb]
      · simp (disch := first | assumption | omega | (refine leline ?_; simp only [List.length_cons, List.length_nil, List.length_append]; omega)) [List.getElem?_cons_zero, List.getElem?_cons_succ, runFn, evSs, evS, evE, evEs, evAnd, evOr, evIfs, Out.next, Res.out, Res.bind, Res.of, Out.of, asg, asgs, partOf, Out.fin, truth, slice_hi, slice_lo, recv_get2, get2_ok, op2_tup, op2_str, end_get, leline0, leline1, leline2, leline3, leline4, leline5, leline6, leline7, leline8, leline9, leline10, leline11, leline12, leline13, leline14, leline15, leline16, cmp, hb6]
      · simp (disch := first | assumption | omega | (refine leline ?_; simp only [List.length_cons, List.length_nil, List.length_append]; omega)) [List.getElem?_cons_zero, List.getElem?_cons_succ, runFn, evSs, evS, evE, evEs, evAnd, evOr, evIfs, Out.next, Res.out, Res.bind, Res.of, Out.of, asg, asgs, partOf, Out.fin, truth, slice_hi, slice_lo, recv_get2, get2_ok, op2_tup, op2_str, end_get, leline0, leline1, leline2, leline3, leline4, leline5, leline6, leline7, leline8, leline9, leline10, leline11, leline12, leline13, leline14, leline15, leline16, newL, hv]
    · have hb6 : decide (r < 6) = false := decide_eq_false h6
      obtain ⟨v, p3, s3, hI, e3⟩ := o (m + 2) (by omega) μ0 ν p2 s2 b
      refine ⟨v, p3, s3, ⟨hI, okT_ref v hI.ok⟩, ?_⟩
      refine run_ret [some (.ref μ0.length), some (.int d), none, none] rfl rfl (st (evS_set (v := .int r) (μ1 := μ0 ++ Pl p1 s1 :: ν) ?_ rfl) (st (evS_set (v := .int i) (μ1 := μ0 ++ Pl p2 s2 :: ν) ?_ rfl) (st (iff_f (v := .bl false) (μ1 := μ0 ++ Pl p2 s2 :: ν) ?_ rfl rfl) (st (iff_f (v := .bl false) (μ1 := μ0 ++ Pl p2 s2 :: ν) ?_ rfl rfl) (st_ret (evS_ret ?_))))))
      · simp (disch := first | assumption | omega | (refine leline ?_; simp only [List.length_cons, List.length_nil, List.length_append]; omega)) [List.getElem?_cons_zero, List.getElem?_cons_succ, runFn, evSs, evS, evE, evEs, evAnd, evOr, evIfs, Out.next, Res.out, Res.bind, Res.of, Out.of, asg, asgs, partOf, Out.fin, truth, slice_hi, slice_lo, recv_get2, get2_ok, op2_tup, op2_str, end_get, leline0, leline1, leline2, leline3, leline4, leline5, leline6, leline7, leline8, leline9, leline10, leline11, leline12, leline13, leline14, leline15, leline16, e1]
      · simp (disch := first | assumption | omega | (refine leline ?_; simp only [List.length_cons, List.length_nil, List.length_append]; omega)) [List.getElem?_cons_zero, List.getElem?_cons_succ, runFn, evSs, evS, evE, evEs, evAnd, evOr, evIfs, Out.next, Res.out, Res.bind, Res.of, Out.of, asg, asgs, partOf, Out.fin, truth, slice_hi, slice_lo, recv_get2, get2_ok, op2_tup, op2_str, end_get, leline0, leline1, leline2, leline3, leline4, leline5, leline6, leline7, leline8, leline9, leline10, leline11, leline12, leline13, leline14, leline15, leline16, e2]
      · simp (disch := first | assumption | omega | (refine leline ?_; simp only [List.length_cons, List.length_nil, List.length_append]; omega)) [List.getElem?_cons_zero, List.getElem?_cons_succ, runFn, evSs, evS, evE, evEs, evAnd, evOr, evIfs, Out.next, Res.out, Res.bind, Res.of, Out.of, asg, asgs, partOf, Out.fin, truth, slice_hi, slice_lo, recv_get2, get2_ok, op2_tup, op2_str, end_get, leline0, leline1, leline2, leline3, leline4, leline5, leline6, leline7, leline8, leline9, leline10, leline11, leline12, leline13, leline14, leline15, leline16, cmp, hb]
      · simp (disch := first | assumption | omega | (refine leline ?_; simp only [List.length_cons, List.length_nil, List.length_append]; omega)) [List.getElem?_cons_zero, List.getElem?_cons_succ, runFn, evSs, evS, evE, evEs, evAnd, evOr, evIfs, Out.next, Res.out, Res.bind, Res.of, Out.of, asg, asgs, partOf, Out.fin, truth, slice_hi, slice_lo, recv_get2, get2_ok, op2_tup, op2_str, end_get, leline0, leline1, leline2, leline3, leline4, leline5, leline6, leline7, leline8, leline9, leline10, leline11, leline12, leline13, leline14, leline15, leline16, cmp, hb6]
      · simp (disch := first | assumption | omega | (refine leline ?_; simp only [List.length_cons, List.length_nil, List.length_append]; omega)) [List.getElem?_cons_zero, List.getElem?_cons_succ, runFn, evSs, evS, evE, evEs, evAnd, evOr, evIfs, Out.next, Res.out, Res.bind, Res.of, Out.of, asg, asgs, partOf, Out.fin, truth, slice_hi, slice_lo, recv_get2, get2_ok, op2_tup, op2_str, end_get, leline0, leline1, leline2, leline3, leline4, leline5, leline6, leline7, leline8, leline9, leline10, leline11, leline12, leline13, leline14, leline15, leline16, e3]
theorem drs_ts {d N : Nat} (t : ∀ M, N + 1 ≤ M → Drw (callN tau Dl 100 M) 7 [.int d] (Itm d)) (M : Nat) (hM : N + 2 ≤ M) :
    Drw (callN tau Dl 100 M) 8 [.int d] fun v => ∃ xs : List PV, v = .tup xs ∧ xs.length ≤ 4 ∧ ∀ x ∈ xs, Itm d x := .of fun μ0 ν p s b => by
  obtain ⟨m, rfl⟩ : ∃ m, M = m + 2 := ⟨M - 2, by omega⟩
  rw [callN_succ (fn := T__law_drawn_things) rfl]
  obtain ⟨_, p1, s1, ⟨r, rfl, h0, h1⟩, e1⟩ := take_drw m 5 (by omega) (by omega) μ0 ν p s b
  obtain ⟨ys, p2, s2, q, l, e2⟩ := evE_lcD (τ := tau) (μ0 := μ0) (ν := ν) (Φ := callN tau Dl 100 (m + 1)) (b := b) (σ := [some (.ref μ0.length), some (.int d), none]) (μ := μ0 ++ Pl p s :: ν) (m := false) (t := .var 2) (k := .rng1) (it := [.call 5 1 [.var 0, .con (.int 5)]]) (elt := .call 7 1 [.var 0, .var 1]) (own := [2]) (ps := [.int r]) (xs := upP 0 r.toNat) (Q := Itm d) (p := p1) (s := s1)
    (by simp (disch := first | assumption | omega | (refine leline ?_; simp only [List.length_cons, List.length_nil, List.length_append]; omega)) [List.getElem?_cons_zero, List.getElem?_cons_succ, runFn, evSs, evS, evE, evEs, evAnd, evOr, evIfs, Out.next, Res.out, Res.bind, Res.of, Out.of, asg, asgs, partOf, Out.fin, truth, slice_hi, slice_lo, recv_get2, get2_ok, op2_tup, op2_str, end_get, leline0, leline1, leline2, leline3, leline4, leline5, leline6, leline7, leline8, leline9, leline10, leline11, leline12, leline13, leline14, leline15, leline16, e1]) (walked_rng1 (by omega) (by omega)) (by rw [upP_length]; exact Nat.le_trans (by omega) (show 10 ≤ line by decide)) (fun x hx => ⟨_, rfl, fun p s => by
      obtain ⟨v, p', s', hI, e⟩ := t (m + 1) (by omega) μ0 ν p s b
      refine ⟨v, p', s', hI, ?_⟩
      simp (disch := first | assumption | omega | (refine leline ?_; simp only [List.length_cons, List.length_nil, List.length_append]; omega)) [List.getElem?_cons_zero, List.getElem?_cons_succ, runFn, evSs, evS, evE, evEs, evAnd, evOr, evIfs, Out.next, Res.out, Res.bind, Res.of, Out.of, asg, asgs, partOf, Out.fin, truth, slice_hi, slice_lo, recv_get2, get2_ok, op2_tup, op2_str, end_get, leline0, leline1, leline2, leline3, leline4, leline5, leline6, leline7, leline8, leline9, leline10, leline11, leline12, leline13, leline14, leline15, leline16, wipeP, e]⟩)
  rw [upP_length] at l
  refine ⟨.tup ys, p2, s2, ⟨⟨ys, rfl, by omega, q⟩, ?_⟩, ?_⟩
  · simp only [PV.refLt]
    exact refsLt_iff.mpr fun y hy => okT_ref y (q y hy).ok
  · refine run_ret [some (.ref μ0.length), some (.int d), none] rfl rfl (st_ret (evS_ret (evE_prim (evEs_one e2) rfl)))

theorem leaf_pick {i r : Int} (hi : i.natAbs ≤ 10 ^ 60) (h0 : 0 ≤ r) (d : Nat) : ∃ v, (∀ μ, getIx tau μ (.lst [.tup [.str "never"], .tup [.str "till", .int i], .tup [.str "hear", .int i], .tup [.str "take", .tup [.str "channel", .int i]], .tup [.str "over", .tup [.str "thread", .int i]]]) (.int (r % 5)) = some v) ∧ Itm d v := by
  obtain ⟨q, hq⟩ : ∃ q, r % 5 = q := ⟨_, rfl⟩
  rw [hq]
  have : q = 0 ∨ q = 1 ∨ q = 2 ∨ q = 3 ∨ q = 4 := by omega
  rcases this with rfl | rfl | rfl | rfl | rfl
  · exact ⟨_, fun μ => getIx_lst rfl, leaf1 d⟩
  · exact ⟨_, fun μ => getIx_lst rfl, leaf2 hi d⟩
  · exact ⟨_, fun μ => getIx_lst rfl, leaf2 hi d⟩
  · exact ⟨_, fun μ => getIx_lst rfl, leaf3 hi d⟩
  · exact ⟨_, fun μ => getIx_lst rfl, leaf3 hi d⟩
/-- what the rest of the offer's def does -/
theorem o_leaf {Φ : Calls} {b : Nat} {μ : Sto} {d r i : Int} {pl : Nat} {ss : List S} {v : PV} (hc : decide (d < 1) = true ∨ decide (r < 5) = true)
    (hv : ∀ μ, getIx tau μ (.lst [.tup [.str "never"], .tup [.str "till", .int i], .tup [.str "hear", .int i], .tup [.str "take", .tup [.str "channel", .int i]], .tup [.str "over", .tup [.str "thread", .int i]]]) (.int (r % 5)) = some v) :
    evSs tau Φ b 100 ((T__law_drawn_offer.body.drop 2).take 1 ++ ss) [some (.ref pl), some (.int d), some (.int r), some (.int i), none, none, none] μ = .ret v μ := by
  refine st_ret (iff_t (v := .bl true) (μ1 := μ) ?_ rfl (st (evS_set (v := .lst [.tup [.str "never"], .tup [.str "till", .int i], .tup [.str "hear", .int i], .tup [.str "take", .tup [.str "channel", .int i]]]) (μ1 := μ) ?_ rfl) (st_ret (evS_ret ?_))))
  · by_cases q : d < 1
    · have hd : decide (d < 1) = true := decide_eq_true q
      simp (disch := first | assumption | omega | (refine leline ?_; simp only [List.length_cons, List.length_nil, List.length_append]; omega)) [List.getElem?_cons_zero, List.getElem?_cons_succ, runFn, evSs, evS, evE, evEs, evAnd, evOr, evIfs, Out.next, Res.out, Res.bind, Res.of, Out.of, asg, asgs, partOf, Out.fin, truth, slice_hi, slice_lo, recv_get2, get2_ok, op2_tup, op2_str, end_get, leline0, leline1, leline2, leline3, leline4, leline5, leline6, leline7, leline8, leline9, leline10, leline11, leline12, leline13, leline14, leline15, leline16, cmp, hd]
    · have hd : decide (d < 1) = false := decide_eq_false q
      rcases hc with hc | hc
      · rw [hd] at hc; cases hc
      · simp (disch := first | assumption | omega | (refine leline ?_; simp only [List.length_cons, List.length_nil, List.length_append]; omega)) [List.getElem?_cons_zero, List.getElem?_cons_succ, runFn, evSs, evS, evE, evEs, evAnd, evOr, evIfs, Out.next, Res.out, Res.bind, Res.of, Out.of, asg, asgs, partOf, Out.fin, truth, slice_hi, slice_lo, recv_get2, get2_ok, op2_tup, op2_str, end_get, leline0, leline1, leline2, leline3, leline4, leline5, leline6, leline7, leline8, leline9, leline10, leline11, leline12, leline13, leline14, leline15, leline16, cmp, hd, hc]
  · simp (disch := first | assumption | omega | (refine leline ?_; simp only [List.length_cons, List.length_nil, List.length_append]; omega)) [List.getElem?_cons_zero, List.getElem?_cons_succ, runFn, evSs, evS, evE, evEs, evAnd, evOr, evIfs, Out.next, Res.out, Res.bind, Res.of, Out.of, asg, asgs, partOf, Out.fin, truth, slice_hi, slice_lo, recv_get2, get2_ok, op2_tup, op2_str, end_get, leline0, leline1, leline2, leline3, leline4, leline5, leline6, leline7, leline8, leline9, leline10, leline11, leline12, leline13, leline14, leline15, leline16, newL]
  · have h5 : op2 .mod false (.int r) (.int 5) μ = some (.int (r % 5), μ) := op2_mod (by omega)
    simp (disch := first | assumption | omega | (refine leline ?_; simp only [List.length_cons, List.length_nil, List.length_append]; omega)) [List.getElem?_cons_zero, List.getElem?_cons_succ, runFn, evSs, evS, evE, evEs, evAnd, evOr, evIfs, Out.next, Res.out, Res.bind, Res.of, Out.of, asg, asgs, partOf, Out.fin, truth, slice_hi, slice_lo, recv_get2, get2_ok, op2_tup, op2_str, end_get, leline0, leline1, leline2, leline3, leline4, leline5, leline6, leline7, leline8, leline9, leline10, leline11, leline12, leline13, leline14, leline15, leline16, newL, op2, listOf, hv, h5]
theorem o_skip {Φ : Calls} {b : Nat} {μ : Sto} {d r i : Int} {pl : Nat} {ss : List S} {o : Out} (hc : decide (d < 1) = false) (h5 : decide (r < 5) = false)
    (k : evSs tau Φ b 100 ss [some (.ref pl), some (.int d), some (.int r), some (.int i), none, none, none] μ = o) :
    evSs tau Φ b 100 ((T__law_drawn_offer.body.drop 2).take 1 ++ ss) [some (.ref pl), some (.int d), some (.int r), some (.int i), none, none, none] μ = o := by
  refine st (iff_f (v := .bl false) (μ1 := μ) ?_ rfl rfl) k
  simp (disch := first | assumption | omega | (refine leline ?_; simp only [List.length_cons, List.length_nil, List.length_append]; omega)) [List.getElem?_cons_zero, List.getElem?_cons_succ, runFn, evSs, evS, evE, evEs, evAnd, evOr, evIfs, Out.next, Res.out, Res.bind, Res.of, Out.of, asg, asgs, partOf, Out.fin, truth, slice_hi, slice_lo, recv_get2, get2_ok, op2_tup, op2_str, end_get, leline0, leline1, leline2, leline3, leline4, leline5, leline6, leline7, leline8, leline9, leline10, leline11, leline12, leline13, leline14, leline15, leline16, cmp, hc, h5]

theorem pick_nm {r : Int} (h0 : 0 ≤ r) (h1 : r < 4) : ∃ s, (∀ μ, getIx tau μ (.lst [.str "a", .str "wraps", .str "zzzzzzzz", .str "send"]) (.int r) = some (.str s)) ∧ s ∈ nms := by
  have : r = 0 ∨ r = 1 ∨ r = 2 ∨ r = 3 := by omega
  rcases this with rfl | rfl | rfl | rfl
  · exact ⟨_, fun μ => getIx_lst rfl, by simp [nms]⟩
  · exact ⟨_, fun μ => getIx_lst rfl, by simp [nms]⟩
  · exact ⟨_, fun μ => getIx_lst rfl, by simp [nms]⟩
  · exact ⟨_, fun μ => getIx_lst rfl, by simp [nms]⟩
theorem pick_gn {r : Int} (h0 : 10 ≤ r) (h1 : r < 12) : ∃ s : Str, (∀ μ, getIx tau μ (.lst [.str "guard", .str "notice"]) (.int (r - 10)) = some (.str s)) ∧ (s = "guard" ∨ s = "notice") := by
  have : r = 10 ∨ r = 11 := by omega
  rcases this with rfl | rfl
  · exact ⟨_, fun μ => getIx_lst rfl, .inl rfl⟩
  · exact ⟨_, fun μ => getIx_lst rfl, .inr rfl⟩
theorem o_more {m d : Nat} {μ0 ν : Sto} {b : Nat} (D : Drs d (3 + 3 * d)) (hm : 5 + 3 * d ≤ m) {r i : Int} (hi : i.natAbs ≤ 10 ^ 60) (h5 : 5 ≤ r) (h12 : r < 12) (p s : Int) :
    ∃ v p' s', Itm (d + 1) v ∧ evSs tau (callN tau Dl 100 m) b 100 (T__law_drawn_offer.body.drop 3) [some (.ref μ0.length), some (.int ((d + 1 : Nat) : Int)), some (.int r), some (.int i), none, none, none] (μ0 ++ Pl p s :: ν) = .ret v (μ0 ++ Pl p' s' :: ν) := by
  obtain ⟨m', rfl⟩ : ∃ m', m = m' + 1 := ⟨m - 1, by omega⟩
  have q5 : ∀ μ, cmpEq μ (.int r) (.int 5) = some (r == 5) := fun μ => eq_int
  have q6 : ∀ μ, cmpEq μ (.int r) (.int 6) = some (r == 6) := fun μ => eq_int
  have q9 : ∀ μ, cmpEq μ (.int r) (.int 9) = some (r == 9) := fun μ => eq_int
  by_cases e5 : r = 5
  · subst e5
    obtain ⟨v, p1, s1, hI, e⟩ := D.t (m' + 1) (by omega) μ0 ν p s b
    refine ⟨_, p1, s1, send_itm hi hI, st_ret (iff_t (v := .bl true) (μ1 := μ0 ++ Pl p s :: ν) ?_ rfl (st_ret (evS_ret ?_)))⟩
    · simp (disch := first | assumption | omega | (refine leline ?_; simp only [List.length_cons, List.length_nil, List.length_append]; omega)) [List.getElem?_cons_zero, List.getElem?_cons_succ, runFn, evSs, evS, evE, evEs, evAnd, evOr, evIfs, Out.next, Res.out, Res.bind, Res.of, Out.of, asg, asgs, partOf, Out.fin, truth, slice_hi, slice_lo, recv_get2, get2_ok, op2_tup, op2_str, end_get, leline0, leline1, leline2, leline3, leline4, leline5, leline6, leline7, leline8, leline9, leline10, leline11, leline12, leline13, leline14, leline15, leline16, cmp, q5]
    · simp (disch := first | assumption | omega | (refine leline ?_; simp only [List.length_cons, List.length_nil, List.length_append]; omega)) [List.getElem?_cons_zero, List.getElem?_cons_succ, runFn, evSs, evS, evE, evEs, evAnd, evOr, evIfs, Out.next, Res.out, Res.bind, Res.of, Out.of, asg, asgs, partOf, Out.fin, truth, slice_hi, slice_lo, recv_get2, get2_ok, op2_tup, op2_str, end_get, leline0, leline1, leline2, leline3, leline4, leline5, leline6, leline7, leline8, leline9, leline10, leline11, leline12, leline13, leline14, leline15, leline16, e]
  have f5 : (r == 5) = false := by simpa using e5
  by_cases e6 : r = 6
  · subst e6
    obtain ⟨v, p1, s1, hI, e⟩ := D.t (m' + 1) (by omega) μ0 ν p s b
    refine ⟨_, p1, s1, always_itm hI, st (iff_f (v := .bl false) (μ1 := μ0 ++ Pl p s :: ν) ?_ rfl rfl) (st_ret (iff_t (v := .bl true) (μ1 := μ0 ++ Pl p s :: ν) ?_ rfl (st_ret (evS_ret ?_))))⟩
    · simp (disch := first | assumption | omega | (refine leline ?_; simp only [List.length_cons, List.length_nil, List.length_append]; omega)) [List.getElem?_cons_zero, List.getElem?_cons_succ, runFn, evSs, evS, evE, evEs, evAnd, evOr, evIfs, Out.next, Res.out, Res.bind, Res.of, Out.of, asg, asgs, partOf, Out.fin, truth, slice_hi, slice_lo, recv_get2, get2_ok, op2_tup, op2_str, end_get, leline0, leline1, leline2, leline3, leline4, leline5, leline6, leline7, leline8, leline9, leline10, leline11, leline12, leline13, leline14, leline15, leline16, cmp, q5]
    · simp (disch := first | assumption | omega | (refine leline ?_; simp only [List.length_cons, List.length_nil, List.length_append]; omega)) [List.getElem?_cons_zero, List.getElem?_cons_succ, runFn, evSs, evS, evE, evEs, evAnd, evOr, evIfs, Out.next, Res.out, Res.bind, Res.of, Out.of, asg, asgs, partOf, Out.fin, truth, slice_hi, slice_lo, recv_get2, get2_ok, op2_tup, op2_str, end_get, leline0, leline1, leline2, leline3, leline4, leline5, leline6, leline7, leline8, leline9, leline10, leline11, leline12, leline13, leline14, leline15, leline16, cmp, q6]
    · simp (disch := first | assumption | omega | (refine leline ?_; simp only [List.length_cons, List.length_nil, List.length_append]; omega)) [List.getElem?_cons_zero, List.getElem?_cons_succ, runFn, evSs, evS, evE, evEs, evAnd, evOr, evIfs, Out.next, Res.out, Res.bind, Res.of, Out.of, asg, asgs, partOf, Out.fin, truth, slice_hi, slice_lo, recv_get2, get2_ok, op2_tup, op2_str, end_get, leline0, leline1, leline2, leline3, leline4, leline5, leline6, leline7, leline8, leline9, leline10, leline11, leline12, leline13, leline14, leline15, leline16, e]
  have f6 : (r == 6) = false := by simpa using e6
  by_cases e9 : r < 9
  · have hb : decide (r < 9) = true := decide_eq_true e9
    obtain ⟨_, p1, s1, ⟨k, rfl, h0, h1⟩, e1⟩ := take_drw m' 7 (by omega) (by omega) μ0 ν p s b
    obtain ⟨ys, p2, s2, q, l, e2⟩ := evE_lcD (τ := tau) (μ0 := μ0) (ν := ν) (Φ := callN tau Dl 100 (m' + 1)) (b := b) (σ := [some (.ref μ0.length), some (.int ((d + 1 : Nat) : Int)), some (.int r), some (.int i), none, none, none]) (μ := μ0 ++ Pl p s :: ν) (m := false) (t := .var 6) (k := .rng1) (it := [.call 5 1 [.var 0, .con (.int 7)]]) (elt := .call 9 1 [.var 0, .bin .sub false (.var 1) (.con (.int 1))]) (own := [6]) (ps := [.int k]) (xs := upP 0 k.toNat) (Q := Itm d) (p := p1) (s := s1)
      (by simp (disch := first | assumption | omega | (refine leline ?_; simp only [List.length_cons, List.length_nil, List.length_append]; omega)) [List.getElem?_cons_zero, List.getElem?_cons_succ, runFn, evSs, evS, evE, evEs, evAnd, evOr, evIfs, Out.next, Res.out, Res.bind, Res.of, Out.of, asg, asgs, partOf, Out.fin, truth, slice_hi, slice_lo, recv_get2, get2_ok, op2_tup, op2_str, end_get, leline0, leline1, leline2, leline3, leline4, leline5, leline6, leline7, leline8, leline9, leline10, leline11, leline12, leline13, leline14, leline15, leline16, e1]) (walked_rng1 (by omega) (by omega)) (by rw [upP_length]; exact Nat.le_trans (by omega) (show 10 ≤ line by decide)) (fun x hx => ⟨_, rfl, fun p s => by
        obtain ⟨v, p', s', hI, e⟩ := D.o (m' + 1) (by omega) μ0 ν p s b
        refine ⟨v, p', s', hI, ?_⟩
        simp (disch := first | assumption | omega | (refine leline ?_; simp only [List.length_cons, List.length_nil, List.length_append]; omega)) [List.getElem?_cons_zero, List.getElem?_cons_succ, runFn, evSs, evS, evE, evEs, evAnd, evOr, evIfs, Out.next, Res.out, Res.bind, Res.of, Out.of, asg, asgs, partOf, Out.fin, truth, slice_hi, slice_lo, recv_get2, get2_ok, op2_tup, op2_str, end_get, leline0, leline1, leline2, leline3, leline4, leline5, leline6, leline7, leline8, leline9, leline10, leline11, leline12, leline13, leline14, leline15, leline16, wipeP, e]⟩)
    rw [upP_length] at l
    refine ⟨_, p2, s2, choose_itm q (by omega), st (iff_f (v := .bl false) (μ1 := μ0 ++ Pl p s :: ν) ?_ rfl rfl) (st (iff_f (v := .bl false) (μ1 := μ0 ++ Pl p s :: ν) ?_ rfl rfl) (st_ret (iff_t (v := .bl true) (μ1 := μ0 ++ Pl p s :: ν) ?_ rfl (st_ret (evS_ret ?_)))))⟩
    · simp (disch := first | assumption | omega | (refine leline ?_; simp only [List.length_cons, List.length_nil, List.length_append]; omega)) [List.getElem?_cons_zero, List.getElem?_cons_succ, runFn, evSs, evS, evE, evEs, evAnd, evOr, evIfs, Out.next, Res.out, Res.bind, Res.of, Out.of, asg, asgs, partOf, Out.fin, truth, slice_hi, slice_lo, recv_get2, get2_ok, op2_tup, op2_str, end_get, leline0, leline1, leline2, leline3, leline4, leline5, leline6, leline7, leline8, leline9, leline10, leline11, leline12, leline13, leline14, leline15, leline16, cmp, q5, f5]
    · simp (disch := first | assumption | omega | (refine leline ?_; simp only [List.length_cons, List.length_nil, List.length_append]; omega)) [List.getElem?_cons_zero, List.getElem?_cons_succ, runFn, evSs, evS, evE, evEs, evAnd, evOr, evIfs, Out.next, Res.out, Res.bind, Res.of, Out.of, asg, asgs, partOf, Out.fin, truth, slice_hi, slice_lo, recv_get2, get2_ok, op2_tup, op2_str, end_get, leline0, leline1, leline2, leline3, leline4, leline5, leline6, leline7, leline8, leline9, leline10, leline11, leline12, leline13, leline14, leline15, leline16, cmp, q6, f6]
    · simp (disch := first | assumption | omega | (refine leline ?_; simp only [List.length_cons, List.length_nil, List.length_append]; omega)) [List.getElem?_cons_zero, List.getElem?_cons_succ, runFn, evSs, evS, evE, evEs, evAnd, evOr, evIfs, Out.next, Res.out, Res.bind, Res.of, Out.of, asg, asgs, partOf, Out.fin, truth, slice_hi, slice_lo, recv_get2, get2_ok, op2_tup, op2_str, end_get, leline0, leline1, leline2, leline3, leline4, leline5, leline6, leline7, leline8, leline9, leline10, leline11, leline12, leline13, leline14, leline15, leline16, cmp, hb]
    · have e3 := evE_prim (p := .tuple) (m := false) (evEs_one e2) rfl
      have e4 := evEs_cons (c := .con (.str "choose")) (v := .str "choose") (μ1 := μ0 ++ Pl p s :: ν) rfl (evEs_one e3)
      unfold evE
      rw [e4]
      rfl
  · have hb : decide (r < 9) = false := decide_eq_false e9
    obtain ⟨_, p1, s1, ⟨k, rfl, h0, h1⟩, e1⟩ := take_drw m' 4 (by omega) (by omega) μ0 ν p s b
    obtain ⟨nm, hnm, hmem⟩ := pick_nm h0 h1
    obtain ⟨_, p2, s2, ⟨xs, rfl, hl, hx⟩, e2⟩ := D.ts (m' + 1) (by omega) μ0 ν p1 s1 b
    by_cases e99 : r = 9
    · subst e99
      obtain ⟨o, p3, s3, hI, e3⟩ := D.o (m' + 1) (by omega) μ0 ν p2 s2 b
      refine ⟨_, p3, s3, wrap_itm hI hmem hx hl, st (iff_f (v := .bl false) (μ1 := μ0 ++ Pl p s :: ν) ?_ rfl rfl) (st (iff_f (v := .bl false) (μ1 := μ0 ++ Pl p s :: ν) ?_ rfl rfl) (st (iff_f (v := .bl false) (μ1 := μ0 ++ Pl p s :: ν) ?_ rfl rfl) (st (evS_set (v := .str nm) (μ1 := μ0 ++ Pl p1 s1 :: ν) ?_ rfl) (st (evS_set (v := .tup xs) (μ1 := μ0 ++ Pl p2 s2 :: ν) ?_ rfl) (st_ret (iff_t (v := .bl true) (μ1 := μ0 ++ Pl p2 s2 :: ν) ?_ rfl (st_ret (evS_ret ?_))))))))⟩
      · simp (disch := first | assumption | omega | (refine leline ?_; simp only [List.length_cons, List.length_nil, List.length_append]; omega)) [List.getElem?_cons_zero, List.getElem?_cons_succ, runFn, evSs, evS, evE, evEs, evAnd, evOr, evIfs, Out.next, Res.out, Res.bind, Res.of, Out.of, asg, asgs, partOf, Out.fin, truth, slice_hi, slice_lo, recv_get2, get2_ok, op2_tup, op2_str, end_get, leline0, leline1, leline2, leline3, leline4, leline5, leline6, leline7, leline8, leline9, leline10, leline11, leline12, leline13, leline14, leline15, leline16, cmp, q5, f5]
      · simp (disch := first | assumption | omega | (refine leline ?_; simp only [List.length_cons, List.length_nil, List.length_append]; omega)) [List.getElem?_cons_zero, List.getElem?_cons_succ, runFn, evSs, evS, evE, evEs, evAnd, evOr, evIfs, Out.next, Res.out, Res.bind, Res.of, Out.of, asg, asgs, partOf, Out.fin, truth, slice_hi, slice_lo, recv_get2, get2_ok, op2_tup, op2_str, end_get, leline0, leline1, leline2, leline3, leline4, leline5, leline6, leline7, leline8, leline9, leline10, leline11, leline12, leline13, leline14, leline15, leline16, cmp, q6, f6]
      · simp (disch := first | assumption | omega | (refine leline ?_; simp only [List.length_cons, List.length_nil, List.length_append]; omega)) [List.getElem?_cons_zero, List.getElem?_cons_succ, runFn, evSs, evS, evE, evEs, evAnd, evOr, evIfs, Out.next, Res.out, Res.bind, Res.of, Out.of, asg, asgs, partOf, Out.fin, truth, slice_hi, slice_lo, recv_get2, get2_ok, op2_tup, op2_str, end_get, leline0, leline1, leline2, leline3, leline4, leline5, leline6, leline7, leline8, leline9, leline10, leline11, leline12, leline13, leline14, leline15, leline16, cmp, hb]
      · simp (disch := first | assumption | omega | (refine leline ?_; simp only [List.length_cons, List.length_nil, List.length_append]; omega)) [List.getElem?_cons_zero, List.getElem?_cons_succ, runFn, evSs, evS, evE, evEs, evAnd, evOr, evIfs, Out.next, Res.out, Res.bind, Res.of, Out.of, asg, asgs, partOf, Out.fin, truth, slice_hi, slice_lo, recv_get2, get2_ok, op2_tup, op2_str, end_get, leline0, leline1, leline2, leline3, leline4, leline5, leline6, leline7, leline8, leline9, leline10, leline11, leline12, leline13, leline14, leline15, leline16, e1, newL, hnm]
      · simp (disch := first | assumption | omega | (refine leline ?_; simp only [List.length_cons, List.length_nil, List.length_append]; omega)) [List.getElem?_cons_zero, List.getElem?_cons_succ, runFn, evSs, evS, evE, evEs, evAnd, evOr, evIfs, Out.next, Res.out, Res.bind, Res.of, Out.of, asg, asgs, partOf, Out.fin, truth, slice_hi, slice_lo, recv_get2, get2_ok, op2_tup, op2_str, end_get, leline0, leline1, leline2, leline3, leline4, leline5, leline6, leline7, leline8, leline9, leline10, leline11, leline12, leline13, leline14, leline15, leline16, e2]
      · simp (disch := first | assumption | omega | (refine leline ?_; simp only [List.length_cons, List.length_nil, List.length_append]; omega)) [List.getElem?_cons_zero, List.getElem?_cons_succ, runFn, evSs, evS, evE, evEs, evAnd, evOr, evIfs, Out.next, Res.out, Res.bind, Res.of, Out.of, asg, asgs, partOf, Out.fin, truth, slice_hi, slice_lo, recv_get2, get2_ok, op2_tup, op2_str, end_get, leline0, leline1, leline2, leline3, leline4, leline5, leline6, leline7, leline8, leline9, leline10, leline11, leline12, leline13, leline14, leline15, leline16, cmp, q9]
      · simp (disch := first | assumption | omega | (refine leline ?_; simp only [List.length_cons, List.length_nil, List.length_append]; omega)) [List.getElem?_cons_zero, List.getElem?_cons_succ, runFn, evSs, evS, evE, evEs, evAnd, evOr, evIfs, Out.next, Res.out, Res.bind, Res.of, Out.of, asg, asgs, partOf, Out.fin, truth, slice_hi, slice_lo, recv_get2, get2_ok, op2_tup, op2_str, end_get, leline0, leline1, leline2, leline3, leline4, leline5, leline6, leline7, leline8, leline9, leline10, leline11, leline12, leline13, leline14, leline15, leline16, e3]
    · have f9 : (r == 9) = false := by simpa using e99
      obtain ⟨w, hw, hwm⟩ := pick_gn (r := r) (by omega) h12
      refine ⟨_, p2, s2, form_itm hwm hmem hx hl, st (iff_f (v := .bl false) (μ1 := μ0 ++ Pl p s :: ν) ?_ rfl rfl) (st (iff_f (v := .bl false) (μ1 := μ0 ++ Pl p s :: ν) ?_ rfl rfl) (st (iff_f (v := .bl false) (μ1 := μ0 ++ Pl p s :: ν) ?_ rfl rfl) (st (evS_set (v := .str nm) (μ1 := μ0 ++ Pl p1 s1 :: ν) ?_ rfl) (st (evS_set (v := .tup xs) (μ1 := μ0 ++ Pl p2 s2 :: ν) ?_ rfl) (st (iff_f (v := .bl false) (μ1 := μ0 ++ Pl p2 s2 :: ν) ?_ rfl rfl) (st_ret (evS_ret ?_)))))))⟩
      · simp (disch := first | assumption | omega | (refine leline ?_; simp only [List.length_cons, List.length_nil, List.length_append]; omega)) [List.getElem?_cons_zero, List.getElem?_cons_succ, runFn, evSs, evS, evE, evEs, evAnd, evOr, evIfs, Out.next, Res.out, Res.bind, Res.of, Out.of, asg, asgs, partOf, Out.fin, truth, slice_hi, slice_lo, recv_get2, get2_ok, op2_tup, op2_str, end_get, leline0, leline1, leline2, leline3, leline4, leline5, leline6, leline7, leline8, leline9, leline10, leline11, leline12, leline13, leline14, leline15, leline16, cmp, q5, f5]
      · simp (disch := first | assumption | omega | (refine leline ?_; simp only [List.length_cons, List.length_nil, List.length_append]; omega)) [List.getElem?_cons_zero, List.getElem?_cons_succ, runFn, evSs, evS, evE, evEs, evAnd, evOr, evIfs, Out.next, Res.out, Res.bind, Res.of, Out.of, asg, asgs, partOf, Out.fin, truth, slice_hi, slice_lo, recv_get2, get2_ok, op2_tup, op2_str, end_get, leline0, leline1, leline2, leline3, leline4, leline5, leline6, leline7, leline8, leline9, leline10, leline11, leline12, leline13, leline14, leline15, leline16, cmp, q6, f6]
      · simp (disch := first | assumption | omega | (refine leline ?_; simp only [List.length_cons, List.length_nil, List.length_append]; omega)) [List.getElem?_cons_zero, List.getElem?_cons_succ, runFn, evSs, evS, evE, evEs, evAnd, evOr, evIfs, Out.next, Res.out, Res.bind, Res.of, Out.of, asg, asgs, partOf, Out.fin, truth, slice_hi, slice_lo, recv_get2, get2_ok, op2_tup, op2_str, end_get, leline0, leline1, leline2, leline3, leline4, leline5, leline6, leline7, leline8, leline9, leline10, leline11, leline12, leline13, leline14, leline15, leline16, cmp, hb]
      · simp (disch := first | assumption | omega | (refine leline ?_; simp only [List.length_cons, List.length_nil, List.length_append]; omega)) [List.getElem?_cons_zero, List.getElem?_cons_succ, runFn, evSs, evS, evE, evEs, evAnd, evOr, evIfs, Out.next, Res.out, Res.bind, Res.of, Out.of, asg, asgs, partOf, Out.fin, truth, slice_hi, slice_lo, recv_get2, get2_ok, op2_tup, op2_str, end_get, leline0, leline1, leline2, leline3, leline4, leline5, leline6, leline7, leline8, leline9, leline10, leline11, leline12, leline13, leline14, leline15, leline16, e1, newL, hnm]
      · simp (disch := first | assumption | omega | (refine leline ?_; simp only [List.length_cons, List.length_nil, List.length_append]; omega)) [List.getElem?_cons_zero, List.getElem?_cons_succ, runFn, evSs, evS, evE, evEs, evAnd, evOr, evIfs, Out.next, Res.out, Res.bind, Res.of, Out.of, asg, asgs, partOf, Out.fin, truth, slice_hi, slice_lo, recv_get2, get2_ok, op2_tup, op2_str, end_get, leline0, leline1, leline2, leline3, leline4, leline5, leline6, leline7, leline8, leline9, leline10, leline11, leline12, leline13, leline14, leline15, leline16, e2]
      · simp (disch := first | assumption | omega | (refine leline ?_; simp only [List.length_cons, List.length_nil, List.length_append]; omega)) [List.getElem?_cons_zero, List.getElem?_cons_succ, runFn, evSs, evS, evE, evEs, evAnd, evOr, evIfs, Out.next, Res.out, Res.bind, Res.of, Out.of, asg, asgs, partOf, Out.fin, truth, slice_hi, slice_lo, recv_get2, get2_ok, op2_tup, op2_str, end_get, leline0, leline1, leline2, leline3, leline4, leline5, leline6, leline7, leline8, leline9, leline10, leline11, leline12, leline13, leline14, leline15, leline16, cmp, q9, f9]
      · simp (disch := first | assumption | omega | (refine leline ?_; simp only [List.length_cons, List.length_nil, List.length_append]; omega)) [List.getElem?_cons_zero, List.getElem?_cons_succ, runFn, evSs, evS, evE, evEs, evAnd, evOr, evIfs, Out.next, Res.out, Res.bind, Res.of, Out.of, asg, asgs, partOf, Out.fin, truth, slice_hi, slice_lo, recv_get2, get2_ok, op2_tup, op2_str, end_get, leline0, leline1, leline2, leline3, leline4, leline5, leline6, leline7, leline8, leline9, leline10, leline11, leline12, leline13, leline14, leline15, leline16, newL, hw]
theorem drs_o {d : Nat} (D : ∀ e, d = e + 1 → Drs e (3 + 3 * e)) (M : Nat) (hM : 3 + 3 * d ≤ M) : Drw (callN tau Dl 100 M) 9 [.int d] (Itm d) := .of fun μ0 ν p s b => by
  obtain ⟨m, rfl⟩ : ∃ m, M = m + 3 := ⟨M - 3, by omega⟩
  rw [callN_succ (fn := T__law_drawn_offer) rfl]
  obtain ⟨_, p1, s1, ⟨r, rfl, h0, h1⟩, e1⟩ := take_drw (m + 1) 12 (by omega) (by omega) μ0 ν p s b
  obtain ⟨_, p2, s2, ⟨i, rfl, i0, i1⟩, e2⟩ := number_drw m μ0 ν p1 s1 b
  have hi : i.natAbs ≤ 10 ^ 60 := by omega
  have start : ∀ {v : PV} {μ1 : Sto}, evSs tau (callN tau Dl 100 (m + 2)) b 100 ((T__law_drawn_offer.body.drop 2).take 1 ++ T__law_drawn_offer.body.drop 3) [some (.ref μ0.length), some (.int d), some (.int r), some (.int i), none, none, none] (μ0 ++ Pl p2 s2 :: ν) = .ret v μ1 →
      runFn tau (callN tau Dl 100 (m + 2)) 100 T__law_drawn_offer [.ref μ0.length, .int d] b (μ0 ++ Pl p s :: ν) = .ok (v, μ1) := fun {v μ1} k => by
    refine run_ret [some (.ref μ0.length), some (.int d), none, none, none, none, none] rfl rfl (st (evS_set (v := .int r) (μ1 := μ0 ++ Pl p1 s1 :: ν) ?_ rfl) (st (evS_set (v := .int i) (μ1 := μ0 ++ Pl p2 s2 :: ν) ?_ rfl) k))
    · simp (disch := first | assumption | omega | (refine leline ?_; simp only [List.length_cons, List.length_nil, List.length_append]; omega)) [List.getElem?_cons_zero, List.getElem?_cons_succ, runFn, evSs, evS, evE, evEs, evAnd, evOr, evIfs, Out.next, Res.out, Res.bind, Res.of, Out.of, asg, asgs, partOf, Out.fin, truth, slice_hi, slice_lo, recv_get2, get2_ok, op2_tup, op2_str, end_get, leline0, leline1, leline2, leline3, leline4, leline5, leline6, leline7, leline8, leline9, leline10, leline11, leline12, leline13, leline14, leline15, leline16, e1]
    · simp (disch := first | assumption | omega | (refine leline ?_; simp only [List.length_cons, List.length_nil, List.length_append]; omega)) [List.getElem?_cons_zero, List.getElem?_cons_succ, runFn, evSs, evS, evE, evEs, evAnd, evOr, evIfs, Out.next, Res.out, Res.bind, Res.of, Out.of, asg, asgs, partOf, Out.fin, truth, slice_hi, slice_lo, recv_get2, get2_ok, op2_tup, op2_str, end_get, leline0, leline1, leline2, leline3, leline4, leline5, leline6, leline7, leline8, leline9, leline10, leline11, leline12, leline13, leline14, leline15, leline16, e2]
  by_cases hc : (d : Int) < 1 ∨ r < 5
  · obtain ⟨v, hv, hI⟩ := leaf_pick hi h0 d
    refine ⟨v, p2, s2, ⟨hI, okT_ref v hI.ok⟩, start (o_leaf ?_ hv)⟩
    rcases hc with hc | hc
    · exact .inl (decide_eq_true hc)
    · exact .inr (decide_eq_true hc)
  · obtain ⟨e, rfl⟩ : ∃ e, d = e + 1 := ⟨d - 1, by omega⟩
    obtain ⟨v, p3, s3, hI, k⟩ := o_more (m := m + 2) (μ0 := μ0) (ν := ν) (b := b) (D e rfl) (by omega) hi (by omega) h1 p2 s2
    exact ⟨v, p3, s3, ⟨hI, okT_ref v hI.ok⟩, start (o_skip (decide_eq_false (by omega)) (decide_eq_false (by omega)) k)⟩
theorem drs : ∀ d, Drs d (3 + 3 * d)
  | 0 => by
    have o := drs_o (d := 0) (fun e h => by omega)
    have t := drs_t o (by omega)
    exact ⟨o, t, drs_ts t⟩
  | d + 1 => by
    have o := drs_o (d := d + 1) (fun e h => by have : e = d := by omega
                                                subst this; exact drs e)
    have t := drs_t o (by omega)
    exact ⟨o, t, drs_ts t⟩
end Ev.K51


set_option Elab.async false
set_option linter.all false
set_option maxRecDepth 100000
set_option maxHeartbeats 4000000
namespace Ev.K51

open PySem
theorem x0 : tau.xat 0 = some 495622906222 := rfl
theorem okT_plain : ∀ v : PV, okT v = true → v.plain = true ∧ v.nod = true := by
  have main : ∀ n (v : PV), sizeOf v ≤ n → okT v = true → v.plain = true ∧ v.nod = true := by
    intro n
    induction n with
    | zero => intro v h; cases v <;> simp at h
    | succ n ih =>
      intro v hs h
      rcases okT_cases h with ⟨i, rfl⟩ | ⟨s, rfl, q⟩ | ⟨xs, rfl, hx, _, _⟩
      · simp only [okT] at h; exact ⟨by simpa only [PV.plain] using h, by simp only [PV.nod]⟩
      · exact ⟨by simpa only [PV.plain] using q, by simp only [PV.nod]⟩
      · have hm : ∀ x ∈ xs, x.plain = true ∧ x.nod = true := fun x hx' => ih x (by
          have := List.sizeOf_lt_of_mem hx'
          simp only [PV.tup.sizeOf_spec] at hs
          omega) (okTs_mem hx x hx')
        have hp : ∀ ys : List PV, (∀ x ∈ ys, x.plain = true ∧ x.nod = true) → PV.plains ys = true ∧ PV.nods ys = true := by
          intro ys
          induction ys with
          | nil => intro _; exact ⟨rfl, rfl⟩
          | cons y ys ih =>
            intro hy
            have h1 := hy y (List.mem_cons_self ..)
            have h2 := ih fun z hz => hy z (List.mem_cons_of_mem _ hz)
            simp only [PV.plains, PV.nods, h1.1, h1.2, h2.1, h2.2, Bool.and_self, and_self]
        simpa only [PV.plain, PV.nod] using hp xs hm
  exact fun v => main _ v (Nat.le_refl _)
structure Oddv (o : PV) : Prop where
  pl : o.plain = true
  nd : o.nod = true
  dp : o.dep ≤ 10
  wt : o.wt ≤ 1000
  nt : ∀ μ, isTy tau μ o .dict = some false
theorem tcall_odd {n b : Nat} {μ : Sto} {v o : PV} (ho : Oddv o) : callN tau Dl 100 (n + 1) 3 [v, o] b μ = .exc (.exn 0 [495622906222] [o]) μ := by
  rw [callN_succ (fn := T_thing_called) rfl]
  simp (disch := first | assumption | omega | (refine leline ?_; simp only [List.length_cons, List.length_nil, List.length_append]; omega)) [List.getElem?_cons_zero, List.getElem?_cons_succ, runFn, evSs, evS, evE, evEs, evAnd, evOr, evIfs, Out.next, Res.out, Res.bind, Res.of, Out.of, asg, asgs, partOf, Out.fin, truth, slice_hi, slice_lo, recv_get2, get2_ok, op2_tup, op2_str, end_get, leline0, leline1, leline2, leline3, leline4, leline5, leline6, leline7, leline8, leline9, leline10, leline11, leline12, leline13, leline14, leline15, leline16, T_thing_called, prim, ho.nt, x0]
theorem refused_ok {n b : Nat} {μ : Sto} {v o : PV} (hv : v.refLt 0 = true) (ho : Oddv o) : callN tau Dl 100 (n + 2) 11 [v, o] b μ = .ok (.bl true, μ) := by
  rw [callN_succ (fn := T__law_refused) rfl]
  have hr : (PV.exn 0 [495622906222] [o]).refLt 0 = true := by simp only [PV.refLt, PV.refsLt, plain_ref o ho.pl, Bool.and_self]
  have hc : callBy (callN tau Dl 100 (n + 1)) b 3 0 [v, o] μ = .exc (.exn 0 [495622906222] [o]) μ := call0x (by simp only [PV.refsLt, hv, plain_ref o ho.pl, Bool.and_self]) (tcall_odd ho) hr
  have rp : ∀ m μ, prim tau .repr m [o] μ = some (.str o.toD.shown, μ) := fun m μ => repr_ok ho.pl (Nat.le_trans ho.wt (by decide)) (Nat.le_trans ho.dp (by decide))
  have i1 : ∀ m μ, prim tau (.isi (.exc 0)) m [.exn 0 [495622906222] [o]] μ = some (.bl true, μ) := fun m μ => rfl
  have i2 : ∀ m μ, prim tau (.isi .ve) m [.exn 0 [495622906222] [o]] μ = some (.bl true, μ) := fun m μ => rfl
  have ha : ∀ μ, attrOf tau μ (.exn 0 [495622906222] [o]) 495622906222 = some o := fun μ => rfl
  have he : ∀ μ, cmpEq μ (.str o.toD.shown) (.str o.toD.shown) = some true := fun μ => by
    rw [eq_shown ho.pl ho.pl, beq_self_eq_true]
  have a1 : tau.exc 0 = true := rfl
  have a3 : tau.exc 1 = true := rfl
  have a2 : tau.xsub 0 0 = true := rfl
  refine run_ret [some v, some o, none, none] rfl rfl (st (evS_set (v := .non) (μ1 := μ) rfl rfl) (st (σ1 := [some v, some o, some (.exn 0 [495622906222] [o]), none]) (μ1 := μ) ?_ (st_ret (evS_ret ?_))))
  · simp (disch := first | assumption | omega | (refine leline ?_; simp only [List.length_cons, List.length_nil, List.length_append]; omega)) [List.getElem?_cons_zero, List.getElem?_cons_succ, runFn, evSs, evS, evE, evEs, evAnd, evOr, evIfs, Out.next, Res.out, Res.bind, Res.of, Out.of, asg, asgs, partOf, Out.fin, truth, slice_hi, slice_lo, recv_get2, get2_ok, op2_tup, op2_str, end_get, leline0, leline1, leline2, leline3, leline4, leline5, leline6, leline7, leline8, leline9, leline10, leline11, leline12, leline13, leline14, leline15, leline16, hc, evHs, evH, a1, a2, a3]
  · simp (disch := first | assumption | omega | (refine leline ?_; simp only [List.length_cons, List.length_nil, List.length_append]; omega)) [List.getElem?_cons_zero, List.getElem?_cons_succ, runFn, evSs, evS, evE, evEs, evAnd, evOr, evIfs, Out.next, Res.out, Res.bind, Res.of, Out.of, asg, asgs, partOf, Out.fin, truth, slice_hi, slice_lo, recv_get2, get2_ok, op2_tup, op2_str, end_get, leline0, leline1, leline2, leline3, leline4, leline5, leline6, leline7, leline8, leline9, leline10, leline11, leline12, leline13, leline14, leline15, leline16, i1, i2, ha, rp, cmp, he]
end Ev.K51


set_option Elab.async false
set_option linter.all false
set_option maxRecDepth 100000
set_option maxHeartbeats 4000000
namespace Ev.K51

open PySem
def StrF (f : PV → PV) : Prop := ∀ s, PyData.strOk s = true → ∃ t, f (.str s) = .str t ∧ PyData.strOk t = true
theorem strF_ren {ks vs : List PV} (h : NmD ks vs) : StrF (ren ks vs) := fun s hs => ren_str h s hs
/-- a tuple called otherwise, by its place -/
theorem tc_cases {f : PV → PV} (hf : StrF f) {xs : List PV} (hx : okTs xs = true) (hh : okH xs = true) :
    (fPlace xs = 0 ∧ tc f (.tup xs) = .tup (tcs f xs)) ∨ ∃ i s t, fPlace xs = i + 1 ∧ 3 ≤ xs.length ∧ xs[i + 1]? = some (.str s) ∧ PyData.strOk s = true ∧ f (.str s) = .str t ∧ PyData.strOk t = true ∧ tc f (.tup xs) = .tup ((tcs f xs).set (i + 1) (.str t)) := by
  cases e : fPlace xs with
  | zero => exact .inl ⟨rfl, by simp only [tc, e, putF, if_true]⟩
  | succ i =>
    obtain ⟨h3, s, hs⟩ := len3 hh e
    have so : PyData.strOk s = true := by
      have := okTs_mem hx _ (List.mem_of_getElem? hs)
      simpa only [okT] using this
    obtain ⟨t, ht, to⟩ := hf s so
    refine .inr ⟨i, s, t, rfl, h3, hs, so, ht, to, ?_⟩
    have hs' := tcs_get (f := f) hs
    simp only [tc, e, putF, hs', ht, Nat.succ_ne_zero, if_false]
theorem tc_head {f : PV → PV} {x : PV} (hx : okT x = true) : (∀ w, x = .str w → tc f x = .str w) ∧ ((∀ w, x ≠ .str w) → ∀ w, tc f x ≠ .str w) := by
  rcases okT_cases hx with ⟨i, rfl⟩ | ⟨s, rfl, _⟩ | ⟨xs, rfl, _⟩
  · simp [tc]
  · simp [tc]
  · simp [tc]
theorem place_tcs {f : PV → PV} {xs : List PV} (hx : okTs xs = true) : fPlace (tcs f xs) = fPlace xs := by
  cases xs with
  | nil => rfl
  | cons x r =>
    simp only [okTs, Bool.and_eq_true] at hx
    rcases okT_cases hx.1 with ⟨i, rfl⟩ | ⟨s, rfl, _⟩ | ⟨ys, rfl, _⟩ <;> simp only [tcs, tc] <;> rfl
theorem place_set {ys : List PV} {i : Nat} {v : PV} : fPlace (ys.set (i + 1) v) = fPlace ys := by
  cases ys with
  | nil => rfl
  | cons y r => cases y <;> rfl
mutual
theorem okT_tc {f : PV → PV} (hf : StrF f) : ∀ v : PV, okT v = true → okT (tc f v) = true
  | .int _, h => by simpa only [tc] using h
  | .str _, h => by simpa only [tc] using h
  | .tup xs, h => by
    simp only [okT, Bool.and_eq_true, decide_eq_true_eq] at h
    have ht := okTs_tcs hf xs h.1
    rcases tc_cases hf h.1 h.2.1 with ⟨e, q⟩ | ⟨i, s, t, e, h3, hs, so, q1, q2, q⟩
    · rw [q]
      have e' : okH (tcs f xs) = true := by unfold okH; rw [place_tcs h.1, e]
      simp only [okT, ht, e', Bool.true_and, decide_eq_true_eq, tcs_len]
      exact h.2.2
    · rw [q]
      have e' : okH ((tcs f xs).set (i + 1) (.str t)) = true := by
        have hl := (List.getElem?_eq_some_iff.mp hs).1
        unfold okH
        rw [place_set, place_tcs h.1, e]
        simp only [List.length_set, tcs_len, decide_eq_true h3, Bool.true_and, List.getElem?_set_self (show i + 1 < (tcs f xs).length by rw [tcs_len]; exact hl)]
      have e2 : okTs ((tcs f xs).set (i + 1) (.str t)) = true := by
        refine okTs_of fun x hx => ?_
        rcases List.mem_or_eq_of_mem_set hx with hx | rfl
        · exact okTs_mem ht x hx
        · simpa only [okT] using q2
      simp only [okT, e2, e', Bool.true_and, decide_eq_true_eq, List.length_set, tcs_len]
      exact h.2.2
  | .non, h => by simp [okT] at h
  | .bl _, h => by simp [okT] at h
  | .lst _, h => by simp [okT] at h
  | .dct .., h => by simp [okT] at h
  | .ins .., h => by simp [okT] at h
  | .gd _, h => by simp [okT] at h
  | .scr _, h => by simp [okT] at h
  | .exn .., h => by simp [okT] at h
  | .ref _, h => by simp [okT] at h
theorem okTs_tcs {f : PV → PV} (hf : StrF f) : ∀ xs : List PV, okTs xs = true → okTs (tcs f xs) = true
  | [], _ => rfl
  | x :: xs, h => by simp only [okTs, Bool.and_eq_true] at h; simp only [tcs, okTs, okT_tc hf x h.1, okTs_tcs hf xs h.2, Bool.and_self]
end
theorem deps_set {ys : List PV} {i : Nat} {s t : Str} (h : ys[i]? = some (.str s)) : PV.deps (ys.set i (.str t)) = PV.deps ys := by
  induction ys generalizing i with
  | nil => rfl
  | cons y r ih =>
    cases i with
    | zero => simp at h; subst h; simp [PV.deps, PV.dep]
    | succ i => simp at h; simp [PV.deps, ih h]
theorem wts_set {ys : List PV} {i : Nat} {s t : Str} (h : ys[i]? = some (.str s)) : PV.wts (ys.set i (.str t)) + (PV.str s).wt = PV.wts ys + (PV.str t).wt := by
  induction ys generalizing i with
  | nil => simp at h
  | cons y r ih =>
    cases i with
    | zero => simp at h; subst h; simp [PV.wts]; omega
    | succ i => simp at h; have := ih h; simp [PV.wts]; omega
/-- names that grow by at most seven times -/
def Seven (f : PV → PV) : Prop := ∀ s, s ∈ nms → ∃ t, f (.str s) = .str t ∧ 10 * t.length + 2 ≤ 7 * (10 * s.length + 2)
theorem wts_get {ys : List PV} {i : Nat} {v : PV} (h : ys[i]? = some v) : v.wt ≤ PV.wts ys := by
  induction ys generalizing i with
  | nil => simp at h
  | cons y r ih =>
    cases i with
    | zero => simp at h; subst h; simp [PV.wts]; omega
    | succ i => simp at h; have := ih h; simp [PV.wts]; omega
mutual
theorem tc_dep {f : PV → PV} (hf : StrF f) : ∀ v : PV, okT v = true → (tc f v).dep = v.dep
  | .int _, h => by simp only [tc]
  | .str _, h => by simp only [tc]
  | .tup xs, h => by
    simp only [okT, Bool.and_eq_true, decide_eq_true_eq] at h
    have ht := tcs_dep hf xs h.1
    rcases tc_cases hf h.1 h.2.1 with ⟨e, q⟩ | ⟨i, s, t, e, h3, hs, so, q1, q2, q⟩
    · rw [q]; simp only [PV.dep, ht]
    · rw [q]; simp only [PV.dep, deps_set (tcs_get (f := f) hs), ht]
  | .non, h => by simp [okT] at h
  | .bl _, h => by simp [okT] at h
  | .lst _, h => by simp [okT] at h
  | .dct .., h => by simp [okT] at h
  | .ins .., h => by simp [okT] at h
  | .gd _, h => by simp [okT] at h
  | .scr _, h => by simp [okT] at h
  | .exn .., h => by simp [okT] at h
  | .ref _, h => by simp [okT] at h
theorem tcs_dep {f : PV → PV} (hf : StrF f) : ∀ xs : List PV, okTs xs = true → PV.deps (tcs f xs) = PV.deps xs
  | [], _ => rfl
  | x :: xs, h => by simp only [okTs, Bool.and_eq_true] at h; simp only [tcs, PV.deps, tc_dep hf x h.1, tcs_dep hf xs h.2]
end
theorem nm_at {xs : List PV} {i : Nat} {s : Str} (h : nmH xs = true) (hi : fPlace xs = i + 1) (hs : xs[i + 1]? = some (.str s)) : s ∈ nms := by
  unfold nmH at h
  rw [hi] at h
  simp only [hs] at h
  exact of_decide_eq_true h
mutual
theorem tc_wt {f : PV → PV} (hf : StrF f) (h7 : Seven f) : ∀ v : PV, okT v = true → nmT v = true → (tc f v).wt ≤ 7 * v.wt
  | .int _, h, _ => by simp only [tc]; omega
  | .str _, h, _ => by simp only [tc]; omega
  | .tup xs, h, n => by
    simp only [okT, Bool.and_eq_true, decide_eq_true_eq] at h
    simp only [nmT, Bool.and_eq_true] at n
    have ht := tcs_wt hf h7 xs h.1 n.1
    rcases tc_cases hf h.1 h.2.1 with ⟨e, q⟩ | ⟨i, s, t, e, h3, hs, so, q1, q2, q⟩
    · rw [q]; simp only [PV.wt]; omega
    · rw [q]
      have h1 := wts_set (t := t) (tcs_get (f := f) hs)
      obtain ⟨t', e1, e2⟩ := h7 s (nm_at n.2 e hs)
      rw [q1] at e1
      cases e1
      have h9 := tcs_wt_at hf h7 xs h.1 n.1 hs
      simp only [PV.wt] at h1 h9 ⊢
      omega
  | .non, h, _ => by simp [okT] at h
  | .bl _, h, _ => by simp [okT] at h
  | .lst _, h, _ => by simp [okT] at h
  | .dct .., h, _ => by simp [okT] at h
  | .ins .., h, _ => by simp [okT] at h
  | .gd _, h, _ => by simp [okT] at h
  | .scr _, h, _ => by simp [okT] at h
  | .exn .., h, _ => by simp [okT] at h
  | .ref _, h, _ => by simp [okT] at h
theorem tcs_wt {f : PV → PV} (hf : StrF f) (h7 : Seven f) : ∀ xs : List PV, okTs xs = true → nmTs xs = true → PV.wts (tcs f xs) ≤ 7 * PV.wts xs
  | [], _, _ => by simp [tcs, PV.wts]
  | x :: xs, h, n => by
    simp only [okTs, Bool.and_eq_true] at h
    simp only [nmTs, Bool.and_eq_true] at n
    have := tc_wt hf h7 x h.1 n.1
    have := tcs_wt hf h7 xs h.2 n.2
    simp only [tcs, PV.wts]
    omega
theorem tcs_wt_at {f : PV → PV} (hf : StrF f) (h7 : Seven f) : ∀ xs : List PV, okTs xs = true → nmTs xs = true → ∀ {i : Nat} {s : Str}, xs[i]? = some (.str s) → PV.wts (tcs f xs) + 7 * (PV.str s).wt ≤ 7 * PV.wts xs + (PV.str s).wt
  | [], _, _, i, s, e => by simp at e
  | x :: xs, h, n, 0, s, e => by
    simp only [okTs, Bool.and_eq_true] at h
    simp only [nmTs, Bool.and_eq_true] at n
    simp at e
    subst e
    have := tcs_wt hf h7 xs h.2 n.2
    simp only [tcs, tc, PV.wts]
    omega
  | x :: xs, h, n, i + 1, s, e => by
    simp only [okTs, Bool.and_eq_true] at h
    simp only [nmTs, Bool.and_eq_true] at n
    simp at e
    have := tcs_wt_at hf h7 xs h.2 n.2 e
    have := tc_wt hf h7 x h.1 n.1
    simp only [tcs, PV.wts]
    omega
end
/-- back again -/
def Back (f g : PV → PV) : Prop := ∀ s, s ∈ nms → g (f (.str s)) = .str s
theorem set_self {ys : List PV} {i : Nat} {v : PV} (h : ys[i]? = some v) : ys.set i v = ys := by
  obtain ⟨hl, e⟩ := List.getElem?_eq_some_iff.mp h
  rw [← e]
  exact List.set_getElem_self hl
theorem tcs_set {g : PV → PV} : ∀ {ys : List PV} {i : Nat} {t : Str}, tcs g (ys.set i (.str t)) = (tcs g ys).set i (.str t)
  | [], _, _ => rfl
  | y :: r, 0, t => by simp only [List.set_cons_zero, tcs, tc]
  | y :: r, i + 1, t => by simp only [List.set_cons_succ, tcs, tcs_set]
mutual
theorem tc_back {f g : PV → PV} (hf : StrF f) (hg : StrF g) (hb : Back f g) : ∀ v : PV, okT v = true → nmT v = true → tc g (tc f v) = v
  | .int _, h, _ => by simp only [tc]
  | .str _, h, _ => by simp only [tc]
  | .tup xs, h, n => by
    simp only [okT, Bool.and_eq_true, decide_eq_true_eq] at h
    simp only [nmT, Bool.and_eq_true] at n
    have ht := tcs_back hf hg hb xs h.1 n.1
    rcases tc_cases hf h.1 h.2.1 with ⟨e, q⟩ | ⟨i, s, t, e, h3, hs, so, q1, q2, q⟩
    · rw [q]
      simp only [tc, place_tcs h.1, e, putF, if_true, ht]
    · rw [q]
      have e1 : fPlace ((tcs f xs).set (i + 1) (.str t)) = i + 1 := by rw [place_set, place_tcs h.1, e]
      have hb' := hb s (nm_at n.2 e hs)
      rw [q1] at hb'
      have hl := (List.getElem?_eq_some_iff.mp hs).1
      have e2 : (xs.set (i + 1) (.str t))[i + 1]? = some (.str t) := List.getElem?_set_self hl
      simp only [tc, e1, putF, tcs_set, ht, e2, hb', Nat.succ_ne_zero, if_false, List.set_set]
      rw [set_self hs]
  | .non, h, _ => by simp [okT] at h
  | .bl _, h, _ => by simp [okT] at h
  | .lst _, h, _ => by simp [okT] at h
  | .dct .., h, _ => by simp [okT] at h
  | .ins .., h, _ => by simp [okT] at h
  | .gd _, h, _ => by simp [okT] at h
  | .scr _, h, _ => by simp [okT] at h
  | .exn .., h, _ => by simp [okT] at h
  | .ref _, h, _ => by simp [okT] at h
theorem tcs_back {f g : PV → PV} (hf : StrF f) (hg : StrF g) (hb : Back f g) : ∀ xs : List PV, okTs xs = true → nmTs xs = true → tcs g (tcs f xs) = xs
  | [], _, _ => rfl
  | x :: xs, h, n => by
    simp only [okTs, Bool.and_eq_true] at h
    simp only [nmTs, Bool.and_eq_true] at n
    simp only [tcs, tc_back hf hg hb x h.1 n.1, tcs_back hf hg hb xs h.2 n.2]
end
mutual
theorem tc_id {f : PV → PV} (hf : ∀ v, f v = v) : ∀ v : PV, tc f v = v
  | .tup xs => by
    simp only [tc, tcs_id hf xs]
    unfold putF
    split
    · rfl
    · split
      · rename_i y e
        rw [hf, set_self e]
      · rfl
  | .int _ => by simp only [tc]
  | .str _ => by simp only [tc]
  | .non => by simp only [tc]
  | .bl _ => by simp only [tc]
  | .lst _ => by simp only [tc]
  | .dct .. => by simp only [tc]
  | .ins .. => by simp only [tc]
  | .gd _ => by simp only [tc]
  | .scr _ => by simp only [tc]
  | .exn .. => by simp only [tc]
  | .ref _ => by simp only [tc]
theorem tcs_id {f : PV → PV} (hf : ∀ v, f v = v) : ∀ xs : List PV, tcs f xs = xs
  | [] => rfl
  | x :: xs => by simp only [tcs, tc_id hf x, tcs_id hf xs]
end
end Ev.K51


set_option Elab.async false
set_option linter.all false
set_option maxRecDepth 100000
set_option maxHeartbeats 8000000
namespace Ev.K51

open PySem
structure DD (ks vs : List PV) : Prop where
  nm : NmD ks vs
  nm2 : NmD vs ks
  sv : Seven (ren ks vs)
  pk : PV.plains ks = true
  pv : PV.plains vs = true
  wk : PV.wts ks ≤ 1000
  wv : PV.wts vs ≤ 1000
  dk : PV.deps ks = 0
  dv : PV.deps vs = 0
  len : ks.length ≤ 4
  lk : ∀ k ∈ ks, lookP ks vs k = some ((lookP ks vs k).getD .non)
  ps : pairsP (ks.map fun k => .tup [(lookP ks vs k).getD .non, k]) [] [] = some (vs, ks)
  bk : ks.length = 4 → Back (ren ks vs) (ren vs ks)
def R0 : List PV := [.str "wraps", .str "send", .str "a", .str "zzzzzzzz"]
def R1 : List PV := [.str "b", .str "c", .str "d", .str "e"]
def R2 : List PV := [.str "a", .str "wraps", .str "never", .str "guard"]
def NR : List PV := [.str "a", .str "wraps", .str "zzzzzzzz", .str "send"]
def put1 (c : Bool) (d : List PV × List PV) (k v : PV) : List PV × List PV := if c then putP d.1 d.2 k v else d
def mkDD (x y z u : PV) (c1 c2 c3 c4 : Bool) : List PV × List PV := put1 c4 (put1 c3 (put1 c2 (put1 c1 ([], []) (.str "a") x) (.str "wraps") y) (.str "zzzzzzzz") z) (.str "send") u
def isStr : PV → Bool
  | .str s => PyData.strOk s
  | _ => false
def eqStr : PV → Str → Bool
  | .str s, t => decide (s = t)
  | _, _ => false
def sevB (ks vs : List PV) (s : Str) : Bool := match ren ks vs (.str s) with
  | .str t => decide (10 * t.length + 2 ≤ 7 * (10 * s.length + 2))
  | _ => false
def chkDD (d : List PV × List PV) : Bool := (d.1 ++ d.2).all isStr && (nms.all (sevB d.1 d.2) && (PV.plains d.1 && (PV.plains d.2 && (decide (PV.wts d.1 ≤ 1000) && (decide (PV.wts d.2 ≤ 1000) && (decide (PV.deps d.1 = 0) && (decide (PV.deps d.2 = 0) && (decide (d.1.length ≤ 4) &&
  (d.1.all (fun k => (lookP d.1 d.2 k).isSome) && (!decide (d.1.length = 4) || nms.all fun s => eqStr (ren d.2 d.1 (ren d.1 d.2 (.str s))) s))))))))))
theorem isStr_ok {v : PV} (h : isStr v = true) : ∃ s, v = .str s ∧ PyData.strOk s = true := by
  cases v <;> simp [isStr] at h
  exact ⟨_, rfl, h⟩
theorem eqStr_ok {v : PV} {s : Str} (h : eqStr v s = true) : v = .str s := by
  cases v <;> simp [eqStr] at h
  rw [h]
theorem dd_of {d : List PV × List PV} (h : chkDD d = true) (hp : pairsP (d.1.map fun k => .tup [(lookP d.1 d.2 k).getD .non, k]) [] [] = some (d.2, d.1)) : DD d.1 d.2 := by
  simp only [chkDD, Bool.and_eq_true, decide_eq_true_eq, List.all_eq_true] at h
  obtain ⟨h1, h2, h3, h4, h5, h6, h7, h8, h9, h10, h11⟩ := h
  refine ⟨fun v hv => isStr_ok (h1 v hv), fun v hv => isStr_ok (h1 v (by simp only [List.mem_append] at hv ⊢; exact hv.symm)), fun s hs => ?_, h3, h4, h5, h6, h7, h8, h9, fun k hk => ?_, hp, fun hl s hs => ?_⟩
  · have := h2 s hs
    unfold sevB at this
    split at this
    · rename_i t e; exact ⟨t, e, of_decide_eq_true this⟩
    · cases this
  · have := h10 k hk
    cases e : lookP d.1 d.2 k with
    | none => rw [e] at this; cases this
    | some v => rfl
  · rw [decide_eq_true hl] at h11
    simp only [Bool.not_true, Bool.false_or, List.all_eq_true] at h11
    exact eqStr_ok (h11 s hs)
theorem dd_all {x y z u : PV} (h : [x, y, z, u] = R0 ∨ [x, y, z, u] = R1 ∨ [x, y, z, u] = R2) (c1 c2 c3 c4 : Bool) : DD (mkDD x y z u c1 c2 c3 c4).1 (mkDD x y z u c1 c2 c3 c4).2 := by
  rcases h with h | h | h <;> cases h <;> cases c1 <;> cases c2 <;> cases c3 <;> cases c4 <;> exact dd_of (by decide +kernel) rfl
theorem pick_odd {r : Int} (h0 : 0 ≤ r) (h1 : r < 6) : ∃ o, (∀ μ, getIx tau μ (.lst [.non, .lst [], .tup [], .str "a", .lst [.tup [.str "a", .str "b"]], .int 5]) (.int r) = some o) ∧ Oddv o := by
  have : r = 0 ∨ r = 1 ∨ r = 2 ∨ r = 3 ∨ r = 4 ∨ r = 5 := by omega
  rcases this with rfl | rfl | rfl | rfl | rfl | rfl
  · exact ⟨_, fun μ => getIx_lst rfl, by decide +kernel, by decide +kernel, by decide +kernel, by decide +kernel, fun μ => rfl⟩
  · exact ⟨_, fun μ => getIx_lst rfl, by decide +kernel, by decide +kernel, by decide +kernel, by decide +kernel, fun μ => rfl⟩
  · exact ⟨_, fun μ => getIx_lst rfl, by decide +kernel, by decide +kernel, by decide +kernel, by decide +kernel, fun μ => rfl⟩
  · exact ⟨_, fun μ => getIx_lst rfl, by decide +kernel, by decide +kernel, by decide +kernel, by decide +kernel, fun μ => rfl⟩
  · exact ⟨_, fun μ => getIx_lst rfl, by decide +kernel, by decide +kernel, by decide +kernel, by decide +kernel, fun μ => rfl⟩
  · exact ⟨_, fun μ => getIx_lst rfl, by decide +kernel, by decide +kernel, by decide +kernel, by decide +kernel, fun μ => rfl⟩
end Ev.K51


set_option Elab.async false
set_option linter.all false
set_option maxRecDepth 100000
set_option maxHeartbeats 8000000
namespace Ev.K51

open PySem
/-- the statements for one thing -/
def inner : List S := match T_law.body with
  | .for _ _ _ b :: _ => (match b.drop 8 with
    | .for _ _ _ c :: _ => c
    | _ => [])
  | _ => []
theorem beq_shown {μ : Sto} {s : Str} (h : PyData.strOk s = true) : cmpEq μ (.str s) (.str s) = some true := by rw [eq_str h h, beq_self_eq_true]
theorem item_ok {n b : Nat} {ks vs : List PV} {v : PV} {μ0 ν : Sto} (p s : Int) (D : DD ks vs) (I : Itm 4 v) (hn : 15 ≤ n) (a0 a1 a4 a5 a6 a7 a9 a10 a11 a12 a13 a14 : Option PV) :
    ∃ x11 x12 x13 x14 p' s', evSs tau (callN tau Dl 100 n) b 100 inner [a0, a1, some (.ref μ0.length), some (.dct ks vs), a4, a5, a6, a7, some v, a9, a10, a11, a12, a13, a14] (μ0 ++ Pl p s :: ν) =
      .nx [a0, a1, some (.ref μ0.length), some (.dct ks vs), a4, a5, a6, a7, some v, a9, a10, x11, x12, x13, x14] (μ0 ++ Pl p' s' :: ν) := by
  obtain ⟨m, rfl⟩ : ∃ m, n = m + 2 := ⟨n - 2, by omega⟩
  obtain ⟨_, p1, s1, ⟨r, rfl, r0, r1⟩, e1⟩ := take_drw (m + 1) 6 (by omega) (by omega) μ0 ν p s b
  obtain ⟨o, ho, O⟩ := pick_odd r0 r1
  have hdep : v.dep ≤ 10 := I.dep
  have hwt : v.wt ≤ 323950 := Nat.le_trans I.wt (by decide)
  have hvr := okT_ref v I.ok
  obtain ⟨hvp, hvn⟩ := okT_plain v I.ok
  have hkr := D.nm.refs
  have hkr2 := D.nm2.refs
  have hf := strF_ren D.nm
  have hg := strF_ren D.nm2
  -- the thing called otherwise
  have tok := okT_tc hf v I.ok
  obtain ⟨tpl, tnd⟩ := okT_plain _ tok
  have tdep : (tc (ren ks vs) v).dep ≤ 10 := by rw [tc_dep hf v I.ok]; exact hdep
  have twt : (tc (ren ks vs) v).wt ≤ 7 * 323950 := Nat.le_trans (tc_wt hf D.sv v I.ok I.nm) (Nat.mul_le_mul_left _ hwt)
  have tref := okT_ref _ tok
  have hl : 3000000 ≤ line := by decide
  -- what is kept
  have kp : (PV.lst [v, .dct ks vs]).plain = true := by simp only [PV.plain, PV.plains, hvp, D.pk, D.pv, Bool.and_self]
  have kw : (PV.lst [v, .dct ks vs]).wt ≤ line := by
    have := D.wk; have := D.wv
    simp only [PV.wt, PV.wts]; omega
  have kd : (PV.lst [v, .dct ks vs]).dep ≤ 60 := by
    simp only [PV.dep, PV.deps, D.dk, D.dv]; omega
  have rk : ∀ m μ, prim tau .repr m [.lst [v, .dct ks vs]] μ = some (.str (PV.lst [v, .dct ks vs]).toD.shown, μ) := fun m μ => repr_ok kp kw kd
  have rt : ∀ m μ, prim tau .repr m [tc (ren ks vs) v] μ = some (.str (tc (ren ks vs) v).toD.shown, μ) := fun m μ => repr_ok tpl (by omega) (by omega)
  have call3 : ∀ (b : Nat) (μ : Sto), callBy (callN tau Dl 100 (m + 2)) b 3 0 [v, .dct ks vs] μ = .ok (tc (ren ks vs) v, μ) := fun b μ =>
    call0 (by simp only [PV.refsLt, PV.refLt, hvr, hkr.1, hkr.2, Bool.and_self]) (tcall_ok D.nm (m + 2) v 0 [] I.ok (by omega)) tref
  have call10 : ∀ (b : Nat) (μ : Sto), callBy (callN tau Dl 100 (m + 2)) b 10 0 [v, .dct ks vs] μ = .ok (tc (ren ks vs) v, μ) := fun b μ => by
    obtain ⟨μ', e⟩ := due_ok D.nm (m + 2) v 0 [] I.ok (by omega)
    exact call0 (by simp only [PV.refsLt, PV.refLt, hvr, hkr.1, hkr.2, Bool.and_self]) e tref
  have nmE : NmD [] [] := fun v hv => by cases hv
  have renE : ∀ v, ren [] [] v = v := fun v => rfl
  have call3e : ∀ (b : Nat) (μ : Sto), callBy (callN tau Dl 100 (m + 2)) b 3 0 [v, .dct [] []] μ = .ok (v, μ) := fun b μ => by
    have e := tcall_ok nmE (m + 2) v 0 [] I.ok (by omega)
    rw [tc_id renE] at e
    exact call0 (by simp only [PV.refsLt, PV.refLt, hvr, Bool.and_self]) e hvr
  have call11 : ∀ (b : Nat) (μ : Sto), callBy (callN tau Dl 100 (m + 2)) b 11 0 [v, o] μ = .ok (.bl true, μ) := fun b μ =>
    call0 (by simp only [PV.refsLt, hvr, plain_ref o O.pl, Bool.and_self]) (refused_ok hvr O) (by simp only [PV.refLt])
  have q1 : ∀ μ, cmpEq μ (.str (tc (ren ks vs) v).toD.shown) (.str (tc (ren ks vs) v).toD.shown) = some true := fun μ => beq_shown (shown_ok _ tpl)
  have q2 : ∀ μ, cmpEq μ (.str (PV.lst [v, .dct ks vs]).toD.shown) (.str (PV.lst [v, .dct ks vs]).toD.shown) = some true := fun μ => beq_shown (shown_ok _ kp)
  have q3 : ∀ μ, cmpEq μ v v = some true := fun μ => eq_self hvp hvn (by omega)
  have q4 : ∀ μ, cmpEq μ (.int ks.length) (.int 4) = some ((ks.length : Int) == 4) := fun μ => eq_int
  -- the way back
  have hlc : ∀ (μ : Sto) (a11 a12 : Option PV), evE tau (callN tau Dl 100 (m + 2)) b (.lc false (.var 10) .keys [.var 3] [] (.tup [.idx (.var 3) (.var 10), .var 10]) [10]) [a0, a1, some (.ref μ0.length), some (.dct ks vs), a4, a5, a6, a7, some v, a9, a10, a11, a12, a13, a14] μ = .ok (.lst (ks.map fun k => .tup [(lookP ks vs k).getD .non, k]), μ) := fun μ a11 a12 => by
    refine evE_lc1 (p := [.dct ks vs]) (xs := ks) (g := fun k => .tup [(lookP ks vs k).getD .non, k]) rfl rfl (fun k hk => ⟨_, rfl, ?_⟩) (Nat.le_trans D.len (by decide))
    obtain ⟨z, rfl, _⟩ := D.nm k (List.mem_append_left _ hk)
    have g : ∀ μ, getIx tau μ (.dct ks vs) (.str z) = some ((lookP ks vs (.str z)).getD .non) := fun μ => by
      rw [← D.lk _ hk]; rfl
    simp (disch := first | assumption | omega | (refine leline ?_; simp only [List.length_cons, List.length_nil, List.length_append]; omega)) [List.getElem?_cons_zero, List.getElem?_cons_succ, runFn, evSs, evS, evE, evEs, evAnd, evOr, evIfs, Out.next, Res.out, Res.bind, Res.of, Out.of, asg, asgs, partOf, Out.fin, truth, slice_hi, slice_lo, recv_get2, get2_ok, op2_tup, op2_str, end_get, leline0, leline1, leline2, leline3, leline4, leline5, leline6, leline7, leline8, leline9, leline10, leline11, leline12, leline13, leline14, leline15, leline16, wipeP, g]
  have hdp : ∀ μ, prim tau .dictP false [.lst (ks.map fun k => .tup [(lookP ks vs k).getD .non, k])] μ = some (.dct vs ks, μ) := fun μ => by
    simp only [prim, listOf, Option.bind_some, D.ps, Option.map_some]
    rfl
  refine ⟨some (.str (PV.lst [v, .dct ks vs]).toD.shown), some (tc (ren ks vs) v), some (.dct vs ks), some o, p1, s1, ?_⟩
  refine st (evS_set (v := .str (PV.lst [v, .dct ks vs]).toD.shown) (μ1 := μ0 ++ Pl p s :: ν) ?_ rfl) (st (evS_set (v := tc (ren ks vs) v) (μ1 := μ0 ++ Pl p s :: ν) ?_ rfl) (st (iff_f (v := .bl false) (μ1 := μ0 ++ Pl p s :: ν) ?_ rfl rfl) (st (iff_f (v := .bl false) (μ1 := μ0 ++ Pl p s :: ν) ?_ rfl rfl)
    (st (evS_set (v := .dct vs ks) (μ1 := μ0 ++ Pl p s :: ν) (evE_prim (evEs_one (hlc _ _ _)) (hdp _)) rfl) (st (iff_f (v := .bl false) (μ1 := μ0 ++ Pl p s :: ν) ?_ rfl rfl) (st (evS_set (v := o) (μ1 := μ0 ++ Pl p1 s1 :: ν) ?_ rfl) (st (iff_f (v := .bl false) (μ1 := μ0 ++ Pl p1 s1 :: ν) ?_ rfl rfl) rfl)))))))
  · simp (disch := first | assumption | omega | (refine leline ?_; simp only [List.length_cons, List.length_nil, List.length_append]; omega)) [List.getElem?_cons_zero, List.getElem?_cons_succ, runFn, evSs, evS, evE, evEs, evAnd, evOr, evIfs, Out.next, Res.out, Res.bind, Res.of, Out.of, asg, asgs, partOf, Out.fin, truth, slice_hi, slice_lo, recv_get2, get2_ok, op2_tup, op2_str, end_get, leline0, leline1, leline2, leline3, leline4, leline5, leline6, leline7, leline8, leline9, leline10, leline11, leline12, leline13, leline14, leline15, leline16, newL, rk]
  · simp (disch := first | assumption | omega | (refine leline ?_; simp only [List.length_cons, List.length_nil, List.length_append]; omega)) [List.getElem?_cons_zero, List.getElem?_cons_succ, runFn, evSs, evS, evE, evEs, evAnd, evOr, evIfs, Out.next, Res.out, Res.bind, Res.of, Out.of, asg, asgs, partOf, Out.fin, truth, slice_hi, slice_lo, recv_get2, get2_ok, op2_tup, op2_str, end_get, leline0, leline1, leline2, leline3, leline4, leline5, leline6, leline7, leline8, leline9, leline10, leline11, leline12, leline13, leline14, leline15, leline16, call3]
  · simp (disch := first | assumption | omega | (refine leline ?_; simp only [List.length_cons, List.length_nil, List.length_append]; omega)) [List.getElem?_cons_zero, List.getElem?_cons_succ, runFn, evSs, evS, evE, evEs, evAnd, evOr, evIfs, Out.next, Res.out, Res.bind, Res.of, Out.of, asg, asgs, partOf, Out.fin, truth, slice_hi, slice_lo, recv_get2, get2_ok, op2_tup, op2_str, end_get, leline0, leline1, leline2, leline3, leline4, leline5, leline6, leline7, leline8, leline9, leline10, leline11, leline12, leline13, leline14, leline15, leline16, rt, call10, cmp, q1, newL, rk, q2]
  · simp (disch := first | assumption | omega | (refine leline ?_; simp only [List.length_cons, List.length_nil, List.length_append]; omega)) [List.getElem?_cons_zero, List.getElem?_cons_succ, runFn, evSs, evS, evE, evEs, evAnd, evOr, evIfs, Out.next, Res.out, Res.bind, Res.of, Out.of, asg, asgs, partOf, Out.fin, truth, slice_hi, slice_lo, recv_get2, get2_ok, op2_tup, op2_str, end_get, leline0, leline1, leline2, leline3, leline4, leline5, leline6, leline7, leline8, leline9, leline10, leline11, leline12, leline13, leline14, leline15, leline16, call3e, cmp, q3]
  · by_cases h4 : ks.length = 4
    · have hb4 : ((ks.length : Int) == 4) = true := by rw [h4]; rfl
      have cb : ∀ (b : Nat) (μ : Sto), callBy (callN tau Dl 100 (m + 2)) b 3 0 [tc (ren ks vs) v, .dct vs ks] μ = .ok (v, μ) := fun b μ => by
        have e := tcall_ok D.nm2 (m + 2) (tc (ren ks vs) v) 0 [] tok (by omega)
        rw [tc_back hf hg (D.bk h4) v I.ok I.nm] at e
        exact call0 (by simp only [PV.refsLt, PV.refLt, tref, hkr.1, hkr.2, Bool.and_self]) e hvr
      simp (disch := first | assumption | omega | (refine leline ?_; simp only [List.length_cons, List.length_nil, List.length_append]; omega)) [List.getElem?_cons_zero, List.getElem?_cons_succ, runFn, evSs, evS, evE, evEs, evAnd, evOr, evIfs, Out.next, Res.out, Res.bind, Res.of, Out.of, asg, asgs, partOf, Out.fin, truth, slice_hi, slice_lo, recv_get2, get2_ok, op2_tup, op2_str, end_get, leline0, leline1, leline2, leline3, leline4, leline5, leline6, leline7, leline8, leline9, leline10, leline11, leline12, leline13, leline14, leline15, leline16, prim, listOf, dictOf, cmp, q4, hb4, cb, q3]
    · have hb4 : ((ks.length : Int) == 4) = false := by simpa using (by omega : ¬ (ks.length : Int) = 4)
      simp (disch := first | assumption | omega | (refine leline ?_; simp only [List.length_cons, List.length_nil, List.length_append]; omega)) [List.getElem?_cons_zero, List.getElem?_cons_succ, runFn, evSs, evS, evE, evEs, evAnd, evOr, evIfs, Out.next, Res.out, Res.bind, Res.of, Out.of, asg, asgs, partOf, Out.fin, truth, slice_hi, slice_lo, recv_get2, get2_ok, op2_tup, op2_str, end_get, leline0, leline1, leline2, leline3, leline4, leline5, leline6, leline7, leline8, leline9, leline10, leline11, leline12, leline13, leline14, leline15, leline16, prim, listOf, dictOf, cmp, q4, hb4]
  · simp (disch := first | assumption | omega | (refine leline ?_; simp only [List.length_cons, List.length_nil, List.length_append]; omega)) [List.getElem?_cons_zero, List.getElem?_cons_succ, runFn, evSs, evS, evE, evEs, evAnd, evOr, evIfs, Out.next, Res.out, Res.bind, Res.of, Out.of, asg, asgs, partOf, Out.fin, truth, slice_hi, slice_lo, recv_get2, get2_ok, op2_tup, op2_str, end_get, leline0, leline1, leline2, leline3, leline4, leline5, leline6, leline7, leline8, leline9, leline10, leline11, leline12, leline13, leline14, leline15, leline16, newL, e1, ho]
  · simp (disch := first | assumption | omega | (refine leline ?_; simp only [List.length_cons, List.length_nil, List.length_append]; omega)) [List.getElem?_cons_zero, List.getElem?_cons_succ, runFn, evSs, evS, evE, evEs, evAnd, evOr, evIfs, Out.next, Res.out, Res.bind, Res.of, Out.of, asg, asgs, partOf, Out.fin, truth, slice_hi, slice_lo, recv_get2, get2_ok, op2_tup, op2_str, end_get, leline0, leline1, leline2, leline3, leline4, leline5, leline6, leline7, leline8, leline9, leline10, leline11, leline12, leline13, leline14, leline15, leline16, call11]
end Ev.K51


set_option Elab.async false
set_option linter.all false
set_option maxRecDepth 100000
set_option maxHeartbeats 8000000
namespace Ev.K51

open PySem
theorem mid_get1 {μ0 : Sto} {x y : Option MO} : (μ0 ++ [x, y])[μ0.length + 1]? = some y := by
  rw [List.getElem?_append_right (by omega)]
  simp
theorem mid_set1 {μ0 : Sto} {x y z : Option MO} : (μ0 ++ [x, y]).set (μ0.length + 1) z = μ0 ++ [x, z] := by
  rw [List.set_append_right _ _ (by omega)]
  simp
/-- the outer turn's statements -/
def outer : List S := match T_law.body with
  | .for _ _ _ b :: _ => b
  | _ => []
def dstm : List S := match outer.drop 5 with
  | .for _ _ _ b :: _ => b
  | _ => []
theorem dturn {n b : Nat} {μ0 : Sto} {p s : Int} {ks vs : List PV} {i : Int} {k : Str} {row : List PV} {v : PV} (hb : b ≤ μ0.length) (hv : (∀ μ, getIx tau μ (.lst row) (.int i) = some v) ∧ v.refLt 0 = true) (hk : ks.length ≤ 100) (a0 a1 a4 a5 a7 a8 a9 a10 a11 a12 a13 a14 : Option PV) :
    ∃ c p' s', (asg (.tup [.var 9, .var 10]) (.tup [.int i, .str k]) [a0, a1, some (.ref μ0.length), some (.ref (μ0.length + 1)), a4, a5, some (.lst row), a7, a8, a9, a10, a11, a12, a13, a14]) = some [a0, a1, some (.ref μ0.length), some (.ref (μ0.length + 1)), a4, a5, some (.lst row), a7, a8, some (.int i), some (.str k), a11, a12, a13, a14] ∧
      evSs tau (callN tau Dl 100 (n + 1)) b 100 dstm [a0, a1, some (.ref μ0.length), some (.ref (μ0.length + 1)), a4, a5, some (.lst row), a7, a8, some (.int i), some (.str k), a11, a12, a13, a14] (μ0 ++ [Pl p s, some (.dct ks vs)]) =
      .nx [a0, a1, some (.ref μ0.length), some (.ref (μ0.length + 1)), a4, a5, some (.lst row), a7, a8, some (.int i), some (.str k), a11, a12, a13, a14] (μ0 ++ [Pl p' s', some (.dct (put1 c (ks, vs) (.str k) v).1 (put1 c (ks, vs) (.str k) v).2)]) := by
  obtain ⟨_, p1, s1, ⟨r, rfl, r0, r1⟩, e1⟩ := take_drw n 4 (by omega) (by omega) μ0 [some (.dct ks vs)] p s b
  have hmw : ∀ i, mayWrite b i v = true := fun i => by unfold mayWrite; rw [hv.2, Bool.or_true]
  have hkl : ks.length < line := Nat.lt_of_le_of_lt hk (by decide)
  by_cases hr : 0 < r
  · refine ⟨true, p1, s1, rfl, st (iff_t (v := .bl true) (μ1 := μ0 ++ [Pl p1 s1, some (.dct ks vs)]) ?_ rfl (st (σ1 := [a0, a1, some (.ref μ0.length), some (.ref (μ0.length + 1)), a4, a5, some (.lst row), a7, a8, some (.int i), some (.str k), a11, a12, a13, a14]) (μ1 := μ0 ++ [Pl p1 s1, some (.dct (putP ks vs (.str k) v).1 (putP ks vs (.str k) v).2)]) ?_ rfl)) rfl⟩
    · have hd : decide (0 < r) = true := decide_eq_true hr
      simp (disch := first | assumption | omega | (refine leline ?_; simp only [List.length_cons, List.length_nil, List.length_append]; omega)) [List.getElem?_cons_zero, List.getElem?_cons_succ, runFn, evSs, evS, evE, evEs, evAnd, evOr, evIfs, Out.next, Res.out, Res.bind, Res.of, Out.of, asg, asgs, partOf, Out.fin, truth, slice_hi, slice_lo, recv_get2, get2_ok, op2_tup, op2_str, end_get, leline0, leline1, leline2, leline3, leline4, leline5, leline6, leline7, leline8, leline9, leline10, leline11, leline12, leline13, leline14, leline15, leline16, e1, cmp, hd]
    · simp (disch := first | assumption | omega | (refine leline ?_; simp only [List.length_cons, List.length_nil, List.length_append]; omega)) [List.getElem?_cons_zero, List.getElem?_cons_succ, runFn, evSs, evS, evE, evEs, evAnd, evOr, evIfs, Out.next, Res.out, Res.bind, Res.of, Out.of, asg, asgs, partOf, Out.fin, truth, slice_hi, slice_lo, recv_get2, get2_ok, op2_tup, op2_str, end_get, leline0, leline1, leline2, leline3, leline4, leline5, leline6, leline7, leline8, leline9, leline10, leline11, leline12, leline13, leline14, leline15, leline16, hv.1, setItem, mid_get1, PV.isKey, hkl, hmw, setObj, mid_set1]
  · refine ⟨false, p1, s1, rfl, st (iff_f (v := .bl false) (μ1 := μ0 ++ [Pl p1 s1, some (.dct ks vs)]) ?_ rfl rfl) rfl⟩
    have hd : decide (0 < r) = false := decide_eq_false hr
    simp (disch := first | assumption | omega | (refine leline ?_; simp only [List.length_cons, List.length_nil, List.length_append]; omega)) [List.getElem?_cons_zero, List.getElem?_cons_succ, runFn, evSs, evS, evE, evEs, evAnd, evOr, evIfs, Out.next, Res.out, Res.bind, Res.of, Out.of, asg, asgs, partOf, Out.fin, truth, slice_hi, slice_lo, recv_get2, get2_ok, op2_tup, op2_str, end_get, leline0, leline1, leline2, leline3, leline4, leline5, leline6, leline7, leline8, leline9, leline10, leline11, leline12, leline13, leline14, leline15, leline16, e1, cmp, hd]
theorem putP_len {ks vs : List PV} {k v : PV} : (putP ks vs k v).1.length ≤ ks.length + 1 := by
  unfold putP
  split <;> simp
theorem put1_len {c : Bool} {d : List PV × List PV} {k v : PV} : (put1 c d k v).1.length ≤ d.1.length + 1 := by
  unfold put1
  split
  · exact putP_len
  · omega
theorem pick_row {r : Int} (h0 : 0 ≤ r) (h1 : r < 3) : ∃ x y z u, (∀ μ, getIx tau μ (.lst [.lst R0, .lst R1, .lst R2]) (.int r) = some (.lst [x, y, z, u])) ∧ ([x, y, z, u] = R0 ∨ [x, y, z, u] = R1 ∨ [x, y, z, u] = R2) := by
  have : r = 0 ∨ r = 1 ∨ r = 2 := by omega
  rcases this with rfl | rfl | rfl
  · exact ⟨_, _, _, _, fun μ => getIx_lst rfl, .inl rfl⟩
  · exact ⟨_, _, _, _, fun μ => getIx_lst rfl, .inr (.inl rfl)⟩
  · exact ⟨_, _, _, _, fun μ => getIx_lst rfl, .inr (.inr rfl)⟩
theorem row_ref {x y z u : PV} (h : [x, y, z, u] = R0 ∨ [x, y, z, u] = R1 ∨ [x, y, z, u] = R2) : x.refLt 0 = true ∧ y.refLt 0 = true ∧ z.refLt 0 = true ∧ u.refLt 0 = true := by
  rcases h with h | h | h <;> cases h <;> exact ⟨rfl, rfl, rfl, rfl⟩
def GL (ns : List Int) (σ : Loc) : Prop := ∃ x1 x2 x3 x4 x5 x6 x7 x8 x9 x10 x11 x12 x13 x14, σ = [some (.scr ns), x1, x2, x3, x4, x5, x6, x7, x8, x9, x10, x11, x12, x13, x14]
theorem last_itm : Itm 4 (.tup [.str "wrap", .tup [.str "never"], .str "a", .tup [.int 5, .tup [.str "never"]]]) :=
  wrap_itm (d := 3) (leaf1 3) (by simp [nms]) (fun x hx => by
    simp only [List.mem_cons, List.not_mem_nil, or_false] at hx
    rcases hx with rfl | rfl
    · exact int_itm (by omega) 3
    · exact leaf1 3) (by simp)
theorem turn_ok {ns : List Int} {k : Nat} (hk : k < 64) {σ : Loc} {μ : Sto} (h : GL ns σ) : ∃ σ' μ', GL ns σ' ∧ (Out.of (asg (.var 1) (.int k) σ) fun σ => evSs tau (callN tau Dl 100 19) 0 100 outer σ μ) = .nx σ' μ' := by
  obtain ⟨x1, x2, x3, x4, x5, x6, x7, x8, x9, x10, x11, x12, x13, x14, rfl⟩ := h
  obtain ⟨p, s, e4⟩ := pool_ok (τ := tau) (Δ := Dl) (wf := 100) (n := 18) (f := 4) rfl ns k hk 0 μ
  obtain ⟨_, p1, s1, ⟨r, rfl, r0, r1⟩, e1⟩ := take_drw 18 3 (by omega) (by omega) μ [some (.dct [] [])] p s 0
  obtain ⟨x, y, z, u, hrow, hR⟩ := pick_row r0 r1
  obtain ⟨fx, fy, fz, fu⟩ := row_ref hR
  obtain ⟨c1, p2, s2, g1, d1⟩ := dturn (n := 18) (b := 0) (μ0 := μ) (p := p1) (s := s1) (ks := []) (vs := []) (i := 0) (k := "a") (row := [x, y, z, u]) (v := x) (Nat.zero_le _) ⟨fun μ => getIx_lst rfl, fx⟩ (by simp) (some (.scr ns)) (some (.int k)) (some (.lst NR)) (some (.lst [.lst R0, .lst R1, .lst R2])) x7 x8 x9 x10 x11 x12 x13 x14
  obtain ⟨c2, p3, s3, g2, d2⟩ := dturn (n := 18) (b := 0) (μ0 := μ) (p := p2) (s := s2) (ks := (put1 c1 ([], []) (.str "a") x).1) (vs := (put1 c1 ([], []) (.str "a") x).2) (i := 1) (k := "wraps") (row := [x, y, z, u]) (v := y) (Nat.zero_le _) ⟨fun μ => getIx_lst rfl, fy⟩ (by have := put1_len (c := c1) (d := ([], [])) (k := .str "a") (v := x); simp at this; omega) (some (.scr ns)) (some (.int k)) (some (.lst NR)) (some (.lst [.lst R0, .lst R1, .lst R2])) x7 x8 (some (.int 0)) (some (.str "a")) x11 x12 x13 x14
  obtain ⟨c3, p4, s4, g3, d3⟩ := dturn (n := 18) (b := 0) (μ0 := μ) (p := p3) (s := s3) (ks := (put1 c2 (put1 c1 ([], []) (.str "a") x) (.str "wraps") y).1) (vs := (put1 c2 (put1 c1 ([], []) (.str "a") x) (.str "wraps") y).2) (i := 2) (k := "zzzzzzzz") (row := [x, y, z, u]) (v := z) (Nat.zero_le _) ⟨fun μ => getIx_lst rfl, fz⟩ (by have h1 := put1_len (c := c1) (d := ([], [])) (k := .str "a") (v := x); have h2 := put1_len (c := c2) (d := put1 c1 ([], []) (.str "a") x) (k := .str "wraps") (v := y); simp at h1; omega) (some (.scr ns)) (some (.int k)) (some (.lst NR)) (some (.lst [.lst R0, .lst R1, .lst R2])) x7 x8 (some (.int 1)) (some (.str "wraps")) x11 x12 x13 x14
  obtain ⟨c4, p5, s5, g4, d4⟩ := dturn (n := 18) (b := 0) (μ0 := μ) (p := p4) (s := s4) (ks := (put1 c3 (put1 c2 (put1 c1 ([], []) (.str "a") x) (.str "wraps") y) (.str "zzzzzzzz") z).1) (vs := (put1 c3 (put1 c2 (put1 c1 ([], []) (.str "a") x) (.str "wraps") y) (.str "zzzzzzzz") z).2) (i := 3) (k := "send") (row := [x, y, z, u]) (v := u) (Nat.zero_le _) ⟨fun μ => getIx_lst rfl, fu⟩ (by have h1 := put1_len (c := c1) (d := ([], [])) (k := .str "a") (v := x); have h2 := put1_len (c := c2) (d := put1 c1 ([], []) (.str "a") x) (k := .str "wraps") (v := y); have h3 := put1_len (c := c3) (d := put1 c2 (put1 c1 ([], []) (.str "a") x) (.str "wraps") y) (k := .str "zzzzzzzz") (v := z); simp at h1; omega) (some (.scr ns)) (some (.int k)) (some (.lst NR)) (some (.lst [.lst R0, .lst R1, .lst R2])) x7 x8 (some (.int 2)) (some (.str "zzzzzzzz")) x11 x12 x13 x14
  have D := dd_all hR c1 c2 c3 c4
  obtain ⟨ks, hks⟩ : ∃ ks, (mkDD x y z u c1 c2 c3 c4).1 = ks := ⟨_, rfl⟩
  obtain ⟨vs, hvs⟩ : ∃ vs, (mkDD x y z u c1 c2 c3 c4).2 = vs := ⟨_, rfl⟩
  rw [hks, hvs] at D
  rw [show (put1 c4 ((put1 c3 (put1 c2 (put1 c1 ([], []) (.str "a") x) (.str "wraps") y) (.str "zzzzzzzz") z).1, (put1 c3 (put1 c2 (put1 c1 ([], []) (.str "a") x) (.str "wraps") y) (.str "zzzzzzzz") z).2) (.str "send") u).1 = ks from hks, show (put1 c4 ((put1 c3 (put1 c2 (put1 c1 ([], []) (.str "a") x) (.str "wraps") y) (.str "zzzzzzzz") z).1, (put1 c3 (put1 c2 (put1 c1 ([], []) (.str "a") x) (.str "wraps") y) (.str "zzzzzzzz") z).2) (.str "send") u).2 = vs from hvs] at d4
  obtain ⟨v1, p6, s6, I1, e7⟩ := (drs 4).t 19 (by omega) μ [none] p5 s5 0
  obtain ⟨v2, p7, s7, I2, e9⟩ := (drs 4).o 19 (by omega) μ [none] p6 s6 0
  obtain ⟨y11, y12, y13, y14, p8, s8, i1⟩ := item_ok (n := 19) (b := 0) (μ0 := μ) (ν := [none]) p7 s7 D I1 (by omega) (some (.scr ns)) (some (.int k)) (some (.lst NR)) (some (.lst [.lst R0, .lst R1, .lst R2])) (some (.lst [x, y, z, u])) (some (.tup [.str "wrap", .tup [.str "never"], .str "a", .tup [.int 5, .tup [.str "never"]]])) (some (.int 3)) (some (.str "send")) x11 x12 x13 x14
  obtain ⟨z11, z12, z13, z14, p9, s9, i2⟩ := item_ok (n := 19) (b := 0) (μ0 := μ) (ν := [none]) p8 s8 D I2 (by omega) (some (.scr ns)) (some (.int k)) (some (.lst NR)) (some (.lst [.lst R0, .lst R1, .lst R2])) (some (.lst [x, y, z, u])) (some (.tup [.str "wrap", .tup [.str "never"], .str "a", .tup [.int 5, .tup [.str "never"]]])) (some (.int 3)) (some (.str "send")) y11 y12 y13 y14
  obtain ⟨w11, w12, w13, w14, p10, s10, i3⟩ := item_ok (n := 19) (b := 0) (μ0 := μ) (ν := [none]) p9 s9 D last_itm (by omega) (some (.scr ns)) (some (.int k)) (some (.lst NR)) (some (.lst [.lst R0, .lst R1, .lst R2])) (some (.lst [x, y, z, u])) (some (.tup [.str "wrap", .tup [.str "never"], .str "a", .tup [.int 5, .tup [.str "never"]]])) (some (.int 3)) (some (.str "send")) z11 z12 z13 z14
  suffices main : evSs tau (callN tau Dl 100 19) 0 100 outer [some (.scr ns), some (.int k), x2, x3, x4, x5, x6, x7, x8, x9, x10, x11, x12, x13, x14] μ = .nx [some (.scr ns), some (.int k), some (.ref μ.length), some (.dct ks vs), some (.lst NR), some (.lst [.lst R0, .lst R1, .lst R2]), some (.lst [x, y, z, u]), some (.tup [.str "wrap", .tup [.str "never"], .str "a", .tup [.int 5, .tup [.str "never"]]]), some (.tup [.str "wrap", .tup [.str "never"], .str "a", .tup [.int 5, .tup [.str "never"]]]), some (.int 3), some (.str "send"), w11, w12, w13, w14] (μ ++ [Pl p10 s10, none]) by
    exact ⟨_, _, ⟨_, _, _, _, _, _, _, _, _, _, _, _, _, _, rfl⟩, main⟩
  refine st (evS_set (v := .ref μ.length) (μ1 := μ ++ [Pl p s]) ?_ rfl) (st (evS_set (v := .ref (μ.length + 1)) (μ1 := μ ++ [Pl p s, some (.dct [] [])]) ?_ rfl) (st (evS_set (v := .lst NR) (μ1 := μ ++ [Pl p s, some (.dct [] [])]) ?_ rfl) (st (evS_set (v := .lst [.lst R0, .lst R1, .lst R2]) (μ1 := μ ++ [Pl p s, some (.dct [] [])]) ?_ rfl) (st (evS_set (v := .lst [x, y, z, u]) (μ1 := μ ++ [Pl p1 s1, some (.dct [] [])]) ?_ rfl)
    (st (σ1 := [some (.scr ns), some (.int k), some (.ref μ.length), some (.ref (μ.length + 1)), some (.lst NR), some (.lst [.lst R0, .lst R1, .lst R2]), some (.lst [x, y, z, u]), x7, x8, some (.int 3), some (.str "send"), x11, x12, x13, x14]) (μ1 := μ ++ [Pl p5 s5, some (.dct ks vs)]) ?_
    (st (σ1 := [some (.scr ns), some (.int k), some (.ref μ.length), some (.dct ks vs), some (.lst NR), some (.lst [.lst R0, .lst R1, .lst R2]), some (.lst [x, y, z, u]), x7, x8, some (.int 3), some (.str "send"), x11, x12, x13, x14]) (μ1 := μ ++ [Pl p5 s5, none]) ?_
    (st (evS_set (v := .tup [.str "wrap", .tup [.str "never"], .str "a", .tup [.int 5, .tup [.str "never"]]]) (μ1 := μ ++ [Pl p5 s5, none]) ?_ rfl) (st (σ1 := [some (.scr ns), some (.int k), some (.ref μ.length), some (.dct ks vs), some (.lst NR), some (.lst [.lst R0, .lst R1, .lst R2]), some (.lst [x, y, z, u]), some (.tup [.str "wrap", .tup [.str "never"], .str "a", .tup [.int 5, .tup [.str "never"]]]), some (.tup [.str "wrap", .tup [.str "never"], .str "a", .tup [.int 5, .tup [.str "never"]]]), some (.int 3), some (.str "send"), w11, w12, w13, w14]) (μ1 := μ ++ [Pl p10 s10, none]) ?_ rfl))))))))
  · simp (disch := first | assumption | omega | (refine leline ?_; simp only [List.length_cons, List.length_nil, List.length_append]; omega)) [List.getElem?_cons_zero, List.getElem?_cons_succ, runFn, evSs, evS, evE, evEs, evAnd, evOr, evIfs, Out.next, Res.out, Res.bind, Res.of, Out.of, asg, asgs, partOf, Out.fin, truth, slice_hi, slice_lo, recv_get2, get2_ok, op2_tup, op2_str, end_get, leline0, leline1, leline2, leline3, leline4, leline5, leline6, leline7, leline8, leline9, leline10, leline11, leline12, leline13, leline14, leline15, leline16, callBy, e4]
  · simp (disch := first | assumption | omega | (refine leline ?_; simp only [List.length_cons, List.length_nil, List.length_append]; omega)) [List.getElem?_cons_zero, List.getElem?_cons_succ, runFn, evSs, evS, evE, evEs, evAnd, evOr, evIfs, Out.next, Res.out, Res.bind, Res.of, Out.of, asg, asgs, partOf, Out.fin, truth, slice_hi, slice_lo, recv_get2, get2_ok, op2_tup, op2_str, end_get, leline0, leline1, leline2, leline3, leline4, leline5, leline6, leline7, leline8, leline9, leline10, leline11, leline12, leline13, leline14, leline15, leline16]
  · rfl
  · rfl
  · simp (disch := first | assumption | omega | (refine leline ?_; simp only [List.length_cons, List.length_nil, List.length_append]; omega)) [List.getElem?_cons_zero, List.getElem?_cons_succ, runFn, evSs, evS, evE, evEs, evAnd, evOr, evIfs, Out.next, Res.out, Res.bind, Res.of, Out.of, asg, asgs, partOf, Out.fin, truth, slice_hi, slice_lo, recv_get2, get2_ok, op2_tup, op2_str, end_get, leline0, leline1, leline2, leline3, leline4, leline5, leline6, leline7, leline8, leline9, leline10, leline11, leline12, leline13, leline14, leline15, leline16, e1, hrow]
  · exact evS_for (p := [.lst NR]) (xs := [.tup [.int 0, .str "a"], .tup [.int 1, .str "wraps"], .tup [.int 2, .str "zzzzzzzz"], .tup [.int 3, .str "send"]]) rfl rfl (loop_cons g1 d1 (loop_cons g2 d2 (loop_cons g3 d3 (loop_cons g4 d4 loop_nil))))
  · exact (frz_ok (b := 0) (i := 3) (j := μ.length + 1) rfl (Nat.zero_le _) mid_get1 (frz_dct D.nm.refs.1 D.nm.refs.2)).trans (by rw [mid_set1]; rfl)
  · rfl
  · have e7' : callBy (callN tau Dl 100 19) 0 7 1 [.ref μ.length, .int 4] (μ ++ [Pl p5 s5, none]) = .ok (v1, μ ++ [Pl p6 s6, none]) := e7
    have e9' : callBy (callN tau Dl 100 19) 0 9 1 [.ref μ.length, .int 4] (μ ++ [Pl p6 s6, none]) = .ok (v2, μ ++ [Pl p7 s7, none]) := e9
    refine evS_for (p := [.lst [v1, v2, .tup [.str "wrap", .tup [.str "never"], .str "a", .tup [.int 5, .tup [.str "never"]]]]]) (xs := [v1, v2, .tup [.str "wrap", .tup [.str "never"], .str "a", .tup [.int 5, .tup [.str "never"]]]]) (μ1 := μ ++ [Pl p7 s7, none]) ?_ rfl (loop_cons rfl i1 (loop_cons rfl i2 (loop_cons rfl i3 loop_nil)))
    simp (disch := first | assumption | omega | (refine leline ?_; simp only [List.length_cons, List.length_nil, List.length_append]; omega)) [List.getElem?_cons_zero, List.getElem?_cons_succ, runFn, evSs, evS, evE, evEs, evAnd, evOr, evIfs, Out.next, Res.out, Res.bind, Res.of, Out.of, asg, asgs, partOf, Out.fin, truth, slice_hi, slice_lo, recv_get2, get2_ok, op2_tup, op2_str, end_get, leline0, leline1, leline2, leline3, leline4, leline5, leline6, leline7, leline8, leline9, leline10, leline11, leline12, leline13, leline14, leline15, leline16, e7', e9', newL]
theorem law_true (ns : List Int) (hl : ns.length ≤ 63) : ∃ μ, callN tau Dl 100 20 12 [.scr ns] 0 [] = .ok (.bl true, μ) := by
  rw [callN_succ (fn := T_law) rfl]
  obtain ⟨j, hj, h64⟩ : ∃ j : Nat, (if 1 < (if 20 < (ns.length : Int) then (20 : Int) else ns.length) then (if 20 < (ns.length : Int) then (20 : Int) else ns.length) else 1) = (j : Int) ∧ j ≤ 20 := by
    by_cases q : 20 < (ns.length : Int)
    · simp only [if_pos q]
      exact ⟨20, rfl, by omega⟩
    · simp only [if_neg q]
      by_cases c : 1 < (ns.length : Int)
      · rw [if_pos c]; exact ⟨ns.length, rfl, by omega⟩
      · rw [if_neg c]; exact ⟨1, rfl, by omega⟩
  obtain ⟨σ', μ', _, e⟩ := loop_ok (f := fun v σ μ => Out.of (asg (.var 1) v σ) fun σ => evSs tau (callN tau Dl 100 19) 0 100 outer σ μ) (I := GL ns) (xs := upP 0 j) (μ := []) (σ := [some (.scr ns), none, none, none, none, none, none, none, none, none, none, none, none, none, none]) (fun x hx σ μ h => by
    obtain ⟨i, hi, rfl⟩ := upP_mem hx
    have e0 : (0 : Int) + i = i := by omega
    rw [e0]
    exact turn_ok (by omega) h) ⟨_, _, _, _, _, _, _, _, _, _, _, _, _, _, rfl⟩
  refine ⟨μ', run_ret [some (.scr ns), none, none, none, none, none, none, none, none, none, none, none, none, none, none] rfl rfl (st (evS_for (p := [.int j]) (xs := upP 0 j) (μ1 := []) ?_ ?_ e) rfl)⟩
  · simp (disch := first | assumption | omega | (refine leline ?_; simp only [List.length_cons, List.length_nil, List.length_append]; omega)) [List.getElem?_cons_zero, List.getElem?_cons_succ, runFn, evSs, evS, evE, evEs, evAnd, evOr, evIfs, Out.next, Res.out, Res.bind, Res.of, Out.of, asg, asgs, partOf, Out.fin, truth, slice_hi, slice_lo, recv_get2, get2_ok, op2_tup, op2_str, end_get, leline0, leline1, leline2, leline3, leline4, leline5, leline6, leline7, leline8, leline9, leline10, leline11, leline12, leline13, leline14, leline15, leline16, prim]
    exact hj
  · have := walked_rng1 (μ := []) (j := (j : Int)) (by omega) (by omega)
    rw [this, Int.toNat_natCast]
end Ev.K51


set_option Elab.async false
set_option linter.all false
set_option maxRecDepth 100000
set_option maxHeartbeats 0
namespace Ev
open PySem PySem.Spec PyProof.Rows L2 He K51
def top (i : Nat) : Stmt := PySem.Challenge.pw_choosemeet_k51_things_called_otherwise.main.body.getD i (.Pass ⟨0, 0, 0, 0⟩)
def inClass (s : Stmt) (i : Nat) : Stmt := match s with
  | .ClassDef _ _ _ b _ _ _ _ _ _ _ => b.getD i (.Pass ⟨0, 0, 0, 0⟩)
  | s => s
def mkD (c : Str) (m : Option Str) (n q : Str) (st : Stmt) (dfl : List He.Dv) (kwd : List (Str × He.Dv)) : He.DefD := ⟨(c, m), n, q, defArgs st, defBody st, defScope st, dfl, kwd⟩
def d0 : He.DefD := mkD "NoNames" (some "__init__") "__init__" "NoNames.__init__" (inClass (top 1) 0) [] []
def d1 : He.DefD := mkD "NoOffer" (some "__init__") "__init__" "NoOffer.__init__" (inClass (top 2) 0) [] []
def d2 : He.DefD := mkD "put_at" none "put_at" "put_at" (top 5) [] []
def d3 : He.DefD := mkD "thing_called" none "thing_called" "thing_called" (top 6) [] []
def d4 : He.DefD := mkD "_law_pool" none "_law_pool" "_law_pool" (top 8) [] []
def d5 : He.DefD := mkD "_law_take" none "_law_take" "_law_take" (top 9) [] []
def d6 : He.DefD := mkD "_law_number" none "_law_number" "_law_number" (top 10) [] []
def d7 : He.DefD := mkD "_law_drawn_thing" none "_law_drawn_thing" "_law_drawn_thing" (top 11) [] []
def d8 : He.DefD := mkD "_law_drawn_things" none "_law_drawn_things" "_law_drawn_things" (top 12) [] []
def d9 : He.DefD := mkD "_law_drawn_offer" none "_law_drawn_offer" "_law_drawn_offer" (top 13) [] []
def d10 : He.DefD := mkD "_law_due" none "_law_due" "_law_due" (top 14) [] []
def d11 : He.DefD := mkD "_law_refused" none "_law_refused" "_law_refused" (top 15) [] []
def d12 : He.DefD := mkD "law" none "law" "law" (top 16) [] []
def fn : List He.DefD := [d0, d1, d2, d3, d4, d5, d6, d7, d8, d9, d10, d11, d12]
def fa : List He.Fa := [.glo "put_at", .glo "thing_called", .glo "_law_pool", .glo "_law_take", .glo "_law_number", .glo "_law_drawn_thing", .glo "_law_drawn_things", .glo "_law_drawn_offer", .glo "_law_due", .glo "_law_refused", .glo "law", .glo "NoNames", .glo "NoOffer", .glo "FORM_PLACES", .free "ValueError", .free "abs", .free "dict", .free "enumerate", .free "int", .free "isinstance", .free "len", .free "max", .free "min", .free "range", .free "repr", .free "str", .free "tuple"]
def xs : List (Str × Str) := [("NoNames", "names"), ("NoOffer", "offer")]
def xt (K : PySem.W.Frag) : Bool := excsB K xs && valsB K (He.ga K "FORM_PLACES") (tab_FORM_PLACES.map fun q => (q.1, .int q.2))
def ts : List He.Tab := [(fun K => He.ga K "FORM_PLACES", tab_FORM_PLACES.map (·.1))]
abbrev R : PySem.W.OpenRow := PySem.W.OpenLaw.row PySem.Challenge.rw_choosemeet_k51_things_called_otherwise
abbrev hk : PySem.W.Hook := hookX 0 3000 fa fn xt ts
def ob (s : PySem.W.SharedT) : AlX := obsXG 0 3000 fa fn xt ts (HandSHeadRun.getT s)
theorem ob_eq (s : PySem.W.SharedT) : ob s = hk.obs s.abs := obsXG_eq (HandSHeadRun.getT_eq s)
def names : List PySem.Str := ["__name__", "NoNames", "NoOffer", "FORM_PLACES", "put_at", "thing_called", "_law_pool", "_law_take", "_law_number", "_law_drawn_thing", "_law_drawn_things", "_law_drawn_offer", "_law_due", "_law_refused"]
theorem run_f (w : World) : HandSHeadRun.RunEq R (PySem.W.view R.prog [16]) hk ob 1500 names (w.withFollow "special-get-raises" false) := by
  intro os
  kernel_rfl
theorem run_t (w : World) : HandSHeadRun.RunEq R (PySem.W.view R.prog [16]) hk ob 1500 names (w.withFollow "special-get-raises" true) := by
  intro os
  kernel_rfl
theorem run (w : World) : HandSHeadRun.RunEq R (PySem.W.view R.prog [16]) hk ob 1500 names w := PySem.W.byRow2 "special-get-raises" (P := fun w => HandSHeadRun.RunEq R (PySem.W.view R.prog [16]) hk ob 1500 names w) run_f run_t w
def N_put_at : List Str := ["some", "place", "names"]
def N_thing_called : List Str := ["thing", "names", "found", "part"]
def N__law_pool : List Str := ["_law_script", "_law_k", "_law_cell", "_law_size", "_law_seed"]
def N__law_take : List Str := ["_law_pool_here", "_law_many", "_law_found"]
def N__law_number : List Str := ["_law_pool_here"]
def N__law_drawn_thing : List Str := ["_law_pool_here", "_law_deep", "_law_way", "_law_number_here"]
def N__law_drawn_things : List Str := ["_law_pool_here", "_law_deep", "_law_turn"]
def N__law_drawn_offer : List Str := ["_law_pool_here", "_law_deep", "_law_way", "_law_number_here", "_law_name", "_law_some", "_law_turn"]
def N__law_due : List Str := ["_law_item", "_law_new", "_law_found", "_law_at", "_law_part"]
def N__law_refused : List Str := ["_law_item", "_law_new", "_law_kept", "e"]
def N_law : List Str := ["_law_script", "_law_k", "_law_pool_here", "_law_new", "_law_names", "_law_fresh", "_law_row", "_law_last", "_law_item", "_law_at", "_law_name", "_law_kept", "_law_found", "_law_back", "_law_odd"]
def ck : Ck := ⟨[none, none, some "put_at", some "thing_called", some "_law_pool", some "_law_take", some "_law_number", some "_law_drawn_thing", some "_law_drawn_things", some "_law_drawn_offer", some "_law_due", some "_law_refused", some "law"], [some "NoNames", some "NoOffer"], ["FORM_PLACES"], ["ValueError", "abs", "dict", "enumerate", "int", "isinstance", "len", "max", "min", "range", "repr", "str", "tuple"]⟩
theorem chk_put_at : chkSs ck ⟨N_put_at, d2.scope.names, fun _ => true⟩ T_put_at.body d2.body = true := by decide +kernel
theorem chk_thing_called : chkSs ck ⟨N_thing_called, d3.scope.names, fun _ => true⟩ T_thing_called.body d3.body = true := by decide +kernel
theorem chk__law_pool : chkSs ck ⟨N__law_pool, d4.scope.names, fun _ => true⟩ T__law_pool.body d4.body = true := by decide +kernel
theorem chk__law_take : chkSs ck ⟨N__law_take, d5.scope.names, fun _ => true⟩ T__law_take.body d5.body = true := by decide +kernel
theorem chk__law_number : chkSs ck ⟨N__law_number, d6.scope.names, fun _ => true⟩ T__law_number.body d6.body = true := by decide +kernel
theorem chk__law_drawn_thing : chkSs ck ⟨N__law_drawn_thing, d7.scope.names, fun _ => true⟩ T__law_drawn_thing.body d7.body = true := by decide +kernel
theorem chk__law_drawn_things : chkSs ck ⟨N__law_drawn_things, d8.scope.names, fun _ => true⟩ T__law_drawn_things.body d8.body = true := by decide +kernel
theorem chk__law_drawn_offer : chkSs ck ⟨N__law_drawn_offer, d9.scope.names, fun _ => true⟩ T__law_drawn_offer.body d9.body = true := by decide +kernel
theorem chk__law_due : chkSs ck ⟨N__law_due, d10.scope.names, fun _ => true⟩ T__law_due.body d10.body = true := by decide +kernel
theorem chk__law_refused : chkSs ck ⟨N__law_refused, d11.scope.names, fun _ => true⟩ T__law_refused.body d11.body = true := by decide +kernel
theorem chk_law : chkSs ck ⟨N_law, d12.scope.names, fun _ => true⟩ T_law.body d12.body = true := by decide +kernel
theorem sc_put_at : FnScope N_put_at ["some", "place", "names"] d2.scope := ⟨rfl, rfl, rfl, by decide +kernel, rfl, by decide +kernel, by decide +kernel⟩
theorem sc_thing_called : FnScope N_thing_called ["thing", "names"] d3.scope := ⟨rfl, rfl, rfl, by decide +kernel, rfl, by decide +kernel, by decide +kernel⟩
theorem sc__law_pool : FnScope N__law_pool ["_law_script", "_law_k"] d4.scope := ⟨rfl, rfl, rfl, by decide +kernel, rfl, by decide +kernel, by decide +kernel⟩
theorem sc__law_take : FnScope N__law_take ["_law_pool_here", "_law_many"] d5.scope := ⟨rfl, rfl, rfl, by decide +kernel, rfl, by decide +kernel, by decide +kernel⟩
theorem sc__law_number : FnScope N__law_number ["_law_pool_here"] d6.scope := ⟨rfl, rfl, rfl, by decide +kernel, rfl, by decide +kernel, by decide +kernel⟩
theorem sc__law_drawn_thing : FnScope N__law_drawn_thing ["_law_pool_here", "_law_deep"] d7.scope := ⟨rfl, rfl, rfl, by decide +kernel, rfl, by decide +kernel, by decide +kernel⟩
theorem sc__law_drawn_things : FnScope N__law_drawn_things ["_law_pool_here", "_law_deep"] d8.scope := ⟨rfl, rfl, rfl, by decide +kernel, rfl, by decide +kernel, by decide +kernel⟩
theorem sc__law_drawn_offer : FnScope N__law_drawn_offer ["_law_pool_here", "_law_deep"] d9.scope := ⟨rfl, rfl, rfl, by decide +kernel, rfl, by decide +kernel, by decide +kernel⟩
theorem sc__law_due : FnScope N__law_due ["_law_item", "_law_new"] d10.scope := ⟨rfl, rfl, rfl, by decide +kernel, rfl, by decide +kernel, by decide +kernel⟩
theorem sc__law_refused : FnScope N__law_refused ["_law_item", "_law_new"] d11.scope := ⟨rfl, rfl, rfl, by decide +kernel, rfl, by decide +kernel, by decide +kernel⟩
theorem sc_law : FnScope N_law ["_law_script"] d12.scope := ⟨rfl, rfl, rfl, by decide +kernel, rfl, by decide +kernel, by decide +kernel⟩
def gxOf (K : PySem.W.Frag) : Gx := ⟨K, fun c => match c with
  | 0 => He.ga K "NoNames"
  | 1 => He.ga K "NoOffer"
  | _ => 0, fun d => match d with
  | 0 => He.ga K "FORM_PLACES"
  | _ => 0⟩
def fis (K : PySem.W.Frag) (fd : Nat → FuncData) : List (Option FI) := [none, none, some ⟨some "put_at", He.fAd K d2.at_, fd 2, ["some", "place", "names"]⟩, some ⟨some "thing_called", He.fAd K d3.at_, fd 3, ["thing", "names"]⟩, some ⟨some "_law_pool", He.fAd K d4.at_, fd 4, ["_law_script", "_law_k"]⟩, some ⟨some "_law_take", He.fAd K d5.at_, fd 5, ["_law_pool_here", "_law_many"]⟩, some ⟨some "_law_number", He.fAd K d6.at_, fd 6, ["_law_pool_here"]⟩, some ⟨some "_law_drawn_thing", He.fAd K d7.at_, fd 7, ["_law_pool_here", "_law_deep"]⟩, some ⟨some "_law_drawn_things", He.fAd K d8.at_, fd 8, ["_law_pool_here", "_law_deep"]⟩, some ⟨some "_law_drawn_offer", He.fAd K d9.at_, fd 9, ["_law_pool_here", "_law_deep"]⟩, some ⟨some "_law_due", He.fAd K d10.at_, fd 10, ["_law_item", "_law_new"]⟩, some ⟨some "_law_refused", He.fAd K d11.at_, fd 11, ["_law_item", "_law_new"]⟩, some ⟨some "law", He.fAd K d12.at_, fd 12, ["_law_script"]⟩]
def pgOf (P : Program) (w : World) (mg : Str → Option Value) (base : Heap) (K : PySem.W.Frag) (fd : Nat → FuncData) : Pg where
  P := P
  w := w
  mg := mg
  base := base
  g := gxOf K
  τ := tau
  fn := fun f => ((fis K fd)[f]?).join
  cl := fun c => (ck.cl[c]?).join
  kn := fun j => match j with
    | 0 => some ("FORM_PLACES", .ref (He.ga K "FORM_PLACES"))
    | _ => none
  bl := ck.bl
theorem link (P : Program) (w : World) (mg : Str → Option Value) (base : Heap) (K : PySem.W.Frag) (fd : Nat → FuncData) : Link ck (pgOf P w mg base K fd) where
  fn := fun f x h => by
    have e : ck.fn = (fis K fd).map fun o => o.bind (·.nm) := rfl
    rw [e, List.getElem?_map] at h
    show ∃ i, ((fis K fd)[f]?).join = some i ∧ i.nm = some x
    cases q : (fis K fd)[f]? with
    | none => rw [q] at h; cases h
    | some o =>
      rw [q] at h
      cases o with
      | none => cases h
      | some i => exact ⟨i, rfl, h⟩
  cl := fun c x h => h
  kn := fun j x h => by
    match j, h with
    | 0, h => cases h; exact ⟨_, rfl⟩
    | j + 1, h => cases (show (none : Option Str) = some x from h)
  bl := fun x h => h
theorem facts {P : Program} {w : World} {K : PySem.W.Frag} {h : Heap} {mg : Str → Option Value} {fa0 : Addr} (X : K.In h) (G : h.Ns mainGlobals mg) (hfa : mg ("law" : Str) = some (.ref fa0)) (c : SaysX fa fn xt ts w K) :
    ∃ fd : FuncData, (∀ (s : Shared) (v : Value), BindsTo s fd ⟨[v], []⟩ [("_law_script", v)]) ∧ ∀ base : Heap, K.In base → base.Ns mainGlobals mg → FnG P w K mg base (L2.CX P w) (20 + 2) fa0 fd ["_law_script"] (spF (gxOf K) (callN tau Dl 100 20 12)) := by
  obtain ⟨fd0, F0⟩ := c.d.def_ 0 (d := d0) rfl
  obtain ⟨fd1, F1⟩ := c.d.def_ 1 (d := d1) rfl
  obtain ⟨fd2, F2⟩ := c.d.def_ 2 (d := d2) rfl
  obtain ⟨fd3, F3⟩ := c.d.def_ 3 (d := d3) rfl
  obtain ⟨fd4, F4⟩ := c.d.def_ 4 (d := d4) rfl
  obtain ⟨fd5, F5⟩ := c.d.def_ 5 (d := d5) rfl
  obtain ⟨fd6, F6⟩ := c.d.def_ 6 (d := d6) rfl
  obtain ⟨fd7, F7⟩ := c.d.def_ 7 (d := d7) rfl
  obtain ⟨fd8, F8⟩ := c.d.def_ 8 (d := d8) rfl
  obtain ⟨fd9, F9⟩ := c.d.def_ 9 (d := d9) rfl
  obtain ⟨fd10, F10⟩ := c.d.def_ 10 (d := d10) rfl
  obtain ⟨fd11, F11⟩ := c.d.def_ 11 (d := d11) rfl
  obtain ⟨fd12, F12⟩ := c.d.def_ 12 (d := d12) rfl
  obtain ⟨xb, xv0⟩ : excsB K xs = true ∧ valsB K (He.ga K "FORM_PLACES") (tab_FORM_PLACES.map fun q => (q.1, .int q.2)) = true := by
    have q := c.b.1
    unfold xt at q
    simpa only [Bool.and_eq_true, and_assoc] using q
  have e := hfa.symm.trans (He.glo_ok X G (c.fact (f := .glo "law") (List.mem_of_getElem? (i := 10) rfl)))
  cases e
  let fdf : Nat → FuncData := fun i => match i with
    | 0 => fd0
    | 1 => fd1
    | 2 => fd2
    | 3 => fd3
    | 4 => fd4
    | 5 => fd5
    | 6 => fd6
    | 7 => fd7
    | 8 => fd8
    | 9 => fd9
    | 10 => fd10
    | 11 => fd11
    | 12 => fd12
    | _ => fd0
  have B2 : Binds K fd2 ["some", "place", "names"] [] := F2.bindsN fun _ _ _ _ _ _ us hl => match us, hl with | [_, _, _], _ => rfl
  have B3 : Binds K fd3 ["thing", "names"] [] := F3.bindsN fun _ _ _ _ _ _ us hl => match us, hl with | [_, _], _ => rfl
  have B4 : Binds K fd4 ["_law_script", "_law_k"] [] := F4.bindsN fun _ _ _ _ _ _ us hl => match us, hl with | [_, _], _ => rfl
  have B5 : Binds K fd5 ["_law_pool_here", "_law_many"] [] := F5.bindsN fun _ _ _ _ _ _ us hl => match us, hl with | [_, _], _ => rfl
  have B6 : Binds K fd6 ["_law_pool_here"] [] := F6.bindsN fun _ _ _ _ _ _ us hl => match us, hl with | [_], _ => rfl
  have B7 : Binds K fd7 ["_law_pool_here", "_law_deep"] [] := F7.bindsN fun _ _ _ _ _ _ us hl => match us, hl with | [_, _], _ => rfl
  have B8 : Binds K fd8 ["_law_pool_here", "_law_deep"] [] := F8.bindsN fun _ _ _ _ _ _ us hl => match us, hl with | [_, _], _ => rfl
  have B9 : Binds K fd9 ["_law_pool_here", "_law_deep"] [] := F9.bindsN fun _ _ _ _ _ _ us hl => match us, hl with | [_, _], _ => rfl
  have B10 : Binds K fd10 ["_law_item", "_law_new"] [] := F10.bindsN fun _ _ _ _ _ _ us hl => match us, hl with | [_, _], _ => rfl
  have B11 : Binds K fd11 ["_law_item", "_law_new"] [] := F11.bindsN fun _ _ _ _ _ _ us hl => match us, hl with | [_, _], _ => rfl
  have B12 : Binds K fd12 ["_law_script"] [] := F12.bindsN fun _ _ _ _ _ _ us hl => match us, hl with | [_], _ => rfl
  have B0 : Binds K fd0 ["self", "names"] [] := F0.bindsN fun _ _ _ _ _ _ us hl => match us, hl with | [_, _], _ => rfl
  have B1 : Binds K fd1 ["self", "offer"] [] := F1.bindsN fun _ _ _ _ _ _ us hl => match us, hl with | [_, _], _ => rfl
  refine ⟨fd12, fun s v => ?_, fun base kb gb => ?_⟩
  · exact FunD.bindsA (ps := ["_law_script"]) F12 (fun _ _ _ _ _ _ us hl => match us, hl with | [_], _ => rfl) s [v] rfl
  have o : (pgOf P w mg base K fdf).Ok := by
    refine ⟨?_, excsB_sys xb, fun f i hi => ?_, fun n x hx => ?_, fun j i v hi hv => ?_, fun x hx => ?_⟩
    · refine tok_exc (xs := xs) xb (fun _ _ => rfl) (fun n hn => ?_) (fun a b q r ha hb hq hr => ?_) (fun f hf => ?_) fun d kv hd => ?_
      · match n, hn with
        | 0, _ => exact ⟨_, rfl, rfl⟩
        | 1, _ => exact ⟨_, rfl, rfl⟩
        | n + 2, hn => exact absurd (Nat.blt_eq.mp hn) (by omega)
      · have ha := Nat.blt_eq.mp ha
        have hb := Nat.blt_eq.mp hb
        match a, b, hq, hr, ha, hb with
        | 0, 0, hq, hr, _, _ => cases hq; cases hr; show Nat.beq 0 0 = decide (("NoNames" : Str) = "NoNames"); decide +kernel
        | 0, 1, hq, hr, _, _ => cases hq; cases hr; show Nat.beq 0 1 = decide (("NoNames" : Str) = "NoOffer"); decide +kernel
        | 1, 0, hq, hr, _, _ => cases hq; cases hr; show Nat.beq 1 0 = decide (("NoOffer" : Str) = "NoNames"); decide +kernel
        | 1, 1, hq, hr, _, _ => cases hq; cases hr; show Nat.beq 1 1 = decide (("NoOffer" : Str) = "NoOffer"); decide +kernel
        | 0, b + 2, _, _, _, hb => exact absurd hb (by omega)
        | 1, b + 2, _, _, _, hb => exact absurd hb (by omega)
        | a + 2, b, _, _, ha, _ => exact absurd ha (by omega)
      · have hf : (Nat.beq f 495622906222 || Nat.beq f 491327481455) = true := hf
        simp only [Bool.or_eq_true] at hf
        rcases hf with hf | hf
        · rw [Nat.eq_of_beq_eq_true hf]; exact ⟨_, List.mem_of_getElem? (i := 0) rfl, by decide +kernel⟩
        · rw [Nat.eq_of_beq_eq_true hf]; exact ⟨_, List.mem_of_getElem? (i := 1) rfl, by decide +kernel⟩
      · match d, hd with
        | 0, hd => cases hd; exact gdI tab_FORM_PLACES (show dicW K (He.ga K "FORM_PLACES") = some (keysIn w.params (tab_FORM_PLACES.map (·.1))) from c.tab 0 (t := (fun K => He.ga K "FORM_PLACES", tab_FORM_PLACES.map fun q : Str × Int => q.1)) rfl) xv0
        | d + 1, hd => cases hd
    · refine at_all (Q := fun _ i => PySem.W.keepIn K (.ref i.adr) = true ∧ Binds K i.fd i.ps [] ∧ ∀ n, i.nm = some n → mg n = some (.ref i.adr)) (fis K fdf) 0 ?_ f i hi
      exact ⟨⟨F2.kp, B2, fun n e => by cases e; exact He.glo_ok X G (c.fact (f := .glo "put_at") (List.mem_of_getElem? (i := 0) rfl))⟩, ⟨F3.kp, B3, fun n e => by cases e; exact He.glo_ok X G (c.fact (f := .glo "thing_called") (List.mem_of_getElem? (i := 1) rfl))⟩, ⟨F4.kp, B4, fun n e => by cases e; exact He.glo_ok X G (c.fact (f := .glo "_law_pool") (List.mem_of_getElem? (i := 2) rfl))⟩, ⟨F5.kp, B5, fun n e => by cases e; exact He.glo_ok X G (c.fact (f := .glo "_law_take") (List.mem_of_getElem? (i := 3) rfl))⟩, ⟨F6.kp, B6, fun n e => by cases e; exact He.glo_ok X G (c.fact (f := .glo "_law_number") (List.mem_of_getElem? (i := 4) rfl))⟩, ⟨F7.kp, B7, fun n e => by cases e; exact He.glo_ok X G (c.fact (f := .glo "_law_drawn_thing") (List.mem_of_getElem? (i := 5) rfl))⟩, ⟨F8.kp, B8, fun n e => by cases e; exact He.glo_ok X G (c.fact (f := .glo "_law_drawn_things") (List.mem_of_getElem? (i := 6) rfl))⟩, ⟨F9.kp, B9, fun n e => by cases e; exact He.glo_ok X G (c.fact (f := .glo "_law_drawn_offer") (List.mem_of_getElem? (i := 7) rfl))⟩, ⟨F10.kp, B10, fun n e => by cases e; exact He.glo_ok X G (c.fact (f := .glo "_law_due") (List.mem_of_getElem? (i := 8) rfl))⟩, ⟨F11.kp, B11, fun n e => by cases e; exact He.glo_ok X G (c.fact (f := .glo "_law_refused") (List.mem_of_getElem? (i := 9) rfl))⟩, ⟨F12.kp, B12, fun n e => by cases e; exact He.glo_ok X G (c.fact (f := .glo "law") (List.mem_of_getElem? (i := 10) rfl))⟩, trivial⟩
    · match n, hx with
      | 0, hx => cases hx; exact He.glo_ok X G (c.fact (f := .glo "NoNames") (List.mem_of_getElem? (i := 11) rfl))
      | 1, hx => cases hx; exact He.glo_ok X G (c.fact (f := .glo "NoOffer") (List.mem_of_getElem? (i := 12) rfl))
      | n + 2, hx => cases hx
    · match j, hi, hv with
      | 0, hi, hv => cases hi; cases hv; exact ⟨⟨_, He.glo_ok X G (c.fact (f := .glo "FORM_PLACES") (List.mem_of_getElem? (i := 13) rfl)), rfl⟩, fun wd => by simp only [Den]; rfl⟩
      | j + 1, hi, hv => cases hi
    · have hx : x ∈ [("ValueError" : Str), ("abs" : Str), ("dict" : Str), ("enumerate" : Str), ("int" : Str), ("isinstance" : Str), ("len" : Str), ("max" : Str), ("min" : Str), ("range" : Str), ("repr" : Str), ("str" : Str), ("tuple" : Str)] := hx
      simp only [List.mem_cons, List.not_mem_nil, or_false] at hx
      rcases hx with rfl | rfl | rfl | rfl | rfl | rfl | rfl | rfl | rfl | rfl | rfl | rfl | rfl
      · exact He.free_ok X G (c.fact (f := .free "ValueError") (List.mem_of_getElem? (i := 14) rfl))
      · exact He.free_ok X G (c.fact (f := .free "abs") (List.mem_of_getElem? (i := 15) rfl))
      · exact He.free_ok X G (c.fact (f := .free "dict") (List.mem_of_getElem? (i := 16) rfl))
      · exact He.free_ok X G (c.fact (f := .free "enumerate") (List.mem_of_getElem? (i := 17) rfl))
      · exact He.free_ok X G (c.fact (f := .free "int") (List.mem_of_getElem? (i := 18) rfl))
      · exact He.free_ok X G (c.fact (f := .free "isinstance") (List.mem_of_getElem? (i := 19) rfl))
      · exact He.free_ok X G (c.fact (f := .free "len") (List.mem_of_getElem? (i := 20) rfl))
      · exact He.free_ok X G (c.fact (f := .free "max") (List.mem_of_getElem? (i := 21) rfl))
      · exact He.free_ok X G (c.fact (f := .free "min") (List.mem_of_getElem? (i := 22) rfl))
      · exact He.free_ok X G (c.fact (f := .free "range") (List.mem_of_getElem? (i := 23) rfl))
      · exact He.free_ok X G (c.fact (f := .free "repr") (List.mem_of_getElem? (i := 24) rfl))
      · exact He.free_ok X G (c.fact (f := .free "str") (List.mem_of_getElem? (i := 25) rfl))
      · exact He.free_ok X G (c.fact (f := .free "tuple") (List.mem_of_getElem? (i := 26) rfl))
  have xm : ∀ n f, tau.xat n = some f → XmOk (pgOf P w mg base K fdf) n f := fun n f hn => by
    match n, hn with
    | 0, hn =>
      cases hn
      obtain ⟨E, e1, e2, _⟩ := excsB_at xb (q := ("NoNames", "names")) (List.mem_of_getElem? (i := 0) rfl)
      refine ⟨rfl, E.o, He.fAd K d0.at_, fd0, ["self", "names"], e1, e2, ?_, B0⟩
      have e3 : dec 495622906222 = ("names" : Str) := by decide +kernel
      rw [e3]
      exact init_ok (st := inClass (top 1) 0) (x := "__init__") (qual := "NoNames.__init__") F0 ⟨rfl, rfl, rfl, by decide +kernel, rfl, by decide +kernel, by decide +kernel⟩ (by decide +kernel) E (He.free_ok X G (c.fact (f := .free "ValueError") (List.mem_of_getElem? (i := 14) rfl))) (excsB_ve xb)
    | 1, hn =>
      cases hn
      obtain ⟨E, e1, e2, _⟩ := excsB_at xb (q := ("NoOffer", "offer")) (List.mem_of_getElem? (i := 1) rfl)
      refine ⟨rfl, E.o, He.fAd K d1.at_, fd1, ["self", "offer"], e1, e2, ?_, B1⟩
      have e3 : dec 491327481455 = ("offer" : Str) := by decide +kernel
      rw [e3]
      exact init_ok (st := inClass (top 2) 0) (x := "__init__") (qual := "NoOffer.__init__") F1 ⟨rfl, rfl, rfl, by decide +kernel, rfl, by decide +kernel, by decide +kernel⟩ (by decide +kernel) E (He.free_ok X G (c.fact (f := .free "ValueError") (List.mem_of_getElem? (i := 14) rfl))) (excsB_ve xb)
    | n + 2, hn => cases hn
  have D : Dfs (pgOf P w mg base K fdf) ck Dl := by
    refine ⟨fun f i fn0 hi hd => ?_⟩
    refine at_all (Q := fun f i => ∀ fn0, Dl f = some fn0 → ∃ (x qual : Str) (params : Arguments) (body : List Stmt) (scope : Scope) (dvs : List V) (kws : List (Str × V)) (N : List Str), FunD K x qual params body scope dvs kws i.adr i.fd ∧ FnScope N i.ps scope ∧ fn0.ps = i.ps.length ∧ fn0.ns = N.length ∧ chkSs ck ⟨N, scope.names, fun _ => true⟩ fn0.body body = true) (fis K fdf) 0 ?_ f i hi fn0 (by rw [Nat.zero_add]; exact hd)
    exact ⟨(fun fn0 e => by cases e; exact ⟨_, _, _, _, _, _, _, N_put_at, F2, sc_put_at, rfl, rfl, chk_put_at⟩), (fun fn0 e => by cases e; exact ⟨_, _, _, _, _, _, _, N_thing_called, F3, sc_thing_called, rfl, rfl, chk_thing_called⟩), (fun fn0 e => by cases e; exact ⟨_, _, _, _, _, _, _, N__law_pool, F4, sc__law_pool, rfl, rfl, chk__law_pool⟩), (fun fn0 e => by cases e; exact ⟨_, _, _, _, _, _, _, N__law_take, F5, sc__law_take, rfl, rfl, chk__law_take⟩), (fun fn0 e => by cases e; exact ⟨_, _, _, _, _, _, _, N__law_number, F6, sc__law_number, rfl, rfl, chk__law_number⟩), (fun fn0 e => by cases e; exact ⟨_, _, _, _, _, _, _, N__law_drawn_thing, F7, sc__law_drawn_thing, rfl, rfl, chk__law_drawn_thing⟩), (fun fn0 e => by cases e; exact ⟨_, _, _, _, _, _, _, N__law_drawn_things, F8, sc__law_drawn_things, rfl, rfl, chk__law_drawn_things⟩), (fun fn0 e => by cases e; exact ⟨_, _, _, _, _, _, _, N__law_drawn_offer, F9, sc__law_drawn_offer, rfl, rfl, chk__law_drawn_offer⟩), (fun fn0 e => by cases e; exact ⟨_, _, _, _, _, _, _, N__law_due, F10, sc__law_due, rfl, rfl, chk__law_due⟩), (fun fn0 e => by cases e; exact ⟨_, _, _, _, _, _, _, N__law_refused, F11, sc__law_refused, rfl, rfl, chk__law_refused⟩), (fun fn0 e => by cases e; exact ⟨_, _, _, _, _, _, _, N_law, F12, sc_law, rfl, rfl, chk_law⟩), trivial⟩
  exact calls_ok (p := pgOf P w mg base K fdf) o (link P w mg base K fdf) xm D 20 12 _ rfl
theorem at_end {K : PySem.W.Frag} {φ : List PV → Nat → Sto → Res (PV × Sto)} (hm : ∀ ns : List Int, ns.length ≤ 63 → ∃ μ, φ [.scr ns] 0 [] = .ok (.bl true, μ)) (H : Hp) (a : Addr) (ns : List Int) (hl : ns.length ≤ 63) (hO : Only H) (hS : SqL K H a (ns.map V.int)) :
    spF (gxOf K) φ [.ref a] H (fun v _ => v = .bl true) fun _ _ _ => False := by
  obtain ⟨μ, e⟩ := hm ns hl
  refine ⟨⟨fun _ => False, [], [], H⟩, [.scr ns], 0, rfl, ⟨rfl, Nat.le_refl _, List.nodup_nil, (by simp), (by simp), fun _ z => z.elim, fun i o a h1 _ => by simp at h1⟩, .cons ?_ .nil, ?_⟩
  · simp only [Den]
    refine ⟨a, rfl, ?_⟩
    rcases hS with (h | ⟨o, h⟩) | ⟨o, its, n, h⟩
    · rcases hO a with z | ⟨o, xs, z⟩
      · rw [h] at z; cases z
      · rw [h] at z; cases z
    · exact .inl ⟨o, h⟩
    · exact .inr ⟨o, its, n, h⟩
  · rw [e]
    intro w' x _ _ _ d
    simpa only [Den] using d
end Ev
open PySem PySem.W PySem.Calls PyProof.Rows
theorem PySem.Challenge.cw_choosemeet_k51_things_called_otherwise_holds : PySem.Challenge.rw_choosemeet_k51_things_called_otherwise.Holds := by
  w_on; o_law
  refine HandSHeadRun.head_any (r := OpenLaw.row PySem.Challenge.rw_choosemeet_k51_things_called_otherwise) (q := view (OpenLaw.row PySem.Challenge.rw_choosemeet_k51_things_called_otherwise).prog [16]) (H := Ev.hk) (ob := Ev.ob) (M := 1500) (loose := Ev.names) (d := HandSHeadRun.topDef (OpenLaw.row PySem.Challenge.rw_choosemeet_k51_things_called_otherwise).prog 16) (kwd := []) Ev.ob_eq
    (by kernel_rfl) (fun s => by kernel_rfl) Ev.run (by kernel_rfl) (by kernel_rfl) (by kernel_rfl) (by rfl) (by first | assumption | decide +kernel) (by decide +kernel) ⟨rfl, rfl, rfl, rfl, rfl, by decide +kernel⟩ ?hw ?hc
  case hw => w_witness2
  case hc =>
    refine Ev.walk_ofG (l := PySem.Challenge.rw_choosemeet_k51_things_called_otherwise) (n := 63) (k := 20 + 2) (x := "_law_script") rfl (by decide) (by kernel_rfl) ⟨⟨rfl, by decide, by decide⟩, rfl⟩ ?F
    intro w mg fa0 h Y G hmg0
    obtain ⟨K, KX, c⟩ := Y
    have hmg : mg ("law" : PySem.Str) = some (.ref fa0) := by
      have e : (HandSHeadRun.topDef (OpenLaw.row PySem.Challenge.rw_choosemeet_k51_things_called_otherwise).prog 16).name = ("law" : PySem.Str) := by kernel_rfl
      rw [← e]
      exact hmg0
    obtain ⟨fd, hb, hF⟩ := Ev.facts (P := (PySem.Challenge.rw_choosemeet_k51_things_called_otherwise).prog) (w := w) KX G hmg c
    exact ⟨K, fd, _, KX, hb, fun H a ns hl hO hS => Ev.at_end Ev.K51.law_true H a ns hl hO hS, hF⟩


