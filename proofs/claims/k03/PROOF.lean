import PyProof.Rows.All
import Wide.All
import OpenK.AllK
import Wide.FinOn
import HandS.ForMost
import HandS.Wide
import HandS.StrMore
import HandS.SortInts
import HandS.TupAny
import HandS.Deep
import HandS.IsInst
import HandS.More
import HandS.Style
import PyProof.Rows.InDataRows
import HandS.Rev
import PyProof.ListNew
import HandS.Small
import HandS.WideMore
import HandS.Codes
import HandS.Defaults
import KE.KStateDown
import HandS.Head0
import HandS.Head1
import HandS.Head2
import HandS.HeadEnd
import HandS.HeadHook1
import HandS.HeadHook2
import HandS.HeadHook4
import PySem.Challenge.RW_seekhall_k03_cells_of_a_wish
set_option Elab.async false
set_option linter.all false
set_option maxRecDepth 100000
set_option maxHeartbeats 0
/-! Sk1: a small language of data: what its expressions and statements are worth. -/
namespace Sk
open PySem PySem.Spec PyProof.Rows L2

/-- data: frozen values; ref n: the n-th object of the store; fn f: a def of the text -/
inductive D where
  | non | bl (b : Bool) | int (i : Int) | str (s : Str)
  | tup (ds : List D) | lst (ds : List D) | dct (kvs : List (D × D))
  | ref (n : Nat) | fn (f : Str)
/-- an object of the store -/
inductive O where
  | da (d : D)
  | ins (c : Str) (fs : List (Str × D))
/-- a name's place: nothing, a frozen value, a list or dict of one's own -/
inductive Sl where
  | no | va (d : D) | ow (d : D)
/-- an operand: a frozen value, a fresh one, a place -/
inductive Op where
  | fz (d : D) | fr (d : D) | sl (i : Nat)

abbrev Env' := List Sl
abbrev Sto := List O

inductive BO where
  | add | sub | mul | fdiv | mod | pow
  deriving DecidableEq
inductive CO where
  | eq | ne | lt | le | gt | ge | is | isn | inn | nin
  deriving DecidableEq
/-- built-in functions by name -/
inductive BF where
  | len | list | tuple | dict | sum | min | max | any | all | sorted | int | abs | str | lenset | sortset | isa (t : String)
  | min2 | max2
  deriving DecidableEq
/-- built-in methods -/
inductive MF where
  | append | pop | popAt | insert | extend | get2 | join | index | clear
  deriving DecidableEq
/-- targets -/
inductive Tg where
  | one (i : Nat) | many (is : List Nat)
  deriving DecidableEq

mutual
inductive CE where
  | var (i : Nat) | rd (i : Nat) | mv (i : Nat)
  | non | bl (b : Bool) | int (i : Int) | str (s : Str) | glo (x : Str)
  | tup (es : List CE) | lst (es : List CE) | dis (es : List CE)
  | bop (o : BO) (a b : CE) | neg (a : CE) | no (a : CE)
  | cmp (o : CO) (a b : CE) | chn (o o' : CO) (a b c : CE)
  | and (a b : CE) | orr (a b : CE)
  | ite (c a b : CE)
  | sub (a i : CE) | slc (a : CE) (lo hi : Option CE) | rev (a : CE)
  | bf (f : BF) (a : CE) | bf2 (f : BF) (a b : CE)
  | mt (m : MF) (o : CE) (es : List CE)
  | call (f : Str) (es : List CE) | meth (m : Str) (o : CE) (es : List CE) | new (c : Str) (es : List CE)
  | attr (o : CE) (f : Str)
  | al (e : CE) | lrev (e : CE)
  | lc (elt : CE) (tg : Tg) (it : It') (cs : List CE)
/-- what is walked -/
inductive It' where
  | seq (e : CE) | rng (e : CE) | rng2 (a b : CE) | enu (e : CE) | zip (a b : CE) | items (e : CE) | values (e : CE) | revd (e : CE)
end

inductive CS where
  | asg (i : Nat) (e : CE) | asgO (i : Nat) (e : CE) | asgT (is : List Nat) (e : CE) | asgP (i j : Nat) (a b : CE)
  | aug (i : Nat) (o : BO) (e : CE)
  | setI (o k e : CE) | setA (o : CE) (f : Str) (e : CE)
  | xpr (e : CE) | ret (e : CE) | retN
  | ife (c : CE) (a b : List CS) | whl (c : CE) (b : List CS) | for_ (tg : Tg) (it : It') (b : List CS)
  | brk | cnt | pas
  | frz (i : Nat) (s : CS)

/-! ### data -/
def pairUp : List D → Option (List (D × D))
  | [] => some []
  | k :: v :: r => (pairUp r).map ((k, v) :: ·)
  | [_] => none
def keq : D → D → Bool
  | .int i, .int j => decide (i = j)
  | .str x, .str y => decide (x = y)
  | _, _ => false
def isKey : D → Bool
  | .int _ => true
  | .str _ => true
  | _ => false
def dget (kvs : List (D × D)) (k : D) : Option D := (kvs.find? fun p => keq p.1 k).map (·.2)
def dhas (kvs : List (D × D)) (k : D) : Bool := kvs.any fun p => keq p.1 k
def dput (kvs : List (D × D)) (k v : D) : List (D × D) :=
  if dhas kvs k = true then kvs.map (fun p => if keq p.1 k = true then (p.1, v) else p) else kvs ++ [(k, v)]

mutual
/-- plain data: what == of the model is known of -/
def toPy : D → Option PyData
  | .non => some .none
  | .bl b => some (.bool b)
  | .int i => some (.int i)
  | .str s => some (.str s)
  | .tup ds => (toPys ds).map .tuple
  | .lst ds => (toPys ds).map .list
  | _ => none
def toPys : List D → Option (List PyData)
  | [] => some []
  | d :: ds => match toPy d, toPys ds with
    | some x, some xs => some (x :: xs)
    | _, _ => none
end
def deq (a b : D) : Option Bool := match a, b with
  | .int i, .int j => some (decide (i = j))
  | .str x, .str y => some (decide (x = y))
  | .bl x, .bl y => some (decide (x = y))
  | .non, .non => some true
  | a, b => match toPy a, toPy b with
    | some x, some y => if SeqAt.shaped x = true ∧ SeqAt.shaped y = true then some (PyData.eqv x y) else none
    | _, _ => none

def intsD : List D → Option (List Int)
  | [] => some []
  | .int i :: r => (intsD r).map (i :: ·)
  | _ :: _ => none
def strsD : List D → Option (List Str)
  | [] => some []
  | .str i :: r => (strsD r).map (i :: ·)
  | _ :: _ => none
def blsD : List D → Option (List Bool)
  | [] => some []
  | .bl i :: r => (blsD r).map (i :: ·)
  | _ :: _ => none
def isort (xs : List Int) : List Int := xs.mergeSort (fun a b => decide (a ≤ b))

/-- at least one factor small, or both below a million bits -/
def mulOk (i j : Int) : Prop := CMul i j ∨ CMulW i j
def divOk (j : Int) : Prop := 0 < j ∧ j.natAbs.log2 < 9000
instance (i j : Int) : Decidable (mulOk i j) := by unfold mulOk CMul CMulW; infer_instance
instance (j : Int) : Decidable (divOk j) := by unfold divOk; infer_instance
instance (i j : Int) : Decidable (CPow i j) := by unfold CPow; infer_instance
instance (i j : Int) : Decidable (CMul i j) := by unfold CMul; infer_instance

def bopD : BO → D → D → Option Op
  | .add, .int i, .int j => some (.fz (.int (i + j)))
  | .sub, .int i, .int j => some (.fz (.int (i - j)))
  | .mul, .int i, .int j => if mulOk i j then some (.fz (.int (i * j))) else none
  | .fdiv, .int i, .int j => if divOk j then some (.fz (.int (i / j))) else none
  | .mod, .int i, .int j => if 0 < j then some (.fz (.int (i % j))) else none
  | .pow, .int i, .int j => if CPow i j then some (.fz (.int (i ^ j.toNat))) else none
  | .add, .str x, .str y => if x.length + y.length ≤ sizeLine then some (.fz (.str (x ++ y))) else none
  | .add, .lst xs, .lst ys => if xs.length + ys.length ≤ sizeLine then some (.fr (.lst (xs ++ ys))) else none
  | .add, .tup xs, .tup ys => if xs.length + ys.length ≤ sizeLine then some (.fz (.tup (xs ++ ys))) else none
  | _, _, _ => none

def augD : BO → D → D → Option D
  | .add, .int i, .int j => some (.int (i + j))
  | .sub, .int i, .int j => some (.int (i - j))
  | .mul, .int i, .int j => if CMul i j then some (.int (i * j)) else none
  | .fdiv, .int i, .int j => if divOk j then some (.int (i / j)) else none
  | .mod, .int i, .int j => if 0 < j then some (.int (i % j)) else none
  | .add, .str x, .str y => if x.length + y.length ≤ sizeLine then some (.str (x ++ y)) else none
  | _, _, _ => none
/-- membership among flat things -/
def flatD : D → Bool
  | .non => true | .bl _ => true | .int _ => true | .str _ => true
  | _ => false
def feq : D → D → Bool
  | .non, .non => true
  | .bl a, .bl b => a == b
  | .int a, .int b => a == b
  | .str a, .str b => a == b
  | .bl a, .int b => (if a then (1 : Int) else 0) == b
  | .int a, .bl b => a == (if b then (1 : Int) else 0)
  | _, _ => false
def memD (x : D) (ds : List D) : Option Bool := if flatD x && ds.all flatD then some (ds.any fun y => feq y x) else none
def pyIn (x : D) (ds : List D) : Option Bool := match memD x ds with
  | some b => some b
  | none => match toPy x, toPys ds with
    | some p, some ps => if SeqAt.shaped p = true ∧ SeqAt.shaped (.list ps) = true then some (ps.any fun q => PyData.eqv q p) else none
    | _, _ => none
def inD (x : D) : D → Option Bool
  | .lst ds => pyIn x ds
  | .tup ds => pyIn x ds
  | .dct kvs => if isKey x then some (dhas kvs x) else none
  | .str z => (match x with
    | .str y => (match y.cps.toList with
      | [c] => some (decide (c ∈ z.cps.toList))
      | _ => none)
    | _ => none)
  | _ => none

def isNon : D → Bool
  | .non => true
  | _ => false
def cmpD : CO → D → D → Option Bool
  | .eq, a, b => deq a b
  | .ne, a, b => (deq a b).map (!·)
  | .lt, .int i, .int j => some (decide (i < j))
  | .le, .int i, .int j => some (decide (i ≤ j))
  | .gt, .int i, .int j => some (decide (j < i))
  | .ge, .int i, .int j => some (decide (j ≤ i))
  | .is, a, .non => some (isNon a)
  | .isn, a, .non => some (!isNon a)
  | .inn, a, b => inD a b
  | .nin, a, b => (inD a b).map (!·)
  | _, _, _ => none

def lenD : D → Option Nat
  | .tup ds => some ds.length
  | .lst ds => some ds.length
  | .dct kvs => some kvs.length
  | .str s => if s.length ≤ sizeLine then some s.length else none
  | _ => none
def tys : List String := ["int", "bool", "str", "tuple", "list", "dict"]
def isB (T t : String) : Option Bool := if t ∈ tys then some (T == t || (T == "bool" && t == "int")) else none
def tyN : D → Option String
  | .non => some "NoneType" | .int _ => some "int" | .bl _ => some "bool" | .str _ => some "str" | .tup _ => some "tuple" | .lst _ => some "list" | .dct _ => some "dict"
  | _ => none
def isaD (t : String) (d : D) : Option Bool := match tyN d with
  | some T => isB T t
  | none => none
def maxI : List Int → Int
  | [] => 0
  | [x] => x
  | x :: y :: r => max x (maxI (y :: r))
def minI : List Int → Int
  | [] => 0
  | [x] => x
  | x :: y :: r => min x (minI (y :: r))
def nodups (ds : List D) : Option Nat := match intsD ds with
  | some ns => some ns.eraseDups.length
  | none => match strsD ds with
    | some ss => some ss.eraseDups.length
    | none => none
def bfD : BF → D → Option Op
  | .len, d => (lenD d).map fun n => .fz (.int n)
  | .list, .tup ds => some (.fr (.lst ds))
  | .list, .lst ds => some (.fr (.lst ds))
  | .list, .dct kvs => some (.fr (.lst (kvs.map (·.1))))
  | .tuple, .tup ds => some (.fz (.tup ds))
  | .tuple, .lst ds => some (.fz (.tup ds))
  | .dict, .dct kvs => some (.fr (.dct kvs))
  | .sum, .lst ds => (intsD ds).map fun ns => .fz (.int ns.sum)
  | .min, .lst ds => (match intsD ds with
    | some (n :: r) => some (.fz (.int (minI (n :: r))))
    | _ => none)
  | .max, .lst ds => (match intsD ds with
    | some (n :: r) => some (.fz (.int (maxI (n :: r))))
    | _ => none)
  | .any, .lst ds => (blsD ds).map fun bs => .fz (.bl (bs.any id))
  | .all, .lst ds => (blsD ds).map fun bs => .fz (.bl (bs.all id))
  | .sorted, .lst ds => (intsD ds).map fun ns => .fr (.lst ((isort ns).map .int))
  | .int, .int i => some (.fz (.int i))
  | .int, .bl b => some (.fz (.int (if b then 1 else 0)))
  | .abs, .int i => some (.fz (.int (if i < 0 then -i else i)))
  | .isa t, d => (isaD t d).map fun b => .fz (.bl b)
  | _, _ => none
def bf2D : BF → D → D → Option Op
  | .max2, .int i, .int j => some (.fz (.int (if j > i then j else i)))
  | .min2, .int i, .int j => some (.fz (.int (if j < i then j else i)))
  | _, _, _ => none
def subD : D → D → Option D
  | .tup ds, .int i => atI ds i
  | .lst ds, .int i => atI ds i
  | .str z, .int i => if z.length ≤ sizeLine then (atI z.cps.toList i).map fun c => .str ⟨#[c]⟩ else none
  | .dct kvs, k => if isKey k then dget kvs k else none
  | _, _ => none
def cutD (xs : List D) (lo hi : Option Int) : List D := (xs.drop (HT.sIx xs.length 0 lo)).take (HT.sIx xs.length xs.length hi - HT.sIx xs.length 0 lo)
def slcD : D → Option Int → Option Int → Option Op
  | .str z, lo, hi => if z.length ≤ sizeLine then some (.fz (.str (cutS z lo hi))) else none
  | .lst ds, lo, hi => some (.fr (.lst (cutD ds lo hi)))
  | .tup ds, lo, hi => some (.fz (.tup (cutD ds lo hi)))
  | _, _, _ => none

/-! ### places -/
def Op.d : Op → Option D
  | .fz d => some d
  | .fr d => some d
  | .sl _ => none
def cont (ρ : Env') (S : Sto) : Op → Option D
  | .fz (.ref n) => (match S[n]? with
    | some (.da d) => some d
    | _ => none)
  | .fz d => some d
  | .fr d => some d
  | .sl i => (match ρ[i]? with
    | some (.ow d) => some d
    | _ => none)
/-- the content, or the thing itself -/
def look (ρ : Env') (S : Sto) (o : Op) : Option D := match cont ρ S o with
  | some d => some d
  | none => o.d
def setC (ρ : Env') (S : Sto) (o : Op) (d : D) : Option (Env' × Sto) := match o with
  | .fz (.ref n) => (match S[n]? with
    | some (.da _) => some (ρ, S.set n (.da d))
    | _ => none)
  | .sl i => (match ρ[i]? with
    | some (.ow _) => some (ρ.set i (.ow d), S)
    | _ => none)
  | _ => none

def mtD : MF → D → List D → Option (D × Option D)
  | .append, .lst ds, [x] => if ds.length < sizeLine then some (.non, some (.lst (ds ++ [x]))) else none
  | .pop, .lst ds, [] => ds.getLast?.map fun y => (y, some (.lst ds.dropLast))
  | .popAt, .lst ds, [.int i] => if -(2 ^ 63) ≤ i ∧ i < 2 ^ 63 then (match seqIndex? i ds.length with
    | some k => ds[k]?.map fun y => (y, some (.lst (ds.eraseIdx k)))
    | none => none) else none
  | .insert, .lst ds, [.int i, y] => if ds.length < sizeLine ∧ 0 ≤ i ∧ i < 2 ^ 63 then some (.non, some (.lst (ds.take i.toNat ++ y :: ds.drop i.toNat))) else none
  | .clear, .lst _, [] => some (.non, some (.lst []))
  | .index, .str z, [.str y] => (Txt.index0 z y).map fun k => (.int (k : Nat), none)
  | .get2, .dct kvs, [k, x] => if isKey k then some ((dget kvs k).getD x, none) else none
  | .join, .str z, [.lst ds] => (match strsD ds with
    | some ss => if (ss.map (·.length)).sum + ss.length * z.length ≤ 16777216 then some (.str (Str.join z ss), none) else none
    | none => none)
  | _, _, _ => none

/-! ### runs -/
def bnd {α β : Type} (m : Option (α × Env' × Sto)) (f : α → Env' → Sto → Option β) : Option β := match m with
  | some (a, ρ, S) => f a ρ S
  | none => none
@[simp] theorem bnd_some {α β : Type} (a : α) (ρ : Env') (S : Sto) (f : α → Env' → Sto → Option β) : bnd (some (a, ρ, S)) f = f a ρ S := rfl
@[simp] theorem bnd_none {α β : Type} (f : α → Env' → Sto → Option β) : bnd none f = none := rfl
def obd {α β : Type} (m : Option α) (f : α → Option β) : Option β := match m with
  | some a => f a
  | none => none
@[simp] theorem obd_some {α β : Type} (a : α) (f : α → Option β) : obd (some a) f = f a := rfl
@[simp] theorem obd_none {α β : Type} (f : α → Option β) : obd none f = none := rfl

inductive Out where
  | nx (ρ : Env') (S : Sto) | rt (o : Op) (S : Sto) | bk (ρ : Env') (S : Sto) | ct (ρ : Env') (S : Sto)

def Tg.ixs : Tg → List Nat
  | .one i => [i]
  | .many is => is
def setAll : List Nat → List D → Env' → Option Env'
  | [], [], ρ => some ρ
  | i :: is, d :: ds, ρ => setAll is ds (ρ.set i (.va d))
  | _, _, _ => none
def bindT (t : Tg) (d : D) (ρ : Env') : Option Env' := match t with
  | .one i => some (ρ.set i (.va d))
  | .many is => (match d with
    | .tup ds => setAll is ds ρ
    | _ => none)
def wipeT (is : List Nat) (ρ : Env') : Env' := is.foldl (fun ρ i => ρ.set i .no) ρ
def backT (is : List Nat) (ρ ρ' : Env') : Env' := is.foldl (fun r i => match ρ[i]? with
  | some s => r.set i s
  | none => r) ρ'
def noOw (is : List Nat) (ρ : Env') : Bool := is.all fun i => match ρ[i]? with
  | some (.ow _) => false
  | _ => true
/-- the calls that are known: a def's name, arguments, store; own: the value is a new list or dict that nobody else holds -/
abbrev Calls' := Str → List D → Sto → Option (Op × Sto)

def lcL (tg : Tg) (one : Env' → Sto → Option (Option D × Env' × Sto)) : List D → List D → Env' → Sto → Option (List D × Env' × Sto)
  | [], acc, ρ, S => some (acc, ρ, S)
  | d :: ds, acc, ρ, S => obd (bindT tg d ρ) fun ρ1 => bnd (one ρ1 S) fun r ρ2 S2 => match r with
    | some x => if acc.length < sizeLine then lcL tg one ds (acc ++ [x]) (wipeT tg.ixs ρ2) S2 else none
    | none => lcL tg one ds acc (wipeT tg.ixs ρ2) S2
def forL (tg : Tg) (one : Env' → Sto → Option Out) : List D → Env' → Sto → Option Out
  | [], ρ, S => some (.nx ρ S)
  | d :: ds, ρ, S => obd (bindT tg d ρ) fun ρ1 => obd (one ρ1 S) fun r => match r with
    | .nx ρ2 S2 => forL tg one ds ρ2 S2
    | .ct ρ2 S2 => forL tg one ds ρ2 S2
    | .bk ρ2 S2 => some (.nx ρ2 S2)
    | .rt o S2 => some (.rt o S2)
def whlL (c : Env' → Sto → Option (Bool × Env' × Sto)) (one : Env' → Sto → Option Out) : Nat → Env' → Sto → Option Out
  | 0, _, _ => none
  | n + 1, ρ, S => bnd (c ρ S) fun b ρ1 S1 => match b with
    | false => some (.nx ρ1 S1)
    | true => obd (one ρ1 S1) fun r => match r with
      | .nx ρ2 S2 => whlL c one n ρ2 S2
      | .ct ρ2 S2 => whlL c one n ρ2 S2
      | .bk ρ2 S2 => some (.nx ρ2 S2)
      | .rt o S2 => some (.rt o S2)
/-- the most turns of a while -/
@[irreducible] def fuel : Nat := 1000000000
def enumD (ds : List D) : List D := ds.zipIdx.map fun p => .tup [.int (p.2 : Nat), p.1]
def zipD (a b : List D) : List D := (a.zip b).map fun p => .tup [p.1, p.2]
def chars (z : Str) : List D := z.cps.toList.map fun c => .str ⟨#[c]⟩
def seqD : D → Option (List D)
  | .tup ds => some ds
  | .lst ds => some ds
  | .str z => some (chars z)
  | _ => none
def smallI (i : Int) : Prop := -(2 ^ 62) ≤ i ∧ i < 2 ^ 62
instance (i : Int) : Decidable (smallI i) := by unfold smallI; infer_instance
def rngD (i j : Int) : Option (List D) := if smallI i ∧ smallI j then some ((List.range (j - i).toNat).map fun (k : Nat) => .int (i + k)) else none

section
variable (G : Str → Option D) (C : Calls') (M : Str → Str → Option Str)
mutual
def evE : CE → Env' → Sto → Option (Op × Env' × Sto)
  | .var i, ρ, S => (match ρ[i]? with
    | some (.va d) => some (.fz d, ρ, S)
    | _ => none)
  | .rd i, ρ, S => (match ρ[i]? with
    | some (.ow _) => some (.sl i, ρ, S)
    | some (.va d) => some (.fz d, ρ, S)
    | _ => none)
  | .mv i, ρ, S => (match ρ[i]? with
    | some (.ow d) => some (.fr d, ρ.set i .no, S)
    | _ => none)
  | .non, ρ, S => some (.fz .non, ρ, S)
  | .bl b, ρ, S => some (.fz (.bl b), ρ, S)
  | .int i, ρ, S => some (.fz (.int i), ρ, S)
  | .str s, ρ, S => some (.fz (.str s), ρ, S)
  | .glo x, ρ, S => obd (G x) fun d => some (.fz d, ρ, S)
  | .tup es, ρ, S => bnd (evL es ρ S) fun ds ρ S => if ds.length ≤ sizeLine then some (.fz (.tup ds), ρ, S) else none
  | .lst es, ρ, S => bnd (evL es ρ S) fun ds ρ S => if ds.length ≤ sizeLine then some (.fr (.lst ds), ρ, S) else none
  | .dis es, ρ, S => bnd (evL es ρ S) fun ds ρ S => obd (pairUp ds) fun kvs => if kvs.length ≤ 15 ∧ (kvs.all fun p => isKey p.1) = true then some (.fr (.dct (kvs.foldl (fun acc p => dput acc p.1 p.2) [])), ρ, S) else none
  | .bop o a b, ρ, S => bnd (evE a ρ S) fun x ρ S => bnd (evE b ρ S) fun y ρ S => obd (cont ρ S x) fun dx => obd (cont ρ S y) fun dy => obd (bopD o dx dy) fun r => some (r, ρ, S)
  | .neg a, ρ, S => bnd (evE a ρ S) fun x ρ S => (match x with
    | .fz (.int i) => some (.fz (.int (-i)), ρ, S)
    | _ => none)
  | .no a, ρ, S => bnd (evE a ρ S) fun x ρ S => (match x with
    | .fz (.bl b) => some (.fz (.bl (!b)), ρ, S)
    | _ => none)
  | .cmp o a b, ρ, S => bnd (evE a ρ S) fun x ρ S => bnd (evE b ρ S) fun y ρ S => obd (look ρ S x) fun dx => obd (look ρ S y) fun dy => obd (cmpD o dx dy) fun r => some (.fz (.bl r), ρ, S)
  | .chn o o' a b c, ρ, S => bnd (evE a ρ S) fun x ρ S => bnd (evE b ρ S) fun y ρ S => obd (look ρ S x) fun dx => obd (look ρ S y) fun dy => obd (cmpD o dx dy) fun r => (match r with
    | false => some (.fz (.bl false), ρ, S)
    | true => bnd (evE c ρ S) fun z ρ S => obd (look ρ S y) fun dy => obd (look ρ S z) fun dz => obd (cmpD o' dy dz) fun r => some (.fz (.bl r), ρ, S))
  | .and a b, ρ, S => bnd (evE a ρ S) fun x ρ S => (match x with
    | .fz (.bl true) => evE b ρ S
    | .fz (.bl false) => some (.fz (.bl false), ρ, S)
    | _ => none)
  | .orr a b, ρ, S => bnd (evE a ρ S) fun x ρ S => (match x with
    | .fz (.bl true) => some (.fz (.bl true), ρ, S)
    | .fz (.bl false) => evE b ρ S
    | _ => none)
  | .ite c a b, ρ, S => bnd (evE c ρ S) fun x ρ S => (match x with
    | .fz (.bl true) => evE a ρ S
    | .fz (.bl false) => evE b ρ S
    | _ => none)
  | .sub a i, ρ, S => bnd (evE a ρ S) fun x ρ S => bnd (evE i ρ S) fun y ρ S => obd (cont ρ S x) fun dx => obd y.d fun dy => obd (subD dx dy) fun r => some (.fz r, ρ, S)
  | .slc a lo hi, ρ, S => bnd (evE a ρ S) fun x ρ S => bnd (evO lo ρ S) fun l ρ S => bnd (evO hi ρ S) fun h ρ S => obd (cont ρ S x) fun dx => obd (slcD dx l h) fun r => some (r, ρ, S)
  | .rev a, ρ, S => bnd (evE a ρ S) fun x ρ S => obd (cont ρ S x) fun dx => (match dx with
    | .lst ds => some (.fr (.lst ds.reverse), ρ, S)
    | _ => none)
  | .bf f a, ρ, S => bnd (evE a ρ S) fun x ρ S => obd (look ρ S x) fun dx => obd (bfD f dx) fun r => some (r, ρ, S)
  | .bf2 f a b, ρ, S => bnd (evE a ρ S) fun x ρ S => bnd (evE b ρ S) fun y ρ S => obd (look ρ S x) fun dx => obd (look ρ S y) fun dy => obd (bf2D f dx dy) fun r => some (r, ρ, S)
  | .mt m o es, ρ, S => bnd (evE o ρ S) fun x ρ S => obd (cont ρ S x) fun d0 => bnd (evL es ρ S) fun ds ρ S => obd (cont ρ S x) fun dx => if tyN d0 = tyN dx then obd (mtD m dx ds) fun r => (match r.2 with
    | none => some (.fz r.1, ρ, S)
    | some d => obd (setC ρ S x d) fun q => some (.fz r.1, q.1, q.2)) else none
  | .call f es, ρ, S => bnd (evL es ρ S) fun ds ρ S => obd (C f ds S) fun r => some (r.1, ρ, r.2)
  | .meth m o es, ρ, S => bnd (evE o ρ S) fun x ρ S => (match x with
    | .fz (.ref n) => (match S[n]? with
      | some (.ins c fs) => if (fs.lookup m).isSome then none else obd (M c m) fun f => bnd (evL es ρ S) fun ds ρ S => obd (C f (.ref n :: ds) S) fun r => some (r.1, ρ, r.2)
      | _ => none)
    | _ => none)
  | .new _ _, _, _ => none
  | .attr o f, ρ, S => bnd (evE o ρ S) fun x ρ S => (match x with
    | .fz (.ref n) => (match S[n]? with
      | some (.ins _ fs) => obd (fs.lookup f) fun d => some (.fz d, ρ, S)
      | _ => none)
    | _ => none)
  | .al e, ρ, S => bnd (evE e ρ S) fun x ρ S => (match x with
    | .fr d => some (.fz (.ref S.length), ρ, S ++ [.da d])
    | _ => none)
  | .lrev e, ρ, S => bnd (evE e ρ S) fun x ρ S => obd (look ρ S x) fun dx => (match dx with
    | .lst ds => some (.fr (.lst ds.reverse), ρ, S)
    | _ => none)
  | .lc elt tg it cs, ρ, S => bnd (evI it ρ S) fun ds ρ S => if noOw tg.ixs ρ = true then
      bnd (lcL tg (fun ρ S => bnd (evC cs ρ S) fun b ρ S => (match b with
        | true => bnd (evE elt ρ S) fun x ρ S => obd x.d fun d => some (some d, ρ, S)
        | false => some (none, ρ, S))) ds [] (wipeT tg.ixs ρ) S) fun r ρ' S' => some (.fr (.lst r), backT tg.ixs ρ ρ', S') else none
def evL : List CE → Env' → Sto → Option (List D × Env' × Sto)
  | [], ρ, S => some ([], ρ, S)
  | e :: es, ρ, S => bnd (evE e ρ S) fun x ρ S => obd x.d fun d => bnd (evL es ρ S) fun ds ρ S => some (d :: ds, ρ, S)
def evO : Option CE → Env' → Sto → Option (Option Int × Env' × Sto)
  | none, ρ, S => some (none, ρ, S)
  | some e, ρ, S => bnd (evE e ρ S) fun x ρ S => (match x with
    | .fz (.int i) => some (some i, ρ, S)
    | _ => none)
/-- tests, all of them -/
def evC : List CE → Env' → Sto → Option (Bool × Env' × Sto)
  | [], ρ, S => some (true, ρ, S)
  | e :: es, ρ, S => bnd (evE e ρ S) fun x ρ S => (match x with
    | .fz (.bl true) => evC es ρ S
    | .fz (.bl false) => some (false, ρ, S)
    | _ => none)
def evI : It' → Env' → Sto → Option (List D × Env' × Sto)
  | .seq e, ρ, S => bnd (evE e ρ S) fun x ρ S => obd x.d fun d => obd (seqD d) fun ds => some (ds, ρ, S)
  | .rng e, ρ, S => bnd (evE e ρ S) fun x ρ S => (match x with
    | .fz (.int n) => obd (rngD 0 n) fun ds => some (ds, ρ, S)
    | _ => none)
  | .rng2 a b, ρ, S => bnd (evE a ρ S) fun x ρ S => bnd (evE b ρ S) fun y ρ S => (match x, y with
    | .fz (.int i), .fz (.int j) => obd (rngD i j) fun ds => some (ds, ρ, S)
    | _, _ => none)
  | .enu e, ρ, S => bnd (evE e ρ S) fun x ρ S => obd x.d fun d => (match d with
    | .lst ds => some (enumD ds, ρ, S)
    | .tup ds => some (enumD ds, ρ, S)
    | _ => none)
  | .zip a b, ρ, S => bnd (evE a ρ S) fun x ρ S => bnd (evE b ρ S) fun y ρ S => obd x.d fun d => obd y.d fun e => (match d, e with
    | .lst ds, .lst es => some (zipD ds es, ρ, S)
    | .tup ds, .tup es => some (zipD ds es, ρ, S)
    | _, _ => none)
  | .items e, ρ, S => bnd (evE e ρ S) fun x ρ S => obd x.d fun d => (match d with
    | .dct kvs => some (kvs.map fun p => .tup [p.1, p.2], ρ, S)
    | _ => none)
  | .values e, ρ, S => bnd (evE e ρ S) fun x ρ S => obd x.d fun d => (match d with
    | .dct kvs => some (kvs.map (·.2), ρ, S)
    | _ => none)
  | .revd e, ρ, S => bnd (evE e ρ S) fun x ρ S => obd x.d fun d => (match d with
    | .lst ds => some (ds.reverse, ρ, S)
    | _ => none)
end
mutual
def evS : CS → Env' → Sto → Option Out
  | .asg i e, ρ, S => bnd (evE G C M e ρ S) fun x ρ S => obd x.d fun d => some (.nx (ρ.set i (.va d)) S)
  | .asgO i e, ρ, S => bnd (evE G C M e ρ S) fun x ρ S => (match x with
    | .fr d => some (.nx (ρ.set i (.ow d)) S)
    | _ => none)
  | .asgT is e, ρ, S => bnd (evE G C M e ρ S) fun x ρ S => obd x.d fun d => (match d with
    | .tup ds => obd (setAll is ds ρ) fun ρ => some (.nx ρ S)
    | _ => none)
  | .asgP i j a b, ρ, S => bnd (evL G C M [a, b] ρ S) fun ds ρ S => (match ds with
    | [x, y] => some (.nx ((ρ.set i (.va x)).set j (.va y)) S)
    | _ => none)
  | .aug i o e, ρ, S => (match ρ[i]? with
    | some (.va d) => bnd (evE G C M e ρ S) fun x ρ S => obd x.d fun y => obd (augD o d y) fun r => some (.nx (ρ.set i (.va r)) S)
    | _ => none)
  | .setI o k e, ρ, S => bnd (evE G C M e ρ S) fun x ρ S => obd x.d fun v => bnd (evE G C M o ρ S) fun p ρ S => bnd (evE G C M k ρ S) fun y ρ S => obd y.d fun kd => obd (cont ρ S p) fun c => (match c, kd with
    | .lst ds, .int i => obd (ixN ds.length i) fun j => obd (setC ρ S p (.lst (ds.set j v))) fun q => some (.nx q.1 q.2)
    | .dct kvs, kd => if isKey kd = true ∧ kvs.length < sizeLine then obd (setC ρ S p (.dct (dput kvs kd v))) fun q => some (.nx q.1 q.2) else none
    | _, _ => none)
  | .setA _ _ _, _, _ => none
  | .xpr e, ρ, S => bnd (evE G C M e ρ S) fun _ ρ S => some (.nx ρ S)
  | .ret e, ρ, S => bnd (evE G C M e ρ S) fun x _ S => (match x with
    | .sl _ => none
    | .fz d => some (.rt (.fz d) S)
    | .fr d => some (.rt (.fr d) S))
  | .retN, _, S => some (.rt (.fz .non) S)
  | .ife c a b, ρ, S => bnd (evE G C M c ρ S) fun x ρ S => (match x with
    | .fz (.bl true) => evSs a ρ S
    | .fz (.bl false) => evSs b ρ S
    | _ => none)
  | .whl c b, ρ, S => whlL (fun ρ S => evC G C M [c] ρ S) (fun ρ S => evSs b ρ S) fuel ρ S
  | .for_ tg it b, ρ, S => bnd (evI G C M it ρ S) fun ds ρ S => forL tg (fun ρ S => evSs b ρ S) ds ρ S
  | .brk, ρ, S => some (.bk ρ S)
  | .cnt, ρ, S => some (.ct ρ S)
  | .pas, ρ, S => some (.nx ρ S)
  | .frz i s, ρ, S => (match ρ[i]? with
    | some (.ow d) => evS s (ρ.set i (.va d)) S
    | some (.va _) => evS s ρ S
    | _ => none)
def evSs : List CS → Env' → Sto → Option Out
  | [], ρ, S => some (.nx ρ S)
  | s :: r, ρ, S => obd (evS s ρ S) fun o => (match o with
    | .nx ρ S => evSs r ρ S
    | o => some o)
end
end
/-- a def of the text: its slots, its parameters, its body -/
structure Fn where
  n : Nat
  ps : Nat
  body : List CS
def env0 (n : Nat) (ds : List D) : Env' := ds.map .va ++ List.replicate (n - ds.length) .no
def runF (G : Str → Option D) (C : Calls') (M : Str → Str → Option Str) (f : Fn) (ds : List D) (S : Sto) : Option (Op × Sto) :=
  if ds.length = f.ps then obd (evSs G C M f.body (env0 f.n ds) S) fun o => (match o with
    | .rt x S => some (x, S)
    | .nx _ S => some (.fz .non, S)
    | _ => none) else none
/-- k calls deep -/
def callK (G : Str → Option D) (F : Str → Option Fn) (M : Str → Str → Option Str) : Nat → Calls'
  | 0, _, _, _ => none
  | k + 1, f, ds, S => obd (F f) fun fn => runF G (callK G F M k) M fn ds S
end Sk

/-! Sk2: how the data stand in the abstract heap. -/
namespace Sk
open PySem PySem.Spec PyProof.Rows L2

/-- a list, a tuple of the written part -/
def KLs (K : PySem.W.Frag) (a : Addr) (xs : List V) : Prop := ∃ (o : Obj) (its : Array Value) (n : Nat), K.lookup a = some o ∧ o.cls = .type "list" ∧ o.dict = none ∧ o.data = .seq its n ∧ its.size ≤ sizeLine ∧ Vals xs its.toList
def KTp (K : PySem.W.Frag) (a : Addr) (xs : List V) : Prop := ∃ (o : Obj) (its : Array Value) (n : Nat), K.lookup a = some o ∧ o.cls = .type "tuple" ∧ o.data = .seq its n ∧ its.size ≤ sizeLine ∧ Vals xs its.toList
def FzL (K : PySem.W.Frag) (ex : Addr → Prop) (H : Hp) (a : Addr) (xs : List V) : Prop := (Rd H a (.lst xs) ∧ ¬ ex a) ∨ KLs K a xs
def FzT (K : PySem.W.Frag) (ex : Addr → Prop) (H : Hp) (a : Addr) (xs : List V) : Prop := (Rd H a (.tup xs) ∧ ¬ ex a) ∨ KTp K a xs
def toKey : D → Option Key
  | .int i => some (.inl i)
  | .str x => some (.inr x)
  | _ => none

variable (K : PySem.W.Frag) (mg : Str → Option Value)
section
variable (φ : List Addr) (ex : Addr → Prop) (H : Hp)
mutual
inductive RepV : D → V → Prop
  | non : RepV .non .non
  | bl (b : Bool) : RepV (.bl b) (.bl b)
  | int (i : Int) : RepV (.int i) (.int i)
  | str (x : Str) : RepV (.str x) (.str x)
  | tup {ds : List D} {a : Addr} {vs : List V} : FzT K ex H a vs → RepVs ds vs → RepV (.tup ds) (.ref a)
  | lst {ds : List D} {a : Addr} {vs : List V} : FzL K ex H a vs → RepVs ds vs → RepV (.lst ds) (.ref a)
  | dct {kvs : List (D × D)} {a : Addr} {ks : List (Key × V)} : Rd H a (.dK ks) → ¬ ex a → RepK kvs ks → RepV (.dct kvs) (.ref a)
  | ref {n : Nat} {a : Addr} : φ[n]? = some a → RepV (.ref n) (.ref a)
  | fn {f : Str} {a : Addr} : mg f = some (.ref a) → RepV (.fn f) (.ref a)
inductive RepVs : List D → List V → Prop
  | nil : RepVs [] []
  | cons {d : D} {v : V} {ds : List D} {vs : List V} : RepV d v → RepVs ds vs → RepVs (d :: ds) (v :: vs)
inductive RepK : List (D × D) → List (Key × V) → Prop
  | nil : RepK [] []
  | cons {k d : D} {k' : Key} {v : V} {ds : List (D × D)} {vs : List (Key × V)} : toKey k = some k' → RepV d v → RepK ds vs → RepK ((k, d) :: ds) ((k', v) :: vs)
end
end

variable {K : PySem.W.Frag} {mg : Str → Option Value}
theorem Rd.keep {H H' : Hp} {a : Addr} {u : HO} (r : Rd H a u) (k : ∀ o, H a = some o → H' a = some o) : Rd H' a u := by
  rcases r with r | ⟨o, r⟩
  · exact .inl (k _ r)
  · exact .inr ⟨o, k _ r⟩
theorem Rd.some {H : Hp} {a : Addr} {u : HO} (r : Rd H a u) : H a ≠ none := by
  rcases r with r | ⟨o, r⟩ <;> (rw [r]; exact fun z => nomatch z)
section
variable {φ φ' : List Addr} {ex ex' : Addr → Prop} {H H' : Hp}
theorem FzL.sq {a : Addr} {xs : List V} (h : FzL K ex H a xs) : SqL K H a xs := by
  rcases h with ⟨h, _⟩ | h
  · exact .inl h
  · exact .inr h
theorem FzT.sq {a : Addr} {xs : List V} (h : FzT K ex H a xs) : SqT K H a xs := by
  rcases h with ⟨h, _⟩ | h
  · exact .inl h
  · exact .inr h
structure Mv (φ φ' : List Addr) (ex ex' : Addr → Prop) (H H' : Hp) : Prop where
  pre : ∀ (n : Nat) (a : Addr), φ[n]? = some a → φ'[n]? = some a
  fr : ∀ b o, H b = some o → ¬ ex b → H' b = some o
  ne : ∀ b, ex' b → ex b ∨ H b = none
theorem Mv.nex (m : Mv φ φ' ex ex' H H') {a : Addr} {u : HO} (r : Rd H a u) (n : ¬ ex a) : Rd H' a u ∧ ¬ ex' a :=
  ⟨Rd.keep r fun o e => m.fr a o e n, fun z => (m.ne a z).elim n fun q => Rd.some r q⟩
mutual
theorem RepV.mv (m : Mv φ φ' ex ex' H H') : ∀ {d : D} {v : V}, RepV K mg φ ex H d v → RepV K mg φ' ex' H' d v
  | _, _, .non => .non
  | _, _, .bl b => .bl b
  | _, _, .int i => .int i
  | _, _, .str x => .str x
  | _, _, .tup h r => .tup (h.elim (fun ⟨h, n⟩ => .inl (m.nex h n)) .inr) (RepVs.mv m r)
  | _, _, .lst h r => .lst (h.elim (fun ⟨h, n⟩ => .inl (m.nex h n)) .inr) (RepVs.mv m r)
  | _, _, .dct h n r => .dct (m.nex h n).1 (m.nex h n).2 (RepK.mv m r)
  | _, _, .ref h => .ref (m.pre _ _ h)
  | _, _, .fn h => .fn h
theorem RepVs.mv (m : Mv φ φ' ex ex' H H') : ∀ {ds : List D} {vs : List V}, RepVs K mg φ ex H ds vs → RepVs K mg φ' ex' H' ds vs
  | _, _, .nil => .nil
  | _, _, .cons h r => .cons (RepV.mv m h) (RepVs.mv m r)
theorem RepK.mv (m : Mv φ φ' ex ex' H H') : ∀ {ds : List (D × D)} {vs : List (Key × V)}, RepK K mg φ ex H ds vs → RepK K mg φ' ex' H' ds vs
  | _, _, .nil => .nil
  | _, _, .cons k h r => .cons k (RepV.mv m h) (RepK.mv m r)
end
theorem Mv.less (h : ∀ b, ex' b → ex b) : Mv φ φ ex ex' H H := ⟨fun _ _ e => e, fun _ _ e _ => e, fun b z => .inl (h b z)⟩
theorem RepVs.length : ∀ {ds : List D} {vs : List V}, RepVs K mg φ ex H ds vs → ds.length = vs.length
  | _, _, .nil => rfl
  | _, _, .cons _ r => congrArg (· + 1) (RepVs.length r)
theorem RepK.length : ∀ {ds : List (D × D)} {vs : List (Key × V)}, RepK K mg φ ex H ds vs → ds.length = vs.length
  | _, _, .nil => rfl
  | _, _, .cons _ _ r => congrArg (· + 1) (RepK.length r)
theorem RepVs.get : ∀ {ds : List D} {vs : List V} {i : Nat} {d : D}, RepVs K mg φ ex H ds vs → ds[i]? = some d → ∃ v, vs[i]? = some v ∧ RepV K mg φ ex H d v
  | _, _, _, _, .nil, e => by simp at e
  | _, _, 0, _, .cons h _, e => by
    simp only [List.getElem?_cons_zero, Option.some.injEq] at e
    subst e
    exact ⟨_, rfl, h⟩
  | _, _, i + 1, _, .cons _ r, e => by
    simp only [List.getElem?_cons_succ] at e
    obtain ⟨v, h1, h2⟩ := RepVs.get r e
    exact ⟨v, by simpa using h1, h2⟩
theorem RepVs.app : ∀ {ds es : List D} {vs us : List V}, RepVs K mg φ ex H ds vs → RepVs K mg φ ex H es us → RepVs K mg φ ex H (ds ++ es) (vs ++ us)
  | _, _, _, _, .nil, s => s
  | _, _, _, _, .cons h r, s => .cons h (RepVs.app r s)
theorem RepVs.drop : ∀ {ds : List D} {vs : List V} (n : Nat), RepVs K mg φ ex H ds vs → RepVs K mg φ ex H (ds.drop n) (vs.drop n)
  | _, _, 0, h => h
  | _, _, n + 1, .nil => .nil
  | _, _, n + 1, .cons _ r => RepVs.drop n r
theorem RepVs.take : ∀ {ds : List D} {vs : List V} (n : Nat), RepVs K mg φ ex H ds vs → RepVs K mg φ ex H (ds.take n) (vs.take n)
  | _, _, 0, _ => .nil
  | _, _, n + 1, .nil => .nil
  | _, _, n + 1, .cons h r => .cons h (RepVs.take n r)
theorem RepVs.set : ∀ {ds : List D} {vs : List V} (n : Nat) {d : D} {v : V}, RepVs K mg φ ex H ds vs → RepV K mg φ ex H d v → RepVs K mg φ ex H (ds.set n d) (vs.set n v)
  | _, _, _, _, _, .nil, _ => .nil
  | _, _, 0, _, _, .cons _ r, q => .cons q r
  | _, _, n + 1, _, _, .cons h r, q => .cons h (RepVs.set n r q)
theorem RepVs.erase : ∀ {ds : List D} {vs : List V} (n : Nat), RepVs K mg φ ex H ds vs → RepVs K mg φ ex H (ds.eraseIdx n) (vs.eraseIdx n)
  | _, _, _, .nil => .nil
  | _, _, 0, .cons _ r => r
  | _, _, n + 1, .cons h r => .cons h (RepVs.erase n r)
theorem RepVs.rev : ∀ {ds : List D} {vs : List V}, RepVs K mg φ ex H ds vs → RepVs K mg φ ex H ds.reverse vs.reverse
  | _, _, .nil => .nil
  | _, _, .cons h r => by
    rw [List.reverse_cons, List.reverse_cons]
    exact RepVs.app (RepVs.rev r) (.cons h .nil)
theorem RepVs.init : ∀ {ds : List D} {vs : List V}, RepVs K mg φ ex H ds vs → RepVs K mg φ ex H ds.dropLast vs.dropLast := fun {ds vs} h => by
  rw [List.dropLast_eq_take, List.dropLast_eq_take, ← h.length]
  exact h.take _
/-- a list of ints, texts, truths -/
theorem RepVs.ofInts : ∀ {ds : List D} {ns : List Int} {vs : List V}, intsD ds = some ns → RepVs K mg φ ex H ds vs → vs = ns.map V.int
  | _, _, _, e, .nil => by
    cases e
    rfl
  | _, _, _, e, .cons h r => by
    cases h with
    | int i =>
      simp only [intsD, Option.map_eq_some_iff] at e
      obtain ⟨ns, e1, rfl⟩ := e
      rw [RepVs.ofInts e1 r]
      rfl
    | _ => cases e
theorem RepVs.ofStrs : ∀ {ds : List D} {ns : List Str} {vs : List V}, strsD ds = some ns → RepVs K mg φ ex H ds vs → vs = ns.map V.str
  | _, _, _, e, .nil => by
    cases e
    rfl
  | _, _, _, e, .cons h r => by
    cases h with
    | str i =>
      simp only [strsD, Option.map_eq_some_iff] at e
      obtain ⟨ns, e1, rfl⟩ := e
      rw [RepVs.ofStrs e1 r]
      rfl
    | _ => cases e
theorem RepVs.ofBls : ∀ {ds : List D} {ns : List Bool} {vs : List V}, blsD ds = some ns → RepVs K mg φ ex H ds vs → vs = ns.map V.bl
  | _, _, _, e, .nil => by
    cases e
    rfl
  | _, _, _, e, .cons h r => by
    cases h with
    | bl i =>
      simp only [blsD, Option.map_eq_some_iff] at e
      obtain ⟨ns, e1, rfl⟩ := e
      rw [RepVs.ofBls e1 r]
      rfl
    | _ => cases e
theorem RepVs.ints (ns : List Int) : RepVs K mg φ ex H (ns.map .int) (ns.map V.int) := by
  induction ns with
  | nil => exact .nil
  | cons n r ih => exact .cons (.int n) ih
theorem RepVs.strs' (ns : List Str) : RepVs K mg φ ex H (ns.map .str) (ns.map V.str) := by
  induction ns with
  | nil => exact .nil
  | cons n r ih => exact .cons (.str n) ih
/-- the value of data tells the data's scalar -/
theorem RepV.toInt {i : Int} {v : V} (h : RepV K mg φ ex H (.int i) v) : v = .int i := by cases h; rfl
theorem RepV.toBl {i : Bool} {v : V} (h : RepV K mg φ ex H (.bl i) v) : v = .bl i := by cases h; rfl
theorem RepV.toStr {i : Str} {v : V} (h : RepV K mg φ ex H (.str i) v) : v = .str i := by cases h; rfl
theorem RepV.toNon {v : V} (h : RepV K mg φ ex H .non v) : v = .non := by cases h; rfl

/-! ### dicts -/
theorem toKey_kV {k : D} {k' : Key} {v : V} (e : toKey k = some k') (h : RepV K mg φ ex H k v) : v = kV k' := by
  cases h <;> first
    | (cases e; rfl)
    | cases e
theorem toKey_rep {k : D} {k' : Key} (e : toKey k = some k') : RepV K mg φ ex H k (kV k') := by
  cases k <;> first
    | (cases e; first | exact .int _ | exact .str _)
    | cases e
theorem keq_key {a b : D} {a' b' : Key} (ea : toKey a = some a') (eb : toKey b = some b') : keq a b = decide (a' = b') := by
  cases a <;> cases b <;> first
    | (cases ea; cases eb; simp [keq])
    | (cases ea; done)
    | (cases eb; done)
theorem isKey_to {k : D} (h : isKey k = true) : ∃ k', toKey k = some k' := by
  cases k <;> first
    | exact ⟨_, rfl⟩
    | cases h
theorem RepK.get {k : D} {k' : Key} (ek : toKey k = some k') : ∀ {ds : List (D × D)} {vs : List (Key × V)}, RepK K mg φ ex H ds vs →
    (∀ d, dget ds k = some d → ∃ v, valV vs k' = some v ∧ RepV K mg φ ex H d v) ∧ (dhas ds k = (valV vs k').isSome) ∧ (dget ds k = none → valV vs k' = none)
  | _, _, .nil => ⟨fun d e => by simp [dget] at e, by simp [dhas, valV], fun _ => by simp [valV]⟩
  | _, _, .cons (k := j) (k' := j') (d := x) (v := y) (ds := ds) (vs := vs) e h r => by
    obtain ⟨h1, h2, h3⟩ := RepK.get ek r
    have hk := keq_key e ek
    by_cases z : j' = k'
    · have hk' : keq j k = true := by rw [hk]; exact decide_eq_true z
      rw [valV_pos (p := (j', y)) z]
      refine ⟨fun d q => ?_, ?_, fun q => ?_⟩
      · simp only [dget, List.find?_cons, hk', Option.map_some, Option.some.injEq] at q
        subst q
        exact ⟨_, rfl, h⟩
      · simp [dhas, hk']
      · simp [dget, List.find?_cons, hk'] at q
    · have hk' : keq j k = false := by rw [hk]; exact decide_eq_false z
      rw [valV_neg (p := (j', y)) z]
      refine ⟨fun d q => h1 d ?_, ?_, fun q => h3 ?_⟩
      · simpa [dget, List.find?_cons, hk'] using q
      · rw [← h2]
        simp [dhas, hk']
      · simpa [dget, List.find?_cons, hk'] using q
theorem RepK.app : ∀ {ds es : List (D × D)} {vs us : List (Key × V)}, RepK K mg φ ex H ds vs → RepK K mg φ ex H es us → RepK K mg φ ex H (ds ++ es) (vs ++ us)
  | _, _, _, _, .nil, s => s
  | _, _, _, _, .cons k h r, s => .cons k h (RepK.app r s)
theorem RepK.repl {k x : D} {k' : Key} {y : V} (ek : toKey k = some k') (hx : RepV K mg φ ex H x y) : ∀ {ds : List (D × D)} {vs : List (Key × V)}, RepK K mg φ ex H ds vs →
    RepK K mg φ ex H (ds.map fun p => if keq p.1 k = true then (p.1, x) else p) (vs.map fun p => if p.1 = k' then (p.1, y) else p)
  | _, _, .nil => .nil
  | _, _, .cons (k := j) (k' := j') (d := d) (v := v) e h r => by
    have ih := RepK.repl ek hx r
    rw [List.map_cons, List.map_cons]
    have hk := keq_key e ek
    by_cases z : j' = k'
    · have hk' : keq j k = true := by rw [hk]; exact decide_eq_true z
      rw [if_pos hk', if_pos z]
      exact .cons e hx ih
    · have hk' : ¬ keq j k = true := by rw [hk]; simpa using z
      rw [if_neg hk', if_neg z]
      exact .cons e h ih
theorem RepK.put {k x : D} {k' : Key} {y : V} (ek : toKey k = some k') (hx : RepV K mg φ ex H x y) {ds : List (D × D)} {vs : List (Key × V)} (r : RepK K mg φ ex H ds vs) :
    RepK K mg φ ex H (dput ds k x) (putK vs k' y) := by
  have h2 := (r.get ek).2.1
  have e2 : (vs.any fun p => decide (p.1 = k')) = dhas ds k := by rw [h2]; exact valV_any k' vs
  unfold dput putK
  by_cases z : dhas ds k = true
  · rw [if_pos z, if_pos (e2.trans z)]
    exact r.repl ek hx
  · rw [if_neg z, if_neg (fun q => z (e2.symm.trans q))]
    exact r.app (.cons ek hx .nil)
theorem RepK.keys : ∀ {ds : List (D × D)} {vs : List (Key × V)}, RepK K mg φ ex H ds vs → RepVs K mg φ ex H (ds.map (·.1)) (vs.map fun p => kV p.1)
  | _, _, .nil => .nil
  | _, _, .cons k _ r => .cons (toKey_rep k) (RepK.keys r)
theorem RepK.vals : ∀ {ds : List (D × D)} {vs : List (Key × V)}, RepK K mg φ ex H ds vs → RepVs K mg φ ex H (ds.map (·.2)) (vs.map fun p => p.2)
  | _, _, .nil => .nil
  | _, _, .cons _ h r => .cons h (RepK.vals r)
theorem RepK.at : ∀ {ds : List (D × D)} {vs : List (Key × V)} {i : Nat} {p : D × D}, RepK K mg φ ex H ds vs → ds[i]? = some p → ∃ q, vs[i]? = some q ∧ toKey p.1 = some q.1 ∧ RepV K mg φ ex H p.2 q.2
  | _, _, _, _, .nil, e => by simp at e
  | _, _, 0, _, .cons k h _, e => by
    simp only [List.getElem?_cons_zero, Option.some.injEq] at e
    subst e
    exact ⟨_, rfl, k, h⟩
  | _, _, i + 1, _, .cons _ _ r, e => by
    simp only [List.getElem?_cons_succ] at e
    obtain ⟨v, h1, h2⟩ := RepK.at r e
    exact ⟨v, by simpa using h1, h2⟩
end

/-! ### the state -/
def ownA (ρ : Env') (σ : L2.St) (a : Addr) : Prop := ∃ (i : Nat) (d : D), ρ[i]? = some (.ow d) ∧ σ[i]? = some (some (.ref a))
def exc (φ : List Addr) (out : Addr → Prop) (ρ : Env') (σ : L2.St) (a : Addr) : Prop := a ∈ φ ∨ out a ∨ ownA ρ σ a
/-- what stands at a: a list, a dict that may be written -/
def ObjD (K : PySem.W.Frag) (mg : Str → Option Value) (φ : List Addr) (ex : Addr → Prop) (H : Hp) (a : Addr) : D → Prop
  | .lst ds => ∃ vs, H a = some (.lst vs) ∧ RepVs K mg φ ex H ds vs
  | .dct kvs => ∃ ks, H a = some (.dK ks) ∧ RepK K mg φ ex H kvs ks
  | _ => False
def FldsR (K : PySem.W.Frag) (mg : Str → Option Value) (φ : List Addr) (ex : Addr → Prop) (H : Hp) : List (Str × D) → List (Str × V) → Prop := Paired fun p q => p.1 = q.1 ∧ RepV K mg φ ex H p.2 q.2
def ObjS (K : PySem.W.Frag) (mg : Str → Option Value) (φ : List Addr) (ex : Addr → Prop) (H : Hp) (a : Addr) : O → Prop
  | .da d => ObjD K mg φ ex H a d
  | .ins c fs => ∃ C dx gs, H a = some (.ins C dx gs) ∧ mg c = some (.ref C) ∧ FldsR K mg φ ex H fs gs
structure Rel (K : PySem.W.Frag) (mg : Str → Option Value) (φ : List Addr) (out : Addr → Prop) (ρ : Env') (S : Sto) (σ : L2.St) (H : Hp) : Prop where
  len : ρ.length = σ.length
  va : ∀ (i : Nat) (d : D), ρ[i]? = some (.va d) → ∃ v, σ[i]? = some (some v) ∧ RepV K mg φ (exc φ out ρ σ) H d v
  ow : ∀ (i : Nat) (d : D), ρ[i]? = some (.ow d) → ∃ a, σ[i]? = some (some (.ref a)) ∧ ObjD K mg φ (exc φ out ρ σ) H a d ∧ a ∉ φ ∧ ¬ out a
  owi : ∀ (i j : Nat) (a : Addr) (d e : D), ρ[i]? = some (.ow d) → ρ[j]? = some (.ow e) → σ[i]? = some (some (.ref a)) → σ[j]? = some (some (.ref a)) → i = j
  st : ∀ (n : Nat) (o : O), S[n]? = some o → ∃ a, φ[n]? = some a ∧ ObjS K mg φ (exc φ out ρ σ) H a o
  sl : S.length = φ.length
  nd : φ.Nodup
  no : ∀ a ∈ φ, ¬ out a
  ot : ∀ a, out a → H a ≠ none
section
variable {φ φ' φ2 : List Addr} {out out' : Addr → Prop} {ρ ρ' ρ2 : Env'} {S S' S2 : Sto} {σ σ' σ2 : L2.St} {H H' H2 : Hp}
theorem ObjD.mv {ex ex' : Addr → Prop} {a : Addr} {d : D} (m : Mv φ φ' ex ex' H H') (h : ObjD K mg φ ex H a d) (k : ∀ o, H a = some o → H' a = some o) : ObjD K mg φ' ex' H' a d := by
  cases d <;> first
    | exact h.elim
    | (obtain ⟨vs, e, r⟩ := h; exact ⟨vs, k _ e, r.mv m⟩)
theorem FldsR.mv {ex ex' : Addr → Prop} {fs : List (Str × D)} {gs : List (Str × V)} (m : Mv φ φ' ex ex' H H') (h : FldsR K mg φ ex H fs gs) : FldsR K mg φ' ex' H' fs gs := Paired.mapP h fun _ _ z => ⟨z.1, z.2.mv m⟩
theorem ObjS.mv {ex ex' : Addr → Prop} {a : Addr} {o : O} (m : Mv φ φ' ex ex' H H') (h : ObjS K mg φ ex H a o) (k : ∀ o, H a = some o → H' a = some o) : ObjS K mg φ' ex' H' a o := by
  cases o with
  | da d => exact ObjD.mv m h k
  | ins c fs =>
    obtain ⟨C, dx, gs, e, h1, h2⟩ := h
    exact ⟨C, dx, gs, k _ e, h1, h2.mv m⟩
theorem ObjD.some {ex : Addr → Prop} {a : Addr} {d : D} (h : ObjD K mg φ ex H a d) : H a ≠ none := by
  cases d <;> first
    | exact h.elim
    | (obtain ⟨vs, e, r⟩ := h; rw [e]; exact fun z => nomatch z)
theorem ObjS.some {ex : Addr → Prop} {a : Addr} {o : O} (h : ObjS K mg φ ex H a o) : H a ≠ none := by
  cases o with
  | da d => exact ObjD.some h
  | ins c fs =>
    obtain ⟨C, dx, gs, e, _⟩ := h
    rw [e]
    exact fun z => nomatch z
theorem Rel.phi (R : Rel K mg φ out ρ S σ H) {a : Addr} (h : a ∈ φ) : ∃ (n : Nat) (o : O), S[n]? = some o ∧ φ[n]? = some a ∧ ObjS K mg φ (exc φ out ρ σ) H a o := by
  obtain ⟨n, hn, e⟩ := List.mem_iff_getElem.mp h
  have hn' : n < S.length := by rw [R.sl]; exact hn
  obtain ⟨b, e2, h2⟩ := R.st n S[n] (List.getElem?_eq_getElem hn')
  have e3 : φ[n]? = some a := by rw [List.getElem?_eq_getElem hn, e]
  rw [e3] at e2
  cases e2
  exact ⟨n, _, List.getElem?_eq_getElem hn', e3, h2⟩
theorem Rel.ex_some (R : Rel K mg φ out ρ S σ H) {a : Addr} (h : exc φ out ρ σ a) : H a ≠ none := by
  rcases h with h | h | ⟨i, d, e1, e2⟩
  · obtain ⟨_, _, _, _, h⟩ := R.phi h
    exact h.some
  · exact R.ot a h
  · obtain ⟨b, e3, h, _⟩ := R.ow i d e1
    rw [e2] at e3
    cases e3
    exact h.some
theorem Rel.free (R : Rel K mg φ out ρ S σ H) {a : Addr} (h : H a = none) : ¬ exc φ out ρ σ a := fun z => R.ex_some z h

/-- a step of the state -/
structure Stp (φ : List Addr) (ρ : Env') (σ : L2.St) (H : Hp) (φ' : List Addr) (ρ' : Env') (σ' : L2.St) (H' : Hp) : Prop where
  pre : ∀ (n : Nat) (a : Addr), φ[n]? = some a → φ'[n]? = some a
  nw : ∀ a ∈ φ', a ∈ φ ∨ H a = none ∨ ownA ρ σ a
  fr : ∀ b o, H b = some o → b ∉ φ → ¬ ownA ρ σ b → H' b = some o
  on : ∀ b, ownA ρ' σ' b → ownA ρ σ b ∨ H b = none
  kp : ∀ b, H b ≠ none → H' b ≠ none
theorem Stp.refl : Stp φ ρ σ H φ ρ σ H := ⟨fun _ _ e => e, fun _ h => .inl h, fun _ _ e _ _ => e, fun _ h => .inl h, fun _ h => h⟩
theorem mem_get {a : Addr} (h : a ∈ φ) : ∃ n : Nat, φ[n]? = some a := by
  obtain ⟨n, hn, e⟩ := List.mem_iff_getElem.mp h
  exact ⟨n, by rw [List.getElem?_eq_getElem hn, e]⟩
theorem Stp.trans (a : Stp φ ρ σ H φ' ρ' σ' H') (b : Stp φ' ρ' σ' H' φ2 ρ2 σ2 H2) : Stp φ ρ σ H φ2 ρ2 σ2 H2 := by
  have back : ∀ c, H' c = none → H c = none := fun c hc => Classical.byContradiction fun z => a.kp c z hc
  refine ⟨fun n c e => b.pre n c (a.pre n c e), fun c hc => ?_, fun c o e h1 h2 => b.fr c o (a.fr c o e h1 h2) (fun z => ?_) (fun z => ?_), fun c hc => ?_, fun c hc => b.kp c (a.kp c hc)⟩
  · rcases b.nw c hc with h | h | h
    · exact a.nw c h
    · exact .inr (.inl (back c h))
    · exact (a.on c h).elim (fun z => .inr (.inr z)) fun z => .inr (.inl z)
  · rcases a.nw c z with z | z | z
    · exact h1 z
    · rw [e] at z
      cases z
    · exact h2 z
  · rcases a.on c z with z | z
    · exact h2 z
    · rw [e] at z
      cases z
  · rcases b.on c hc with h | h
    · exact a.on c h
    · exact .inr (back c h)

theorem Stp.mv (R : Rel K mg φ out ρ S σ H) (t : Stp φ ρ σ H φ' ρ' σ' H') (ho : ∀ a, out' a → out a ∨ H a = none) : Mv φ φ' (exc φ out ρ σ) (exc φ' out' ρ' σ') H H' := by
  refine ⟨t.pre, fun b o e n => t.fr b o e (fun z => n (.inl z)) (fun z => n (.inr (.inr z))), fun b z => ?_⟩
  rcases z with z | z | z
  · rcases t.nw b z with z | z | z
    · exact .inl (.inl z)
    · exact .inr z
    · exact .inl (.inr (.inr z))
  · exact (ho b z).imp (fun q => .inr (.inl q)) id
  · exact (t.on b z).imp (fun q => .inr (.inr q)) id
theorem exc.less (h : ∀ a, out' a → out a) : ∀ b, exc φ out' ρ σ b → exc φ out ρ σ b := fun b z => z.imp id fun z => z.imp (h b) id
theorem Rel.less (R : Rel K mg φ out ρ S σ H) (h : ∀ a, out' a → out a) : Rel K mg φ out' ρ S σ H := by
  have m : Mv φ φ (exc φ out ρ σ) (exc φ out' ρ σ) H H := .less (exc.less h)
  refine ⟨R.len, fun i d e => ?_, fun i d e => ?_, R.owi, fun n o e => ?_, R.sl, R.nd, fun a q z => R.no a q (h a z), fun a z => R.ot a (h a z)⟩
  · obtain ⟨v, e1, h1⟩ := R.va i d e
    exact ⟨v, e1, h1.mv m⟩
  · obtain ⟨a, e1, h1, h2, h3⟩ := R.ow i d e
    exact ⟨a, e1, h1.mv m fun _ q => q, h2, fun z => h3 (h a z)⟩
  · obtain ⟨a, e1, h1⟩ := R.st n o e
    exact ⟨a, e1, h1.mv m fun _ q => q⟩
/-- the operand's value -/
def ROp (K : PySem.W.Frag) (mg : Str → Option Value) (φ : List Addr) (out : Addr → Prop) (ρ : Env') (S : Sto) (σ : L2.St) (H H0 : Hp) (own0 : Addr → Prop) : Op → V → Prop
  | .fz d, v => RepV K mg φ (exc φ out ρ σ) H d v
  | .fr d, v => ∃ a, v = .ref a ∧ Rel K mg φ (fun b => out b ∨ b = a) ρ S σ H ∧ ObjD K mg φ (exc φ (fun b => out b ∨ b = a) ρ σ) H a d ∧ ¬ out a ∧ (H0 a = none ∨ own0 a)
  | .sl i, v => ∃ a d, ρ[i]? = some (.ow d) ∧ σ[i]? = some (some (.ref a)) ∧ v = .ref a
structure Post (K : PySem.W.Frag) (mg : Str → Option Value) (φ : List Addr) (out : Addr → Prop) (ρ : Env') (σ : L2.St) (H : Hp) (o : Op) (ρ' : Env') (S' : Sto) (v : V) (H' : Hp) (φ' : List Addr) : Prop where
  stp : Stp φ ρ σ H φ' ρ' σ H'
  rel : Rel K mg φ' out ρ' S' σ H'
  val : ROp K mg φ' out ρ' S' σ H' H (ownA ρ σ) o v
theorem ObjD.rep {ex ex' : Addr → Prop} {a : Addr} {d : D} (h : ObjD K mg φ ex H a d) (l : ∀ b, ex' b → ex b) (n : ¬ ex' a) : RepV K mg φ ex' H d (.ref a) := by
  have m : Mv φ φ ex ex' H H := .less l
  cases d <;> first
    | exact h.elim
    | (obtain ⟨vs, e, r⟩ := h
       first
         | exact .lst (.inl ⟨.inl e, n⟩) (r.mv m)
         | exact .dct (.inl e) n (r.mv m))
theorem ROp.toV {H0 : Hp} {own0 : Addr → Prop} (R : Rel K mg φ out ρ S σ H) {o : Op} {d : D} {v : V} (h : ROp K mg φ out ρ S σ H H0 own0 o v) (e : o.d = some d) : RepV K mg φ (exc φ out ρ σ) H d v := by
  cases o with
  | fz x =>
    cases e
    exact h
  | fr x =>
    cases e
    obtain ⟨a, rfl, R2, h2, h3, _⟩ := h
    refine h2.rep (exc.less fun b z => .inl z) fun z => ?_
    rcases z with z | z | ⟨i, d, e1, e2⟩
    · exact R2.no a z (.inr rfl)
    · exact h3 z
    · obtain ⟨b, e3, _, _, q⟩ := R2.ow i d e1
      rw [e2] at e3
      cases e3
      exact q (.inr rfl)
  | sl i => cases e
/-- an operand, later -/
def OpV (K : PySem.W.Frag) (mg : Str → Option Value) (φ : List Addr) (ex : Addr → Prop) (σ : L2.St) (H : Hp) : Op → V → Prop
  | .fz d, v => RepV K mg φ ex H d v
  | .fr d, v => RepV K mg φ ex H d v
  | .sl i, v => σ[i]? = some (some v)
theorem ROp.op {H0 : Hp} {own0 : Addr → Prop} (R : Rel K mg φ out ρ S σ H) {o : Op} {v : V} (h : ROp K mg φ out ρ S σ H H0 own0 o v) : OpV K mg φ (exc φ out ρ σ) σ H o v := by
  cases o with
  | fz x => exact h
  | fr x => exact ROp.toV R h rfl
  | sl i =>
    obtain ⟨a, d, e1, e2, rfl⟩ := h
    exact e2
theorem OpV.mv {ex ex' : Addr → Prop} (m : Mv φ φ' ex ex' H H') {o : Op} {v : V} (h : OpV K mg φ ex σ H o v) : OpV K mg φ' ex' σ H' o v := by
  cases o with
  | fz x => exact RepV.mv m h
  | fr x => exact RepV.mv m h
  | sl i => exact h
theorem OpV.toV {ex : Addr → Prop} {o : Op} {v : V} {d : D} (h : OpV K mg φ ex σ H o v) (e : o.d = some d) : RepV K mg φ ex H d v := by
  cases o with
  | fz x => cases e; exact h
  | fr x => cases e; exact h
  | sl i => cases e
/-- the content that is looked at -/
def CV (K : PySem.W.Frag) (mg : Str → Option Value) (φ : List Addr) (ex : Addr → Prop) (H : Hp) : D → V → Prop
  | .lst ds, v => ∃ a vs, v = .ref a ∧ SqL K H a vs ∧ RepVs K mg φ ex H ds vs
  | .dct kvs, v => ∃ a ks, v = .ref a ∧ Rd H a (.dK ks) ∧ RepK K mg φ ex H kvs ks
  | d, v => RepV K mg φ ex H d v
theorem RepV.cv {ex : Addr → Prop} {d : D} {v : V} (h : RepV K mg φ ex H d v) : CV K mg φ ex H d v := by
  cases h with
  | tup h r => exact .tup h r
  | lst h r => exact ⟨_, _, rfl, h.sq, r⟩
  | dct h n r => exact ⟨_, _, rfl, h, r⟩
  | non => exact .non
  | bl b => exact .bl b
  | int i => exact .int i
  | str x => exact .str x
  | ref h => exact .ref h
  | fn h => exact .fn h
theorem ObjD.cv {ex : Addr → Prop} {a : Addr} {d : D} (h : ObjD K mg φ ex H a d) : CV K mg φ ex H d (.ref a) := by
  cases d <;> first
    | exact h.elim
    | (obtain ⟨vs, e, r⟩ := h
       first
         | exact ⟨a, vs, rfl, .inl (.inl e), r⟩
         | exact ⟨a, vs, rfl, .inl e, r⟩)
theorem cont_ref {n : Nat} {d : D} (e : cont ρ S (.fz (.ref n)) = some d) : S[n]? = some (.da d) := by
  have e' : (match S[n]? with | some (.da d) => some d | _ => none) = some d := e
  cases h : S[n]? with
  | none => rw [h] at e'; cases e'
  | some o =>
    rw [h] at e'
    cases o with
    | da x => cases e'; rfl
    | ins c fs => cases e'
theorem cont_slot {i : Nat} {d : D} (e : cont ρ S (.sl i) = some d) : ρ[i]? = some (.ow d) := by
  have e' : (match ρ[i]? with | some (.ow d) => some d | _ => none) = some d := e
  cases h : ρ[i]? with
  | none => rw [h] at e'; cases e'
  | some o =>
    rw [h] at e'
    cases o with
    | ow x => cases e'; rfl
    | _ => cases e'
theorem setC_ref {n : Nat} {d : D} {q : Env' × Sto} (e : setC ρ S (.fz (.ref n)) d = some q) : (∃ y, S[n]? = some (.da y)) ∧ q = (ρ, S.set n (.da d)) := by
  have e' : (match S[n]? with | some (.da _) => some (ρ, S.set n (.da d)) | _ => none) = some q := e
  cases h : S[n]? with
  | none => rw [h] at e'; cases e'
  | some o =>
    rw [h] at e'
    cases o with
    | da x => cases e'; exact ⟨⟨x, rfl⟩, rfl⟩
    | ins c fs => cases e'
theorem setC_slot {i : Nat} {d : D} {q : Env' × Sto} (e : setC ρ S (.sl i) d = some q) : (∃ y, ρ[i]? = some (.ow y)) ∧ q = (ρ.set i (.ow d), S) := by
  have e' : (match ρ[i]? with | some (.ow _) => some (ρ.set i (.ow d), S) | _ => none) = some q := e
  cases h : ρ[i]? with
  | none => rw [h] at e'; cases e'
  | some o =>
    rw [h] at e'
    cases o with
    | ow x => cases e'; exact ⟨⟨x, rfl⟩, rfl⟩
    | _ => cases e'
theorem cont_ok (R : Rel K mg φ out ρ S σ H) {o : Op} {v : V} {d : D} (h : OpV K mg φ (exc φ out ρ σ) σ H o v) (e : cont ρ S o = some d) : CV K mg φ (exc φ out ρ σ) H d v := by
  cases o with
  | fz x =>
    cases x with
    | ref n =>
      obtain ⟨a, e1, h1⟩ := R.st n _ (cont_ref e)
      cases h with
      | ref q =>
        rw [e1] at q
        cases q
        exact ObjD.cv h1
    | _ => cases e; exact RepV.cv h
  | fr x => cases e; exact RepV.cv h
  | sl i =>
    obtain ⟨a, e1, h1, _⟩ := R.ow i _ (cont_slot e)
    have h' : σ[i]? = some (some v) := h
    rw [e1] at h'
    cases h'
    exact ObjD.cv h1
theorem look_ok (R : Rel K mg φ out ρ S σ H) {o : Op} {v : V} {d : D} (h : OpV K mg φ (exc φ out ρ σ) σ H o v) (e : look ρ S o = some d) : CV K mg φ (exc φ out ρ σ) H d v := by
  unfold look at e
  split at e
  · rename_i y hy
    cases e
    exact cont_ok R h hy
  · cases o with
    | fz x => cases e; exact RepV.cv h
    | fr x => cases e; exact RepV.cv h
    | sl i => cases e
/-- the content that is written -/
theorem cont_mut (R : Rel K mg φ out ρ S σ H) {o : Op} {v : V} {d d' : D} {q : Env' × Sto} (h : OpV K mg φ (exc φ out ρ σ) σ H o v) (e : cont ρ S o = some d) (e2 : setC ρ S o d' = some q) :
    ∃ a, v = .ref a ∧ ObjD K mg φ (exc φ out ρ σ) H a d ∧ (a ∈ φ ∨ ownA ρ σ a) := by
  cases o with
  | fz x =>
    cases x with
    | ref n =>
      obtain ⟨a, e1, h1⟩ := R.st n _ (cont_ref e)
      cases h with
      | ref z =>
        rw [e1] at z
        cases z
        exact ⟨a, rfl, h1, .inl (List.mem_of_getElem? e1)⟩
    | _ => cases e2
  | fr x => cases e2
  | sl i =>
    have hy := cont_slot e
    obtain ⟨a, e1, h1, _⟩ := R.ow i _ hy
    have h' : σ[i]? = some (some v) := h
    rw [e1] at h'
    cases h'
    exact ⟨a, rfl, h1, .inr ⟨i, _, hy, e1⟩⟩
theorem upd_mv {ex : Addr → Prop} {a : Addr} {ho : HO} (h : ex a) : Mv φ φ ex ex H (upd H a ho) :=
  ⟨fun _ _ e => e, fun b o e n => by rw [upd_ne (fun z : b = a => n (z ▸ h))]; exact e, fun _ z => .inl z⟩
theorem own_set {i : Nat} {d d' : D} (e : ρ[i]? = some (.ow d)) (a : Addr) : ownA (ρ.set i (.ow d')) σ a ↔ ownA ρ σ a := by
  have hi : i < ρ.length := (List.getElem?_eq_some_iff.mp e).1
  constructor
  · rintro ⟨j, x, e1, e2⟩
    by_cases z : i = j
    · subst z
      exact ⟨i, d, e, e2⟩
    · rw [List.getElem?_set_ne z] at e1
      exact ⟨j, x, e1, e2⟩
  · rintro ⟨j, x, e1, e2⟩
    by_cases z : i = j
    · subst z
      exact ⟨i, d', List.getElem?_set_self hi, e2⟩
    · exact ⟨j, x, by rw [List.getElem?_set_ne z]; exact e1, e2⟩
theorem setC_ok (R : Rel K mg φ out ρ S σ H) {o : Op} {a : Addr} {d' : D} {ρ' : Env'} {S' : Sto} {ho : HO} (h : OpV K mg φ (exc φ out ρ σ) σ H o (.ref a)) (e2 : setC ρ S o d' = some (ρ', S'))
    (new : ObjD K mg φ (exc φ out ρ σ) (upd H a ho) a d') : Rel K mg φ out ρ' S' σ (upd H a ho) ∧ Stp φ ρ σ H φ ρ' σ (upd H a ho) ∧ (∀ b, exc φ out ρ' σ b ↔ exc φ out ρ σ b) := by
  have base : ∀ (hx : a ∈ φ ∨ ownA ρ σ a) (ho' : ∀ b, ownA ρ' σ b ↔ ownA ρ σ b), Stp φ ρ σ H φ ρ' σ (upd H a ho) ∧ (∀ b, exc φ out ρ' σ b ↔ exc φ out ρ σ b) := fun hx ho' => by
    refine ⟨⟨fun _ _ e => e, fun _ z => .inl z, fun b o e n1 n2 => ?_, fun b z => .inl ((ho' b).mp z), fun b z => ?_⟩, fun b => ?_⟩
    · have nb : b ≠ a := fun z => by
        subst z
        exact hx.elim n1 n2
      rw [upd_ne nb]
      exact e
    · by_cases q : b = a
      · subst q
        rw [upd_same]
        exact fun z => nomatch z
      · rw [upd_ne q]
        exact z
    · unfold exc
      rw [ho' b]
  cases o with
  | fz x =>
    cases x with
    | ref n =>
      obtain ⟨⟨y, hy⟩, e3⟩ := setC_ref e2
      cases e3
      obtain ⟨b, e1, h1⟩ := R.st n _ hy
      cases h with
      | ref z =>
        rw [e1] at z
        cases z
        have hm : a ∈ φ := List.mem_of_getElem? e1
        have hx : exc φ out ρ σ a := .inl hm
        obtain ⟨b1, b2⟩ := base (.inl hm) fun _ => Iff.rfl
        have m : Mv φ φ (exc φ out ρ σ) (exc φ out ρ σ) H (upd H a ho) := upd_mv hx
        have hn : n < S.length := (List.getElem?_eq_some_iff.mp hy).1
        refine ⟨⟨R.len, fun i d e => ?_, fun i d e => ?_, R.owi, fun k ob e => ?_, by rw [List.length_set]; exact R.sl, R.nd, R.no, fun b z => ?_⟩, b1, b2⟩
        · obtain ⟨v, q1, q2⟩ := R.va i d e
          exact ⟨v, q1, q2.mv m⟩
        · obtain ⟨b, q1, q2, q3, q4⟩ := R.ow i d e
          exact ⟨b, q1, q2.mv m fun w hw => by rw [upd_ne (fun z : b = a => q3 (z ▸ hm))]; exact hw, q3, q4⟩
        · by_cases z : n = k
          · subst z
            rw [List.getElem?_set_self hn] at e
            cases e
            exact ⟨a, e1, new⟩
          · rw [List.getElem?_set_ne z] at e
            obtain ⟨b, q1, q2⟩ := R.st k ob e
            refine ⟨b, q1, q2.mv m fun w hw => ?_⟩
            rw [upd_ne (fun q : b = a => z ?_)]
            · exact hw
            · obtain ⟨l1, x1⟩ := List.getElem?_eq_some_iff.mp e1
              obtain ⟨l2, x2⟩ := List.getElem?_eq_some_iff.mp q1
              exact (List.getElem_inj R.nd).mp (x1.trans (q ▸ x2.symm))
        · exact b1.kp b (R.ot b z)
    | _ => cases e2
  | fr x => cases e2
  | sl i =>
    obtain ⟨⟨y, hy⟩, e3⟩ := setC_slot e2
    cases e3
    · obtain ⟨b, e1, h1, h2, h3⟩ := R.ow i _ hy
      have h' : σ[i]? = some (some (.ref a)) := h
      rw [e1] at h'
      cases h'
      have ho' := fun b => own_set (σ := σ) (d' := d') hy b
      have hx : exc φ out ρ σ a := .inr (.inr ⟨i, _, hy, e1⟩)
      obtain ⟨b1, b2⟩ := base (.inr ⟨i, _, hy, e1⟩) ho'
      have eq : exc φ out (ρ.set i (.ow d')) σ = exc φ out ρ σ := funext fun b => propext (b2 b)
      have m : Mv φ φ (exc φ out ρ σ) (exc φ out ρ σ) H (upd H a ho) := upd_mv hx
      have hi : i < ρ.length := (List.getElem?_eq_some_iff.mp hy).1
      have sub : ∀ {j : Nat} {d : D}, (ρ.set i (.ow d'))[j]? = some (.ow d) → ∃ x, ρ[j]? = some (.ow x) := fun {j d} e => by
        by_cases z : i = j
        · subst z
          exact ⟨_, hy⟩
        · rw [List.getElem?_set_ne z] at e
          exact ⟨_, e⟩
      refine ⟨⟨by rw [List.length_set]; exact R.len, fun j d e => ?_, fun j d e => ?_, fun j k b d f q1 q2 q3 q4 => ?_, fun k ob e => ?_, R.sl, R.nd, R.no, fun b z => b1.kp b (R.ot b z)⟩, b1, b2⟩
      · rw [eq]
        by_cases z : i = j
        · subst z
          rw [List.getElem?_set_self hi] at e
          cases e
        · rw [List.getElem?_set_ne z] at e
          obtain ⟨v, q1, q2⟩ := R.va j d e
          exact ⟨v, q1, q2.mv m⟩
      · rw [eq]
        by_cases z : i = j
        · subst z
          rw [List.getElem?_set_self hi] at e
          cases e
          exact ⟨a, e1, new, h2, h3⟩
        · rw [List.getElem?_set_ne z] at e
          obtain ⟨b, q1, q2, q3, q4⟩ := R.ow j d e
          refine ⟨b, q1, q2.mv m fun w hw => ?_, q3, q4⟩
          rw [upd_ne (fun q : b = a => z ?_)]
          · exact hw
          · exact R.owi i j a _ _ hy e e1 (q ▸ q1)
      · obtain ⟨x1, r1⟩ := sub q1
        obtain ⟨x2, r2⟩ := sub q2
        exact R.owi j k b _ _ r1 r2 q3 q4
      · rw [eq]
        obtain ⟨b, q1, q2⟩ := R.st k ob e
        refine ⟨b, q1, q2.mv m fun w hw => ?_⟩
        rw [upd_ne (fun q : b = a => h2 (q ▸ List.mem_of_getElem? q1))]
        exact hw
/-- a new object -/
theorem new_mv {ex : Addr → Prop} {p : Addr} {ho : HO} (h : H p = none) : Mv φ φ ex ex H (upd H p ho) :=
  ⟨fun _ _ e => e, fun b o e _ => by rw [upd_ne (fun z => by rw [z, h] at e; cases e)]; exact e, fun _ z => .inl z⟩
theorem new_stp {p : Addr} {ho : HO} (h : H p = none) : Stp φ ρ σ H φ ρ σ (upd H p ho) :=
  ⟨fun _ _ e => e, fun _ z => .inl z, fun b o e _ _ => by rw [upd_ne (fun z => by rw [z, h] at e; cases e)]; exact e, fun _ z => .inl z, fun b z => by
    by_cases q : b = p
    · subst q
      rw [upd_same]
      exact fun z => nomatch z
    · rw [upd_ne q]
      exact z⟩
theorem Rel.new (R : Rel K mg φ out ρ S σ H) {p : Addr} {ho : HO} (h : H p = none) : Rel K mg φ out ρ S σ (upd H p ho) := by
  have m : Mv φ φ (exc φ out ρ σ) (exc φ out ρ σ) H (upd H p ho) := new_mv h
  have k : ∀ (b : Addr) (o : HO), H b = some o → upd H p ho b = some o := fun b o e => by rw [upd_ne (fun z => by rw [z, h] at e; cases e)]; exact e
  refine ⟨R.len, fun i d e => ?_, fun i d e => ?_, R.owi, fun n o e => ?_, R.sl, R.nd, R.no, fun a z => (new_stp (φ := φ) (ρ := ρ) (σ := σ) h).kp a (R.ot a z)⟩
  · obtain ⟨v, e1, h1⟩ := R.va i d e
    exact ⟨v, e1, h1.mv m⟩
  · obtain ⟨a, e1, h1, h2⟩ := R.ow i d e
    exact ⟨a, e1, h1.mv m (k a), h2⟩
  · obtain ⟨a, e1, h1⟩ := R.st n o e
    exact ⟨a, e1, h1.mv m (k a)⟩
/-- .. that nobody holds yet -/
theorem Rel.newOut (R : Rel K mg φ out ρ S σ H) {p : Addr} {ho : HO} (h : H p = none) : Rel K mg φ (fun b => out b ∨ b = p) ρ S σ (upd H p ho) := by
  have R1 := R.new (ho := ho) h
  have np : ∀ b o, H b = some o → b ≠ p := fun b o e z => by rw [z, h] at e; cases e
  have m : Mv φ φ (exc φ out ρ σ) (exc φ (fun b => out b ∨ b = p) ρ σ) H (upd H p ho) := by
    refine ⟨fun _ _ e => e, fun b o e _ => by rw [upd_ne (np b o e)]; exact e, fun b z => ?_⟩
    rcases z with z | (z | z) | z
    · exact .inl (.inl z)
    · exact .inl (.inr (.inl z))
    · exact .inr (z ▸ h)
    · exact .inl (.inr (.inr z))
  have k : ∀ (b : Addr) (o : HO), H b = some o → upd H p ho b = some o := fun b o e => by rw [upd_ne (np b o e)]; exact e
  have ne : ∀ b, H b ≠ none → b ≠ p := fun b z q => z (q ▸ h)
  refine ⟨R.len, fun i d e => ?_, fun i d e => ?_, R.owi, fun n o e => ?_, R.sl, R.nd, fun a q z => ?_, fun a z => ?_⟩
  · obtain ⟨v, e1, h1⟩ := R.va i d e
    exact ⟨v, e1, h1.mv m⟩
  · obtain ⟨a, e1, h1, h2, h3⟩ := R.ow i d e
    exact ⟨a, e1, h1.mv m (k a), h2, fun z => z.elim h3 (ne a h1.some)⟩
  · obtain ⟨a, e1, h1⟩ := R.st n o e
    exact ⟨a, e1, h1.mv m (k a)⟩
  · rcases z with z | z
    · exact R.no a q z
    · exact ne a (R.ex_some (.inl q)) z
  · rcases z with z | z
    · exact R1.ot a z
    · rw [z, upd_same]
      exact fun z => nomatch z
end
end Sk

/-! Sk3: the operations, by values. -/
namespace Sk
open PySem PySem.Spec PyProof.Rows L2

/-! ### any rule that serves -/
def anyR (X : Cx) (f : Value → Value → Sem Value) : R2 := fun x y H Q => ∃ r : R2, OpR X f r ∧ r x y H Q
theorem op_any (X : Cx) (f : Value → Value → Sem Value) : OpR X f (anyR X f) := fun pins s σ H x y v u Q I rx ry ⟨_, o, q⟩ => o pins s σ H x y v u Q I rx ry q
def anyC (X : Cx) (f : Value) : List V → Hp → VK → Prop := fun xs H Q => ∃ r, CallR X f r ∧ r xs H Q
theorem call_any (X : Cx) (f : Value) : CallR X f (anyC X f) := fun pins s σ H xs us Q I r ⟨_, o, q⟩ => o pins s σ H xs us Q I r q
def anyI (X : Cx) : R2 := fun x y H Q => ∃ r : R2, IxR X r ∧ r x y H Q
theorem ix_any (X : Cx) : IxR X (anyI X) := fun a b pins s σ H x y v u Q I rx ry ⟨_, o, q⟩ hs => o a b pins s σ H x y v u Q I rx ry q hs
def anyS (X : Cx) : V → Option Int → Option Int → Hp → VK → Prop := fun x l h H Q => ∃ r, SlR X r ∧ r x l h H Q
theorem sl_any (X : Cx) : SlR X (anyS X) := fun pins s σ H x v vl vu lo hi sl Q I rx hs pl pu ⟨_, o, q⟩ => o pins s σ H x v vl vu lo hi sl Q I rx hs pl pu q

section
variable {X : Cx}
theorem ix_dict (hu : X.A.units + 1 < cLine) : IxR X (fun x y H Q => ∃ a v, x = .ref a ∧ DGet H a y (some v) ∧ Q v H) := by
  intro value slice pins s σ H x y v u Q I rx ry ⟨a, z, ex, g, q⟩ hs
  subst ex
  obtain rfl : v = Value.ref a := rx
  exact tail_any (dict_typeIs I g) PySem.F.slot_dict_getitem.lookup (d_getItem hu I g ry fun w' s3 I3 rw' => ⟨z, H, I3, rw', q⟩) hs
theorem op_inDict (hu : X.A.units + 1 < cLine) : OpR X (compareOp .In) (fun y x H Q => ∃ a o, x = .ref a ∧ DGet H a y o ∧ Q (.bl o.isSome) H) := by
  intro pins s σ H y x v u Q I ry rx ⟨a, o, ex, g, q⟩
  subst ex
  obtain rfl : u = Value.ref a := rx
  exact d_in hu I g ry fun s3 I3 => ⟨.bl o.isSome, H, I3, rfl, q⟩
theorem op_notInDict (hu : X.A.units + 1 < cLine) : OpR X (compareOp .NotIn) (fun y x H Q => ∃ a o, x = .ref a ∧ DGet H a y o ∧ Q (.bl (!o.isSome)) H) := by
  intro pins s σ H y x v u Q I ry rx ⟨a, o, ex, g, q⟩
  subst ex
  obtain rfl : u = Value.ref a := rx
  exact d_notIn hu I g ry fun s3 I3 => ⟨.bl (!o.isSome), H, I3, rfl, q⟩
/-- two lists, wherever they stand -/
theorem op_catS : OpR X (binaryOp .Add) (fun x y H Q => ∃ l b xs zs, x = .ref l ∧ y = .ref b ∧ SqL X.K H l xs ∧ SqL X.K H b zs ∧ xs.length + zs.length ≤ sizeLine ∧ ∀ p, H p = none → Q (.ref p) (upd H p (.lst (xs ++ zs)))) := by
  intro pins s σ H x y v u Q I rx ry ⟨l, b, xs, zs, ex, ey, hl, hb, hz, q⟩
  subst ex ey
  obtain rfl : v = Value.ref l := rx
  obtain rfl : u = Value.ref b := ry
  obtain ⟨its, r1, p1, _⟩ := I.list hl
  obtain ⟨jts, r2, p2, _⟩ := I.list hb
  obtain ⟨⟨c1, d1, t1, s1⟩, g1, k1, n1, e1⟩ := p1.isList
  obtain ⟨⟨c2, d2, t2, s2⟩, g2, k2, n2, e2⟩ := p2.isList
  simp only at k1 e1 k2 e2
  subst k1 e1 k2 e2
  have el : its.toArray ++ jts.toArray = (its ++ jts).toArray := by simp
  have l1 := r1.length
  have l2 := r2.length
  refine concat_meets ⟨_, g1, rfl⟩ ⟨_, g2, rfl⟩ noFill_list_add seq_list_add PySem.F.slot_list_add PySem.F.entry_list_add (PySem.F.args_list_add_2 _ _) (list_addW l b its.toArray jts.toArray n1 n2 d1 d2 s1 s2 (by rw [List.size_toArray, List.size_toArray]; omega)) ⟨g1, g2, ?_⟩
  rw [el]
  exact ⟨.ref _, _, I.lnew (t' := s.toks) (r1.append r2) (by rw [List.length_append]; omega), rfl, q _ I.fresh⟩
end

section
variable {X : Cx} {φ : List Addr} {ex : Addr → Prop} {H : Hp} {mg : Str → Option Value}
def opOf : BO → Operator
  | .add => .Add | .sub => .Sub | .mul => .Mult | .fdiv => .FloorDiv | .mod => .Mod | .pow => .Pow
def copOf : CO → CmpOp
  | .eq => .Eq | .ne => .NotEq | .lt => .Lt | .le => .LtE | .gt => .Gt | .ge => .GtE | .is => .Is | .isn => .IsNot | .inn => .In | .nin => .NotIn

/-- what an operation hands back, by the abstract heap -/
def Res (K : PySem.W.Frag) (mg : Str → Option Value) (φ : List Addr) (ex : Addr → Prop) (H : Hp) (r : Op) (Q : VK) : Prop :=
  match r with
  | .fz d => (∀ v, RepV K mg φ ex H d v → Q v H) ∧ (match d with
    | .tup ds => ∀ vs p, RepVs K mg φ ex H ds vs → H p = none → Q (.ref p) (upd H p (.tup vs))
    | _ => True)
  | .fr (.lst ds) => ∀ vs p, RepVs K mg φ ex H ds vs → H p = none → Q (.ref p) (upd H p (.lst vs))
  | .fr (.dct kvs) => ∀ ks p, RepK K mg φ ex H kvs ks → H p = none → Q (.ref p) (upd H p (.dK ks))
  | _ => False

/-! ### == -/
mutual
theorem RepV.dp {K : PySem.W.Frag} : ∀ {d : D} {v : V} {p : PyData}, RepV K mg φ ex H d v → toPy d = some p → Dp K H v p
  | _, _, _, .non, e => by cases e; exact .non
  | _, _, _, .bl b, e => by cases e; exact .bl b
  | _, _, _, .int b, e => by cases e; exact .int b
  | _, _, _, .str b, e => by cases e; exact .str b
  | _, _, _, .tup h r, e => by
    simp only [toPy, Option.map_eq_some_iff] at e
    obtain ⟨ps, e1, rfl⟩ := e
    exact .tup h.sq (RepVs.dp r e1)
  | _, _, _, .lst h r, e => by
    simp only [toPy, Option.map_eq_some_iff] at e
    obtain ⟨ps, e1, rfl⟩ := e
    exact .lst h.sq (RepVs.dp r e1)
  | _, _, _, .dct _ _ _, e => by simp [toPy] at e
  | _, _, _, .ref _, e => by simp [toPy] at e
  | _, _, _, .fn _, e => by simp [toPy] at e
theorem RepVs.dp {K : PySem.W.Frag} : ∀ {ds : List D} {vs : List V} {ps : List PyData}, RepVs K mg φ ex H ds vs → toPys ds = some ps → DpAll K H vs ps
  | _, _, _, .nil, e => by cases e; exact .nil
  | _, _, _, .cons (d := d) (ds := ds) h r, e => by
    simp only [toPys] at e
    cases e1 : toPy d with
    | none => rw [e1] at e; cases e
    | some x =>
      cases e2 : toPys ds with
      | none => rw [e1, e2] at e; cases e
      | some xs =>
        rw [e1, e2] at e
        cases e
        exact .cons (RepV.dp h e1) (RepVs.dp r e2)
end
theorem CV.dp {K : PySem.W.Frag} {d : D} {v : V} {p : PyData} (h : CV K mg φ ex H d v) (e : toPy d = some p) : Dp K H v p := by
  cases d with
  | tup ds => exact RepV.dp h e
  | lst ds =>
    obtain ⟨a, vs, rfl, hq, r⟩ := h
    simp only [toPy, Option.map_eq_some_iff] at e
    obtain ⟨ps, e1, rfl⟩ := e
    exact .lst hq (r.dp e1)
  | dct kvs => simp [toPy] at e
  | ref n => simp [toPy] at e
  | fn n => simp [toPy] at e
  | non => exact RepV.dp h e
  | bl b => exact RepV.dp h e
  | int i => exact RepV.dp h e
  | str x => exact RepV.dp h e

theorem deq_rule (neg : Bool) {a b : D} {v u : V} {r : Bool} (hu : X.A.units + 64 < cLine) (ha : CV X.K mg φ ex H a v) (hb : CV X.K mg φ ex H b u) (e : deq a b = some r) (Q : VK) (q : Q (.bl (if neg then !r else r)) H) :
    anyR X (compareOp (if neg then .NotEq else .Eq)) v u H Q := by
  have gen : ∀ x y, toPy a = some x → toPy b = some y → SeqAt.shaped x = true → SeqAt.shaped y = true → r = PyData.eqv x y → anyR X (compareOp (if neg then .NotEq else .Eq)) v u H Q := fun x y e1 e2 s1 s2 er => by
    subst er
    cases neg with
    | false => exact ⟨_, op_eqD hu, x, y, ha.dp e1, hb.dp e2, s1, s2, q⟩
    | true => exact ⟨_, op_neD hu, x, y, ha.dp e1, hb.dp e2, s1, s2, q⟩
  have flat : ∀ x y : V, v = x → u = y → scal x y = true → decide (x = y) = r → anyR X (compareOp (if neg then .NotEq else .Eq)) v u H Q := fun x y e1 e2 s er => by
    subst e1 e2 er
    cases neg with
    | false => exact ⟨_, op_eq, s, q⟩
    | true => exact ⟨_, op_ne, s, q⟩
  have rest : (match toPy a, toPy b with
    | some x, some y => if SeqAt.shaped x = true ∧ SeqAt.shaped y = true then some (PyData.eqv x y) else none
    | _, _ => none) = some r → anyR X (compareOp (if neg then .NotEq else .Eq)) v u H Q := fun e => by
    cases e1 : toPy a with
    | none => rw [e1] at e; cases e
    | some x =>
      cases e2 : toPy b with
      | none => rw [e1, e2] at e; cases e
      | some y =>
        rw [e1, e2] at e
        dsimp only at e
        split at e
        · rename_i hs
          exact gen x y e1 e2 hs.1 hs.2 (Option.some.inj e).symm
        · cases e
  unfold deq at e
  split at e
  · cases e
    rename_i i j
    exact flat _ _ (RepV.toInt ha) (RepV.toInt hb) rfl (by simp)
  · cases e
    rename_i i j
    exact flat _ _ (RepV.toStr ha) (RepV.toStr hb) rfl (by simp)
  · cases e
    rename_i i j
    exact flat _ _ (RepV.toBl ha) (RepV.toBl hb) rfl (by simp)
  · cases e
    exact flat _ _ (RepV.toNon ha) (RepV.toNon hb) rfl (by simp)
  · exact rest e

/-! ### + - * // % ** -/
theorem tup_inv {K : PySem.W.Frag} {ds : List D} {v : V} (h : RepV K mg φ ex H (.tup ds) v) : ∃ a vs, v = .ref a ∧ FzT K ex H a vs ∧ RepVs K mg φ ex H ds vs := by
  cases h with
  | tup h r => exact ⟨_, _, rfl, h, r⟩
theorem bop_rule {o : BO} {a b : D} {v u : V} {r : Op} {Q : VK} (ha : CV X.K mg φ ex H a v) (hb : CV X.K mg φ ex H b u) (e : bopD o a b = some r) (q : Res X.K mg φ ex H r Q) :
    anyR X (binaryOp (opOf o)) v u H Q := by
  unfold bopD at e
  split at e
  · cases e
    exact ⟨_, op_add, _, _, RepV.toInt ha, RepV.toInt hb, q.1 _ (.int _)⟩
  · cases e
    exact ⟨_, op_sub, _, _, RepV.toInt ha, RepV.toInt hb, q.1 _ (.int _)⟩
  · split at e
    · rename_i hm
      cases e
      rcases hm with hm | hm
      · exact ⟨_, op_mul, _, _, RepV.toInt ha, RepV.toInt hb, hm, q.1 _ (.int _)⟩
      · exact ⟨_, op_mulW, _, _, RepV.toInt ha, RepV.toInt hb, hm, q.1 _ (.int _)⟩
    · cases e
  · split at e
    · rename_i hm
      cases e
      exact ⟨_, op_fdivW, _, _, RepV.toInt ha, RepV.toInt hb, hm, q.1 _ (.int _)⟩
    · cases e
  · split at e
    · rename_i hm
      cases e
      exact ⟨_, op_mod, _, _, RepV.toInt ha, RepV.toInt hb, hm, q.1 _ (.int _)⟩
    · cases e
  · split at e
    · rename_i hm
      cases e
      exact ⟨_, op_pow, _, _, RepV.toInt ha, RepV.toInt hb, hm, q.1 _ (.int _)⟩
    · cases e
  · split at e
    · rename_i hm
      cases e
      exact ⟨_, op_add_str, _, _, RepV.toStr ha, RepV.toStr hb, hm, q.1 _ (.str _)⟩
    · cases e
  · split at e
    · rename_i hm
      cases e
      obtain ⟨l, vs, rfl, h1, r1⟩ := ha
      obtain ⟨m, us, rfl, h2, r2⟩ := hb
      exact ⟨_, op_catS, l, m, vs, us, rfl, rfl, h1, h2, by rw [← r1.length, ← r2.length]; exact hm, fun p hp => q _ p (r1.app r2) hp⟩
    · cases e
  · split at e
    · rename_i hm
      cases e
      obtain ⟨l, vs, rfl, h1, r1⟩ := tup_inv ha
      obtain ⟨m, us, rfl, h2, r2⟩ := tup_inv hb
      refine ⟨_, op_catA, l, m, vs, us, rfl, rfl, h1.sq, h2.sq, by rw [← r1.length, ← r2.length]; exact hm, fun z => q.1 _ ?_, fun _ z => q.1 _ ?_, fun _ _ p hp => q.2 _ p (r1.app r2) hp⟩
      · subst z
        cases r1
        exact .tup h2 r2
      · subst z
        cases r2
        rw [List.append_nil]
        exact .tup h1 r1
    · cases e
  · cases e

/-! ### comparisons -/
theorem flat_eqV {K : PySem.W.Frag} {x y : D} {v u : V} (hx : RepV K mg φ ex H x v) (hy : RepV K mg φ ex H y u) (fx : flatD x = true) (fy : flatD y = true) : flatV v = true ∧ flatV u = true ∧ eqV v u = feq x y := by
  cases hx <;> first
    | (cases fx; done)
    | (cases hy <;> first
        | (cases fy; done)
        | exact ⟨rfl, rfl, rfl⟩)
theorem mem_flat {K : PySem.W.Frag} {x : D} {v : V} (hx : RepV K mg φ ex H x v) (fx : flatD x = true) : ∀ {ds : List D} {vs : List V}, RepVs K mg φ ex H ds vs → ds.all flatD = true →
    vs.all flatV = true ∧ inV v vs = ds.any fun y => feq y x
  | _, _, .nil, _ => ⟨rfl, rfl⟩
  | _, _, .cons h r, e => by
    rw [List.all_cons, Bool.and_eq_true] at e
    obtain ⟨h1, h2⟩ := mem_flat hx fx r e.2
    obtain ⟨k1, k2, k3⟩ := flat_eqV h hx e.1 fx
    refine ⟨by rw [List.all_cons, k1, h1]; rfl, ?_⟩
    unfold inV at h2 ⊢
    rw [List.any_cons, List.any_cons, k3, h2]
theorem flat_flatV {K : PySem.W.Frag} {x : D} {v : V} (hx : RepV K mg φ ex H x v) (fx : flatD x = true) : flatV v = true := by
  cases hx <;> first
    | rfl
    | cases fx
theorem op_inTupD (neg : Bool) (hu : X.A.units + 65 < cLine) : OpR X (compareOp (if neg then .NotIn else .In)) (fun x y H Q => ∃ d ds, Dp X.K H x d ∧ Dp X.K H y (.tuple ds) ∧ SeqAt.shaped d = true ∧ SeqAt.shaped (.list ds) = true ∧ Q (.bl (if neg then !ds.any fun z => PyData.eqv z d else ds.any fun z => PyData.eqv z d)) H) := by
  intro pins s σ H x y v u Q I rx ry ⟨d, ds, hd, he, sd, se, q⟩
  obtain ⟨as, r1⟩ := Dp.reads I d x v hd rx
  obtain ⟨bs, r2⟩ := Dp.reads I (.tuple ds) y u he ry
  have hc : PyData.canLay0 (.tuple ds) = true := SeqAt.canLay_of_shaped (d := .list ds) se
  cases neg with
  | false => exact SeqAt.in_tuple_reads r2 r1 hc (SeqAt.canLay_of_shaped sd) (room_in_shaped sd hu) ⟨.bl _, H, I, rfl, q⟩
  | true => exact SeqAt.notIn_tuple_reads r2 r1 hc (SeqAt.canLay_of_shaped sd) (room_in_shaped sd hu) ⟨.bl _, H, I, rfl, q⟩
theorem pyIn_rule (neg : Bool) {x : D} {v u : V} {ds : List D} {r : Bool} {Q : VK} (hu : X.A.units + 65 < cLine) (hx : RepV X.K mg φ ex H x v ∨ ∀ p, toPy x = some p → Dp X.K H v p) (hx2 : flatD x = true → RepV X.K mg φ ex H x v)
    (a : Addr) (vs : List V) (eu : u = .ref a) (hs : SqL X.K H a vs ∨ SqT X.K H a vs) (rs : RepVs X.K mg φ ex H ds vs) (e : pyIn x ds = some r) (q : Q (.bl (if neg then !r else r)) H) :
    anyR X (compareOp (if neg then .NotIn else .In)) v u H Q := by
  have hdp : ∀ p, toPy x = some p → Dp X.K H v p := fun p ep => hx.elim (fun h => h.dp ep) fun h => h p ep
  subst eu
  unfold pyIn at e
  cases em : memD x ds with
  | some b =>
    rw [em] at e
    cases e
    unfold memD at em
    split at em
    · rename_i hf
      rw [Bool.and_eq_true] at hf
      cases em
      obtain ⟨h1, h2⟩ := mem_flat (hx2 hf.1) hf.1 rs hf.2
      have hv := flat_flatV (hx2 hf.1) hf.1
      cases neg with
      | false => exact ⟨_, op_in_seq, a, vs, rfl, hs, hv, h1, by rw [h2]; exact q⟩
      | true => exact ⟨_, op_notIn_seq, a, vs, rfl, hs, hv, h1, by rw [h2]; exact q⟩
    · cases em
  | none =>
    rw [em] at e
    dsimp only at e
    cases e1 : toPy x with
    | none => rw [e1] at e; cases e
    | some p =>
      cases e2 : toPys ds with
      | none => rw [e1, e2] at e; cases e
      | some ps =>
        rw [e1, e2] at e
        dsimp only at e
        split at e
        · rename_i hc
          cases e
          rcases hs with hs | hs
          · cases neg with
            | false => exact ⟨_, op_inD hu, p, ps, hdp p e1, .lst hs (rs.dp e2), hc.1, hc.2, q⟩
            | true => exact ⟨_, op_notInD hu, p, ps, hdp p e1, .lst hs (rs.dp e2), hc.1, hc.2, q⟩
          · exact ⟨_, op_inTupD neg hu, p, ps, hdp p e1, .tup hs (rs.dp e2), hc.1, hc.2, q⟩
        · cases e
theorem CV.flat {K : PySem.W.Frag} {x : D} {v : V} (h : CV K mg φ ex H x v) (f : flatD x = true) : RepV K mg φ ex H x v := by
  cases x <;> first
    | exact h
    | cases f
theorem CV.key {K : PySem.W.Frag} {x : D} {v : V} (h : CV K mg φ ex H x v) (f : isKey x = true) : RepV K mg φ ex H x v := by
  cases x <;> first
    | exact h
    | cases f
theorem in_rule (neg : Bool) {x y : D} {v u : V} {r : Bool} {Q : VK} (hu : X.A.units + 65 < cLine) (hx : CV X.K mg φ ex H x v) (hy : CV X.K mg φ ex H y u) (e : inD x y = some r) (q : Q (.bl (if neg then !r else r)) H) :
    anyR X (compareOp (if neg then .NotIn else .In)) v u H Q := by
  unfold inD at e
  split at e
  · obtain ⟨a, vs, rfl, h1, r1⟩ := hy
    exact pyIn_rule neg hu (.inr fun p ep => hx.dp ep) hx.flat a vs rfl (.inl h1) r1 e q
  · obtain ⟨a, vs, rfl, h1, r1⟩ := tup_inv hy
    exact pyIn_rule neg hu (.inr fun p ep => hx.dp ep) hx.flat a vs rfl (.inr h1.sq) r1 e q
  · split at e
    · rename_i hk
      cases e
      obtain ⟨a, ks, rfl, h1, r1⟩ := hy
      obtain ⟨k', ek⟩ := isKey_to hk
      have hv := toKey_kV ek (hx.key hk)
      have h2 := (r1.get ek).2.1
      have g : DGet H a v (valV ks k') := .inl ⟨ks, k', h1, hv, rfl⟩
      cases neg with
      | false => exact ⟨_, op_inDict (by omega), a, _, rfl, g, by rw [← h2]; exact q⟩
      | true => exact ⟨_, op_notInDict (by omega), a, _, rfl, g, by rw [← h2]; exact q⟩
    · cases e
  · split at e
    · rename_i z _ y
      split at e
      · rename_i c hc
        cases e
        have hv := RepV.toStr hx
        have hz := RepV.toStr hy
        have hy2 : y = ⟨#[c]⟩ := by
          obtain ⟨cps⟩ := y
          have : cps = [c].toArray := by rw [← hc]
          rw [this]
        rw [hy2] at hv
        cases neg with
        | false => exact ⟨_, op_in_sign, c, z, hv, hz, q⟩
        | true => exact ⟨_, op_notIn_sign, c, z, hv, hz, q⟩
      · cases e
    · cases e
  · cases e
theorem ne_non {K : PySem.W.Frag} {a : D} {v : V} (h : CV K mg φ ex H a v) : decide (v = .non) = isNon a := by
  cases a with
  | lst ds => obtain ⟨a, vs, rfl, _⟩ := h; rfl
  | dct ds => obtain ⟨a, vs, rfl, _⟩ := h; rfl
  | non => cases RepV.toNon h; rfl
  | bl b => cases RepV.toBl h; rfl
  | int i => cases RepV.toInt h; rfl
  | str x => cases RepV.toStr h; rfl
  | tup ds => obtain ⟨a, vs, rfl, _⟩ := tup_inv h; rfl
  | ref n => cases h; rfl
  | fn n => cases h; rfl
theorem cmp_rule {o : CO} {a b : D} {v u : V} {r : Bool} {Q : VK} (hu : X.A.units + 65 < cLine) (ha : CV X.K mg φ ex H a v) (hb : CV X.K mg φ ex H b u) (e : cmpD o a b = some r) (q : Q (.bl r) H) :
    anyR X (compareOp (copOf o)) v u H Q := by
  unfold cmpD at e
  split at e
  · exact deq_rule false (by omega) ha hb e Q q
  · simp only [Option.map_eq_some_iff] at e
    obtain ⟨r', e, rfl⟩ := e
    exact deq_rule true (by omega) ha hb e Q q
  · cases e
    exact ⟨_, op_lt, _, _, RepV.toInt ha, RepV.toInt hb, q⟩
  · cases e
    exact ⟨_, op_le, _, _, RepV.toInt ha, RepV.toInt hb, q⟩
  · cases e
    exact ⟨_, op_gt, _, _, RepV.toInt ha, RepV.toInt hb, q⟩
  · cases e
    exact ⟨_, op_ge, _, _, RepV.toInt ha, RepV.toInt hb, q⟩
  · cases e
    refine ⟨_, op_isN, RepV.toNon hb, ?_⟩
    rw [ne_non ha]
    exact q
  · cases e
    refine ⟨_, op_notN, RepV.toNon hb, ?_⟩
    rw [ne_non ha]
    exact q
  · exact in_rule false hu ha hb e q
  · simp only [Option.map_eq_some_iff] at e
    obtain ⟨r', e, rfl⟩ := e
    exact in_rule true hu ha hb e q
  · cases e

/-! ### items, slices -/
theorem atI_rep {K : PySem.W.Frag} {ds : List D} {vs : List V} {i : Int} {r : D} (h : RepVs K mg φ ex H ds vs) (e : atI ds i = some r) : ∃ w, atI vs i = some w ∧ RepV K mg φ ex H r w := by
  unfold atI at e ⊢
  rw [← h.length]
  cases q : ixN ds.length i with
  | none => rw [q] at e; cases e
  | some j =>
    rw [q] at e
    exact h.get e
theorem sub_rule {a k : D} {v u : V} {r : D} {Q : VK} (hu : X.A.units + 1 < cLine) (ha : CV X.K mg φ ex H a v) (hk : RepV X.K mg φ ex H k u) (e : subD a k = some r) (q : ∀ w, RepV X.K mg φ ex H r w → Q w H) : anyI X v u H Q := by
  unfold subD at e
  split at e
  · obtain ⟨p, vs, rfl, h1, r1⟩ := tup_inv ha
    obtain ⟨w, e1, e2⟩ := atI_rep r1 e
    exact ⟨_, ix_tup, p, vs, _, w, rfl, hk.toInt, h1.sq, e1, q w e2⟩
  · obtain ⟨p, vs, rfl, h1, r1⟩ := ha
    obtain ⟨w, e1, e2⟩ := atI_rep r1 e
    exact ⟨_, ix_list, p, vs, _, w, rfl, hk.toInt, h1, e1, q w e2⟩
  · split at e
    · rename_i hz
      simp only [Option.map_eq_some_iff] at e
      obtain ⟨c, e1, rfl⟩ := e
      exact ⟨_, ix_str, _, _, c, RepV.toStr ha, hk.toInt, hz, e1, q _ (.str _)⟩
    · cases e
  · split at e
    · rename_i hz
      obtain ⟨p, ks, rfl, h1, r1⟩ := ha
      obtain ⟨k', ek⟩ := isKey_to hz
      obtain ⟨w, e1, e2⟩ := (r1.get ek).1 r e
      exact ⟨_, ix_dict hu, p, w, rfl, .inl ⟨ks, k', h1, toKey_kV ek hk, e1.symm⟩, q w e2⟩
    · cases e
  · cases e
theorem cut_rep {K : PySem.W.Frag} {ds : List D} {vs : List V} {lo hi : Option Int} (h : RepVs K mg φ ex H ds vs) : RepVs K mg φ ex H (cutD ds lo hi) (cutV vs lo hi) := by
  unfold cutD cutV
  rw [h.length]
  exact (h.drop _).take _
theorem cut_all {ds : List D} {lo hi : Option Int} (h : HT.sIx ds.length 0 lo = 0 ∧ HT.sIx ds.length ds.length hi = ds.length) : cutD ds lo hi = ds := by
  unfold cutD
  rw [h.1, h.2]
  simp
theorem slc_rule {a : D} {v : V} {lo hi : Option Int} {r : Op} {Q : VK} (ha : CV X.K mg φ ex H a v) (e : slcD a lo hi = some r) (q : Res X.K mg φ ex H r Q) : anyS X v lo hi H Q := by
  unfold slcD at e
  split at e
  · split at e
    · rename_i hz
      cases e
      exact ⟨_, sl_str, _, RepV.toStr ha, hz, q.1 _ (.str _)⟩
    · cases e
  · cases e
    obtain ⟨p, vs, rfl, h1, r1⟩ := ha
    exact ⟨_, sl_list, p, vs, rfl, h1, fun p hp => q _ p (cut_rep r1) hp⟩
  · cases e
    obtain ⟨p, vs, rfl, h1, r1⟩ := tup_inv ha
    refine ⟨_, sl_tupA, p, vs, rfl, h1.sq, fun z => q.1 _ ?_, fun z p hp => q.2 _ p (cut_rep r1) hp⟩
    rw [← r1.length] at z
    rw [cut_all z]
    exact ha
  · cases e

/-! ### built-in functions -/
theorem isort_eq {ns ns' : List Int} (hp : ns'.Perm ns) (hs : ns'.Pairwise (· ≤ ·)) : ns' = isort ns := by
  have h1 : (isort ns).Perm ns := List.mergeSort_perm ns _
  have h2 : (isort ns).Pairwise (· ≤ ·) := by
    have := List.pairwise_mergeSort (le := fun a b : Int => decide (a ≤ b)) (fun a b c h1 h2 => by simp at *; omega) (fun a b => by simp; omega) ns
    exact this.imp fun h => by simpa using h
  exact List.Perm.eq_of_pairwise (fun x y _ _ a b => Int.le_antisymm a b) hs h2 (hp.trans h1.symm)
theorem minI_mem : ∀ (n : Int) (r : List Int), minI (n :: r) ∈ n :: r ∧ ∀ y ∈ n :: r, minI (n :: r) ≤ y
  | n, [] => ⟨by simp [minI], fun y hy => by simp only [List.mem_singleton] at hy; rw [hy]; exact Int.le_refl _⟩
  | n, m :: r => by
    obtain ⟨h1, h2⟩ := minI_mem m r
    have e : minI (n :: m :: r) = min n (minI (m :: r)) := rfl
    refine ⟨?_, fun y hy => ?_⟩
    · rw [e]
      by_cases z : n ≤ minI (m :: r)
      · rw [Int.min_eq_left z]
        exact List.mem_cons_self
      · rw [Int.min_eq_right (by omega)]
        exact List.mem_cons_of_mem _ h1
    · rw [e]
      rcases List.mem_cons.mp hy with z | z
      · rw [z]; omega
      · have := h2 y z; omega
theorem maxI_mem : ∀ (n : Int) (r : List Int), maxI (n :: r) ∈ n :: r ∧ ∀ y ∈ n :: r, y ≤ maxI (n :: r)
  | n, [] => ⟨by simp [maxI], fun y hy => by simp only [List.mem_singleton] at hy; rw [hy]; exact Int.le_refl _⟩
  | n, m :: r => by
    obtain ⟨h1, h2⟩ := maxI_mem m r
    have e : maxI (n :: m :: r) = max n (maxI (m :: r)) := rfl
    refine ⟨?_, fun y hy => ?_⟩
    · rw [e]
      by_cases z : maxI (m :: r) ≤ n
      · rw [Int.max_eq_left z]
        exact List.mem_cons_self
      · rw [Int.max_eq_right (by omega)]
        exact List.mem_cons_of_mem _ h1
    · rw [e]
      rcases List.mem_cons.mp hy with z | z
      · rw [z]; omega
      · have := h2 y z; omega
/-- a built-in's value, by the function -/
def bfVal : BF → Option Value
  | .len => some (.builtin "len") | .list => some (.type "list") | .tuple => some (.type "tuple") | .dict => some (.type "dict") | .sum => some (.builtin "sum") | .min => some (.builtin "min") | .max => some (.builtin "max")
  | .any => some (.builtin "any") | .all => some (.builtin "all") | .sorted => some (.builtin "sorted") | .int => some (.type "int") | .abs => some (.builtin "abs") | _ => none
theorem call_lenD' {X : Cx} : CallR X (.builtin "len") (fun xs H Q => ∃ d kvs, xs = [.ref d] ∧ Rd H d (.dK kvs) ∧ Q (.int kvs.length) H) := by
  intro pins s σ H xs us Q I r ⟨d, kvs, ex, hd, q⟩
  subst ex
  obtain ⟨u, rfl, ru⟩ := vals1 r
  obtain rfl : u = Value.ref d := ru
  exact d_len I hd fun t s' I' => ⟨.int kvs.length, H, I', ⟨t, rfl⟩, q⟩
theorem bf_rule {f : BF} {a : D} {v : V} {r : Op} {Q : VK} {fv : Value} (hc : X.calm = true) (hf : bfVal f = some fv) (ha : CV X.K mg φ ex H a v) (e : bfD f a = some r) (q : Res X.K mg φ ex H r Q) : anyC X fv [v] H Q := by
  unfold bfD at e
  split at e
  · cases hf
    simp only [Option.map_eq_some_iff] at e
    obtain ⟨n, e1, rfl⟩ := e
    have qq := q.1 _ (.int n)
    unfold lenD at e1
    split at e1
    · cases e1
      obtain ⟨p, vs, rfl, h1, r1⟩ := tup_inv ha
      exact ⟨_, call_len_seq, p, vs, rfl, .inr h1.sq, by rw [← r1.length]; exact qq⟩
    · cases e1
      obtain ⟨p, vs, rfl, h1, r1⟩ := ha
      exact ⟨_, call_len_seq, p, vs, rfl, .inl h1, by rw [← r1.length]; exact qq⟩
    · cases e1
      obtain ⟨p, ks, rfl, h1, r1⟩ := ha
      exact ⟨_, call_lenD', p, ks, rfl, h1, by rw [← r1.length]; exact qq⟩
    · split at e1
      · rename_i hz
        cases e1
        exact ⟨_, call_len_str, _, congrArg (fun z => [z]) (RepV.toStr ha), hz, qq⟩
      · cases e1
    · cases e1
  · cases hf
    cases e
    obtain ⟨p, vs, rfl, h1, r1⟩ := tup_inv ha
    exact ⟨_, call_list_of, p, vs, rfl, .inr h1.sq, fun l hl => q _ l r1 hl⟩
  · cases hf
    cases e
    obtain ⟨p, vs, rfl, h1, r1⟩ := ha
    exact ⟨_, call_list_of, p, vs, rfl, .inl h1, fun l hl => q _ l r1 hl⟩
  · cases hf
    cases e
    obtain ⟨p, ks, rfl, h1, r1⟩ := ha
    exact ⟨_, call_listD hc, p, ks, rfl, h1, fun l hl => q _ l r1.keys hl⟩
  · cases hf
    cases e
    obtain ⟨p, vs, rfl, h1, r1⟩ := tup_inv ha
    exact ⟨_, call_tuple_of, p, vs, rfl, .inr ⟨h1.sq, q.1 _ (.tup h1 r1)⟩⟩
  · cases hf
    cases e
    obtain ⟨p, vs, rfl, h1, r1⟩ := ha
    exact ⟨_, call_tuple_of, p, vs, rfl, .inl ⟨h1, fun l hl => q.2 _ l r1 hl⟩⟩
  · cases hf
    cases e
    obtain ⟨p, ks, rfl, h1, r1⟩ := ha
    exact ⟨_, call_dictD, p, ks, rfl, h1, fun l hl => q _ l r1 hl⟩
  · cases hf
    simp only [Option.map_eq_some_iff] at e
    obtain ⟨ns, e1, rfl⟩ := e
    obtain ⟨p, vs, rfl, h1, r1⟩ := ha
    have ev := r1.ofInts e1
    subst ev
    exact ⟨_, cr_sum hc, p, ns, rfl, h1, q.1 _ (.int _)⟩
  · cases hf
    obtain ⟨p, vs, rfl, h1, r1⟩ := ha
    split at e
    · rename_i n t e1
      cases e
      have ev := r1.ofInts e1
      subst ev
      refine ⟨_, cr_min hc, p, n :: t, rfl, h1, Nat.succ_pos _, fun m hm hl => ?_⟩
      obtain ⟨k1, k2⟩ := minI_mem n t
      rw [Int.le_antisymm (hl _ k1) (k2 _ hm)]
      exact q.1 _ (.int _)
    · cases e
  · cases hf
    obtain ⟨p, vs, rfl, h1, r1⟩ := ha
    split at e
    · rename_i n t e1
      cases e
      have ev := r1.ofInts e1
      subst ev
      refine ⟨_, cr_max hc, p, n :: t, rfl, h1, Nat.succ_pos _, fun m hm hl => ?_⟩
      obtain ⟨k1, k2⟩ := maxI_mem n t
      rw [Int.le_antisymm (k2 _ hm) (hl _ k1)]
      exact q.1 _ (.int _)
    · cases e
  · cases hf
    simp only [Option.map_eq_some_iff] at e
    obtain ⟨ns, e1, rfl⟩ := e
    obtain ⟨p, vs, rfl, h1, r1⟩ := ha
    have ev := r1.ofBls e1
    subst ev
    exact ⟨_, cr_any hc, p, ns, rfl, h1, q.1 _ (.bl _)⟩
  · cases hf
    simp only [Option.map_eq_some_iff] at e
    obtain ⟨ns, e1, rfl⟩ := e
    obtain ⟨p, vs, rfl, h1, r1⟩ := ha
    have ev := r1.ofBls e1
    subst ev
    exact ⟨_, cr_all hc, p, ns, rfl, h1, q.1 _ (.bl _)⟩
  · cases hf
    simp only [Option.map_eq_some_iff] at e
    obtain ⟨ns, e1, rfl⟩ := e
    obtain ⟨p, vs, rfl, h1, r1⟩ := ha
    have ev := r1.ofInts e1
    subst ev
    refine ⟨_, cr_sortedI, p, ns, rfl, h1, fun ns' l hp hs hl => ?_⟩
    rw [isort_eq hp hs]
    exact q _ l (RepVs.ints _) hl
  · cases hf
    cases e
    exact ⟨_, call_int1, .inl ⟨_, congrArg (fun z => [z]) (RepV.toInt ha), q.1 _ (.int _)⟩⟩
  · cases hf
    cases e
    exact ⟨_, call_int1, .inr ⟨_, congrArg (fun z => [z]) (RepV.toBl ha), q.1 _ (.int _)⟩⟩
  · cases hf
    cases e
    exact ⟨_, call_abs, _, congrArg (fun z => [z]) (RepV.toInt ha), q.1 _ (.int _)⟩
  · cases hf
  · cases e
/-! ### isinstance -/
theorem isB_kit : ∀ T ∈ "NoneType" :: tys, ∀ t ∈ tys, kitB T t = isB T t := by decide +kernel
theorem isB_ok {T t : String} {b : Bool} (h : T ∈ "NoneType" :: tys) (e : isB T t = some b) : kitB T t = some b := by
  have ht : t ∈ tys := Classical.byContradiction fun z => by
    unfold isB at e
    rw [if_neg z] at e
    cases e
  rw [isB_kit T h t ht]
  exact e
theorem CV.ty {K : PySem.W.Frag} {a : D} {v : V} {T : String} (h : CV K mg φ ex H a v) (e : tyN a = some T) : TyX K H v (.type T) ∧ T ∈ "NoneType" :: tys := by
  have sq : ∀ {p : Addr} {xs : List V}, v = .ref p → SqT K H p xs → TyX K H v (.type "tuple") := fun {p xs} ev hs => by
    subst ev
    rcases hs with (hs | ⟨o, hs⟩) | ⟨o, its, n, hk, hcl, _⟩
    · exact .base (.tup hs)
    · exact .fTuple hs
    · exact .kTuple hk hcl
  have sl : ∀ {p : Addr} {xs : List V}, v = .ref p → SqL K H p xs → TyX K H v (.type "list") := fun {p xs} ev hs => by
    subst ev
    rcases hs with (hs | ⟨o, hs⟩) | ⟨o, its, n, hk, hcl, _⟩
    · exact .base (.lst hs)
    · exact .base (.frz hs)
    · exact .kList hk hcl
  cases a with
  | non =>
    cases e
    cases RepV.toNon h
    exact ⟨.base .non, by decide⟩
  | bl x =>
    cases e
    cases RepV.toBl h
    exact ⟨.base (.bl x), by decide⟩
  | int x =>
    cases e
    cases RepV.toInt h
    exact ⟨.base (.int x), by decide⟩
  | str x =>
    cases e
    cases RepV.toStr h
    exact ⟨.base (.str x), by decide⟩
  | tup ds =>
    cases e
    obtain ⟨p, vs, ev, h1, r1⟩ := tup_inv h
    exact ⟨sq ev h1.sq, by decide⟩
  | lst ds =>
    cases e
    obtain ⟨p, vs, ev, h1, r1⟩ := h
    exact ⟨sl ev h1, by decide⟩
  | dct ds =>
    cases e
    obtain ⟨p, vs, ev, h1, r1⟩ := h
    subst ev
    refine ⟨?_, by decide⟩
    rcases h1 with h1 | ⟨o, h1⟩
    · exact .base (.dK h1)
    · exact .fDict h1
  | ref n => cases e
  | fn n => cases e
theorem isa_rule {a : D} {v : V} {t : String} {b : Bool} {Q : VK} (h : CV X.K mg φ ex H a v) (e : isaD t a = some b) (q : Q (.bl b) H) : anyC X (.builtin "isinstance") [v, .ty t] H Q := by
  unfold isaD at e
  cases et : tyN a with
  | none => rw [et] at e; cases e
  | some T =>
    rw [et] at e
    obtain ⟨h1, h2⟩ := h.ty et
    exact ⟨_, call_isi, v, .ty t, .type T, .type t, b, rfl, .ty t, h1, kit_ty (isB_ok h2 e), q⟩
def bf2Val : BF → Option Value
  | .max2 => some (.builtin "max") | .min2 => some (.builtin "min") | _ => none
theorem bf2_rule {f : BF} {a b : D} {v u : V} {r : Op} {Q : VK} {fv : Value} (hc : X.calm = true) (hf : bf2Val f = some fv) (ha : CV X.K mg φ ex H a v) (hb : CV X.K mg φ ex H b u) (e : bf2D f a b = some r) (q : Res X.K mg φ ex H r Q) : anyC X fv [v, u] H Q := by
  unfold bf2D at e
  split at e
  · cases hf
    cases e
    cases RepV.toInt ha
    cases RepV.toInt hb
    exact ⟨_, call_max2 hc, _, _, rfl, q.1 _ (.int _)⟩
  · cases hf
    cases e
    cases RepV.toInt ha
    cases RepV.toInt hb
    exact ⟨_, call_min2 hc, _, _, rfl, q.1 _ (.int _)⟩
  · cases e
end
end Sk

/-! Sk4: the compact text against the model's; expressions. -/
namespace Sk
open PySem PySem.Spec PyProof.Rows L2

/-! ### methods of built-in types -/
def anyM (X : Cx) (id : String) : V → List V → Hp → VK → Prop := fun x xs H Q => ∃ r, MtR X id r ∧ r x xs H Q
theorem mt_any (X : Cx) (id : String) : MtR X id (anyM X id) := fun pins s σ H x xs v us Q I rx rs ⟨_, o, q⟩ => o pins s σ H x xs v us Q I rx rs q
def mtName : MF → Str
  | .append => "append" | .pop => "pop" | .popAt => "pop" | .insert => "insert" | .extend => "extend" | .get2 => "get" | .join => "join" | .index => "index" | .clear => "clear"
def mtT : MF → String
  | .get2 => "dict" | .join => "str" | .index => "str" | _ => "list"
def mtId : MF → String
  | .append => "list.append" | .pop => "list.pop" | .popAt => "list.pop" | .insert => "list.insert" | .extend => "list.extend" | .get2 => "dict.get" | .join => "str.join" | .index => "str.index" | .clear => "list.clear"
theorem mt_info (m : MF) : PlainAttrs (mtT m) ∧ Slot (mtT m) (mtName m) (mtId m) ∧ typeOf (.builtin (mtId m)) = pure (.type "method_descriptor") := by
  cases m
  · exact ⟨PySem.F.plainAttrs_list, PySem.F.slot_list_append, PySem.F.type_list_append⟩
  · exact ⟨PySem.F.plainAttrs_list, PySem.F.slot_list_pop, PySem.F.type_list_pop⟩
  · exact ⟨PySem.F.plainAttrs_list, PySem.F.slot_list_pop, PySem.F.type_list_pop⟩
  · exact ⟨PySem.F.plainAttrs_list, PySem.F.slot_list_insert, PySem.F.type_list_insert⟩
  · exact ⟨PySem.F.plainAttrs_list, PySem.F.slot_list_extend, PySem.F.type_list_extend⟩
  · exact ⟨PySem.F.plainAttrs_dict, PySem.F.slot_dict_get, PySem.F.type_dict_get⟩
  · exact ⟨PySem.F.plainAttrs_str, PySem.F.slot_str_join, PySem.F.type_str_join⟩
  · exact ⟨PySem.F.plainAttrs_str, PySem.F.slot_str_index, PySem.F.type_str_index⟩
  · exact ⟨PySem.F.plainAttrs_list, PySem.F.slot_list_clear, PySem.F.type_list_clear⟩
section
variable {X : Cx} {φ : List Addr} {ex : Addr → Prop} {H : Hp} {mg : Str → Option Value}
theorem mt_sindex : MtR X "str.index" (fun x xs H Q => ∃ (a b : Str) (k : Nat), x = .str a ∧ xs = [.str b] ∧ Txt.index0 a b = some k ∧ Q (.int k) H) := by
  intro pins s σ H x xs v us Q I rx rs ⟨a, b, k, ex, ev, hk, q⟩
  subst ex ev
  obtain ⟨t, rfl⟩ := rx
  obtain ⟨u, rfl, ru⟩ := rs.one
  obtain ⟨t', rfl⟩ := ru
  cases h : Builtin.Str.occurrences a b 0 a.length 1 with
  | nil =>
    unfold Txt.index0 at hk
    rw [h] at hk
    cases hk
  | cons j rest =>
    have hj : j = k := by
      unfold Txt.index0 at hk
      rw [h] at hk
      exact Option.some.inj hk
    subst hj
    exact PySem.SC.index h ⟨.int (j : Nat), H, I.tok _, ⟨_, rfl⟩, q⟩

/-- what a method hands back, writes -/
theorem mt_rule {m : MF} {a : D} {es : List D} {v : V} {vs : List V} {r : D × Option D} {Q : VK} (hm : m ≠ .get2) (ha : CV X.K mg φ ex H a v) (he : RepVs X.K mg φ ex H es vs) (e : mtD m a es = some r)
    (q : match r.2 with
      | none => ∀ w, RepV X.K mg φ ex H r.1 w → Q w H
      | some d => ∃ p, v = .ref p ∧ ObjD X.K mg φ ex H p a ∧ ex p ∧ ∀ w ho, RepV X.K mg φ ex H r.1 w → ObjD X.K mg φ ex (upd H p ho) p d → Q w (upd H p ho)) : anyM X (mtId m) v vs H Q := by
  have up : ∀ {p : Addr} {ho : HO}, ex p → Mv φ φ ex ex H (upd H p ho) := fun h => upd_mv h
  unfold mtD at e
  split at e
  · split at e
    · rename_i hl
      cases e
      obtain ⟨p, rfl, ⟨us, h1, r1⟩, hx, q⟩ := q
      cases he with
      | cons h t =>
        cases t
        exact ⟨_, mt_append, p, us, _, rfl, rfl, h1, by rw [← r1.length]; exact hl, q _ _ .non ⟨_, upd_same, (r1.app (.cons h .nil)).mv (up hx)⟩⟩
    · cases e
  · cases he
    simp only [Option.map_eq_some_iff] at e
    obtain ⟨y, e1, rfl⟩ := e
    obtain ⟨p, rfl, ⟨us, h1, r1⟩, hx, q⟩ := q
    rw [List.getLast?_eq_getElem?] at e1
    obtain ⟨w, e2, h2⟩ := r1.get e1
    rw [r1.length] at e2
    exact ⟨_, mt_pop, p, us, w, rfl, rfl, h1, e2, q _ _ h2 ⟨_, upd_same, r1.init.mv (up hx)⟩⟩
  · split at e
    · rename_i hi
      split at e
      · rename_i k hk
        simp only [Option.map_eq_some_iff] at e
        obtain ⟨y, e1, rfl⟩ := e
        obtain ⟨p, rfl, ⟨us, h1, r1⟩, hx, q⟩ := q
        obtain ⟨w, e2, h2⟩ := r1.get e1
        cases he with
        | cons h t =>
          cases t
          cases h.toInt
          exact ⟨_, mt_popAt, p, us, _, k, w, rfl, rfl, h1, hi.1, hi.2, by rw [← r1.length]; exact hk, e2, q _ _ h2 ⟨_, upd_same, (r1.erase k).mv (up hx)⟩⟩
      · cases e
    · cases e
  · split at e
    · rename_i hi
      cases e
      obtain ⟨p, rfl, ⟨us, h1, r1⟩, hx, q⟩ := q
      cases he with
      | cons h t =>
        cases t with
        | cons h2 t2 =>
          cases t2
          cases h.toInt
          refine ⟨_, mt_insert, p, us, _, _, rfl, rfl, h1, by rw [← r1.length]; exact hi.1, hi.2.1, hi.2.2, q _ _ .non ⟨_, upd_same, RepVs.mv (up hx) ?_⟩⟩
          rw [List.append_assoc]
          exact (r1.take _).app (.cons h2 (r1.drop _))
    · cases e
  · cases he
    cases e
    obtain ⟨p, rfl, ⟨us, h1, r1⟩, hx, q⟩ := q
    exact ⟨_, mt_clear, p, us, rfl, rfl, h1, q _ _ .non ⟨_, upd_same, .nil⟩⟩
  · cases he with
    | cons h t =>
      cases t
      simp only [Option.map_eq_some_iff] at e
      obtain ⟨k, e1, rfl⟩ := e
      exact ⟨_, mt_sindex, _, _, k, RepV.toStr ha, congrArg (fun z => [z]) h.toStr, e1, q _ (.int _)⟩
  · exact absurd rfl hm
  · split at e
    · rename_i ss e1
      split at e
      · rename_i hl
        cases e
        cases he with
        | cons h t =>
          cases t
          cases h with
          | lst h r1 =>
            have ev := r1.ofStrs e1
            subst ev
            exact ⟨_, mt_join, _, _, ss, RepV.toStr ha, rfl, .inl h.sq, hl, by rw [TL.join_eq]; exact q _ (.str _)⟩
      · cases e
    · cases e
  · cases e
end

/-! ### the two texts side by side -/
structure Tab where
  G : Str → Option D
  F : Str → Option Fn
  M : Str → Str → Option Str
def okName (x : Str) : Bool := x != ("__debug__" : Str) && x != ("__classdict__" : Str)
def visB (sc : Scope) (x : Str) : Bool := match sc.names.lookup x with
  | some .local => true
  | some .cell => true
  | some .free => true
  | _ => false
def gloB (sc : Scope) (x : Str) : Bool := (match sc.names.lookup x with
  | some .globalImplicit => true
  | _ => false) && okName x && x != ("__name__" : Str)
def bfName : BF → Str
  | .len => "len" | .list => "list" | .tuple => "tuple" | .dict => "dict" | .sum => "sum" | .min => "min" | .max => "max" | .any => "any" | .all => "all" | .sorted => "sorted" | .int => "int" | .abs => "abs"
  | .min2 => "min" | .max2 => "max" | _ => ""
/-- the built-in names that are used -/
def bNames : List Str := ["len", "list", "tuple", "dict", "sum", "min", "max", "any", "all", "sorted", "int", "abs", "isinstance", "range", "enumerate", "zip", "reversed", "set", "str", "bool"]
def plainE : Expr → Bool
  | .Starred .. => false
  | .Slice .. => false
  | _ => true
def noSet : Expr → Bool
  | .Set .. => false
  | _ => true
/-- an expression whose methods are called plainly -/
def recvE : Expr → Bool
  | .Call .. => false
  | .Starred .. => false
  | .Slice .. => false
  | _ => true
def tgN (N : List Str) : Tg → Expr → Bool
  | .one i, .Name x _ => decide (N[i]? = some x)
  | .many is, .Tuple es _ _ => decide (es.length = is.length) && ((is.zip es).all fun p => match p.2 with
    | .Name x _ => decide (N[p.1]? = some x)
    | _ => false)
  | _, _ => false
def tgLoc (sc : Scope) : Expr → Bool
  | .Name x _ => (match sc.names.lookup x with
    | some .local => true
    | some .cell => true
    | _ => false)
  | .Tuple es _ _ => es.all fun e => match e with
    | .Name x _ => (match sc.names.lookup x with
      | some .local => true
      | some .cell => true
      | _ => false)
    | _ => false
  | _ => false
def ownOf (N : List Str) (t : Tg) : List (Str × Nat) := t.ixs.map fun i => (N.getD i "", i)
section
variable (T : Tab)
mutual
def mE (sc : Scope) (N : List Str) : CE → Expr → Bool
  | .var i, e => (match e with
    | .Name x _ => decide (N[i]? = some x) && visB sc x && okName x
    | _ => false)
  | .rd i, e => (match e with
    | .Name x _ => decide (N[i]? = some x) && visB sc x && okName x
    | _ => false)
  | .mv i, e => (match e with
    | .Name x _ => decide (N[i]? = some x) && visB sc x && okName x
    | _ => false)
  | .non, e => (match e with
    | .Constant .none _ _ => true
    | _ => false)
  | .bl b, e => (match e with
    | .Constant (.bool c) _ _ => b == c
    | _ => false)
  | .int i, e => (match e with
    | .Constant (.int j) _ _ => decide (i = j)
    | _ => false)
  | .str x, e => (match e with
    | .Constant (.str y) _ _ => decide (x = y)
    | _ => false)
  | .glo x, e => (match e with
    | .Name y _ => decide (x = y) && gloB sc y
    | _ => false)
  | .tup es, e => (match e with
    | .Tuple l _ _ => mEs sc N es l
    | _ => false)
  | .lst es, e => (match e with
    | .List l _ => mEs sc N es l
    | _ => false)
  | .dis es, e => (match e with
    | .Dict ks vs _ => decide (ks.length = vs.length) && decide (ks.length ≤ 15) && mDs sc N es ks vs
    | _ => false)
  | .bop o a b, e => (match e with
    | .BinOp l op r _ => decide (opOf o = op) && mE sc N a l && mE sc N b r
    | _ => false)
  | .neg a, e => (match e with
    | .UnaryOp .USub x _ => mE sc N a x
    | _ => false)
  | .no a, e => (match e with
    | .UnaryOp .Not x _ => mE sc N a x
    | _ => false)
  | .cmp o a b, e => (match e with
    | .Compare l [op] [r] _ => decide (copOf o = op) && mE sc N a l && mE sc N b r && !behindInMarks op r
    | _ => false)
  | .chn o o' a b c, e => (match e with
    | .Compare l [op, op'] [r, r'] _ => decide (copOf o = op) && decide (copOf o' = op') && mE sc N a l && mE sc N b r && mE sc N c r' && !lastMarks [op, op'] [r, r']
    | _ => false)
  | .and a b, e => (match e with
    | .BoolOp .And [x, y] _ => mE sc N a x && mE sc N b y
    | .BoolOp .And (x :: y :: z :: r) p => mE sc N a x && mE sc N b (.BoolOp .And (y :: z :: r) p)
    | _ => false)
  | .orr a b, e => (match e with
    | .BoolOp .Or [x, y] _ => mE sc N a x && mE sc N b y
    | .BoolOp .Or (x :: y :: z :: r) p => mE sc N a x && mE sc N b (.BoolOp .Or (y :: z :: r) p)
    | _ => false)
  | .ite c a b, e => (match e with
    | .IfExp x y z _ => mE sc N c x && mE sc N a y && mE sc N b z
    | _ => false)
  | .sub a i, e => (match e with
    | .Subscript x y _ => mE sc N a x && mE sc N i y && plainE y
    | _ => false)
  | .slc a lo hi, e => (match e with
    | .Subscript x (.Slice l h none _) _ => mE sc N a x && mO sc N lo l && mO sc N hi h
    | _ => false)
  | .rev a, e => (match e with
    | .Subscript x (.Slice none none (some (.UnaryOp .USub (.Constant (.int i) _ _) _)) _) _ => mE sc N a x && decide (i = 1)
    | _ => false)
  | .bf f a, e => (match e with
    | .Call (.Name x _) [y] [] _ => decide (x = bfName f) && gloB sc x && mE sc N a y && plainE y && (bfVal f).isSome
    | .Call (.Name x _) [y, .Name z _] [] _ => (match f with
      | .isa t => decide (x = "isinstance") && gloB sc x && gloB sc z && decide (z = Str.ofString t) && decide (t ∈ tys) && mE sc N a y && plainE y
      | _ => false)
    | _ => false)
  | .bf2 f a b, e => (match e with
    | .Call (.Name x _) [y, z] [] _ => decide (x = bfName f) && gloB sc x && mE sc N a y && mE sc N b z && plainE y && plainE z && (bf2Val f).isSome
    | _ => false)
  | .mt m o es, e => (match e with
    | .Call (.Attribute x n ap) l [] p => decide (n = mtName m) && (ap.endLine == p.line) && recvE x && mE sc N o x && mEs sc N es l && decide (l.length < 9)
    | _ => false)
  | .call f es, e => (match e with
    | .Call (.Name x _) l [] _ => decide (x = f) && gloB sc x && mEs sc N es l
    | _ => false)
  | .meth _ _ _, _ => false
  | .new _ _, _ => false
  | .attr _ _, _ => false
  | .al c, e => mE sc N c e
  | .lrev c, e => (match e with
    | .Call (.Name x _) [.Call (.Name y _) [z] [] _] [] _ => decide (x = "list") && decide (y = "reversed") && gloB sc x && gloB sc y && mE sc N c z && plainE z
    | _ => false)
  | .lc elt tg it cs, e => (match e with
    | .ListComp x [⟨t, i, ifs, 0⟩] scope _ => mI sc N it i t && tgN N tg t && tgLoc scope t && blkC N sc scope (ownOf N tg) && mE scope N elt x && mCs scope N cs ifs && decide ((tg.ixs).Nodup)
    | _ => false)
def mEs (sc : Scope) (N : List Str) : List CE → List Expr → Bool
  | [], l => l.isEmpty
  | c :: cs, l => (match l with
    | e :: r => mE sc N c e && plainE e && mEs sc N cs r
    | [] => false)
def mDs (sc : Scope) (N : List Str) : List CE → List (Option Expr) → List Expr → Bool
  | [], ks, vs => ks.isEmpty && vs.isEmpty
  | [_], _, _ => false
  | a :: b :: cs, ks, vs => (match ks, vs with
    | some k :: ks, v :: vs => mE sc N a k && mE sc N b v && mDs sc N cs ks vs
    | _, _ => false)
def mO (sc : Scope) (N : List Str) : Option CE → Option Expr → Bool
  | none, e => e.isNone
  | some c, e => (match e with
    | some x => mE sc N c x
    | none => false)
/-- tests -/
def mCs (sc : Scope) (N : List Str) : List CE → List Expr → Bool
  | [], l => l.isEmpty
  | [c], l => (match l with
    | [e] => mE sc N c e
    | _ => false)
  | _, _ => false
def mI (sc : Scope) (N : List Str) : It' → Expr → Expr → Bool
  | .seq c, e, _ => mE sc N c e && plainE e && noSet e
  | .rng c, e, _ => (match e with
    | .Call (.Name x _) [y] [] _ => decide (x = "range") && gloB sc x && mE sc N c y && plainE y
    | _ => false)
  | .rng2 a b, e, _ => (match e with
    | .Call (.Name x _) [y, z] [] _ => decide (x = "range") && gloB sc x && mE sc N a y && plainE y && mE sc N b z && plainE z
    | _ => false)
  | _, _, _ => false
end
end
end Sk

/-! Sk5: what an expression's evaluation says is what the model does. -/
namespace Sk
open PySem PySem.Spec PyProof.Rows L2

theorem bnd_inv {α β : Type} {m : Option (α × Env' × Sto)} {f : α → Env' → Sto → Option β} {r : β} (h : bnd m f = some r) : ∃ a ρ S, m = some (a, ρ, S) ∧ f a ρ S = some r := by
  cases m with
  | none => cases h
  | some q =>
    obtain ⟨a, ρ, S⟩ := q
    exact ⟨a, ρ, S, rfl, h⟩
theorem obd_inv {α β : Type} {m : Option α} {f : α → Option β} {r : β} (h : obd m f = some r) : ∃ a, m = some a ∧ f a = some r := by
  cases m with
  | none => cases h
  | some q => exact ⟨q, rfl, h⟩

/-- a def's promise: what its evaluation says -/
def spF (T : Tab) (k : Nat) (f : Str) (K : PySem.W.Frag) (mg : Str → Option Value) : Sp := fun vs H Q _ => ∃ φ out S ds r S', Rel K mg φ out [] S [] H ∧ RepVs K mg φ (exc φ out [] []) H ds vs ∧
  callK T.G T.F T.M k f ds S = some (r, S') ∧ ∀ v H' φ', Post K mg φ out [] [] H r [] S' v H' φ' → Q v H'
structure Good (T : Tab) (k : Nat) (X : Cx) (sc : Scope) : Prop where
  calm : X.calm = true
  nd : X.N.Nodup
  loc : ∀ x, sc.names.lookup x = some .local → X.env.scope.names.lookup x = some .local
  cel : ∀ x, sc.names.lookup x = some .cell → X.env.scope.names.lookup x = some .cell
  fre : ∀ x, sc.names.lookup x = some .free → X.env.scope.names.lookup x = some .cell ∨ X.env.scope.names.lookup x = some .free
  glo : ∀ x, sc.names.lookup x = some .globalImplicit → X.env.scope.names.lookup x = some .globalImplicit
  fnc : ∀ x, sc.names.lookup x = some .cell → X.fn x = true
  blt : ∀ x ∈ bNames, X.mg x = none
  room : Room k X.A
  G : ∀ x d, T.G x = some d → ∃ u v, X.mg x = some u ∧ RelV v u ∧ ∀ φ ex H, RepV X.K X.mg φ ex H d v
  F : ∀ f fn, T.F f = some fn → ∃ a fd ps, X.mg f = some (.ref a) ∧ PySem.W.keepIn X.K (.ref a) = true ∧ Binds X.K fd ps [] ∧ FnOk X.prog X.w X.K X.mg X.base CX0 k a fd ps (spF T k f X.K X.mg)

section
variable (T : Tab) (k : Nat) (X : Cx)
abbrev ev (c : CE) (ρ : Env') (S : Sto) := evE T.G (callK T.G T.F T.M k) T.M c ρ S
abbrev evs (c : List CE) (ρ : Env') (S : Sto) := evL T.G (callK T.G T.F T.M k) T.M c ρ S
def TEv (c : CE) : TE := fun σ H Q => ∃ φ out ρ S o ρ' S', Rel X.K X.mg φ out ρ S σ H ∧ ev T k c ρ S = some (o, ρ', S') ∧ ∀ v H' φ', Post X.K X.mg φ out ρ σ H o ρ' S' v H' φ' → Q v H'
def TTv (c : CE) : TT := fun σ H Q => ∃ φ out ρ S b ρ' S', Rel X.K X.mg φ out ρ S σ H ∧ ev T k c ρ S = some (.fz (.bl b), ρ', S') ∧ ∀ H' φ', Stp φ ρ σ H φ' ρ' σ H' → Rel X.K X.mg φ' out ρ' S' σ H' → Q b H'
def TAv (cs : List CE) : TA := fun σ H Q => ∃ φ out ρ S ds ρ' S', Rel X.K X.mg φ out ρ S σ H ∧ evs T k cs ρ S = some (ds, ρ', S') ∧
  ∀ vs H' φ', Stp φ ρ σ H φ' ρ' σ H' → Rel X.K X.mg φ' out ρ' S' σ H' → RepVs X.K X.mg φ' (exc φ' out ρ' σ) H' ds vs → Q vs H'
end
section
variable {T : Tab} {k : Nat} {X : Cx} {sc : Scope} {φ φ2 : List Addr} {out : Addr → Prop} {ρ ρ2 : Env'} {S S2 : Sto} {σ : L2.St} {H H2 : Hp}
theorem Good.vis (g : Good T k X sc) {x : Str} (h : visB sc x = true) : Vis X.env.scope x := by
  unfold visB at h
  split at h
  · rename_i e; exact .inl (g.loc x e)
  · rename_i e; exact .inr (.inl (g.cel x e))
  · rename_i e; exact .inr (g.fre x e)
  · cases h
theorem Good.gl (g : Good T k X sc) {x : Str} (h : gloB sc x = true) : Gl X x ∧ (x == ("__debug__" : Str)) = false ∧ (x == ("__classdict__" : Str)) = false ∧ x ≠ "__name__" := by
  unfold gloB okName at h
  simp only [Bool.and_eq_true, bne_iff_ne, ne_eq] at h
  obtain ⟨⟨h1, h2, h3⟩, h4⟩ := h
  split at h1
  · rename_i e
    exact ⟨g.glo x e, beq_eq_false_iff_ne.mpr h2, beq_eq_false_iff_ne.mpr h3, h4⟩
  · cases h1
theorem okName_ne {x : Str} (h : okName x = true) : (x == ("__debug__" : Str)) = false ∧ (x == ("__classdict__" : Str)) = false := by
  unfold okName at h
  simp only [Bool.and_eq_true, bne_iff_ne, ne_eq] at h
  exact ⟨beq_eq_false_iff_ne.mpr h.1, beq_eq_false_iff_ne.mpr h.2⟩
theorem Good.hu (g : Good T k X sc) : X.A.units + 65 < cLine := by
  have := g.room.un
  omega

/-- a frozen value at the end -/
theorem endFz {d : D} {v : V} (t : Stp φ ρ σ H φ2 ρ2 σ H2) (R : Rel X.K X.mg φ2 out ρ2 S2 σ H2) (h : RepV X.K X.mg φ2 (exc φ2 out ρ2 σ) H2 d v) : Post X.K X.mg φ out ρ σ H (.fz d) ρ2 S2 v H2 φ2 := ⟨t, R, h⟩
theorem endTup {ds : List D} {vs : List V} {p : Addr} (t : Stp φ ρ σ H φ2 ρ2 σ H2) (R : Rel X.K X.mg φ2 out ρ2 S2 σ H2) (h : RepVs X.K X.mg φ2 (exc φ2 out ρ2 σ) H2 ds vs) (hp : H2 p = none) :
    Post X.K X.mg φ out ρ σ H (.fz (.tup ds)) ρ2 S2 (.ref p) (upd H2 p (.tup vs)) φ2 :=
  ⟨t.trans (new_stp hp), R.new hp, .tup (.inl ⟨.inl upd_same, R.free hp⟩) (h.mv (new_mv hp))⟩
theorem fresh_none {p : Addr} (t : Stp φ ρ σ H φ2 ρ2 σ H2) (hp : H2 p = none) : H p = none := Classical.byContradiction fun z => t.kp p z hp
theorem out_mv {p : Addr} {ho : HO} (hp : H2 p = none) : Mv φ2 φ2 (exc φ2 out ρ2 σ) (exc φ2 (fun b => out b ∨ b = p) ρ2 σ) H2 (upd H2 p ho) :=
  ⟨fun _ _ e => e, fun b o e _ => by rw [upd_ne (fun z => by rw [z, hp] at e; cases e)]; exact e, fun b z => by
    rcases z with z | (z | z) | z
    · exact .inl (.inl z)
    · exact .inl (.inr (.inl z))
    · exact .inr (z ▸ hp)
    · exact .inl (.inr (.inr z))⟩
theorem endLst {ds : List D} {vs : List V} {p : Addr} (t : Stp φ ρ σ H φ2 ρ2 σ H2) (R : Rel X.K X.mg φ2 out ρ2 S2 σ H2) (h : RepVs X.K X.mg φ2 (exc φ2 out ρ2 σ) H2 ds vs) (hp : H2 p = none) :
    Post X.K X.mg φ out ρ σ H (.fr (.lst ds)) ρ2 S2 (.ref p) (upd H2 p (.lst vs)) φ2 :=
  ⟨t.trans (new_stp hp), R.new hp, p, rfl, R.newOut hp, ⟨vs, upd_same, h.mv (out_mv hp)⟩, fun z => R.ot p z hp, .inl (fresh_none t hp)⟩
theorem endDct {ds : List (D × D)} {vs : List (Key × V)} {p : Addr} (t : Stp φ ρ σ H φ2 ρ2 σ H2) (R : Rel X.K X.mg φ2 out ρ2 S2 σ H2) (h : RepK X.K X.mg φ2 (exc φ2 out ρ2 σ) H2 ds vs) (hp : H2 p = none) :
    Post X.K X.mg φ out ρ σ H (.fr (.dct ds)) ρ2 S2 (.ref p) (upd H2 p (.dK vs)) φ2 :=
  ⟨t.trans (new_stp hp), R.new hp, p, rfl, R.newOut hp, ⟨vs, upd_same, h.mv (out_mv hp)⟩, fun z => R.ot p z hp, .inl (fresh_none t hp)⟩
/-- what an operation hands back is an end -/
theorem resEnd {r : Op} {Q : VK} (hr : ∀ d, r = .fr d → (∃ ds, d = .lst ds) ∨ ∃ kvs, d = .dct kvs) (hs : ∀ i, r ≠ .sl i) (t : Stp φ ρ σ H φ2 ρ2 σ H2) (R : Rel X.K X.mg φ2 out ρ2 S2 σ H2)
    (q : ∀ v H' φ', Post X.K X.mg φ out ρ σ H r ρ2 S2 v H' φ' → Q v H') : Res X.K X.mg φ2 (exc φ2 out ρ2 σ) H2 r Q := by
  cases r with
  | fz d =>
    refine ⟨fun v h => q v H2 φ2 (endFz t R h), ?_⟩
    cases d with
    | tup ds => exact fun vs p h hp => q _ _ _ (endTup t R h hp)
    | _ => exact trivial
  | fr d =>
    rcases hr d rfl with ⟨ds, rfl⟩ | ⟨kvs, rfl⟩
    · exact fun vs p h hp => q _ _ _ (endLst t R h hp)
    · exact fun vs p h hp => q _ _ _ (endDct t R h hp)
  | sl i => exact absurd rfl (hs i)
theorem bop_fr {o : BO} {a b : D} {r : Op} (e : bopD o a b = some r) : (∀ d, r = .fr d → (∃ ds, d = .lst ds) ∨ ∃ kvs, d = .dct kvs) ∧ ∀ i, r ≠ .sl i := by
  unfold bopD at e
  split at e <;> (try split at e) <;> first
    | (cases e; done)
    | (cases e; refine ⟨fun d z => ?_, fun i z => (nomatch z)⟩; first | (cases z; done) | (cases z; exact .inl ⟨_, rfl⟩))
theorem slc_fr {a : D} {lo hi : Option Int} {r : Op} (e : slcD a lo hi = some r) : (∀ d, r = .fr d → (∃ ds, d = .lst ds) ∨ ∃ kvs, d = .dct kvs) ∧ ∀ i, r ≠ .sl i := by
  unfold slcD at e
  split at e <;> (try split at e) <;> first
    | (cases e; done)
    | (cases e; refine ⟨fun d z => ?_, fun i z => (nomatch z)⟩; first | (cases z; done) | (cases z; exact .inl ⟨_, rfl⟩))
theorem bf_fr {f : BF} {a : D} {r : Op} (e : bfD f a = some r) : (∀ d, r = .fr d → (∃ ds, d = .lst ds) ∨ ∃ kvs, d = .dct kvs) ∧ ∀ i, r ≠ .sl i := by
  have key : ∀ {β : Type} {m : Option β} {g : β → Op}, m.map g = some r → (∀ x, (∀ d, g x = .fr d → (∃ ds, d = .lst ds) ∨ ∃ kvs, d = .dct kvs) ∧ ∀ i, g x ≠ .sl i) → (∀ d, r = .fr d → (∃ ds, d = .lst ds) ∨ ∃ kvs, d = .dct kvs) ∧ ∀ i, r ≠ .sl i := fun {β m g} e h => by
    cases m with
    | none => cases e
    | some x => cases e; exact h x
  unfold bfD at e
  split at e <;> (try split at e) <;> first
    | (cases e; done)
    | (refine key e fun x => ⟨fun d z => ?_, fun i z => (nomatch z)⟩; first | (cases z; done) | (cases z; exact .inl ⟨_, rfl⟩))
    | (cases e; refine ⟨fun d z => ?_, fun i z => (nomatch z)⟩; first | (cases z; done) | (cases z; first | exact .inl ⟨_, rfl⟩ | exact .inr ⟨_, rfl⟩))
theorem bf2_fr {f : BF} {a b : D} {r : Op} (e : bf2D f a b = some r) : (∀ d, r = .fr d → (∃ ds, d = .lst ds) ∨ ∃ kvs, d = .dct kvs) ∧ ∀ i, r ≠ .sl i := by
  unfold bf2D at e
  split at e <;> first
    | (cases e; done)
    | (cases e; refine ⟨fun d z => (nomatch z), fun i z => (nomatch z)⟩)

/-- one operand -/
theorem one {a : CE} {x : Op} {ρ1 : Env'} {S1 : Sto} {R1 : VK} (R : Rel X.K X.mg φ out ρ S σ H) (ea : ev T k a ρ S = some (x, ρ1, S1))
    (h : ∀ v H1 φ1, Post X.K X.mg φ out ρ σ H x ρ1 S1 v H1 φ1 → R1 v H1) : TEv T k X a σ H R1 := ⟨φ, out, ρ, S, x, ρ1, S1, R, ea, h⟩
/-- two operands -/
theorem two {a b : CE} {x y : Op} {ρ1 : Env'} {S1 : Sto} {R1 : V → V → Hp → Prop} (R : Rel X.K X.mg φ out ρ S σ H) (ea : ev T k a ρ S = some (x, ρ1, S1)) (eb : ev T k b ρ1 S1 = some (y, ρ2, S2))
    (h : ∀ v u H2 φ2, Stp φ ρ σ H φ2 ρ2 σ H2 → Rel X.K X.mg φ2 out ρ2 S2 σ H2 → OpV X.K X.mg φ2 (exc φ2 out ρ2 σ) σ H2 x v → OpV X.K X.mg φ2 (exc φ2 out ρ2 σ) σ H2 y u → R1 v u H2) :
    TEv T k X a σ H fun v H1 => TEv T k X b σ H1 fun u H2 => R1 v u H2 := by
  refine one R ea fun v H1 φ1 p1 => one p1.rel eb fun u H2 φ2 p2 => ?_
  exact h v u H2 φ2 (p1.stp.trans p2.stp) p2.rel ((p1.val.op p1.rel).mv (p2.stp.mv p1.rel fun _ z => .inl z)) (p2.val.op p2.rel)
/-- three -/
theorem three {a b c : CE} {x y z : Op} {ρ1 ρ3 : Env'} {S1 S3 : Sto} {R1 : V → V → V → Hp → Prop} (R : Rel X.K X.mg φ out ρ S σ H) (ea : ev T k a ρ S = some (x, ρ1, S1)) (eb : ev T k b ρ1 S1 = some (y, ρ2, S2)) (ec : ev T k c ρ2 S2 = some (z, ρ3, S3))
    (h : ∀ v u w H3 φ3, Stp φ ρ σ H φ3 ρ3 σ H3 → Rel X.K X.mg φ3 out ρ3 S3 σ H3 → OpV X.K X.mg φ3 (exc φ3 out ρ3 σ) σ H3 x v → OpV X.K X.mg φ3 (exc φ3 out ρ3 σ) σ H3 y u → OpV X.K X.mg φ3 (exc φ3 out ρ3 σ) σ H3 z w → R1 v u w H3) :
    TEv T k X a σ H fun v H1 => TEv T k X b σ H1 fun u H2 => TEv T k X c σ H2 fun w H3 => R1 v u w H3 := by
  refine two R ea eb fun v u H2 φ2 t R2 hv hu => one R2 ec fun w H3 φ3 p3 => ?_
  have m := p3.stp.mv (out' := out) R2 fun _ z => .inl z
  exact h v u w H3 φ3 (t.trans p3.stp) p3.rel (hv.mv m) (hu.mv m) (p3.val.op p3.rel)

/-! ### small facts of the model's text -/
theorem star_plain {e : Expr} {es : List Expr} {env : Env} (h : plainE e = true) : starEach (e :: es) env = (false, eval e env) :: starEach es env := by
  cases e <;> first
    | rfl
    | cases h
theorem plain_ix {e : Expr} (h : plainE e = true) : PlainIx e := by
  intro o i
  cases e <;> first
    | rfl
    | cases h
theorem plain_fold {e : Expr} (h : noSet e = true) {env : Env} {x : Value} : foldedSetIterable e env x = pure x := by
  cases e <;> first
    | rfl
    | cases h
theorem recv_base {o : Expr} {n : Str} {env : Env} {w : Sem Value} (h : recvE o = true) : attributeBase o n env w = w := by
  cases o <;> first
    | rfl
    | cases h
end
end Sk

/-! Sk6: walks, blocks, targets. -/
namespace Sk
open PySem PySem.Spec PyProof.Rows L2

/-- what a walk yields: the items, the tuples that it makes being new -/
def ItOk (K : PySem.W.Frag) (mg : Str → Option Value) (φ : List Addr) (ex : Addr → Prop) (J : It) (ds : List D) (H1 : Hp) : Prop := ∀ φ' ex' H', Mv φ φ' ex ex' H1 H' → (∀ b, ex' b → H' b ≠ none) → ∀ (i : Nat),
  (∀ d, ds[i]? = some d → J.go i H' ∧ ∀ x H2, J.yld i H' x H2 → (H2 = H' ∧ RepV K mg φ' ex' H2 d x) ∨ (∃ p o, H' p = none ∧ H2 = upd H' p o ∧ RepV K mg φ' ex' H2 d x)) ∧ (i = ds.length → J.stop i H')
section
variable (T : Tab) (k : Nat) (X : Cx)
abbrev evi (c : It') (ρ : Env') (S : Sto) := evI T.G (callK T.G T.F T.M k) T.M c ρ S
def TIv (c : It') : TI := fun σ H R => ∃ φ out ρ S ds ρ' S', Rel X.K X.mg φ out ρ S σ H ∧ evi T k c ρ S = some (ds, ρ', S') ∧
  ∀ J H1 φ1, Stp φ ρ σ H φ1 ρ' σ H1 → Rel X.K X.mg φ1 out ρ' S' σ H1 → ItOk X.K X.mg φ1 (exc φ1 out ρ' σ) J ds H1 → R J H1
end
section
variable {K : PySem.W.Frag} {mg : Str → Option Value} {φ φ' : List Addr} {ex ex' : Addr → Prop} {H H1 H' : Hp}
theorem FzL.mv (m : Mv φ φ' ex ex' H H') {a : Addr} {xs : List V} (h : FzL K ex H a xs) : FzL K ex' H' a xs := h.elim (fun ⟨h, n⟩ => .inl (m.nex h n)) .inr
theorem FzT.mv (m : Mv φ φ' ex ex' H H') {a : Addr} {xs : List V} (h : FzT K ex H a xs) : FzT K ex' H' a xs := h.elim (fun ⟨h, n⟩ => .inl (m.nex h n)) .inr
theorem Rd.fun {H : Hp} {a : Addr} {u w : HO} (nf : ∀ o x, w ≠ .frz o x) (nu : ∀ o x, u ≠ .frz o x) (h : Rd H a u) (h' : Rd H a w) : u = w := by
  rcases h with h | ⟨o, h⟩ <;> rcases h' with h' | ⟨o', h'⟩ <;> (rw [h] at h')
  · exact Option.some.inj h'
  · exact absurd (Option.some.inj h') (nu _ _)
  · exact absurd (Option.some.inj h').symm (nf _ _)
  · have := Option.some.inj h'
    injection this
theorem itok_list {a : Addr} {vs : List V} {ds : List D} (h : FzL K ex H1 a vs) (r : RepVs K mg φ ex H1 ds vs) : ItOk K mg φ ex (Itl K a) ds H1 := by
  intro φ' ex' H' m _ i
  have h' := h.mv m
  have r' := r.mv m
  refine ⟨fun d e => ?_, fun e => ⟨vs, h'.sq, by rw [e, r.length]; exact Nat.le_refl _⟩⟩
  obtain ⟨v, e1, h1⟩ := r'.get e
  refine ⟨⟨vs, v, h'.sq, e1⟩, fun x H2 y => .inl ?_⟩
  obtain ⟨rfl, y⟩ := y
  have e2 := y vs h'.sq
  rw [e1] at e2
  cases e2
  exact ⟨rfl, h1⟩
theorem itok_tup {a : Addr} {vs : List V} {ds : List D} (h : FzT K ex H1 a vs) (r : RepVs K mg φ ex H1 ds vs) : ItOk K mg φ ex (Itt K a) ds H1 := by
  intro φ' ex' H' m _ i
  have h' := h.mv m
  have r' := r.mv m
  refine ⟨fun d e => ?_, fun e => ⟨vs, h'.sq, by rw [e, r.length]; exact Nat.le_refl _⟩⟩
  obtain ⟨v, e1, h1⟩ := r'.get e
  refine ⟨⟨vs, v, h'.sq, e1⟩, fun x H2 y => .inl ?_⟩
  obtain ⟨rfl, y⟩ := y
  have e2 := y vs h'.sq
  rw [e1] at e2
  cases e2
  exact ⟨rfl, h1⟩
theorem itok_rng {lo : Int} {n : Nat} : ItOk K mg φ ex (Itr lo n) ((List.range n).map fun (k : Nat) => D.int (lo + k)) H1 := by
  intro φ' ex' H' m _ i
  refine ⟨fun d e => ?_, fun e => by rw [e]; simp [Itr]⟩
  rw [List.getElem?_map] at e
  simp only [Option.map_eq_some_iff] at e
  obtain ⟨j, e1, rfl⟩ := e
  obtain ⟨h1, h2⟩ := List.getElem?_eq_some_iff.mp e1
  simp only [List.getElem_range] at h2
  subst h2
  simp only [List.length_range] at h1
  refine ⟨h1, fun x H2 y => .inl ?_⟩
  obtain ⟨rfl, rfl⟩ := y
  exact ⟨rfl, .int _⟩
theorem itok_str {z : Str} : ItOk K mg φ ex (Its z) (chars z) H1 := by
  intro φ' ex' H' m _ i
  refine ⟨fun d e => ?_, fun e => by rw [e]; simp [Its, chars]⟩
  unfold chars at e
  rw [List.getElem?_map] at e
  simp only [Option.map_eq_some_iff] at e
  obtain ⟨c, e1, rfl⟩ := e
  have e2 : z.cps[i]? = some c := by simpa using e1
  refine ⟨(Array.getElem?_eq_some_iff.mp e2).1, fun x H2 y => .inl ?_⟩
  obtain ⟨rfl, c', e3, rfl⟩ := y
  rw [e2] at e3
  cases e3
  exact ⟨rfl, .str _⟩
end

/-! ### a comprehension's block -/
theorem relabel_look {env : Env} {x : Str} {kd : NameKind} : ∀ {names : List (Str × NameKind)}, names.lookup x = some kd →
    ((names.map fun (n, k) => if (k == NameKind.free && env.scope.kind == .function && env.kindOf n == some .cell) then (n, NameKind.cell) else (n, k)).lookup x = some kd) ∨
    (kd = .free ∧ (names.map fun (n, k) => if (k == NameKind.free && env.scope.kind == .function && env.kindOf n == some .cell) then (n, NameKind.cell) else (n, k)).lookup x = some .cell)
  | [], h => by simp at h
  | (n, j) :: r, h => by
    have ih := @relabel_look env x kd r
    rw [List.lookup_cons] at h
    rw [List.map_cons]
    by_cases e : (x == n) = true
    · rw [e] at h
      cases h
      by_cases c : (kd == NameKind.free && env.scope.kind == .function && env.kindOf n == some .cell) = true
      · right
        simp only [Bool.and_eq_true, beq_iff_eq] at c
        refine ⟨c.1.1, ?_⟩
        simp [c, List.lookup_cons, e]
      · left
        simp [c, List.lookup_cons, e]
    · have e' : (x == n) = false := by simpa using e
      rw [e'] at h
      have q := ih h
      have skip : ∀ (y : Str × NameKind) (tl : List (Str × NameKind)), y.1 = n → List.lookup x (y :: tl) = List.lookup x tl := fun y tl hy => by
        obtain ⟨y1, y2⟩ := y
        subst hy
        rw [List.lookup_cons, e']
      rw [skip _ _ (by dsimp only; split <;> rfl)]
      exact q
theorem Good.blk {T : Tab} {k : Nat} {X : Cx} {sc scope : Scope} (g : Good T k X sc) (s : Shared) (H : Hp) (C : Addr) (cl : List (Str × Addr)) (fp : List Addr) :
    Good T k (X.blk s H scope (compEnvC scope cl C X.env) fp) scope where
  calm := g.calm
  nd := g.nd
  loc := fun x h => (relabel_look (env := X.env) h).elim id fun z => (nomatch z.1)
  cel := fun x h => (relabel_look (env := X.env) h).elim id fun z => (nomatch z.1)
  fre := fun x h => (relabel_look (env := X.env) h).elim .inr fun z => .inl z.2
  glo := fun x h => (relabel_look (env := X.env) h).elim id fun z => (nomatch z.1)
  fnc := fun x h => by
    show (scope.names.lookup x == some .cell) = true
    rw [h]
    rfl
  blt := g.blt
  room := g.room
  G := g.G
  F := g.F
theorem Good.blkOk {T : Tab} {k : Nat} {X : Cx} {sc scope : Scope} {own : List (Str × Nat)} (g : Good T k X sc) (h : blkC X.N sc scope own = true) : BlkOk X.N X.env.scope scope own := by
  have b := blkOk_by h
  refine ⟨b.kind, b.uniq, b.ix, fun y hy e => ?_, b.own⟩
  rcases b.free y hy e with z | z
  · exact .inl (g.cel _ z)
  · exact g.fre _ z

/-! ### targets -/
theorem loc_of {T : Tab} {k : Nat} {X : Cx} {sc : Scope} (g : Good T k X sc) {x : Str} (h : (match sc.names.lookup x with
      | some .local => true
      | some .cell => true
      | _ => false) = true) : Loc X.env.scope x ∧ (X.fn x = true ∨ X.env.scope.names.lookup x = some .local) := by
  split at h
  · rename_i e
    exact ⟨.inl (g.loc x e), .inr (g.loc x e)⟩
  · rename_i e
    exact ⟨.inr (g.cel x e), .inl (g.fnc x e)⟩
  · cases h
/-- the slots of several names -/
def setVs : List Nat → List V → L2.St → L2.St
  | i :: is, v :: vs, σ => setVs is vs (σ.set i (some v))
  | _, _, σ => σ
def gAll (is : List Nat) : TGs := fun vs σ H Q => vs.length = is.length ∧ Q (setVs is vs σ) H
def gT (K : PySem.W.Frag) : Tg → TG
  | .one i => gName i
  | .many is => gTup K is.length (gAll is)
theorem pgs_all {T : Tab} {k : Nat} {X : Cx} {sc : Scope} (g : Good T k X sc) : ∀ {is : List Nat} {es : List Expr}, es.length = is.length → ((is.zip es).all fun p => match p.2 with
    | .Name x _ => decide (X.N[p.1]? = some x)
    | _ => false) = true → (es.all fun e => match e with
    | .Name x _ => (match sc.names.lookup x with
      | some .local => true
      | some .cell => true
      | _ => false)
    | _ => false) = true → PGs X es (gAll is)
  | [], [], _, _, _ => ⟨fun pins s σ H vs us Q I r h => pgs_nil.run pins s σ H vs us Q I r ⟨List.eq_nil_of_length_eq_zero h.1, by
      obtain ⟨h1, h2⟩ := h
      cases vs with
      | nil => exact h2
      | cons v r => cases h1⟩⟩
  | [], _ :: _, hl, _, _ => by cases hl
  | _ :: _, [], hl, _, _ => by cases hl
  | i :: is, e :: es, hl, h1, h2 => by
    rw [List.zip_cons_cons, List.all_cons, Bool.and_eq_true] at h1
    rw [List.all_cons, Bool.and_eq_true] at h2
    have ih := pgs_all g (is := is) (es := es) (by simpa using hl) h1.2 h2.2
    cases e with
    | Name x p =>
      obtain ⟨l1, l2⟩ := loc_of g h2.1
      have hx : X.N[i]? = some x := of_decide_eq_true h1.1
      refine ⟨fun pins s σ H vs us Q I r h => (pgs_cons (pg_name g.nd hx l1 l2) ih).run pins s σ H vs us Q I r ?_⟩
      obtain ⟨q1, q2⟩ := h
      cases vs with
      | nil => cases q1
      | cons v vs => exact ⟨v, vs, rfl, by simpa using q1, q2⟩
    | _ => exact absurd h1.1 (by simp)
theorem assignEach_len {env : Env} : ∀ (es : List Expr), (assignEach es env).length = es.length
  | [] => rfl
  | e :: es => by
    have ih := assignEach_len (env := env) es
    cases e <;> (show (_ :: assignEach es env).length = _; rw [List.length_cons, ih]; rfl)
theorem assignEach_nostar {env : Env} : ∀ {es : List Expr}, (∀ e ∈ es, ∃ x p, e = .Name x p) → (assignEach es env).findIdx? (·.1) = none
  | [], _ => rfl
  | e :: es, h => by
    obtain ⟨x, p, rfl⟩ := h e List.mem_cons_self
    have ih := assignEach_nostar (env := env) fun e he => h e (List.mem_cons_of_mem _ he)
    show List.findIdx? (·.1) ((false, assign (.Name x p) env) :: assignEach es env) = none
    rw [List.findIdx?_cons]
    simp [ih]
theorem pg_tg {T : Tab} {k : Nat} {X : Cx} {sc : Scope} (g : Good T k X sc) {t : Tg} {e : Expr} (h1 : tgN X.N t e = true) (h2 : tgLoc sc e = true) : PG X e (gT X.K t) := by
  cases t with
  | one i =>
    cases e with
    | Name x p =>
      obtain ⟨l1, l2⟩ := loc_of g h2
      exact pg_name g.nd (of_decide_eq_true h1) l1 l2
    | _ => cases h1
  | many is =>
    cases e with
    | Tuple es n p =>
      have h1' : (decide (es.length = is.length) && ((is.zip es).all fun p => match p.2 with
        | .Name x _ => decide (X.N[p.1]? = some x)
        | _ => false)) = true := h1
      rw [Bool.and_eq_true] at h1'
      have hl : es.length = is.length := of_decide_eq_true h1'.1
      have nm : ∀ e ∈ es, ∃ x p, e = .Name x p := fun e he => by
        have := List.all_eq_true.mp h2 e he
        cases e with
        | Name x p => exact ⟨x, p, rfl⟩
        | _ => cases this
      exact pg_tup g.calm (pgs_all g hl h1'.2 h2) (by rw [assignEach_len]; exact hl) (assignEach_nostar nm)
    | _ => cases h1
end Sk

/-! Sk7: stores into slots; a comprehension's turns. -/
namespace Sk
open PySem PySem.Spec PyProof.Rows L2

section
variable {K : PySem.W.Frag} {mg : Str → Option Value} {φ φ' : List Addr} {out : Addr → Prop} {ρ ρ' : Env'} {S S' : Sto} {σ σ' : L2.St} {H H' : Hp}
/-- a slot changes: what it held is forgotten; s is what stands there now -/
theorem Rel.slot (R : Rel K mg φ out ρ S σ H) {i : Nat} {s : Sl} {o : Option V} (hs : s = .no ∨ ∃ d v, s = .va d ∧ o = some v ∧ RepV K mg φ (exc φ out ρ σ) H d v) :
    Rel K mg φ out (ρ.set i s) S (σ.set i o) H ∧ (∀ b, ownA (ρ.set i s) (σ.set i o) b → ownA ρ σ b) := by
  have hn : ∀ d, s ≠ .ow d := fun d z => by
    rcases hs with q | ⟨d', v, q, _⟩ <;> (rw [q] at z; cases z)
  have sub : ∀ {j : Nat} {d : D}, (ρ.set i s)[j]? = some (.ow d) → i ≠ j ∧ ρ[j]? = some (.ow d) := fun {j d} e => by
    by_cases z : i = j
    · subst z
      by_cases hl : i < ρ.length
      · rw [List.getElem?_set_self hl] at e
        exact absurd (Option.some.inj e) (hn d)
      · rw [List.getElem?_eq_none (by simpa using hl)] at e
        cases e
    · rw [List.getElem?_set_ne z] at e
      exact ⟨z, e⟩
  have own : ∀ b, ownA (ρ.set i s) (σ.set i o) b → ownA ρ σ b := fun b ⟨j, d, e1, e2⟩ => by
    obtain ⟨z, e⟩ := sub e1
    rw [List.getElem?_set_ne z] at e2
    exact ⟨j, d, e, e2⟩
  have m : Mv φ φ (exc φ out ρ σ) (exc φ out (ρ.set i s) (σ.set i o)) H H := .less fun b z => z.imp id fun z => z.imp id (own b)
  refine ⟨⟨by rw [List.length_set, List.length_set]; exact R.len, fun j d e => ?_, fun j d e => ?_, fun a b c d e q1 q2 q3 q4 => ?_, fun n ob e => ?_, R.sl, R.nd, R.no, R.ot⟩, own⟩
  · by_cases z : i = j
    · subst z
      by_cases hl : i < ρ.length
      · rw [List.getElem?_set_self hl] at e
        rcases hs with q | ⟨d', v, q, ho, h⟩
        · rw [q] at e; cases e
        · rw [q] at e
          cases e
          exact ⟨v, by rw [List.getElem?_set_self (by rw [← R.len]; exact hl), ho], h.mv m⟩
      · rw [List.getElem?_eq_none (by simpa using hl)] at e
        cases e
    · rw [List.getElem?_set_ne z] at e
      obtain ⟨v, e1, h⟩ := R.va j d e
      exact ⟨v, by rw [List.getElem?_set_ne z]; exact e1, h.mv m⟩
  · obtain ⟨z, e'⟩ := sub e
    obtain ⟨a, e1, h1, h2⟩ := R.ow j d e'
    exact ⟨a, by rw [List.getElem?_set_ne z]; exact e1, h1.mv m fun _ q => q, h2⟩
  · obtain ⟨z1, r1⟩ := sub q1
    obtain ⟨z2, r2⟩ := sub q2
    rw [List.getElem?_set_ne z1] at q3
    rw [List.getElem?_set_ne z2] at q4
    exact R.owi a b c d e r1 r2 q3 q4
  · obtain ⟨a, e1, h1⟩ := R.st n ob e
    exact ⟨a, e1, h1.mv m fun _ q => q⟩
theorem own_mv (own : ∀ b, ownA ρ' σ' b → ownA ρ σ b) : Mv φ φ (exc φ out ρ σ) (exc φ out ρ' σ') H H := .less fun b z => z.imp id fun z => z.imp id (own b)
theorem own_stp (own : ∀ b, ownA ρ' σ' b → ownA ρ σ b) : Stp φ ρ σ H φ ρ' σ' H := ⟨fun _ _ e => e, fun _ h => .inl h, fun _ _ e _ _ => e, fun b h => .inl (own b h), fun _ h => h⟩
theorem Rel.slots : ∀ {is : List Nat} {ds : List D} {vs : List V} {ρ ρ' : Env'} {σ : L2.St}, Rel K mg φ out ρ S σ H → RepVs K mg φ (exc φ out ρ σ) H ds vs → setAll is ds ρ = some ρ' →
    Rel K mg φ out ρ' S (setVs is vs σ) H ∧ (∀ b, ownA ρ' (setVs is vs σ) b → ownA ρ σ b)
  | [], _, _, _, _, _, R, .nil, e => by
    cases e
    exact ⟨R, fun _ z => z⟩
  | [], _, _, _, _, _, _, .cons _ _, e => by cases e
  | _ :: _, _, _, _, _, _, _, .nil, e => by cases e
  | i :: is, _, _, ρ, ρ', σ, R, .cons (d := d) (v := v) (ds := ds) (vs := vs) h r, e => by
    obtain ⟨R1, own⟩ := R.slot (i := i) (s := .va d) (o := some v) (.inr ⟨d, v, rfl, rfl, h⟩)
    obtain ⟨R2, own2⟩ := Rel.slots R1 (r.mv (own_mv own)) e
    exact ⟨R2, fun b z => own b (own2 b z)⟩
theorem setAll_len : ∀ {is : List Nat} {ds : List D} {ρ ρ' : Env'}, setAll is ds ρ = some ρ' → ds.length = is.length
  | [], [], _, _, _ => rfl
  | [], _ :: _, _, _, e => by cases e
  | _ :: _, [], _, _, e => by cases e
  | _ :: is, _ :: ds, _, _, e => congrArg (· + 1) (setAll_len (is := is) (ds := ds) e)
theorem bindT_many {is : List Nat} {d : D} {ρ ρ' : Env'} (e : bindT (.many is) d ρ = some ρ') : ∃ ds, d = .tup ds ∧ setAll is ds ρ = some ρ' := by
  cases d with
  | tup ds => exact ⟨ds, rfl, e⟩
  | _ => cases e
/-- a target is bound -/
theorem bind_ok (R : Rel K mg φ out ρ S σ H) {t : Tg} {d : D} {v : V} (h : RepV K mg φ (exc φ out ρ σ) H d v) (e : bindT t d ρ = some ρ') {Q : L2.St → Hp → Prop}
    (q : ∀ σ', Rel K mg φ out ρ' S σ' H → (∀ b, ownA ρ' σ' b → ownA ρ σ b) → (∀ i, i ∉ t.ixs → σ'[i]? = σ[i]?) → σ'.length = σ.length → Q σ' H) : gT K t v σ H Q := by
  have sv : ∀ (is : List Nat) (vs : List V) (σ : L2.St), (∀ i, i ∉ is → (setVs is vs σ)[i]? = σ[i]?) ∧ (setVs is vs σ).length = σ.length := by
    intro is
    induction is with
    | nil => intro vs σ; exact ⟨fun _ _ => by cases vs <;> rfl, by cases vs <;> rfl⟩
    | cons j is ih =>
      intro vs σ
      cases vs with
      | nil => exact ⟨fun _ _ => rfl, rfl⟩
      | cons v vs =>
        obtain ⟨h1, h2⟩ := ih vs (σ.set j (some v))
        refine ⟨fun i hi => ?_, ?_⟩
        · simp only [List.mem_cons, not_or] at hi
          show (setVs is vs (σ.set j (some v)))[i]? = _
          rw [h1 i hi.2, List.getElem?_set_ne (Ne.symm hi.1)]
        · show (setVs is vs (σ.set j (some v))).length = _
          rw [h2, List.length_set]
  cases t with
  | one i =>
    cases e
    obtain ⟨R1, own⟩ := R.slot (i := i) (s := .va d) (o := some v) (.inr ⟨d, v, rfl, rfl, h⟩)
    refine q _ R1 own (fun j hj => ?_) (List.length_set ..)
    have hj' : j ≠ i := by simpa [Tg.ixs] using hj
    rw [List.getElem?_set_ne (Ne.symm hj')]
  | many is =>
    obtain ⟨ds, rfl, e'⟩ := bindT_many e
    obtain ⟨a, vs, rfl, h, r⟩ := tup_inv h
    obtain ⟨R1, own⟩ := R.slots r e'
    obtain ⟨s1, s2⟩ := sv is vs σ
    have hl := setAll_len e'
    exact ⟨_, _, rfl, h.sq, by rw [← r.length]; exact hl, by rw [← r.length]; exact hl, q _ R1 own s1 s2⟩
theorem wipeT_get : ∀ {is : List Nat} {ρ : Env'} {i : Nat}, (i ∉ is → (wipeT is ρ)[i]? = ρ[i]?) ∧ (i ∈ is → ∀ s, (wipeT is ρ)[i]? = some s → s = .no) ∧ (wipeT is ρ).length = ρ.length
  | [], ρ, i => ⟨fun _ => rfl, fun h => (nomatch h), rfl⟩
  | j :: is, ρ, i => by
    obtain ⟨h1, h2, h3⟩ := wipeT_get (is := is) (ρ := ρ.set j .no) (i := i)
    have e : wipeT (j :: is) ρ = wipeT is (ρ.set j .no) := rfl
    rw [e]
    refine ⟨fun h => ?_, fun h s hs => ?_, by rw [h3, List.length_set]⟩
    · simp only [List.mem_cons, not_or] at h
      rw [h1 h.2, List.getElem?_set_ne (Ne.symm h.1)]
    · by_cases q : i ∈ is
      · exact h2 q s hs
      · rcases List.mem_cons.mp h with z | z
        · subst z
          rw [h1 q] at hs
          by_cases hl : i < ρ.length
          · rw [List.getElem?_set_self hl] at hs
            exact (Option.some.inj hs).symm
          · rw [List.getElem?_eq_none (by simpa using hl)] at hs
            cases hs
        · exact absurd z q
theorem wipe_get {σ : L2.St} : ∀ {is : List Nat} {i : Nat}, i ∉ is → (wipe σ is)[i]? = σ[i]?
  | [], _, _ => rfl
  | j :: is, i, h => by
    simp only [List.mem_cons, not_or] at h
    show ((wipe σ is).set j none)[i]? = _
    rw [List.getElem?_set_ne (Ne.symm h.1), wipe_get h.2]
/-- slots wiped -/
theorem Rel.wiped (R : Rel K mg φ out ρ S σ H) {is : List Nat} {σ2 : L2.St} (hs : ∀ i, i ∉ is → σ2[i]? = σ[i]?) (hl : σ2.length = σ.length) : Rel K mg φ out (wipeT is ρ) S σ2 H ∧ (∀ b, ownA (wipeT is ρ) σ2 b → ownA ρ σ b) := by
  have keep : ∀ {j : Nat} {s : Sl}, (wipeT is ρ)[j]? = some s → s ≠ .no → j ∉ is ∧ ρ[j]? = some s ∧ σ2[j]? = σ[j]? := fun {j s} e n => by
    have hj : j ∉ is := fun z => n (wipeT_get.2.1 z s e)
    exact ⟨hj, by rw [← wipeT_get.1 hj]; exact e, hs j hj⟩
  have own : ∀ b, ownA (wipeT is ρ) σ2 b → ownA ρ σ b := fun b ⟨j, d, e1, e2⟩ => by
    obtain ⟨_, q1, q2⟩ := keep e1 fun z => (nomatch z)
    exact ⟨j, d, q1, q2 ▸ e2⟩
  have m : Mv φ φ (exc φ out ρ σ) (exc φ out (wipeT is ρ) σ2) H H := own_mv own
  refine ⟨⟨by rw [(wipeT_get (i := 0)).2.2, hl]; exact R.len, fun j d e => ?_, fun j d e => ?_, fun a b c d e q1 q2 q3 q4 => ?_, fun n ob e => ?_, R.sl, R.nd, R.no, R.ot⟩, own⟩
  · obtain ⟨_, q1, q2⟩ := keep e fun z => (nomatch z)
    obtain ⟨v, e1, h⟩ := R.va j d q1
    exact ⟨v, q2.trans e1, h.mv m⟩
  · obtain ⟨_, q1, q2⟩ := keep e fun z => (nomatch z)
    obtain ⟨a, e1, h1, h2⟩ := R.ow j d q1
    exact ⟨a, q2.trans e1, h1.mv m fun _ q => q, h2⟩
  · obtain ⟨_, r1, s1⟩ := keep q1 fun z => (nomatch z)
    obtain ⟨_, r2, s2⟩ := keep q2 fun z => (nomatch z)
    exact R.owi a b c d e r1 r2 (s1 ▸ q3) (s2 ▸ q4)
  · obtain ⟨a, e1, h1⟩ := R.st n ob e
    exact ⟨a, e1, h1.mv m fun _ q => q⟩
theorem backT_get : ∀ {is : List Nat} {ρ ρ' : Env'} {i : Nat}, ρ'.length = ρ.length → (i ∉ is → (backT is ρ ρ')[i]? = ρ'[i]?) ∧ (i ∈ is → (backT is ρ ρ')[i]? = ρ[i]?) ∧ (backT is ρ ρ').length = ρ.length
  | [], ρ, ρ', i, hl => ⟨fun _ => rfl, fun h => (nomatch h), hl⟩
  | j :: is, ρ, ρ', i, hl => by
    have e : backT (j :: is) ρ ρ' = backT is ρ (match ρ[j]? with
      | some s => ρ'.set j s
      | none => ρ') := rfl
    rw [e]
    have hl' : (match ρ[j]? with
      | some s => ρ'.set j s
      | none => ρ').length = ρ.length := by
      cases ρ[j]? with
      | none => exact hl
      | some s => exact (List.length_set ..).trans hl
    obtain ⟨h1, h2, h3⟩ := backT_get (is := is) (i := i) hl'
    refine ⟨fun h => ?_, fun h => ?_, h3⟩
    · simp only [List.mem_cons, not_or] at h
      rw [h1 h.2]
      cases ρ[j]? with
      | none => rfl
      | some s => exact List.getElem?_set_ne (Ne.symm h.1)
    · by_cases q : i ∈ is
      · exact h2 q
      · rcases List.mem_cons.mp h with z | z
        · subst z
          rw [h1 q]
          cases hq : ρ[i]? with
          | none =>
            have : ρ.length ≤ i := List.getElem?_eq_none_iff.mp hq
            exact List.getElem?_eq_none_iff.mpr (by rw [hl]; exact this)
          | some s =>
            have : i < ρ.length := (List.getElem?_eq_some_iff.mp hq).1
            exact List.getElem?_set_self (by rw [hl]; exact this)
        · exact absurd z q
end
end Sk

/-! Sk8: list comprehensions. -/
namespace Sk
open PySem PySem.Spec PyProof.Rows L2

section
variable {K : PySem.W.Frag} {mg : Str → Option Value} {φ φ' φ1 : List Addr} {out out' : Addr → Prop} {ρ ρ' ρ1 ρ2 : Env'} {S S' S1 S2 : Sto} {σ σ' : L2.St} {H H' H1 : Hp}
/-- what nobody holds yet is written -/
theorem Stp.outUpd {D : Addr} {ho : HO} (t : Stp φ ρ σ H φ' ρ' σ' H') (h : H D = none) : Stp φ ρ σ H φ' ρ' σ' (upd H' D ho) :=
  ⟨t.pre, t.nw, fun b o e n1 n2 => by rw [upd_ne (fun z => by rw [z, h] at e; cases e)]; exact t.fr b o e n1 n2, t.on, fun b z => by
    by_cases q : b = D
    · rw [q, upd_same]; exact fun z => nomatch z
    · rw [upd_ne q]; exact t.kp b z⟩
theorem Rel.outUpd (R : Rel K mg φ out ρ S σ H) {D : Addr} {ho : HO} (h : out D) : Rel K mg φ out ρ S σ (upd H D ho) := by
  have m : Mv φ φ (exc φ out ρ σ) (exc φ out ρ σ) H (upd H D ho) := upd_mv (.inr (.inl h))
  refine ⟨R.len, fun i d e => ?_, fun i d e => ?_, R.owi, fun n o e => ?_, R.sl, R.nd, R.no, fun a z => ?_⟩
  · obtain ⟨v, e1, h1⟩ := R.va i d e
    exact ⟨v, e1, h1.mv m⟩
  · obtain ⟨a, e1, h1, h2, h3⟩ := R.ow i d e
    exact ⟨a, e1, h1.mv m fun w hw => by rw [upd_ne (fun z : a = D => h3 (z ▸ h))]; exact hw, h2, h3⟩
  · obtain ⟨a, e1, h1⟩ := R.st n o e
    exact ⟨a, e1, h1.mv m fun w hw => by rw [upd_ne (fun z : a = D => R.no a (List.mem_of_getElem? e1) (z ▸ h))]; exact hw⟩
  · by_cases q : a = D
    · rw [q, upd_same]; exact fun z => nomatch z
    · rw [upd_ne q]; exact R.ot a z
/-- what nobody holds yet stays -/
theorem Rel.outKeep (R : Rel K mg φ out ρ S σ H) {D : Addr} {w : HO} (h : out D) (e : H D = some w) (t : Stp φ ρ σ H φ' ρ' σ' H') : H' D = some w :=
  t.fr D w e (fun z => R.no D z h) fun ⟨i, d, e1, e2⟩ => by
    obtain ⟨a, e3, _, _, q⟩ := R.ow i d e1
    rw [e2] at e3
    cases e3
    exact q h
/-- the slots come back -/
theorem Rel.back {is : List Nat} (R1 : Rel K mg φ1 out ρ1 S1 σ H1) (R2 : Rel K mg φ' out' ρ2 S2 (wipe σ is) H') (m : Mv φ1 φ' (exc φ1 out ρ1 σ) (exc φ' out' ρ2 (wipe σ is)) H1 H') (no : noOw is ρ1 = true) :
    Rel K mg φ' out' (backT is ρ1 ρ2) S2 σ H' ∧ (∀ b, ownA (backT is ρ1 ρ2) σ b → ownA ρ2 (wipe σ is) b) := by
  have hl : ρ2.length = ρ1.length := by rw [R2.len, wipe_length, R1.len]
  have g := fun (i : Nat) => backT_get (is := is) (ρ := ρ1) (ρ' := ρ2) (i := i) hl
  have nw : ∀ {i : Nat} {d : D}, (backT is ρ1 ρ2)[i]? = some (.ow d) → i ∉ is := fun {i d} e z => by
    rw [(g i).2.1 z] at e
    have := List.all_eq_true.mp no i z
    rw [e] at this
    cases this
  have keep : ∀ {i : Nat} {d : D}, (backT is ρ1 ρ2)[i]? = some (.ow d) → ρ2[i]? = some (.ow d) ∧ (wipe σ is)[i]? = σ[i]? := fun {i d} e => ⟨by rw [← (g i).1 (nw e)]; exact e, wipe_get (nw e)⟩
  have own : ∀ b, ownA (backT is ρ1 ρ2) σ b → ownA ρ2 (wipe σ is) b := fun b ⟨j, d, e1, e2⟩ => by
    obtain ⟨q1, q2⟩ := keep e1
    exact ⟨j, d, q1, q2.trans e2⟩
  have m2 : Mv φ' φ' (exc φ' out' ρ2 (wipe σ is)) (exc φ' out' (backT is ρ1 ρ2) σ) H' H' := own_mv own
  refine ⟨⟨by rw [(g 0).2.2]; exact R1.len, fun j d e => ?_, fun j d e => ?_, fun a b c d e q1 q2 q3 q4 => ?_, fun n ob e => ?_, R2.sl, R2.nd, R2.no, R2.ot⟩, own⟩
  · by_cases z : j ∈ is
    · rw [(g j).2.1 z] at e
      obtain ⟨v, e1, h⟩ := R1.va j d e
      exact ⟨v, e1, (h.mv m).mv m2⟩
    · rw [(g j).1 z] at e
      obtain ⟨v, e1, h⟩ := R2.va j d e
      exact ⟨v, (wipe_get z).symm.trans e1, h.mv m2⟩
  · obtain ⟨q1, q2⟩ := keep e
    obtain ⟨a, e1, h1, h2⟩ := R2.ow j d q1
    exact ⟨a, q2.symm.trans e1, h1.mv m2 fun _ q => q, h2⟩
  · obtain ⟨r1, s1⟩ := keep q1
    obtain ⟨r2, s2⟩ := keep q2
    exact R2.owi a b c d e r1 r2 (s1.trans q3) (s2.trans q4)
  · obtain ⟨a, e1, h1⟩ := R2.st n ob e
    exact ⟨a, e1, h1.mv m2 fun _ q => q⟩
end
theorem wipe_in : ∀ {is : List Nat} {σ : L2.St} {i : Nat}, i ∈ is → i < σ.length → (wipe σ is)[i]? = some none
  | [], _, _, h, _ => nomatch h
  | j :: is, σ, i, h, hl => by
    show ((wipe σ is).set j none)[i]? = _
    by_cases z : j = i
    · subst z
      exact List.getElem?_set_self (by rw [wipe_length]; exact hl)
    · rw [List.getElem?_set_ne z]
      rcases List.mem_cons.mp h with q | q
      · exact absurd q.symm z
      · exact wipe_in q hl
theorem wipe_same {is : List Nat} {σ σ' : L2.St} (h : ∀ i, i ∉ is → σ'[i]? = σ[i]?) (hl : σ'.length = σ.length) : wipe σ' is = wipe σ is := by
  apply List.ext_getElem?
  intro i
  by_cases z : i ∈ is
  · by_cases q : i < σ.length
    · rw [wipe_in z (hl ▸ q), wipe_in z q]
    · rw [List.getElem?_eq_none (by rw [wipe_length, hl]; omega), List.getElem?_eq_none (by rw [wipe_length]; omega)]
  · rw [wipe_get z, wipe_get z, h i z]
theorem wipe_idem {is : List Nat} {σ : L2.St} : wipe (wipe σ is) is = wipe σ is := wipe_same (fun _ h => wipe_get h) (wipe_length ..)

section
variable (T : Tab) (k : Nat) (X : Cx)
abbrev evc (c : List CE) (ρ : Env') (S : Sto) := evC T.G (callK T.G T.F T.M k) T.M c ρ S
def TCv (cs : List CE) : TT := fun σ H Q => ∃ φ out ρ S b ρ' S', Rel X.K X.mg φ out ρ S σ H ∧ evc T k cs ρ S = some (b, ρ', S') ∧ ∀ H' φ', Stp φ ρ σ H φ' ρ' σ H' → Rel X.K X.mg φ' out ρ' S' σ H' → Q b H'
abbrev lcOne (elt : CE) (cs : List CE) : Env' → Sto → Option (Option D × Env' × Sto) := fun ρ S => bnd (evc T k cs ρ S) fun b ρ S => (match b with
        | true => bnd (ev T k elt ρ S) fun x ρ S => obd x.d fun d => some (some d, ρ, S)
        | false => some (none, ρ, S))
end
section
variable {T : Tab} {k : Nat} {X : Cx} {φ : List Addr} {out : Addr → Prop} {ρ ρ1 ρ' : Env'} {S S1 S' : Sto} {σ : L2.St} {H : Hp}
theorem lcOne_inv {elt : CE} {cs : List CE} {r : Option D × Env' × Sto} (e : lcOne T k elt cs ρ S = some r) : ∃ b ρ2 S2, evc T k cs ρ S = some (b, ρ2, S2) ∧ ((b = false ∧ r = (none, ρ2, S2)) ∨ (b = true ∧ ∃ x ρ3 S3 d, ev T k elt ρ2 S2 = some (x, ρ3, S3) ∧ x.d = some d ∧ r = (some d, ρ3, S3))) := by
  obtain ⟨b, ρ2, S2, e1, e2⟩ := bnd_inv e
  refine ⟨b, ρ2, S2, e1, ?_⟩
  cases b with
  | false => exact .inl ⟨rfl, (Option.some.inj e2).symm⟩
  | true =>
    obtain ⟨x, ρ3, S3, e3, e4⟩ := bnd_inv e2
    obtain ⟨d, e5, e6⟩ := obd_inv e4
    exact .inr ⟨rfl, x, ρ3, S3, d, e3, e5, (Option.some.inj e6).symm⟩
theorem lcL_cons {tg : Tg} {one : Env' → Sto → Option (Option D × Env' × Sto)} {d : D} {ds acc : List D} {q : List D × Env' × Sto} (e : lcL tg one (d :: ds) acc ρ S = some q) :
    ∃ ρ1 r ρ2 S2, bindT tg d ρ = some ρ1 ∧ one ρ1 S = some (r, ρ2, S2) ∧ ((r = none ∧ lcL tg one ds acc (wipeT tg.ixs ρ2) S2 = some q) ∨ ∃ x, r = some x ∧ acc.length < sizeLine ∧ lcL tg one ds (acc ++ [x]) (wipeT tg.ixs ρ2) S2 = some q) := by
  obtain ⟨ρ1, e1, e2⟩ := obd_inv e
  obtain ⟨r, ρ2, S2, e3, e4⟩ := bnd_inv e2
  refine ⟨ρ1, r, ρ2, S2, e1, e3, ?_⟩
  cases r with
  | none => exact .inl ⟨rfl, e4⟩
  | some x =>
    dsimp only at e4
    split at e4
    · rename_i h
      exact .inr ⟨x, rfl, h, e4⟩
    · cases e4
/-- [elt for tg in it if ..] -/
theorem lc_sound {it : It'} {tg : Tg} {elt : CE} {cs : List CE} {ds r : List D} {Q : VK} (R : Rel X.K X.mg φ out ρ S σ H) (ei : evi T k it ρ S = some (ds, ρ1, S1)) (no : noOw tg.ixs ρ1 = true)
    (el : lcL tg (lcOne T k elt cs) ds [] (wipeT tg.ixs ρ1) S1 = some (r, ρ', S')) (q : ∀ v H' φ', Post X.K X.mg φ out ρ σ H (.fr (.lst r)) (backT tg.ixs ρ1 ρ') S' v H' φ' → Q v H') :
    tLc (TIv T k X it) (gT X.K tg) (TCv T k X cs) (TEv T k X elt) tg.ixs σ H Q := by
  refine ⟨φ, out, ρ, S, ds, ρ1, S1, R, ei, fun J H1 φ1 t1 R1 ok D hD => ?_⟩
  generalize hvs : tg.ixs = vs at no el q ⊢
  let out2 : Addr → Prop := fun b => out b ∨ b = D
  let W : Nat → Nat → Hp → Prop := fun i m Hc => m = ds.length - i ∧ i ≤ ds.length ∧ ∃ φ' ρ2 S2 acc vacc, Rel X.K X.mg φ' out2 ρ2 S2 (wipe σ vs) Hc ∧ Stp φ1 ρ1 σ H1 φ' ρ2 (wipe σ vs) Hc ∧ Hc D = some (.lst vacc) ∧
    RepVs X.K X.mg φ' (exc φ' out2 ρ2 (wipe σ vs)) Hc acc vacc ∧ lcL tg (lcOne T k elt cs) (ds.drop i) acc ρ2 S2 = some (r, ρ', S')
  have ho : ∀ a, out2 a → out a ∨ H1 a = none := fun a (z : out a ∨ a = D) => z.elim .inl fun (z : a = D) => .inr (by rw [z]; exact hD)
  refine ⟨W, ⟨ds.length, by omega, Nat.zero_le _, φ1, wipeT vs ρ1, S1, [], [], ?_, ?_, upd_same, .nil, el⟩, ?_⟩
  · exact ((R1.wiped (is := vs) (fun i hi => wipe_get hi) (wipe_length ..)).1).newOut hD
  · exact (own_stp (R1.wiped (is := vs) (fun i hi => wipe_get hi) (wipe_length ..)).2).trans (new_stp hD)
  rintro i m Hc ⟨rfl, hi, φ', ρ2, S2, acc, vacc, Rc, tc, eD, ra, e⟩
  have mc := tc.mv R1 ho
  have oks := ok φ' _ Hc mc (fun b z => Rc.ex_some z) i
  by_cases hlt : i < ds.length
  · right
    have ed : ds[i]? = some ds[i] := List.getElem?_eq_getElem hlt
    obtain ⟨go, yld⟩ := oks.1 _ ed
    refine ⟨go, fun H' => W (i + 1) (ds.length - (i + 1)) H', fun H' w => ⟨_, by omega, w⟩, fun x H' y => ?_⟩
    rw [List.drop_eq_getElem_cons hlt] at e
    obtain ⟨ρ3, w, ρ4, S4, e1, e2, e3⟩ := lcL_cons e
    rw [hvs] at e3
    have turn : ∀ H', Rel X.K X.mg φ' out2 ρ2 S2 (wipe σ vs) H' → Stp φ1 ρ1 σ H1 φ' ρ2 (wipe σ vs) H' → H' D = some (.lst vacc) → RepVs X.K X.mg φ' (exc φ' out2 ρ2 (wipe σ vs)) H' acc vacc → RepV X.K X.mg φ' (exc φ' out2 ρ2 (wipe σ vs)) H' ds[i] x →
        gT X.K tg x (wipe σ vs) H' fun σ2 H2 => wipe σ2 vs = wipe σ vs ∧ TCv T k X cs σ2 H2 fun b H3 =>
          if b = true then TEv T k X elt σ2 H3 fun y H4 => ∃ acc, H4 D = some (.lst acc) ∧ acc.length < sizeLine ∧ W (i + 1) (ds.length - (i + 1)) (upd H4 D (.lst (acc ++ [y]))) else W (i + 1) (ds.length - (i + 1)) H3 := by
      intro H' R' t' eD' ra' rx
      refine bind_ok R' rx e1 fun σ2 R2 own2 same len => ?_
      rw [hvs] at same
      have hw : wipe σ2 vs = wipe σ vs := by rw [wipe_same same len, wipe_idem]
      have t2 : Stp φ1 ρ1 σ H1 φ' ρ3 σ2 H' := t'.trans (own_stp own2)
      have ra2 := ra'.mv (own_mv (φ := φ') (out := out2) (H := H') own2)
      refine ⟨hw, ?_⟩
      obtain ⟨b, ρ5, S5, c1, c2⟩ := lcOne_inv e2
      refine ⟨φ', out2, ρ3, S2, b, ρ5, S5, R2, c1, fun H3 φ3 t3 R3 => ?_⟩
      have hD2 : out2 D := .inr rfl
      have eD3 := R2.outKeep hD2 eD' t3
      have ra3 := ra2.mv (t3.mv R2 fun _ z => .inl z)
      have wp : ∀ {φ4 ρ6 S6 H4}, Rel X.K X.mg φ4 out2 ρ6 S6 σ2 H4 → Rel X.K X.mg φ4 out2 (wipeT vs ρ6) S6 (wipe σ vs) H4 ∧ ∀ b, ownA (wipeT vs ρ6) (wipe σ vs) b → ownA ρ6 σ2 b := fun {φ4 ρ6 S6 H4} R6 =>
        R6.wiped (is := vs) (fun i hi => by rw [← hw]; exact wipe_get hi) (by rw [← hw]; exact wipe_length ..)
      rcases c2 with ⟨rfl, c2⟩ | ⟨rfl, x, ρ6, S6, d, c3, c4, c2⟩
      · cases c2
        rcases e3 with ⟨_, e3⟩ | ⟨_, z, _⟩
        · obtain ⟨R6, own6⟩ := wp R3
          show W (i + 1) (ds.length - (i + 1)) H3
          exact ⟨rfl, hlt, φ3, wipeT vs ρ4, S4, acc, vacc, R6, (t2.trans t3).trans (own_stp own6), eD3, ra3.mv (own_mv own6), e3⟩
        · cases z
      · cases c2
        rcases e3 with ⟨z, _⟩ | ⟨x', z, hz, e3⟩
        · cases z
        · cases z
          show TEv T k X elt σ2 H3 _
          refine ⟨φ3, out2, ρ5, S5, x, _, _, R3, c3, fun y H4 φ4 p => ?_⟩
          have eD4 := R3.outKeep hD2 eD3 p.stp
          have ra4 := ra3.mv (p.stp.mv R3 fun _ z => .inl z)
          have ry := ROp.toV p.rel p.val c4
          refine ⟨vacc, eD4, by rw [← ra4.length]; exact hz, rfl, hlt, φ4, wipeT vs ρ4, S4, acc ++ [d], vacc ++ [y], ?_, ?_, upd_same, ?_, e3⟩
          · exact (wp (p.rel.outUpd hD2)).1
          · exact (((t2.trans t3).trans p.stp).outUpd hD).trans (own_stp (wp (p.rel.outUpd (ho := .lst (vacc ++ [y])) hD2)).2)
          · exact ((ra4.app (.cons ry .nil)).mv (upd_mv (ho := .lst (vacc ++ [y])) (.inr (.inl hD2)))).mv (own_mv (wp (p.rel.outUpd (ho := .lst (vacc ++ [y])) hD2)).2)
    rcases yld x H' y with ⟨rfl, rx⟩ | ⟨p, o, hp, rfl, rx⟩
    · exact turn _ Rc tc eD ra rx
    · refine turn _ (Rc.new hp) (tc.trans (new_stp hp)) ?_ (ra.mv (new_mv hp)) rx
      rw [upd_ne (fun z => by rw [z, hp] at eD; cases eD)]
      exact eD
  · left
    have hi' : i = ds.length := by omega
    refine ⟨oks.2 hi', q _ _ φ' ?_⟩
    rw [hi', List.drop_length] at e
    cases e
    obtain ⟨R9, own9⟩ := R1.back Rc mc no
    have hHD : H D = none := Classical.byContradiction fun z => t1.kp D z hD
    refine ⟨(t1.trans tc).trans (own_stp own9), R9.less fun _ z => .inl z, D, rfl, R9, ⟨vacc, eD, ra.mv (own_mv own9)⟩, fun z => R1.ot D z hD, .inl hHD⟩
end
end Sk

/-! Sk9: each form of an expression. -/
namespace Sk
open PySem PySem.Spec PyProof.Rows L2

theorem peC {X : Cx} {e : Expr} {t t' : TE} (h : PE X e t) (c : ∀ σ H Q, t' σ H Q → t σ H Q) : PE X e t' := ⟨fun pins s σ H Q I q => h.run pins s σ H Q I (c σ H Q q)⟩
theorem ptC {X : Cx} {e : Expr} {t t' : TT} (h : PT X e t) (c : ∀ σ H Q, t' σ H Q → t σ H Q) : PT X e t' := ⟨fun pins s σ H Q I q => h.run pins s σ H Q I (c σ H Q q)⟩
theorem pwC {X : Cx} {e : Expr} {t t' : TT} (h : PW X e t) (c : ∀ σ H Q, t' σ H Q → t σ H Q) : PW X e t' := ⟨fun w pins s σ H Q I q => h.run w pins s σ H Q I (c σ H Q q)⟩
theorem paC {X : Cx} {e : List Expr} {t t' : TA} (h : PA X e t) (c : ∀ σ H Q, t' σ H Q → t σ H Q) : PA X e t' := ⟨fun p pins s σ H Q I q => h.run p pins s σ H Q I (c σ H Q q)⟩
theorem poC {X : Cx} {e : Option Expr} {t t' : TO} (h : PO X e t) (c : ∀ σ H Q, t' σ H Q → t σ H Q) : PO X e t' := ⟨fun pins s σ H Q I q => h.run pins s σ H Q I (c σ H Q q)⟩
theorem piC {X : Cx} {tg e : Expr} {t t' : TI} (h : PI X tg e t) (c : ∀ σ H Q, t' σ H Q → t σ H Q) : PI X tg e t' := ⟨fun pins s σ H Q I q => h.run pins s σ H Q I (c σ H Q q)⟩

def plainT : Expr → Bool
  | .UnaryOp .Not _ _ => false
  | .BoolOp .. => false
  | .IfExp .. => false
  | .Compare .. => false
  | _ => true
theorem isTrue_of {e : Expr} {env : Env} (h : plainT e = true) (whole : Sem Value) : isTrue e env whole = (do let v ← whole; standAt e.pos; holding [v] (truthy v)) := by
  cases e with
  | UnaryOp op x p =>
    cases op <;> first
      | rfl
      | cases h
  | BoolOp _ _ _ => cases h
  | IfExp _ _ _ _ => cases h
  | Compare _ _ _ _ => cases h
  | _ => rfl

/-- what is shown of an expression's compact text -/
structure SE (T : Tab) (k : Nat) (c : CE) : Prop where
  pe : ∀ X sc e, Good T k X sc → mE sc X.N c e = true → PE X e (TEv T k X c)
  pt : ∀ X sc e, Good T k X sc → mE sc X.N c e = true → PT X e (TTv T k X c)
  pw : ∀ X sc op vs p, Good T k X sc → mE sc X.N c (.BoolOp op vs p) = true → PW X (.BoolOp op vs p) (TTv T k X c)
structure SI (T : Tab) (k : Nat) (c : It') : Prop where
  pi : ∀ X sc e t, Good T k X sc → mI sc X.N c e t = true → PI X t e (TIv T k X c) ∧ ∀ x, foldedSetIterable e X.env x = pure x
section
variable {T : Tab} {k : Nat} {c a b d : CE}
theorem pt_of {X : Cx} {e : Expr} (h : PE X e (TEv T k X c)) (p : plainT e = true) : PT X e (TTv T k X c) := by
  refine ptC (pt_val h (isTrue_of p)) fun σ H Q ⟨φ, out, ρ, S, b, ρ', S', R, e, q⟩ => ⟨φ, out, ρ, S, _, ρ', S', R, e, fun v H' φ' po => ?_⟩
  exact ⟨b, RepV.toBl po.val, q H' φ' po.stp po.rel⟩
theorem SE.plain (pe : ∀ X sc e, Good T k X sc → mE sc X.N c e = true → PE X e (TEv T k X c)) (h : ∀ sc N e, mE sc N c e = true → plainT e = true) : SE T k c :=
  ⟨pe, fun X sc e g m => pt_of (pe X sc e g m) (h _ _ _ m), fun X sc op vs p g m => absurd (h _ _ _ m) Bool.false_ne_true⟩
/-- no test is asked of it -/
theorem SE.cmp' (pe : ∀ X sc e, Good T k X sc → mE sc X.N c e = true → PE X e (TEv T k X c)) (pt : ∀ X sc e, Good T k X sc → mE sc X.N c e = true → PT X e (TTv T k X c)) (h : ∀ sc N op vs p, mE sc N c (.BoolOp op vs p) = true → False) : SE T k c :=
  ⟨pe, pt, fun X sc op vs p g m => (h _ _ _ _ _ m).elim⟩

/-! ### names, constants -/
theorem k_var {i : Nat} : SE T k (.var i) := by
  refine .plain (fun X sc e g h => ?_) fun sc N e h => ?_
  · cases e with
    | Name x p =>
      have h' : (decide (X.N[i]? = some x) && visB sc x && okName x) = true := h
      simp only [Bool.and_eq_true, decide_eq_true_eq] at h'
      obtain ⟨⟨hN, hv⟩, hk⟩ := h'
      obtain ⟨d1, d2⟩ := okName_ne hk
      refine peC (pe_var hN (g.vis hv) d1 d2) fun σ H Q ⟨φ, out, ρ, S, o, ρ', S', R, e, q⟩ => ?_
      have e' : (match ρ[i]? with
        | some (.va d) => some (Op.fz d, ρ, S)
        | _ => none) = some (o, ρ', S') := e
      cases hi : ρ[i]? with
      | none => rw [hi] at e'; cases e'
      | some s =>
        rw [hi] at e'
        cases s with
        | va d =>
          cases e'
          obtain ⟨v, e1, h1⟩ := R.va i d hi
          exact ⟨v, e1, q v H φ (endFz .refl R h1)⟩
        | _ => cases e'
    | _ => cases h
  · cases e <;> first
      | rfl
      | cases h
theorem k_rd {i : Nat} : SE T k (.rd i) := by
  refine .plain (fun X sc e g h => ?_) fun sc N e h => ?_
  · cases e with
    | Name x p =>
      have h' : (decide (X.N[i]? = some x) && visB sc x && okName x) = true := h
      simp only [Bool.and_eq_true, decide_eq_true_eq] at h'
      obtain ⟨⟨hN, hv⟩, hk⟩ := h'
      obtain ⟨d1, d2⟩ := okName_ne hk
      refine peC (pe_var hN (g.vis hv) d1 d2) fun σ H Q ⟨φ, out, ρ, S, o, ρ', S', R, e, q⟩ => ?_
      have e' : (match ρ[i]? with
        | some (.ow _) => some (Op.sl i, ρ, S)
        | some (.va d) => some (Op.fz d, ρ, S)
        | _ => none) = some (o, ρ', S') := e
      cases hi : ρ[i]? with
      | none => rw [hi] at e'; cases e'
      | some s =>
        rw [hi] at e'
        cases s with
        | va d =>
          cases e'
          obtain ⟨v, e1, h1⟩ := R.va i d hi
          exact ⟨v, e1, q v H φ (endFz .refl R h1)⟩
        | ow d =>
          cases e'
          obtain ⟨a, e1, h1, _⟩ := R.ow i d hi
          exact ⟨_, e1, q _ H φ ⟨.refl, R, a, d, hi, e1, rfl⟩⟩
        | _ => cases e'
    | _ => cases h
  · cases e <;> first
      | rfl
      | cases h
theorem Rel.moved {K : PySem.W.Frag} {mg : Str → Option Value} {φ : List Addr} {out : Addr → Prop} {ρ : Env'} {S : Sto} {σ : L2.St} {H : Hp} (R : Rel K mg φ out ρ S σ H) {i : Nat} {d : D} {a : Addr} (hi : ρ[i]? = some (.ow d)) (e1 : σ[i]? = some (some (.ref a))) :
    Rel K mg φ (fun b => out b ∨ b = a) (ρ.set i .no) S σ H ∧ ObjD K mg φ (exc φ (fun b => out b ∨ b = a) (ρ.set i .no) σ) H a d := by
  obtain ⟨a', e1', h1, h2, h3⟩ := R.ow i d hi
  rw [e1] at e1'
  cases e1'
  have hl : i < ρ.length := (List.getElem?_eq_some_iff.mp hi).1
  have sub : ∀ {j : Nat} {s : Sl}, (ρ.set i .no)[j]? = some s → s ≠ .no → i ≠ j ∧ ρ[j]? = some s := fun {j s} e n => by
    by_cases z : i = j
    · subst z
      rw [List.getElem?_set_self hl] at e
      exact absurd (Option.some.inj e).symm n
    · rw [List.getElem?_set_ne z] at e
      exact ⟨z, e⟩
  have m : Mv φ φ (exc φ out ρ σ) (exc φ (fun b => out b ∨ b = a) (ρ.set i .no) σ) H H := .less fun b z => by
    rcases z with z | (z | z) | ⟨j, x, q1, q2⟩
    · exact .inl z
    · exact .inr (.inl z)
    · exact .inr (.inr ⟨i, d, hi, z ▸ e1⟩)
    · exact .inr (.inr ⟨j, x, (sub q1 fun z => (nomatch z)).2, q2⟩)
  refine ⟨⟨by rw [List.length_set]; exact R.len, fun j x e => ?_, fun j x e => ?_, fun u v w x y q1 q2 q3 q4 => ?_, fun n ob e => ?_, R.sl, R.nd, fun b q z => ?_, fun b z => ?_⟩, h1.mv m fun _ q => q⟩
  · obtain ⟨v, q1, q2⟩ := R.va j x (sub e fun z => (nomatch z)).2
    exact ⟨v, q1, q2.mv m⟩
  · obtain ⟨z, e'⟩ := sub e fun z => (nomatch z)
    obtain ⟨b, q1, q2, q3, q4⟩ := R.ow j x e'
    exact ⟨b, q1, q2.mv m fun _ q => q, q3, fun w => w.elim q4 fun w => z (R.owi i j a _ _ hi e' e1 (w ▸ q1))⟩
  · exact R.owi u v w x y (sub q1 fun z => (nomatch z)).2 (sub q2 fun z => (nomatch z)).2 q3 q4
  · obtain ⟨b, q1, q2⟩ := R.st n ob e
    exact ⟨b, q1, q2.mv m fun _ q => q⟩
  · rcases z with z | z
    · exact R.no b q z
    · exact h2 (z ▸ q)
  · rcases z with z | z
    · exact R.ot b z
    · rw [z]; exact h1.some
theorem k_mv {i : Nat} : SE T k (.mv i) := by
  refine .plain (fun X sc e g h => ?_) fun sc N e h => ?_
  · cases e with
    | Name x p =>
      have h' : (decide (X.N[i]? = some x) && visB sc x && okName x) = true := h
      simp only [Bool.and_eq_true, decide_eq_true_eq] at h'
      obtain ⟨⟨hN, hv⟩, hk⟩ := h'
      obtain ⟨d1, d2⟩ := okName_ne hk
      refine peC (pe_var hN (g.vis hv) d1 d2) fun σ H Q ⟨φ, out, ρ, S, o, ρ', S', R, e, q⟩ => ?_
      have e' : (match ρ[i]? with
        | some (.ow d) => some (Op.fr d, ρ.set i .no, S)
        | _ => none) = some (o, ρ', S') := e
      cases hi : ρ[i]? with
      | none => rw [hi] at e'; cases e'
      | some s =>
        rw [hi] at e'
        cases s with
        | ow d =>
          cases e'
          obtain ⟨a, e1, h1, h2, h3⟩ := R.ow i d hi
          obtain ⟨R2, h4⟩ := R.moved hi e1
          have own : ∀ b, ownA (ρ.set i .no) σ b → ownA ρ σ b := fun b ⟨j, x, q1, q2⟩ => by
            by_cases z : i = j
            · subst z
              rw [List.getElem?_set_self (List.getElem?_eq_some_iff.mp hi).1] at q1
              cases q1
            · rw [List.getElem?_set_ne z] at q1
              exact ⟨j, x, q1, q2⟩
          exact ⟨_, e1, q _ H φ ⟨own_stp own, R2.less fun _ z => .inl z, a, rfl, R2, h4, h3, .inr ⟨i, d, hi, e1⟩⟩⟩
        | _ => cases e'
    | _ => cases h
  · cases e <;> first
      | rfl
      | cases h
theorem const_done {X : Cx} {σ : L2.St} {H : Hp} {Q : VK} {d : D} {v : V} (hc : ∀ ρ S, ev T k c ρ S = some (.fz d, ρ, S)) (hv : ∀ φ ex H, RepV X.K X.mg φ ex H d v) (h : TEv T k X c σ H Q) : Q v H := by
  obtain ⟨φ, out, ρ, S, o, ρ', S', R, e, q⟩ := h
  rw [hc] at e
  cases e
  exact q v H φ (endFz .refl R (hv _ _ _))
theorem k_non : SE T k .non := by
  refine .plain (fun X sc e g h => ?_) fun sc N e h => ?_
  · cases e with
    | Constant v j p =>
      cases v with
      | none => exact peC pe_non fun σ H Q h => const_done (fun _ _ => rfl) (fun _ _ _ => .non) h
      | _ => cases h
    | _ => cases h
  · cases e <;> first
      | rfl
      | cases h
theorem k_bl {b : Bool} : SE T k (.bl b) := by
  refine .plain (fun X sc e g h => ?_) fun sc N e h => ?_
  · cases e with
    | Constant v j p =>
      cases v with
      | bool c =>
        have h' : (b == c) = true := h
        simp only [beq_iff_eq] at h'
        subst h'
        exact peC pe_bl fun σ H Q h => const_done (fun _ _ => rfl) (fun _ _ _ => .bl _) h
      | _ => cases h
    | _ => cases h
  · cases e <;> first
      | rfl
      | cases h
theorem k_int {b : Int} : SE T k (.int b) := by
  refine .plain (fun X sc e g h => ?_) fun sc N e h => ?_
  · cases e with
    | Constant v j p =>
      cases v with
      | int c =>
        have h' : decide (b = c) = true := h
        simp only [decide_eq_true_eq] at h'
        subst h'
        exact peC pe_int fun σ H Q h => const_done (fun _ _ => rfl) (fun _ _ _ => .int _) h
      | _ => cases h
    | _ => cases h
  · cases e <;> first
      | rfl
      | cases h
theorem k_str {b : Str} : SE T k (.str b) := by
  refine .plain (fun X sc e g h => ?_) fun sc N e h => ?_
  · cases e with
    | Constant v j p =>
      cases v with
      | str c =>
        have h' : decide (b = c) = true := h
        simp only [decide_eq_true_eq] at h'
        subst h'
        exact peC pe_str fun σ H Q h => const_done (fun _ _ => rfl) (fun _ _ _ => .str _) h
      | _ => cases h
    | _ => cases h
  · cases e <;> first
      | rfl
      | cases h
theorem k_glo {x : Str} : SE T k (.glo x) := by
  refine .plain (fun X sc e g h => ?_) fun sc N e h => ?_
  · cases e with
    | Name y p =>
      have h' : (decide (x = y) && gloB sc y) = true := h
      simp only [Bool.and_eq_true, decide_eq_true_eq] at h'
      obtain ⟨rfl, hg⟩ := h'
      obtain ⟨g1, g2, g3, g4⟩ := g.gl hg
      cases hG : T.G x with
      | none =>
        refine ⟨fun pins s σ H Q I q => ?_⟩
        obtain ⟨φ, out, ρ, S, o, ρ', S', R, e, q⟩ := q
        have e' : obd (T.G x) (fun d => some (Op.fz d, ρ, S)) = some (o, ρ', S') := e
        rw [hG] at e'
        cases e'
      | some d =>
        obtain ⟨u, v, m, r, hr⟩ := g.G x d hG
        refine peC (pe_glob g1 m r g2) fun σ H Q h => const_done (c := .glo x) (d := d) (fun ρ S => ?_) hr h
        show obd (T.G x) _ = _
        rw [hG]
        rfl
    | _ => cases h
  · cases e <;> first
      | rfl
      | cases h

/-! ### operators -/
theorem k_bop {o : BO} (sa : SE T k a) (sb : SE T k b) : SE T k (.bop o a b) := by
  refine .plain (fun X sc e g h => ?_) fun sc N e h => ?_
  · cases e with
    | BinOp l op r p =>
      have h' : (decide (opOf o = op) && mE sc X.N a l && mE sc X.N b r) = true := h
      simp only [Bool.and_eq_true, decide_eq_true_eq] at h'
      obtain ⟨⟨rfl, h1⟩, h2⟩ := h'
      refine peC (pe_op (op_any X _) (sa.pe X sc l g h1) (sb.pe X sc r g h2)) fun σ H Q ⟨φ, out, ρ, S, o, ρ', S', R, e, q⟩ => ?_
      simp only [ev, evE] at e
      obtain ⟨x, ρ1, S1, ea, e⟩ := bnd_inv e
      obtain ⟨y, ρ2, S2, eb, e⟩ := bnd_inv e
      obtain ⟨dx, ex, e⟩ := obd_inv e
      obtain ⟨dy, ey, e⟩ := obd_inv e
      obtain ⟨w, er, e⟩ := obd_inv e
      cases e
      refine two R ea eb fun v u H2 φ2 t R2 hv hu => ?_
      exact bop_rule (cont_ok R2 hv ex) (cont_ok R2 hu ey) er (resEnd (bop_fr er).1 (bop_fr er).2 t R2 q)
    | _ => cases h
  · cases e <;> first
      | rfl
      | cases h
theorem k_neg (sa : SE T k a) : SE T k (.neg a) := by
  refine .plain (fun X sc e g h => ?_) fun sc N e h => ?_
  · cases e with
    | UnaryOp op x p =>
      cases op with
      | USub =>
        have h' : mE sc X.N a x = true := h
        refine peC (pe_un un_neg (sa.pe X sc x g h')) fun σ H Q ⟨φ, out, ρ, S, o, ρ', S', R, e, q⟩ => ?_
        simp only [ev, evE] at e
        obtain ⟨x, ρ1, S1, ea, e⟩ := bnd_inv e
        split at e
        · cases e
          refine one R ea fun v H1 φ1 p1 => ?_
          exact ⟨_, RepV.toInt p1.val, q _ _ _ (endFz p1.stp p1.rel (.int _))⟩
        · cases e
      | _ => cases h
    | _ => cases h
  · cases e with
    | UnaryOp op x p =>
      cases op <;> first
        | rfl
        | cases h
    | _ => cases h
theorem k_cmp {o : CO} (sa : SE T k a) (sb : SE T k b) : SE T k (.cmp o a b) := by
  refine .cmp' (fun X sc e g h => ?_) (fun X sc e g h => ?_) fun sc N op vs p h => by cases h
  all_goals
    unfold mE at h
    split at h
    · rename_i l op r p
      simp only [Bool.and_eq_true, decide_eq_true_eq, Bool.not_eq_true'] at h
      obtain ⟨⟨⟨rfl, h1⟩, h2⟩, h3⟩ := h
      first
        | (refine peC (pe_cmpR (op_any X _) (sa.pe X sc l g h1) (sb.pe X sc r g h2) h3) fun σ H Q ⟨φ, out, ρ, S, o, ρ', S', R, e, q⟩ => ?_
           simp only [ev, evE] at e
           obtain ⟨x, ρ1, S1, ea, e⟩ := bnd_inv e
           obtain ⟨y, ρ2, S2, eb, e⟩ := bnd_inv e
           obtain ⟨dx, ex, e⟩ := obd_inv e
           obtain ⟨dy, ey, e⟩ := obd_inv e
           obtain ⟨w, er, e⟩ := obd_inv e
           cases e
           exact two R ea eb fun v u H2 φ2 t R2 hv hu => cmp_rule g.hu (look_ok R2 hv ex) (look_ok R2 hu ey) er (q _ _ _ (endFz t R2 (.bl _))))
        | (refine ptC (pt_cmpR (op_any X _) (sa.pe X sc l g h1) (sb.pe X sc r g h2) h3) fun σ H Q ⟨φ, out, ρ, S, o, ρ', S', R, e, q⟩ => ?_
           simp only [ev, evE] at e
           obtain ⟨x, ρ1, S1, ea, e⟩ := bnd_inv e
           obtain ⟨y, ρ2, S2, eb, e⟩ := bnd_inv e
           obtain ⟨dx, ex, e⟩ := obd_inv e
           obtain ⟨dy, ey, e⟩ := obd_inv e
           obtain ⟨w, er, e⟩ := obd_inv e
           cases e
           exact two R ea eb fun v u H2 φ2 t R2 hv hu => cmp_rule g.hu (look_ok R2 hv ex) (look_ok R2 hu ey) er ⟨_, rfl, q _ _ t R2⟩)
    · cases h
end
end Sk

/-! Sk10: tests, items, displays. -/
namespace Sk
open PySem PySem.Spec PyProof.Rows L2

theorem Post.trans {K : PySem.W.Frag} {mg : Str → Option Value} {φ φ1 φ' : List Addr} {out : Addr → Prop} {ρ ρ1 ρ' : Env'} {S' : Sto} {σ : L2.St} {H H1 H' : Hp} {o : Op} {v : V} (t : Stp φ ρ σ H φ1 ρ1 σ H1)
    (p : Post K mg φ1 out ρ1 σ H1 o ρ' S' v H' φ') : Post K mg φ out ρ σ H o ρ' S' v H' φ' := by
  refine ⟨t.trans p.stp, p.rel, ?_⟩
  have h := p.val
  cases o with
  | fz d => exact h
  | sl i => exact h
  | fr d =>
    obtain ⟨a, e, h1, h2, h3, h4⟩ := h
    have back : H1 a = none → H a = none := fun hc => Classical.byContradiction fun z => t.kp a z hc
    refine ⟨a, e, h1, h2, h3, ?_⟩
    rcases h4 with h4 | h4
    · exact .inl (back h4)
    · exact (t.on a h4).elim .inr .inl
section
variable {T : Tab} {k : Nat} {c a b d : CE}
theorem k_no (sa : SE T k a) : SE T k (.no a) := by
  refine .cmp' (fun X sc e g h => ?_) (fun X sc e g h => ?_) fun sc N op vs p h => by cases h
  all_goals
    unfold mE at h
    split at h
    · rename_i x p
      first
        | (refine peC (pe_not (sa.pe X sc x g h)) fun σ H Q ⟨φ, out, ρ, S, o, ρ', S', R, e, q⟩ => ?_
           simp only [ev, evE] at e
           obtain ⟨x, ρ1, S1, ea, e⟩ := bnd_inv e
           split at e
           · cases e
             exact one R ea fun v H1 φ1 p1 => ⟨_, RepV.toBl p1.val, q _ _ _ (endFz p1.stp p1.rel (.bl _))⟩
           · cases e)
        | (refine ptC (pt_not (sa.pt X sc x g h)) fun σ H Q ⟨φ, out, ρ, S, o, ρ', S', R, e, q⟩ => ?_
           simp only [ev, evE] at e
           obtain ⟨x, ρ1, S1, ea, e⟩ := bnd_inv e
           split at e
           · cases e
             exact ⟨φ, out, ρ, S, _, _, _, R, ea, fun H' φ' t R' => q H' φ' t R'⟩
           · cases e)
    · cases h
theorem pt_ifExp {X : Cx} {x y z : Expr} {p : Pos} {tc ta tb : TT} (hc : PT X x tc) (ha : PT X y ta) (hb : PT X z tb) : PT X (.IfExp x y z p) (fun σ H Q => tc σ H fun c H1 => if c = true then ta σ H1 Q else tb σ H1 Q) :=
  ⟨fun pins s σ H Q I h => isTrue_IfExp (thn (hc.run pins s σ H _ I h) fun d s1 ⟨H1, I1, q1⟩ => by
    cases d with
    | true => exact ha.run pins s1 σ H1 Q I1 q1
    | false => exact hb.run pins s1 σ H1 Q I1 q1)⟩
theorem k_ite (sc' : SE T k c) (sa : SE T k a) (sb : SE T k b) : SE T k (.ite c a b) := by
  refine .cmp' (fun X sc e g h => ?_) (fun X sc e g h => ?_) fun sc N op vs p h => by cases h
  · unfold mE at h
    split at h
    · rename_i x y z p
      simp only [Bool.and_eq_true] at h
      obtain ⟨⟨h1, h2⟩, h3⟩ := h
      refine peC (pe_ifExp (sc'.pt X sc x g h1) (sa.pe X sc y g h2) (sb.pe X sc z g h3)) fun σ H Q ⟨φ, out, ρ, S, o, ρ', S', R, e, q⟩ => ?_
      simp only [ev, evE] at e
      obtain ⟨x, ρ1, S1, ea, e⟩ := bnd_inv e
      split at e
      · exact ⟨φ, out, ρ, S, true, ρ1, S1, R, ea, fun H' φ' t R' => one (T := T) (k := k) R' e fun v H2 φ2 p2 => q v H2 φ2 (p2.trans t)⟩
      · exact ⟨φ, out, ρ, S, false, ρ1, S1, R, ea, fun H' φ' t R' => one (T := T) (k := k) R' e fun v H2 φ2 p2 => q v H2 φ2 (p2.trans t)⟩
      · cases e
    · cases h
  · unfold mE at h
    split at h
    · rename_i x y z p
      simp only [Bool.and_eq_true] at h
      obtain ⟨⟨h1, h2⟩, h3⟩ := h
      refine ptC (pt_ifExp (sc'.pt X sc x g h1) (sa.pt X sc y g h2) (sb.pt X sc z g h3)) fun σ H Q ⟨φ, out, ρ, S, o, ρ', S', R, e, q⟩ => ?_
      simp only [ev, evE] at e
      obtain ⟨x, ρ1, S1, ea, e⟩ := bnd_inv e
      split at e
      · exact ⟨φ, out, ρ, S, true, ρ1, S1, R, ea, fun H' φ' t R' => ⟨φ', out, ρ1, S1, o, ρ', S', R', e, fun H2 φ2 t2 R2 => q H2 φ2 (t.trans t2) R2⟩⟩
      · exact ⟨φ, out, ρ, S, false, ρ1, S1, R, ea, fun H' φ' t R' => ⟨φ', out, ρ1, S1, o, ρ', S', R', e, fun H2 φ2 t2 R2 => q H2 φ2 (t.trans t2) R2⟩⟩
      · cases e
    · cases h
theorem chn_inv {o o' : CO} {ρ : Env'} {S : Sto} {r : Op × Env' × Sto} (e : ev T k (.chn o o' a b c) ρ S = some r) : ∃ x ρ1 S1 y ρ2 S2 dx dy v, ev T k a ρ S = some (x, ρ1, S1) ∧ ev T k b ρ1 S1 = some (y, ρ2, S2) ∧ look ρ2 S2 x = some dx ∧ look ρ2 S2 y = some dy ∧ cmpD o dx dy = some v ∧
    ((v = false ∧ r = (.fz (.bl false), ρ2, S2)) ∨ (v = true ∧ ∃ z ρ3 S3 dy' dz w, ev T k c ρ2 S2 = some (z, ρ3, S3) ∧ look ρ3 S3 y = some dy' ∧ look ρ3 S3 z = some dz ∧ cmpD o' dy' dz = some w ∧ r = (.fz (.bl w), ρ3, S3))) := by
  simp only [ev, evE] at e
  obtain ⟨x, ρ1, S1, ea, e⟩ := bnd_inv e
  obtain ⟨y, ρ2, S2, eb, e⟩ := bnd_inv e
  obtain ⟨dx, ex, e⟩ := obd_inv e
  obtain ⟨dy, ey, e⟩ := obd_inv e
  obtain ⟨v, er, e⟩ := obd_inv e
  refine ⟨x, ρ1, S1, y, ρ2, S2, dx, dy, v, ea, eb, ex, ey, er, ?_⟩
  cases v with
  | false => exact .inl ⟨rfl, (Option.some.inj e).symm⟩
  | true =>
    obtain ⟨z, ρ3, S3, ec, e⟩ := bnd_inv e
    obtain ⟨dy', ey', e⟩ := obd_inv e
    obtain ⟨dz, ez, e⟩ := obd_inv e
    obtain ⟨w, er', e⟩ := obd_inv e
    exact .inr ⟨rfl, z, ρ3, S3, dy', dz, w, ec, ey', ez, er', (Option.some.inj e).symm⟩
theorem chn_run {X : Cx} {sc : Scope} (g : Good T k X sc) {o o' : CO} {σ : L2.St} {H : Hp} {φ : List Addr} {out : Addr → Prop} {ρ ρ' : Env'} {S S' : Sto} {r : Op} {Q : VK} (R : Rel X.K X.mg φ out ρ S σ H) (e : ev T k (.chn o o' a b c) ρ S = some (r, ρ', S'))
    (q : ∀ bb H' φ', r = .fz (.bl bb) → Stp φ ρ σ H φ' ρ' σ H' → Rel X.K X.mg φ' out ρ' S' σ H' → Q (.bl bb) H') :
    tChain (anyR X (compareOp (copOf o))) (anyR X (compareOp (copOf o'))) (TEv T k X a) (TEv T k X b) (TEv T k X c) σ H Q := by
  obtain ⟨x, ρ1, S1, y, ρ2, S2, dx, dy, v, ea, eb, ex, ey, er, e⟩ := chn_inv e
  refine two R ea eb fun u w H2 φ2 t R2 hv hu => cmp_rule g.hu (look_ok R2 hv ex) (look_ok R2 hu ey) er ⟨v, rfl, ?_⟩
  rcases e with ⟨rfl, e⟩ | ⟨rfl, z, ρ3, S3, dy', dz, w', ec, ey', ez, er', e⟩
  · cases e
    rw [if_neg Bool.false_ne_true]
    exact q _ _ _ rfl t R2
  · cases e
    rw [if_pos rfl]
    refine one R2 ec fun z' H3 φ3 p3 => ?_
    have m := p3.stp.mv (out' := out) R2 fun _ z => .inl z
    exact cmp_rule g.hu (look_ok p3.rel (hu.mv m) ey') (look_ok p3.rel (p3.val.op p3.rel) ez) er' (q _ _ _ rfl (t.trans p3.stp) p3.rel)
theorem k_chn {o o' : CO} (sa : SE T k a) (sb : SE T k b) (sc' : SE T k c) : SE T k (.chn o o' a b c) := by
  refine .cmp' (fun X sc e g h => ?_) (fun X sc e g h => ?_) fun sc N op vs p h => by cases h
  all_goals
    unfold mE at h
    split at h
    · rename_i l op op' r r' p
      simp only [Bool.and_eq_true, decide_eq_true_eq, Bool.not_eq_true'] at h
      obtain ⟨⟨⟨⟨⟨rfl, rfl⟩, h1⟩, h2⟩, h3⟩, h4⟩ := h
      first
        | (refine peC (pe_chain (op_any X _) (op_any X _) (sa.pe X sc l g h1) (sb.pe X sc r g h2) (sc'.pe X sc r' g h3) h4) fun σ H Q ⟨φ, out, ρ, S, o, ρ', S', R, e, q⟩ => ?_
           exact chn_run g R e fun bb H' φ' er t R' => q _ _ _ (by rw [er]; exact endFz t R' (.bl _)))
        | (refine ptC (pt_chain (op_any X _) (op_any X _) (sa.pe X sc l g h1) (sb.pe X sc r g h2) (sc'.pe X sc r' g h3) h4) fun σ H Q ⟨φ, out, ρ, S, o, ρ', S', R, e, q⟩ => ?_
           exact chn_run g R e fun bb H' φ' er t R' => ⟨bb, rfl, by cases er; exact q _ _ t R'⟩)
    · cases h
theorem and_inv {ρ : Env'} {S : Sto} {r : Op × Env' × Sto} (e : ev T k (.and a b) ρ S = some r) : ∃ x ρ1 S1, ev T k a ρ S = some (.fz (.bl x), ρ1, S1) ∧ ((x = false ∧ r = (.fz (.bl false), ρ1, S1)) ∨ (x = true ∧ ev T k b ρ1 S1 = some r)) := by
  simp only [ev, evE] at e
  obtain ⟨x, ρ1, S1, ea, e⟩ := bnd_inv e
  split at e
  · exact ⟨true, ρ1, S1, ea, .inr ⟨rfl, e⟩⟩
  · exact ⟨false, ρ1, S1, ea, .inl ⟨rfl, (Option.some.inj e).symm⟩⟩
  · cases e
theorem orr_inv {ρ : Env'} {S : Sto} {r : Op × Env' × Sto} (e : ev T k (.orr a b) ρ S = some r) : ∃ x ρ1 S1, ev T k a ρ S = some (.fz (.bl x), ρ1, S1) ∧ ((x = true ∧ r = (.fz (.bl true), ρ1, S1)) ∨ (x = false ∧ ev T k b ρ1 S1 = some r)) := by
  simp only [ev, evE] at e
  obtain ⟨x, ρ1, S1, ea, e⟩ := bnd_inv e
  split at e
  · exact ⟨true, ρ1, S1, ea, .inl ⟨rfl, (Option.some.inj e).symm⟩⟩
  · exact ⟨false, ρ1, S1, ea, .inr ⟨rfl, e⟩⟩
  · cases e
theorem and_cE {X : Cx} {σ : L2.St} {H : Hp} {Q : VK} (h : TEv T k X (.and a b) σ H Q) : tAndV (TEv T k X a) (TEv T k X b) σ H Q := by
  obtain ⟨φ, out, ρ, S, o, ρ', S', R, e, q⟩ := h
  obtain ⟨x, ρ1, S1, ea, e⟩ := and_inv e
  refine one R ea fun v H1 φ1 p1 => ⟨x, RepV.toBl p1.val, ?_⟩
  rcases e with ⟨rfl, e⟩ | ⟨rfl, e⟩
  · cases e
    rw [if_neg Bool.false_ne_true]
    exact q _ _ _ (endFz p1.stp p1.rel (.bl _))
  · rw [if_pos rfl]
    exact one p1.rel e fun v H2 φ2 p2 => q v H2 φ2 (p2.trans p1.stp)
theorem orr_cE {X : Cx} {σ : L2.St} {H : Hp} {Q : VK} (h : TEv T k X (.orr a b) σ H Q) : tOrV (TEv T k X a) (TEv T k X b) σ H Q := by
  obtain ⟨φ, out, ρ, S, o, ρ', S', R, e, q⟩ := h
  obtain ⟨x, ρ1, S1, ea, e⟩ := orr_inv e
  refine one R ea fun v H1 φ1 p1 => ⟨x, RepV.toBl p1.val, ?_⟩
  rcases e with ⟨rfl, e⟩ | ⟨rfl, e⟩
  · cases e
    rw [if_pos rfl]
    exact q _ _ _ (endFz p1.stp p1.rel (.bl _))
  · rw [if_neg Bool.false_ne_true]
    exact one p1.rel e fun v H2 φ2 p2 => q v H2 φ2 (p2.trans p1.stp)
theorem and_cT {X : Cx} {σ : L2.St} {H : Hp} {Q : Bool → Hp → Prop} (h : TTv T k X (.and a b) σ H Q) : tAnd (TTv T k X a) (TTv T k X b) σ H Q := by
  obtain ⟨φ, out, ρ, S, o, ρ', S', R, e, q⟩ := h
  obtain ⟨x, ρ1, S1, ea, e⟩ := and_inv e
  refine ⟨φ, out, ρ, S, x, ρ1, S1, R, ea, fun H1 φ1 t R1 => ?_⟩
  rcases e with ⟨rfl, e⟩ | ⟨rfl, e⟩
  · cases e
    rw [if_neg Bool.false_ne_true]
    exact q _ _ t R1
  · rw [if_pos rfl]
    exact ⟨φ1, out, ρ1, S1, o, ρ', S', R1, e, fun H2 φ2 t2 R2 => q H2 φ2 (t.trans t2) R2⟩
theorem orr_cT {X : Cx} {σ : L2.St} {H : Hp} {Q : Bool → Hp → Prop} (h : TTv T k X (.orr a b) σ H Q) : tOr (TTv T k X a) (TTv T k X b) σ H Q := by
  obtain ⟨φ, out, ρ, S, o, ρ', S', R, e, q⟩ := h
  obtain ⟨x, ρ1, S1, ea, e⟩ := orr_inv e
  refine ⟨φ, out, ρ, S, x, ρ1, S1, R, ea, fun H1 φ1 t R1 => ?_⟩
  rcases e with ⟨rfl, e⟩ | ⟨rfl, e⟩
  · cases e
    rw [if_pos rfl]
    exact q _ _ t R1
  · rw [if_neg Bool.false_ne_true]
    exact ⟨φ1, out, ρ1, S1, o, ρ', S', R1, e, fun H2 φ2 t2 R2 => q H2 φ2 (t.trans t2) R2⟩
theorem k_and (sa : SE T k a) (sb : SE T k b) : SE T k (.and a b) := by
  have pw : ∀ X sc op vs p, Good T k X sc → mE sc X.N (.and a b) (.BoolOp op vs p) = true → PW X (.BoolOp op vs p) (TTv T k X (.and a b)) := fun X sc op vs p g h => by
    unfold mE at h
    split at h
    · rename_i x y p' ee
      cases ee
      simp only [Bool.and_eq_true] at h
      exact pwC (pw_and (sa.pt X sc x g h.1) (pw_and1 (sb.pt X sc y g h.2))) fun _ _ _ h => and_cT h
    · rename_i x y z r p' ee
      cases ee
      simp only [Bool.and_eq_true] at h
      exact pwC (pw_and (sa.pt X sc x g h.1) (sb.pw X sc _ _ _ g h.2)) fun _ _ _ h => and_cT h
    · cases h
  refine ⟨fun X sc e g h => ?_, fun X sc e g h => ?_, pw⟩
  · unfold mE at h
    split at h
    · rename_i x y p'
      simp only [Bool.and_eq_true] at h
      exact peC (pe_and (sa.pe X sc x g h.1) (pe_one (sb.pe X sc y g h.2))) fun _ _ _ h => and_cE h
    · rename_i x y z r p'
      simp only [Bool.and_eq_true] at h
      exact peC (pe_and (sa.pe X sc x g h.1) (sb.pe X sc _ g h.2)) fun _ _ _ h => and_cE h
    · cases h
  · have h0 := h
    unfold mE at h
    split at h
    · exact (pw X sc _ _ _ g h0).pt
    · exact (pw X sc _ _ _ g h0).pt
    · cases h
theorem k_orr (sa : SE T k a) (sb : SE T k b) : SE T k (.orr a b) := by
  have pw : ∀ X sc op vs p, Good T k X sc → mE sc X.N (.orr a b) (.BoolOp op vs p) = true → PW X (.BoolOp op vs p) (TTv T k X (.orr a b)) := fun X sc op vs p g h => by
    unfold mE at h
    split at h
    · rename_i x y p' ee
      cases ee
      simp only [Bool.and_eq_true] at h
      exact pwC (pw_or (sa.pt X sc x g h.1) (pw_or1 (sb.pt X sc y g h.2))) fun _ _ _ h => orr_cT h
    · rename_i x y z r p' ee
      cases ee
      simp only [Bool.and_eq_true] at h
      exact pwC (pw_or (sa.pt X sc x g h.1) (sb.pw X sc _ _ _ g h.2)) fun _ _ _ h => orr_cT h
    · cases h
  refine ⟨fun X sc e g h => ?_, fun X sc e g h => ?_, pw⟩
  · unfold mE at h
    split at h
    · rename_i x y p'
      simp only [Bool.and_eq_true] at h
      exact peC (pe_or (sa.pe X sc x g h.1) (pe_one (sb.pe X sc y g h.2))) fun _ _ _ h => orr_cE h
    · rename_i x y z r p'
      simp only [Bool.and_eq_true] at h
      exact peC (pe_or (sa.pe X sc x g h.1) (sb.pe X sc _ g h.2)) fun _ _ _ h => orr_cE h
    · cases h
  · have h0 := h
    unfold mE at h
    split at h
    · exact (pw X sc _ _ _ g h0).pt
    · exact (pw X sc _ _ _ g h0).pt
    · cases h

/-! ### items, slices -/
theorem k_sub (sa : SE T k a) (sb : SE T k b) : SE T k (.sub a b) := by
  refine .plain (fun X sc e g h => ?_) fun sc N e h => ?_
  · unfold mE at h
    split at h
    · rename_i x y p
      simp only [Bool.and_eq_true] at h
      obtain ⟨⟨h1, h2⟩, h3⟩ := h
      refine peC (pe_ix (ix_any X) (sa.pe X sc x g h1) (sb.pe X sc y g h2) (plain_ix h3)) fun σ H Q ⟨φ, out, ρ, S, o, ρ', S', R, e, q⟩ => ?_
      simp only [ev, evE] at e
      obtain ⟨x, ρ1, S1, ea, e⟩ := bnd_inv e
      obtain ⟨y, ρ2, S2, eb, e⟩ := bnd_inv e
      obtain ⟨dx, ex, e⟩ := obd_inv e
      obtain ⟨dy, ey, e⟩ := obd_inv e
      obtain ⟨w, er, e⟩ := obd_inv e
      cases e
      exact two R ea eb fun v u H2 φ2 t R2 hv hu => sub_rule (by have := g.hu; omega) (cont_ok R2 hv ex) (hu.toV ey) er fun w hw => q _ _ _ (endFz t R2 hw)
    · cases h
  · cases e <;> first
      | rfl
      | cases h
theorem k_rev (sa : SE T k a) : SE T k (.rev a) := by
  refine .plain (fun X sc e g h => ?_) fun sc N e h => ?_
  · unfold mE at h
    split at h
    · rename_i x i _ _ _ _ _
      simp only [Bool.and_eq_true, decide_eq_true_eq] at h
      obtain ⟨h1, rfl⟩ := h
      refine peC (pe_revL (sa.pe X sc x g h1)) fun σ H Q ⟨φ, out, ρ, S, o, ρ', S', R, e, q⟩ => ?_
      simp only [ev, evE] at e
      obtain ⟨x, ρ1, S1, ea, e⟩ := bnd_inv e
      obtain ⟨dx, ex, e⟩ := obd_inv e
      split at e
      · cases e
        refine one R ea fun v H1 φ1 p1 => ?_
        obtain ⟨a, vs, rfl, h1, r1⟩ := cont_ok p1.rel (p1.val.op p1.rel) ex
        exact ⟨a, vs, rfl, h1, fun p hp => q _ _ _ (endLst p1.stp p1.rel r1.rev hp)⟩
      · cases e
    · cases h
  · cases e <;> first
      | rfl
      | cases h
/-- parts of a slice -/
def TOv (T : Tab) (k : Nat) (X : Cx) (c : Option CE) : TO := fun σ H Q => ∃ φ out ρ S i ρ' S', Rel X.K X.mg φ out ρ S σ H ∧ evO T.G (callK T.G T.F T.M k) T.M c ρ S = some (i, ρ', S') ∧ ∀ H' φ', Stp φ ρ σ H φ' ρ' σ H' → Rel X.K X.mg φ' out ρ' S' σ H' → Q i H'
theorem po_of {X : Cx} {sc : Scope} {lo : Option CE} {l : Option Expr} (g : Good T k X sc) (s : ∀ c, lo = some c → SE T k c) (h : mO sc X.N lo l = true) : PO X l (TOv T k X lo) := by
  cases lo with
  | none =>
    cases l with
    | none =>
      refine poC po_none fun σ H Q ⟨φ, out, ρ, S, o, ρ', S', R, e, q⟩ => ?_
      have e' : some ((none : Option Int), ρ, S) = some (o, ρ', S') := e
      cases e'
      exact q H φ .refl R
    | some x => cases h
  | some c =>
    cases l with
    | none => cases h
    | some x =>
      refine poC (po_some ((s c rfl).pe X sc x g h)) fun σ H Q ⟨φ, out, ρ, S, o, ρ', S', R, e, q⟩ => ?_
      simp only [evO] at e
      obtain ⟨x, ρ1, S1, ea, e⟩ := bnd_inv e
      split at e
      · cases e
        exact one R ea fun v H1 φ1 p1 => ⟨_, RepV.toInt p1.val, q _ _ p1.stp p1.rel⟩
      · cases e
theorem k_slc {lo hi : Option CE} (sa : SE T k a) (sl : ∀ c, lo = some c → SE T k c) (sh : ∀ c, hi = some c → SE T k c) : SE T k (.slc a lo hi) := by
  refine .plain (fun X sc e g h => ?_) fun sc N e h => ?_
  · unfold mE at h
    split at h
    · rename_i x l h' _ p
      simp only [Bool.and_eq_true] at h
      obtain ⟨⟨h1, h2⟩, h3⟩ := h
      refine peC (pe_slice (sl_any X) (sa.pe X sc x g h1) (po_of g sl h2) (po_of g sh h3)) fun σ H Q ⟨φ, out, ρ, S, o, ρ', S', R, e, q⟩ => ?_
      simp only [ev, evE] at e
      obtain ⟨x, ρ1, S1, ea, e⟩ := bnd_inv e
      obtain ⟨i, ρ2, S2, eb, e⟩ := bnd_inv e
      obtain ⟨j, ρ3, S3, ec, e⟩ := bnd_inv e
      obtain ⟨dx, ex, e⟩ := obd_inv e
      obtain ⟨w, er, e⟩ := obd_inv e
      cases e
      refine one R ea fun v H1 φ1 p1 => ⟨φ1, out, ρ1, S1, i, ρ2, S2, p1.rel, eb, fun H2 φ2 t2 R2 => ⟨φ2, out, ρ2, S2, j, _, _, R2, ec, fun H3 φ3 t3 R3 => ?_⟩⟩
      have m := (t2.trans t3).mv (out' := out) p1.rel fun _ z => .inl z
      exact slc_rule (cont_ok R3 ((p1.val.op p1.rel).mv m) ex) er (resEnd (slc_fr er).1 (slc_fr er).2 (p1.stp.trans (t2.trans t3)) R3 q)
    · cases h
  · cases e <;> first
      | rfl
      | cases h
end
end Sk

/-! Sk11: displays, calls. -/
namespace Sk
open PySem PySem.Spec PyProof.Rows L2

theorem all_inv {e : Expr} {l : List Expr} {c : CE} {cs : List CE} {sc : Scope} {N : List Str} (h : mEs sc N (c :: cs) (e :: l) = true) : mE sc N c e = true ∧ plainE e = true ∧ mEs sc N cs l = true := by
  have h' : (mE sc N c e && plainE e && mEs sc N cs l) = true := h
  simp only [Bool.and_eq_true] at h'
  exact ⟨h'.1.1, h'.1.2, h'.2⟩
theorem star_all {sc : Scope} {N : List Str} {env : Env} : ∀ {cs : List CE} {l : List Expr}, mEs sc N cs l = true → starEach l env = l.map fun e => (false, eval e env)
  | [], [], _ => rfl
  | [], _ :: _, h => by cases h
  | _ :: _, [], h => by cases h
  | c :: cs, e :: l, h => by
    obtain ⟨h1, h2, h3⟩ := all_inv h
    rw [star_plain h2, star_all h3, List.map_cons]
theorem back_any {l : List Expr} {env : Env} {pos : Pos} (h : starEach l env = l.map fun e => (false, eval e env)) : (backTo pos (starEach l env)).any (·.1) = false := by
  rw [h]
  unfold backTo
  simp [List.any_map]
theorem back_all {l : List Expr} {env : Env} {pos : Pos} (h : starEach l env = l.map fun e => (false, eval e env)) : (backTo pos (starEach l env)).all (fun x => !x.1) = true := by
  rw [h]
  unfold backTo
  simp [List.all_map]
section
variable {T : Tab} {k : Nat} {c a b d : CE} {es : List CE}
theorem pa_of {X : Cx} {sc : Scope} (g : Good T k X sc) : ∀ {es : List CE} {l : List Expr}, (∀ c ∈ es, SE T k c) → mEs sc X.N es l = true → PA X l (TAv T k X es)
  | [], [], _, _ => by
    refine paC pa_nil fun σ H Q ⟨φ, out, ρ, S, ds, ρ', S', R, e, q⟩ => ?_
    have e' : some (([] : List D), ρ, S) = some (ds, ρ', S') := e
    cases e'
    exact q [] H φ .refl R .nil
  | [], _ :: _, _, h => by cases h
  | _ :: _, [], _, h => by cases h
  | c :: es, e :: l, s, h => by
    obtain ⟨h1, h2, h3⟩ := all_inv h
    refine paC (pa_cons ((s c List.mem_cons_self).pe X sc e g h1) (pa_of g (fun c hc => s c (List.mem_cons_of_mem _ hc)) h3) (star_plain h2)) fun σ H Q ⟨φ, out, ρ, S, ds, ρ', S', R, e, q⟩ => ?_
    simp only [evs, evL] at e
    obtain ⟨x, ρ1, S1, ea, e⟩ := bnd_inv e
    obtain ⟨d, ed, e⟩ := obd_inv e
    obtain ⟨rs, ρ2, S2, er, e⟩ := bnd_inv e
    cases e
    refine one R ea fun v H1 φ1 p1 => ⟨φ1, out, ρ1, S1, rs, _, _, p1.rel, er, fun vs H2 φ2 t2 R2 hvs => ?_⟩
    exact q _ H2 φ2 (p1.stp.trans t2) R2 (.cons ((ROp.toV p1.rel p1.val ed).mv (t2.mv p1.rel fun _ z => .inl z)) hvs)
theorem k_tup (s : ∀ c ∈ es, SE T k c) : SE T k (.tup es) := by
  refine .plain (fun X sc e g h => ?_) fun sc N e h => ?_
  · unfold mE at h
    split at h
    · refine peC (pe_tup (pa_of g s h)) fun σ H Q ⟨φ, out, ρ, S, o, ρ', S', R, e, q⟩ => ?_
      simp only [ev, evE] at e
      obtain ⟨ds, ρ1, S1, ea, e⟩ := bnd_inv e
      split at e
      · rename_i hz
        cases e
        exact ⟨φ, out, ρ, S, ds, _, _, R, ea, fun vs H1 φ1 t R1 hv => ⟨by rw [← hv.length]; exact hz, fun p hp => q _ _ _ (endTup t R1 hv hp)⟩⟩
      · cases e
    · cases h
  · cases e <;> first
      | rfl
      | cases h
theorem k_lst (s : ∀ c ∈ es, SE T k c) : SE T k (.lst es) := by
  refine .plain (fun X sc e g h => ?_) fun sc N e h => ?_
  · unfold mE at h
    split at h
    · refine peC (pe_lst (pa_of g s h)) fun σ H Q ⟨φ, out, ρ, S, o, ρ', S', R, e, q⟩ => ?_
      simp only [ev, evE] at e
      obtain ⟨ds, ρ1, S1, ea, e⟩ := bnd_inv e
      split at e
      · rename_i hz
        cases e
        exact ⟨φ, out, ρ, S, ds, _, _, R, ea, fun vs H1 φ1 t R1 hv => ⟨by rw [← hv.length]; exact hz, fun p hp => q _ _ _ (endLst t R1 hv hp)⟩⟩
      · cases e
    · cases h
  · cases e <;> first
      | rfl
      | cases h

/-! ### a dict of written pairs -/
theorem RepK.merge {K : PySem.W.Frag} {mg : Str → Option Value} {φ : List Addr} {ex : Addr → Prop} {H : Hp} : ∀ {more : List (D × D)} {us : List (Key × V)} {ds : List (D × D)} {vs : List (Key × V)}, RepK K mg φ ex H more us → RepK K mg φ ex H ds vs →
    RepK K mg φ ex H (more.foldl (fun acc p => dput acc p.1 p.2) ds) (mergeK vs us)
  | _, _, _, _, .nil, r => r
  | _, _, _, _, .cons k h m, r => by
    have q := RepK.merge m (r.put k h)
    exact q
def pairsV : List V → List (V × V)
  | a :: b :: r => (a, b) :: pairsV r
  | _ => []
def trsOf (T : Tab) (k : Nat) (X : Cx) : List CE → List (TE × TE)
  | a :: b :: r => (TEv T k X a, TEv T k X b) :: trsOf T k X r
  | _ => []
theorem pps_of {X : Cx} {sc : Scope} {pos : Pos} (g : Good T k X sc) : ∀ {es : List CE} {ks : List (Option Expr)} {vs : List Expr}, (∀ c ∈ es, SE T k c) → mDs sc X.N es ks vs = true → PPs X pos ks vs (trsOf T k X es) ∧ ks.all (·.isSome) = true ∧ es.length = 2 * ks.length
  | [], [], [], _, _ => ⟨pps_nil, rfl, rfl⟩
  | [], [], _ :: _, _, h => by cases h
  | [], _ :: _, _, _, h => by cases h
  | [_], _, _, _, h => by cases h
  | _ :: _ :: _, [], _, _, h => by cases h
  | _ :: _ :: _, none :: _, _, _, h => by cases h
  | _ :: _ :: _, some _ :: _, [], _, h => by cases h
  | a :: b :: es, some x :: ks, y :: vs, s, h => by
    have h' : (mE sc X.N a x && mE sc X.N b y && mDs sc X.N es ks vs) = true := h
    simp only [Bool.and_eq_true] at h'
    obtain ⟨p1, p2, p3⟩ := pps_of (pos := pos) g (fun c hc => s c (List.mem_cons_of_mem _ (List.mem_cons_of_mem _ hc))) h'.2
    refine ⟨pps_cons ((s a List.mem_cons_self).pe X sc x g h'.1.1) ((s b (List.mem_cons_of_mem _ List.mem_cons_self)).pe X sc y g h'.1.2) p1, by rw [List.all_cons, p2]; rfl, ?_⟩
    simp only [List.length_cons]
    omega
theorem pairs_run {X : Cx} {σ : L2.St} {out : Addr → Prop} : ∀ {es : List CE} {φ : List Addr} {ρ ρ' : Env'} {S S' : Sto} {H : Hp} {ds : List D} {kvs : List (D × D)} {Q : List (V × V) → Hp → Prop}, Rel X.K X.mg φ out ρ S σ H → evs T k es ρ S = some (ds, ρ', S') → pairUp ds = some kvs →
    (kvs.all fun p => isKey p.1) = true → (∀ us H' φ', Stp φ ρ σ H φ' ρ' σ H' → Rel X.K X.mg φ' out ρ' S' σ H' → RepK X.K X.mg φ' (exc φ' out ρ' σ) H' kvs us → Q (us.map fun kv => (kV kv.1, kv.2)) H') → tPairs (trsOf T k X es) σ H Q
  | [], φ, ρ, ρ', S, S', H, ds, kvs, Q, R, e, ep, _, q => by
    have e' : some (([] : List D), ρ, S) = some (ds, ρ', S') := e
    cases e'
    cases ep
    exact q [] H φ .refl R .nil
  | [a], φ, ρ, ρ', S, S', H, ds, kvs, Q, R, e, ep, _, q => by
    simp only [evs, evL] at e
    obtain ⟨x, ρ1, S1, ea, e⟩ := bnd_inv e
    obtain ⟨d, ed, e⟩ := obd_inv e
    cases e
    cases ep
  | a :: b :: es, φ, ρ, ρ', S, S', H, ds, kvs, Q, R, e, ep, hk, q => by
    simp only [evs, evL] at e
    obtain ⟨x, ρ1, S1, ea, e⟩ := bnd_inv e
    obtain ⟨dx, ex, e⟩ := obd_inv e
    obtain ⟨ds1, ρ2, S2, e2, e⟩ := bnd_inv e
    obtain ⟨y, ρ3, S3, eb, e2⟩ := bnd_inv e2
    obtain ⟨dy, ey, e2⟩ := obd_inv e2
    obtain ⟨ds2, ρ4, S4, e3, e2⟩ := bnd_inv e2
    cases e2
    cases e
    have ep' : (pairUp ds2).map ((dx, dy) :: ·) = some kvs := ep
    simp only [Option.map_eq_some_iff] at ep'
    obtain ⟨kvs2, ep2, rfl⟩ := ep'
    rw [List.all_cons, Bool.and_eq_true] at hk
    refine one R ea fun v H1 φ1 p1 => one p1.rel eb fun u H2 φ2 p2 => pairs_run p2.rel e3 ep2 hk.2 fun us H3 φ3 t3 R3 hus => ?_
    obtain ⟨k', ek⟩ := isKey_to hk.1
    have m2 := p2.stp.mv (out' := out) p1.rel fun _ z => .inl z
    have m3 := t3.mv (out' := out) p2.rel fun _ z => .inl z
    have hv := ((ROp.toV p1.rel p1.val ex).mv m2).mv m3
    have hu := (ROp.toV p2.rel p2.val ey).mv m3
    have := q ((k', u) :: us) H3 φ3 ((p1.stp.trans p2.stp).trans t3) R3 (.cons ek hu hus)
    rw [List.map_cons] at this
    rw [toKey_kV ek hv]
    exact this
theorem RepK.klen {K : PySem.W.Frag} {mg : Str → Option Value} {φ : List Addr} {ex : Addr → Prop} {H : Hp} {ds : List (D × D)} {vs : List (Key × V)} (h : RepK K mg φ ex H ds vs) : vs.length = ds.length := h.length.symm
theorem k_dis (s : ∀ c ∈ es, SE T k c) : SE T k (.dis es) := by
  refine .plain (fun X sc e g h => ?_) fun sc N e h => ?_
  · unfold mE at h
    split at h
    · rename_i ks vs p
      simp only [Bool.and_eq_true, decide_eq_true_eq] at h
      obtain ⟨⟨h1, h2⟩, h3⟩ := h
      obtain ⟨p1, p2, p3⟩ := pps_of (pos := p) g s h3
      have main : ∀ (σ : L2.St) (H : Hp) (Q : VK), TEv T k X (.dis es) σ H Q → tDisp (trsOf T k X es) σ H Q := fun σ H Q ⟨φ, out, ρ, S, o, ρ', S', R, e, q⟩ => by
        simp only [ev, evE] at e
        obtain ⟨ds, ρ1, S1, ea, e⟩ := bnd_inv e
        obtain ⟨kvs, ep, e⟩ := obd_inv e
        split at e
        · rename_i hz
          cases e
          intro p hp
          have R1 := R.newOut (ho := .dK []) hp
          have t1 : Stp φ ρ σ H φ ρ σ (upd H p (.dK [])) := new_stp hp
          refine pairs_run R1 ea ep hz.2 fun us H' φ' t R' hus => ?_
          have hD : H' p = some (.dK []) := R1.outKeep (.inr rfl) upd_same t
          refine ⟨hD, us, rfl, by rw [hus.klen]; exact hz.1, q _ _ φ' ⟨(t1.trans t).outUpd hp, ?_, p, rfl, ?_, ⟨_, upd_same, ?_⟩, fun z => R.ot p z hp, .inl hp⟩⟩
          · exact (R'.outUpd (.inr rfl)).less fun _ z => .inl z
          · exact R'.outUpd (.inr rfl)
          · exact (RepK.merge hus .nil).mv (upd_mv (.inr (.inl (.inr rfl))))
        · cases e
      by_cases h0 : ks = []
      · subst h0
        have hv : vs = [] := List.eq_nil_of_length_eq_zero h1.symm
        subst hv
        have he : es = [] := List.eq_nil_of_length_eq_zero p3
        subst he
        refine peC pe_dnewK fun σ H Q ⟨φ, out, ρ, S, o, ρ', S', R, e, q⟩ => ?_
        have e' : some (Op.fr (.dct []), ρ, S) = some (o, ρ', S') := e
        cases e'
        exact fun p hp => q _ _ _ (endDct .refl R .nil hp)
      · exact peC (pe_disp p1 p2 h1 h0 h2) main
    · cases h
  · cases e <;> first
      | rfl
      | cases h

/-! ### built-in functions -/
theorem bf_boot {f : BF} {fv : Value} (h : bfVal f = some fv) : bootBuiltins (bfName f) = some fv ∧ bfName f ∈ bNames ∧ ((∃ id, fv = .builtin id) ∨ ∃ t, fv = .type t) := by
  cases f <;> first
    | (cases h; done)
    | (cases h; exact ⟨by decide +kernel, by decide, .inl ⟨_, rfl⟩⟩)
    | (cases h; exact ⟨by decide +kernel, by decide, .inr ⟨_, rfl⟩⟩)
theorem bf2_boot {f : BF} {fv : Value} (h : bf2Val f = some fv) : bootBuiltins (bfName f) = some fv ∧ bfName f ∈ bNames ∧ ((∃ id, fv = .builtin id) ∨ ∃ t, fv = .type t) := by
  cases f <;> first
    | (cases h; done)
    | (cases h; exact ⟨by decide +kernel, by decide, .inl ⟨_, rfl⟩⟩)
theorem pe_bfn {X : Cx} {sc : Scope} (g : Good T k X sc) {x : Str} {p pos : Pos} {e : Expr} {es : List Expr} {t : TA} {fv : Value} (hx : gloB sc x = true) (hb : bootBuiltins x = some fv) (hn : x ∈ bNames) (hf : (∃ id, fv = .builtin id) ∨ ∃ t, fv = .type t) (ha : PA X (e :: es) t)
    (he : starEach (e :: es) X.env = (false, eval e X.env) :: starEach es X.env) (hs : (backTo pos (starEach es X.env)).any (·.1) = false) : PE X (.Call (.Name x p) (e :: es) [] pos) (tCB (anyC X fv) t) := by
  obtain ⟨g1, g2, g3, g4⟩ := g.gl hx
  rcases hf with ⟨id, rfl⟩ | ⟨t, rfl⟩
  · exact pe_callB (call_any X _) g1 (g.blt x hn) hb ha g4 g2 he hs
  · exact pe_callTy (call_any X _) g1 (g.blt x hn) hb ha g4 g2 he hs
theorem pa1 {X : Cx} {e : Expr} {t : TE} (h : PE X e t) (hp : plainE e = true) : PA X [e] (tCons t tNil) := pa_cons h pa_nil (star_plain hp)
theorem boot_ty : ∀ t ∈ tys, bootBuiltins (Str.ofString t) = some (.type t) ∧ Str.ofString t ∈ bNames := by decide +kernel
theorem k_bf {f : BF} (sa : SE T k a) : SE T k (.bf f a) := by
  refine .plain (fun X sc e g h => ?_) fun sc N e h => ?_
  · unfold mE at h
    split at h
    · rename_i x p y pos
      simp only [Bool.and_eq_true, decide_eq_true_eq] at h
      obtain ⟨⟨⟨⟨rfl, h1⟩, h2⟩, h3⟩, h4⟩ := h
      obtain ⟨fv, hf⟩ := Option.isSome_iff_exists.mp h4
      obtain ⟨b1, b2, b3⟩ := bf_boot hf
      refine peC (pe_bfn g h1 b1 b2 b3 (pa1 (sa.pe X sc y g h2) h3) (star_plain h3) rfl) fun σ H Q ⟨φ, out, ρ, S, o, ρ', S', R, e, q⟩ => ?_
      simp only [ev, evE] at e
      obtain ⟨x, ρ1, S1, ea, e⟩ := bnd_inv e
      obtain ⟨dx, ex, e⟩ := obd_inv e
      obtain ⟨w, er, e⟩ := obd_inv e
      cases e
      exact one R ea fun v H1 φ1 p1 => bf_rule g.calm hf (look_ok p1.rel (p1.val.op p1.rel) ex) er (resEnd (bf_fr er).1 (bf_fr er).2 p1.stp p1.rel q)
    · rename_i x p y z p2 pos
      split at h
      · rename_i t
        simp only [Bool.and_eq_true, decide_eq_true_eq] at h
        obtain ⟨⟨⟨⟨⟨⟨rfl, h1⟩, h2⟩, rfl⟩, h5⟩, h3⟩, h4⟩ := h
        obtain ⟨c1, c2⟩ := boot_ty t h5
        obtain ⟨g1, g2, g3, g4⟩ := g.gl h2
        have pz : PE X (.Name (Str.ofString t) p2) (tC (.ty t)) := pe_bltn g1 (g.blt _ c2) c1 rfl g4 g2
        refine peC (pe_bfn g h1 boot_isinstance (by decide) (.inl ⟨_, rfl⟩) (pa_cons (sa.pe X sc y g h3) (pa1 pz rfl) (star_plain h4)) (star_plain h4) rfl) fun σ H Q ⟨φ, out, ρ, S, o, ρ', S', R, e, q⟩ => ?_
        simp only [ev, evE] at e
        obtain ⟨x, ρ1, S1, ea, e⟩ := bnd_inv e
        obtain ⟨dx, ex, e⟩ := obd_inv e
        obtain ⟨w, er, e⟩ := obd_inv e
        cases e
        have er' : (isaD t dx).map (fun b => Op.fz (.bl b)) = some o := er
        simp only [Option.map_eq_some_iff] at er'
        obtain ⟨bb, er', rfl⟩ := er'
        exact one R ea fun v H1 φ1 p1 => isa_rule (look_ok p1.rel (p1.val.op p1.rel) ex) er' (q _ _ _ (endFz p1.stp p1.rel (.bl _)))
      · cases h
    · cases h
  · cases e <;> first
      | rfl
      | cases h
theorem k_bf2 {f : BF} (sa : SE T k a) (sb : SE T k b) : SE T k (.bf2 f a b) := by
  refine .plain (fun X sc e g h => ?_) fun sc N e h => ?_
  · unfold mE at h
    split at h
    · rename_i x p y z pos
      simp only [Bool.and_eq_true, decide_eq_true_eq] at h
      obtain ⟨⟨⟨⟨⟨⟨rfl, h1⟩, h2⟩, h3⟩, h4⟩, h5⟩, h6⟩ := h
      obtain ⟨fv, hf⟩ := Option.isSome_iff_exists.mp h6
      obtain ⟨b1, b2, b3⟩ := bf2_boot hf
      have hs : starEach [z] X.env = [z].map fun e => (false, eval e X.env) := star_plain h5
      refine peC (pe_bfn g h1 b1 b2 b3 (pa_cons (sa.pe X sc y g h2) (pa1 (sb.pe X sc z g h3) h5) (star_plain h4)) (star_plain h4) (back_any hs)) fun σ H Q ⟨φ, out, ρ, S, o, ρ', S', R, e, q⟩ => ?_
      simp only [ev, evE] at e
      obtain ⟨x, ρ1, S1, ea, e⟩ := bnd_inv e
      obtain ⟨y, ρ2, S2, eb, e⟩ := bnd_inv e
      obtain ⟨dx, ex, e⟩ := obd_inv e
      obtain ⟨dy, ey, e⟩ := obd_inv e
      obtain ⟨w, er, e⟩ := obd_inv e
      cases e
      exact two R ea eb fun v u H2 φ2 t R2 hv hu => bf2_rule g.calm hf (look_ok R2 hv ex) (look_ok R2 hu ey) er (resEnd (bf2_fr er).1 (bf2_fr er).2 t R2 q)
    · cases h
  · cases e <;> first
      | rfl
      | cases h
end
end Sk

/-! Sk12: calls, methods, comprehensions; all expressions. -/
namespace Sk
open PySem PySem.Spec PyProof.Rows L2

section
variable {K : PySem.W.Frag} {mg : Str → Option Value} {φ φ' : List Addr} {out out' : Addr → Prop} {ρ : Env'} {S S' : Sto} {σ : L2.St} {H H' : Hp}
/-- the caller's own things are nobody else's, for the callee -/
theorem Rel.callee (R : Rel K mg φ out ρ S σ H) : Rel K mg φ (fun b => out b ∨ ownA ρ σ b) [] S [] H ∧ ∀ b, exc φ (fun b => out b ∨ ownA ρ σ b) [] [] b ↔ exc φ out ρ σ b := by
  have hx : ∀ b, exc φ (fun b => out b ∨ ownA ρ σ b) [] [] b ↔ exc φ out ρ σ b := fun b => by
    constructor
    · rintro (z | (z | z) | ⟨i, d, e, _⟩)
      · exact .inl z
      · exact .inr (.inl z)
      · exact .inr (.inr z)
      · cases e
    · rintro (z | z | z)
      · exact .inl z
      · exact .inr (.inl (.inl z))
      · exact .inr (.inl (.inr z))
  have m : Mv φ φ (exc φ out ρ σ) (exc φ (fun b => out b ∨ ownA ρ σ b) [] []) H H := .less fun b z => (hx b).mp z
  refine ⟨⟨rfl, fun i d e => (by cases e), fun i d e => (by cases e), fun i j a d e z => (by cases z), fun n o e => ?_, R.sl, R.nd, fun a q z => ?_, fun a z => ?_⟩, hx⟩
  · obtain ⟨a, e1, h1⟩ := R.st n o e
    exact ⟨a, e1, h1.mv m fun _ q => q⟩
  · rcases z with z | ⟨i, d, e1, e2⟩
    · exact R.no a q z
    · obtain ⟨b, e3, _, h, _⟩ := R.ow i d e1
      rw [e2] at e3
      cases e3
      exact h q
  · rcases z with z | z
    · exact R.ot a z
    · exact R.ex_some (.inr (.inr z))
/-- behind the call: o2 as out, or with the new object -/
theorem Rel.caller {o2 o3 : Addr → Prop} (R : Rel K mg φ out ρ S σ H) (t : Stp φ [] [] H φ' [] [] H') (R' : Rel K mg φ' o3 [] S' [] H') (h23 : ∀ b, o2 b ∨ ownA ρ σ b → o3 b) (h2 : ∀ b, o2 b → out b ∨ H b = none) :
    Stp φ ρ σ H φ' ρ σ H' ∧ Rel K mg φ' o2 ρ S' σ H' ∧ ∀ b, exc φ' o2 ρ σ b → exc φ' o3 [] [] b := by
  have t2 : Stp φ ρ σ H φ' ρ σ H' := ⟨t.pre, fun b z => (t.nw b z).imp id fun z => z.imp id (fun ⟨i, d, z, _⟩ => (by cases z)), fun b o e n1 n2 => t.fr b o e n1 (fun ⟨i, d, z, _⟩ => by cases z), fun b z => .inl z, t.kp⟩
  have hx : ∀ b, exc φ' o2 ρ σ b → exc φ' o3 [] [] b := fun b z => by
    rcases z with z | z | z
    · exact .inl z
    · exact .inr (.inl (h23 b (.inl z)))
    · exact .inr (.inl (h23 b (.inr z)))
  have m : Mv φ φ' (exc φ out ρ σ) (exc φ' o2 ρ σ) H H' := t2.mv R h2
  have m2 : Mv φ' φ' (exc φ' o3 [] []) (exc φ' o2 ρ σ) H' H' := .less hx
  refine ⟨t2, ⟨R.len, fun i d e => ?_, fun i d e => ?_, R.owi, fun n o e => ?_, R'.sl, R'.nd, fun a q z => R'.no a q (h23 a (.inl z)), fun a z => R'.ot a (h23 a (.inl z))⟩, hx⟩
  · obtain ⟨v, e1, h1⟩ := R.va i d e
    exact ⟨v, e1, h1.mv m⟩
  · obtain ⟨a, e1, h1, h3, h4⟩ := R.ow i d e
    refine ⟨a, e1, h1.mv m fun w hw => t.fr a w hw h3 (fun ⟨i, d, z, _⟩ => by cases z), fun z => ?_, fun z => ?_⟩
    · exact (t.nw a z).elim h3 fun z => z.elim (fun z => h1.some z) (fun ⟨i, d, z, _⟩ => (by cases z))
    · exact (h2 a z).elim h4 fun z => h1.some z
  · obtain ⟨a, e1, h1⟩ := R'.st n o e
    exact ⟨a, e1, h1.mv m2 fun _ q => q⟩
theorem Rel.called (R : Rel K mg φ out ρ S σ H) {r : Op} {v : V} (p : Post K mg φ (fun b => out b ∨ ownA ρ σ b) [] [] H r [] S' v H' φ') : Post K mg φ out ρ σ H r ρ S' v H' φ' := by
  obtain ⟨t1, r1, x1⟩ := R.caller p.stp p.rel (fun b z => z) (fun b z => .inl z)
  refine ⟨t1, r1, ?_⟩
  have h := p.val
  cases r with
  | fz d => exact RepV.mv (Mv.less x1) h
  | sl i =>
    obtain ⟨a, d, e, _⟩ := h
    cases e
  | fr d =>
    obtain ⟨a, e, h1, h2, h3, h4⟩ := h
    have hn : H a = none := h4.elim id fun ⟨i, d, z, _⟩ => by cases z
    obtain ⟨t2, r2, x2⟩ := R.caller (o2 := fun b => out b ∨ b = a) p.stp h1 (fun b z => z.elim (fun z => z.elim (fun z => .inl (.inl z)) .inr) fun z => .inl (.inr z)) (fun b (z : out b ∨ b = a) => z.imp id fun (z : b = a) => by rw [z]; exact hn)
    exact ⟨a, e, r2, ObjD.mv (Mv.less x2) h2 fun _ q => q, fun z => h3 (.inl z), .inl hn⟩
end
section
variable {T : Tab} {k : Nat} {c a b d : CE} {es : List CE}
theorem k_call {f : Str} (s : ∀ c ∈ es, SE T k c) : SE T k (.call f es) := by
  refine .plain (fun X sc e g h => ?_) fun sc N e h => ?_
  · unfold mE at h
    split at h
    · rename_i x p l pos
      simp only [Bool.and_eq_true, decide_eq_true_eq] at h
      obtain ⟨⟨rfl, h1⟩, h2⟩ := h
      obtain ⟨g1, g2, g3, g4⟩ := g.gl h1
      cases hF : T.F x with
      | none =>
        refine ⟨fun pins s σ H Q I q => ?_⟩
        obtain ⟨φ, out, ρ, S, o, ρ', S', R, e, q⟩ := q
        simp only [ev, evE] at e
        obtain ⟨ds, ρ1, S1, ea, e⟩ := bnd_inv e
        obtain ⟨r, er, e⟩ := obd_inv e
        cases k with
        | zero => cases er
        | succ k =>
          have er' : obd (T.F x) (fun fn => runF T.G (callK T.G T.F T.M k) T.M fn ds S1) = some r := er
          rw [hF] at er'
          cases er'
      | some fn =>
        obtain ⟨A, fd, ps, m, hk, hb, F⟩ := g.F x fn hF
        have main : ∀ (σ : L2.St) (H : Hp) (Q : VK), TEv T k X (.call x es) σ H Q → tCall (spF T k x X.K X.mg) [] (fun _ _ _ => False) (TAv T k X es) σ H Q := fun σ H Q ⟨φ, out, ρ, S, o, ρ', S', R, e, q⟩ => by
          simp only [ev, evE] at e
          obtain ⟨ds, ρ1, S1, ea, e⟩ := bnd_inv e
          obtain ⟨r, er, e⟩ := obd_inv e
          cases e
          refine ⟨φ, out, ρ, S, ds, _, S1, R, ea, fun vs H1 φ1 t1 R1 hv => ?_⟩
          obtain ⟨R2, hx⟩ := R1.callee
          refine ⟨φ1, _, S1, ds, r.1, r.2, R2, ?_, er, fun v H' φ' p => q v H' φ' ((R1.called p).trans t1)⟩
          rw [List.append_nil]
          exact hv.mv (.less fun b z => (hx b).mp z)
        cases l with
        | nil =>
          cases es with
          | nil =>
            refine peC (pe_call0 F g.room g1 m hk hb .nil pass0 g2) fun σ H Q q => ?_
            obtain ⟨φ, out, ρ, S, ds, ρ', S', R, ea, q⟩ := main σ H Q q
            have e' : some (([] : List D), ρ, S) = some (ds, ρ', S') := ea
            cases e'
            exact q [] H φ .refl R .nil
          | cons c es => cases h2
        | cons y l =>
          cases es with
          | nil => cases h2
          | cons c es =>
            have hs := star_all (env := X.env) (all_inv h2).2.2
            exact peC (pe_call F g.room g1 m hk hb .nil pass0 (pa_of g s h2) g2 (star_plain (all_inv h2).2.1) (back_any hs)) main
    · cases h
  · cases e <;> first
      | rfl
      | cases h
/-! ### methods of built-in types -/
theorem mt_ty {m : MF} {d : D} {ds : List D} {r : D × Option D} (e : mtD m d ds = some r) : tyN d = some (mtT m) := by
  unfold mtD at e
  split at e <;> first
    | rfl
    | cases e
theorem tyV_of {K : PySem.W.Frag} {mg : Str → Option Value} {φ : List Addr} {ex : Addr → Prop} {H : Hp} {m : MF} {d : D} {v : V} (hm : m ≠ .get2) (h : CV K mg φ ex H d v) (e : tyN d = some (mtT m)) : tyV K (mtT m) v H := by
  have hd : mtT m ≠ "dict" := by cases m <;> first
    | exact absurd rfl hm
    | decide
  have hc : mtT m = "list" ∨ mtT m = "str" := by cases m <;> first
    | exact absurd rfl hm
    | exact .inl rfl
    | exact .inr rfl
  cases d with
  | lst ds =>
    obtain ⟨a, vs, rfl, hq, _⟩ := h
    have e' : some "list" = some (mtT m) := e
    exact .inl ⟨(Option.some.inj e').symm, vs, hq⟩
  | str x =>
    cases RepV.toStr h
    have e' : some "str" = some (mtT m) := e
    exact (Option.some.inj e').symm
  | dct kvs =>
    have e' : some "dict" = some (mtT m) := e
    exact absurd (Option.some.inj e').symm hd
  | _ =>
    exfalso
    first
      | (cases e; done)
      | (have e' := Option.some.inj e
         rcases hc with z | z <;> (rw [z] at e'; exact absurd e' (by decide)))
theorem mt_run {X : Cx} {m : MF} (hm : m ≠ .get2) {σ : L2.St} {H : Hp} {Q : VK} (h : TEv T k X (.mt m a es) σ H Q) : tBM X.K (mtT m) (anyM X (mtId m)) (TEv T k X a) (TAv T k X es) σ H Q := by
  obtain ⟨φ, out, ρ, S, o, ρ', S', R, e, q⟩ := h
  simp only [ev, evE] at e
  obtain ⟨x, ρ1, S1, ea, e⟩ := bnd_inv e
  obtain ⟨d0, e0, e⟩ := obd_inv e
  obtain ⟨ds, ρ2, S2, eb, e⟩ := bnd_inv e
  obtain ⟨dx, ex, e⟩ := obd_inv e
  split at e
  · rename_i ht
    obtain ⟨r, er, e⟩ := obd_inv e
    refine one R ea fun v H1 φ1 p1 => ⟨tyV_of hm (cont_ok p1.rel (p1.val.op p1.rel) e0) (ht.trans (mt_ty er)), φ1, out, ρ1, S1, ds, ρ2, S2, p1.rel, eb, fun vs H2 φ2 t2 R2 hvs => ?_⟩
    have t := p1.stp.trans t2
    have hv := (p1.val.op p1.rel).mv (t2.mv (out' := out) p1.rel fun _ z => .inl z)
    refine mt_rule hm (cont_ok R2 hv ex) hvs er ?_
    cases hr : r.2 with
    | none =>
      rw [hr] at e
      cases e
      exact fun w hw => q w H2 φ2 (endFz t R2 hw)
    | some d =>
      rw [hr] at e
      obtain ⟨⟨ρ3, S3⟩, es', e⟩ := obd_inv e
      cases e
      obtain ⟨p, rfl, ho, hx⟩ := cont_mut R2 hv ex es'
      have hx' : exc φ2 out ρ2 σ p := hx.imp id .inr
      refine ⟨p, rfl, ho, hx', fun w ho' hw new => ?_⟩
      obtain ⟨R3, t3, hi⟩ := setC_ok R2 hv es' new
      refine q w _ φ2 (endFz (t.trans t3) R3 ?_)
      exact (hw.mv (upd_mv hx')).mv (.less fun b z => (hi b).mp z)
  · cases e
theorem get2_inv {dx : D} {ds : List D} {r : D × Option D} (e : mtD .get2 dx ds = some r) : ∃ kvs kk dd, dx = .dct kvs ∧ ds = [kk, dd] ∧ isKey kk = true ∧ r = ((dget kvs kk).getD dd, none) := by
  cases dx with
  | dct kvs =>
    match ds, e with
    | [kk, dd], e =>
      have e' : (if isKey kk = true then some ((dget kvs kk).getD dd, (none : Option D)) else none) = some r := e
      split at e'
      · rename_i hk
        exact ⟨kvs, kk, dd, rfl, rfl, hk, (Option.some.inj e').symm⟩
      · cases e'
    | [], e => cases e
    | [_], e => cases e
    | _ :: _ :: _ :: _, e => cases e
  | _ => cases e
theorem ty_dict {d : D} (h : tyN d = some "dict") : ∃ kvs, d = .dct kvs := by
  cases d <;> first
    | exact ⟨_, rfl⟩
    | (cases h; done)
    | exact absurd (Option.some.inj h) (by decide)
theorem evs_two {ρ ρ' : Env'} {S S' : Sto} {kk dd : D} (e : evs T k es ρ S = some ([kk, dd], ρ', S')) : ∃ f d y ρ3 S3 z, es = [f, d] ∧ ev T k f ρ S = some (y, ρ3, S3) ∧ y.d = some kk ∧ ev T k d ρ3 S3 = some (z, ρ', S') ∧ z.d = some dd := by
  match es, e with
  | [], e => cases e
  | f :: es, e =>
    simp only [evs, evL] at e
    obtain ⟨y, ρ3, S3, ef, e⟩ := bnd_inv e
    obtain ⟨dy, ey, e⟩ := obd_inv e
    obtain ⟨ds1, ρ4, S4, eg, e⟩ := bnd_inv e
    cases e
    match es, eg with
    | [], eg => cases eg
    | d :: es, eg =>
      simp only [evL] at eg
      obtain ⟨z, ρ5, S5, ed, eg⟩ := bnd_inv eg
      obtain ⟨dz, ez, eg⟩ := obd_inv eg
      obtain ⟨ds2, ρ6, S6, eh, eg⟩ := bnd_inv eg
      cases eg
      match es, eh with
      | [], eh =>
        simp only [evL] at eh
        cases eh
        exact ⟨f, d, y, ρ3, S3, z, rfl, ef, ey, ed, ez⟩
      | c :: es, eh =>
        simp only [evL] at eh
        obtain ⟨z, ρ5, S5, ed, eg⟩ := bnd_inv eh
        obtain ⟨dz, ez, eg⟩ := obd_inv eg
        obtain ⟨ds2, ρ6, S6, eh, eg⟩ := bnd_inv eg
        cases eg
theorem k_mt {m : MF} (sa : SE T k a) (s : ∀ c ∈ es, SE T k c) : SE T k (.mt m a es) := by
  refine .plain (fun X sc e g h => ?_) fun sc N e h => ?_
  · unfold mE at h
    split at h
    · rename_i x n ap l p
      simp only [Bool.and_eq_true, decide_eq_true_eq] at h
      obtain ⟨⟨⟨⟨⟨rfl, h1⟩, h2⟩, h3⟩, h4⟩, h5⟩ := h
      obtain ⟨i1, i2, i3⟩ := mt_info m
      by_cases hm : m = .get2
      · subst hm
        have main : ∀ (σ : L2.St) (H : Hp) (Q : VK), TEv T k X (.mt .get2 a es) σ H Q → ∃ f d, es = [f, d] ∧ tDGet2 (TEv T k X a) (TEv T k X f) (TEv T k X d) σ H Q := fun σ H Q ⟨φ, out, ρ, S, o, ρ', S', R, e, q⟩ => by
          simp only [ev, evE] at e
          obtain ⟨x, ρ1, S1, ea, e⟩ := bnd_inv e
          obtain ⟨d0, e0, e⟩ := obd_inv e
          obtain ⟨ds, ρ2, S2, eb, e⟩ := bnd_inv e
          obtain ⟨dx, ex, e⟩ := obd_inv e
          split at e
          · rename_i ht
            obtain ⟨r, er, e⟩ := obd_inv e
            obtain ⟨kvs, kk, dd, rfl, rfl, hk, rfl⟩ := get2_inv er
            cases e
            obtain ⟨f, d, y, ρ3, S3, z, rfl, ef, ey, ed, ez⟩ := evs_two eb
            obtain ⟨k0, rfl⟩ := ty_dict ht
            refine ⟨f, d, rfl, one R ea fun v H1 φ1 p1 => ?_⟩
            obtain ⟨q1, ks0, rfl, hr0, _⟩ := cont_ok p1.rel (p1.val.op p1.rel) e0
            refine ⟨q1, rfl, .inl ⟨ks0, hr0⟩, one p1.rel ef fun u H2 φ2 p2 => one p2.rel ed fun w H3 φ3 p3 => ?_⟩
            have m3 := p3.stp.mv (out' := out) p2.rel fun _ z => .inl z
            have m2 := (p2.stp.trans p3.stp).mv (out' := out) p1.rel fun _ z => .inl z
            obtain ⟨q2, ks, eq2, hr, hrep⟩ := cont_ok p3.rel ((p1.val.op p1.rel).mv m2) ex
            cases eq2
            obtain ⟨k', ek⟩ := isKey_to hk
            have hkv := toKey_kV ek ((ROp.toV p2.rel p2.val ey).mv m3)
            obtain ⟨r1, r2, r3⟩ := hrep.get ek
            refine ⟨valV ks k', .inl ⟨ks, k', hr, hkv, rfl⟩, q _ _ _ (endFz ((p1.stp.trans p2.stp).trans p3.stp) p3.rel ?_)⟩
            cases hg : dget kvs kk with
            | none =>
              rw [r3 hg]
              exact ROp.toV p3.rel p3.val ez
            | some dd' =>
              obtain ⟨vv, e1, e2⟩ := r1 dd' hg
              rw [e1]
              exact e2
          · cases e
        match es, l, s, h4, main with
        | [f, d], [y, z], s, h4, main =>
          obtain ⟨q1, q2, q3⟩ := all_inv h4
          obtain ⟨q4, q5, _⟩ := all_inv q3
          have hs : starEach [y, z] X.env = [(false, eval y X.env), (false, eval z X.env)] := by rw [star_plain q2, star_plain q5]; rfl
          refine peC (pe_dget2 (by have := g.hu; omega) (sa.pe X sc x g h3) ((s f List.mem_cons_self).pe X sc y g q1) ((s d (List.mem_cons_of_mem _ List.mem_cons_self)).pe X sc z g q4) ⟨recv_base h2, ?_, h1, ?_⟩) fun σ H Q h => ?_
          · rw [hs]; rfl
          · rw [hs]; rfl
          · obtain ⟨f', d', e, h⟩ := main σ H Q h
            cases e
            exact h
        | [], l, s, h4, main => exact ⟨fun pins s σ H Q I q => by obtain ⟨_, _, e, _⟩ := main σ H Q q; cases e⟩
        | [_], l, s, h4, main => exact ⟨fun pins s σ H Q I q => by obtain ⟨_, _, e, _⟩ := main σ H Q q; cases e⟩
        | _ :: _ :: _ :: _, l, s, h4, main => exact ⟨fun pins s σ H Q I q => by obtain ⟨_, _, e, _⟩ := main σ H Q q; cases e⟩
        | [f, d], [], s, h4, main => cases h4
        | [f, d], [y], s, h4, main => exact absurd (all_inv h4).2.2 (by intro z; cases z)
        | [f, d], _ :: _ :: _ :: _, s, h4, main => exact absurd (all_inv (all_inv h4).2.2).2.2 (by intro z; cases z)
      · cases l with
        | nil =>
          cases es with
          | nil =>
            refine peC (pe_bm0 i1 i2 i3 (mt_any X _) (sa.pe X sc x g h3) (recv_base h2) h1) fun σ H Q q => ?_
            obtain ⟨φ, out, ρ, S, o, ρ', S', R, ea, q⟩ := mt_run hm q
            refine ⟨φ, out, ρ, S, o, ρ', S', R, ea, fun v H' φ' p => ⟨(q v H' φ' p).1, ?_⟩⟩
            obtain ⟨φ2, out2, ρ2, S2, ds2, ρ3, S3, R2, e2, q2⟩ := (q v H' φ' p).2
            have e' : some (([] : List D), ρ2, S2) = some (ds2, ρ3, S3) := e2
            cases e'
            exact q2 [] H' φ2 .refl R2 .nil
          | cons c es => cases h4
        | cons y l =>
          cases es with
          | nil => cases h4
          | cons c es =>
            have hs := star_all (env := X.env) (all_inv h4).2.2
            have hs0 := star_all (env := X.env) h4
            refine peC (pe_bm i1 i2 i3 (mt_any X _) (sa.pe X sc x g h3) (pa_of g s h4) (recv_base h2) ?_ h1 (star_plain (all_inv h4).2.1) (back_any hs)) fun σ H Q q => mt_run hm q
            rw [back_all hs0]
            simp only [Bool.true_and, Bool.and_eq_true, decide_eq_true_eq]
            refine ⟨rfl, ?_⟩
            simp only [List.length_cons, List.length_nil, List.isEmpty_nil, if_true] at h5 ⊢
            omega
    · cases h
  · cases e <;> first
      | rfl
      | cases h
end
end Sk

/-! SkR: list(reversed(a list)). -/
namespace Sk
open PySem PySem.Spec PyProof.Rows L2 RT

section
variable {prog : Program} {w : World} {A : Around} {s : Shared} {R : Result → Shared → Prop} {E : Value → Shared → Prop}
variable {I : Addr} {fp wr : List Addr} {G : Array GenState → Array GenState → Prop} {n : Nat} {P : Nat → Value → Prop} {St : Nat → Shared → Prop}
theorem extend_rev (W : WalksS prog w A.in1 I fp wr G n P St) (hT : ∀ i s, St i s → s.TypeIs (.ref I) "list_reverseiterator") (S : Addr) (res : Value) (c₀ : Nat) (hst : St 0 s) (hSf : S ∉ fp) (hI : I ∈ fp)
    (hS : s.heap.get? S = some { cls := .type "list", data := .seq #[] c₀ })
    (hR : ∀ s' acc' c', Moved (S :: wr) G s s' → s'.heap.get? S = some { cls := .type "list", dict := none, data := .seq acc' c', slots := #[] } → ItemsOf P acc' n → R (.ok (.ret res)) s') (hn : n ≤ sizeLine) :
    wpAny (model prog w) A.in1 (Builtin.List.listExtendWith (.ref S) (.ref I) res)
      (fun fin s' => match fin with | .done f => R (.ok f) s' | .again c' => c'.quiet = true ∧ codeAny (model prog w) A c' R s') (fun e s' => R (.error e) s') s := by
  have hSI : S ≠ I := fun e => hSf (e ▸ hI)
  unfold Builtin.List.listExtendWith
  refine wpAny_bind (wpAny_typeOf (hT 0 _ hst) ?_)
  have h1 : Builtin.List.listSameRef (.ref S) (.ref I) = false := by simp [Builtin.List.listSameRef, hSI]
  rw [if_neg (by rw [h1]; decide)]
  refine wpAny_bind (W.self 0 _ _ _ hst ?_)
  refine wpAny_bind (wpAny_holding ?_)
  unfold Builtin.List.listLengthHint
  refine wpAny_bind (wpAny_specialOf (hT 0 _ hst) nolen_lri ?_)
  show wpAny _ A.in1 (specialOf (Value.ref I) (Str.ofString "__length_hint__") >>= _) _ _ _
  refine wpAny_bind (wpAny_specialOf (hT 0 _ hst) hint_lri ?_)
  generalize hid : ("list_reverseiterator.__length_hint__" : String) = id0
  wp_delta
  rw [show splitId id0 = some ("list_reverseiterator", "__length_hint__") from by subst hid; decide +kernel]
  subst hid
  refine wpAny_bind (wpAny_isInstance (b := true) (hT 0 _ hst) (by rw [isSubtype_type]; kernel_rfl) ?_)
  refine wpAny_pure ?_
  rw [if_neg (by decide)]
  exact wpAny_pure ⟨plainId_quiet F.plain_extend_loop _, codeAny_extend_loopS W hn _ hSf _ n 0 _ _ _ rfl (Nat.zero_le _) hst hS (ItemsOf.nil P) fun s' acc' c' hm hS' hacc => hR s' acc' c' hm hS' hacc⟩
theorem init_rev (W : WalksS prog w A.in1 I fp wr G n P St) (hT : ∀ i s, St i s → s.TypeIs (.ref I) "list_reverseiterator") (S : Addr) (hst : St 0 s) (hSf : S ∉ fp) (hI : I ∈ fp)
    (hS : s.heap.get? S = some { cls := .type "list", data := .seq #[] })
    (hR : ∀ s' acc' c', Moved (S :: wr) G s s' → s'.heap.get? S = some { cls := .type "list", dict := none, data := .seq acc' c', slots := #[] } → ItemsOf P acc' n → R (.ok (.ret .none)) s') (hn : n ≤ sizeLine) :
    wpAny (model prog w) A.in1 (Builtin.«list.__init__» ⟨[.ref S, .ref I], []⟩)
      (fun fin s' => match fin with | .done f => R (.ok f) s' | .again c' => c'.quiet = true ∧ codeAny (model prog w) A c' R s') (fun e s' => R (.error e) s') s := by
  show wpAny _ A.in1 (do let old ← Builtin.List.listItems (.ref S); Builtin.List.listUpdate (.ref S) (fun _ => #[]); letGo old.toList.reverse; Builtin.List.listExtendWith (.ref S) (.ref I) .none) _ _ s
  refine wpAny_bind ?_
  unfold Builtin.List.listItems
  refine wpAny_bind (wpAny_seqItems hS rfl (wpAny_pure ?_))
  show wpAny _ A.in1 (updateSeq S (fun _ => #[]) >>= fun _ => letGo (#[] : Array Value).toList.reverse >>= fun _ => Builtin.List.listExtendWith (.ref S) (.ref I) .none) _ _ s
  refine wpAny_bind (wpAny_updateSeq hS rfl ?_)
  have hS₂ := Heap.get?_update_self (Obj.mapSeq (fun _ => (#[] : Array Value))) hS rfl
  have oth : ∀ b o, b ≠ S → s.heap.get? b = some o → (s.heap.update S (Obj.mapSeq (fun _ => (#[] : Array Value)))).get? b = some o :=
    fun b o hb e => (Heap.get?_update_other _ _ (Ne.symm hb)).trans e
  refine wpAny_bind (wpAny_letGo ?_)
  refine extend_rev (hn := hn) W hT S .none _ (W.frame 0 s _ s.toks hst (Nat.le_refl _) fun b hb o e => oth b o (fun h => hSf (h ▸ hb)) e) hSf hI hS₂ fun s' acc' c' hm hS' hacc => ?_
  exact hR s' acc' c' (Moved.trans W.gtrans ((Moved.refl W.grefl).then_heap (Nat.le_refl _) fun b o hb e => oth b o (fun h => hb (h ▸ List.mem_cons_self)) e) hm) hS' hacc
theorem call_list_rev {Q : Value → Shared → Prop} (W : WalksS prog w A.in1.in1 I fp wr G n P St) (hT : ∀ i s, St i s → s.TypeIs (.ref I) "list_reverseiterator") (hst : St 0 s) (hfp : ∀ b ∈ fp, b < s.heap.objs.size) (hI : I ∈ fp)
    (hQ : ∀ s' acc' c', Moved (s.heap.objs.size :: wr) G { s with heap := s.heap.push { cls := .type "list", data := .seq #[] } } s' →
      s'.heap.get? s.heap.objs.size = some { cls := .type "list", dict := none, data := .seq acc' c', slots := #[] } → ItemsOf P acc' n → Q (.ref s.heap.objs.size) s') (hn : n ≤ sizeLine) :
    wpAny (model prog w) A (call (.type "list") [.ref I]) Q E s := by
  have hSf : s.heap.objs.size ∉ fp := fun hm => Nat.lt_irrefl _ (hfp _ hm)
  refine callType_codes (Q₁ := fun obj s₁ => obj = .ref s.heap.objs.size ∧ s₁ = { s with heap := s.heap.push { cls := .type "list", data := .seq #[] } }) F.called_list (F.typeCall_list_1 _) F.entry_list_init
    (code_list_new _ ⟨rfl, rfl⟩) fun obj s₁ h₁ => ?_
  obtain ⟨rfl, rfl⟩ := h₁
  have hS : (s.heap.push { cls := .type "list", data := .seq #[] }).get? s.heap.objs.size = some { cls := .type "list", data := .seq #[] } := Heap.get?_push_size _ rfl
  refine ⟨⟨_, hS, rfl⟩, F.args_list_init_2 _ _, init_rev (hn := hn) W hT _ (W.frame 0 s _ s.toks hst (Nat.le_refl _) fun b _ o e => Heap.get?_push_of_some _ e) hSf hI hS fun s' acc' c' hm hS' hacc => ?_⟩
  exact ⟨rfl, hQ s' acc' c' hm hS' hacc⟩
end
/-- list(reversed(x)), x a list: a new list -/
def tLstRev (K : PySem.W.Frag) (te : TE) : TE := fun σ H Q => te σ H fun v H1 => ∃ (a : Addr) (xs : List V), v = .ref a ∧ SqL K H1 a xs ∧ ∀ q, H1 q = none → Q (.ref q) (upd H1 q (.lst xs.reverse))
theorem pe_lstRev {X : Cx} {e : Expr} {te : TE} {p p2 pos pos2 : Pos} (hc : X.calm = true) (hg : Gl X "list") (hm : X.mg "list" = none) (hg2 : Gl X "reversed") (hm2 : X.mg "reversed" = none) (he : PE X e te)
    (hs : starEach [e] X.env = (false, eval e X.env) :: starEach [] X.env)
    (hs2 : starEach [.Call (.Name "reversed" p2) [e] [] pos2] X.env = (false, eval (.Call (.Name "reversed" p2) [e] [] pos2) X.env) :: starEach [] X.env := by rfl) :
    PE X (.Call (.Name "list" p) [.Call (.Name "reversed" p2) [e] [] pos2] [] pos) (tLstRev X.K te) := by
  refine ⟨fun pins s σ H Q I h => ?_⟩
  refine Call_ (ld_blt I hg hm boot_list (PyProof.Rows.callWith_type1 (args_cons (Call_ (ld_blt I hg2 hm2 PyProof.Rows.boot_reversed (PyProof.Rows.callWith_type1 (args_cons (thn (he.run pins s σ H _ I h) fun u s1 ⟨v, H1, I1, r1, q1⟩ => args_nil ?_) hs) hs rfl))) hs2) hs2 rfl))
  obtain ⟨a, xs, ev, hq, q⟩ := q1
  subst ev
  obtain rfl : u = Value.ref a := r1
  obtain ⟨its, rv, p', hz⟩ := I1.list hq
  refine call_reversed_list p'.isList (args_nil ?_)
  have k0 : ∀ b o, s1.heap.get? b = some o → (s1.heap.push (revObj a ((its.toArray.size : Int) - 1))).get? b = some o := fun b o e => Heap.get?_push_of_some _ e
  have I2 : Inv X pins σ H1 { s1 with heap := s1.heap.push (revObj a ((its.toArray.size : Int) - 1)) } := I1.kept (t' := s1.toks) k0
  have hl := p'.isList
  obtain ⟨ol, hol, _⟩ := id hl
  have hne : a ≠ s1.heap.objs.size := Nat.ne_of_lt (Heap.lt_size hol)
  have hn : its.toArray.size ≤ sizeLine := by rw [List.size_toArray, ← rv.length]; exact hz
  generalize hs2' : ({ s1 with heap := s1.heap.push (revObj a ((its.toArray.size : Int) - 1)) } : Shared) = s2 at I2
  have h2 : s2.heap = s1.heap.push (revObj a ((its.toArray.size : Int) - 1)) := by rw [← hs2']
  have W := (Walks.listRev (prog := X.prog) (w := X.w) (A := X.A.in1.in1) (I1.ok.hd hc) s1.heap.objs.size a hne its.toArray).toS
  have e0 : ((its.toArray.size : Nat) : Int) - 1 - ((0 : Nat) : Int) = (its.toArray.size : Int) - 1 := by omega
  have hit : s2.heap.IsRevIter s1.heap.objs.size a ((its.toArray.size : Int) - 1) := by rw [h2]; exact ⟨_, Heap.get?_push_size _ rfl, rfl, rfl⟩
  have sz2 : s2.heap.objs.size = s1.heap.objs.size + 1 := by rw [h2, Heap.size_push]
  refine call_list_rev (s := s2) W (fun i s' x => x.2.1.typeIs) ⟨Nat.zero_le _, by rw [e0]; exact hit, by rw [h2]; exact hl.push _⟩ (fun b hb => ?_) (by simp) (fun s' acc' c' hm hS' hacc => ?_) hn
  · rw [sz2]
    simp only [List.mem_cons, List.not_mem_nil, or_false] at hb
    rcases hb with rfl | rfl
    · exact Nat.lt_succ_self _
    · exact Nat.lt_succ_of_lt (Heap.lt_size hol)
  · have hv : Vals xs.reverse acc'.toList := vals_rev rv hacc
    have hfr : H1 s2.heap.objs.size = none := I2.hok.fresh (Nat.le_refl _)
    have neS : s1.heap.objs.size ≠ s2.heap.objs.size := by rw [sz2]; omega
    -- the list as it will be, the iterator as it is
    have I3 : Inv X pins σ (upd H1 s2.heap.objs.size (.lst xs.reverse)) { s2 with heap := s2.heap.push { cls := .type "list", data := .seq acc' c' } } := by
      refine I2.laid (t' := s2.toks) (fun b o e => Heap.get?_push_of_some _ e) (Nat.le_refl _) ⟨by rw [List.length_reverse]; exact hz, acc'.toList, c', hv, ?_⟩
      rw [Array.toArray_toList]
      exact Heap.get?_push_size _ rfl
    obtain ⟨f0, f1, f2, f3, f4, f5⟩ := I1.fpOk (H' := upd H1 s2.heap.objs.size (.lst xs.reverse)) (b := s1.heap.objs.size) (Nat.le_refl _) (by rw [upd_ne neS]; exact I1.hok.fresh (Nat.le_refl _))
    have es := Moved.eq_with hm
    have I4 : Inv X pins σ (upd H1 s2.heap.objs.size (.lst xs.reverse)) s' := by
      rw [es]
      refine I3.turned (t' := s'.toks) (fun b o hb e => ?_) f0 f1 f3 f4 f5
      by_cases q : b = s2.heap.objs.size
      · subst q
        have e' := Heap.get?_push_size s2.heap (o := ({ cls := .type "list", data := .seq acc' c' } : Obj)) rfl
        rw [e] at e'
        cases e'
        exact hS'
      · refine hm.heap b o (fun hmem => ?_) ?_
        · rcases List.mem_cons.mp hmem with z | z
          · exact q z
          · exact hb (List.mem_singleton.mp z)
        · have lt : b < s2.heap.objs.size := by
            have := Heap.lt_size e
            rw [Heap.size_push] at this
            exact Nat.lt_of_le_of_ne (Nat.le_of_lt_succ this) q
          have eb : s2.heap.get? b = some o := by
            obtain ⟨e1, e2⟩ := Heap.get?_some_iff.mp e
            refine Heap.get?_some_iff.mpr ⟨?_, e2⟩
            have e3 : (s2.heap.objs.push { cls := .type "list", data := .seq acc' c' })[b]? = some o := e1
            rw [Array.getElem?_push_lt lt] at e3
            rw [Array.getElem?_eq_getElem lt]
            exact e3
          exact Heap.get?_push_of_some _ eb
    exact ⟨.ref s2.heap.objs.size, _, I4, rfl, q _ hfr⟩
end Sk

/-! Sk13: all expressions. -/
namespace Sk
open PySem PySem.Spec PyProof.Rows L2

section
variable {T : Tab} {k : Nat} {c a b d : CE} {es : List CE}
theorem pts_of {X : Cx} {sc : Scope} {cs : List CE} {ifs : List Expr} (g : Good T k X sc) (s : ∀ c ∈ cs, SE T k c) (h : mCs sc X.N cs ifs = true) : PTs X ifs (TCv T k X cs) := by
  match cs, ifs, s, h with
  | [], [], _, _ =>
    refine ⟨fun pins s σ H Q I ⟨φ, out, ρ, S, b, ρ', S', R, e, q⟩ => pts_nil.run pins s σ H Q I ?_⟩
    have e' : some (true, ρ, S) = some (b, ρ', S') := e
    cases e'
    exact q H φ .refl R
  | [c], [x], s, h =>
    refine ⟨fun pins s' σ H Q I ⟨φ, out, ρ, S, b, ρ', S', R, e, q⟩ => (pts_one ((s c List.mem_cons_self).pt X sc x g h)).run pins s' σ H Q I ?_⟩
    simp only [evc, evC] at e
    obtain ⟨x, ρ1, S1, ea, e⟩ := bnd_inv e
    split at e
    · cases e
      exact ⟨φ, out, ρ, S, _, _, _, R, ea, q⟩
    · cases e
      exact ⟨φ, out, ρ, S, _, _, _, R, ea, q⟩
    · cases e
  | [], _ :: _, _, h => cases h
  | [_], [], _, h => cases h
  | [_], _ :: _ :: _, _, h => cases h
  | _ :: _ :: _, _, _, h => cases h
/-- a new object of the store -/
theorem Rel.alloc {K : PySem.W.Frag} {mg : Str → Option Value} {φ : List Addr} {out : Addr → Prop} {ρ : Env'} {S : Sto} {σ : L2.St} {H : Hp} {a : Addr} {d : D} (R : Rel K mg φ (fun b => out b ∨ b = a) ρ S σ H) (h : ObjD K mg φ (exc φ (fun b => out b ∨ b = a) ρ σ) H a d) (ho : ¬ out a) :
    Rel K mg (φ ++ [a]) out ρ (S ++ [.da d]) σ H := by
  have hx : ∀ b, exc (φ ++ [a]) out ρ σ b → exc φ (fun b => out b ∨ b = a) ρ σ b := fun b z => by
    rcases z with z | z | z
    · rcases List.mem_append.mp z with z | z
      · exact .inl z
      · exact .inr (.inl (.inr (List.mem_singleton.mp z)))
    · exact .inr (.inl (.inl z))
    · exact .inr (.inr z)
  have pre : ∀ (n : Nat) (b : Addr), φ[n]? = some b → (φ ++ [a])[n]? = some b := fun n b e => by
    rw [List.getElem?_append_left (List.getElem?_eq_some_iff.mp e).1]
    exact e
  have m : Mv φ (φ ++ [a]) (exc φ (fun b => out b ∨ b = a) ρ σ) (exc (φ ++ [a]) out ρ σ) H H := ⟨pre, fun _ _ e _ => e, fun b z => .inl (hx b z)⟩
  have na : a ∉ φ := fun z => R.no a z (.inr rfl)
  refine ⟨R.len, fun i d e => ?_, fun i d e => ?_, R.owi, fun n o e => ?_, by rw [List.length_append, List.length_append, R.sl]; rfl, ?_, fun b z w => ?_, fun b z => R.ot b (.inl z)⟩
  · obtain ⟨v, e1, h1⟩ := R.va i d e
    exact ⟨v, e1, h1.mv m⟩
  · obtain ⟨b, e1, h1, h2, h3⟩ := R.ow i d e
    refine ⟨b, e1, h1.mv m fun _ q => q, fun z => ?_, fun z => h3 (.inl z)⟩
    rcases List.mem_append.mp z with z | z
    · exact h2 z
    · exact h3 (.inr (List.mem_singleton.mp z))
  · by_cases hl : n < S.length
    · rw [List.getElem?_append_left hl] at e
      obtain ⟨b, e1, h1⟩ := R.st n o e
      exact ⟨b, pre n b e1, h1.mv m fun _ q => q⟩
    · have hn : n = S.length := by
        have := (List.getElem?_eq_some_iff.mp e).1
        rw [List.length_append, List.length_singleton] at this
        omega
      subst hn
      rw [List.getElem?_append_right (Nat.le_refl _), Nat.sub_self] at e
      cases e
      refine ⟨a, ?_, h.mv m fun _ q => q⟩
      rw [R.sl, List.getElem?_append_right (Nat.le_refl _), Nat.sub_self]
      rfl
  · rw [List.nodup_append]
    exact ⟨R.nd, (by simp), fun x hx y hy => fun z => na (by rw [List.mem_singleton.mp hy] at z; exact z ▸ hx)⟩
  · rcases List.mem_append.mp z with z | z
    · exact R.no b z (.inl w)
    · rw [List.mem_singleton.mp z] at w
      exact ho w
theorem al_conv (X : Cx) (σ : L2.St) (H : Hp) (Q : VK) : TEv T k X (.al a) σ H Q → TEv T k X a σ H Q := fun ⟨φ, out, ρ, S, o, ρ', S', R, e, q⟩ => by
  simp only [ev, evE] at e
  obtain ⟨x, ρ1, S1, ea, e⟩ := bnd_inv e
  split at e
  · cases e
    refine one R ea fun v H1 φ1 p1 => ?_
    obtain ⟨b, rfl, h1, h2, h3, h4⟩ := p1.val
    have R2 := h1.alloc h2 h3
    refine q _ H1 (φ1 ++ [b]) ⟨⟨fun n c e => ?_, fun c z => ?_, p1.stp.fr, p1.stp.on, p1.stp.kp⟩, R2, .ref ?_⟩
    · have := p1.stp.pre n c e
      rw [List.getElem?_append_left (List.getElem?_eq_some_iff.mp this).1]
      exact this
    · rcases List.mem_append.mp z with z | z
      · exact p1.stp.nw c z
      · rw [List.mem_singleton.mp z]
        exact .inr h4
    · rw [h1.sl, List.getElem?_append_right (Nat.le_refl _), Nat.sub_self]
      rfl
  · cases e
theorem k_al (sa : SE T k a) : SE T k (.al a) := by
  refine ⟨fun X sc e g h => peC (sa.pe X sc e g h) (al_conv X), fun X sc e g h => ?_, fun X sc op vs p g h => ?_⟩
  all_goals
    first
      | (refine ptC (sa.pt X sc e g h) fun σ H Q ⟨φ, out, ρ, S, b, ρ', S', R, e, q⟩ => ?_
         exfalso
         simp only [ev, evE] at e
         obtain ⟨x, ρ1, S1, ea, e⟩ := bnd_inv e
         split at e <;> cases e)
      | (refine pwC (sa.pw X sc op vs p g h) fun σ H Q ⟨φ, out, ρ, S, b, ρ', S', R, e, q⟩ => ?_
         exfalso
         simp only [ev, evE] at e
         obtain ⟨x, ρ1, S1, ea, e⟩ := bnd_inv e
         split at e <;> cases e)
theorem k_lrev (sa : SE T k a) : SE T k (.lrev a) := by
  refine .plain (fun X sc e g h => ?_) fun sc N e h => ?_
  · unfold mE at h
    split at h
    · rename_i x p y p2 z pos2 pos
      simp only [Bool.and_eq_true, decide_eq_true_eq] at h
      obtain ⟨⟨⟨⟨⟨rfl, rfl⟩, h1⟩, h2⟩, h3⟩, h4⟩ := h
      obtain ⟨g1, _⟩ := g.gl h1
      obtain ⟨g2, _⟩ := g.gl h2
      refine peC (pe_lstRev g.calm g1 (g.blt _ (by decide)) g2 (g.blt _ (by decide)) (sa.pe X sc z g h3) (star_plain h4)) fun σ H Q ⟨φ, out, ρ, S, o, ρ', S', R, e, q⟩ => ?_
      simp only [ev, evE] at e
      obtain ⟨x, ρ1, S1, ea, e⟩ := bnd_inv e
      obtain ⟨dx, ex, e⟩ := obd_inv e
      split at e
      · cases e
        refine one R ea fun v H1 φ1 p1 => ?_
        obtain ⟨b, vs, rfl, hq, r1⟩ := look_ok p1.rel (p1.val.op p1.rel) ex
        exact ⟨b, vs, rfl, hq, fun p hp => q _ _ _ (endLst p1.stp p1.rel r1.rev hp)⟩
      · cases e
    · cases h
  · cases e <;> first
      | rfl
      | cases h
theorem ownOf_ix (N : List Str) (t : Tg) : (ownOf N t).map (·.2) = t.ixs := by
  unfold ownOf
  rw [List.map_map]
  exact List.map_id' t.ixs
/-- the block's reading of a comprehension -/
theorem lc_conv {X : Cx} {elt : CE} {tg : Tg} {it : It'} {cs : List CE} {σ : L2.St} {H : Hp} {Q : VK} (h : TEv T k X (.lc elt tg it cs) σ H Q) : tLc (TIv T k X it) (gT X.K tg) (TCv T k X cs) (TEv T k X elt) ((ownOf X.N tg).map (·.2)) σ H Q := by
  obtain ⟨φ, out, ρ, S, o, ρ', S', R, e, q⟩ := h
  simp only [ev, evE] at e
  obtain ⟨ds, ρ1, S1, ei, e⟩ := bnd_inv e
  split at e
  · rename_i no
    obtain ⟨r, ρ2, S2, el, e⟩ := bnd_inv e
    cases e
    rw [ownOf_ix]
    exact lc_sound R ei no el q
  · cases e
theorem k_lc {elt : CE} {tg : Tg} {it : It'} {cs : List CE} (se : SE T k elt) (si : SI T k it) (sc' : ∀ c ∈ cs, SE T k c) : SE T k (.lc elt tg it cs) := by
  refine .plain (fun X sc e g h => ?_) fun sc N e h => ?_
  · unfold mE at h
    split at h
    · rename_i x t i ifs scope pos
      simp only [Bool.and_eq_true, decide_eq_true_eq] at h
      obtain ⟨⟨⟨⟨⟨⟨h1, h2⟩, h3⟩, h4⟩, h5⟩, h6⟩, h7⟩ := h
      obtain ⟨p1, p2⟩ := si.pi X sc i t g h1
      refine peC (pe_lc (g := gT X.K tg) (tt := TCv T k X cs) (te := TEv T k X elt) g.calm g.nd p1 (g.blkOk h4) (fun s H C cl fp => ?_) (fun s H C cl fp => ?_) (fun s H C cl fp => ?_) p2) fun σ H Q q => lc_conv q
      · exact pg_tg (g.blk s H C cl fp) h2 h3
      · exact pts_of (g.blk s H C cl fp) sc' h6
      · exact se.pe _ _ _ (g.blk s H C cl fp) h5
    · cases h
  · cases e <;> first
      | rfl
      | cases h
/-! ### walks -/
theorem i_seq (sa : SE T k a) : SI T k (.seq a) := by
  refine ⟨fun X sc e t g h => ?_⟩
  have h' : (mE sc X.N a e && plainE e && noSet e) = true := h
  simp only [Bool.and_eq_true] at h'
  obtain ⟨⟨h1, h2⟩, h3⟩ := h'
  refine ⟨⟨fun pins s σ H Q I ⟨φ, out, ρ, S, ds, ρ', S', R, ei, q⟩ => ?_⟩, fun x => plain_fold h3⟩
  have pa := sa.pe X sc e g h1
  simp only [evi, evI] at ei
  obtain ⟨x, ρ1, S1, ea, ei⟩ := bnd_inv ei
  obtain ⟨d, ed, ei⟩ := obd_inv ei
  obtain ⟨ds', es', ei⟩ := obd_inv ei
  cases ei
  cases d with
  | tup ds =>
    cases es'
    refine (pi_tup pa).run pins s σ H Q I (one R ea fun v H1 φ1 p1 => ?_)
    obtain ⟨p, vs, rfl, h1, r1⟩ := tup_inv (ROp.toV p1.rel p1.val ed)
    exact ⟨p, rfl, ⟨vs, h1.sq⟩, q _ H1 φ1 p1.stp p1.rel (itok_tup h1 r1)⟩
  | lst ds =>
    cases es'
    refine (pi_list pa).run pins s σ H Q I (one R ea fun v H1 φ1 p1 => ?_)
    have hv := ROp.toV p1.rel p1.val ed
    cases hv with
    | lst h1 r1 => exact ⟨_, rfl, ⟨_, h1.sq⟩, q _ H1 φ1 p1.stp p1.rel (itok_list h1 r1)⟩
  | str z =>
    cases es'
    refine (pi_str pa).run pins s σ H Q I (one R ea fun v H1 φ1 p1 => ?_)
    exact ⟨z, RepV.toStr (ROp.toV p1.rel p1.val ed), q _ H1 φ1 p1.stp p1.rel itok_str⟩
  | _ => cases es'
theorem rng_inv {i j : Int} {ds : List D} (e : rngD i j = some ds) : smallI i ∧ smallI j ∧ ds = (List.range (j - i).toNat).map fun (k : Nat) => D.int (i + k) := by
  unfold rngD at e
  split at e
  · rename_i h
    exact ⟨h.1, h.2, (Option.some.inj e).symm⟩
  · cases e
theorem i_rng (sa : SE T k a) : SI T k (.rng a) := by
  refine ⟨fun X sc e t g h => ?_⟩
  unfold mI at h
  split at h
  · rename_i x p y pos
    simp only [Bool.and_eq_true, decide_eq_true_eq] at h
    obtain ⟨⟨⟨rfl, h1⟩, h2⟩, h3⟩ := h
    obtain ⟨g1, g2, g3, g4⟩ := g.gl h1
    refine ⟨piC (pi_range1 g1 (g.blt _ (by decide)) (pa1 (sa.pe X sc y g h2) h3) (star_plain h3)) fun σ H Q ⟨φ, out, ρ, S, ds, ρ', S', R, ei, q⟩ => ?_, fun x => rfl⟩
    simp only [evi, evI] at ei
    obtain ⟨x, ρ1, S1, ea, ei⟩ := bnd_inv ei
    split at ei
    · rename_i n
      obtain ⟨ds', er, ei⟩ := obd_inv ei
      cases ei
      obtain ⟨r1, r2, rfl⟩ := rng_inv er
      refine one R ea fun v H1 φ1 p1 => ⟨n, congrArg (fun z => [z]) (RepV.toInt p1.val), r2.1, r2.2, q _ H1 φ1 p1.stp p1.rel ?_⟩
      rw [Int.sub_zero]
      exact itok_rng
    · cases ei
  · cases h
theorem i_rng2 (sa : SE T k a) (sb : SE T k b) : SI T k (.rng2 a b) := by
  refine ⟨fun X sc e t g h => ?_⟩
  unfold mI at h
  split at h
  · rename_i x p y z pos
    simp only [Bool.and_eq_true, decide_eq_true_eq] at h
    obtain ⟨⟨⟨⟨⟨rfl, h1⟩, h2⟩, h3⟩, h4⟩, h5⟩ := h
    obtain ⟨g1, g2, g3, g4⟩ := g.gl h1
    have hs2 : starEach [z] X.env = [(false, eval z X.env)] := star_plain h5
    refine ⟨piC (pi_range2 g1 (g.blt _ (by decide)) (pa_cons (sa.pe X sc y g h2) (pa1 (sb.pe X sc z g h4) h5) (star_plain h3)) (by rw [star_plain h3, hs2]) hs2) fun σ H Q ⟨φ, out, ρ, S, ds, ρ', S', R, ei, q⟩ => ?_, fun x => rfl⟩
    simp only [evi, evI] at ei
    obtain ⟨x, ρ1, S1, ea, ei⟩ := bnd_inv ei
    obtain ⟨y, ρ2, S2, eb, ei⟩ := bnd_inv ei
    split at ei
    · obtain ⟨ds', er, ei⟩ := obd_inv ei
      cases ei
      obtain ⟨r1, r2, rfl⟩ := rng_inv er
      exact two R ea eb fun v u H2 φ2 t2 R2 hv hu => ⟨_, _, by rw [RepV.toInt hv, RepV.toInt hu], ⟨r1.1, r1.2, r2.1, r2.2⟩, q _ H2 φ2 t2 R2 itok_rng⟩
    · cases ei
  · cases h
end
section
variable {T : Tab} {k : Nat}
theorem k_false {c : CE} (h : ∀ sc N e, mE sc N c e = false) : SE T k c :=
  ⟨fun X sc e g m => absurd ((h sc X.N e).symm.trans m) Bool.false_ne_true, fun X sc e g m => absurd ((h sc X.N e).symm.trans m) Bool.false_ne_true, fun X sc op vs p g m => absurd ((h sc X.N _).symm.trans m) Bool.false_ne_true⟩
theorem i_false {c : It'} (h : ∀ sc N e t, mI sc N c e t = false) : SI T k c := ⟨fun X sc e t g m => absurd ((h sc X.N e t).symm.trans m) Bool.false_ne_true⟩
variable (T : Tab) (k : Nat)
mutual
theorem sE : ∀ c : CE, SE T k c
  | .var _ => k_var
  | .rd _ => k_rd
  | .mv _ => k_mv
  | .non => k_non
  | .bl _ => k_bl
  | .int _ => k_int
  | .str _ => k_str
  | .glo _ => k_glo
  | .tup es => k_tup (sL es)
  | .lst es => k_lst (sL es)
  | .dis es => k_dis (sL es)
  | .bop _ a b => k_bop (sE a) (sE b)
  | .neg a => k_neg (sE a)
  | .no a => k_no (sE a)
  | .cmp _ a b => k_cmp (sE a) (sE b)
  | .chn _ _ a b c => k_chn (sE a) (sE b) (sE c)
  | .and a b => k_and (sE a) (sE b)
  | .orr a b => k_orr (sE a) (sE b)
  | .ite c a b => k_ite (sE c) (sE a) (sE b)
  | .sub a i => k_sub (sE a) (sE i)
  | .slc a lo hi => k_slc (sE a) (sO lo) (sO hi)
  | .rev a => k_rev (sE a)
  | .bf _ a => k_bf (sE a)
  | .bf2 _ a b => k_bf2 (sE a) (sE b)
  | .mt _ o es => k_mt (sE o) (sL es)
  | .call _ es => k_call (sL es)
  | .meth _ _ _ => k_false fun _ _ _ => rfl
  | .new _ _ => k_false fun _ _ _ => rfl
  | .attr _ _ => k_false fun _ _ _ => rfl
  | .al e => k_al (sE e)
  | .lrev e => k_lrev (sE e)
  | .lc elt _ it cs => k_lc (sE elt) (sI it) (sL cs)
theorem sI : ∀ c : It', SI T k c
  | .seq a => i_seq (sE a)
  | .rng a => i_rng (sE a)
  | .rng2 a b => i_rng2 (sE a) (sE b)
  | .enu _ => i_false fun _ _ _ _ => rfl
  | .zip _ _ => i_false fun _ _ _ _ => rfl
  | .items _ => i_false fun _ _ _ _ => rfl
  | .values _ => i_false fun _ _ _ _ => rfl
  | .revd _ => i_false fun _ _ _ _ => rfl
theorem sL : ∀ (es : List CE), ∀ c ∈ es, SE T k c
  | [], _, h => nomatch h
  | e :: es, c, h => (List.mem_cons.mp h).elim (fun z => z ▸ sE e) (fun z => sL es c z)
theorem sO : ∀ (o : Option CE), ∀ c, o = some c → SE T k c
  | none, _, h => nomatch h
  | some e, c, h => Option.some.inj h ▸ sE e
end
end
end Sk

/-! Sk14: statements. -/
namespace Sk
open PySem PySem.Spec PyProof.Rows L2

theorem psC {X : Cx} {st : Stmt} {t t' : TS} (h : PS X st t) (c : ∀ D σ H, t' D σ H → t D σ H) : PS X st t' := ⟨fun pins s σ H D I q => h.run pins s σ H D I (c D σ H q)⟩
theorem pssC {X : Cx} {st : List Stmt} {t t' : TS} (h : PSs X st t) (c : ∀ D σ H, t' D σ H → t D σ H) : PSs X st t' := ⟨fun pins s σ H D I q => h.run pins s σ H D I (c D σ H q)⟩

/-! ### the ends -/
structure PostR (K : PySem.W.Frag) (mg : Str → Option Value) (φ : List Addr) (out : Addr → Prop) (ρ : Env') (σ : L2.St) (H : Hp) (x : Op) (S' : Sto) (v : V) (H' : Hp) (φ' : List Addr) : Prop where
  stp : Stp φ ρ σ H φ' [] [] H'
  rel : Rel K mg φ' out [] S' [] H'
  val : ROp K mg φ' out [] S' [] H' H (ownA ρ σ) x v
def EndO (K : PySem.W.Frag) (mg : Str → Option Value) (φ : List Addr) (out : Addr → Prop) (ρ : Env') (σ : L2.St) (H : Hp) (D : Ends) : Out → Prop
  | .nx ρ' S' => ∀ σ' H' φ', Stp φ ρ σ H φ' ρ' σ' H' → Rel K mg φ' out ρ' S' σ' H' → D.nx σ' H'
  | .bk ρ' S' => ∀ σ' H' φ', Stp φ ρ σ H φ' ρ' σ' H' → Rel K mg φ' out ρ' S' σ' H' → D.bk σ' H'
  | .ct ρ' S' => ∀ σ' H' φ', Stp φ ρ σ H φ' ρ' σ' H' → Rel K mg φ' out ρ' S' σ' H' → D.ct σ' H'
  | .rt x S' => ∀ v H' φ', PostR K mg φ out ρ σ H x S' v H' φ' → D.rt v H'
section
variable {K : PySem.W.Frag} {mg : Str → Option Value} {φ φ1 φ' : List Addr} {out : Addr → Prop} {ρ ρ1 ρ' : Env'} {S S' : Sto} {σ σ1 : L2.St} {H H1 H' : Hp} {En : Ends}
theorem PostR.trans {x : Op} {v : V} (t : Stp φ ρ σ H φ1 ρ1 σ1 H1) (p : PostR K mg φ1 out ρ1 σ1 H1 x S' v H' φ') : PostR K mg φ out ρ σ H x S' v H' φ' := by
  refine ⟨t.trans p.stp, p.rel, ?_⟩
  have h := p.val
  cases x with
  | fz d => exact h
  | sl i => exact h
  | fr d =>
    obtain ⟨a, e, h1, h2, h3, h4⟩ := h
    refine ⟨a, e, h1, h2, h3, ?_⟩
    rcases h4 with h4 | h4
    · exact .inl (Classical.byContradiction fun z => t.kp a z h4)
    · exact (t.on a h4).elim .inr .inl
theorem EndO.step {o : Out} (t : Stp φ ρ σ H φ1 ρ1 σ1 H1) (h : EndO K mg φ out ρ σ H En o) : EndO K mg φ1 out ρ1 σ1 H1 En o := by
  cases o with
  | nx ρ' S' => exact fun σ' H' φ' t' R => h σ' H' φ' (t.trans t') R
  | bk ρ' S' => exact fun σ' H' φ' t' R => h σ' H' φ' (t.trans t') R
  | ct ρ' S' => exact fun σ' H' φ' t' R => h σ' H' φ' (t.trans t') R
  | rt x S' => exact fun v H' φ' p => h v H' φ' (p.trans t)
/-- the frame's names go -/
theorem Rel.leave (R : Rel K mg φ out ρ S σ H) : Rel K mg φ out [] S [] H ∧ ∀ b, ownA [] [] b → ownA ρ σ b := by
  have own : ∀ b, ownA [] [] b → ownA ρ σ b := fun b ⟨i, d, e, _⟩ => by cases e
  have m : Mv φ φ (exc φ out ρ σ) (exc φ out [] []) H H := own_mv own
  refine ⟨⟨rfl, fun i d e => (by cases e), fun i d e => (by cases e), fun i j a d e z => (by cases z), fun n o e => ?_, R.sl, R.nd, R.no, R.ot⟩, own⟩
  obtain ⟨a, e1, h1⟩ := R.st n o e
  exact ⟨a, e1, h1.mv m fun _ q => q⟩
theorem Post.leave {x : Op} {v : V} (hx : ∀ i, x ≠ .sl i) (p : Post K mg φ out ρ σ H x ρ' S' v H' φ') : PostR K mg φ out ρ σ H x S' v H' φ' := by
  obtain ⟨R1, own⟩ := p.rel.leave
  refine ⟨p.stp.trans (own_stp own), R1, ?_⟩
  have h := p.val
  cases x with
  | fz d => exact RepV.mv (own_mv own) h
  | sl i => exact absurd rfl (hx i)
  | fr d =>
    obtain ⟨a, e, h1, h2, h3, h4⟩ := h
    exact ⟨a, e, h1.leave.1, h2.mv (own_mv h1.leave.2) fun _ q => q, h3, h4⟩
/-- a list, a dict of one's own comes into a slot -/
theorem Rel.setOw {a : Addr} {d : D} (R : Rel K mg φ (fun b => out b ∨ b = a) ρ S σ H) (h : ObjD K mg φ (exc φ (fun b => out b ∨ b = a) ρ σ) H a d) (ho : ¬ out a) {i : Nat} :
    Rel K mg φ out (ρ.set i (.ow d)) S (σ.set i (some (.ref a))) H ∧ ∀ b, ownA (ρ.set i (.ow d)) (σ.set i (some (.ref a))) b → b = a ∨ ownA ρ σ b := by
  have cases' : ∀ {j : Nat} {s : Sl}, (ρ.set i (.ow d))[j]? = some s → (i = j ∧ s = .ow d ∧ (σ.set i (some (.ref a)))[j]? = some (some (.ref a))) ∨ (i ≠ j ∧ ρ[j]? = some s ∧ (σ.set i (some (.ref a)))[j]? = σ[j]?) := fun {j s} e => by
    by_cases z : i = j
    · subst z
      by_cases hl : i < ρ.length
      · rw [List.getElem?_set_self hl] at e
        exact .inl ⟨rfl, (Option.some.inj e).symm, List.getElem?_set_self (R.len ▸ hl)⟩
      · rw [List.getElem?_eq_none (by simpa using hl)] at e
        cases e
    · rw [List.getElem?_set_ne z] at e
      exact .inr ⟨z, e, List.getElem?_set_ne z⟩
  have own : ∀ b, ownA (ρ.set i (.ow d)) (σ.set i (some (.ref a))) b → b = a ∨ ownA ρ σ b := fun b ⟨j, x, e1, e2⟩ => by
    rcases cases' e1 with ⟨_, _, z⟩ | ⟨_, z1, z2⟩
    · rw [e2] at z
      cases z
      exact .inl rfl
    · exact .inr ⟨j, x, z1, z2 ▸ e2⟩
  have m : Mv φ φ (exc φ (fun b => out b ∨ b = a) ρ σ) (exc φ out (ρ.set i (.ow d)) (σ.set i (some (.ref a)))) H H := .less fun b z => by
    rcases z with z | z | z
    · exact .inl z
    · exact .inr (.inl (.inl z))
    · exact (own b z).elim (fun z => .inr (.inl (.inr z))) fun z => .inr (.inr z)
  have na : a ∉ φ := fun z => R.no a z (.inr rfl)
  refine ⟨⟨by rw [List.length_set, List.length_set]; exact R.len, fun j x e => ?_, fun j x e => ?_, fun u v w x y q1 q2 q3 q4 => ?_, fun n ob e => ?_, R.sl, R.nd, fun b q z => R.no b q (.inl z), fun b z => R.ot b (.inl z)⟩, own⟩
  · rcases cases' e with ⟨_, z, _⟩ | ⟨_, z1, z2⟩
    · cases z
    · obtain ⟨v, e1, h1⟩ := R.va j x z1
      exact ⟨v, z2.trans e1, h1.mv m⟩
  · rcases cases' e with ⟨_, z, z2⟩ | ⟨_, z1, z2⟩
    · cases z
      exact ⟨a, z2, h.mv m fun _ q => q, na, ho⟩
    · obtain ⟨b, e1, h1, h2, h3⟩ := R.ow j x z1
      exact ⟨b, z2.trans e1, h1.mv m fun _ q => q, h2, fun z => h3 (.inl z)⟩
  · have ne : ∀ {j : Nat} {x : D}, ρ[j]? = some (.ow x) → σ[j]? = some (some (.ref a)) → False := fun {j x} e1 e2 => by
      obtain ⟨b, e3, _, _, h3⟩ := R.ow j x e1
      rw [e2] at e3
      cases e3
      exact h3 (.inr rfl)
    rcases cases' q1 with ⟨z1, _, z2⟩ | ⟨z1, z2, z3⟩ <;> rcases cases' q2 with ⟨y1, _, y2⟩ | ⟨y1, y2, y3⟩
    · exact z1.symm.trans y1
    · rw [q3] at z2
      cases z2
      rw [y3] at q4
      exact (ne y2 q4).elim
    · rw [q4] at y2
      cases y2
      rw [z3] at q3
      exact (ne z2 q3).elim
    · exact R.owi u v w x y z2 y2 (z3 ▸ q3) (y3 ▸ q4)
  · obtain ⟨b, e1, h1⟩ := R.st n ob e
    exact ⟨b, e1, h1.mv m fun _ q => q⟩
/-- a list, a dict of one's own is written no more -/
theorem Rel.freeze (R : Rel K mg φ out ρ S σ H) {i : Nat} {d : D} (hi : ρ[i]? = some (.ow d)) : Rel K mg φ out (ρ.set i (.va d)) S σ H ∧ ∀ b, ownA (ρ.set i (.va d)) σ b → ownA ρ σ b := by
  obtain ⟨a, e1, h1, h2, h3⟩ := R.ow i d hi
  obtain ⟨R2, h4⟩ := R.moved hi e1
  have hl : i < ρ.length := (List.getElem?_eq_some_iff.mp hi).1
  have own : ∀ b, ownA (ρ.set i (.va d)) σ b → ownA (ρ.set i .no) σ b := fun b ⟨j, x, q1, q2⟩ => by
    by_cases z : i = j
    · subst z
      rw [List.getElem?_set_self hl] at q1
      cases q1
    · rw [List.getElem?_set_ne z] at q1
      exact ⟨j, x, by rw [List.getElem?_set_ne z]; exact q1, q2⟩
  have own2 : ∀ b, ownA (ρ.set i (.va d)) σ b → ownA ρ σ b := fun b ⟨j, x, q1, q2⟩ => by
    by_cases z : i = j
    · subst z
      rw [List.getElem?_set_self hl] at q1
      cases q1
    · rw [List.getElem?_set_ne z] at q1
      exact ⟨j, x, q1, q2⟩
  have m0 : ∀ b, exc φ out (ρ.set i (.va d)) σ b → exc φ (fun b => out b ∨ b = a) (ρ.set i .no) σ b := fun b z => z.imp id fun z => z.imp .inl (own b)
  have m : Mv φ φ (exc φ out ρ σ) (exc φ out (ρ.set i (.va d)) σ) H H := own_mv own2
  have na : ¬ exc φ out (ρ.set i (.va d)) σ a := fun z => by
    rcases z with z | z | z
    · exact h2 z
    · exact h3 z
    · obtain ⟨j, x, q1, q2⟩ := own a z
      obtain ⟨b, e3, _, _, h5⟩ := R2.ow j x q1
      rw [q2] at e3
      cases e3
      exact h5 (.inr rfl)
  have hv : RepV K mg φ (exc φ out (ρ.set i (.va d)) σ) H d (.ref a) := h4.rep m0 na
  refine ⟨⟨by rw [List.length_set]; exact R.len, fun j x e => ?_, fun j x e => ?_, fun u v w x y q1 q2 q3 q4 => ?_, fun n ob e => ?_, R.sl, R.nd, R.no, R.ot⟩, own2⟩
  · by_cases z : i = j
    · subst z
      rw [List.getElem?_set_self hl] at e
      cases e
      exact ⟨_, e1, hv⟩
    · rw [List.getElem?_set_ne z] at e
      obtain ⟨v, q1, q2⟩ := R.va j x e
      exact ⟨v, q1, q2.mv m⟩
  · by_cases z : i = j
    · subst z
      rw [List.getElem?_set_self hl] at e
      cases e
    · rw [List.getElem?_set_ne z] at e
      obtain ⟨b, q1, q2, q3⟩ := R.ow j x e
      exact ⟨b, q1, q2.mv m fun _ q => q, q3⟩
  · have sub : ∀ {j : Nat} {x : D}, (ρ.set i (.va d))[j]? = some (.ow x) → ρ[j]? = some (.ow x) := fun {j x} e => by
      by_cases z : i = j
      · subst z
        rw [List.getElem?_set_self hl] at e
        cases e
      · rw [List.getElem?_set_ne z] at e
        exact e
    exact R.owi u v w x y (sub q1) (sub q2) q3 q4
  · obtain ⟨b, q1, q2⟩ := R.st n ob e
    exact ⟨b, q1, q2.mv m fun _ q => q⟩
end

/-! ### the two texts -/
def locB (sc : Scope) (x : Str) : Bool := match sc.names.lookup x with
  | some .local => true
  | some .cell => true
  | _ => false
/-- a comprehension put into a name: the way the model takes -/
def swB (sc : Scope) (y : Str) (py : Pos) : Expr → Bool
  | .ListComp _ _ scope pos => decide (sc.names.lookup y = some .local) && (py.line == pos.line) && !(scope.names.any fun (n, k) => n == y && (k == .local || k == .cell))
  | _ => false
def isLc : Expr → Bool
  | .ListComp .. => true
  | .SetComp .. => true
  | .DictComp .. => true
  | _ => false
def otherC : Expr → Bool
  | .SetComp .. => true
  | .DictComp .. => true
  | _ => false
def swN (n : Nat) : Expr → Bool
  | .Tuple vs _ _ => !(n == 2 || n == 3) || vs.length != n || vs.all (foldedForSure 8)
  | _ => true
def starred : Expr → Bool
  | .Starred .. => true
  | _ => false
mutual
def mS (sc : Scope) (N : List Str) : CS → Stmt → Bool
  | .asg i e, st => (match st with
    | .Assign [.Name x _] v _ => decide (N[i]? = some x) && locB sc x && mE sc N e v && !otherC v
    | _ => false)
  | .asgO i e, st => (match st with
    | .Assign [.Name x _] v _ => decide (N[i]? = some x) && locB sc x && mE sc N e v && !otherC v
    | _ => false)
  | .asgT is e, st => (match st with
    | .Assign [.Tuple ts n p] v _ => tgN N (.many is) (.Tuple ts n p) && tgLoc sc (.Tuple ts n p) && mE sc N e v && swN ts.length v && !otherC v
    | _ => false)
  | .asgP i j a b, st => (match st with
    | .Assign [.Tuple [.Name x px, .Name y py] _ _] (.Tuple [v, w] _ _) _ => decide (N[i]? = some x) && decide (N[j]? = some y) && decide (i ≠ j) && decide (sc.names.lookup x = some .local) && decide (sc.names.lookup y = some .local) && mEs sc N [a, b] [v, w] &&
      (px.line == py.line) && (x != y) && !([v, w].all (foldedForSure 8)) && !([v, w].all (constantsAlone 8))
    | _ => false)
  | .aug i o e, st => (match st with
    | .AugAssign (.Name x _) op v _ => decide (N[i]? = some x) && locB sc x && decide (opOf o = op) && mE sc N e v
    | _ => false)
  | .setI o k e, st => (match st with
    | .Assign [.Subscript x y _] v _ => mE sc N o x && mE sc N k y && mE sc N e v && plainE y && !otherC v
    | _ => false)
  | .setA _ _ _, _ => false
  | .xpr e, st => (match st with
    | .Expr v _ => mE sc N e v && !isLc v
    | _ => false)
  | .ret e, st => (match st with
    | .Return (some v) _ => mE sc N e v
    | _ => false)
  | .retN, st => (match st with
    | .Return none _ => true
    | _ => false)
  | .ife c a b, st => (match st with
    | .If v x y _ => mE sc N c v && mSs sc N a x && mSs sc N b y
    | _ => false)
  | .whl c b, st => (match st with
    | .While v x [] _ => mE sc N c v && mSs sc N b x
    | _ => false)
  | .for_ tg it b, st => (match st with
    | .For t i x [] _ => mI sc N it i t && tgN N tg t && tgLoc sc t && mSs sc N b x
    | _ => false)
  | .brk, st => (match st with
    | .Break _ => true
    | _ => false)
  | .cnt, st => (match st with
    | .Continue _ => true
    | _ => false)
  | .pas, st => (match st with
    | .Pass _ => true
    | _ => false)
  | .frz _ s, st => mS sc N s st
def mSs (sc : Scope) (N : List Str) : List CS → List Stmt → Bool
  | [], l => l.isEmpty
  | c :: cs, l => (match l with
    | e :: r => mS sc N c e && mSs sc N cs r
    | [] => false)
end
section
variable (T : Tab) (k : Nat) (X : Cx)
abbrev evst (c : CS) (ρ : Env') (S : Sto) := evS T.G (callK T.G T.F T.M k) T.M c ρ S
abbrev evsts (c : List CS) (ρ : Env') (S : Sto) := evSs T.G (callK T.G T.F T.M k) T.M c ρ S
def TSv (c : CS) : TS := fun D σ H => ∃ φ out ρ S o, Rel X.K X.mg φ out ρ S σ H ∧ evst T k c ρ S = some o ∧ EndO X.K X.mg φ out ρ σ H D o
def TSsv (c : List CS) : TS := fun D σ H => ∃ φ out ρ S o, Rel X.K X.mg φ out ρ S σ H ∧ evsts T k c ρ S = some o ∧ EndO X.K X.mg φ out ρ σ H D o
structure SS (c : CS) : Prop where
  ps : ∀ X sc st, Good T k X sc → X.env.scope.kind = .function → PassesOwn (model X.prog X.w) X.A X.env X.xe → mS sc X.N c st = true → PS X st (TSv T k X c)
structure SSs (c : List CS) : Prop where
  ps : ∀ X sc st, Good T k X sc → X.env.scope.kind = .function → PassesOwn (model X.prog X.w) X.A X.env X.xe → mSs sc X.N c st = true → PSs X st (TSsv T k X c)
end
section
variable {T : Tab} {k : Nat} {X : Cx} {sc : Scope}
theorem locB_of (g : Good T k X sc) {x : Str} (h : locB sc x = true) : Loc X.env.scope x ∧ (X.fn x = true ∨ X.env.scope.names.lookup x = some .local) := loc_of g h
theorem sw_none {e : Expr} {t : Option Expr} {l : Nat} {env : Env} (h : isLc e = false) : swapsWith e t l env = pure false := by
  cases e <;> first
    | rfl
    | cases h
theorem sw_name (g : Good T k X sc) (hk : X.env.scope.kind = .function) {y : Str} (hy : locB sc y = true) {py : Pos} {v : Expr} {l : Nat} (ho : otherC v = false) (h : swB sc y py v = false) : swapsWith v (some (.Name y py)) l X.env = pure false := by
  cases v with
  | ListComp elt gs scope pos =>
    have hb : X.env.blockKind = .function := by unfold Env.blockKind; rw [hk]; rfl
    have h' : (decide (sc.names.lookup y = some .local) && (py.line == pos.line) && !(scope.names.any fun (n, k) => n == y && (k == .local || k == .cell))) = false := h
    have ky : (X.env.kindOf y == some .local) = decide (sc.names.lookup y = some .local) := by
      unfold locB at hy
      split at hy
      · rename_i e
        have := g.loc y e
        show (X.env.scope.names.lookup y == some .local) = _
        rw [this, e]
        rfl
      · rename_i e
        have := g.cel y e
        show (X.env.scope.names.lookup y == some .local) = _
        rw [this, e]
        rfl
      · cases hy
    unfold swapsWith
    simp only [hb, ky, Expr.pos]
    show (pure (true && decide (sc.names.lookup y = some .local) && (py.line == pos.line) && !(scope.names.any fun (n, k) => n == y && (k == .local || k == .cell))) : Sem Bool) = pure false
    rw [Bool.true_and, h']
  | SetComp _ _ _ _ => cases ho
  | DictComp _ _ _ _ _ => cases ho
  | _ => rfl
/-- name = e -/
theorem ps_name0 (g : Good T k X sc) (hk : X.env.scope.kind = .function) {i : Nat} {y : Str} {py pos : Pos} {e : CE} {v : Expr} (hN : X.N[i]? = some y) (hy : locB sc y = true) (ho : otherC v = false) (h : mE sc X.N e v = true)
    (hal : ∀ e', e = .al e' → PS X (.Assign [.Name y py] v pos) (tAsg (TEv T k X e') (gName i))) : PS X (.Assign [.Name y py] v pos) (tAsg (TEv T k X e) (gName i)) := by
  obtain ⟨l1, l2⟩ := locB_of g hy
  cases hw : swB sc y py v with
  | false => exact ps_set g.nd hN l1 ((sE T k e).pe X sc v g h) (sw_name g hk hy ho hw) l2
  | true =>
    cases v with
    | ListComp x gens scope vp =>
      have hw' : (decide (sc.names.lookup y = some .local) && (py.line == vp.line) && !(scope.names.any fun (n, k) => n == y && (k == .local || k == .cell))) = true := hw
      simp only [Bool.and_eq_true, decide_eq_true_eq, Bool.not_eq_true'] at hw'
      obtain ⟨⟨w1, w2⟩, w3⟩ := hw'
      cases e with
      | lc elt tg it cs =>
        unfold mE at h
        split at h
        · rename_i x' t i' ifs scope' pos' heq
          cases heq
          simp only [Bool.and_eq_true, decide_eq_true_eq] at h
          obtain ⟨⟨⟨⟨⟨⟨h1, h2⟩, h3⟩, h4⟩, h5⟩, h6⟩, h7⟩ := h
          obtain ⟨p1, p2⟩ := (sI T k it).pi X sc _ _ g h1
          refine psC (ps_setLc (g := gT X.K tg) (tt := TCv T k X cs) (te := TEv T k X elt) g.calm g.nd hN (g.loc y w1) (sw_true hk (g.loc y w1) w2 w3) p1 (g.blkOk h4) (fun s H C cl fp => ?_) (fun s H C cl fp => ?_) (fun s H C cl fp => ?_) p2) fun D σ H q => lc_conv q
          · exact pg_tg (g.blk s H C cl fp) h2 h3
          · exact pts_of (g.blk s H C cl fp) (sL T k cs) h6
          · exact (sE T k elt).pe _ _ _ (g.blk s H C cl fp) h5
        · cases h
      | al e' => exact psC (hal e' rfl) fun D σ H q => al_conv X σ H _ q
      | _ => cases h
    | _ => cases hw
theorem ps_name (g : Good T k X sc) (hk : X.env.scope.kind = .function) {i : Nat} {y : Str} {py pos : Pos} {v : Expr} (hN : X.N[i]? = some y) (hy : locB sc y = true) (ho : otherC v = false) : ∀ {e : CE}, mE sc X.N e v = true →
    PS X (.Assign [.Name y py] v pos) (tAsg (TEv T k X e) (gName i))
  | .al e', h => ps_name0 g hk hN hy ho h fun e'' z => by
    cases z
    exact ps_name g hk hN hy ho (e := e') h
  | .var _, h | .rd _, h | .mv _, h | .non, h | .bl _, h | .int _, h | .str _, h | .glo _, h | .tup _, h | .lst _, h | .dis _, h | .bop _ _ _, h | .neg _, h | .no _, h | .cmp _ _ _, h | .chn _ _ _ _ _, h | .and _ _, h | .orr _ _, h | .ite _ _ _, h | .sub _ _, h
  | .slc _ _ _, h | .rev _, h | .bf _ _, h | .bf2 _ _ _, h | .mt _ _ _, h | .call _ _, h | .meth _ _ _, h | .new _ _, h | .attr _ _, h | .lrev _, h | .lc _ _ _ _, h => ps_name0 g hk hN hy ho h fun e'' z => nomatch z
theorem s_asg {i : Nat} {e : CE} : SS T k (.asg i e) := by
  refine ⟨fun X sc st g hk hp h => ?_⟩
  unfold mS at h
  split at h
  · rename_i x px v p
    simp only [Bool.and_eq_true, decide_eq_true_eq, Bool.not_eq_true'] at h
    obtain ⟨⟨⟨h1, h2⟩, h3⟩, h4⟩ := h
    refine psC (ps_name g hk h1 h2 h4 h3) fun D σ H ⟨φ, out, ρ, S, o, R, es, q⟩ => ?_
    simp only [evst, evS] at es
    obtain ⟨x, ρ1, S1, ea, es⟩ := bnd_inv es
    obtain ⟨d, ed, es⟩ := obd_inv es
    cases es
    refine one R ea fun w H1 φ1 p1 => ?_
    obtain ⟨R2, own⟩ := p1.rel.slot (i := i) (s := .va d) (o := some w) (.inr ⟨d, w, rfl, rfl, ROp.toV p1.rel p1.val ed⟩)
    exact q _ _ _ (p1.stp.trans (own_stp own)) R2
  · cases h
theorem s_asgO {i : Nat} {e : CE} : SS T k (.asgO i e) := by
  refine ⟨fun X sc st g hk hp h => ?_⟩
  unfold mS at h
  split at h
  · rename_i x px v p
    simp only [Bool.and_eq_true, decide_eq_true_eq, Bool.not_eq_true'] at h
    obtain ⟨⟨⟨h1, h2⟩, h3⟩, h4⟩ := h
    refine psC (ps_name g hk h1 h2 h4 h3) fun D σ H ⟨φ, out, ρ, S, o, R, es, q⟩ => ?_
    simp only [evst, evS] at es
    obtain ⟨x, ρ1, S1, ea, es⟩ := bnd_inv es
    split at es
    · rename_i d
      cases es
      refine one R ea fun w H1 φ1 p1 => ?_
      obtain ⟨a, rfl, h1, h2, h3, h4⟩ := p1.val
      obtain ⟨R2, own⟩ := h1.setOw h2 h3 (i := i)
      refine q _ _ _ ⟨p1.stp.pre, p1.stp.nw, p1.stp.fr, fun b z => ?_, p1.stp.kp⟩ R2
      rcases own b z with rfl | z
      · exact h4.symm
      · exact p1.stp.on b z
    · cases es
  · cases h
end
end Sk

/-! Sk15: all statements. -/
namespace Sk
open PySem PySem.Spec PyProof.Rows L2

section
variable {T : Tab} {k : Nat} {X : Cx} {sc : Scope}
/-! ### several names -/
theorem swapped_none {ts : List Expr} {n : Nat} {p : Pos} {v : Expr} {env : Env} (h : swN ts.length v = true) : swappedStores [.Tuple ts n p] v env = pure none := by
  cases v with
  | Tuple vs m q =>
    have h' : (!(ts.length == 2 || ts.length == 3) || vs.length != ts.length || vs.all (foldedForSure 8)) = true := h
    unfold swappedStores
    simp only [Bool.or_eq_true] at h'
    show (if (!(ts.length == 2 || ts.length == 3) || vs.length != ts.length || env.blockKind != .function) = true then _ else _) = _
    split
    · rfl
    · rename_i hn
      have hf : vs.all (foldedForSure 8) = true := by
        rcases h' with (h' | h') | h'
        · exact absurd (by simp [h']) hn
        · exact absurd (by simp [h']) hn
        · exact h'
      show (if (vs.any fun | .Starred .. => true | _ => false) = true then _ else _) = _
      split
      · rfl
      · dsimp only
        split
        · rfl
        · rfl
  | _ => rfl
theorem swapped_two {x y : Str} {px py p q : Pos} {n m : Nat} {v w : Expr} (g : Good T k X sc) (hk : X.env.scope.kind = .function) (hx : sc.names.lookup x = some .local) (hy : sc.names.lookup y = some .local) (hv : starred v = false) (hw : starred w = false)
    (hl : (px.line == py.line) = true) (hn : (x != y) = true) (h1 : ([v, w].all (foldedForSure 8)) = false) (h2 : ([v, w].all (constantsAlone 8)) = false) :
    swappedStores [.Tuple [.Name x px, .Name y py] n p] (.Tuple [v, w] m q) X.env = pure (some [x, y]) := by
  have kx : (X.env.kindOf x == some .local) = true := by
    show (X.env.scope.names.lookup x == some .local) = true
    rw [g.loc x hx]; rfl
  have ky : (X.env.kindOf y == some .local) = true := by
    show (X.env.scope.names.lookup y == some .local) = true
    rw [g.loc y hy]; rfl
  have hb : X.env.blockKind = .function := by unfold Env.blockKind; rw [hk]; rfl
  have sv : ([v, w].any fun | .Starred .. => true | _ => false) = false := by
    cases v <;> first
      | (cases hv; done)
      | (cases w <;> first
          | (cases hw; done)
          | rfl)
  unfold swappedStores
  show (if (!([Expr.Name x px, .Name y py].length == 2 || [Expr.Name x px, .Name y py].length == 3) || [v, w].length != [Expr.Name x px, .Name y py].length || X.env.blockKind != .function) = true then _ else _) = _
  rw [if_neg (by rw [hb]; exact Bool.false_ne_true)]
  show (if ([v, w].any fun | .Starred .. => true | _ => false) = true then _ else _) = _
  rw [sv]
  rw [if_neg Bool.false_ne_true]
  have hl' : (py.line == px.line) = true := by
    rw [beq_iff_eq] at hl ⊢
    exact hl.symm
  have e1 : (X.env.kindOf x == some .local && px.line == (([Expr.Name x px, .Name y py].head?.map (·.pos.line)).getD 0)) = true := by
    rw [kx]
    exact beq_self_eq_true px.line
  have e2 : (X.env.kindOf y == some .local && py.line == (([Expr.Name x px, .Name y py].head?.map (·.pos.line)).getD 0)) = true := by
    rw [ky]
    exact hl'
  have ne : ([x, y] : List Str).eraseDups.length = 2 := by
    have h : (y == x) = false := by
      rw [beq_eq_false_iff_ne]
      exact Ne.symm (bne_iff_ne.mp hn)
    simp [List.eraseDups_cons, h]
  simp only [List.filterMap_cons, List.filterMap_nil, e1, e2, if_true]
  rw [if_neg (by rw [ne]; exact Bool.false_ne_true), h1, h2]
  rfl
theorem plain_star {e : Expr} (h : plainE e = true) : starred e = false := by
  cases e <;> first
    | rfl
    | cases h
theorem sole_tup {ts : List Expr} {n : Nat} {p : Pos} {v : Expr} {l : Nat} {env : Env} : swapsWithSole [.Tuple ts n p] v l env = pure false := by
  cases v <;> rfl
theorem sole_sub {x y : Expr} {p : Pos} {v : Expr} {l : Nat} {env : Env} : swapsWithSole [.Subscript x y p] v l env = pure false := by
  cases v <;> rfl
theorem s_asgT {is : List Nat} {e : CE} : SS T k (.asgT is e) := by
  refine ⟨fun X sc st g hk hp h => ?_⟩
  unfold mS at h
  split at h
  · rename_i ts n p v pos
    simp only [Bool.and_eq_true, Bool.not_eq_true'] at h
    obtain ⟨⟨⟨⟨h1, h2⟩, h3⟩, h4⟩, h5⟩ := h
    refine psC (ps_asg ((sE T k e).pe X sc v g h3) (pg_tg g h1 h2) sole_tup (swapped_none h4)) fun D σ H ⟨φ, out, ρ, S, o, R, es, q⟩ => ?_
    simp only [evst, evS] at es
    obtain ⟨x, ρ1, S1, ea, es⟩ := bnd_inv es
    obtain ⟨d, ed, es⟩ := obd_inv es
    split at es
    · rename_i ds
      obtain ⟨ρ2, e2, es⟩ := obd_inv es
      cases es
      refine one R ea fun w H1 φ1 p1 => ?_
      exact bind_ok p1.rel (ROp.toV p1.rel p1.val ed) (t := .many is) e2 fun σ' R2 own _ _ => q _ _ _ (p1.stp.trans (own_stp own)) R2
    · cases es
  · cases h
theorem s_asgP {i j : Nat} {a b : CE} : SS T k (.asgP i j a b) := by
  refine ⟨fun X sc st g hk hp h => ?_⟩
  unfold mS at h
  split at h
  · rename_i x px y py n p v w m q pos
    simp only [Bool.and_eq_true, decide_eq_true_eq, Bool.not_eq_true'] at h
    obtain ⟨⟨⟨⟨⟨⟨⟨⟨⟨h1, h2⟩, h3⟩, h4⟩, h5⟩, h6⟩, h7⟩, h8⟩, h9⟩, h10⟩ := h
    have sv := plain_star (all_inv h6).2.1
    have sw := plain_star (all_inv (all_inv h6).2.2).2.1
    refine psC (ps_par g.calm g.nd h1 h2 h3 (g.loc _ h4) (g.loc _ h5) (pa_of g (sL T k [a, b]) h6) (swapped_two g hk h4 h5 sv sw h7 h8 h9 h10) sole_tup) fun D σ H ⟨φ, out, ρ, S, o, R, es, q⟩ => ?_
    simp only [evst, evS] at es
    obtain ⟨ds, ρ1, S1, ea, es⟩ := bnd_inv es
    split at es
    · rename_i dx dy
      cases es
      refine ⟨φ, out, ρ, S, _, ρ1, S1, R, ea, fun vs H1 φ1 t1 R1 hv => ?_⟩
      cases hv with
      | cons hv1 hv2 =>
        cases hv2 with
        | cons hv2 hv3 =>
          cases hv3
          rename_i u1 u2
          obtain ⟨R2, own2⟩ := R1.slot (i := i) (s := .va dx) (o := some u1) (.inr ⟨dx, u1, rfl, rfl, hv1⟩)
          obtain ⟨R3, own3⟩ := R2.slot (i := j) (s := .va dy) (o := some u2) (.inr ⟨dy, u2, rfl, rfl, hv2.mv (own_mv own2)⟩)
          exact ⟨u1, u2, rfl, q _ _ _ ((t1.trans (own_stp own2)).trans (own_stp own3)) R3⟩
    · cases es
  · cases h
/-! ### name op= e -/
def anyP (X : Cx) (op : Operator) : TIp := fun x y H Q => ∃ t : TIp, PIp X op t ∧ t x y H Q
theorem ip_any : PIp X op (anyP X op) := fun pins s σ H x y v u Q I rx ry ⟨_, o, q⟩ => o pins s σ H x y v u Q I rx ry q
theorem aug_rule {X : Cx} {φ : List Addr} {ex : Addr → Prop} {H : Hp} {o : BO} {a b r : D} {v u : V} {Q : VK} (ha : RepV X.K X.mg φ ex H a v) (hb : RepV X.K X.mg φ ex H b u) (e : augD o a b = some r) (q : ∀ w, RepV X.K X.mg φ ex H r w → Q w H) : anyP X (opOf o) v u H Q := by
  unfold augD at e
  split at e
  · cases e
    exact ⟨_, iop_add, _, _, RepV.toInt ha, RepV.toInt hb, q _ (.int _)⟩
  · cases e
    exact ⟨_, iop_sub, _, _, RepV.toInt ha, RepV.toInt hb, q _ (.int _)⟩
  · split at e
    · rename_i hm
      cases e
      exact ⟨_, iop_mul, _, _, RepV.toInt ha, RepV.toInt hb, hm, q _ (.int _)⟩
    · cases e
  · split at e
    · rename_i hm
      cases e
      exact ⟨_, iop_fdivW, _, _, RepV.toInt ha, RepV.toInt hb, hm, q _ (.int _)⟩
    · cases e
  · split at e
    · rename_i hm
      cases e
      exact ⟨_, iop_mod, _, _, RepV.toInt ha, RepV.toInt hb, hm, q _ (.int _)⟩
    · cases e
  · split at e
    · rename_i hm
      cases e
      exact ⟨_, iop_add_str, _, _, RepV.toStr ha, RepV.toStr hb, hm, q _ (.str _)⟩
    · cases e
  · cases e
theorem s_aug {i : Nat} {o : BO} {e : CE} : SS T k (.aug i o e) := by
  refine ⟨fun X sc st g hk hp h => ?_⟩
  unfold mS at h
  split at h
  · rename_i x px op v p
    simp only [Bool.and_eq_true, decide_eq_true_eq] at h
    obtain ⟨⟨⟨h1, h2⟩, rfl⟩, h3⟩ := h
    obtain ⟨l1, l2⟩ := locB_of g h2
    refine psC (ps_aug g.nd h1 l1 ((sE T k e).pe X sc v g h3) ip_any l2) fun D σ H ⟨φ, out, ρ, S, o, R, es, q⟩ => ?_
    simp only [evst, evS] at es
    split at es
    · rename_i d hd
      obtain ⟨x, ρ1, S1, ea, es⟩ := bnd_inv es
      obtain ⟨y, ey, es⟩ := obd_inv es
      obtain ⟨r, er, es⟩ := obd_inv es
      cases es
      obtain ⟨v0, e0, h0⟩ := R.va i d hd
      refine ⟨v0, e0, one R ea fun w H1 φ1 p1 => aug_rule (h0.mv (p1.stp.mv R fun _ z => .inl z)) (ROp.toV p1.rel p1.val ey) er fun z hz => ?_⟩
      obtain ⟨R2, own⟩ := p1.rel.slot (i := i) (s := .va r) (o := some z) (.inr ⟨r, z, rfl, rfl, hz⟩)
      exact q _ _ _ (p1.stp.trans (own_stp own)) R2
    · cases es
  · cases h
/-! ### o[k] = e -/
def anySet (X : Cx) : TSet := fun o i v H Q => ∃ t : TSet, PSet X t ∧ t o i v H Q
theorem set_any : PSet X (anySet X) := fun pins s σ H o i v ov iv u Q I ro ri rv ⟨_, h, q⟩ => h pins s σ H o i v ov iv u Q I ro ri rv q
theorem assign_sub {o i : Expr} {p : Pos} {env : Env} (h : plainE i = true) : ∀ v, assign (.Subscript o i p) env v = (do
      let ov ← holding [v] (eval o env)
      let iv ← holding [v, ov] (eval i env)
      standAt p
      holding [v, ov, iv] (setItem ov iv v)
      release [v, ov, iv] []) := by
  intro v
  cases i <;> first
    | rfl
    | cases h
theorem setI_inv {ρ : Env'} {S : Sto} {o k' e : CE} {r : Out} (es : evst T k (.setI o k' e) ρ S = some r) : ∃ x ρ1 S1 v p ρ2 S2 y ρ3 S3 kd c d q', ev T k e ρ S = some (x, ρ1, S1) ∧ x.d = some v ∧ ev T k o ρ1 S1 = some (p, ρ2, S2) ∧ ev T k k' ρ2 S2 = some (y, ρ3, S3) ∧ y.d = some kd ∧
    cont ρ3 S3 p = some c ∧ setC ρ3 S3 p d = some q' ∧ r = .nx q'.1 q'.2 ∧
    ((∃ ds i j, c = .lst ds ∧ kd = .int i ∧ ixN ds.length i = some j ∧ d = .lst (ds.set j v)) ∨ (∃ kvs, c = .dct kvs ∧ isKey kd = true ∧ kvs.length < sizeLine ∧ d = .dct (dput kvs kd v))) := by
  simp only [evst, evS] at es
  obtain ⟨x, ρ1, S1, ea, es⟩ := bnd_inv es
  obtain ⟨v, ev', es⟩ := obd_inv es
  obtain ⟨p, ρ2, S2, eb, es⟩ := bnd_inv es
  obtain ⟨y, ρ3, S3, ec, es⟩ := bnd_inv es
  obtain ⟨kd, ek, es⟩ := obd_inv es
  obtain ⟨c, ecc, es⟩ := obd_inv es
  split at es
  · obtain ⟨j, ej, es⟩ := obd_inv es
    obtain ⟨q', eq, es⟩ := obd_inv es
    exact ⟨x, ρ1, S1, v, p, ρ2, S2, y, ρ3, S3, _, _, _, q', ea, ev', eb, ec, ek, ecc, eq, (Option.some.inj es).symm, .inl ⟨_, _, j, rfl, rfl, ej, rfl⟩⟩
  · split at es
    · rename_i hz
      obtain ⟨q', eq, es⟩ := obd_inv es
      exact ⟨x, ρ1, S1, v, p, ρ2, S2, y, ρ3, S3, _, _, _, q', ea, ev', eb, ec, ek, ecc, eq, (Option.some.inj es).symm, .inr ⟨_, rfl, hz.1, hz.2, rfl⟩⟩
    · cases es
  · cases es
theorem s_setI {o k' e : CE} : SS T k (.setI o k' e) := by
  refine ⟨fun X sc st g hk hp h => ?_⟩
  unfold mS at h
  split at h
  · rename_i x y p v pos
    simp only [Bool.and_eq_true, Bool.not_eq_true'] at h
    obtain ⟨⟨⟨⟨h1, h2⟩, h3⟩, h4⟩, h5⟩ := h
    refine psC (ps_asg ((sE T k e).pe X sc v g h3) (pg_sub ((sE T k o).pe X sc x g h1) ((sE T k k').pe X sc y g h2) set_any (assign_sub h4)) sole_sub) fun D σ H ⟨φ, out, ρ, S, r, R, es, q⟩ => ?_
    obtain ⟨x, ρ1, S1, v, p, ρ2, S2, y, ρ3, S3, kd, c, d, ⟨ρ4, S4⟩, ea, ex, eb, ec, ek, ecc, eq, rfl, hc⟩ := setI_inv es
    refine one R ea fun w H1 φ1 p1 => one p1.rel eb fun u H2 φ2 p2 => one p2.rel ec fun z H3 φ3 p3 => ?_
    have m2 := (p2.stp.trans p3.stp).mv (out' := out) p1.rel fun _ z => .inl z
    have m3 := p3.stp.mv (out' := out) p2.rel fun _ z => .inl z
    have hw := (ROp.toV p1.rel p1.val ex).mv m2
    have hu := (p2.val.op p2.rel).mv m3
    have hz := ROp.toV p3.rel p3.val ek
    have t := (p1.stp.trans p2.stp).trans p3.stp
    obtain ⟨a, rfl, ho, hx⟩ := cont_mut p3.rel hu ecc eq
    have hx' : exc φ3 out ρ3 σ a := hx.imp id .inr
    rcases hc with ⟨ds, i, j, rfl, rfl, ej, rfl⟩ | ⟨kvs, rfl, hkk, hl, rfl⟩
    · obtain ⟨vs, e1, r1⟩ := ho
      refine ⟨_, set_list, a, vs, i, j, rfl, hz.toInt, e1, by rw [← r1.length]; exact ej, ?_⟩
      obtain ⟨R4, t4, _⟩ := setC_ok (ho := .lst (vs.set j w)) p3.rel hu eq ⟨_, upd_same, (r1.set j hw).mv (upd_mv hx')⟩
      exact q _ _ _ (t.trans t4) R4
    · obtain ⟨ks, e1, r1⟩ := ho
      obtain ⟨k2, ek2⟩ := isKey_to hkk
      refine ⟨_, set_dict (by have := g.hu; omega), a, _, rfl, .inl ⟨ks, k2, e1, toKey_kV ek2 hz, by rw [← r1.length]; exact hl, rfl⟩, ?_⟩
      obtain ⟨R4, t4, _⟩ := setC_ok (ho := .dK (putK ks k2 w)) p3.rel hu eq ⟨_, upd_same, (r1.put ek2 hw).mv (upd_mv hx')⟩
      exact q _ _ _ (t.trans t4) R4
  · cases h
theorem s_xpr {e : CE} : SS T k (.xpr e) := by
  refine ⟨fun X sc st g hk hp h => ?_⟩
  unfold mS at h
  split at h
  · rename_i v pos
    simp only [Bool.and_eq_true, Bool.not_eq_true'] at h
    refine psC (ps_expr ((sE T k e).pe X sc v g h.1) (sw_none h.2)) fun D σ H ⟨φ, out, ρ, S, r, R, es, q⟩ => ?_
    simp only [evst, evS] at es
    obtain ⟨x, ρ1, S1, ea, es⟩ := bnd_inv es
    cases es
    exact one R ea fun w H1 φ1 p1 => q _ _ _ p1.stp p1.rel
  · cases h
theorem s_ret {e : CE} : SS T k (.ret e) := by
  refine ⟨fun X sc st g hk hp h => ?_⟩
  unfold mS at h
  split at h
  · rename_i v pos
    refine psC (ps_ret ((sE T k e).pe X sc v g h)) fun D σ H ⟨φ, out, ρ, S, r, R, es, q⟩ => ?_
    simp only [evst, evS] at es
    obtain ⟨x, ρ1, S1, ea, es⟩ := bnd_inv es
    cases x with
    | sl i => cases es
    | fz d =>
      cases es
      exact one R ea fun w H1 φ1 p1 => q _ _ _ (p1.leave fun i z => (nomatch z))
    | fr d =>
      cases es
      exact one R ea fun w H1 φ1 p1 => q _ _ _ (p1.leave fun i z => (nomatch z))
  · cases h
theorem s_retN : SS T k .retN := by
  refine ⟨fun X sc st g hk hp h => ?_⟩
  unfold mS at h
  split at h
  · refine psC ps_retN fun D σ H ⟨φ, out, ρ, S, r, R, es, q⟩ => ?_
    have es' : some (Out.rt (.fz .non) S) = some r := es
    cases es'
    obtain ⟨R1, own⟩ := R.leave
    exact q _ _ _ ⟨own_stp own, R1, .non⟩
  · cases h
theorem s_ife {c : CE} {a b : List CS} (sa : SSs T k a) (sb : SSs T k b) : SS T k (.ife c a b) := by
  refine ⟨fun X sc st g hk hp h => ?_⟩
  unfold mS at h
  split at h
  · rename_i v x y p
    simp only [Bool.and_eq_true] at h
    obtain ⟨⟨h1, h2⟩, h3⟩ := h
    refine psC (ps_if ((sE T k c).pt X sc v g h1) (sa.ps X sc x g hk hp h2) (sb.ps X sc y g hk hp h3)) fun D σ H ⟨φ, out, ρ, S, r, R, es, q⟩ => ?_
    simp only [evst, evS] at es
    obtain ⟨x, ρ1, S1, ea, es⟩ := bnd_inv es
    split at es
    · exact ⟨φ, out, ρ, S, true, ρ1, S1, R, ea, fun H' φ' t R' => ⟨φ', out, ρ1, S1, r, R', es, q.step t⟩⟩
    · exact ⟨φ, out, ρ, S, false, ρ1, S1, R, ea, fun H' φ' t R' => ⟨φ', out, ρ1, S1, r, R', es, q.step t⟩⟩
    · cases es
  · cases h
theorem evc_one {c : CE} {ρ : Env'} {S : Sto} {b : Bool} {ρ' : Env'} {S' : Sto} (e : evc T k [c] ρ S = some (b, ρ', S')) : ev T k c ρ S = some (.fz (.bl b), ρ', S') := by
  simp only [evc, evC] at e
  obtain ⟨x, ρ1, S1, ea, e⟩ := bnd_inv e
  split at e
  · cases e; exact ea
  · cases e; exact ea
  · cases e
theorem s_whl {c : CE} {b : List CS} (sb : SSs T k b) : SS T k (.whl c b) := by
  refine ⟨fun X sc st g hk hp h => ?_⟩
  unfold mS at h
  split at h
  · rename_i v x p
    simp only [Bool.and_eq_true] at h
    refine psC (ps_while hp ((sE T k c).pt X sc v g h.1) (sb.ps X sc x g hk hp h.2)) fun D σ H ⟨φ, out, ρ, S, r, R, es, q⟩ => ?_
    simp only [evst, evS] at es
    refine ⟨fun m σ' H' => ∃ φ' ρ' S', Rel X.K X.mg φ' out ρ' S' σ' H' ∧ Stp φ ρ σ H φ' ρ' σ' H' ∧ whlL (fun ρ S => evc T k [c] ρ S) (fun ρ S => evsts T k b ρ S) m ρ' S' = some r, ⟨fuel, φ, ρ, S, R, .refl, es⟩, ?_⟩
    rintro m σ1 H1 ⟨φ1, ρ1, S1, R1, t1, e⟩
    cases m with
    | zero => cases e
    | succ m =>
      obtain ⟨bb, ρ2, S2, e2, e⟩ := bnd_inv (show bnd (evc T k [c] ρ1 S1) _ = some r from e)
      refine ⟨φ1, out, ρ1, S1, bb, ρ2, S2, R1, evc_one e2, fun H2 φ2 t2 R2 => ?_⟩
      cases bb with
      | false =>
        rw [if_neg Bool.false_ne_true]
        cases e
        exact q _ _ _ (t1.trans t2) R2
      | true =>
        rw [if_pos rfl]
        obtain ⟨rr, e3, e⟩ := obd_inv e
        refine ⟨fun σ' H' => ∃ φ' ρ' S', Rel X.K X.mg φ' out ρ' S' σ' H' ∧ Stp φ ρ σ H φ' ρ' σ' H' ∧ whlL (fun ρ S => evc T k [c] ρ S) (fun ρ S => evsts T k b ρ S) m ρ' S' = some r, fun σ' H' w => ⟨m, Nat.lt_succ_self m, w⟩, φ2, out, ρ2, S2, rr, R2, e3, ?_⟩
        cases rr with
        | nx ρ3 S3 => exact fun σ3 H3 φ3 t3 R3 => ⟨φ3, ρ3, S3, R3, (t1.trans t2).trans t3, e⟩
        | ct ρ3 S3 => exact fun σ3 H3 φ3 t3 R3 => ⟨φ3, ρ3, S3, R3, (t1.trans t2).trans t3, e⟩
        | bk ρ3 S3 =>
          cases e
          exact fun σ3 H3 φ3 t3 R3 => q _ _ _ ((t1.trans t2).trans t3) R3
        | rt x S3 =>
          cases e
          exact fun v H3 φ3 p3 => q _ _ _ (p3.trans (t1.trans t2))
  · cases h
theorem forL_cons {tg : Tg} {one : Env' → Sto → Option Out} {d : D} {ds : List D} {ρ : Env'} {S : Sto} {o : Out} (e : forL tg one (d :: ds) ρ S = some o) : ∃ ρ1 r, bindT tg d ρ = some ρ1 ∧ one ρ1 S = some r ∧ (match r with
      | .nx ρ2 S2 => forL tg one ds ρ2 S2
      | .ct ρ2 S2 => forL tg one ds ρ2 S2
      | .bk ρ2 S2 => some (.nx ρ2 S2)
      | .rt o S2 => some (.rt o S2)) = some o := by
  obtain ⟨ρ1, e1, e2⟩ := obd_inv (show obd (bindT tg d ρ) _ = some o from e)
  obtain ⟨r, e3, e4⟩ := obd_inv e2
  exact ⟨ρ1, r, e1, e3, e4⟩
theorem s_for {tg : Tg} {it : It'} {b : List CS} (sb : SSs T k b) : SS T k (.for_ tg it b) := by
  refine ⟨fun X sc st g hk hp h => ?_⟩
  unfold mS at h
  split at h
  · rename_i t i x p
    simp only [Bool.and_eq_true] at h
    obtain ⟨⟨⟨h1, h2⟩, h3⟩, h4⟩ := h
    obtain ⟨p1, p2⟩ := (sI T k it).pi X sc i t g h1
    refine psC (ps_for hp g.calm p1 (pg_tg g h2 h3) (sb.ps X sc x g hk hp h4) p2) fun D σ H ⟨φ, out, ρ, S, r, R, es, q⟩ => ?_
    simp only [evst, evS] at es
    obtain ⟨ds, ρ1, S1, ei, es⟩ := bnd_inv es
    refine ⟨φ, out, ρ, S, ds, ρ1, S1, R, ei, fun J H1 φ1 t1 R1 ok => ?_⟩
    let W : Nat → Nat → L2.St → Hp → Prop := fun i m σ' H' => m = ds.length - i ∧ i ≤ ds.length ∧ ∃ φ' ρ' S', Rel X.K X.mg φ' out ρ' S' σ' H' ∧ Stp φ1 ρ1 σ H1 φ' ρ' σ' H' ∧ forL tg (fun ρ S => evsts T k b ρ S) (ds.drop i) ρ' S' = some r
    refine ⟨W, ⟨ds.length, by omega, Nat.zero_le _, φ1, ρ1, S1, R1, .refl, es⟩, ?_⟩
    rintro i m σ2 H2 ⟨rfl, hi, φ2, ρ2, S2, R2, t2, e⟩
    have oks := ok φ2 _ H2 (t2.mv R1 fun _ z => .inl z) (fun b z => R2.ex_some z) i
    by_cases hlt : i < ds.length
    · right
      obtain ⟨go, yld⟩ := oks.1 _ (List.getElem?_eq_getElem hlt)
      refine ⟨go, fun σ' H' => W (i + 1) (ds.length - (i + 1)) σ' H', fun σ' H' w => ⟨_, by omega, w⟩, fun x H' y => ?_⟩
      rw [List.drop_eq_getElem_cons hlt] at e
      obtain ⟨ρ3, rr, e1, e3, e4⟩ := forL_cons e
      have turn : ∀ H', Rel X.K X.mg φ2 out ρ2 S2 σ2 H' → Stp φ1 ρ1 σ H1 φ2 ρ2 σ2 H' → RepV X.K X.mg φ2 (exc φ2 out ρ2 σ2) H' ds[i] x →
          gT X.K tg x σ2 H' fun σ4 H4 => TSsv T k X b { D with nx := fun σ' H' => W (i + 1) (ds.length - (i + 1)) σ' H', ct := fun σ' H' => W (i + 1) (ds.length - (i + 1)) σ' H', bk := D.nx } σ4 H4 := fun H' R' t' rx => by
        refine bind_ok R' rx e1 fun σ4 R4 own4 _ _ => ⟨φ2, out, ρ3, S2, rr, R4, e3, ?_⟩
        have t4 := t'.trans (own_stp own4)
        cases rr with
        | nx ρ5 S5 => exact fun σ5 H5 φ5 t5 R5 => ⟨rfl, hlt, φ5, ρ5, S5, R5, t4.trans t5, e4⟩
        | ct ρ5 S5 => exact fun σ5 H5 φ5 t5 R5 => ⟨rfl, hlt, φ5, ρ5, S5, R5, t4.trans t5, e4⟩
        | bk ρ5 S5 =>
          cases e4
          exact fun σ5 H5 φ5 t5 R5 => q _ _ _ ((t1.trans t4).trans t5) R5
        | rt x S5 =>
          cases e4
          exact fun v H5 φ5 p5 => q _ _ _ (p5.trans (t1.trans t4))
      rcases yld x H' y with ⟨rfl, rx⟩ | ⟨p, o, hp', rfl, rx⟩
      · exact turn _ R2 t2 rx
      · exact turn _ (R2.new hp') (t2.trans (new_stp hp')) rx
    · left
      have hi' : i = ds.length := by omega
      refine ⟨oks.2 hi', ?_⟩
      rw [hi', List.drop_length] at e
      cases e
      exact q _ _ _ (t1.trans t2) R2
  · cases h
theorem s_frz {i : Nat} {s : CS} (ss : SS T k s) : SS T k (.frz i s) := by
  refine ⟨fun X sc st g hk hp h => ?_⟩
  have h' : mS sc X.N s st = true := h
  refine psC (ss.ps X sc st g hk hp h') fun D σ H ⟨φ, out, ρ, S, r, R, es, q⟩ => ?_
  simp only [evst, evS] at es
  split at es
  · rename_i d hd
    obtain ⟨R1, own⟩ := R.freeze hd
    exact ⟨φ, out, _, S, r, R1, es, q.step (own_stp own)⟩
  · exact ⟨φ, out, ρ, S, r, R, es, q⟩
  · cases es
theorem ss_false {c : CS} (h : ∀ sc N e, mS sc N c e = false) : SS T k c := ⟨fun X sc st g hk hp m => absurd ((h sc X.N st).symm.trans m) Bool.false_ne_true⟩
theorem s_brk : SS T k .brk := by
  refine ⟨fun X sc st g hk hp h => ?_⟩
  unfold mS at h
  split at h
  · refine psC ps_break fun D σ H ⟨φ, out, ρ, S, r, R, es, q⟩ => ?_
    have es' : some (Out.bk ρ S) = some r := es
    cases es'
    exact q _ _ _ .refl R
  · cases h
theorem s_cnt : SS T k .cnt := by
  refine ⟨fun X sc st g hk hp h => ?_⟩
  unfold mS at h
  split at h
  · refine psC ps_continue fun D σ H ⟨φ, out, ρ, S, r, R, es, q⟩ => ?_
    have es' : some (Out.ct ρ S) = some r := es
    cases es'
    exact q _ _ _ .refl R
  · cases h
theorem s_pas : SS T k .pas := by
  refine ⟨fun X sc st g hk hp h => ?_⟩
  unfold mS at h
  split at h
  · refine psC ps_pass fun D σ H ⟨φ, out, ρ, S, r, R, es, q⟩ => ?_
    have es' : some (Out.nx ρ S) = some r := es
    cases es'
    exact q _ _ _ .refl R
  · cases h
theorem ss_nil : SSs T k [] := by
  refine ⟨fun X sc st g hk hp h => ?_⟩
  cases st with
  | nil =>
    refine pssC pss_nil fun D σ H ⟨φ, out, ρ, S, r, R, es, q⟩ => ?_
    have es' : some (Out.nx ρ S) = some r := es
    cases es'
    exact q _ _ _ .refl R
  | cons _ _ => cases h
theorem ss_cons {c : CS} {cs : List CS} (s1 : SS T k c) (s2 : SSs T k cs) : SSs T k (c :: cs) := by
  refine ⟨fun X sc st g hk hp h => ?_⟩
  cases st with
  | nil => cases h
  | cons e l =>
    have h' : (mS sc X.N c e && mSs sc X.N cs l) = true := h
    rw [Bool.and_eq_true] at h'
    refine pssC (pss_cons (s1.ps X sc e g hk hp h'.1) (s2.ps X sc l g hk hp h'.2)) fun D σ H ⟨φ, out, ρ, S, r, R, es, q⟩ => ?_
    simp only [evsts, evSs] at es
    obtain ⟨o, e1, es⟩ := obd_inv es
    refine ⟨φ, out, ρ, S, o, R, e1, ?_⟩
    cases o with
    | nx ρ1 S1 => exact fun σ1 H1 φ1 t1 R1 => ⟨φ1, out, ρ1, S1, r, R1, es, q.step t1⟩
    | bk ρ1 S1 => cases es; exact q
    | ct ρ1 S1 => cases es; exact q
    | rt x S1 => cases es; exact q
end
section
variable (T : Tab) (k : Nat)
mutual
theorem sS : ∀ c : CS, SS T k c
  | .asg _ _ => s_asg
  | .asgO _ _ => s_asgO
  | .asgT _ _ => s_asgT
  | .asgP _ _ _ _ => s_asgP
  | .aug _ _ _ => s_aug
  | .setI _ _ _ => s_setI
  | .setA _ _ _ => ss_false fun _ _ _ => rfl
  | .xpr _ => s_xpr
  | .ret _ => s_ret
  | .retN => s_retN
  | .ife _ a b => s_ife (sSs a) (sSs b)
  | .whl _ b => s_whl (sSs b)
  | .for_ _ _ b => s_for (sSs b)
  | .brk => s_brk
  | .cnt => s_cnt
  | .pas => s_pas
  | .frz _ s => s_frz (sS s)
theorem sSs : ∀ c : List CS, SSs T k c
  | [] => ss_nil
  | c :: cs => ss_cons (sS c) (sSs cs)
end
end
end Sk

/-! Sk16: defs. -/
namespace Sk
open PySem PySem.Spec PyProof.Rows L2

/-- a def of the text: its names' slots, its parameters, its compact text, its text -/
structure Dn where
  name : Str
  N : List Str
  ps : List Str
  code : List CS
  args : Arguments
  body : List Stmt
  scope : Scope
def Dn.fn (d : Dn) : Fn := ⟨d.N.length, d.ps.length, d.code⟩
/-- how the parameters are bound -/
def Dn.Bd (d : Dn) : Prop := ∀ (kV doc pm : Value) (an : Option Addr) (cdv ct : Value) (us : List Value), us.length = d.ps.length → bindArgs (PySem.W.fnOf d.name d.name d.args d.body d.scope .none kV doc pm an cdv ct) ⟨us, []⟩ = pure (d.ps.zip us)
def Dn.ok (d : Dn) : Bool := C8.scC d.N d.ps d.scope && mSs d.scope d.N d.code d.body
def tabF (ds : List Dn) (f : Str) : Option Fn := (ds.find? fun d => decide (d.name = f)).map Dn.fn
/-- what the head tells of the module -/
structure Hd (T : Tab) (ds : List Dn) (K : PySem.W.Frag) (mg : Str → Option Value) : Prop where
  F : T.F = tabF ds
  ok : ∀ d ∈ ds, d.ok = true ∧ d.Bd
  fd : ∀ d ∈ ds, ∃ A fd, mg d.name = some (.ref A) ∧ FunD K d.name d.name d.args d.body d.scope [] [] A fd
  blt : ∀ x ∈ bNames, mg x = none
  G : ∀ x d, T.G x = some d → ∃ u v, mg x = some u ∧ RelV v u ∧ ∀ φ ex H, RepV K mg φ ex H d v

section
variable {T : Tab} {ds : List Dn} {K : PySem.W.Frag} {mg : Str → Option Value}
theorem tabF_inv {f : Str} {fn : Fn} (h : tabF ds f = some fn) : ∃ d ∈ ds, d.name = f ∧ d.fn = fn := by
  unfold tabF at h
  simp only [Option.map_eq_some_iff] at h
  obtain ⟨d, h1, h2⟩ := h
  exact ⟨d, List.mem_of_find?_eq_some h1, (by have z := List.find?_some h1; exact of_decide_eq_true z), h2⟩
/-- a def's body's context -/
theorem good_of (h : Hd T ds K mg) {P : Program} {w : World} {base : Heap} {k : Nat} (hF : ∀ f fn, T.F f = some fn → ∃ a fd ps, mg f = some (.ref a) ∧ PySem.W.keepIn K (.ref a) = true ∧ Binds K fd ps [] ∧ FnOk P w K mg base CX0 k a fd ps (spF T k f K mg))
    {N ps : List Str} {qual : Str} {sc : Scope} {f : Addr} {cd : Value} {A : Around} {outer : List Env} {s : Shared} {H : Hp} {E : XK} (S : FnScope N ps sc) (hr : Room k (A.deeper (envOfC qual sc s.heap.objs.size f cd))) :
    Good T k (cxOf CX0 P w K mg base N qual sc f cd A outer s H E).nox sc where
  calm := rfl
  nd := S.nd
  loc := fun x e => e
  cel := fun x e => e
  fre := fun x e => .inr e
  glo := fun x e => e
  fnc := fun x e => rfl
  blt := h.blt
  room := hr
  G := h.G
  F := hF
theorem env0_va {n i : Nat} {ds : List D} {d : D} (e : (env0 n ds)[i]? = some (.va d)) : ds[i]? = some d := by
  unfold env0 at e
  by_cases h : i < ds.length
  · rw [List.getElem?_append_left (by simpa using h), List.getElem?_map] at e
    simp only [Option.map_eq_some_iff] at e
    obtain ⟨x, e1, e2⟩ := e
    cases e2
    exact e1
  · rw [List.getElem?_append_right (by simpa using h)] at e
    rw [List.getElem?_replicate] at e
    split at e <;> cases e
theorem env0_ow {n i : Nat} {ds : List D} {d : D} (e : (env0 n ds)[i]? = some (.ow d)) : False := by
  unfold env0 at e
  by_cases h : i < ds.length
  · rw [List.getElem?_append_left (by simpa using h), List.getElem?_map] at e
    simp only [Option.map_eq_some_iff] at e
    obtain ⟨x, e1, e2⟩ := e
    cases e2
  · rw [List.getElem?_append_right (by simpa using h)] at e
    rw [List.getElem?_replicate] at e
    split at e <;> cases e
theorem start_get {N : List Str} {vs : List V} {i : Nat} {v : V} (e : vs[i]? = some v) : (start N vs)[i]? = some (some v) := by
  unfold L2.start
  rw [List.getElem?_append_left (by simpa using (List.getElem?_eq_some_iff.mp e).1), List.getElem?_map, e]
  rfl
/-- at the entry -/
theorem Rel.enter {φ : List Addr} {out : Addr → Prop} {S : Sto} {H : Hp} {N : List Str} {as : List D} {vs : List V} (R : Rel K mg φ out [] S [] H) (r : RepVs K mg φ (exc φ out [] []) H as vs) :
    Rel K mg φ out (env0 N.length as) S (start N vs) H ∧ ∀ b, ¬ ownA (env0 N.length as) (start N vs) b := by
  have no : ∀ b, ¬ ownA (env0 N.length as) (start N vs) b := fun b ⟨i, d, e, _⟩ => env0_ow e
  have m : Mv φ φ (exc φ out [] []) (exc φ out (env0 N.length as) (start N vs)) H H := .less fun b z => z.imp id fun z => z.imp id fun z => (no b z).elim
  refine ⟨⟨?_, fun i d e => ?_, fun i d e => (env0_ow e).elim, fun i j a d e z => (env0_ow z).elim, fun n o e => ?_, R.sl, R.nd, R.no, R.ot⟩, no⟩
  · unfold env0 L2.start
    simp only [List.length_append, List.length_map, List.length_replicate]
    rw [r.length]
  · obtain ⟨v, e1, h1⟩ := r.get (env0_va e)
    exact ⟨v, start_get e1, h1.mv m⟩
  · obtain ⟨a, e1, h1⟩ := R.st n o e
    exact ⟨a, e1, h1.mv m fun _ q => q⟩
theorem runF_inv {G : Str → Option D} {C : Calls'} {M : Str → Str → Option Str} {f : Fn} {as : List D} {S : Sto} {r : Op × Sto} (e : runF G C M f as S = some r) : as.length = f.ps ∧ ∃ o, evSs G C M f.body (env0 f.n as) S = some o ∧ ((o = .rt r.1 r.2) ∨ (∃ ρ, o = .nx ρ r.2 ∧ r.1 = .fz .non)) := by
  unfold runF at e
  split at e
  · rename_i h
    obtain ⟨o, e1, e⟩ := obd_inv e
    refine ⟨h, o, e1, ?_⟩
    cases o with
    | rt x S => cases e; exact .inl rfl
    | nx ρ S => cases e; exact .inr ⟨ρ, rfl, rfl⟩
    | bk _ _ => cases e
    | ct _ _ => cases e
  · cases e
/-- a def keeps its promise, if those that it calls do -/
theorem fn_ok1 (h : Hd T ds K mg) {P : Program} {w : World} {base : Heap} {k : Nat} (ih : ∀ f fn, T.F f = some fn → ∃ a fd ps, mg f = some (.ref a) ∧ PySem.W.keepIn K (.ref a) = true ∧ Binds K fd ps [] ∧ FnOk P w K mg base CX0 k a fd ps (spF T k f K mg))
    {d : Dn} (hd : d ∈ ds) (e0 : T.F d.name = some d.fn) {A : Addr} {fd : FuncData} (F : FunD K d.name d.name d.args d.body d.scope [] [] A fd) : FnOk P w K mg base CX0 (k + 1) A fd d.ps (spF T (k + 1) d.name K mg) := by
  have hok := (h.ok d hd).1
  unfold Dn.ok at hok
  rw [Bool.and_eq_true] at hok
  have S := C8.fnScope_by hok.1
  have hcall : ∀ as S, callK T.G T.F T.M (k + 1) d.name as S = runF T.G (callK T.G T.F T.M k) T.M d.fn as S := fun as S => by
    show obd (T.F d.name) _ = _
    rw [e0]
    rfl
  refine F.ok S (fun vs H Q E q => ?_) fun cdv A' outer s H vs Q E hr q => ?_
  · obtain ⟨φ, out, S0, as, r, S', _, hv, z, _⟩ := q
    rw [hcall] at z
    rw [← hv.length]
    exact (runF_inv z).1
  · refine ⟨TSsv T k (cxOf CX0 P w K mg base d.N d.name d.scope A cdv A' outer s H E).nox d.code, PSs.nox ((sSs T k d.code).ps _ _ _ (good_of h ih S hr) S.kind PassesOwn.never hok.2), ?_⟩
    obtain ⟨φ, out, S0, as, r, S', R, hv, z, q⟩ := q
    rw [hcall] at z
    obtain ⟨hl, o, eo, hr'⟩ := runF_inv z
    obtain ⟨R1, no⟩ := R.enter (N := d.N) hv
    refine ⟨φ, out, _, S0, o, R1, eo, ?_⟩
    have t0 : Stp φ [] [] H φ (env0 d.N.length as) (start d.N vs) H := ⟨fun _ _ e => e, fun _ h => .inl h, fun _ _ e _ _ => e, fun b h => (no b h).elim, fun _ h => h⟩
    rcases hr' with rfl | ⟨ρ, rfl, hr1⟩
    · intro v H' φ' p
      have p' := p.trans t0
      exact q v H' φ' ⟨p'.stp, p'.rel, p'.val⟩
    · intro σ' H' φ' t R'
      obtain ⟨R2, own⟩ := R'.leave
      have st : Stp φ [] [] H φ' [] [] H' := (t0.trans t).trans (own_stp own)
      refine q .non H' φ' ⟨st, R2, ?_⟩
      have hr1' : r = .fz .non := hr1
      rw [hr1']
      exact .non
/-- all defs keep their promises -/
theorem fns_ok (h : Hd T ds K mg) {P : Program} {w : World} {base : Heap} : ∀ (k : Nat) f fn, T.F f = some fn → ∃ a fd ps, mg f = some (.ref a) ∧ PySem.W.keepIn K (.ref a) = true ∧ Binds K fd ps [] ∧ FnOk P w K mg base CX0 k a fd ps (spF T k f K mg) := by
  intro k
  induction k with
  | zero =>
    intro f fn e
    rw [h.F] at e
    obtain ⟨d, hd, rfl, _⟩ := tabF_inv e
    obtain ⟨A, fd, m, F⟩ := h.fd d hd
    refine ⟨A, fd, d.ps, m, F.kp, F.bindsN (h.ok d hd).2, ⟨fun vs H Q E q => ?_, fun A outer s H args us vs Q E _ _ _ _ q => ?_⟩⟩
    · obtain ⟨_, _, _, _, _, _, _, _, z, _⟩ := q
      cases z
    · obtain ⟨_, _, _, _, _, _, _, _, z, _⟩ := q
      cases z
  | succ k ih =>
    intro f fn e
    have e0 := e
    rw [h.F] at e
    obtain ⟨d, hd, rfl, hfn⟩ := tabF_inv e
    obtain ⟨A, fd, m, F⟩ := h.fd d hd
    exact ⟨A, fd, d.ps, m, F.kp, F.bindsN (h.ok d hd).2, fn_ok1 h ih hd (by rw [e0, hfn]) F⟩
end
end Sk

/-! Sk17: a law's head. -/
namespace Sk
open PySem PySem.Spec PyProof.Rows L2

/-! ### the module's constants -/
mutual
def repB (K : PySem.W.Frag) : D → Value → Bool
  | .non, u => (match u with
    | .none => true
    | _ => false)
  | .bl b, u => (match u with
    | .bool c => b == c
    | _ => false)
  | .int i, u => (match u with
    | .int j _ => decide (i = j)
    | _ => false)
  | .str x, u => (match u with
    | .str y _ => decide (x = y)
    | _ => false)
  | .tup ds, u => (match u with
    | .ref a => (match K.lookup a with
      | some ⟨.type c, _, .seq its _, _⟩ => decide (c = "tuple") && (decide (its.size ≤ sizeLine) && repBs K ds its.toList)
      | _ => false)
    | _ => false)
  | .lst ds, u => (match u with
    | .ref a => (match K.lookup a with
      | some ⟨.type c, none, .seq its _, _⟩ => decide (c = "list") && (decide (its.size ≤ sizeLine) && repBs K ds its.toList)
      | _ => false)
    | _ => false)
  | _, _ => false
def repBs (K : PySem.W.Frag) : List D → List Value → Bool
  | [], us => us.isEmpty
  | d :: ds, us => (match us with
    | u :: us => repB K d u && repBs K ds us
    | [] => false)
end
theorem ktp_of {K : PySem.W.Frag} {a : Addr} {c : String} {od : Option Addr} {its : Array Value} {n : Nat} {sl : Array (Option Value)} {vs : List V} (q : K.lookup a = some ⟨.type c, od, .seq its n, sl⟩) (hc : decide (c = "tuple") = true) (hz : decide (its.size ≤ sizeLine) = true) (r : Vals vs its.toList) : KTp K a vs := by
  have e : c = "tuple" := of_decide_eq_true hc
  exact ⟨_, its, n, q, congrArg Value.type e, rfl, of_decide_eq_true hz, r⟩
theorem kls_of {K : PySem.W.Frag} {a : Addr} {c : String} {its : Array Value} {n : Nat} {sl : Array (Option Value)} {vs : List V} (q : K.lookup a = some ⟨.type c, none, .seq its n, sl⟩) (hc : decide (c = "list") = true) (hz : decide (its.size ≤ sizeLine) = true) (r : Vals vs its.toList) : KLs K a vs := by
  have e : c = "list" := of_decide_eq_true hc
  exact ⟨_, its, n, q, congrArg Value.type e, rfl, rfl, of_decide_eq_true hz, r⟩
theorem tup_look {K : PySem.W.Frag} {ds : List D} {u : Value} (h : repB K (.tup ds) u = true) : ∃ a c od its n sl, u = .ref a ∧ K.lookup a = some ⟨.type c, od, .seq its n, sl⟩ ∧ decide (c = "tuple") = true ∧ decide (its.size ≤ sizeLine) = true ∧ repBs K ds its.toList = true := by
  unfold repB at h
  split at h
  · split at h
    · rename_i e
      rw [Bool.and_eq_true, Bool.and_eq_true] at h
      exact ⟨_, _, _, _, _, _, rfl, e, h.1, h.2.1, h.2.2⟩
    · cases h
  · cases h
theorem lst_look {K : PySem.W.Frag} {ds : List D} {u : Value} (h : repB K (.lst ds) u = true) : ∃ a c its n sl, u = .ref a ∧ K.lookup a = some ⟨.type c, none, .seq its n, sl⟩ ∧ decide (c = "list") = true ∧ decide (its.size ≤ sizeLine) = true ∧ repBs K ds its.toList = true := by
  unfold repB at h
  split at h
  · split at h
    · rename_i e
      rw [Bool.and_eq_true, Bool.and_eq_true] at h
      exact ⟨_, _, _, _, _, rfl, e, h.1, h.2.1, h.2.2⟩
    · cases h
  · cases h
section
variable {K : PySem.W.Frag} (mg : Str → Option Value)
mutual
theorem repB_ok : ∀ (d : D) (u : Value), repB K d u = true → ∃ v, RelV v u ∧ ∀ φ ex H, RepV K mg φ ex H d v
  | .non, u, h => by
    cases u <;> first
      | exact ⟨.non, rfl, fun _ _ _ => .non⟩
      | cases h
  | .bl b, u, h => by
    cases u with
    | bool c =>
      have e : (b == c) = true := h
      rw [beq_iff_eq] at e
      subst e
      exact ⟨.bl b, rfl, fun _ _ _ => .bl b⟩
    | _ => cases h
  | .int i, u, h => by
    cases u with
    | int j t =>
      have e : i = j := of_decide_eq_true h
      subst e
      exact ⟨.int i, ⟨t, rfl⟩, fun _ _ _ => .int i⟩
    | _ => cases h
  | .str x, u, h => by
    cases u with
    | str y t =>
      have e : x = y := of_decide_eq_true h
      subst e
      exact ⟨.str x, ⟨t, rfl⟩, fun _ _ _ => .str x⟩
    | _ => cases h
  | .tup ds, u, h => by
    obtain ⟨a, c, od, its, n, sl, rfl, e, h1, h2, h3⟩ := tup_look h
    obtain ⟨vs, r, hr⟩ := repBs_ok ds its.toList h3
    exact ⟨.ref a, rfl, fun φ ex H => .tup (.inr (ktp_of e h1 h2 r)) (hr φ ex H)⟩
  | .lst ds, u, h => by
    obtain ⟨a, c, its, n, sl, rfl, e, h1, h2, h3⟩ := lst_look h
    obtain ⟨vs, r, hr⟩ := repBs_ok ds its.toList h3
    exact ⟨.ref a, rfl, fun φ ex H => .lst (.inr (kls_of e h1 h2 r)) (hr φ ex H)⟩
  | .dct _, _, h => by cases h
  | .ref _, _, h => by cases h
  | .fn _, _, h => by cases h
theorem repBs_ok : ∀ (ds : List D) (us : List Value), repBs K ds us = true → ∃ vs, Vals vs us ∧ ∀ φ ex H, RepVs K mg φ ex H ds vs
  | [], us, h => by
    have e : us = [] := List.isEmpty_iff.mp h
    subst e
    exact ⟨[], .nil, fun _ _ _ => .nil⟩
  | d :: ds, us, h => by
    cases us with
    | nil => cases h
    | cons u us =>
      have h' : (repB K d u && repBs K ds us) = true := h
      rw [Bool.and_eq_true] at h'
      obtain ⟨v, r, hr⟩ := repB_ok d u h'.1
      obtain ⟨vs, s, hs⟩ := repBs_ok ds us h'.2
      exact ⟨v :: vs, .cons r s, fun φ ex H => .cons (hr φ ex H) (hs φ ex H)⟩
end
end
def conOk (K : PySem.W.Frag) (c : Str × D) : Bool := match PySem.W.nsIn K mainGlobals c.1 with
  | some (some u) => repB K c.2 u
  | _ => false
def tabG (cs : List (Str × D)) (x : Str) : Option D := (cs.find? fun c => decide (c.1 = x)).map (·.2)

/-! ### the Hook -/
abbrev AlC : Type := He.AlD × Bool
def obsC (fa : List He.Fa) (fn : List He.DefD) (cs : List (Str × D)) (K : PySem.W.Frag) : AlC := (He.obsD fa fn K, cs.all (conOk K))
def obsCG (n : Nat) (fa : List He.Fa) (fn : List He.DefD) (cs : List (Str × D)) (g : Addr → Option Obj) : AlC := obsC fa fn cs (He.frG g (He.asD g n))
def SaysC (fa : List He.Fa) (fn : List He.DefD) (cs : List (Str × D)) (K : PySem.W.Frag) : Prop := obsC fa fn cs K = (He.valD fn, true)
def hookC (n : Nat) (fa : List He.Fa) (fn : List He.DefD) (cs : List (Str × D)) : PySem.W.Hook where
  α := AlC
  obs := fun s => obsCG n fa fn cs s.heap.get?
  val := fun _ => (He.valD fn, true)
  says := fun _ h => ∃ K : PySem.W.Frag, K.In h ∧ SaysC fa fn cs K
  of := fun _ _ e => ⟨_, He.frG_in, e⟩
  keeps := fun _ _ _ ⟨K, hK, c⟩ k => ⟨K, PySem.W.Frag.In.keeps hK k, c⟩
theorem obsCG_eq {n : Nat} {fa : List He.Fa} {fn : List He.DefD} {cs : List (Str × D)} {g : Addr → Option Obj} {s : Shared} (h : ∀ a, g a = s.heap.get? a) : obsCG n fa fn cs g = (hookC n fa fn cs).obs s := by
  have e : g = s.heap.get? := funext h
  rw [e] <;> rfl

/-! ### from the head to the defs -/
def Dn.def_ (d : Dn) : He.DefD := ⟨(d.name, none), d.name, d.name, d.args, d.body, d.scope, [], []⟩
def faOf (ds : List Dn) : List He.Fa := ds.map (fun d => .glo d.name) ++ bNames.map .free
def mkT (ds : List Dn) (cs : List (Str × D)) : Tab := ⟨tabG cs, tabF ds, fun _ _ => none⟩
theorem hd_of {ds : List Dn} {cs : List (Str × D)} {K : PySem.W.Frag} {h : Heap} {mg : Str → Option Value} (X : K.In h) (G : h.Ns mainGlobals mg) (c : SaysC (faOf ds) (ds.map Dn.def_) cs K) (ok : ∀ d ∈ ds, d.ok = true ∧ d.Bd) : Hd (mkT ds cs) ds K mg := by
  have c1 : He.SaysD (faOf ds) (ds.map Dn.def_) K := congrArg (fun z : AlC => z.1) c
  have c2 : cs.all (conOk K) = true := congrArg (fun z : AlC => z.2) c
  refine ⟨rfl, ok, fun d hd => ?_, fun x hx => ?_, fun x d e => ?_⟩
  · have f : (He.Fa.glo d.name).ok K = true := c1.facts (List.mem_append_left _ (List.mem_map.mpr ⟨d, hd, rfl⟩))
    obtain ⟨fd, F⟩ := c1.defs (d := d.def_) (List.mem_map.mpr ⟨d, hd, rfl⟩)
    exact ⟨_, fd, He.glo_ok X G f, F⟩
  · exact He.free_ok X G (c1.facts (List.mem_append_right _ (List.mem_map.mpr ⟨x, hx, rfl⟩)))
  · have e' : (cs.find? fun c => decide (c.1 = x)).map (·.2) = some d := e
    simp only [Option.map_eq_some_iff] at e'
    obtain ⟨c, e1, e2⟩ := e'
    have hc := List.all_eq_true.mp c2 c (List.mem_of_find?_eq_some e1)
    have hx : c.1 = x := by have z := List.find?_some e1; exact of_decide_eq_true z
    unfold conOk at hc
    split at hc
    · rename_i u hu
      rw [hx] at hu
      rw [e2] at hc
      obtain ⟨v, r, hr⟩ := repB_ok mg d u hc
      exact ⟨u, v, PySem.W.mg_of X G hu, r, hr⟩
    · cases hc
/-- the law's call -/
def Law (T : Tab) (k : Nat) : Prop := ∀ ns : List Int, ns.length ≤ 63 → ∃ S', callK T.G T.F T.M k "law" [.lst (ns.map .int)] [] = some (.fz (.bl true), S')
theorem law_sp {T : Tab} {k : Nat} {K : PySem.W.Frag} {mg : Str → Option Value} (L : Law T k) (H : Hp) (a : Addr) (ns : List Int) (hl : ns.length ≤ 63) (hS : SqL K H a (ns.map V.int)) :
    spF T k "law" K mg [.ref a] H (fun v _ => v = .bl true) fun _ _ _ => False := by
  obtain ⟨S', e⟩ := L ns hl
  have fz : FzL K (exc [] (fun _ => False) [] []) H a (ns.map V.int) := hS.elim (fun h => .inl ⟨h, fun z => by
    rcases z with z | z | ⟨i, d, z, _⟩
    · cases z
    · exact z
    · cases z⟩) .inr
  refine ⟨[], fun _ => False, [], [.lst (ns.map .int)], .fz (.bl true), S', ⟨rfl, fun i d e => (by cases e), fun i d e => (by cases e), fun i j a d e z => (by cases z), fun n o e => (by cases e), rfl, List.nodup_nil, fun a z => (by cases z), fun a z => z.elim⟩, .cons (.lst fz (RepVs.ints ns)) .nil, e, fun v H' φ' p => ?_⟩
  exact RepV.toBl p.val
end Sk

/-! Sk18: what is to be shown of an evaluation, form by form. -/
namespace Sk
open PySem PySem.Spec
open L2 (ixN)

def sat {α : Type} (m : Option α) (Q : α → Prop) : Prop := ∃ a, m = some a ∧ Q a
theorem sat_some {α : Type} {a : α} {Q : α → Prop} : sat (some a) Q ↔ Q a := ⟨fun ⟨_, e, q⟩ => (by cases e; exact q), fun q => ⟨a, rfl, q⟩⟩
theorem sat_none {α : Type} {Q : α → Prop} : sat (none : Option α) Q ↔ False := ⟨fun ⟨_, e, _⟩ => (by cases e), fun z => False.elim z⟩
theorem sat_mono {α : Type} {m : Option α} {P Q : α → Prop} (h : sat m P) (k : ∀ a, P a → Q a) : sat m Q := let ⟨a, e, p⟩ := h; ⟨a, e, k a p⟩
theorem sat_bnd {α β : Type} {m : Option (α × Env' × Sto)} {f : α → Env' → Sto → Option β} {Q : β → Prop} : sat (bnd m f) Q ↔ sat m fun r => sat (f r.1 r.2.1 r.2.2) Q := by
  cases m with
  | none => exact Iff.trans sat_none sat_none.symm
  | some r => exact (sat_some (a := r) (Q := fun r => sat (f r.1 r.2.1 r.2.2) Q)).symm
theorem sat_congr {α : Type} {m : Option α} {P Q : α → Prop} (h : ∀ a, P a ↔ Q a) : sat m P ↔ sat m Q := ⟨fun z => sat_mono z fun a => (h a).mp, fun z => sat_mono z fun a => (h a).mpr⟩
theorem sat_obd {α β : Type} {m : Option α} {f : α → Option β} {Q : β → Prop} : sat (obd m f) Q ↔ sat m fun a => sat (f a) Q := by
  cases m with
  | none => exact Iff.trans sat_none sat_none.symm
  | some r => exact (sat_some (a := r) (Q := fun r => sat (f r) Q)).symm
def ob {α : Type} (m : Option α) (Q : α → Prop) : Prop := sat m Q
@[simp] theorem ob_some {α : Type} {a : α} {Q : α → Prop} : ob (some a) Q ↔ Q a := sat_some
@[simp] theorem ob_none {α : Type} {Q : α → Prop} : ob (none : Option α) Q ↔ False := sat_none
theorem ob_eq {α : Type} {m : Option α} {a : α} {Q : α → Prop} (e : m = some a) (q : Q a) : ob m Q := ⟨a, e, q⟩
/-- the datum of an operand; its truth; its int -/
def dv (o : Op) (Q : D → Prop) : Prop := ob o.d Q
@[simp] theorem dv_fz {d : D} {Q : D → Prop} : dv (.fz d) Q ↔ Q d := sat_some
@[simp] theorem dv_fr {d : D} {Q : D → Prop} : dv (.fr d) Q ↔ Q d := sat_some
def asB : Op → (Bool → Prop) → Prop
  | .fz (.bl b), Q => Q b
  | _, _ => False
@[simp] theorem asB_bl {b : Bool} {Q : Bool → Prop} : asB (.fz (.bl b)) Q ↔ Q b := Iff.rfl
def asI : Op → (Int → Prop) → Prop
  | .fz (.int b), Q => Q b
  | _, _ => False
@[simp] theorem asI_int {b : Int} {Q : Int → Prop} : asI (.fz (.int b)) Q ↔ Q b := Iff.rfl
def asL : D → (List D → Prop) → Prop
  | .lst b, Q => Q b
  | _, _ => False
@[simp] theorem asL_lst {b : List D} {Q : List D → Prop} : asL (.lst b) Q ↔ Q b := Iff.rfl
def asT : D → (List D → Prop) → Prop
  | .tup b, Q => Q b
  | _, _ => False
@[simp] theorem asT_tup {b : List D} {Q : List D → Prop} : asT (.tup b) Q ↔ Q b := Iff.rfl
def slV : Option Sl → (D → Prop) → Prop
  | some (.va d), Q => Q d
  | _, _ => False
@[simp] theorem slV_va {d : D} {Q : D → Prop} : slV (some (.va d)) Q ↔ Q d := Iff.rfl
def slO : Option Sl → (D → Prop) → Prop
  | some (.ow d), Q => Q d
  | _, _ => False
@[simp] theorem slO_ow {d : D} {Q : D → Prop} : slO (some (.ow d)) Q ↔ Q d := Iff.rfl
def slR (i : Nat) : Option Sl → (Op → Prop) → Prop
  | some (.va d), Q => Q (.fz d)
  | some (.ow _), Q => Q (.sl i)
  | _, _ => False
@[simp] theorem slR_va {i : Nat} {d : D} {Q : Op → Prop} : slR i (some (.va d)) Q ↔ Q (.fz d) := Iff.rfl
@[simp] theorem slR_ow {i : Nat} {d : D} {Q : Op → Prop} : slR i (some (.ow d)) Q ↔ Q (.sl i) := Iff.rfl
def slF (i : Nat) (ρ : Env') : Option Sl → (Env' → Prop) → Prop
  | some (.ow d), Q => Q (ρ.set i (.va d))
  | some (.va _), Q => Q ρ
  | _, _ => False
@[simp] theorem slF_va {i : Nat} {ρ : Env'} {d : D} {Q : Env' → Prop} : slF i ρ (some (.va d)) Q ↔ Q ρ := Iff.rfl
@[simp] theorem slF_ow {i : Nat} {ρ : Env'} {d : D} {Q : Env' → Prop} : slF i ρ (some (.ow d)) Q ↔ Q (ρ.set i (.va d)) := Iff.rfl

section
variable (T : Tab) (k : Nat)
def WE (e : CE) (ρ : Env') (S : Sto) (Q : Op → Env' → Sto → Prop) : Prop := sat (ev T k e ρ S) fun r => Q r.1 r.2.1 r.2.2
def WL (e : List CE) (ρ : Env') (S : Sto) (Q : List D → Env' → Sto → Prop) : Prop := sat (evs T k e ρ S) fun r => Q r.1 r.2.1 r.2.2
def WO (e : Option CE) (ρ : Env') (S : Sto) (Q : Option Int → Env' → Sto → Prop) : Prop := sat (evO T.G (callK T.G T.F T.M k) T.M e ρ S) fun r => Q r.1 r.2.1 r.2.2
def WC (e : List CE) (ρ : Env') (S : Sto) (Q : Bool → Env' → Sto → Prop) : Prop := sat (evc T k e ρ S) fun r => Q r.1 r.2.1 r.2.2
def WI (e : It') (ρ : Env') (S : Sto) (Q : List D → Env' → Sto → Prop) : Prop := sat (evi T k e ρ S) fun r => Q r.1 r.2.1 r.2.2
def WS (e : CS) (ρ : Env') (S : Sto) (Q : Out → Prop) : Prop := sat (evst T k e ρ S) Q
def WSs (e : List CS) (ρ : Env') (S : Sto) (Q : Out → Prop) : Prop := sat (evsts T k e ρ S) Q
def WF (f : Str) (ds : List D) (S : Sto) (Q : Op → Sto → Prop) : Prop := sat (callK T.G T.F T.M k f ds S) fun r => Q r.1 r.2
def WLc (tg : Tg) (elt : CE) (cs : List CE) (ds acc : List D) (ρ : Env') (S : Sto) (Q : List D → Env' → Sto → Prop) : Prop := sat (lcL tg (lcOne T k elt cs) ds acc ρ S) fun r => Q r.1 r.2.1 r.2.2
def WFor (tg : Tg) (b : List CS) (ds : List D) (ρ : Env') (S : Sto) (Q : Out → Prop) : Prop := sat (forL tg (fun ρ S => evsts T k b ρ S) ds ρ S) Q
def WWh (c : CE) (b : List CS) (n : Nat) (ρ : Env') (S : Sto) (Q : Out → Prop) : Prop := sat (whlL (fun ρ S => evc T k [c] ρ S) (fun ρ S => evsts T k b ρ S) n ρ S) Q
end
section
variable {T : Tab} {k : Nat} {a b c : CE} {es : List CE} {ρ : Env'} {S : Sto} {Q : Op → Env' → Sto → Prop} {P : Out → Prop}
theorem WE.mono {Q' : Op → Env' → Sto → Prop} (h : WE T k a ρ S Q) (m : ∀ o ρ S, Q o ρ S → Q' o ρ S) : WE T k a ρ S Q' := sat_mono h fun _ => m _ _ _
theorem WF.mono {f : Str} {ds : List D} {Q Q' : Op → Sto → Prop} (h : WF T k f ds S Q) (m : ∀ o S, Q o S → Q' o S) : WF T k f ds S Q' := sat_mono h fun _ => m _ _
theorem WS.mono {s : CS} {P' : Out → Prop} (h : WS T k s ρ S P) (m : ∀ o, P o → P' o) : WS T k s ρ S P' := sat_mono h m
theorem WSs.mono {s : List CS} {P' : Out → Prop} (h : WSs T k s ρ S P) (m : ∀ o, P o → P' o) : WSs T k s ρ S P' := sat_mono h m
theorem WFor.mono {tg : Tg} {s : List CS} {ds : List D} {P' : Out → Prop} (h : WFor T k tg s ds ρ S P) (m : ∀ o, P o → P' o) : WFor T k tg s ds ρ S P' := sat_mono h m
theorem WLc.mono {tg : Tg} {elt : CE} {cs : List CE} {ds acc : List D} {Q Q' : List D → Env' → Sto → Prop} (h : WLc T k tg elt cs ds acc ρ S Q) (m : ∀ o ρ S, Q o ρ S → Q' o ρ S) : WLc T k tg elt cs ds acc ρ S Q' := sat_mono h fun _ => m _ _ _

/-! ### expressions -/
@[simp] theorem we_var {i : Nat} : WE T k (.var i) ρ S Q ↔ slV ρ[i]? fun d => Q (.fz d) ρ S := by
  unfold WE
  simp only [ev, evE]
  split
  · rename_i h; rw [h]; exact sat_some
  · rename_i h
    rw [sat_none]
    cases e : ρ[i]? with
    | none => exact Iff.rfl
    | some s =>
      cases s with
      | va d => exact absurd e (h d)
      | _ => exact Iff.rfl
@[simp] theorem we_rd {i : Nat} : WE T k (.rd i) ρ S Q ↔ slR i ρ[i]? fun o => Q o ρ S := by
  unfold WE
  simp only [ev, evE]
  split
  · rename_i h; rw [h]; exact sat_some
  · rename_i h; rw [h]; exact sat_some
  · rename_i h1 h2
    rw [sat_none]
    cases e : ρ[i]? with
    | none => exact Iff.rfl
    | some s =>
      cases s with
      | va d => exact absurd e (h2 d)
      | ow d => exact absurd e (h1 d)
      | no => exact Iff.rfl
@[simp] theorem we_mv {i : Nat} : WE T k (.mv i) ρ S Q ↔ slO ρ[i]? fun d => Q (.fr d) (ρ.set i .no) S := by
  unfold WE
  simp only [ev, evE]
  split
  · rename_i h; rw [h]; exact sat_some
  · rename_i h
    rw [sat_none]
    cases e : ρ[i]? with
    | none => exact Iff.rfl
    | some s =>
      cases s with
      | ow d => exact absurd e (h d)
      | _ => exact Iff.rfl
@[simp] theorem we_non : WE T k .non ρ S Q ↔ Q (.fz .non) ρ S := sat_some
@[simp] theorem we_bl {v : Bool} : WE T k (.bl v) ρ S Q ↔ Q (.fz (.bl v)) ρ S := sat_some
@[simp] theorem we_int {v : Int} : WE T k (.int v) ρ S Q ↔ Q (.fz (.int v)) ρ S := sat_some
@[simp] theorem we_str {v : Str} : WE T k (.str v) ρ S Q ↔ Q (.fz (.str v)) ρ S := sat_some
@[simp] theorem we_glo {x : Str} : WE T k (.glo x) ρ S Q ↔ ob (T.G x) fun d => Q (.fz d) ρ S := by
  unfold WE ob
  simp only [ev, evE, sat_obd, sat_some]
@[simp] theorem we_tup : WE T k (.tup es) ρ S Q ↔ WL T k es ρ S fun ds ρ S => ds.length ≤ sizeLine ∧ Q (.fz (.tup ds)) ρ S := by
  unfold WE WL
  simp only [ev, evE, sat_bnd]
  refine ⟨fun h => sat_mono h fun r z => ?_, fun h => sat_mono h fun r z => ?_⟩
  · split at z
    · rename_i hl; exact ⟨hl, (by have z := sat_some.mp z; exact z)⟩
    · exact (sat_none.mp z).elim
  · rw [if_pos z.1]; exact sat_some.mpr z.2
@[simp] theorem we_lst : WE T k (.lst es) ρ S Q ↔ WL T k es ρ S fun ds ρ S => ds.length ≤ sizeLine ∧ Q (.fr (.lst ds)) ρ S := by
  unfold WE WL
  simp only [ev, evE, sat_bnd]
  refine ⟨fun h => sat_mono h fun r z => ?_, fun h => sat_mono h fun r z => ?_⟩
  · split at z
    · rename_i hl; exact ⟨hl, (by have z := sat_some.mp z; exact z)⟩
    · exact (sat_none.mp z).elim
  · rw [if_pos z.1]; exact sat_some.mpr z.2
@[simp] theorem we_dis : WE T k (.dis es) ρ S Q ↔ WL T k es ρ S fun ds ρ S => ob (pairUp ds) fun kvs => (kvs.length ≤ 15 ∧ (kvs.all fun p => isKey p.1) = true) ∧ Q (.fr (.dct (kvs.foldl (fun acc p => dput acc p.1 p.2) []))) ρ S := by
  unfold WE WL ob
  simp only [ev, evE, sat_bnd, sat_obd]
  refine ⟨fun h => sat_mono h fun r z => sat_mono z fun kvs z => ?_, fun h => sat_mono h fun r z => sat_mono z fun kvs z => ?_⟩
  · split at z
    · rename_i hl; exact ⟨hl, (by have z := sat_some.mp z; exact z)⟩
    · exact (sat_none.mp z).elim
  · rw [if_pos z.1]; exact sat_some.mpr z.2
@[simp] theorem we_bop {o : BO} : WE T k (.bop o a b) ρ S Q ↔ WE T k a ρ S fun x ρ S => WE T k b ρ S fun y ρ S => ob (cont ρ S x) fun dx => ob (cont ρ S y) fun dy => ob (bopD o dx dy) fun r => Q r ρ S := by
  unfold WE ob
  simp only [ev, evE, sat_bnd, sat_obd, sat_some]
@[simp] theorem we_neg : WE T k (.neg a) ρ S Q ↔ WE T k a ρ S fun x ρ S => asI x fun i => Q (.fz (.int (-i))) ρ S := by
  unfold WE
  simp only [ev, evE, sat_bnd]
  refine ⟨fun h => sat_mono h fun r z => ?_, fun h => sat_mono h fun r z => ?_⟩
  · split at z
    · rename_i e; rw [e]; exact (by have z := sat_some.mp z; exact z)
    · exact (sat_none.mp z).elim
  · obtain ⟨o, ρ, S⟩ := r
    cases o with
    | fz d => cases d <;> first
      | exact sat_some.mpr z
      | exact z.elim
    | _ => exact z.elim
@[simp] theorem we_no : WE T k (.no a) ρ S Q ↔ WE T k a ρ S fun x ρ S => asB x fun i => Q (.fz (.bl (!i))) ρ S := by
  unfold WE
  simp only [ev, evE, sat_bnd]
  refine ⟨fun h => sat_mono h fun r z => ?_, fun h => sat_mono h fun r z => ?_⟩
  · split at z
    · rename_i e; rw [e]; exact (by have z := sat_some.mp z; exact z)
    · exact (sat_none.mp z).elim
  · obtain ⟨o, ρ, S⟩ := r
    cases o with
    | fz d => cases d <;> first
      | exact sat_some.mpr z
      | exact z.elim
    | _ => exact z.elim
@[simp] theorem we_cmp {o : CO} : WE T k (.cmp o a b) ρ S Q ↔ WE T k a ρ S fun x ρ S => WE T k b ρ S fun y ρ S => ob (look ρ S x) fun dx => ob (look ρ S y) fun dy => ob (cmpD o dx dy) fun r => Q (.fz (.bl r)) ρ S := by
  unfold WE ob
  simp only [ev, evE, sat_bnd, sat_obd, sat_some]
@[simp] theorem we_chn {o o' : CO} : WE T k (.chn o o' a b c) ρ S Q ↔ WE T k a ρ S fun x ρ S => WE T k b ρ S fun y ρ S => ob (look ρ S x) fun dx => ob (look ρ S y) fun dy => ob (cmpD o dx dy) fun r =>
    if r = true then WE T k c ρ S fun z ρ S => ob (look ρ S y) fun dy => ob (look ρ S z) fun dz => ob (cmpD o' dy dz) fun r => Q (.fz (.bl r)) ρ S else Q (.fz (.bl false)) ρ S := by
  unfold WE ob
  simp only [ev, evE, sat_bnd, sat_obd]
  refine ⟨fun h => sat_mono h fun r z => sat_mono z fun r z => sat_mono z fun r z => sat_mono z fun r z => sat_mono z fun r z => ?_, fun h => sat_mono h fun r z => sat_mono z fun r z => sat_mono z fun r z => sat_mono z fun r z => sat_mono z fun r z => ?_⟩
  · cases r
    · exact (by have z := sat_some.mp z; exact z)
    · simpa [sat_bnd, sat_obd, sat_some] using z
  · cases r
    · exact sat_some.mpr z
    · simpa [sat_bnd, sat_obd, sat_some] using z
@[simp] theorem we_and : WE T k (.and a b) ρ S Q ↔ WE T k a ρ S fun x ρ S => asB x fun v => if v = true then WE T k b ρ S Q else Q (.fz (.bl false)) ρ S := by
  unfold WE
  simp only [ev, evE, sat_bnd]
  refine sat_congr fun r => ?_
  obtain ⟨o, ρ1, S1⟩ := r
  cases o with
  | fz d =>
    cases d with
    | bl b => cases b <;> simp [asB, sat_some]
    | _ => exact sat_none
  | _ => exact sat_none
@[simp] theorem we_orr : WE T k (.orr a b) ρ S Q ↔ WE T k a ρ S fun x ρ S => asB x fun v => if v = true then Q (.fz (.bl true)) ρ S else WE T k b ρ S Q := by
  unfold WE
  simp only [ev, evE, sat_bnd]
  refine sat_congr fun r => ?_
  obtain ⟨o, ρ1, S1⟩ := r
  cases o with
  | fz d =>
    cases d with
    | bl b => cases b <;> simp [asB, sat_some]
    | _ => exact sat_none
  | _ => exact sat_none
@[simp] theorem we_ite : WE T k (.ite c a b) ρ S Q ↔ WE T k c ρ S fun x ρ S => asB x fun v => if v = true then WE T k a ρ S Q else WE T k b ρ S Q := by
  unfold WE
  simp only [ev, evE, sat_bnd]
  refine sat_congr fun r => ?_
  obtain ⟨o, ρ1, S1⟩ := r
  cases o with
  | fz d =>
    cases d with
    | bl b => cases b <;> simp [asB, sat_some]
    | _ => exact sat_none
  | _ => exact sat_none
@[simp] theorem we_sub : WE T k (.sub a b) ρ S Q ↔ WE T k a ρ S fun x ρ S => WE T k b ρ S fun y ρ S => ob (cont ρ S x) fun dx => dv y fun dy => ob (subD dx dy) fun r => Q (.fz r) ρ S := by
  unfold WE dv ob
  simp only [ev, evE, sat_bnd, sat_obd, sat_some]
@[simp] theorem we_slc {lo hi : Option CE} : WE T k (.slc a lo hi) ρ S Q ↔ WE T k a ρ S fun x ρ S => WO T k lo ρ S fun l ρ S => WO T k hi ρ S fun h ρ S => ob (cont ρ S x) fun dx => ob (slcD dx l h) fun r => Q r ρ S := by
  unfold WE WO ob
  simp only [ev, evE, sat_bnd, sat_obd, sat_some]
@[simp] theorem we_rev : WE T k (.rev a) ρ S Q ↔ WE T k a ρ S fun x ρ S => ob (cont ρ S x) fun dx => asL dx fun ds => Q (.fr (.lst ds.reverse)) ρ S := by
  unfold WE ob
  simp only [ev, evE, sat_bnd, sat_obd]
  refine sat_congr fun r => sat_congr fun d => ?_
  cases d with
  | lst ds => simp [asL, sat_some]
  | _ => exact sat_none
@[simp] theorem we_lrev : WE T k (.lrev a) ρ S Q ↔ WE T k a ρ S fun x ρ S => ob (look ρ S x) fun dx => asL dx fun ds => Q (.fr (.lst ds.reverse)) ρ S := by
  unfold WE ob
  simp only [ev, evE, sat_bnd, sat_obd]
  refine sat_congr fun r => sat_congr fun d => ?_
  cases d with
  | lst ds => simp [asL, sat_some]
  | _ => exact sat_none
@[simp] theorem we_bf {f : BF} : WE T k (.bf f a) ρ S Q ↔ WE T k a ρ S fun x ρ S => ob (look ρ S x) fun dx => ob (bfD f dx) fun r => Q r ρ S := by
  unfold WE ob
  simp only [ev, evE, sat_bnd, sat_obd, sat_some]
@[simp] theorem we_bf2 {f : BF} : WE T k (.bf2 f a b) ρ S Q ↔ WE T k a ρ S fun x ρ S => WE T k b ρ S fun y ρ S => ob (look ρ S x) fun dx => ob (look ρ S y) fun dy => ob (bf2D f dx dy) fun r => Q r ρ S := by
  unfold WE ob
  simp only [ev, evE, sat_bnd, sat_obd, sat_some]
/-- what a method leaves -/
def afterM (ρ : Env') (S : Sto) (x : Op) (Q : Op → Env' → Sto → Prop) : D × Option D → Prop
  | (r, none) => Q (.fz r) ρ S
  | (r, some d) => ob (setC ρ S x d) fun q => Q (.fz r) q.1 q.2
@[simp] theorem afterM_none {x : Op} {r : D} : afterM ρ S x Q (r, none) ↔ Q (.fz r) ρ S := Iff.rfl
@[simp] theorem afterM_some {x : Op} {r d : D} : afterM ρ S x Q (r, some d) ↔ ob (setC ρ S x d) fun q => Q (.fz r) q.1 q.2 := Iff.rfl
@[simp] theorem we_mt {m : MF} : WE T k (.mt m a es) ρ S Q ↔ WE T k a ρ S fun x ρ S => ob (cont ρ S x) fun d0 => WL T k es ρ S fun ds ρ S => ob (cont ρ S x) fun dx => tyN d0 = tyN dx ∧ ob (mtD m dx ds) fun r => afterM ρ S x Q r := by
  unfold WE WL ob
  simp only [ev, evE, sat_bnd, sat_obd]
  refine ⟨fun h => sat_mono h fun r z => sat_mono z fun d0 z => sat_mono z fun ds z => sat_mono z fun dx z => ?_, fun h => sat_mono h fun r z => sat_mono z fun d0 z => sat_mono z fun ds z => sat_mono z fun dx z => ?_⟩
  · split at z
    · rename_i ht
      refine ⟨ht, sat_mono (sat_obd.mp z) fun r z => ?_⟩
      obtain ⟨r1, r2⟩ := r
      cases r2 with
      | none => exact (by have z := sat_some.mp z; exact z)
      | some d => exact sat_mono (sat_obd.mp z) fun q z => (by have z := sat_some.mp z; exact z)
    · exact (sat_none.mp z).elim
  · rw [if_pos z.1]
    refine sat_obd.mpr (sat_mono z.2 fun r z => ?_)
    obtain ⟨r1, r2⟩ := r
    cases r2 with
    | none => exact sat_some.mpr z
    | some d => exact sat_obd.mpr (sat_mono z fun q z => sat_some.mpr z)
@[simp] theorem we_call {f : Str} : WE T k (.call f es) ρ S Q ↔ WL T k es ρ S fun ds ρ S => WF T k f ds S fun r S => Q r ρ S := by
  unfold WE WL WF
  simp only [ev, evE, sat_bnd, sat_obd, sat_some]
def asFr : Op → (D → Prop) → Prop
  | .fr d, Q => Q d
  | _, _ => False
@[simp] theorem asFr_fr {d : D} {Q : D → Prop} : asFr (.fr d) Q ↔ Q d := Iff.rfl
@[simp] theorem we_al : WE T k (.al a) ρ S Q ↔ WE T k a ρ S fun x ρ S => asFr x fun d => Q (.fz (.ref S.length)) ρ (S ++ [.da d]) := by
  unfold WE
  simp only [ev, evE, sat_bnd]
  refine sat_congr fun r => ?_
  obtain ⟨o, ρ1, S1⟩ := r
  cases o with
  | fr d => simp [asFr, sat_some]
  | _ => exact sat_none
@[simp] theorem we_lc {elt : CE} {tg : Tg} {it : It'} {cs : List CE} : WE T k (.lc elt tg it cs) ρ S Q ↔ WI T k it ρ S fun ds ρ S => noOw tg.ixs ρ = true ∧ WLc T k tg elt cs ds [] (wipeT tg.ixs ρ) S fun r ρ' S' => Q (.fr (.lst r)) (backT tg.ixs ρ ρ') S' := by
  unfold WE WI WLc
  simp only [ev, evE, sat_bnd]
  refine ⟨fun h => sat_mono h fun r z => ?_, fun h => sat_mono h fun r z => ?_⟩
  · split at z
    · rename_i hl
      have z := sat_bnd.mp z
      exact ⟨hl, sat_mono z fun r z => (by have z := sat_some.mp z; exact z)⟩
    · exact (sat_none.mp z).elim
  · rw [if_pos z.1]
    refine sat_bnd.mpr ?_
    have z := z.2
    exact sat_mono z fun r z => sat_some.mpr z
@[simp] theorem wl_nil {Q : List D → Env' → Sto → Prop} : WL T k [] ρ S Q ↔ Q [] ρ S := sat_some
@[simp] theorem wl_cons {Q : List D → Env' → Sto → Prop} : WL T k (a :: es) ρ S Q ↔ WE T k a ρ S fun x ρ S => dv x fun d => WL T k es ρ S fun ds ρ S => Q (d :: ds) ρ S := by
  unfold WE WL dv ob
  simp only [evs, evL, sat_bnd, sat_obd, sat_some]
@[simp] theorem wo_none {Q : Option Int → Env' → Sto → Prop} : WO T k none ρ S Q ↔ Q none ρ S := sat_some
@[simp] theorem wo_some {Q : Option Int → Env' → Sto → Prop} : WO T k (some a) ρ S Q ↔ WE T k a ρ S fun x ρ S => asI x fun i => Q (some i) ρ S := by
  unfold WE WO
  simp only [evO, sat_bnd]
  refine sat_congr fun r => ?_
  obtain ⟨o, ρ1, S1⟩ := r
  cases o with
  | fz d =>
    cases d with
    | int i => simp [asI, sat_some, sat_obd]
    | _ => exact sat_none
  | _ => exact sat_none
@[simp] theorem wc_nil {Q : Bool → Env' → Sto → Prop} : WC T k [] ρ S Q ↔ Q true ρ S := sat_some
@[simp] theorem wc_cons {Q : Bool → Env' → Sto → Prop} : WC T k (a :: es) ρ S Q ↔ WE T k a ρ S fun x ρ S => asB x fun v => if v = true then WC T k es ρ S Q else Q false ρ S := by
  unfold WE WC
  simp only [evc, evC, sat_bnd]
  refine sat_congr fun r => ?_
  obtain ⟨o, ρ1, S1⟩ := r
  cases o with
  | fz d =>
    cases d with
    | bl b => cases b <;> simp [asB, sat_some]
    | _ => exact sat_none
  | _ => exact sat_none
/-! ### walks -/
@[simp] theorem wi_seq {Q : List D → Env' → Sto → Prop} : WI T k (.seq a) ρ S Q ↔ WE T k a ρ S fun x ρ S => dv x fun d => ob (seqD d) fun ds => Q ds ρ S := by
  unfold WE WI dv ob
  simp only [evi, evI, sat_bnd, sat_obd, sat_some]
@[simp] theorem wi_rng {Q : List D → Env' → Sto → Prop} : WI T k (.rng a) ρ S Q ↔ WE T k a ρ S fun x ρ S => asI x fun n => ob (rngD 0 n) fun ds => Q ds ρ S := by
  unfold WE WI ob
  simp only [evi, evI, sat_bnd]
  refine sat_congr fun r => ?_
  obtain ⟨o, ρ1, S1⟩ := r
  cases o with
  | fz d =>
    cases d with
    | int i => simp [asI, sat_some, sat_obd]
    | _ => exact sat_none
  | _ => exact sat_none
@[simp] theorem wi_rng2 {Q : List D → Env' → Sto → Prop} : WI T k (.rng2 a b) ρ S Q ↔ WE T k a ρ S fun x ρ S => WE T k b ρ S fun y ρ S => asI x fun i => asI y fun j => ob (rngD i j) fun ds => Q ds ρ S := by
  unfold WE WI ob
  simp only [evi, evI, sat_bnd]
  refine ⟨fun h => sat_mono h fun r z => sat_mono z fun r' z => ?_, fun h => sat_mono h fun r z => sat_mono z fun r' z => ?_⟩
  · split at z
    · rename_i e1 e2
      rw [e1, e2]
      simp only [sat_obd, sat_some] at z
      exact z
    · exact (sat_none.mp z).elim
  · obtain ⟨o, ρ, S⟩ := r
    obtain ⟨o', ρ', S'⟩ := r'
    cases o with
    | fz d =>
      cases d with
      | int i =>
        cases o' with
        | fz d' =>
          cases d' with
          | int j =>
            simp only [sat_obd, sat_some]
            exact z
          | _ => exact False.elim z
        | _ => exact False.elim z
      | _ => exact False.elim z
    | _ => exact False.elim z
/-! ### turns -/
@[simp] theorem wlc_nil {tg : Tg} {acc : List D} {Q : List D → Env' → Sto → Prop} : WLc T k tg a es [] acc ρ S Q ↔ Q acc ρ S := sat_some
@[simp] theorem wlc_cons {tg : Tg} {d : D} {ds acc : List D} {Q : List D → Env' → Sto → Prop} : WLc T k tg a es (d :: ds) acc ρ S Q ↔ ob (bindT tg d ρ) fun ρ => WC T k es ρ S fun v ρ S =>
    if v = true then WE T k a ρ S fun x ρ S => dv x fun x => acc.length < sizeLine ∧ WLc T k tg a es ds (acc ++ [x]) (wipeT tg.ixs ρ) S Q else WLc T k tg a es ds acc (wipeT tg.ixs ρ) S Q := by
  unfold WLc ob WC WE dv
  show sat (obd (bindT tg d ρ) _) _ ↔ _
  simp only [sat_obd, sat_bnd]
  refine ⟨fun h => sat_mono h fun r z => sat_mono z fun r z => ?_, fun h => sat_mono h fun r z => sat_mono z fun r z => ?_⟩
  · obtain ⟨v, ρ1, S1⟩ := r
    cases v with
    | false =>
      rw [if_neg Bool.false_ne_true]
      exact (by have z := sat_some.mp z; exact z)
    | true =>
      rw [if_pos rfl]
      refine sat_mono (sat_bnd.mp z) fun r z => sat_mono (sat_obd.mp z) fun x z => ?_
      have z := sat_some.mp z
      dsimp only at z
      split at z
      · rename_i hl; exact ⟨hl, z⟩
      · exact (sat_none.mp z).elim
  · obtain ⟨v, ρ1, S1⟩ := r
    cases v with
    | false =>
      rw [if_neg Bool.false_ne_true] at z
      exact sat_some.mpr z
    | true =>
      rw [if_pos rfl] at z
      refine sat_bnd.mpr (sat_mono z fun r z => sat_obd.mpr (sat_mono z fun x z => ?_))
      refine sat_some.mpr ?_
      dsimp only
      rw [if_pos z.1]
      exact z.2
@[simp] theorem wfor_nil {tg : Tg} {s : List CS} : WFor T k tg s [] ρ S P ↔ P (.nx ρ S) := sat_some
/-- what a turn leads to -/
def turnQ (next : Env' → Sto → Prop) (P : Out → Prop) : Out → Prop
  | .nx ρ S => next ρ S
  | .ct ρ S => next ρ S
  | .bk ρ S => P (.nx ρ S)
  | .rt o S => P (.rt o S)
@[simp] theorem turnQ_nx {n : Env' → Sto → Prop} : turnQ n P (.nx ρ S) ↔ n ρ S := Iff.rfl
@[simp] theorem turnQ_ct {n : Env' → Sto → Prop} : turnQ n P (.ct ρ S) ↔ n ρ S := Iff.rfl
@[simp] theorem turnQ_bk {n : Env' → Sto → Prop} : turnQ n P (.bk ρ S) ↔ P (.nx ρ S) := Iff.rfl
@[simp] theorem turnQ_rt {n : Env' → Sto → Prop} {o : Op} : turnQ n P (.rt o S) ↔ P (.rt o S) := Iff.rfl
@[simp] theorem wfor_cons {tg : Tg} {s : List CS} {d : D} {ds : List D} : WFor T k tg s (d :: ds) ρ S P ↔ ob (bindT tg d ρ) fun ρ => WSs T k s ρ S (turnQ (fun ρ S => WFor T k tg s ds ρ S P) P) := by
  unfold WFor WSs ob
  show sat (obd (bindT tg d ρ) _) _ ↔ _
  simp only [sat_obd]
  refine ⟨fun h => sat_mono h fun r z => sat_mono z fun r z => ?_, fun h => sat_mono h fun r z => sat_mono z fun r z => ?_⟩
  · cases r with
    | nx _ _ => exact z
    | ct _ _ => exact z
    | bk _ _ => exact (by have z := sat_some.mp z; exact z)
    | rt _ _ => exact (by have z := sat_some.mp z; exact z)
  · cases r with
    | nx _ _ => exact z
    | ct _ _ => exact z
    | bk _ _ => exact sat_some.mpr z
    | rt _ _ => exact sat_some.mpr z
theorem wwh_succ {s : List CS} {n : Nat} : WWh T k c s (n + 1) ρ S P ↔ WC T k [c] ρ S fun v ρ S => if v = true then WSs T k s ρ S (turnQ (fun ρ S => WWh T k c s n ρ S P) P) else P (.nx ρ S) := by
  unfold WWh WSs WC
  show sat (bnd (evc T k [c] ρ S) _) _ ↔ _
  simp only [sat_bnd]
  refine ⟨fun h => sat_mono h fun r z => ?_, fun h => sat_mono h fun r z => ?_⟩
  · obtain ⟨v, ρ1, S1⟩ := r
    cases v with
    | false =>
      rw [if_neg Bool.false_ne_true]
      exact (by have z := sat_some.mp z; exact z)
    | true =>
      rw [if_pos rfl]
      refine sat_mono (sat_obd.mp z) fun r z => ?_
      cases r with
      | nx _ _ => exact z
      | ct _ _ => exact z
      | bk _ _ => exact (by have z := sat_some.mp z; exact z)
      | rt _ _ => exact (by have z := sat_some.mp z; exact z)
  · obtain ⟨v, ρ1, S1⟩ := r
    cases v with
    | false =>
      rw [if_neg Bool.false_ne_true] at z
      exact sat_some.mpr z
    | true =>
      rw [if_pos rfl] at z
      refine sat_obd.mpr (sat_mono z fun r z => ?_)
      cases r with
      | nx _ _ => exact z
      | ct _ _ => exact z
      | bk _ _ => exact sat_some.mpr z
      | rt _ _ => exact sat_some.mpr z
/-! ### statements -/
@[simp] theorem ws_asg {i : Nat} : WS T k (.asg i a) ρ S P ↔ WE T k a ρ S fun x ρ S => dv x fun d => P (.nx (ρ.set i (.va d)) S) := by
  unfold WS WE dv ob
  simp only [evst, evS, sat_bnd, sat_obd, sat_some]
@[simp] theorem ws_asgO {i : Nat} : WS T k (.asgO i a) ρ S P ↔ WE T k a ρ S fun x ρ S => asFr x fun d => P (.nx (ρ.set i (.ow d)) S) := by
  unfold WS WE
  simp only [evst, evS, sat_bnd]
  refine sat_congr fun r => ?_
  obtain ⟨o, ρ1, S1⟩ := r
  cases o with
  | fr d => simp [asFr, sat_some]
  | _ => exact sat_none
@[simp] theorem ws_asgT {is : List Nat} : WS T k (.asgT is a) ρ S P ↔ WE T k a ρ S fun x ρ S => dv x fun d => asT d fun ds => ob (setAll is ds ρ) fun ρ => P (.nx ρ S) := by
  unfold WS WE dv ob
  simp only [evst, evS, sat_bnd, sat_obd]
  refine sat_congr fun r => sat_congr fun d => ?_
  cases d with
  | tup ds => simp [asT, sat_some, sat_obd, ob]
  | _ => exact sat_none
@[simp] theorem ws_asgP {i j : Nat} : WS T k (.asgP i j a b) ρ S P ↔ WE T k a ρ S fun x ρ S => dv x fun x => WE T k b ρ S fun y ρ S => dv y fun y => P (.nx ((ρ.set i (.va x)).set j (.va y)) S) := by
  unfold WS WE dv ob
  simp only [evst, evS, evL, sat_bnd, sat_obd, sat_some]
@[simp] theorem ws_aug {i : Nat} {o : BO} : WS T k (.aug i o a) ρ S P ↔ slV ρ[i]? fun d => WE T k a ρ S fun x ρ S => dv x fun y => ob (augD o d y) fun r => P (.nx (ρ.set i (.va r)) S) := by
  unfold WS WE dv ob
  simp only [evst, evS]
  split
  · rename_i h
    rw [h]
    simp only [sat_bnd, sat_obd, sat_some, slV_va]
  · rename_i h
    rw [sat_none]
    cases e : ρ[i]? with
    | none => exact Iff.rfl
    | some s =>
      cases s with
      | va d => exact absurd e (h d)
      | _ => exact Iff.rfl
/-- o[k] = v of a content -/
def putC (v : D) : D → D → (D → Prop) → Prop
  | .lst ds, .int i, Q => ob (ixN ds.length i) fun j => Q (.lst (ds.set j v))
  | .dct kvs, kd, Q => (isKey kd = true ∧ kvs.length < sizeLine) ∧ Q (.dct (dput kvs kd v))
  | _, _, _ => False
@[simp] theorem putC_lst {v : D} {ds : List D} {i : Int} {Q : D → Prop} : putC v (.lst ds) (.int i) Q ↔ ob (ixN ds.length i) fun j => Q (.lst (ds.set j v)) := Iff.rfl
@[simp] theorem putC_dct {v kd : D} {kvs : List (D × D)} {Q : D → Prop} : putC v (.dct kvs) kd Q ↔ (isKey kd = true ∧ kvs.length < sizeLine) ∧ Q (.dct (dput kvs kd v)) := Iff.rfl
@[simp] theorem ws_setI : WS T k (.setI a b c) ρ S P ↔ WE T k c ρ S fun x ρ S => dv x fun v => WE T k a ρ S fun p ρ S => WE T k b ρ S fun y ρ S => dv y fun kd => ob (cont ρ S p) fun d => putC v d kd fun d => ob (setC ρ S p d) fun q => P (.nx q.1 q.2) := by
  unfold WS WE dv ob
  simp only [evst, evS, sat_bnd, sat_obd]
  refine ⟨fun h => sat_mono h fun r z => sat_mono z fun v z => sat_mono z fun r z => sat_mono z fun r z => sat_mono z fun kd z => sat_mono z fun d z => ?_, fun h => sat_mono h fun r z => sat_mono z fun v z => sat_mono z fun r z => sat_mono z fun r z => sat_mono z fun kd z => sat_mono z fun d z => ?_⟩
  · split at z
    · simp only [sat_obd, sat_some] at z
      exact z
    · split at z
      · rename_i hz
        simp only [sat_obd, sat_some] at z
        exact ⟨hz, z⟩
      · exact (sat_none.mp z).elim
    · exact (sat_none.mp z).elim
  · cases d with
    | lst ds =>
      cases kd with
      | int i =>
        simp only [sat_obd, sat_some]
        exact z
      | _ => exact False.elim z
    | dct kvs =>
      obtain ⟨z1, z2⟩ := z
      show sat (if isKey kd = true ∧ kvs.length < sizeLine then _ else none) P
      rw [if_pos z1]
      simp only [sat_obd, sat_some]
      exact z2
    | _ => exact False.elim z
@[simp] theorem ws_xpr : WS T k (.xpr a) ρ S P ↔ WE T k a ρ S fun _ ρ S => P (.nx ρ S) := by
  unfold WS WE
  simp only [evst, evS, sat_bnd, sat_some]
/-- what is handed back -/
def retO : Op → (Op → Prop) → Prop
  | .sl _, _ => False
  | o, Q => Q o
@[simp] theorem retO_fz {d : D} {Q : Op → Prop} : retO (.fz d) Q ↔ Q (.fz d) := Iff.rfl
@[simp] theorem retO_fr {d : D} {Q : Op → Prop} : retO (.fr d) Q ↔ Q (.fr d) := Iff.rfl
@[simp] theorem ws_ret : WS T k (.ret a) ρ S P ↔ WE T k a ρ S fun x _ S => retO x fun o => P (.rt o S) := by
  unfold WS WE
  simp only [evst, evS, sat_bnd]
  refine ⟨fun h => sat_mono h fun r z => ?_, fun h => sat_mono h fun r z => ?_⟩
  all_goals
    obtain ⟨o, ρ, S⟩ := r
    cases o <;> first
      | exact (by have z := sat_some.mp z; exact z)
      | exact sat_some.mpr z
      | exact (sat_none.mp z).elim
      | exact False.elim z
@[simp] theorem ws_retN : WS T k .retN ρ S P ↔ P (.rt (.fz .non) S) := sat_some
@[simp] theorem ws_ife {x y : List CS} : WS T k (.ife c x y) ρ S P ↔ WE T k c ρ S fun v ρ S => asB v fun v => if v = true then WSs T k x ρ S P else WSs T k y ρ S P := by
  unfold WS WE WSs
  simp only [evst, evS, sat_bnd]
  refine sat_congr fun r => ?_
  obtain ⟨o, ρ1, S1⟩ := r
  cases o with
  | fz d =>
    cases d with
    | bl b => cases b <;> simp [asB, sat_some]
    | _ => exact sat_none
  | _ => exact sat_none
@[simp] theorem ws_whl {x : List CS} : WS T k (.whl c x) ρ S P ↔ WWh T k c x fuel ρ S P := Iff.rfl
@[simp] theorem ws_for {tg : Tg} {it : It'} {x : List CS} : WS T k (.for_ tg it x) ρ S P ↔ WI T k it ρ S fun ds ρ S => WFor T k tg x ds ρ S P := by
  unfold WS WI WFor
  simp only [evst, evS, sat_bnd]
@[simp] theorem ws_brk : WS T k .brk ρ S P ↔ P (.bk ρ S) := sat_some
@[simp] theorem ws_cnt : WS T k .cnt ρ S P ↔ P (.ct ρ S) := sat_some
@[simp] theorem ws_pas : WS T k .pas ρ S P ↔ P (.nx ρ S) := sat_some
@[simp] theorem ws_frz {i : Nat} {s : CS} : WS T k (.frz i s) ρ S P ↔ slF i ρ ρ[i]? fun ρ => WS T k s ρ S P := by
  unfold WS
  simp only [evst, evS]
  split
  · rename_i h; rw [h]; exact Iff.rfl
  · rename_i h; rw [h]; exact Iff.rfl
  · rename_i h1 h2
    rw [sat_none]
    cases e : ρ[i]? with
    | none => exact Iff.rfl
    | some s =>
      cases s with
      | va d => exact absurd e (h2 d)
      | ow d => exact absurd e (h1 d)
      | no => exact Iff.rfl
@[simp] theorem wss_nil : WSs T k [] ρ S P ↔ P (.nx ρ S) := sat_some
/-- a statement, then the rest -/
def seqQ (T : Tab) (k : Nat) (r : List CS) (P : Out → Prop) : Out → Prop
  | .nx ρ S => WSs T k r ρ S P
  | o => P o
@[simp] theorem seqQ_nx {r : List CS} : seqQ T k r P (.nx ρ S) ↔ WSs T k r ρ S P := Iff.rfl
@[simp] theorem seqQ_rt {r : List CS} {o : Op} : seqQ T k r P (.rt o S) ↔ P (.rt o S) := Iff.rfl
@[simp] theorem seqQ_bk {r : List CS} : seqQ T k r P (.bk ρ S) ↔ P (.bk ρ S) := Iff.rfl
@[simp] theorem seqQ_ct {r : List CS} : seqQ T k r P (.ct ρ S) ↔ P (.ct ρ S) := Iff.rfl
@[simp] theorem seqQ_nil : seqQ T k [] P = P := funext fun o => by
  cases o with
  | nx ρ S => exact propext wss_nil
  | _ => rfl
@[simp] theorem wss_cons {s : CS} {r : List CS} : WSs T k (s :: r) ρ S P ↔ WS T k s ρ S (seqQ T k r P) := by
  unfold WSs WS
  simp only [evsts, evSs, sat_obd]
  refine ⟨fun h => sat_mono h fun o z => ?_, fun h => sat_mono h fun o z => ?_⟩
  all_goals
    cases o <;> first
      | exact z
      | exact (by have z := sat_some.mp z; exact z)
      | exact sat_some.mpr z
/-- the end of a def -/
def retQ (Q : Op → Sto → Prop) : Out → Prop
  | .rt x S => Q x S
  | .nx _ S => Q (.fz .non) S
  | _ => False
@[simp] theorem retQ_rt {Q : Op → Sto → Prop} {x : Op} : retQ Q (.rt x S) ↔ Q x S := Iff.rfl
@[simp] theorem retQ_nx {Q : Op → Sto → Prop} : retQ Q (.nx ρ S) ↔ Q (.fz .non) S := Iff.rfl
theorem wf_def {f : Str} {fn : Fn} {ds : List D} {Q : Op → Sto → Prop} (h : T.F f = some fn) (hl : ds.length = fn.ps) (w : WSs T k fn.body (env0 fn.n ds) S (retQ Q)) : WF T (k + 1) f ds S Q := by
  unfold WF
  show sat (obd (T.F f) _) _
  rw [h]
  show sat (runF T.G (callK T.G T.F T.M k) T.M fn ds S) _
  unfold runF
  rw [if_pos hl]
  refine sat_obd.mpr (sat_mono w fun o z => ?_)
  cases o with
  | rt x S => exact sat_some.mpr z
  | nx ρ S => exact sat_some.mpr z
  | bk _ _ => exact False.elim z
  | ct _ _ => exact False.elim z
/-! ### loops by invariants -/
theorem wfor_inv {tg : Tg} {s : List CS} {ds : List D} (I : List D → Env' → Sto → Prop) (h0 : I ds ρ S) (hs : ∀ d r ρ S, I (d :: r) ρ S → ob (bindT tg d ρ) fun ρ => WSs T k s ρ S (turnQ (I r) P)) (hd : ∀ ρ S, I [] ρ S → P (.nx ρ S)) : WFor T k tg s ds ρ S P := by
  induction ds generalizing ρ S with
  | nil => exact wfor_nil.mpr (hd _ _ h0)
  | cons d r ih =>
    refine wfor_cons.mpr (sat_mono (hs d r ρ S h0) fun ρ w => sat_mono w fun o z => ?_)
    cases o with
    | nx ρ S => exact ih z
    | ct ρ S => exact ih z
    | bk ρ S => exact z
    | rt o S => exact z
theorem wwh_inv {s : List CS} (I : Nat → Env' → Sto → Prop) {n m : Nat} (hm : m < n) (h0 : I m ρ S) (hs : ∀ m ρ S, I m ρ S → WC T k [c] ρ S fun v ρ S => if v = true then WSs T k s ρ S (turnQ (fun ρ S => ∃ m', m' < m ∧ I m' ρ S) P) else P (.nx ρ S)) : WWh T k c s n ρ S P := by
  induction n generalizing ρ S m with
  | zero => omega
  | succ n ih =>
    refine wwh_succ.mpr (sat_mono (hs m ρ S h0) fun r z => ?_)
    obtain ⟨v, ρ1, S1⟩ := r
    cases v with
    | false => exact z
    | true =>
      rw [if_pos rfl] at z ⊢
      refine sat_mono z fun o z => ?_
      cases o with
      | nx ρ S =>
        obtain ⟨m', h1, h2⟩ := z
        exact ih (by omega) h2
      | ct ρ S =>
        obtain ⟨m', h1, h2⟩ := z
        exact ih (by omega) h2
      | bk ρ S => exact z
      | rt o S => exact z
theorem wlc_inv {tg : Tg} {ds acc : List D} {Q : List D → Env' → Sto → Prop} (I : List D → List D → Env' → Sto → Prop) (h0 : I ds acc ρ S) (hs : ∀ d r acc ρ S, I (d :: r) acc ρ S → ob (bindT tg d ρ) fun ρ => WC T k es ρ S fun v ρ S =>
    if v = true then WE T k a ρ S fun x ρ S => dv x fun x => acc.length < sizeLine ∧ I r (acc ++ [x]) (wipeT tg.ixs ρ) S else I r acc (wipeT tg.ixs ρ) S) (hd : ∀ acc ρ S, I [] acc ρ S → Q acc ρ S) : WLc T k tg a es ds acc ρ S Q := by
  induction ds generalizing ρ S acc with
  | nil => exact wlc_nil.mpr (hd _ _ _ h0)
  | cons d r ih =>
    refine wlc_cons.mpr (sat_mono (hs d r acc ρ S h0) fun ρ w => sat_mono w fun q z => ?_)
    obtain ⟨v, ρ1, S1⟩ := q
    cases v with
    | false =>
      rw [if_neg Bool.false_ne_true] at z ⊢
      exact ih z
    | true =>
      rw [if_pos rfl] at z ⊢
      exact sat_mono z fun q z => sat_mono z fun x z => ⟨z.1, ih z.2⟩
end
end Sk

/-! Sk19: deals and draws. -/
namespace Sk
open PySem PySem.Spec
theorem fuel_big : 1000000 < fuel := by unfold fuel; decide
def dealD (mixed seed number : Int) (m : Nat) : D := .dct [(.str "mixed", .int mixed), (.str "seed", .int seed), (.str "number", .int number), (.str "left", .ref m)]
theorem dg_mixed {a b c : Int} {m : Nat} : subD (dealD a b c m) (.str "mixed") = some (.int a) := by rfl
theorem dg_seed {a b c : Int} {m : Nat} : subD (dealD a b c m) (.str "seed") = some (.int b) := by rfl
theorem dg_number {a b c : Int} {m : Nat} : subD (dealD a b c m) (.str "number") = some (.int c) := by rfl
theorem dg_left {a b c : Int} {m : Nat} : subD (dealD a b c m) (.str "left") = some (.ref m) := by rfl
theorem four_line : 4 < sizeLine := by decide
theorem dp_number {a b c x : Int} {m : Nat} {Q : D → Prop} : putC (.int x) (dealD a b c m) (.str "number") Q ↔ Q (dealD a b x m) := by
  unfold dealD
  rw [putC_dct]
  exact ⟨fun h => h.2, fun h => ⟨⟨rfl, four_line⟩, h⟩⟩
theorem dp_seed {a b c x : Int} {m : Nat} {Q : D → Prop} : putC (.int x) (dealD a b c m) (.str "seed") Q ↔ Q (dealD a x c m) := by
  unfold dealD
  rw [putC_dct]
  exact ⟨fun h => h.2, fun h => ⟨⟨rfl, four_line⟩, h⟩⟩
/-! contents of places -/
theorem cont_da {ρ : Env'} {S : Sto} {n : Nat} {d : D} (h : S[n]? = some (.da d)) : cont ρ S (.fz (.ref n)) = some d := by
  show (match S[n]? with
    | some (.da d) => some d
    | _ => none) = _
  rw [h]
theorem look_da {ρ : Env'} {S : Sto} {n : Nat} {d : D} (h : S[n]? = some (.da d)) : look ρ S (.fz (.ref n)) = some d := by
  unfold look
  rw [cont_da h]
theorem setC_da {ρ : Env'} {S : Sto} {n : Nat} {d x : D} (h : S[n]? = some (.da d)) : setC ρ S (.fz (.ref n)) x = some (ρ, S.set n (.da x)) := by
  show (match S[n]? with
    | some (.da _) => some (ρ, S.set n (.da x))
    | _ => none) = _
  rw [h]
@[simp] theorem cont_int {ρ : Env'} {S : Sto} {i : Int} : cont ρ S (.fz (.int i)) = some (.int i) := rfl
@[simp] theorem cont_str {ρ : Env'} {S : Sto} {i : Str} : cont ρ S (.fz (.str i)) = some (.str i) := rfl
@[simp] theorem cont_bl {ρ : Env'} {S : Sto} {i : Bool} : cont ρ S (.fz (.bl i)) = some (.bl i) := rfl
@[simp] theorem cont_non {ρ : Env'} {S : Sto} : cont ρ S (.fz .non) = some .non := rfl
@[simp] theorem cont_tup {ρ : Env'} {S : Sto} {i : List D} : cont ρ S (.fz (.tup i)) = some (.tup i) := rfl
@[simp] theorem cont_lst {ρ : Env'} {S : Sto} {i : List D} : cont ρ S (.fz (.lst i)) = some (.lst i) := rfl
@[simp] theorem cont_dct {ρ : Env'} {S : Sto} {i : List (D × D)} : cont ρ S (.fz (.dct i)) = some (.dct i) := rfl
@[simp] theorem cont_fr {ρ : Env'} {S : Sto} {d : D} : cont ρ S (.fr d) = some d := rfl
@[simp] theorem look_int {ρ : Env'} {S : Sto} {i : Int} : look ρ S (.fz (.int i)) = some (.int i) := rfl
@[simp] theorem look_str {ρ : Env'} {S : Sto} {i : Str} : look ρ S (.fz (.str i)) = some (.str i) := rfl
@[simp] theorem look_bl {ρ : Env'} {S : Sto} {i : Bool} : look ρ S (.fz (.bl i)) = some (.bl i) := rfl
@[simp] theorem look_non {ρ : Env'} {S : Sto} : look ρ S (.fz .non) = some .non := rfl
@[simp] theorem look_tup {ρ : Env'} {S : Sto} {i : List D} : look ρ S (.fz (.tup i)) = some (.tup i) := rfl
@[simp] theorem look_lst {ρ : Env'} {S : Sto} {i : List D} : look ρ S (.fz (.lst i)) = some (.lst i) := rfl
@[simp] theorem look_dct {ρ : Env'} {S : Sto} {i : List (D × D)} : look ρ S (.fz (.dct i)) = some (.dct i) := rfl
@[simp] theorem look_fr {ρ : Env'} {S : Sto} {d : D} : look ρ S (.fr d) = some d := rfl
theorem cont_ow {ρ : Env'} {S : Sto} {i : Nat} {d : D} (h : ρ[i]? = some (.ow d)) : cont ρ S (.sl i) = some d := by
  show (match ρ[i]? with
    | some (.ow d) => some d
    | _ => none) = _
  rw [h]
theorem look_ow {ρ : Env'} {S : Sto} {i : Nat} {d : D} (h : ρ[i]? = some (.ow d)) : look ρ S (.sl i) = some d := by
  unfold look
  rw [cont_ow h]
theorem setC_ow {ρ : Env'} {S : Sto} {i : Nat} {d x : D} (h : ρ[i]? = some (.ow d)) : setC ρ S (.sl i) x = some (ρ.set i (.ow x), S) := by
  show (match ρ[i]? with
    | some (.ow _) => some (ρ.set i (.ow x), S)
    | _ => none) = _
  rw [h]
/-! arithmetic -/
@[simp] theorem bop_add {i j : Int} : bopD .add (.int i) (.int j) = some (.fz (.int (i + j))) := rfl
@[simp] theorem bop_sub {i j : Int} : bopD .sub (.int i) (.int j) = some (.fz (.int (i - j))) := rfl
theorem bop_mulS {i j : Int} (h : -(2 ^ 64) < j ∧ j < 2 ^ 64) : bopD .mul (.int i) (.int j) = some (.fz (.int (i * j))) := if_pos (.inl (.inr h))
theorem bop_mulL {i j : Int} (h : -(2 ^ 64) < i ∧ i < 2 ^ 64) : bopD .mul (.int i) (.int j) = some (.fz (.int (i * j))) := if_pos (.inl (.inl h))
theorem bop_mod {i j : Int} (h : 0 < j) : bopD .mod (.int i) (.int j) = some (.fz (.int (i % j))) := if_pos h
theorem bop_fdiv {i j : Int} (h : 0 < j ∧ j.natAbs.log2 < 9000) : bopD .fdiv (.int i) (.int j) = some (.fz (.int (i / j))) := if_pos h
@[simp] theorem cmp_eqI {i j : Int} : cmpD .eq (.int i) (.int j) = some (decide (i = j)) := rfl
@[simp] theorem cmp_neI {i j : Int} : cmpD .ne (.int i) (.int j) = some (!decide (i = j)) := rfl
@[simp] theorem cmp_ltI {i j : Int} : cmpD .lt (.int i) (.int j) = some (decide (i < j)) := rfl
@[simp] theorem cmp_leI {i j : Int} : cmpD .le (.int i) (.int j) = some (decide (i ≤ j)) := rfl
@[simp] theorem cmp_gtI {i j : Int} : cmpD .gt (.int i) (.int j) = some (decide (j < i)) := rfl
@[simp] theorem cmp_geI {i j : Int} : cmpD .ge (.int i) (.int j) = some (decide (j ≤ i)) := rfl
@[simp] theorem len_lst {ds : List D} : bfD .len (.lst ds) = some (.fz (.int ds.length)) := rfl
@[simp] theorem len_tup {ds : List D} : bfD .len (.tup ds) = some (.fz (.int ds.length)) := rfl

/-! ### a deal: the dict at n, its list at m -/
structure DlV (S : Sto) (n m : Nat) (mixed seed number : Int) (left : List Int) : Prop where
  ne : n ≠ m
  hn : S[n]? = some (.da (dealD mixed seed number m))
  hm : S[m]? = some (.da (.lst (left.map .int)))
  s0 : 0 ≤ seed ∧ seed < 2147483647
  n0 : 0 ≤ number
  l0 : ∀ x ∈ left, 0 ≤ x
  ll : left.length ≤ 63
def Dl (S : Sto) (n m : Nat) : Prop := ∃ mixed seed number left, DlV S n m mixed seed number left
/-- nothing else has changed -/
def Dq (S S' : Sto) (n m : Nat) : Prop := S'.length = S.length ∧ ∀ j, j ≠ n → j ≠ m → S'[j]? = S[j]?
theorem Dq.refl {S : Sto} {n m : Nat} : Dq S S n m := ⟨rfl, fun _ _ _ => rfl⟩
theorem Dq.trans {S S' S2 : Sto} {n m : Nat} (a : Dq S S' n m) (b : Dq S' S2 n m) : Dq S S2 n m := ⟨b.1.trans a.1, fun j h1 h2 => (b.2 j h1 h2).trans (a.2 j h1 h2)⟩
theorem Dq.setN {S S' : Sto} {n m : Nat} {o : O} (a : Dq S S' n m) : Dq S (S'.set n o) n m := ⟨by rw [List.length_set]; exact a.1, fun j h1 h2 => by rw [List.getElem?_set_ne (Ne.symm h1)]; exact a.2 j h1 h2⟩
theorem Dq.setM {S S' : Sto} {n m : Nat} {o : O} (a : Dq S S' n m) : Dq S (S'.set m o) n m := ⟨by rw [List.length_set]; exact a.1, fun j h1 h2 => by rw [List.getElem?_set_ne (Ne.symm h2)]; exact a.2 j h1 h2⟩
theorem get_set {S : Sto} {n : Nat} {o o' : O} (h : S[n]? = some o) : (S.set n o')[n]? = some o' := List.getElem?_set_self (List.getElem?_eq_some_iff.mp h).1

def drawC : List CS := [
  .whl (.and (.cmp .eq (.sub (.var 0) (.str "number")) (.int 0)) (.and (.cmp .gt (.bf .len (.sub (.var 0) (.str "left"))) (.int 0)) (.cmp .eq (.sub (.var 0) (.str "mixed")) (.int 0))))
  [.setI (.var 0) (.str "number") (.mt .pop (.sub (.var 0) (.str "left")) [])],
  .asg 2 (.sub (.var 0) (.str "number")),
  .ife (.cmp .gt (.var 2) (.int 0))
  [.setI (.var 0) (.str "number") (.bop .fdiv (.var 2) (.var 1)), .ret (.bop .mod (.var 2) (.var 1))]
  [],
  .asg 3 (.bop .mod (.bop .add (.bop .mul (.sub (.var 0) (.str "seed")) (.int 48271)) (.int 7919)) (.int 2147483647)),
  .setI (.var 0) (.str "seed") (.bop .mod (.bop .add (.bop .mul (.var 3) (.int 40692)) (.int 104729)) (.int 2147483399)),
  .asg 4 (.bop .mod (.bop .mul (.sub (.var 0) (.str "seed")) (.sub (.var 0) (.str "seed"))) (.int 2147483563)),
  .ret (.bop .mod (.bop .add (.bop .mul (.bop .mod (.bop .mul (.var 3) (.var 3)) (.int 2147483629)) (.int 2147483563)) (.var 4)) (.var 1))]
theorem pop_ints {left : List Int} {x : Int} : mtD .pop (.lst ((left ++ [x]).map .int)) [] = some (.int x, some (.lst (left.map .int))) := by
  show ((left ++ [x]).map D.int).getLast?.map _ = _
  rw [List.map_append, List.map_singleton]
  simp
theorem draw_ok {T : Tab} {k : Nat} (hF : T.F "_law_draw" = some ⟨5, 2, drawC⟩) {S : Sto} {n m : Nat} {many : Int} {Q : Op → Sto → Prop} (hd : Dl S n m) (h1 : 0 < many) (h2 : many.natAbs.log2 < 9000)
    (q : ∀ v S', 0 ≤ v → v < many → Dl S' n m → Dq S S' n m → Q (.fz (.int v)) S') : WF T (k + 1) "_law_draw" [.ref n, .int many] S Q := by
  obtain ⟨mixed, seed, number, left, d⟩ := hd
  refine wf_def hF rfl ?_
  show WSs T k drawC [.va (.ref n), .va (.int many), .no, .no, .no] S (retQ Q)
  unfold drawC
  rw [wss_cons, ws_whl]
  refine wwh_inv (m := left.length) (fun j ρ S' => ρ = [.va (.ref n), .va (.int many), .no, .no, .no] ∧ ∃ number left, DlV S' n m mixed seed number left ∧ left.length = j ∧ Dq S S' n m) (by have := d.ll; have := fuel_big; omega) ⟨rfl, number, left, d, rfl, .refl⟩ ?_
  rintro j ρ S1 ⟨rfl, number, left, d, rfl, eq⟩
  have c0 := fun ρ => cont_da (ρ := ρ) d.hn
  have c1 := fun ρ => look_da (ρ := ρ) d.hm
  have c2 := fun ρ => cont_da (ρ := ρ) d.hm
  have after : WSs T k (drawC.drop 1) [.va (.ref n), .va (.int many), .no, .no, .no] S1 (retQ Q) := by
    show WSs T k [_, _, _, _, _, _] _ _ _
    simp only [wss_cons, ws_asg, we_sub, we_var, we_str, List.getElem?_cons_zero, slV_va, c0, ob_some, dv_fz, dg_number, seqQ_nx, List.set_cons_succ, List.set_cons_zero, ws_ife, we_cmp, List.getElem?_cons_succ, look_int, we_int, cmp_gtI, asB_bl]
    by_cases hn : 0 < number
    · rw [if_pos (decide_eq_true hn)]
      simp only [wss_cons, ws_setI, we_bop, we_var, List.getElem?_cons_zero, List.getElem?_cons_succ, slV_va, cont_int, ob_some, bop_fdiv ⟨h1, h2⟩, dv_fz, we_str, c0, dp_number, setC_da d.hn, seqQ_nx, ws_ret, bop_mod h1, retO_fz, seqQ_rt, retQ_rt]
      refine q _ _ (Int.emod_nonneg _ (by omega)) (Int.emod_lt_of_pos _ h1) ⟨mixed, seed, number / many, left, d.ne, get_set d.hn, ?_, d.s0, Int.ediv_nonneg d.n0 (by omega), d.l0, d.ll⟩ eq.setN
      rw [List.getElem?_set_ne d.ne]
      exact d.hm
    · rw [if_neg (by simpa using hn)]
      have hs1 : 0 ≤ (seed * 48271 + 7919) % 2147483647 ∧ (seed * 48271 + 7919) % 2147483647 < 2147483647 := ⟨Int.emod_nonneg _ (by decide), Int.emod_lt_of_pos _ (by decide)⟩
      generalize h3 : (seed * 48271 + 7919) % 2147483647 = one at hs1
      have hs2 : 0 ≤ (one * 40692 + 104729) % 2147483399 ∧ (one * 40692 + 104729) % 2147483399 < 2147483399 := ⟨Int.emod_nonneg _ (by decide), Int.emod_lt_of_pos _ (by decide)⟩
      generalize h4 : (one * 40692 + 104729) % 2147483399 = two at hs2
      have g0 := get_set (o' := O.da (dealD mixed two number m)) d.hn
      have c4 := fun ρ => cont_da (ρ := ρ) g0
      simp only [wss_nil, seqQ_nx, wss_cons, ws_asg, ws_setI, we_bop, we_sub, we_var, we_str, we_int, List.getElem?_cons_zero, List.getElem?_cons_succ, slV_va, c0, c4, ob_some, dv_fz, dg_seed, cont_int, bop_mulS (j := 48271) (by decide), bop_mulS (j := 40692) (by decide), bop_add,
        bop_mod (j := 2147483647) (by decide), bop_mod (j := 2147483399) (by decide), h3, h4, List.set_cons_succ, List.set_cons_zero, dp_seed, setC_da d.hn, bop_mulL (i := two) (j := two) (by omega), bop_mulL (i := one) (j := one) (by omega), bop_mod (j := 2147483563) (by decide),
        bop_mod (j := 2147483629) (by decide), bop_mulS (j := 2147483563) (by decide), bop_mod h1, ws_ret, retO_fz, seqQ_rt, retQ_rt]
      refine q _ _ (Int.emod_nonneg _ (by omega)) (Int.emod_lt_of_pos _ h1) ⟨mixed, two, number, left, d.ne, g0, ?_, by omega, d.n0, d.l0, d.ll⟩ eq.setN
      rw [List.getElem?_set_ne d.ne]
      exact d.hm
  simp only [wc_cons, wc_nil, we_and, we_cmp, we_sub, we_var, we_str, List.getElem?_cons_zero, slV_va, c0, ob_some, dv_fz, dg_number, look_int, we_int, cmp_eqI, asB_bl, we_bf, dg_left, c1, len_lst, cmp_gtI, dg_mixed]
  by_cases hn : number = 0
  · rw [if_pos (decide_eq_true hn)]
    rcases List.eq_nil_or_concat left with hl | ⟨init, x, hl⟩
    · subst hl
      rw [if_neg (by show ¬ decide ((0 : Int) < (([] : List D).length : Nat)) = true; decide), if_neg Bool.false_ne_true]
      exact after
    · rw [List.concat_eq_append] at hl
      subst hl
      rw [if_pos (decide_eq_true (by simp))]
      by_cases hm : mixed = 0
      · rw [if_pos (decide_eq_true hm), if_pos trivial]
        have ty : tyN (D.lst ((init ++ [x]).map D.int)) = tyN (D.lst ((init ++ [x]).map D.int)) := rfl
        have ne : m ≠ n := Ne.symm d.ne
        have g1 := get_set (o' := O.da (.lst (init.map D.int))) d.hm
        have g2 : (S1.set m (.da (.lst (init.map D.int))))[n]? = some (.da (dealD mixed seed number m)) := by
          rw [List.getElem?_set_ne ne]
          exact d.hn
        simp only [wss_cons, wss_nil, ws_setI, we_mt, wl_nil, we_sub, we_var, we_str, List.getElem?_cons_zero, slV_va, c0, c2, ob_some, dv_fz, dg_left, true_and, pop_ints, afterM_some, setC_da d.hm, cont_da g2, dp_number, setC_da g2, seqQ_nx, turnQ_nx]
        refine ⟨init.length, by simp, x, init, ⟨d.ne, get_set g2, ?_, d.s0, d.l0 x (by simp), fun y hy => d.l0 y (by simp [hy]), ?_⟩, rfl, eq.setM.setN⟩
        · rw [List.getElem?_set_ne d.ne]
          exact g1
        · have := d.ll
          rw [List.length_append] at this
          omega
      · rw [if_neg (by simpa using hm), if_neg Bool.false_ne_true]
        exact after
  · rw [if_neg (by simpa using hn), if_neg Bool.false_ne_true]
    exact after

/-! ### the deal itself -/
def dealC : List CS := [
  .asg 2 (.lc (.bf2 .max2 (.var 3) (.bop .sub (.int 0) (.var 3))) (.one 3) (.seq (.slc (.var 0) (some (.var 1)) (some (.int 63)))) []),
  .asg 4 (.bop .add (.int 7919) (.var 1)),
  .for_ (.one 3) (.seq (.var 2))
  [.asg 4 (.bop .mod (.bop .add (.bop .mul (.var 4) (.int 69621)) (.var 3)) (.int 2147483647))],
  .ret (.dis [.str "mixed", .bop .mod (.bf .sum (.slc (.var 0) none (some (.int 1)))) (.int 2), .str "seed", .var 4, .str "number", .int 0, .str "left", .al (.lrev (.var 2))])]
theorem cut_ints {ns : List Int} {lo hi : Option Int} : ∃ ms : List Int, cutD (ns.map .int) lo hi = ms.map .int ∧ ms.length ≤ ns.length := by
  unfold cutD
  rw [List.length_map]
  refine ⟨(ns.drop (HT.sIx ns.length 0 lo)).take (HT.sIx ns.length ns.length hi - HT.sIx ns.length 0 lo), by rw [List.map_take, List.map_drop], ?_⟩
  rw [List.length_take, List.length_drop]
  omega
theorem ints_of (ms : List Int) : intsD (ms.map .int) = some ms := by
  induction ms with
  | nil => rfl
  | cons m r ih =>
    show (intsD (r.map .int)).map (m :: ·) = _
    rw [ih]
    rfl
/-- each item by itself, the state as it is -/
theorem wlc_each {T : Tab} {k : Nat} {tg : Tg} {elt : CE} {cs : List CE} {ρ : Env'} {S : Sto} {Q : List D → Env' → Sto → Prop} (f : D → Option D) : ∀ {ds acc : List D}, acc.length + ds.length ≤ sizeLine →
    (∀ d ∈ ds, ob (bindT tg d ρ) fun ρ1 => WC T k cs ρ1 S fun v ρ2 S2 => if v = true then WE T k elt ρ2 S2 fun x ρ3 S3 => dv x fun x => f d = some x ∧ wipeT tg.ixs ρ3 = ρ ∧ S3 = S else f d = none ∧ wipeT tg.ixs ρ2 = ρ ∧ S2 = S) →
    Q (acc ++ ds.filterMap f) ρ S → WLc T k tg elt cs ds acc ρ S Q
  | [], acc, _, _, q => wlc_nil.mpr (by simpa using q)
  | d :: ds, acc, hl, h, q => by
    refine wlc_cons.mpr (sat_mono (h d List.mem_cons_self) fun ρ1 w => sat_mono w fun r z => ?_)
    obtain ⟨v, ρ2, S2⟩ := r
    rw [List.length_cons] at hl
    cases v with
    | false =>
      rw [if_neg Bool.false_ne_true] at z ⊢
      obtain ⟨z1, z2, rfl⟩ := z
      rw [z2]
      refine wlc_each f (by omega) (fun d hd => h d (List.mem_cons_of_mem _ hd)) ?_
      rw [List.filterMap_cons, z1] at q
      exact q
    | true =>
      rw [if_pos rfl] at z ⊢
      refine sat_mono z fun r z => sat_mono z fun x z => ⟨by omega, ?_⟩
      obtain ⟨o, ρ3, S3⟩ := r
      obtain ⟨z1, z2, z3⟩ := z
      dsimp only at z2 z3 ⊢
      subst z3
      rw [z2]
      refine wlc_each f (by rw [List.length_append, List.length_singleton]; omega) (fun d hd => h d (List.mem_cons_of_mem _ hd)) ?_
      rw [List.filterMap_cons, z1] at q
      rw [List.append_assoc]
      exact q
def abI (i : Int) : Int := if 0 - i > i then 0 - i else i
theorem abI_pos (i : Int) : 0 ≤ abI i := by
  unfold abI
  split <;> omega
def abD : D → Option D
  | .int i => some (.int (abI i))
  | _ => none
theorem abD_all (ms : List Int) : (ms.map D.int).filterMap abD = (ms.map abI).map .int := by
  induction ms with
  | nil => rfl
  | cons m r ih =>
    rw [List.map_cons, List.filterMap_cons]
    show D.int (abI m) :: (r.map D.int).filterMap abD = _
    rw [ih]
    rfl
theorem sum_lst {ms : List Int} : bfD .sum (.lst (ms.map .int)) = some (.fz (.int ms.sum)) := by
  show (intsD (ms.map .int)).map _ = _
  rw [ints_of]
  rfl
theorem seq_lst {ds : List D} : seqD (.lst ds) = some ds := rfl
theorem line63' : 63 ≤ sizeLine := by decide
theorem deal_ok {T : Tab} {k : Nat} (hF : T.F "_law_deal" = some ⟨5, 2, dealC⟩) {S : Sto} {ns : List Int} {start : Int} {Q : Op → Sto → Prop} (hl : ns.length ≤ 63) (h0 : 0 ≤ start ∧ start < 1000000)
    (q : ∀ (mixed seed : Int) (left : List Int), 0 ≤ seed ∧ seed < 2147483647 → (∀ x ∈ left, 0 ≤ x) → left.length ≤ 63 → Q (.fr (dealD mixed seed 0 S.length)) (S ++ [.da (.lst (left.map .int))])) : WF T (k + 1) "_law_deal" [.lst (ns.map .int), .int start] S Q := by
  refine wf_def hF rfl ?_
  show WSs T k dealC [.va (.lst (ns.map .int)), .va (.int start), .no, .no, .no] S (retQ Q)
  unfold dealC
  obtain ⟨ms, em, lm⟩ := cut_ints (ns := ns) (lo := some start) (hi := some 63)
  obtain ⟨os, eo, lo⟩ := cut_ints (ns := ns) (lo := none) (hi := some 1)
  have s1 : slcD (.lst (ns.map .int)) (some start) (some 63) = some (.fr (.lst (ms.map .int))) := by rw [← em]; rfl
  have s2 : slcD (.lst (ns.map .int)) none (some 1) = some (.fr (.lst (os.map .int))) := by rw [← eo]; rfl
  simp only [wss_cons, ws_asg, we_lc, wi_seq, we_slc, we_var, List.getElem?_cons_zero, List.getElem?_cons_succ, slV_va, wo_some, we_int, asI_int, cont_lst, ob_some, s1, dv_fr, seq_lst]
  refine ⟨rfl, ?_⟩
  show WLc T k (.one 3) _ [] (ms.map .int) [] [.va (.lst (ns.map .int)), .va (.int start), .no, .no, .no] S _
  refine wlc_each abD (by rw [List.length_map]; show 0 + ms.length ≤ sizeLine; have := line63'; omega) (fun d hd => ?_) ?_
  · obtain ⟨i, _, rfl⟩ := List.mem_map.mp hd
    show ob (some ([.va (.lst (ns.map .int)), .va (.int start), .no, .va (.int i), .no] : Env')) _
    simp only [ob_some, wc_nil, if_true, we_bf2, we_bop, we_var, we_int, List.getElem?_cons_zero, List.getElem?_cons_succ, slV_va, cont_int, bop_sub, look_int]
    refine ob_eq (a := .fz (.int (abI i))) rfl ?_
    rw [dv_fz]
    exact ⟨rfl, rfl, trivial⟩
  rw [abD_all, List.nil_append]
  generalize hc : ms.map abI = cs
  have hc0 : ∀ x ∈ cs, 0 ≤ x := fun x hx => by
    rw [← hc] at hx
    obtain ⟨i, _, rfl⟩ := List.mem_map.mp hx
    exact abI_pos i
  have hcl : cs.length ≤ 63 := by
    rw [← hc, List.length_map]
    omega
  show WSs T k _ [.va (.lst (ns.map .int)), .va (.int start), .va (.lst (cs.map .int)), .no, .no] S _
  simp only [wss_cons, ws_asg, we_bop, we_int, we_var, List.getElem?_cons_zero, List.getElem?_cons_succ, slV_va, cont_int, ob_some, bop_add, dv_fz, seqQ_nx, List.set_cons_succ, List.set_cons_zero, ws_for, wi_seq, seq_lst]
  refine wfor_inv (fun r ρ S' => S' = S ∧ (∃ rs : List Int, r = rs.map .int) ∧ ∃ s seed, ρ = [.va (.lst (ns.map .int)), .va (.int start), .va (.lst (cs.map .int)), s, .va (.int seed)] ∧ 0 ≤ seed ∧ seed < 2147483647) ⟨rfl, ⟨cs, rfl⟩, .no, 7919 + start, rfl, by omega, by omega⟩ ?_ ?_
  · rintro d r ρ S' ⟨rfl, ⟨rs, er⟩, s, seed, rfl, h1, h2⟩
    cases rs with
    | nil => cases er
    | cons x rs =>
      rw [List.map_cons] at er
      cases er
      show ob (some ([.va (.lst (ns.map .int)), .va (.int start), .va (.lst (cs.map .int)), .va (.int x), .va (.int seed)] : Env')) _
      simp only [ob_some, wss_cons, wss_nil, ws_asg, we_bop, we_int, we_var, List.getElem?_cons_zero, List.getElem?_cons_succ, slV_va, cont_int, bop_add, bop_mulS (j := 69621) (by decide), bop_mod (j := 2147483647) (by decide), dv_fz, seqQ_nx, List.set_cons_succ, List.set_cons_zero, turnQ_nx]
      exact ⟨trivial, ⟨rs, rfl⟩, _, _, rfl, Int.emod_nonneg _ (by decide), Int.emod_lt_of_pos _ (by decide)⟩
  · rintro ρ S' ⟨rfl, _, s, seed, rfl, h1, h2⟩
    simp only [seqQ_nx, wss_cons, wss_nil, ws_ret, we_dis, wl_cons, wl_nil, we_str, dv_fz, we_bop, we_bf, we_slc, we_var, List.getElem?_cons_zero, List.getElem?_cons_succ, slV_va, wo_none, wo_some, we_int, asI_int, cont_lst, ob_some, s2, look_fr, sum_lst, cont_int, bop_mod (j := 2) (by decide), we_al, we_lrev, look_lst, asL_lst, asFr_fr]
    refine ob_eq (a := [(.str "mixed", .int (os.sum % 2)), (.str "seed", .int seed), (.str "number", .int 0), (.str "left", .ref S'.length)]) rfl ⟨⟨(by decide : 4 ≤ 15), rfl⟩, ?_⟩
    show Q (.fr (dealD (os.sum % 2) seed 0 S'.length)) (S' ++ [.da (.lst (cs.map .int).reverse)])
    rw [← List.map_reverse]
    exact q _ seed cs.reverse ⟨h1, h2⟩ (fun x hx => hc0 x (List.mem_reverse.mp hx)) (by rw [List.length_reverse]; exact hcl)
end Sk

/-! Sk20: texts by their signs; names. -/
namespace Sk
open PySem PySem.Spec
open L2 (ixN atI)

/-! ### texts by their signs -/
def st (w : List Nat) : Str := ⟨w.toArray⟩
theorem st_len (w : List Nat) : (st w).length = w.length := List.size_toArray
theorem st_app (a b : List Nat) : st a ++ st b = st (a ++ b) := Str.ext' (by show a.toArray ++ b.toArray = (a ++ b).toArray; simp)
theorem st_list (w : List Nat) : (st w).cps.toList = w := rfl
theorem st_of (z : Str) : z = st z.cps.toList := Str.ext' (by show z.cps = z.cps.toList.toArray; simp)
theorem st_inj {a b : List Nat} (h : st a = st b) : a = b := by
  have := congrArg (fun z : Str => z.cps.toList) h
  exact this
theorem line1m : 1000 ≤ sizeLine := by decide
theorem atI_get {α : Type} {xs : List α} {i : Int} (h0 : 0 ≤ i) (h1 : i < xs.length) : ∃ h : i.toNat < xs.length, atI xs i = some xs[i.toNat] := by
  have h : i.toNat < xs.length := by omega
  refine ⟨h, ?_⟩
  unfold atI ixN
  rw [if_pos h0, if_pos h1]
  exact List.getElem?_eq_getElem h
theorem sub_st {w : List Nat} {i : Int} (hz : w.length ≤ 1000) (h0 : 0 ≤ i) (h1 : i < w.length) : ∃ h : i.toNat < w.length, subD (.str (st w)) (.int i) = some (.str (st [w[i.toNat]])) := by
  obtain ⟨h, e⟩ := atI_get h0 h1
  refine ⟨h, ?_⟩
  show (if (st w).length ≤ sizeLine then (atI (st w).cps.toList i).map fun c => D.str ⟨#[c]⟩ else none) = _
  rw [if_pos (by rw [st_len]; have := line1m; omega), st_list, e]
  rfl
theorem slc_take {w : List Nat} {p : Int} (hz : w.length ≤ 1000) (h0 : 0 ≤ p) : slcD (.str (st w)) none (some p) = some (.fz (.str (st (w.take p.toNat)))) := by
  obtain ⟨q, rfl⟩ : ∃ q : Nat, p = q := ⟨p.toNat, by omega⟩
  show (if (st w).length ≤ sizeLine then some (Op.fz (.str (L2.cutS (st w) none (some (q : Int))))) else none) = _
  rw [if_pos (by rw [st_len]; have := line1m; omega)]
  have : L2.cutS (st w) none (some (q : Int)) = st (w.take q) := by
    unfold L2.cutS
    rw [HT.sIx_nat, HT.sIx_none, st_len, st_list]
    refine Str.ext' ?_
    show ((w.drop 0).take (min q w.length - 0)).toArray = (w.take q).toArray
    rw [List.drop_zero, Nat.sub_zero]
    by_cases h : q ≤ w.length
    · rw [Nat.min_eq_left h]
    · rw [Nat.min_eq_right (by omega), List.take_length, List.take_of_length_le (by omega)]
  rw [this, Int.toNat_natCast]
theorem slc_drop {w : List Nat} {p : Int} (hz : w.length ≤ 1000) (h0 : 0 ≤ p) : slcD (.str (st w)) (some p) none = some (.fz (.str (st (w.drop p.toNat)))) := by
  obtain ⟨q, rfl⟩ : ∃ q : Nat, p = q := ⟨p.toNat, by omega⟩
  show (if (st w).length ≤ sizeLine then some (Op.fz (.str (L2.cutS (st w) (some (q : Int)) none))) else none) = _
  rw [if_pos (by rw [st_len]; have := line1m; omega)]
  have : L2.cutS (st w) (some (q : Int)) none = st (w.drop q) := by
    unfold L2.cutS
    rw [HT.sIx_nat, HT.sIx_none, st_len, st_list]
    refine Str.ext' ?_
    show ((w.drop (min q w.length)).take (w.length - min q w.length)).toArray = (w.drop q).toArray
    by_cases h : q ≤ w.length
    · rw [Nat.min_eq_left h, List.take_of_length_le (by simp)]
    · rw [Nat.min_eq_right (by omega), List.drop_length, List.drop_of_length_le (by omega)]
      simp
  rw [this, Int.toNat_natCast]
theorem cat_st {a b : List Nat} (h : a.length + b.length ≤ 1000) : bopD .add (.str (st a)) (.str (st b)) = some (.fz (.str (st (a ++ b)))) := by
  show (if (st a).length + (st b).length ≤ sizeLine then some (Op.fz (.str (st a ++ st b))) else none) = _
  rw [if_pos (by rw [st_len, st_len]; have := line1m; omega), st_app]
def strD (w : List Nat) : D := .str (st w)
theorem strs_of (ws : List (List Nat)) : strsD (ws.map strD) = some (ws.map st) := by
  induction ws with
  | nil => rfl
  | cons w r ih =>
    show (strsD (r.map strD)).map (st w :: ·) = _
    rw [ih]
    rfl
theorem join_st : ∀ ws : List (List Nat), Str.join (st []) (ws.map st) = st ws.flatten
  | [] => rfl
  | [w] => by simp [Str.join]
  | w :: v :: r => by
    have ih := join_st (v :: r)
    rw [List.map_cons, List.map_cons]
    show st w ++ st [] ++ Str.join (st []) (st v :: r.map st) = _
    rw [List.map_cons] at ih
    rw [ih, st_app, st_app, List.append_nil, ← List.flatten_cons]
theorem in_strs {w : List Nat} {ws : List (List Nat)} : pyIn (.str (st w)) (ws.map strD) = some (decide (w ∈ ws)) := by
  have fl : ∀ ws : List (List Nat), (ws.map strD).all flatD = true := fun ws => by
    induction ws with
    | nil => rfl
    | cons v r ih => rw [List.map_cons, List.all_cons, ih]; rfl
  have an : ∀ ws : List (List Nat), ((ws.map strD).any fun y => feq y (.str (st w))) = decide (w ∈ ws) := fun ws => by
    induction ws with
    | nil => rfl
    | cons v r ih =>
      rw [List.map_cons, List.any_cons, ih]
      show ((st v == st w) || decide (w ∈ r)) = decide (w ∈ v :: r)
      by_cases h : v = w
      · subst h
        simp
      · have h2 : (st v == st w) = false := by
          rw [beq_eq_false_iff_ne]
          exact fun z => h (st_inj z)
        rw [h2, Bool.false_or]
        simp [Ne.symm h]
  unfold pyIn memD
  rw [fl ws, an ws]
  rfl
def lettersL : List Nat := (List.range 26).map (· + 97)
theorem letters_st : ("abcdefghijklmnopqrstuvwxyz" : Str) = st lettersL := by decide +kernel
theorem lettersL_get {i : Nat} (h : i < 26) : ∃ h' : i < lettersL.length, lettersL[i] = i + 97 := ⟨by simpa [lettersL] using h, by simp [lettersL]⟩
theorem let_at {i : Int} (h0 : 0 ≤ i) (h1 : i < 26) : subD (.str (st lettersL)) (.int i) = some (.str (st [i.toNat + 97])) := by
  obtain ⟨h, e⟩ := sub_st (w := lettersL) (i := i) (by decide) h0 (by show i < 26; exact h1)
  rw [e]
  have : lettersL[i.toNat] = i.toNat + 97 := by simp [lettersL]
  rw [this]
theorem let_ixs : ∀ i : Fin 26, Txt.index0 (st lettersL) (st [i.val + 97]) = some i.val := by decide +kernel
theorem let_ix {c : Nat} (h0 : 97 ≤ c) (h1 : c < 123) : mtD .index (.str (st lettersL)) [.str (st [c])] = some (.int ((c - 97 : Nat) : Int), none) := by
  have := let_ixs ⟨c - 97, by omega⟩
  have e : c - 97 + 97 = c := by omega
  dsimp only at this
  rw [e] at this
  show (Txt.index0 (st lettersL) (st [c])).map (fun k => (D.int (k : Nat), (none : Option D))) = _
  rw [this]
  rfl
end Sk

/-! Sk21: names. -/
namespace Sk
open PySem PySem.Spec
open L2 (ixN atI)

theorem nodup_le {α : Type} [DecidableEq α] : ∀ {l1 l2 : List α}, l1.Nodup → (∀ x ∈ l1, x ∈ l2) → l1.length ≤ l2.length
  | [], _, _, _ => Nat.zero_le _
  | a :: r, l2, h, s => by
    rw [List.nodup_cons] at h
    have ha := s a List.mem_cons_self
    have ih := nodup_le (l1 := r) (l2 := l2.erase a) h.2 fun x hx => (List.mem_erase_of_ne (fun z : x = a => h.1 (by rw [← z]; exact hx))).mpr (s x (List.mem_cons_of_mem _ hx))
    rw [List.length_erase_of_mem ha] at ih
    have := List.length_pos_of_mem ha
    rw [List.length_cons]
    omega
def takenL : List (List Nat) := [[105, 110], [102, 114, 111, 109], [116, 111], [101, 110, 100]]
theorem taken_eq : ([.str "in", .str "from", .str "to", .str "end"] : List D) = takenL.map strD := by kernel_rfl
def NmOk (w : List Nat) : Prop := (1 ≤ w.length ∧ w.length ≤ 8) ∧ ∀ c ∈ w, 97 ≤ c ∧ c < 123
structure NmsOk (ws : List (List Nat)) : Prop where
  ok : ∀ w ∈ ws, NmOk w
  nd : ws.Nodup
  nt : ∀ w ∈ ws, w ∉ takenL
def cyc (i0 : Nat) (t : List Nat) (j : Nat) : List Nat := ((i0 + j) % 26 + 97) :: t
theorem cyc_inj {i0 : Nat} {t : List Nat} {i j : Nat} (hi : i < 26) (hj : j < 26) (h : cyc i0 t i = cyc i0 t j) : i = j := by
  unfold cyc at h
  injection h with h _
  omega
theorem cyc_free {i0 : Nat} {t : List Nat} {L : List (List Nat)} {j : Nat} (hj : j < 26) (h : ∀ i, i ≤ j → cyc i0 t i ∈ L) : j + 1 ≤ L.length := by
  have := nodup_le (l1 := (List.range (j + 1)).map (cyc i0 t)) (l2 := L) ?_ fun x hx => by
    obtain ⟨i, hi, rfl⟩ := List.mem_map.mp hx
    exact h i (by have := List.mem_range.mp hi; omega)
  · simpa using this
  · refine List.Pairwise.map _ (R := fun a b => a < b ∧ b < 26) (fun a b hab z => ?_) ?_
    · have := cyc_inj (by omega) hab.2 z
      omega
    · have : (List.range (j + 1)).Pairwise (· < ·) := List.pairwise_lt_range
      refine List.Pairwise.imp_of_mem ?_ this
      intro a b ha hb hab
      have := List.mem_range.mp hb
      exact ⟨hab, by omega⟩

def namesC : List CS := [
  .asg 2 (.str "abcdefghijklmnopqrstuvwxyz"),
  .asgO 3 (.lst []),
  .for_ (.one 4) (.rng (.var 1))
  [.asg 5 (.mt .join (.str "") [.lc (.sub (.var 2) (.call "_law_draw" [.var 0, .int 26])) (.one 6) (.rng (.bop .add (.int 1) (.call "_law_draw" [.var 0, .int 8]))) []]), .ife (.and (.cmp .gt (.var 4) (.int 0)) (.cmp .eq (.call "_law_draw" [.var 0, .int 2]) (.int 0)))
  [.asg 7 (.call "_law_draw" [.var 0, .bf .len (.sub (.rd 3) (.neg (.int 1)))]), .asg 5 (.bop .add (.bop .add (.slc (.sub (.rd 3) (.neg (.int 1))) none (some (.var 7))) (.sub (.var 5) (.int 0))) (.slc (.sub (.rd 3) (.neg (.int 1))) (some (.bop .add (.var 7) (.int 1))) none))]
  [], .whl (.orr (.cmp .inn (.var 5) (.rd 3)) (.cmp .inn (.var 5) (.lst [.str "in", .str "from", .str "to", .str "end"])))
  [.asg 5 (.bop .add (.sub (.var 2) (.bop .mod (.bop .add (.mt .index (.var 2) [.sub (.var 5) (.int 0)]) (.int 1)) (.int 26))) (.slc (.var 5) (some (.int 1)) none))], .xpr (.mt .append (.rd 3) [.var 5])],
  .ret (.mv 3)]
theorem rng_ok {n : Int} (h : n < 2 ^ 62) (h0 : 0 ≤ n) : rngD 0 n = some ((List.range n.toNat).map fun (k : Nat) => .int (0 + k)) := by
  unfold rngD
  rw [if_pos ⟨⟨by decide, by decide⟩, ⟨by omega, h⟩⟩, Int.sub_zero]
theorem join_D {ws : List (List Nat)} (hs : (ws.map List.length).sum ≤ 10000) : mtD .join (.str "") [.lst (ws.map strD)] = some (.str (st ws.flatten), none) := by
  have e0 : ("" : Str) = st [] := by decide +kernel
  have e1 : ((ws.map st).map (·.length)).sum + (ws.map st).length * (st []).length ≤ 16777216 := by
    rw [List.map_map, st_len]
    have : ((fun z : Str => z.length) ∘ st) = List.length := funext fun w => st_len w
    rw [this]
    simp only [List.length_nil, Nat.mul_zero]
    omega
  show (match strsD (ws.map strD) with
    | some ss => if ((ss : List Str).map (fun z : Str => z.length)).sum + ss.length * ("" : Str).length ≤ 16777216 then some (D.str (Str.join "" ss), (none : Option D)) else none
    | none => none) = _
  rw [strs_of, e0]
  dsimp only
  rw [if_pos e1, join_st]
section
variable {T : Tab} {k : Nat} (hD : T.F "_law_draw" = some ⟨5, 2, drawC⟩)
include hD
/-- ''.join([letters[..] for ..]) -/
theorem word_ok {S : Sto} {n m : Nat} {a3 a4 a5 a7 : Sl} {many : D} {Q : Op → Env' → Sto → Prop} (hd : Dl S n m)
    (q : ∀ w S', NmOk w → Dl S' n m → Dq S S' n m → Q (.fz (strD w)) [.va (.ref n), .va many, .va (.str (st lettersL)), a3, a4, a5, .no, a7] S') :
    WE T (k + 1) (.mt .join (.str "") [.lc (.sub (.var 2) (.call "_law_draw" [.var 0, .int 26])) (.one 6) (.rng (.bop .add (.int 1) (.call "_law_draw" [.var 0, .int 8]))) []]) [.va (.ref n), .va many, .va (.str (st lettersL)), a3, a4, a5, .no, a7] S Q := by
  simp only [we_mt, we_str, cont_str, ob_some, wl_cons, wl_nil, we_lc, wi_rng, we_bop, we_int, we_call, we_var, List.getElem?_cons_zero, slV_va, dv_fz]
  refine draw_ok hD hd (by decide) (by decide) fun len S1 l0 l1 d1 e1 => ?_
  simp only [cont_int, ob_some, bop_add, asI_int, rng_ok (n := 1 + len) (by omega) (by omega)]
  refine ⟨rfl, ?_⟩
  show WLc T (k + 1) (.one 6) _ [] _ [] [.va (.ref n), .va many, .va (.str (st lettersL)), a3, a4, a5, .no, a7] S1 _
  refine wlc_inv (fun r acc ρ S' => ρ = [.va (.ref n), .va many, .va (.str (st lettersL)), a3, a4, a5, .no, a7] ∧ (∃ cs : List Nat, acc = cs.map (fun c => strD [c]) ∧ (∀ c ∈ cs, 97 ≤ c ∧ c < 123) ∧ cs.length + r.length = (1 + len).toNat) ∧ Dl S' n m ∧ Dq S1 S' n m) ⟨rfl, ⟨[], rfl, by simp, by simp⟩, d1, .refl⟩ ?_ ?_
  · rintro d r acc ρ S' ⟨rfl, ⟨cs, rfl, hc, hl⟩, hd', eq⟩
    rw [List.length_cons] at hl
    show ob (some ([.va (.ref n), .va many, .va (.str (st lettersL)), a3, a4, a5, .va d, a7] : Env')) _
    simp only [ob_some, wc_nil, if_true, we_sub, we_var, List.getElem?_cons_zero, List.getElem?_cons_succ, slV_va, we_call, wl_cons, wl_nil, we_int, dv_fz]
    refine draw_ok hD hd' (by decide) (by decide) fun v S2 v0 v1 d2 e2 => ?_
    simp only [cont_str, ob_some, dv_fz, let_at v0 v1]
    refine ⟨by rw [List.length_map]; have := line1m; omega, rfl, ⟨cs ++ [v.toNat + 97], by rw [List.map_append]; rfl, fun c hcc => ?_, by rw [List.length_append, List.length_singleton]; omega⟩, d2, eq.trans e2⟩
    rcases List.mem_append.mp hcc with z | z
    · exact hc c z
    · rw [List.mem_singleton.mp z]
      omega
  · rintro acc ρ S' ⟨rfl, ⟨cs, rfl, hc, hl⟩, hd', eq⟩
    have em : cs.map (fun c => strD [c]) = (cs.map fun c => [c]).map strD := by rw [List.map_map]; rfl
    have hl' : cs.length = (1 + len).toNat := by simpa using hl
    have hj := join_D (ws := cs.map fun c => [c]) (by
      have : ∀ l : List Nat, ((l.map fun c => [c]).map List.length).sum = l.length := fun l => by
        induction l with
        | nil => rfl
        | cons c r ih => simp only [List.map_cons, List.sum_cons, ih, List.length_cons, List.length_nil]; omega
      rw [this]
      omega)
    have ef : (cs.map fun c => [c]).flatten = cs := by
      clear hj em hl hl' hc
      induction cs with
      | nil => rfl
      | cons c r ih => rw [List.map_cons, List.flatten_cons, ih]; rfl
    rw [ef] at hj
    rw [dv_fr, em]
    refine ⟨trivial, ?_⟩
    rw [hj, ob_some, afterM_none]
    exact q cs S' ⟨⟨by omega, by omega⟩, hc⟩ hd' (e1.trans eq)
end
end Sk

/-! Sk22: names, all of them. -/
namespace Sk
open PySem PySem.Spec
open L2 (ixN atI)
theorem log_small {i : Int} (h : i.natAbs ≤ 1000000) : i.natAbs.log2 < 9000 := by
  by_cases z : i.natAbs = 0
  · rw [z]; decide
  · refine (Nat.log2_lt z).mpr (Nat.lt_of_le_of_lt h ?_)
    exact Nat.lt_of_lt_of_le (show 1000000 < 2 ^ 20 by decide) (Nat.pow_le_pow_right (by decide) (by decide))
theorem sub_last {ws : List (List Nat)} (h : ws ≠ []) : subD (.lst (ws.map strD)) (.int (-1)) = some (strD (ws.getLast h)) := by
  show atI (ws.map strD) (-1) = _
  have hp : 0 < ws.length := List.length_pos_iff.mpr h
  unfold atI ixN
  rw [if_neg (by decide), if_pos (by rw [List.length_map]; omega), List.length_map]
  have e : ((-1 : Int) + (ws.length : Int)).toNat = ws.length - 1 := by omega
  show (ws.map strD)[((-1 : Int) + (ws.length : Int)).toNat]? = _
  rw [e, List.getElem?_map, List.getElem?_eq_getElem (by omega), List.getLast_eq_getElem]
  rfl
theorem len_st' {w : List Nat} (h : w.length ≤ 1000) : bfD .len (strD w) = some (.fz (.int (w.length : Nat))) := by
  have e : lenD (strD w) = some w.length := by
    show (if (st w).length ≤ sizeLine then some (st w).length else none) = _
    rw [if_pos (by rw [st_len]; have := line1m; omega), st_len]
  simp only [bfD, e]
  rfl
theorem cmp_in_lst {w : List Nat} {ws : List (List Nat)} : cmpD .inn (strD w) (.lst (ws.map strD)) = some (decide (w ∈ ws)) := in_strs
section
variable {T : Tab} {k : Nat} (hD : T.F "_law_draw" = some ⟨5, 2, drawC⟩)
/-- the loop that leads to a free name -/
theorem free_ok {S : Sto} {a0 a1 a4 a7 : Sl} {ws : List (List Nat)} {w : List Nat} {P : Out → Prop} (hw : NmOk w) (hl : ws.length ≤ 20)
    (q : ∀ w, NmOk w → w ∉ ws → w ∉ takenL → P (.nx [a0, a1, .va (.str (st lettersL)), .ow (.lst (ws.map strD)), a4, .va (strD w), .no, a7] S)) :
    WS T k (.whl (.orr (.cmp .inn (.var 5) (.rd 3)) (.cmp .inn (.var 5) (.lst [.str "in", .str "from", .str "to", .str "end"])))
      [.asg 5 (.bop .add (.sub (.var 2) (.bop .mod (.bop .add (.mt .index (.var 2) [.sub (.var 5) (.int 0)]) (.int 1)) (.int 26))) (.slc (.var 5) (some (.int 1)) none))]) [a0, a1, .va (.str (st lettersL)), .ow (.lst (ws.map strD)), a4, .va (strD w), .no, a7] S P := by
  obtain ⟨⟨h1, h8⟩, hc⟩ := hw
  cases w with
  | nil => simp at h1
  | cons c0 t =>
    have hc0 := hc c0 List.mem_cons_self
    have e0 : c0 :: t = cyc (c0 - 97) t 0 := by
      unfold cyc
      congr 1
      omega
    have ok : ∀ j, NmOk (cyc (c0 - 97) t j) := fun j => ⟨⟨by simp [cyc], h8⟩, fun c hcc => by
      rcases List.mem_cons.mp hcc with z | z
      · rw [z]; omega
      · exact hc c (List.mem_cons_of_mem _ z)⟩
    have L4 : takenL.length = 4 := rfl
    rw [ws_whl]
    refine wwh_inv (m := 30) (fun m ρ S' => S' = S ∧ ∃ j, j < 26 ∧ m + j = 30 ∧ ρ = [a0, a1, .va (.str (st lettersL)), .ow (.lst (ws.map strD)), a4, .va (strD (cyc (c0 - 97) t j)), .no, a7] ∧ ∀ i, i < j → cyc (c0 - 97) t i ∈ ws ++ takenL) (by have := fuel_big; omega) ⟨rfl, 0, by decide, rfl, by rw [← e0], fun i hi => by omega⟩ ?_
    rintro m ρ S' ⟨rfl, j, hj, hm, rfl, hin⟩
    have next : cyc (c0 - 97) t j ∈ ws ++ takenL → WSs T k [.asg 5 (.bop .add (.sub (.var 2) (.bop .mod (.bop .add (.mt .index (.var 2) [.sub (.var 5) (.int 0)]) (.int 1)) (.int 26))) (.slc (.var 5) (some (.int 1)) none))]
        [a0, a1, .va (.str (st lettersL)), .ow (.lst (ws.map strD)), a4, .va (strD (cyc (c0 - 97) t j)), .no, a7] S' (turnQ (fun ρ S'' => ∃ m', m' < m ∧ (S'' = S' ∧ ∃ j, j < 26 ∧ m' + j = 30 ∧ ρ = [a0, a1, .va (.str (st lettersL)), .ow (.lst (ws.map strD)), a4, .va (strD (cyc (c0 - 97) t j)), .no, a7] ∧ ∀ i, i < j → cyc (c0 - 97) t i ∈ ws ++ takenL)) P) := fun hmem => by
      have hall : ∀ i, i ≤ j → cyc (c0 - 97) t i ∈ ws ++ takenL := fun i hi => by
        by_cases z : i = j
        · rw [z]; exact hmem
        · exact hin i (by omega)
      have hfree := cyc_free hj hall
      rw [List.length_append, L4] at hfree
      have hz : (cyc (c0 - 97) t j).length ≤ 1000 := by have := (ok j).1.2; omega
      obtain ⟨g, eg⟩ := sub_st (w := cyc (c0 - 97) t j) (i := 0) hz (by decide) (by show (0 : Int) < ((_ :: t : List Nat).length : Nat); simp)
      have eg : subD (strD (cyc (c0 - 97) t j)) (.int 0) = some (.str (st [(c0 - 97 + j) % 26 + 97])) := eg
      have ix := let_ix (c := (c0 - 97 + j) % 26 + 97) (by omega) (by omega)
      have ev : (((c0 - 97 + j) % 26 + 97 - 97 : Nat) : Int) + 1 = (((c0 - 97 + j) % 26 + 1 : Nat) : Int) := by omega
      have em : ((((c0 - 97 + j) % 26 + 1 : Nat) : Int)) % 26 = (((c0 - 97 + (j + 1)) % 26 : Nat) : Int) := by omega
      have la := let_at (i := (((c0 - 97 + (j + 1)) % 26 : Nat) : Int)) (by omega) (by omega)
      rw [Int.toNat_natCast] at la
      have sl : slcD (strD (cyc (c0 - 97) t j)) (some 1) none = some (.fz (.str (st t))) := slc_drop (p := 1) hz (by decide)
      have ct : cont [a0, a1, .va (.str (st lettersL)), .ow (.lst (ws.map strD)), a4, .va (strD (cyc (c0 - 97) t j)), .no, a7] S' (.fz (strD (cyc (c0 - 97) t j))) = some (strD (cyc (c0 - 97) t j)) := rfl
      have ca : bopD .add (.str (st [(c0 - 97 + (j + 1)) % 26 + 97])) (.str (st t)) = some (.fz (.str (st ([(c0 - 97 + (j + 1)) % 26 + 97] ++ t)))) := cat_st (by have : t.length + 1 ≤ 8 := h8; simp; omega)
      simp only [wss_cons, seqQ_nil, ws_asg, we_bop, we_sub, we_mt, wl_cons, wl_nil, we_slc, wo_some, wo_none, we_int, asI_int, we_var, List.getElem?_cons_zero, List.getElem?_cons_succ, slV_va, cont_str, ob_some, ct, dv_fz, eg, ix, afterM_none, true_and, cont_int, bop_add, ev, bop_mod (j := 26) (by decide), em, la, sl, ca, turnQ_nx, List.set_cons_succ, List.set_cons_zero]
      exact ⟨m - 1, by omega, j + 1, by omega, by omega, rfl, fun i hi => hall i (by omega)⟩
    have lk : ∀ ρ S, look ρ S (.fz (strD (cyc (c0 - 97) t j))) = some (strD (cyc (c0 - 97) t j)) := fun _ _ => rfl
    have lo : look [a0, a1, .va (.str (st lettersL)), .ow (.lst (ws.map strD)), a4, .va (strD (cyc (c0 - 97) t j)), .no, a7] S' (.sl 3) = some (.lst (ws.map strD)) := look_ow rfl
    have tk : cmpD .inn (strD (cyc (c0 - 97) t j)) (.lst [.str "in", .str "from", .str "to", .str "end"]) = some (decide (cyc (c0 - 97) t j ∈ takenL)) := by
      rw [taken_eq]
      exact cmp_in_lst
    simp only [wc_cons, wc_nil, we_orr, we_cmp, we_var, we_rd, List.getElem?_cons_zero, List.getElem?_cons_succ, slV_va, slR_ow, lk, lo, ob_some, cmp_in_lst, asB_bl, we_lst, wl_cons, wl_nil, we_str, dv_fz, look_fr, tk]
    by_cases c1 : cyc (c0 - 97) t j ∈ ws
    · rw [if_pos (decide_eq_true c1)]
      try rw [if_pos trivial]
      exact next (List.mem_append_left _ c1)
    · rw [if_neg (by simpa using c1)]
      refine ⟨by show 4 ≤ _; decide, ?_⟩
      by_cases c2 : cyc (c0 - 97) t j ∈ takenL
      · rw [if_pos (decide_eq_true c2)]
        try rw [if_pos trivial]
        exact next (List.mem_append_right _ c2)
      · rw [if_neg (by simpa using c2)]
        try rw [if_neg Bool.false_ne_true]
        exact q _ (ok j) c1 c2
end
end Sk

/-! Sk23: _law_names. -/
namespace Sk
open PySem PySem.Spec
open L2 (ixN atI)
section
variable {T : Tab} {k : Nat} (hD : T.F "_law_draw" = some ⟨5, 2, drawC⟩)
include hD
theorem names_ok (hF : T.F "_law_names" = some ⟨8, 2, namesC⟩) {S : Sto} {n m : Nat} {many : Int} {Q : Op → Sto → Prop} (hd : Dl S n m) (h0 : 0 ≤ many) (h20 : many ≤ 20)
    (q : ∀ (ws : List (List Nat)) S', ws.length = many.toNat → NmsOk ws → Dl S' n m → Dq S S' n m → Q (.fr (.lst (ws.map strD))) S') : WF T (k + 2) "_law_names" [.ref n, .int many] S Q := by
  refine wf_def hF rfl ?_
  show WSs T (k + 1) namesC [.va (.ref n), .va (.int many), .no, .no, .no, .no, .no, .no] S (retQ Q)
  unfold namesC
  simp only [wss_cons, seqQ_nil, ws_asg, we_str, dv_fz, seqQ_nx, List.set_cons_succ, List.set_cons_zero, ws_asgO, we_lst, wl_nil, asFr_fr, letters_st, ws_for, wi_rng, we_var, List.getElem?_cons_zero, List.getElem?_cons_succ, slV_va, asI_int, rng_ok (n := many) (by omega) h0, ob_some]
  refine ⟨by decide, ?_⟩
  refine wfor_inv (fun r ρ S' => ∃ (ws : List (List Nat)) (a4 a5 a7 : Sl), ρ = [.va (.ref n), .va (.int many), .va (.str (st lettersL)), .ow (.lst (ws.map strD)), a4, a5, .no, a7] ∧ NmsOk ws ∧ ws.length ≤ many.toNat ∧ r = ((List.range many.toNat).drop ws.length).map (fun (k : Nat) => D.int (0 + k)) ∧ Dl S' n m ∧ Dq S S' n m)
    ⟨[], .no, .no, .no, rfl, ⟨by simp, List.nodup_nil, by simp⟩, Nat.zero_le _, rfl, hd, .refl⟩ ?_ ?_
  · rintro d r ρ S1 ⟨ws, a4, a5, a7, rfl, hw, hl, er, d1, e1⟩
    have hlt : ws.length < many.toNat := by
      have := congrArg List.length er
      rw [List.length_cons, List.length_map, List.length_drop, List.length_range] at this
      omega
    rw [List.drop_eq_getElem_cons (by rw [List.length_range]; exact hlt), List.map_cons, List.getElem_range] at er
    injection er with e2 e3
    subst e2
    show ob (some ([.va (.ref n), .va (.int many), .va (.str (st lettersL)), .ow (.lst (ws.map strD)), .va (.int (0 + (ws.length : Nat))), a5, .no, a7] : Env')) _
    rw [ob_some, wss_cons, ws_asg]
    refine word_ok hD d1 fun w S2 hwd d2 eq2 => ?_
    rw [dv_fz, seqQ_nx]
    show WSs T (k + 1) _ [.va (.ref n), .va (.int many), .va (.str (st lettersL)), .ow (.lst (ws.map strD)), .va (.int (0 + (ws.length : Nat))), .va (strD w), .no, a7] S2 _
    -- the word is free, then kept
    have fin : ∀ w S3 a7, NmOk w → Dl S3 n m → Dq S S3 n m → WSs T (k + 1) [.whl (.orr (.cmp .inn (.var 5) (.rd 3)) (.cmp .inn (.var 5) (.lst [.str "in", .str "from", .str "to", .str "end"])))
        [.asg 5 (.bop .add (.sub (.var 2) (.bop .mod (.bop .add (.mt .index (.var 2) [.sub (.var 5) (.int 0)]) (.int 1)) (.int 26))) (.slc (.var 5) (some (.int 1)) none))], .xpr (.mt .append (.rd 3) [.var 5])]
        [.va (.ref n), .va (.int many), .va (.str (st lettersL)), .ow (.lst (ws.map strD)), .va (.int (0 + (ws.length : Nat))), .va (strD w), .no, a7] S3 (turnQ (fun ρ S' => ∃ (ws : List (List Nat)) (a4 a5 a7 : Sl), ρ = [.va (.ref n), .va (.int many), .va (.str (st lettersL)), .ow (.lst (ws.map strD)), a4, a5, .no, a7] ∧ NmsOk ws ∧ ws.length ≤ many.toNat ∧ r = ((List.range many.toNat).drop ws.length).map (fun (k : Nat) => D.int (0 + k)) ∧ Dl S' n m ∧ Dq S S' n m) (seqQ T (k + 1) [.ret (.mv 3)] (retQ Q))) := fun w S3 a7 hwd d3 eq3 => by
      rw [wss_cons]
      refine free_ok hwd (by omega) fun w hwd n1 n2 => ?_
      have ct : cont [.va (.ref n), .va (.int many), .va (.str (st lettersL)), .ow (.lst (ws.map strD)), .va (.int (0 + (ws.length : Nat))), .va (strD w), .no, a7] S3 (.sl 3) = some (.lst (ws.map strD)) := cont_ow rfl
      have ap : mtD .append (.lst (ws.map strD)) [strD w] = some (.non, some (.lst (ws.map strD ++ [strD w]))) := by
        show (if (ws.map strD).length < sizeLine then _ else none) = _
        rw [if_pos (by rw [List.length_map]; have := line1m; omega)]
      have sc : setC [.va (.ref n), .va (.int many), .va (.str (st lettersL)), .ow (.lst (ws.map strD)), .va (.int (0 + (ws.length : Nat))), .va (strD w), .no, a7] S3 (.sl 3) (.lst (ws.map strD ++ [strD w])) = some ([.va (.ref n), .va (.int many), .va (.str (st lettersL)), .ow (.lst (ws.map strD ++ [strD w])), .va (.int (0 + (ws.length : Nat))), .va (strD w), .no, a7], S3) := setC_ow rfl
      simp only [seqQ_nx, wss_cons, seqQ_nil, ws_xpr, we_mt, we_rd, List.getElem?_cons_zero, List.getElem?_cons_succ, slR_ow, ct, ob_some, wl_cons, wl_nil, we_var, slV_va, dv_fz, true_and, ap, afterM_some, sc, turnQ_nx]
      refine ⟨ws ++ [w], _, _, _, by rw [List.map_append]; rfl, ⟨fun x hx => ?_, ?_, fun x hx => ?_⟩, by rw [List.length_append, List.length_singleton]; omega, by rw [List.length_append, List.length_singleton]; exact e3, d3, eq3⟩
      · rcases List.mem_append.mp hx with z | z
        · exact hw.ok x z
        · rw [List.mem_singleton.mp z]; exact hwd
      · rw [List.nodup_append]
        refine ⟨hw.nd, by simp, fun x hx y hy z => n1 ?_⟩
        rw [List.mem_singleton.mp hy] at z
        exact z ▸ hx
      · rcases List.mem_append.mp hx with z | z
        · exact hw.nt x z
        · rw [List.mem_singleton.mp z]; exact n2
    have eq12 := e1.trans eq2
    rw [wss_cons]
    simp only [ws_ife, we_and, we_cmp, we_var, List.getElem?_cons_zero, List.getElem?_cons_succ, slV_va, we_int, look_int, ob_some, cmp_gtI, asB_bl]
    by_cases hz : ws = []
    · rw [if_neg (by rw [hz]; decide)]
      try rw [asB_bl]
      try rw [if_neg Bool.false_ne_true]
      rw [wss_nil, seqQ_nx]
      exact fin w S2 a7 hwd d2 eq12
    · have hp : 0 < ws.length := List.length_pos_iff.mpr hz
      rw [if_pos (decide_eq_true (by omega))]
      simp only [we_call, wl_cons, wl_nil, we_var, List.getElem?_cons_zero, List.getElem?_cons_succ, slV_va, we_int, dv_fz]
      refine draw_ok hD d2 (by decide) (by decide) fun v S3 v0 v1 d3 e3' => ?_
      simp only [look_int, ob_some, cmp_eqI, asB_bl]
      by_cases hv : v = 0
      · rw [if_pos (decide_eq_true hv)]
        have hlast := hw.ok _ (List.getLast_mem hz)
        generalize hg : ws.getLast hz = u at hlast
        have sl := sub_last hz
        rw [hg] at sl
        have ct : ∀ a7 S, cont [.va (.ref n), .va (.int many), .va (.str (st lettersL)), .ow (.lst (ws.map strD)), .va (.int (0 + (ws.length : Nat))), .va (strD w), .no, a7] S (.sl 3) = some (.lst (ws.map strD)) := fun _ _ => cont_ow rfl
        have lk : ∀ ρ S, look ρ S (.fz (strD u)) = some (strD u) := fun _ _ => rfl
        have ck : ∀ ρ S z, cont ρ S (.fz (strD z)) = some (strD z) := fun _ _ _ => rfl
        simp only [wss_cons, seqQ_nil, ws_asg, we_call, wl_cons, wl_nil, we_var, List.getElem?_cons_zero, List.getElem?_cons_succ, slV_va, dv_fz, we_bf, we_sub, we_rd, slR_ow, we_neg, we_int, asI_int, ct, ob_some, sl, lk, len_st' (w := u) (by have := hlast.1.2; omega)]
        refine draw_ok hD d3 (by have := hlast.1.1; omega) (log_small (by have := hlast.1.2; omega)) fun p S4 p0 p1 d4 e4 => ?_
        obtain ⟨g, eg⟩ := sub_st (w := w) (i := 0) (by have := hwd.1.2; omega) (by decide) (by have := hwd.1.1; omega)
        have eg : subD (strD w) (.int 0) = some (.str (st [w[0]])) := eg
        have t1 : slcD (strD u) none (some p) = some (.fz (.str (st (u.take p.toNat)))) := slc_take (by have := hlast.1.2; omega) p0
        have t2 : slcD (strD u) (some (p + 1)) none = some (.fz (.str (st (u.drop (p + 1).toNat)))) := slc_drop (by have := hlast.1.2; omega) (by omega)
        have hp' : p.toNat < u.length := by omega
        have ht : (u.take p.toNat).length = p.toNat := by rw [List.length_take]; omega
        have hdl : (u.drop (p + 1).toNat).length = u.length - (p.toNat + 1) := by rw [List.length_drop]; omega
        have u8 := hlast.1.2
        have c1 : bopD .add (.str (st (u.take p.toNat))) (.str (st [w[0]])) = some (.fz (.str (st (u.take p.toNat ++ [w[0]])))) := cat_st (by rw [ht, List.length_singleton]; omega)
        have c2 : bopD .add (.str (st (u.take p.toNat ++ [w[0]]))) (.str (st (u.drop (p + 1).toNat))) = some (.fz (.str (st (u.take p.toNat ++ [w[0]] ++ u.drop (p + 1).toNat)))) := cat_st (by rw [List.length_append, ht, List.length_singleton, hdl]; omega)
        simp only [dv_fz, seqQ_nx, wss_cons, seqQ_nil, ws_asg, List.set_cons_succ, List.set_cons_zero, we_bop, we_slc, we_sub, we_rd, List.getElem?_cons_zero, List.getElem?_cons_succ, slR_ow, slV_va, we_neg, we_int, asI_int, ct, ck, ob_some, dv_fz, sl, wo_none, wo_some, we_var, t1, eg, cont_str, c1, cont_int, bop_add, t2, c2]
        refine wss_cons.mp (fin (u.take p.toNat ++ [w[0]] ++ u.drop (p + 1).toNat) S4 _ ⟨⟨?_, ?_⟩, fun c hc => ?_⟩ d4 ((eq12.trans e3').trans e4))
        · rw [List.length_append, List.length_append, List.length_singleton]; omega
        · rw [List.length_append, List.length_append, List.length_singleton, ht, hdl]; omega
        · rcases List.mem_append.mp hc with z | z
          · rcases List.mem_append.mp z with z | z
            · exact hlast.2 c (List.mem_of_mem_take z)
            · rw [List.mem_singleton.mp z]
              exact hwd.2 _ (List.getElem_mem g)
          · exact hlast.2 c (List.mem_of_mem_drop z)
      · rw [if_neg (by simpa using hv)]
        try rw [if_neg Bool.false_ne_true]
        rw [wss_nil, seqQ_nx]
        exact fin w S3 a7 hwd d3 (eq12.trans e3')
  · rintro ρ S1 ⟨ws, a4, a5, a7, rfl, hw, hl, er, d1, e1⟩
    have hlen : ws.length = many.toNat := by
      have := congrArg List.length er
      rw [List.length_nil, List.length_map, List.length_drop, List.length_range] at this
      omega
    simp only [seqQ_nx, wss_cons, seqQ_nil, ws_ret, we_mv, List.getElem?_cons_zero, List.getElem?_cons_succ, slO_ow, retO_fr, retQ_rt]
    exact q ws S1 hlen hw d1 e1
end
end Sk

/-! Sk24: drawn numbers. -/
namespace Sk
open PySem PySem.Spec
open L2 (ixN atI)
theorem log_64 {i : Int} (h : i.natAbs < 2 ^ 64) : i.natAbs.log2 < 9000 := by
  by_cases z : i.natAbs = 0
  · rw [z]; decide
  · refine (Nat.log2_lt z).mpr (Nat.lt_of_lt_of_le h ?_)
    exact Nat.pow_le_pow_right (by decide) (by decide)
theorem sub_ints {xs : List Int} {v : Int} (h0 : 0 ≤ v) (h1 : v < xs.length) : ∃ h : v.toNat < xs.length, subD (.lst (xs.map .int)) (.int v) = some (.int xs[v.toNat]) := by
  obtain ⟨h, e⟩ := atI_get (xs := xs.map D.int) h0 (by rw [List.length_map]; exact h1)
  rw [List.length_map] at h
  refine ⟨h, ?_⟩
  show atI (xs.map D.int) v = _
  rw [e, List.getElem_map]
def numberC : List CS := [
  .asg 2 (.call "_law_draw" [.var 0, .int 3]),
  .ife (.cmp .eq (.var 2) (.int 0))
  [.ret (.bop .sub (.call "_law_draw" [.var 0, .int 9]) (.int 4))]
  [],
  .ife (.cmp .eq (.var 2) (.int 1))
  [.ret (.sub (.lst [.var 1, .neg (.var 1), .bop .sub (.var 1) (.int 1), .bop .sub (.int 1) (.var 1)]) (.call "_law_draw" [.var 0, .int 4]))]
  [],
  .ret (.bop .sub (.call "_law_draw" [.var 0, .bop .add (.bop .mul (.int 2) (.var 1)) (.int 1)]) (.var 1))]
def numbersC : List CS := [
  .asg 2 (.call "_law_number" [.var 0, .int 999000]),
  .asgO 3 (.lst []),
  .for_ (.one 4) (.rng (.var 1))
  [.xpr (.mt .insert (.rd 3) [.call "_law_draw" [.var 0, .bop .add (.bf .len (.rd 3)) (.int 1)], .var 2]), .asg 2 (.bop .add (.bop .add (.var 2) (.int 1)) (.sub (.lst [.int 0, .int 0, .call "_law_draw" [.var 0, .int 16]]) (.call "_law_draw" [.var 0, .int 3])))],
  .ret (.bf .tuple (.rd 3))]
section
variable {T : Tab} {k : Nat} (hD : T.F "_law_draw" = some ⟨5, 2, drawC⟩)
include hD
theorem num_ok (hF : T.F "_law_number" = some ⟨3, 2, numberC⟩) {S : Sto} {n m : Nat} {most : Int} {Q : Op → Sto → Prop} (hd : Dl S n m) (h0 : 4 ≤ most) (h1 : most < 2 ^ 60)
    (q : ∀ (i : Int) S', -most ≤ i → i ≤ most → Dl S' n m → Dq S S' n m → Q (.fz (.int i)) S') : WF T (k + 2) "_law_number" [.ref n, .int most] S Q := by
  refine wf_def hF rfl ?_
  show WSs T (k + 1) numberC [.va (.ref n), .va (.int most), .no] S (retQ Q)
  unfold numberC
  simp only [wss_cons, seqQ_nil, ws_asg, we_call, wl_cons, wl_nil, we_var, List.getElem?_cons_zero, slV_va, dv_fz, we_int]
  refine draw_ok hD hd (by decide) (by decide) fun v S1 v0 v1 d1 e1 => ?_
  simp only [dv_fz, seqQ_nx, wss_cons, wss_nil, seqQ_nil, ws_ife, we_cmp, we_var, List.set_cons_succ, List.set_cons_zero, List.getElem?_cons_zero, List.getElem?_cons_succ, slV_va, we_int, look_int, ob_some, cmp_eqI, asB_bl]
  by_cases c0 : v = 0
  · rw [if_pos (decide_eq_true c0)]
    simp only [ws_ret, we_bop, we_call, wl_cons, wl_nil, we_var, List.getElem?_cons_zero, slV_va, dv_fz, we_int]
    refine draw_ok hD d1 (by decide) (by decide) fun x S2 x0 x1 d2 e2 => ?_
    simp only [cont_int, ob_some, bop_sub, retO_fz, seqQ_rt, retQ_rt]
    exact q _ S2 (by omega) (by omega) d2 (e1.trans e2)
  rw [if_neg (by simpa using c0)]
  by_cases c1 : v = 1
  · rw [if_pos (decide_eq_true c1)]
    simp only [ws_ret, we_sub, we_lst, wl_cons, wl_nil, we_neg, asI_int, we_bop, we_call, we_var, List.getElem?_cons_zero, List.getElem?_cons_succ, slV_va, dv_fz, we_int, cont_int, ob_some, bop_sub]
    refine ⟨by show 4 ≤ _; decide, draw_ok hD d1 (by decide) (by decide) fun x S2 x0 x1 d2 e2 => ?_⟩
    obtain ⟨g, eg⟩ := sub_ints (xs := [most, -most, most - 1, 1 - most]) x0 x1
    have eg : subD (.lst [.int most, .int (-most), .int (most - 1), .int (1 - most)]) (.int x) = some (.int ([most, -most, most - 1, 1 - most][x.toNat])) := eg
    simp only [cont_fr, ob_some, dv_fz, eg, retO_fz, seqQ_rt, retQ_rt]
    have hm := List.getElem_mem g
    generalize [most, -most, most - 1, 1 - most][x.toNat] = y at hm
    simp only [List.mem_cons, List.not_mem_nil, or_false] at hm
    exact q _ S2 (by omega) (by omega) d2 (e1.trans e2)
  rw [if_neg (by simpa using c1)]
  simp only [ws_ret, we_bop, we_call, wl_cons, wl_nil, we_var, List.getElem?_cons_zero, List.getElem?_cons_succ, slV_va, dv_fz, we_int, cont_int, ob_some, bop_mulL (i := 2) (j := most) (by decide), bop_add]
  refine draw_ok hD d1 (by omega) (log_64 (by omega)) fun x S2 x0 x1 d2 e2 => ?_
  simp only [cont_int, ob_some, bop_sub, retO_fz, seqQ_rt, retQ_rt]
  exact q _ S2 (by omega) (by omega) d2 (e1.trans e2)
theorem nums_ok (hN : T.F "_law_number" = some ⟨3, 2, numberC⟩) (hF : T.F "_law_numbers" = some ⟨5, 2, numbersC⟩) {S : Sto} {n m : Nat} {many : Int} {Q : Op → Sto → Prop} (hd : Dl S n m) (h0 : 0 ≤ many) (h60 : many ≤ 60)
    (q : ∀ (is : List Int) S', is.length = many.toNat → is.Nodup → (∀ i ∈ is, -1000000 ≤ i ∧ i ≤ 1000000) → Dl S' n m → Dq S S' n m → Q (.fz (.tup (is.map .int))) S') : WF T (k + 3) "_law_numbers" [.ref n, .int many] S Q := by
  refine wf_def hF rfl ?_
  show WSs T (k + 2) numbersC [.va (.ref n), .va (.int many), .no, .no, .no] S (retQ Q)
  unfold numbersC
  simp only [wss_cons, seqQ_nil, ws_asg, we_call, wl_cons, wl_nil, we_var, List.getElem?_cons_zero, slV_va, dv_fz, we_int]
  refine num_ok hD hN hd (by decide) (by decide) fun low S1 b0 b1 d1 e1 => ?_
  simp only [dv_fz, seqQ_nx, wss_cons, seqQ_nil, ws_asgO, we_lst, wl_nil, asFr_fr, List.set_cons_succ, List.set_cons_zero, ws_for, wi_rng, we_var, List.getElem?_cons_zero, List.getElem?_cons_succ, slV_va, asI_int, rng_ok (n := many) (by omega) h0, ob_some]
  refine ⟨by decide, ?_⟩
  refine wfor_inv (fun r ρ S' => ∃ (is : List Int) (low : Int) (a4 : Sl), ρ = [.va (.ref n), .va (.int many), .va (.int low), .ow (.lst (is.map .int)), a4] ∧ is.length + r.length = many.toNat ∧ is.Nodup ∧ (∀ i ∈ is, -1000000 ≤ i ∧ i < low) ∧ -999000 ≤ low ∧ low ≤ 999000 + 16 * (is.length : Int) ∧ Dl S' n m ∧ Dq S S' n m)
    ⟨[], low, .no, rfl, by simp, List.nodup_nil, by simp, b0, by simpa using b1, d1, e1⟩ ?_ ?_
  · rintro d r ρ S2 ⟨is, low, a4, rfl, hl, hnd, hi, l0, l1, d2, e2⟩
    rw [List.length_cons] at hl
    show ob (some ([.va (.ref n), .va (.int many), .va (.int low), .ow (.lst (is.map .int)), .va d] : Env')) _
    have ct : ∀ S, cont [.va (.ref n), .va (.int many), .va (.int low), .ow (.lst (is.map .int)), .va d] S (.sl 3) = some (.lst (is.map .int)) := fun _ => cont_ow rfl
    have lk : ∀ S, look [.va (.ref n), .va (.int many), .va (.int low), .ow (.lst (is.map .int)), .va d] S (.sl 3) = some (.lst (is.map .int)) := fun _ => look_ow rfl
    simp only [ob_some, wss_cons, seqQ_nil, ws_xpr, we_mt, we_rd, List.getElem?_cons_zero, List.getElem?_cons_succ, slR_ow, ct, wl_cons, wl_nil, we_call, we_var, slV_va, dv_fz, we_bop, we_bf, lk, len_lst, List.length_map, we_int, cont_int, bop_add]
    refine draw_ok hD d2 (by omega) (log_64 (by omega)) fun v S3 v0 v1 d3 e3 => ?_
    have ins : mtD .insert (.lst (is.map .int)) [.int v, .int low] = some (.non, some (.lst ((is.take v.toNat ++ low :: is.drop v.toNat).map .int))) := by
      show (if (is.map D.int).length < sizeLine ∧ 0 ≤ v ∧ v < 2 ^ 63 then some (D.non, some (D.lst ((is.map D.int).take v.toNat ++ D.int low :: (is.map D.int).drop v.toNat))) else none) = _
      rw [if_pos ⟨by rw [List.length_map]; have := line1m; omega, v0, by omega⟩, List.map_append, List.map_take, List.map_cons, List.map_drop]
    have sc : setC [.va (.ref n), .va (.int many), .va (.int low), .ow (.lst (is.map .int)), .va d] S3 (.sl 3) (.lst ((is.take v.toNat ++ low :: is.drop v.toNat).map .int)) = some ([.va (.ref n), .va (.int many), .va (.int low), .ow (.lst ((is.take v.toNat ++ low :: is.drop v.toNat).map .int)), .va d], S3) := setC_ow rfl
    simp only [dv_fz, ct, ob_some, true_and, ins, afterM_some, sc, seqQ_nx, wss_cons, seqQ_nil, ws_asg, we_bop, we_var, List.getElem?_cons_zero, List.getElem?_cons_succ, slV_va, we_int, cont_int, bop_add, we_sub, we_lst, wl_cons, wl_nil, dv_fz, we_call]
    refine draw_ok hD d3 (by decide) (by decide) fun x S4 x0 x1 d4 e4 => ?_
    simp only [dv_fz]
    refine ⟨by show 3 ≤ _; decide, draw_ok hD d4 (by decide) (by decide) fun y S5 y0 y1 d5 e5 => ?_⟩
    obtain ⟨g, eg⟩ := sub_ints (xs := [0, 0, x]) y0 y1
    have eg : subD (.lst [.int 0, .int 0, .int x]) (.int y) = some (.int ([0, 0, x][y.toNat])) := eg
    have hm := List.getElem_mem g
    simp only [cont_fr, ob_some, dv_fz, eg]
    generalize [0, 0, x][y.toNat] = z at hm
    simp only [List.mem_cons, List.not_mem_nil, or_false] at hm
    simp only [cont_int, ob_some, bop_add, dv_fz, turnQ_nx, List.set_cons_succ, List.set_cons_zero]
    have hmem : ∀ i, i ∈ is.take v.toNat ++ low :: is.drop v.toNat ↔ i = low ∨ i ∈ is := fun i => by
      rw [List.mem_append, List.mem_cons]
      constructor
      · rintro (z | z | z)
        · exact .inr (List.mem_of_mem_take z)
        · exact .inl z
        · exact .inr (List.mem_of_mem_drop z)
      · rintro (z | z)
        · exact .inr (.inl z)
        · have := (List.take_append_drop v.toNat is).symm ▸ z
          exact (List.mem_append.mp this).elim .inl fun z => .inr (.inr z)
    have hlen : (is.take v.toNat ++ low :: is.drop v.toNat).length = is.length + 1 := by
      rw [List.length_append, List.length_cons, List.length_take, List.length_drop]
      omega
    refine ⟨_, _, _, rfl, by rw [hlen]; omega, ?_, fun i hii => ?_, by omega, by rw [hlen]; omega, d5, ((e2.trans e3).trans e4).trans e5⟩
    · have pm : (is.take v.toNat ++ low :: is.drop v.toNat).Perm (low :: is) := by
        refine List.perm_middle.trans ?_
        rw [List.take_append_drop]
      refine pm.symm.nodup ?_
      rw [List.nodup_cons]
      exact ⟨fun z => by have := (hi low z).2; omega, hnd⟩
    · rcases (hmem i).mp hii with z | z
      · rw [z]; omega
      · have := hi i z
        omega
  · rintro ρ S2 ⟨is, low, a4, rfl, hl, hnd, hi, l0, l1, d2, e2⟩
    have lk : look [.va (.ref n), .va (.int many), .va (.int low), .ow (.lst (is.map .int)), a4] S2 (.sl 3) = some (.lst (is.map .int)) := look_ow rfl
    have tp : bfD .tuple (.lst (is.map .int)) = some (.fz (.tup (is.map .int))) := rfl
    simp only [seqQ_nx, wss_cons, seqQ_nil, ws_ret, we_bf, we_rd, List.getElem?_cons_zero, List.getElem?_cons_succ, slR_ow, lk, ob_some, tp, retO_fz, retQ_rt]
    rw [List.length_nil, Nat.add_zero] at hl
    exact q is S2 hl hnd (fun i hii => by have := hi i hii; omega) d2 e2
end
end Sk

/-! Sk25: wishes within the bounds: how many, sums. -/
namespace Sk
open PySem PySem.Spec
open L2 (ixN atI)
/-- a wish -/
inductive Wish where
  | unlike (cs : List (List Nat))
  | many (vs : List Int) (cs : List (List Nat)) (lo hi : Int)
  | sum (ts : List (Int × List Nat)) (lo hi : Option Int)
  | table (cs : List (List Nat)) (rows : List (List Int))
  | way (cs : List (List Nat)) (steps : List (Int × Int × Int)) (ends : List Int)
  | behind (cs : List (List Nat)) (gap : Int)
  | same (c : List Nat) (vs : List Int) (w : Wish)
def tupI (is : List Int) : D := .tup (is.map .int)
def tupS (cs : List (List Nat)) : D := .tup (cs.map strD)
def optD : Option Int → D
  | none => .non
  | some i => .int i
def termD (t : Int × List Nat) : D := .tup [.int t.1, strD t.2]
def stepD (t : Int × Int × Int) : D := .tup [.int t.1, .int t.2.1, .int t.2.2]
def Wish.d : Wish → D
  | .unlike cs => .tup [.str "unlike", tupS cs]
  | .many vs cs lo hi => .tup [.str "many", tupI vs, tupS cs, .int lo, .int hi]
  | .sum ts lo hi => .tup [.str "sum", .tup (ts.map termD), optD lo, optD hi]
  | .table cs rows => .tup [.str "table", tupS cs, .tup (rows.map tupI)]
  | .way cs steps ends => .tup [.str "way", tupS cs, .tup (steps.map stepD), tupI ends]
  | .behind cs gap => .tup [.str "behind", tupS cs, .int gap]
  | .same c vs w => .tup [.str "same", strD c, tupI vs, w.d]
def manyC : List CS := [
  .ret (.sub (.lst [.call "_law_draw" [.var 0, .bop .add (.bf2 .min2 (.var 1) (.int 4)) (.int 1)], .call "_law_draw" [.var 0, .bop .add (.var 1) (.int 1)], .var 1]) (.bop .fdiv (.call "_law_draw" [.var 0, .int 8]) (.int 3)))]
def bigSumC : List CS := [
  .asgO 2 (.lst []),
  .for_ (.one 3) (.seq (.slc (.var 1) none (some (.int 6))))
  [.asg 4 (.call "_law_number" [.var 0, .bop .pow (.int 10) (.int 6)]), .xpr (.mt .append (.rd 2) [.tup [.bop .add (.var 4) (.bf .int (.cmp .eq (.var 4) (.int 0))), .var 3]])],
  .asg 5 (.lst [.call "_law_number" [.var 0, .bop .pow (.int 10) (.int 13)], .non, .call "_law_number" [.var 0, .bop .pow (.int 10) (.int 13)]]),
  .ret (.tup [.str "sum", .bf .tuple (.rd 2), .sub (.var 5) (.call "_law_draw" [.var 0, .int 2]), .sub (.var 5) (.bop .add (.int 1) (.call "_law_draw" [.var 0, .int 2]))])]
theorem pow_6 : bopD .pow (.int 10) (.int 6) = some (.fz (.int 1000000)) := by kernel_rfl
theorem pow_9 : bopD .pow (.int 10) (.int 9) = some (.fz (.int 1000000000)) := by kernel_rfl
theorem pow_13 : bopD .pow (.int 10) (.int 13) = some (.fz (.int 10000000000000)) := by kernel_rfl
theorem min2_ok {i j : Int} : bf2D .min2 (.int i) (.int j) = some (.fz (.int (if j < i then j else i))) := rfl
theorem slc_tupl {ds : List D} {p : Nat} : slcD (.tup ds) none (some (p : Int)) = some (.fz (.tup (ds.take p))) := by
  show some (Op.fz (.tup (cutD ds none (some (p : Int))))) = _
  unfold cutD
  rw [HT.sIx_nat, HT.sIx_none, List.drop_zero, Nat.sub_zero]
  by_cases h : p ≤ ds.length
  · rw [Nat.min_eq_left h]
  · rw [Nat.min_eq_right (by omega), List.take_length, List.take_of_length_le (by omega)]
section
variable {T : Tab} {k : Nat} (hD : T.F "_law_draw" = some ⟨5, 2, drawC⟩)
include hD
theorem many_ok (hF : T.F "_law_many" = some ⟨2, 2, manyC⟩) {S : Sto} {n m : Nat} {most : Int} {Q : Op → Sto → Prop} (hd : Dl S n m) (h0 : 0 ≤ most) (h1 : most < 1000)
    (q : ∀ (i : Int) S', 0 ≤ i → i ≤ most → Dl S' n m → Dq S S' n m → Q (.fz (.int i)) S') : WF T (k + 2) "_law_many" [.ref n, .int most] S Q := by
  refine wf_def hF rfl ?_
  show WSs T (k + 1) manyC [.va (.ref n), .va (.int most)] S (retQ Q)
  unfold manyC
  simp only [wss_cons, seqQ_nil, ws_ret, we_sub, we_lst, wl_cons, wl_nil, we_call, we_var, List.getElem?_cons_zero, List.getElem?_cons_succ, slV_va, dv_fz, we_bop, we_bf2, we_int, look_int, ob_some, min2_ok, cont_int, bop_add]
  refine draw_ok hD hd (by split <;> omega) (log_64 (by split <;> omega)) fun a S1 a0 a1 d1 e1 => ?_
  rw [dv_fz]
  refine draw_ok hD d1 (by omega) (log_64 (by omega)) fun b S2 b0 b1 d2 e2 => ?_
  rw [dv_fz]
  refine ⟨by show 3 ≤ _; decide, draw_ok hD d2 (by decide) (by decide) fun c S3 c0 c1 d3 e3 => ?_⟩
  simp only [cont_int, ob_some, bop_fdiv (j := 3) ⟨by decide, by decide⟩, cont_fr, dv_fz]
  obtain ⟨g, eg⟩ := sub_ints (xs := [a, b, most]) (v := c / 3) (by omega) (by show c / 3 < 3; omega)
  have eg : subD (.lst [.int a, .int b, .int most]) (.int (c / 3)) = some (.int ([a, b, most][(c / 3).toNat])) := eg
  have hm := List.getElem_mem g
  rw [eg, ob_some, retO_fz, retQ_rt]
  generalize [a, b, most][(c / 3).toNat] = z at hm
  simp only [List.mem_cons, List.not_mem_nil, or_false] at hm
  have ha : a ≤ most := by
    split at a1 <;> omega
  exact q z S3 (by omega) (by omega) d3 ((e1.trans e2).trans e3)
theorem bigSum_ok (hN : T.F "_law_number" = some ⟨3, 2, numberC⟩) (hF : T.F "_law_big_sum" = some ⟨6, 2, bigSumC⟩) {S : Sto} {n m : Nat} {cs : List (List Nat)} {Q : Op → Sto → Prop} (hd : Dl S n m) (hc : cs.length ≤ 100)
    (q : ∀ (ts : List (Int × List Nat)) (lo hi : Option Int) S', ts.map (·.2) = cs.take 6 → (∀ t ∈ ts, t.1 ≠ 0 ∧ -1000000 ≤ t.1 ∧ t.1 ≤ 1000000) → (∀ b ∈ [lo, hi], ∀ i, b = some i → -10000000000000 ≤ i ∧ i ≤ 10000000000000) → Dl S' n m → Dq S S' n m → Q (.fz (Wish.sum ts lo hi).d) S') :
    WF T (k + 3) "_law_big_sum" [.ref n, tupS cs] S Q := by
  refine wf_def hF rfl ?_
  show WSs T (k + 2) bigSumC [.va (.ref n), .va (tupS cs), .no, .no, .no, .no] S (retQ Q)
  unfold bigSumC
  have ct0 : ∀ ρ S, cont ρ S (.fz (tupS cs)) = some (tupS cs) := fun _ _ => rfl
  have s6 : slcD (tupS cs) none (some 6) = some (.fz (.tup ((cs.take 6).map strD))) := by
    rw [List.map_take]
    exact slc_tupl (p := 6)
  have sq : ∀ ds, seqD (.tup ds) = some ds := fun _ => rfl
  simp only [wss_cons, seqQ_nil, ws_asgO, we_lst, wl_nil, asFr_fr, seqQ_nx, List.set_cons_succ, List.set_cons_zero, ws_for, wi_seq, we_slc, we_var, List.getElem?_cons_zero, List.getElem?_cons_succ, slV_va, wo_none, wo_some, we_int, asI_int, ct0, ob_some, s6, dv_fz, sq]
  refine ⟨by decide, ?_⟩
  refine wfor_inv (fun r ρ S' => ∃ (ts : List (Int × List Nat)) (rest : List (List Nat)) (a3 a4 : Sl), r = rest.map strD ∧ ts.map (·.2) ++ rest = cs.take 6 ∧ ρ = [.va (.ref n), .va (tupS cs), .ow (.lst (ts.map termD)), a3, a4, .no] ∧ (∀ t ∈ ts, t.1 ≠ 0 ∧ -1000000 ≤ t.1 ∧ t.1 ≤ 1000000) ∧ Dl S' n m ∧ Dq S S' n m)
    ⟨[], cs.take 6, .no, .no, rfl, rfl, rfl, by simp, hd, .refl⟩ ?_ ?_
  · rintro d r ρ S1 ⟨ts, rest, a3, a4, er, hts, rfl, hb, d1, e1⟩
    cases rest with
    | nil => cases er
    | cons c rest =>
      rw [List.map_cons] at er
      injection er with er1 er2
      subst er1
      show ob (some ([.va (.ref n), .va (tupS cs), .ow (.lst (ts.map termD)), .va (strD c), a4, .no] : Env')) _
      simp only [ob_some, wss_cons, seqQ_nil, ws_asg, we_call, wl_cons, wl_nil, we_var, List.getElem?_cons_zero, slV_va, dv_fz, we_bop, we_int, cont_int, pow_6]
      refine num_ok hD hN d1 (by decide) (by decide) fun a S2 a0 a1 d2 e2 => ?_
      have ct : ∀ a4 S, cont [.va (.ref n), .va (tupS cs), .ow (.lst (ts.map termD)), .va (strD c), a4, .no] S (.sl 2) = some (.lst (ts.map termD)) := fun _ _ => cont_ow rfl
      have lts : ts.length ≤ 6 := by
        have := congrArg List.length hts
        rw [List.length_append, List.length_map, List.length_take] at this
        omega
      have ib : ∀ b, bfD .int (.bl b) = some (.fz (.int (if b then 1 else 0))) := fun _ => rfl
      have ap : mtD .append (.lst (ts.map termD)) [.tup [.int (a + if decide (a = 0) = true then 1 else 0), strD c]] = some (.non, some (.lst ((ts ++ [(a + if decide (a = 0) = true then 1 else 0, c)]).map termD))) := by
        show (if (ts.map termD).length < sizeLine then _ else none) = _
        rw [if_pos (by rw [List.length_map]; have := line1m; omega), List.map_append]
        rfl
      have sc : ∀ d', setC [.va (.ref n), .va (tupS cs), .ow (.lst (ts.map termD)), .va (strD c), .va (.int a), .no] S2 (.sl 2) d' = some ([.va (.ref n), .va (tupS cs), .ow d', .va (strD c), .va (.int a), .no], S2) := fun _ => setC_ow rfl
      simp only [dv_fz, seqQ_nx, wss_cons, seqQ_nil, List.set_cons_succ, List.set_cons_zero, ws_xpr, we_mt, we_rd, List.getElem?_cons_zero, List.getElem?_cons_succ, slR_ow, ct, ob_some, wl_cons, wl_nil, we_tup, we_bop, we_var, slV_va, we_bf, we_cmp, look_int, we_int, cmp_eqI, look_bl, ib, cont_int, bop_add, dv_fz]
      refine ⟨by show 2 ≤ _; decide, trivial, ?_⟩
      rw [ap, ob_some, afterM_some, sc, ob_some, turnQ_nx]
      refine ⟨_, rest, _, _, er2, ?_, rfl, fun t ht => ?_, d2, e1.trans e2⟩
      · rw [List.map_append, List.append_assoc]
        exact hts
      · rcases List.mem_append.mp ht with z | z
        · exact hb t z
        · rw [List.mem_singleton.mp z]
          by_cases h : a = 0
          · simp [h]
          · simp [h]
            omega
  · rintro ρ S1 ⟨ts, rest, a3, a4, er, hts, rfl, hb, d1, e1⟩
    have hr : rest = [] := by
      cases rest with
      | nil => rfl
      | cons _ _ => cases er
    subst hr
    rw [List.append_nil] at hts
    have lk : ∀ a5 S, look [.va (.ref n), .va (tupS cs), .ow (.lst (ts.map termD)), a3, a4, a5] S (.sl 2) = some (.lst (ts.map termD)) := fun _ _ => look_ow rfl
    have tp : bfD .tuple (.lst (ts.map termD)) = some (.fz (.tup (ts.map termD))) := rfl
    simp only [seqQ_nx, wss_cons, seqQ_nil, ws_asg, we_lst, wl_cons, wl_nil, we_call, we_var, List.getElem?_cons_zero, List.getElem?_cons_succ, slV_va, dv_fz, we_bop, we_int, cont_int, ob_some, pow_13]
    refine num_ok hD hN d1 (by decide) (by decide) fun b1 S2 b1l b1h d2 e2 => ?_
    simp only [dv_fz, we_non, we_call, wl_cons, wl_nil, we_var, List.getElem?_cons_zero, slV_va, we_bop, we_int, cont_int, ob_some, pow_13]
    refine num_ok hD hN d2 (by decide) (by decide) fun b2 S3 b2l b2h d3 e3 => ?_
    simp only [dv_fz]
    refine ⟨by show 3 ≤ _; decide, ?_⟩
    simp only [dv_fr, seqQ_nx, wss_cons, seqQ_nil, List.set_cons_succ, List.set_cons_zero, ws_ret, we_tup, wl_cons, wl_nil, we_str, dv_fz, we_bf, we_rd, List.getElem?_cons_zero, List.getElem?_cons_succ, slR_ow, lk, ob_some, tp, we_sub, we_var, slV_va, we_call, we_int]
    refine draw_ok hD d3 (by decide) (by decide) fun x S4 x0 x1 d4 e4 => ?_
    obtain ⟨lo, elo, blo⟩ : ∃ lo : Option Int, subD (.lst [.int b1, .non, .int b2]) (.int x) = some (optD lo) ∧ ∀ i, lo = some i → -10000000000000 ≤ i ∧ i ≤ 10000000000000 := by
      rcases (show x = 0 ∨ x = 1 by omega) with rfl | rfl
      · exact ⟨some b1, rfl, fun i e => by cases e; exact ⟨b1l, b1h⟩⟩
      · exact ⟨none, rfl, fun i e => by cases e⟩
    simp only [cont_lst, ob_some, dv_fz, elo, we_bop, we_int, we_call, wl_cons, wl_nil, we_var, List.getElem?_cons_zero, slV_va]
    refine draw_ok hD d4 (by decide) (by decide) fun y S5 y0 y1 d5 e5 => ?_
    obtain ⟨hi, ehi, bhi⟩ : ∃ hi : Option Int, subD (.lst [.int b1, .non, .int b2]) (.int (1 + y)) = some (optD hi) ∧ ∀ i, hi = some i → -10000000000000 ≤ i ∧ i ≤ 10000000000000 := by
      rcases (show y = 0 ∨ y = 1 by omega) with rfl | rfl
      · exact ⟨none, rfl, fun i e => by cases e⟩
      · exact ⟨some b2, rfl, fun i e => by cases e; exact ⟨b2l, b2h⟩⟩
    simp only [cont_int, ob_some, bop_add, dv_fz, ehi]
    refine ⟨by show 4 ≤ _; decide, ?_⟩
    rw [retO_fz, retQ_rt]
    refine q ts lo hi S5 hts hb (fun b hbm => ?_) d5 ((((e1.trans e2).trans e3).trans e4).trans e5)
    simp only [List.mem_cons, List.not_mem_nil, or_false] at hbm
    rcases hbm with rfl | rfl
    · exact blo
    · exact bhi
end
end Sk

/-! Sk26: rows, ways. -/
namespace Sk
open PySem PySem.Spec
open L2 (ixN atI)
def bigRowsC : List CS := [
  .asg 3 (.call "_law_numbers" [.var 0, .var 2]),
  .asg 4 (.call "_law_draw" [.var 0, .var 1]),
  .asgO 5 (.lst []),
  .for_ (.one 6) (.seq (.var 3))
  [.asgO 7 (.lc (.call "_law_number" [.var 0, .bop .pow (.int 10) (.int 6)]) (.one 8) (.rng (.var 1)) []), .setI (.rd 7) (.var 4) (.var 6), .xpr (.mt .append (.rd 5) [.bf .tuple (.rd 7)])],
  .ret (.bf .tuple (.rd 5))]
def bigWayC : List CS := [
  .asg 2 (.bop .add (.int 1) (.call "_law_draw" [.var 0, .int 21])),
  .asg 3 (.call "_law_numbers" [.var 0, .int 60]),
  .asgO 4 (.lst []),
  .for_ (.one 5) (.rng (.call "_law_many" [.var 0, .int 60]))
  [.xpr (.mt .append (.rd 4) [.tup [.bop .mod (.bop .add (.var 5) (.bop .fdiv (.var 5) (.var 2))) (.var 2), .sub (.var 3) (.bop .fdiv (.var 5) (.var 2)), .call "_law_draw" [.var 0, .int 21]]])],
  .asgO 6 (.lst []),
  .for_ (.one 5) (.rng (.call "_law_many" [.var 0, .int 21]))
  [.xpr (.mt .insert (.rd 6) [.call "_law_draw" [.var 0, .bop .add (.bf .len (.rd 6)) (.int 1)], .bop .mod (.bop .mul (.var 5) (.int 8)) (.int 21)])],
  .ret (.tup [.str "way", .var 1, .bf .tuple (.rd 4), .bf .tuple (.rd 6)])]
theorem seq_tup {ds : List D} : seqD (.tup ds) = some ds := rfl
theorem tup_lst {ds : List D} : bfD .tuple (.lst ds) = some (.fz (.tup ds)) := rfl
theorem app_lst {ds : List D} {x : D} (h : ds.length ≤ 1000) : mtD .append (.lst ds) [x] = some (.non, some (.lst (ds ++ [x]))) := by
  show (if ds.length < sizeLine then _ else none) = _
  rw [if_pos (by have : 1000 < sizeLine := by decide
                 omega)]
section
variable {T : Tab} {k : Nat} (hD : T.F "_law_draw" = some ⟨5, 2, drawC⟩)
include hD
theorem bigRows_ok (hN : T.F "_law_number" = some ⟨3, 2, numberC⟩) (hNs : T.F "_law_numbers" = some ⟨5, 2, numbersC⟩) (hF : T.F "_law_big_rows" = some ⟨9, 3, bigRowsC⟩) {S : Sto} {n m : Nat} {wide many : Int} {Q : Op → Sto → Prop} (hd : Dl S n m)
    (w0 : 1 ≤ wide) (w1 : wide ≤ 100) (m0 : 0 ≤ many) (m1 : many ≤ 60)
    (q : ∀ (rows : List (List Int)) S', rows.length = many.toNat → rows.Nodup → (∀ r ∈ rows, r.length = wide.toNat ∧ ∀ i ∈ r, -1000000 ≤ i ∧ i ≤ 1000000) → Dl S' n m → Dq S S' n m → Q (.fz (.tup (rows.map tupI))) S') :
    WF T (k + 4) "_law_big_rows" [.ref n, .int wide, .int many] S Q := by
  refine wf_def hF rfl ?_
  show WSs T (k + 3) bigRowsC [.va (.ref n), .va (.int wide), .va (.int many), .no, .no, .no, .no, .no, .no] S (retQ Q)
  unfold bigRowsC
  simp only [wss_cons, seqQ_nil, ws_asg, we_call, wl_cons, wl_nil, we_var, List.getElem?_cons_zero, List.getElem?_cons_succ, slV_va, dv_fz]
  refine nums_ok hD hN hNs hd m0 m1 fun is S1 hl hnd hi d1 e1 => ?_
  simp only [dv_fz, seqQ_nx, List.set_cons_succ, List.set_cons_zero, wss_cons, seqQ_nil, ws_asg, we_call, wl_cons, wl_nil, we_var, List.getElem?_cons_zero, List.getElem?_cons_succ, slV_va]
  refine draw_ok hD d1 (by omega) (log_64 (by omega)) fun p S2 p0 p1 d2 e2 => ?_
  simp only [dv_fz, seqQ_nx, List.set_cons_succ, List.set_cons_zero, wss_cons, seqQ_nil, ws_asgO, we_lst, wl_nil, asFr_fr, ws_for, wi_seq, we_var, List.getElem?_cons_zero, List.getElem?_cons_succ, slV_va, seq_tup, ob_some]
  refine ⟨by decide, ?_⟩
  refine wfor_inv (fun r ρ S' => ∃ (rows : List (List Int)) (rest : List Int) (a6 a7 : Sl), r = rest.map .int ∧ rows.map (fun r => r.getD p.toNat 0) ++ rest = is ∧ ρ = [.va (.ref n), .va (.int wide), .va (.int many), .va (tupI is), .va (.int p), .ow (.lst (rows.map tupI)), a6, a7, .no] ∧ (∀ r ∈ rows, r.length = wide.toNat ∧ ∀ i ∈ r, -1000000 ≤ i ∧ i ≤ 1000000) ∧ Dl S' n m ∧ Dq S S' n m)
    ⟨[], is, .no, .no, rfl, rfl, rfl, by simp, d2, e1.trans e2⟩ ?_ ?_
  · rintro d r ρ S3 ⟨rows, rest, a6, a7, er, hr, rfl, hb, d3, e3⟩
    cases rest with
    | nil => cases er
    | cons v rest =>
      rw [List.map_cons] at er
      injection er with er1 er2
      subst er1
      have hv := hi v (by rw [← hr]; simp)
      have lr : rows.length ≤ 60 := by
        have := congrArg List.length hr
        rw [List.length_append, List.length_map] at this
        omega
      show ob (some ([.va (.ref n), .va (.int wide), .va (.int many), .va (tupI is), .va (.int p), .ow (.lst (rows.map tupI)), .va (.int v), a7, .no] : Env')) _
      simp only [ob_some, wss_cons, seqQ_nil, ws_asgO, we_lc, wi_rng, we_var, List.getElem?_cons_zero, List.getElem?_cons_succ, slV_va, asI_int, rng_ok (n := wide) (by omega) (by omega)]
      refine ⟨rfl, ?_⟩
      show WLc T (k + 3) (.one 8) _ [] _ [] [.va (.ref n), .va (.int wide), .va (.int many), .va (tupI is), .va (.int p), .ow (.lst (rows.map tupI)), .va (.int v), a7, .no] S3 _
      refine wlc_inv (fun r acc ρ S' => ρ = [.va (.ref n), .va (.int wide), .va (.int many), .va (tupI is), .va (.int p), .ow (.lst (rows.map tupI)), .va (.int v), a7, .no] ∧ (∃ xs : List Int, acc = xs.map .int ∧ (∀ i ∈ xs, -1000000 ≤ i ∧ i ≤ 1000000) ∧ xs.length + r.length = wide.toNat) ∧ Dl S' n m ∧ Dq S S' n m) ⟨rfl, ⟨[], rfl, by simp, by simp⟩, d3, e3⟩ ?_ ?_
      · rintro d r acc ρ S4 ⟨rfl, ⟨xs, rfl, hx, hxl⟩, d4, e4⟩
        rw [List.length_cons] at hxl
        show ob (some ([.va (.ref n), .va (.int wide), .va (.int many), .va (tupI is), .va (.int p), .ow (.lst (rows.map tupI)), .va (.int v), a7, .va d] : Env')) _
        simp only [ob_some, wc_nil, if_true, we_call, wl_cons, wl_nil, we_var, List.getElem?_cons_zero, slV_va, dv_fz, we_bop, we_int, cont_int, pow_6]
        refine num_ok hD hN d4 (by decide) (by decide) fun i S5 i0 i1 d5 e5 => ?_
        rw [dv_fz]
        refine ⟨by rw [List.length_map]; have := line1m; omega, rfl, ⟨xs ++ [i], by rw [List.map_append]; rfl, fun j hj => ?_, by rw [List.length_append, List.length_singleton]; omega⟩, d5, e4.trans e5⟩
        rcases List.mem_append.mp hj with z | z
        · exact hx j z
        · rw [List.mem_singleton.mp z]; exact ⟨i0, i1⟩
      · rintro acc ρ S4 ⟨rfl, ⟨xs, rfl, hx, hxl⟩, d4, e4⟩
        rw [List.length_nil, Nat.add_zero] at hxl
        have ix : ixN (xs.map D.int).length p = some p.toNat := by
          unfold ixN
          rw [if_pos p0, if_pos (by rw [List.length_map]; omega)]
        have es : (xs.map D.int).set p.toNat (.int v) = (xs.set p.toNat v).map .int := List.map_set.symm
        have g : ∀ x7 S, cont [.va (.ref n), .va (.int wide), .va (.int many), .va (tupI is), .va (.int p), .ow (.lst (rows.map tupI)), .va (.int v), .ow (.lst x7), .no] S (.sl 7) = some (.lst x7) := fun _ _ => cont_ow rfl
        have g' : ∀ x7 S, look [.va (.ref n), .va (.int wide), .va (.int many), .va (tupI is), .va (.int p), .ow (.lst (rows.map tupI)), .va (.int v), .ow (.lst x7), .no] S (.sl 7) = some (.lst x7) := fun _ _ => look_ow rfl
        have s7 : ∀ x7 S d', setC [.va (.ref n), .va (.int wide), .va (.int many), .va (tupI is), .va (.int p), .ow (.lst (rows.map tupI)), .va (.int v), .ow (.lst x7), .no] S (.sl 7) d' = some ([.va (.ref n), .va (.int wide), .va (.int many), .va (tupI is), .va (.int p), .ow (.lst (rows.map tupI)), .va (.int v), .ow d', .no], S) := fun _ _ _ => setC_ow rfl
        have g5 : ∀ x7 S, cont [.va (.ref n), .va (.int wide), .va (.int many), .va (tupI is), .va (.int p), .ow (.lst (rows.map tupI)), .va (.int v), .ow x7, .no] S (.sl 5) = some (.lst (rows.map tupI)) := fun _ _ => cont_ow rfl
        have s5 : ∀ x7 S d', setC [.va (.ref n), .va (.int wide), .va (.int many), .va (tupI is), .va (.int p), .ow (.lst (rows.map tupI)), .va (.int v), .ow x7, .no] S (.sl 5) d' = some ([.va (.ref n), .va (.int wide), .va (.int many), .va (tupI is), .va (.int p), .ow d', .va (.int v), .ow x7, .no], S) := fun _ _ _ => setC_ow rfl
        rw [asFr_fr, seqQ_nx]
        show WSs T (k + 3) _ [.va (.ref n), .va (.int wide), .va (.int many), .va (tupI is), .va (.int p), .ow (.lst (rows.map tupI)), .va (.int v), .ow (.lst (xs.map .int)), .no] S4 _
        simp only [wss_cons, seqQ_nil, ws_setI, we_var, List.getElem?_cons_zero, List.getElem?_cons_succ, slV_va, dv_fz, we_rd, slR_ow, g, ob_some, putC_lst, ix, es, s7, seqQ_nx, ws_xpr, we_mt, g5, wl_cons, wl_nil, we_bf, g', tup_lst, dv_fz, true_and]
        rw [app_lst (by rw [List.length_map]; omega), ob_some, afterM_some, s5, ob_some, turnQ_nx]
        refine ⟨rows ++ [xs.set p.toNat v], rest, _, _, er2, ?_, by rw [List.map_append]; rfl, fun r hr' => ?_, d4, e4⟩
        · rw [List.map_append, List.append_assoc, ← hr]
          congr 1
          show [(xs.set p.toNat v).getD p.toNat 0] ++ rest = v :: rest
          rw [List.getD_eq_getElem?_getD, List.getElem?_set_self (by omega)]
          rfl
        · rcases List.mem_append.mp hr' with z | z
          · exact hb r z
          · rw [List.mem_singleton.mp z]
            refine ⟨by rw [List.length_set]; exact hxl, fun i hii => ?_⟩
            rcases List.mem_or_eq_of_mem_set hii with z | z
            · exact hx i z
            · rw [z]; exact hv
  · rintro ρ S3 ⟨rows, rest, a6, a7, er, hr, rfl, hb, d3, e3⟩
    have hz : rest = [] := by
      cases rest with
      | nil => rfl
      | cons _ _ => cases er
    subst hz
    rw [List.append_nil] at hr
    have lk : ∀ S, look [.va (.ref n), .va (.int wide), .va (.int many), .va (tupI is), .va (.int p), .ow (.lst (rows.map tupI)), a6, a7, .no] S (.sl 5) = some (.lst (rows.map tupI)) := fun _ => look_ow rfl
    simp only [seqQ_nx, wss_cons, seqQ_nil, ws_ret, we_bf, we_rd, List.getElem?_cons_zero, List.getElem?_cons_succ, slR_ow, lk, ob_some, tup_lst, retO_fz, retQ_rt]
    refine q rows S3 ?_ ?_ hb d3 e3
    · rw [← hl, ← hr, List.length_map]
    · rw [← hr] at hnd
      exact List.Pairwise.of_map _ (fun a b h z => h (congrArg (fun r : List Int => r.getD p.toNat 0) z)) hnd

theorem bigWay_ok (hN : T.F "_law_number" = some ⟨3, 2, numberC⟩) (hNs : T.F "_law_numbers" = some ⟨5, 2, numbersC⟩) (hM : T.F "_law_many" = some ⟨2, 2, manyC⟩) (hF : T.F "_law_big_way" = some ⟨7, 2, bigWayC⟩) {S : Sto} {n m : Nat} {cs : List (List Nat)} {Q : Op → Sto → Prop} (hd : Dl S n m)
    (q : ∀ (steps : List (Int × Int × Int)) (ends : List Int) S', Dl S' n m → Dq S S' n m → Q (.fz (Wish.way cs steps ends).d) S') :
    WF T (k + 4) "_law_big_way" [.ref n, tupS cs] S Q := by
  refine wf_def hF rfl ?_
  show WSs T (k + 3) bigWayC [.va (.ref n), .va (tupS cs), .no, .no, .no, .no, .no] S (retQ Q)
  unfold bigWayC
  simp only [wss_cons, seqQ_nil, ws_asg, we_bop, we_int, we_call, wl_cons, wl_nil, we_var, List.getElem?_cons_zero, List.getElem?_cons_succ, slV_va, dv_fz]
  refine draw_ok hD hd (by decide) (by decide) fun s0 S1 a0 a1 d1 e1 => ?_
  generalize hs : 1 + s0 = s
  simp only [cont_int, ob_some, bop_add, hs, dv_fz, seqQ_nx, List.set_cons_succ, List.set_cons_zero, wss_cons, seqQ_nil, ws_asg, we_call, wl_cons, wl_nil, we_var, List.getElem?_cons_zero, List.getElem?_cons_succ, slV_va, we_int]
  refine nums_ok hD hN hNs d1 (by decide) (by decide) fun is S2 hl hnd hi d2 e2 => ?_
  simp only [dv_fz, seqQ_nx, List.set_cons_succ, List.set_cons_zero, wss_cons, seqQ_nil, ws_asgO, we_lst, wl_nil, asFr_fr, ws_for, wi_rng, we_call, wl_cons, we_var, List.getElem?_cons_zero, List.getElem?_cons_succ, slV_va, we_int]
  refine ⟨by decide, many_ok hD hM d2 (by decide) (by decide) fun c S3 c0 c1 d3 e3 => ?_⟩
  rw [asI_int, rng_ok (n := c) (by omega) c0, ob_some]
  have hl' : is.length = 60 := hl
  refine wfor_inv (fun r ρ S' => ∃ (steps : List (Int × Int × Int)) (a5 : Sl), ρ = [.va (.ref n), .va (tupS cs), .va (.int s), .va (tupI is), .ow (.lst (steps.map stepD)), a5, .no] ∧ steps.length ≤ c.toNat ∧ r = ((List.range c.toNat).drop steps.length).map (fun (k : Nat) => D.int (0 + k)) ∧ Dl S' n m ∧ Dq S S' n m)
    ⟨[], .no, rfl, Nat.zero_le _, rfl, d3, (e1.trans e2).trans e3⟩ ?_ ?_
  · rintro d r ρ S4 ⟨steps, a5, rfl, hle, er, d4, e4⟩
    have hlt : steps.length < c.toNat := by
      have := congrArg List.length er
      rw [List.length_cons, List.length_map, List.length_drop, List.length_range] at this
      omega
    rw [List.drop_eq_getElem_cons (by rw [List.length_range]; exact hlt), List.map_cons, List.getElem_range] at er
    injection er with er1 er2
    subst er1
    generalize hj : (0 : Int) + (steps.length : Nat) = j
    have hs1 : 1 ≤ s := by omega
    have hjs : 0 ≤ j / s ∧ j / s < is.length := ⟨Int.ediv_nonneg (by omega) (by omega), by
      have := Int.ediv_le_self s (a := j) (by omega)
      omega⟩
    obtain ⟨g, eg⟩ := atI_get (xs := is.map D.int) hjs.1 (by rw [List.length_map]; exact hjs.2)
    rw [List.length_map] at g
    have eg : subD (tupI is) (.int (j / s)) = some (.int is[(j / s).toNat]) := by
      show atI (is.map D.int) (j / s) = _
      rw [eg, List.getElem_map]
    show ob (some ([.va (.ref n), .va (tupS cs), .va (.int s), .va (tupI is), .ow (.lst (steps.map stepD)), .va (.int j), .no] : Env')) _
    have ct : ∀ S, cont [.va (.ref n), .va (tupS cs), .va (.int s), .va (tupI is), .ow (.lst (steps.map stepD)), .va (.int j), .no] S (.sl 4) = some (.lst (steps.map stepD)) := fun _ => cont_ow rfl
    have sc : ∀ S d', setC [.va (.ref n), .va (tupS cs), .va (.int s), .va (tupI is), .ow (.lst (steps.map stepD)), .va (.int j), .no] S (.sl 4) d' = some ([.va (.ref n), .va (tupS cs), .va (.int s), .va (tupI is), .ow d', .va (.int j), .no], S) := fun _ _ => setC_ow rfl
    have cI : ∀ ρ S, cont ρ S (.fz (tupI is)) = some (tupI is) := fun _ _ => rfl
    simp only [ob_some, wss_cons, seqQ_nil, ws_xpr, we_mt, we_rd, List.getElem?_cons_zero, List.getElem?_cons_succ, slR_ow, ct, wl_cons, wl_nil, we_tup, we_bop, we_var, slV_va, cont_int, bop_fdiv (j := s) ⟨by omega, log_64 (by omega)⟩, bop_add, bop_mod (j := s) (by omega), dv_fz, we_sub, cI, eg, we_call, we_int]
    refine draw_ok hD d4 (by decide) (by decide) fun x S5 x0 x1 d5 e5 => ?_
    simp only [dv_fz, ct, ob_some, true_and]
    refine ⟨by show 3 ≤ _; decide, ?_⟩
    rw [app_lst (by rw [List.length_map]; omega), ob_some, afterM_some, sc, ob_some, turnQ_nx]
    exact ⟨steps ++ [((j + j / s) % s, is[(j / s).toNat], x)], _, by rw [List.map_append]; rfl, by rw [List.length_append, List.length_singleton]; omega, by rw [List.length_append, List.length_singleton]; exact er2, d5, e4.trans e5⟩
  · rintro ρ S4 ⟨steps, a5, rfl, hle, er, d4, e4⟩
    simp only [seqQ_nx, wss_cons, seqQ_nil, ws_asgO, we_lst, wl_nil, asFr_fr, List.set_cons_succ, List.set_cons_zero, ws_for, wi_rng, we_call, wl_cons, we_var, List.getElem?_cons_zero, List.getElem?_cons_succ, slV_va, we_int, dv_fz]
    refine ⟨by decide, many_ok hD hM d4 (by decide) (by decide) fun c' S5 c0' c1' d5 e5 => ?_⟩
    rw [asI_int, rng_ok (n := c') (by omega) c0', ob_some]
    refine wfor_inv (fun r ρ S' => ∃ (ends : List Int) (a5 : Sl), ρ = [.va (.ref n), .va (tupS cs), .va (.int s), .va (tupI is), .ow (.lst (steps.map stepD)), a5, .ow (.lst (ends.map .int))] ∧ ends.length + r.length = c'.toNat ∧ (∃ js : List Nat, r = js.map (fun (k : Nat) => D.int (0 + k))) ∧ Dl S' n m ∧ Dq S S' n m)
      ⟨[], a5, rfl, by simp, ⟨_, rfl⟩, d5, e4.trans e5⟩ ?_ ?_
    · rintro d r ρ S6 ⟨ends, a5, rfl, hle', ⟨js, er'⟩, d6, e6⟩
      cases js with
      | nil => cases er'
      | cons j js =>
        rw [List.map_cons] at er'
        injection er' with er1 er2
        subst er1
        rw [List.length_cons] at hle'
        generalize hj : (0 : Int) + (j : Nat) = jj
        show ob (some ([.va (.ref n), .va (tupS cs), .va (.int s), .va (tupI is), .ow (.lst (steps.map stepD)), .va (.int jj), .ow (.lst (ends.map .int))] : Env')) _
        have ct : ∀ S, cont [.va (.ref n), .va (tupS cs), .va (.int s), .va (tupI is), .ow (.lst (steps.map stepD)), .va (.int jj), .ow (.lst (ends.map .int))] S (.sl 6) = some (.lst (ends.map .int)) := fun _ => cont_ow rfl
        have lk : ∀ S, look [.va (.ref n), .va (tupS cs), .va (.int s), .va (tupI is), .ow (.lst (steps.map stepD)), .va (.int jj), .ow (.lst (ends.map .int))] S (.sl 6) = some (.lst (ends.map .int)) := fun _ => look_ow rfl
        have sc : ∀ S d', setC [.va (.ref n), .va (tupS cs), .va (.int s), .va (tupI is), .ow (.lst (steps.map stepD)), .va (.int jj), .ow (.lst (ends.map .int))] S (.sl 6) d' = some ([.va (.ref n), .va (tupS cs), .va (.int s), .va (tupI is), .ow (.lst (steps.map stepD)), .va (.int jj), .ow d'], S) := fun _ _ => setC_ow rfl
        simp only [ob_some, wss_cons, seqQ_nil, ws_xpr, we_mt, we_rd, List.getElem?_cons_zero, List.getElem?_cons_succ, slR_ow, ct, wl_cons, wl_nil, we_call, we_var, slV_va, dv_fz, we_bop, we_bf, lk, len_lst, List.length_map, we_int, cont_int, bop_add]
        refine draw_ok hD d6 (by omega) (log_64 (by omega)) fun v S7 v0 v1 d7 e7 => ?_
        have ins : ∀ low, mtD .insert (.lst (ends.map .int)) [.int v, .int low] = some (.non, some (.lst ((ends.take v.toNat ++ low :: ends.drop v.toNat).map .int))) := fun low => by
          show (if (ends.map D.int).length < sizeLine ∧ 0 ≤ v ∧ v < 2 ^ 63 then some (D.non, some (D.lst ((ends.map D.int).take v.toNat ++ D.int low :: (ends.map D.int).drop v.toNat))) else none) = _
          rw [if_pos ⟨by rw [List.length_map]; have := line1m; omega, v0, by omega⟩, List.map_append, List.map_take, List.map_cons, List.map_drop]
        simp only [dv_fz, ob_some, cont_int, bop_mulS (j := 8) (by decide), bop_mod (j := 21) (by decide), ct, true_and, ins, afterM_some, sc, turnQ_nx]
        refine ⟨_, _, rfl, ?_, ⟨js, er2⟩, d7, e6.trans e7⟩
        rw [List.length_append, List.length_cons, List.length_take, List.length_drop]
        omega
    · rintro ρ S6 ⟨ends, a5, rfl, _, _, d6, e6⟩
      have l4 : ∀ S, look [.va (.ref n), .va (tupS cs), .va (.int s), .va (tupI is), .ow (.lst (steps.map stepD)), a5, .ow (.lst (ends.map .int))] S (.sl 4) = some (.lst (steps.map stepD)) := fun _ => look_ow rfl
      have l6 : ∀ S, look [.va (.ref n), .va (tupS cs), .va (.int s), .va (tupI is), .ow (.lst (steps.map stepD)), a5, .ow (.lst (ends.map .int))] S (.sl 6) = some (.lst (ends.map .int)) := fun _ => look_ow rfl
      simp only [seqQ_nx, wss_cons, seqQ_nil, ws_ret, we_tup, wl_cons, wl_nil, we_str, dv_fz, we_var, we_bf, we_rd, List.getElem?_cons_zero, List.getElem?_cons_succ, slR_ow, slV_va, l4, l6, ob_some, tup_lst]
      refine ⟨by show 4 ≤ _; decide, ?_⟩
      rw [retO_fz, retQ_rt]
      exact q steps ends S6 d6 e6
end
end Sk

/-! Sk27: wishes within the bounds. -/
namespace Sk
open PySem PySem.Spec
open L2 (ixN atI)
def bigWishTail : List CS := [
  .asg 5 (.sub (.lst [.str "unlike", .str "many", .str "sum", .str "table", .str "way", .str "behind"]) (.call "_law_draw" [.var 0, .int 6])),
  .ret (.tup [.str "same", .sub (.var 1) (.neg (.int 1)), .call "_law_numbers" [.var 0, .call "_law_many" [.var 0, .int 60]], .call "_law_big_wish" [.var 0, .slc (.var 1) none (some (.neg (.int 1))), .var 5]])]
def bigWishC : List CS := [
  .asg 3 (.bf .tuple (.slc (.var 1) none (some (.bop .add (.int 1) (.call "_law_draw" [.var 0, .bf2 .min2 (.int 12) (.bf .len (.var 1))]))))),
  .ife (.cmp .eq (.var 2) (.str "unlike"))
  [.ret (.tup [.str "unlike", .var 3])]
  [],
  .ife (.cmp .eq (.var 2) (.str "many"))
  [.asg 4 (.bf .abs (.call "_law_number" [.var 0, .bop .pow (.int 10) (.int 9)])), .ret (.tup [.str "many", .call "_law_numbers" [.var 0, .call "_law_many" [.var 0, .int 60]], .var 3, .var 4, .bf .abs (.call "_law_number" [.var 0, .bop .pow (.int 10) (.int 9)])])]
  [],
  .ife (.cmp .eq (.var 2) (.str "sum"))
  [.ret (.call "_law_big_sum" [.var 0, .var 3])]
  [],
  .ife (.cmp .eq (.var 2) (.str "table"))
  [.ret (.tup [.str "table", .var 3, .call "_law_big_rows" [.var 0, .bf .len (.var 3), .call "_law_many" [.var 0, .int 60]]])]
  [],
  .ife (.cmp .eq (.var 2) (.str "way"))
  [.ret (.call "_law_big_way" [.var 0, .var 3])]
  [],
  .ife (.cmp .eq (.var 2) (.str "behind"))
  [.ret (.tup [.str "behind", .var 3, .call "_law_number" [.var 0, .bop .pow (.int 10) (.int 9)]])]
  [],
  .asg 5 (.sub (.lst [.str "unlike", .str "many", .str "sum", .str "table", .str "way", .str "behind"]) (.call "_law_draw" [.var 0, .int 6])),
  .ret (.tup [.str "same", .sub (.var 1) (.neg (.int 1)), .call "_law_numbers" [.var 0, .call "_law_many" [.var 0, .int 60]], .call "_law_big_wish" [.var 0, .slc (.var 1) none (some (.neg (.int 1))), .var 5]])]
def six : List Str := ["unlike", "many", "sum", "table", "way", "behind"]
@[simp] theorem cmp_eqS {a b : Str} : cmpD .eq (.str a) (.str b) = some (decide (a = b)) := rfl
theorem abs_int {i : Int} : bfD .abs (.int i) = some (.fz (.int (if i < 0 then -i else i))) := rfl
theorem slc_lst {ds : List D} {p : Nat} : slcD (.lst ds) none (some (p : Int)) = some (.fr (.lst (ds.take p))) := by
  show some (Op.fr (.lst (cutD ds none (some (p : Int))))) = _
  unfold cutD
  rw [HT.sIx_nat, HT.sIx_none, List.drop_zero, Nat.sub_zero]
  by_cases h : p ≤ ds.length
  · rw [Nat.min_eq_left h]
  · rw [Nat.min_eq_right (by omega), List.take_length, List.take_of_length_le (by omega)]
def Wish.cells : Wish → List (List Nat)
  | .unlike cs => cs
  | .many _ cs _ _ => cs
  | .sum ts _ _ => ts.map (·.2)
  | .table cs _ => cs
  | .way cs _ _ => cs
  | .behind cs _ => cs
  | .same c _ w => c :: w.cells
def Wish.deep : Wish → Nat
  | .same _ _ w => w.deep + 1
  | _ => 0
/-- the helpers of wishes -/
structure BigT (T : Tab) : Prop where
  D : T.F "_law_draw" = some ⟨5, 2, drawC⟩
  N : T.F "_law_number" = some ⟨3, 2, numberC⟩
  Ns : T.F "_law_numbers" = some ⟨5, 2, numbersC⟩
  M : T.F "_law_many" = some ⟨2, 2, manyC⟩
  S : T.F "_law_big_sum" = some ⟨6, 2, bigSumC⟩
  R : T.F "_law_big_rows" = some ⟨9, 3, bigRowsC⟩
  W : T.F "_law_big_way" = some ⟨7, 2, bigWayC⟩
  B : T.F "_law_big_wish" = some ⟨6, 3, bigWishC⟩
section
variable {T : Tab} {k : Nat}
theorem bigWishG (B : BigT T) {S : Sto} {n m : Nat} {ns : List (List Nat)} {s : Str} {Q : Op → Sto → Prop} (hd : Dl S n m) (n0 : 1 ≤ ns.length) (n1 : ns.length ≤ 100)
    (q : ∀ (w : Wish) S', (∀ c ∈ w.cells, c ∈ ns) → w.cells.length ≤ 12 → w.deep = 0 → Dl S' n m → Dq S S' n m → Q (.fz w.d) S')
    (qs : s ∉ six → ∀ (cs : List (List Nat)) S', Dl S' n m → Dq S S' n m → WSs T (k + 5) bigWishTail [.va (.ref n), .va (.lst (ns.map strD)), .va (.str s), .va (tupS cs), .no, .no] S' (retQ Q)) :
    WF T (k + 6) "_law_big_wish" [.ref n, .lst (ns.map strD), .str s] S Q := by
  refine wf_def B.B rfl ?_
  show WSs T (k + 5) bigWishC [.va (.ref n), .va (.lst (ns.map strD)), .va (.str s), .no, .no, .no] S (retQ Q)
  unfold bigWishC
  simp only [wss_cons, ws_asg, we_bf, we_slc, we_var, wo_none, wo_some, we_bop, we_int, we_call, wl_cons, wl_nil, we_bf2, List.getElem?_cons_zero, List.getElem?_cons_succ, slV_va, dv_fz, look_int, look_lst, ob_some, len_lst, List.length_map, min2_ok]
  refine draw_ok B.D hd (by split <;> omega) (log_64 (by split <;> omega)) fun v S1 v0 v1 d1 e1 => ?_
  obtain ⟨p, hp⟩ : ∃ p : Nat, 1 + v = (p : Int) := ⟨(1 + v).toNat, by omega⟩
  have p1 : 1 ≤ p := by omega
  have p12 : p ≤ 12 := by
    split at v1 <;> omega
  have tc : ∀ cs : List (List Nat), slcD (.lst (cs.map strD)) none (some (p : Int)) = some (.fr (.lst ((cs.take p).map strD))) := fun cs => by
    rw [List.map_take]
    exact slc_lst
  simp only [cont_int, ob_some, bop_add, hp, asI_int, cont_lst, tc, look_fr, tup_lst, dv_fz, seqQ_nx, List.set_cons_succ, List.set_cons_zero]
  have lc : (ns.take p).length ≤ 12 := by rw [List.length_take]; omega
  have lc1 : 1 ≤ (ns.take p).length := by rw [List.length_take]; omega
  show WSs T (k + 5) _ [.va (.ref n), .va (.lst (ns.map strD)), .va (.str s), .va (tupS (ns.take p)), .no, .no] S1 (retQ Q)
  have hsub : ∀ c ∈ ns.take p, c ∈ ns := fun c hc => List.mem_of_mem_take hc
  generalize ns.take p = cs at lc lc1 hsub
  have lk : ∀ ρ S, look ρ S (.fz (tupS cs)) = some (tupS cs) := fun _ _ => rfl
  have ln : bfD .len (tupS cs) = some (.fz (.int (cs.length : Nat))) := by
    show bfD .len (.tup (cs.map strD)) = _
    rw [len_tup, List.length_map]
  have two : 2 ≤ sizeLine := by decide
  simp only [wss_cons, wss_nil, seqQ_nx, seqQ_nil, ws_ife, we_cmp, we_var, we_str, List.getElem?_cons_zero, List.getElem?_cons_succ, slV_va, look_str, ob_some, cmp_eqS, asB_bl]
  by_cases h1 : s = "unlike"
  · rw [if_pos (decide_eq_true h1)]
    simp only [ws_ret, we_tup, wl_cons, wl_nil, we_str, we_var, List.getElem?_cons_zero, List.getElem?_cons_succ, slV_va, dv_fz]
    refine ⟨by show 2 ≤ _; decide, ?_⟩
    simp only [retO_fz, seqQ_rt, retQ_rt]
    exact q (.unlike cs) S1 hsub lc rfl d1 e1
  rw [if_neg (by simpa using h1)]
  by_cases h2 : s = "many"
  · rw [if_pos (decide_eq_true h2)]
    simp only [ws_asg, we_bf, we_call, wl_cons, wl_nil, we_var, List.getElem?_cons_zero, slV_va, dv_fz, we_bop, we_int, cont_int, ob_some, pow_9]
    refine num_ok B.D B.N d1 (by decide) (by decide) fun a S2 a0 a1 d2 e2 => ?_
    simp only [look_int, ob_some, abs_int, dv_fz, seqQ_nx, wss_cons, seqQ_nil, List.set_cons_succ, List.set_cons_zero, ws_ret, we_tup, wl_cons, wl_nil, we_str, we_call, we_var, List.getElem?_cons_zero, List.getElem?_cons_succ, slV_va, we_int]
    refine many_ok B.D B.M d2 (by decide) (by decide) fun c S3 c0 c1 d3 e3 => ?_
    rw [dv_fz]
    refine nums_ok B.D B.N B.Ns d3 c0 c1 fun is S4 _ _ _ d4 e4 => ?_
    simp only [dv_fz, we_bf, we_call, wl_cons, wl_nil, we_var, List.getElem?_cons_zero, List.getElem?_cons_succ, slV_va, we_bop, we_int, cont_int, ob_some, pow_9]
    refine num_ok B.D B.N d4 (by decide) (by decide) fun b S5 b0 b1 d5 e5 => ?_
    simp only [look_int, ob_some, abs_int, dv_fz]
    refine ⟨by show 5 ≤ _; decide, ?_⟩
    simp only [retO_fz, seqQ_rt, retQ_rt]
    exact q (.many is cs _ _) S5 hsub lc rfl d5 ((((e1.trans e2).trans e3).trans e4).trans e5)
  rw [if_neg (by simpa using h2)]
  by_cases h3 : s = "sum"
  · rw [if_pos (decide_eq_true h3)]
    simp only [ws_ret, we_call, wl_cons, wl_nil, we_var, List.getElem?_cons_zero, List.getElem?_cons_succ, slV_va, dv_fz]
    refine bigSum_ok B.D B.N B.S d1 (by omega) fun ts lo hi S2 hts _ _ d2 e2 => ?_
    simp only [retO_fz, seqQ_rt, retQ_rt]
    have hts' : (Wish.sum ts lo hi).cells = cs.take 6 := hts
    exact q (.sum ts lo hi) S2 (by rw [hts']; exact fun c hc => hsub c (List.mem_of_mem_take hc)) (by rw [hts', List.length_take]; omega) rfl d2 (e1.trans e2)
  rw [if_neg (by simpa using h3)]
  by_cases h4 : s = "table"
  · rw [if_pos (decide_eq_true h4)]
    simp only [ws_ret, we_tup, we_call, wl_cons, wl_nil, we_str, we_var, List.getElem?_cons_zero, List.getElem?_cons_succ, slV_va, dv_fz, we_bf, lk, ob_some, ln, we_int]
    refine many_ok B.D B.M d1 (by decide) (by decide) fun c S3 c0 c1 d3 e3 => ?_
    rw [dv_fz]
    refine bigRows_ok B.D B.N B.Ns B.R d3 (by omega) (by omega) c0 c1 fun rows S4 _ _ _ d4 e4 => ?_
    rw [dv_fz]
    refine ⟨by show 3 ≤ _; decide, ?_⟩
    simp only [retO_fz, seqQ_rt, retQ_rt]
    exact q (.table cs rows) S4 hsub lc rfl d4 ((e1.trans e3).trans e4)
  rw [if_neg (by simpa using h4)]
  by_cases h5 : s = "way"
  · rw [if_pos (decide_eq_true h5)]
    simp only [ws_ret, we_call, wl_cons, wl_nil, we_var, List.getElem?_cons_zero, List.getElem?_cons_succ, slV_va, dv_fz]
    refine bigWay_ok B.D B.N B.Ns B.M B.W d1 fun steps ends S2 d2 e2 => ?_
    simp only [retO_fz, seqQ_rt, retQ_rt]
    exact q (.way cs steps ends) S2 hsub lc rfl d2 (e1.trans e2)
  rw [if_neg (by simpa using h5)]
  by_cases h6 : s = "behind"
  · rw [if_pos (decide_eq_true h6)]
    simp only [ws_ret, we_tup, we_call, wl_cons, wl_nil, we_str, we_var, List.getElem?_cons_zero, List.getElem?_cons_succ, slV_va, dv_fz, we_bop, we_int, cont_int, ob_some, pow_9]
    refine num_ok B.D B.N d1 (by decide) (by decide) fun g S2 _ _ d2 e2 => ?_
    rw [dv_fz]
    refine ⟨by show 3 ≤ _; decide, ?_⟩
    simp only [retO_fz, seqQ_rt, retQ_rt]
    exact q (.behind cs g) S2 hsub lc rfl d2 (e1.trans e2)
  rw [if_neg (by simpa using h6)]
  have := qs (by simp only [six, List.mem_cons, List.not_mem_nil, or_false, not_or]; exact ⟨h1, h2, h3, h4, h5, h6⟩) cs S1 d1 e1
  unfold bigWishTail at this
  rw [wss_cons] at this
  exact this
theorem bigWish_ok (B : BigT T) {S : Sto} {n m : Nat} {ns : List (List Nat)} {s : Str} {Q : Op → Sto → Prop} (hd : Dl S n m) (n0 : 2 ≤ ns.length) (n1 : ns.length ≤ 100)
    (q : ∀ (w : Wish) S', (∀ c ∈ w.cells, c ∈ ns) → w.cells.length ≤ 13 → w.deep ≤ 1 → Dl S' n m → Dq S S' n m → Q (.fz w.d) S') : WF T (k + 7) "_law_big_wish" [.ref n, .lst (ns.map strD), .str s] S Q := by
  refine bigWishG (k := k + 1) B hd (by omega) n1 (fun w S' h1 h2 h3 => q w S' h1 (by omega) (by omega)) fun _ cs S1 d1 e1 => ?_
  have hne : ns ≠ [] := fun z => by rw [z] at n0; simp at n0
  have sl := sub_last hne
  have cut : slcD (.lst (ns.map strD)) none (some (-1)) = some (.fr (.lst (ns.dropLast.map strD))) := by
    show some (Op.fr (.lst (cutD (ns.map strD) none (some (-1))))) = _
    have e : HT.sIx (ns.map strD).length (ns.map strD).length (some (-1)) = ns.length - 1 := by
      rw [List.length_map]
      show (if (-1 : Int) < 0 then ((-1 : Int) + (ns.length : Int)).toNat else min (-1 : Int).toNat ns.length) = _
      rw [if_pos (by decide)]
      omega
    unfold cutD
    rw [e, HT.sIx_none, List.drop_zero, Nat.sub_zero, List.dropLast_eq_take, List.map_take]
  unfold bigWishTail
  simp only [wss_cons, seqQ_nil, ws_asg, we_sub, we_lst, wl_cons, wl_nil, we_str, dv_fz, we_call, we_var, List.getElem?_cons_zero, slV_va, we_int]
  refine ⟨by show 6 ≤ _; decide, draw_ok B.D d1 (by decide) (by decide) fun v S2 v0 v1 d2 e2 => ?_⟩
  obtain ⟨g, eg⟩ := atI_get (xs := six.map D.str) v0 (by exact v1)
  have eg : subD (.lst [.str "unlike", .str "many", .str "sum", .str "table", .str "way", .str "behind"]) (.int v) = some (.str (six[v.toNat]'(by simpa using g))) := by
    show atI (six.map D.str) v = _
    rw [eg, List.getElem_map]
  have hs6 : six[v.toNat]'(by simpa using g) ∈ six := List.getElem_mem _
  generalize six[v.toNat]'(by simpa using g) = s2 at eg hs6
  simp only [cont_fr, ob_some, dv_fz, eg, seqQ_nx, List.set_cons_succ, List.set_cons_zero, wss_cons, seqQ_nil, ws_ret, we_tup, wl_cons, wl_nil, we_str, we_sub, we_var, List.getElem?_cons_zero, List.getElem?_cons_succ, slV_va, we_neg, we_int, asI_int, cont_lst, sl, we_call]
  refine many_ok B.D B.M d2 (by decide) (by decide) fun c S3 c0 c1 d3 e3 => ?_
  rw [dv_fz]
  refine nums_ok B.D B.N B.Ns d3 c0 c1 fun is S4 _ _ _ d4 e4 => ?_
  simp only [dv_fz, we_call, wl_cons, wl_nil, we_var, we_slc, wo_none, wo_some, we_neg, we_int, asI_int, List.getElem?_cons_zero, List.getElem?_cons_succ, slV_va, cont_lst, ob_some, cut, dv_fr]
  refine bigWishG (k := k) B d4 (by rw [List.length_dropLast]; omega) (by rw [List.length_dropLast]; omega) (fun w S5 hw1 hw2 hw3 d5 e5 => ?_) fun z => absurd hs6 z
  rw [dv_fz]
  refine ⟨by show 4 ≤ _; decide, ?_⟩
  rw [retO_fz, retQ_rt]
  refine q (.same (ns.getLast hne) is w) S5 (fun c hc => ?_) (by show w.cells.length + 1 ≤ 13; omega) (by show w.deep + 1 ≤ 1; omega) d5 ((((e1.trans e2).trans e3).trans e4).trans e5)
  rcases List.mem_cons.mp (show c ∈ ns.getLast hne :: w.cells from hc) with z | z
  · rw [z]; exact List.getLast_mem hne
  · exact List.dropLast_subset _ (hw1 c z)
end
end Sk

namespace Lw
open PySem PySem.Spec PyProof.Rows L2 Sk
def top (i : Nat) : Stmt := PySem.Challenge.pw_seekhall_k03_cells_of_a_wish.main.body.getD i (.Pass ⟨0, 0, 0, 0⟩)
def c_cells_of : List CS := [
  .ife (.cmp .eq (.sub (.var 0) (.int 0)) (.str "many"))
  [.ret (.sub (.var 0) (.int 2))]
  [],
  .ife (.cmp .eq (.sub (.var 0) (.int 0)) (.str "sum"))
  [.ret (.bf .tuple (.lc (.sub (.var 1) (.int 1)) (.one 1) (.seq (.sub (.var 0) (.int 1))) []))]
  [],
  .ife (.cmp .eq (.sub (.var 0) (.int 0)) (.str "same"))
  [.ret (.bop .add (.tup [.sub (.var 0) (.int 1)]) (.call "cells_of" [.sub (.var 0) (.int 3)]))]
  [],
  .ret (.sub (.var 0) (.int 1))]
def d_cells_of : Dn := ⟨"cells_of", ["wish", "term"], ["wish"], c_cells_of, defArgs (top 1), defBody (top 1), defScope (top 1)⟩
theorem b_cells_of : (d_cells_of).Bd := fun _ _ _ _ _ _ us hl => match us, hl with | [_], _ => rfl
theorem o_cells_of : (d_cells_of).ok = true := by decide +kernel
def c__law_deal : List CS := [
  .asg 2 (.lc (.bf2 .max2 (.var 3) (.bop .sub (.int 0) (.var 3))) (.one 3) (.seq (.slc (.var 0) (some (.var 1)) (some (.int 63)))) []),
  .asg 4 (.bop .add (.int 7919) (.var 1)),
  .for_ (.one 3) (.seq (.var 2))
  [.asg 4 (.bop .mod (.bop .add (.bop .mul (.var 4) (.int 69621)) (.var 3)) (.int 2147483647))],
  .ret (.dis [.str "mixed", .bop .mod (.bf .sum (.slc (.var 0) none (some (.int 1)))) (.int 2), .str "seed", .var 4, .str "number", .int 0, .str "left", .al (.lrev (.var 2))])]
def d__law_deal : Dn := ⟨"_law_deal", ["_law_script", "_law_start", "_law_cells", "_law_cell", "_law_number_here"], ["_law_script", "_law_start"], c__law_deal, defArgs (top 3), defBody (top 3), defScope (top 3)⟩
theorem b__law_deal : (d__law_deal).Bd := fun _ _ _ _ _ _ us hl => match us, hl with | [_, _], _ => rfl
theorem o__law_deal : (d__law_deal).ok = true := by decide +kernel
def c__law_draw : List CS := [
  .whl (.and (.cmp .eq (.sub (.var 0) (.str "number")) (.int 0)) (.and (.cmp .gt (.bf .len (.sub (.var 0) (.str "left"))) (.int 0)) (.cmp .eq (.sub (.var 0) (.str "mixed")) (.int 0))))
  [.setI (.var 0) (.str "number") (.mt .pop (.sub (.var 0) (.str "left")) [])],
  .asg 2 (.sub (.var 0) (.str "number")),
  .ife (.cmp .gt (.var 2) (.int 0))
  [.setI (.var 0) (.str "number") (.bop .fdiv (.var 2) (.var 1)), .ret (.bop .mod (.var 2) (.var 1))]
  [],
  .asg 3 (.bop .mod (.bop .add (.bop .mul (.sub (.var 0) (.str "seed")) (.int 48271)) (.int 7919)) (.int 2147483647)),
  .setI (.var 0) (.str "seed") (.bop .mod (.bop .add (.bop .mul (.var 3) (.int 40692)) (.int 104729)) (.int 2147483399)),
  .asg 4 (.bop .mod (.bop .mul (.sub (.var 0) (.str "seed")) (.sub (.var 0) (.str "seed"))) (.int 2147483563)),
  .ret (.bop .mod (.bop .add (.bop .mul (.bop .mod (.bop .mul (.var 3) (.var 3)) (.int 2147483629)) (.int 2147483563)) (.var 4)) (.var 1))]
def d__law_draw : Dn := ⟨"_law_draw", ["_law_deal_here", "_law_many_here", "_law_number_here", "_law_one", "_law_other"], ["_law_deal_here", "_law_many_here"], c__law_draw, defArgs (top 4), defBody (top 4), defScope (top 4)⟩
theorem b__law_draw : (d__law_draw).Bd := fun _ _ _ _ _ _ us hl => match us, hl with | [_, _], _ => rfl
theorem o__law_draw : (d__law_draw).ok = true := by decide +kernel
def c__law_names : List CS := [
  .asg 2 (.str "abcdefghijklmnopqrstuvwxyz"),
  .asgO 3 (.lst []),
  .for_ (.one 4) (.rng (.var 1))
  [.asg 5 (.mt .join (.str "") [.lc (.sub (.var 2) (.call "_law_draw" [.var 0, .int 26])) (.one 6) (.rng (.bop .add (.int 1) (.call "_law_draw" [.var 0, .int 8]))) []]), .ife (.and (.cmp .gt (.var 4) (.int 0)) (.cmp .eq (.call "_law_draw" [.var 0, .int 2]) (.int 0)))
  [.asg 7 (.call "_law_draw" [.var 0, .bf .len (.sub (.rd 3) (.neg (.int 1)))]), .asg 5 (.bop .add (.bop .add (.slc (.sub (.rd 3) (.neg (.int 1))) none (some (.var 7))) (.sub (.var 5) (.int 0))) (.slc (.sub (.rd 3) (.neg (.int 1))) (some (.bop .add (.var 7) (.int 1))) none))]
  [], .whl (.orr (.cmp .inn (.var 5) (.rd 3)) (.cmp .inn (.var 5) (.lst [.str "in", .str "from", .str "to", .str "end"])))
  [.asg 5 (.bop .add (.sub (.var 2) (.bop .mod (.bop .add (.mt .index (.var 2) [.sub (.var 5) (.int 0)]) (.int 1)) (.int 26))) (.slc (.var 5) (some (.int 1)) none))], .xpr (.mt .append (.rd 3) [.var 5])],
  .ret (.mv 3)]
def d__law_names : Dn := ⟨"_law_names", ["_law_deal_here", "_law_many_here", "_law_letters", "_law_names_here", "_law_k", "_law_word", "_law_j", "_law_place"], ["_law_deal_here", "_law_many_here"], c__law_names, defArgs (top 5), defBody (top 5), defScope (top 5)⟩
theorem b__law_names : (d__law_names).Bd := fun _ _ _ _ _ _ us hl => match us, hl with | [_, _], _ => rfl
theorem o__law_names : (d__law_names).ok = true := by decide +kernel
def c__law_number : List CS := [
  .asg 2 (.call "_law_draw" [.var 0, .int 3]),
  .ife (.cmp .eq (.var 2) (.int 0))
  [.ret (.bop .sub (.call "_law_draw" [.var 0, .int 9]) (.int 4))]
  [],
  .ife (.cmp .eq (.var 2) (.int 1))
  [.ret (.sub (.lst [.var 1, .neg (.var 1), .bop .sub (.var 1) (.int 1), .bop .sub (.int 1) (.var 1)]) (.call "_law_draw" [.var 0, .int 4]))]
  [],
  .ret (.bop .sub (.call "_law_draw" [.var 0, .bop .add (.bop .mul (.int 2) (.var 1)) (.int 1)]) (.var 1))]
def d__law_number : Dn := ⟨"_law_number", ["_law_deal_here", "_law_most", "_law_way"], ["_law_deal_here", "_law_most"], c__law_number, defArgs (top 6), defBody (top 6), defScope (top 6)⟩
theorem b__law_number : (d__law_number).Bd := fun _ _ _ _ _ _ us hl => match us, hl with | [_, _], _ => rfl
theorem o__law_number : (d__law_number).ok = true := by decide +kernel
def c__law_numbers : List CS := [
  .asg 2 (.call "_law_number" [.var 0, .int 999000]),
  .asgO 3 (.lst []),
  .for_ (.one 4) (.rng (.var 1))
  [.xpr (.mt .insert (.rd 3) [.call "_law_draw" [.var 0, .bop .add (.bf .len (.rd 3)) (.int 1)], .var 2]), .asg 2 (.bop .add (.bop .add (.var 2) (.int 1)) (.sub (.lst [.int 0, .int 0, .call "_law_draw" [.var 0, .int 16]]) (.call "_law_draw" [.var 0, .int 3])))],
  .ret (.bf .tuple (.rd 3))]
def d__law_numbers : Dn := ⟨"_law_numbers", ["_law_deal_here", "_law_many_here", "_law_low", "_law_found", "_law_k"], ["_law_deal_here", "_law_many_here"], c__law_numbers, defArgs (top 7), defBody (top 7), defScope (top 7)⟩
theorem b__law_numbers : (d__law_numbers).Bd := fun _ _ _ _ _ _ us hl => match us, hl with | [_, _], _ => rfl
theorem o__law_numbers : (d__law_numbers).ok = true := by decide +kernel
def c__law_many : List CS := [
  .ret (.sub (.lst [.call "_law_draw" [.var 0, .bop .add (.bf2 .min2 (.var 1) (.int 4)) (.int 1)], .call "_law_draw" [.var 0, .bop .add (.var 1) (.int 1)], .var 1]) (.bop .fdiv (.call "_law_draw" [.var 0, .int 8]) (.int 3)))]
def d__law_many : Dn := ⟨"_law_many", ["_law_deal_here", "_law_most"], ["_law_deal_here", "_law_most"], c__law_many, defArgs (top 8), defBody (top 8), defScope (top 8)⟩
theorem b__law_many : (d__law_many).Bd := fun _ _ _ _ _ _ us hl => match us, hl with | [_, _], _ => rfl
theorem o__law_many : (d__law_many).ok = true := by decide +kernel
def c__law_big_sum : List CS := [
  .asgO 2 (.lst []),
  .for_ (.one 3) (.seq (.slc (.var 1) none (some (.int 6))))
  [.asg 4 (.call "_law_number" [.var 0, .bop .pow (.int 10) (.int 6)]), .xpr (.mt .append (.rd 2) [.tup [.bop .add (.var 4) (.bf .int (.cmp .eq (.var 4) (.int 0))), .var 3]])],
  .asg 5 (.lst [.call "_law_number" [.var 0, .bop .pow (.int 10) (.int 13)], .non, .call "_law_number" [.var 0, .bop .pow (.int 10) (.int 13)]]),
  .ret (.tup [.str "sum", .bf .tuple (.rd 2), .sub (.var 5) (.call "_law_draw" [.var 0, .int 2]), .sub (.var 5) (.bop .add (.int 1) (.call "_law_draw" [.var 0, .int 2]))])]
def d__law_big_sum : Dn := ⟨"_law_big_sum", ["_law_deal_here", "_law_some", "_law_terms", "_law_name", "_law_a", "_law_bounds"], ["_law_deal_here", "_law_some"], c__law_big_sum, defArgs (top 9), defBody (top 9), defScope (top 9)⟩
theorem b__law_big_sum : (d__law_big_sum).Bd := fun _ _ _ _ _ _ us hl => match us, hl with | [_, _], _ => rfl
theorem o__law_big_sum : (d__law_big_sum).ok = true := by decide +kernel
def c__law_big_rows : List CS := [
  .asg 3 (.call "_law_numbers" [.var 0, .var 2]),
  .asg 4 (.call "_law_draw" [.var 0, .var 1]),
  .asgO 5 (.lst []),
  .for_ (.one 6) (.seq (.var 3))
  [.asgO 7 (.lc (.call "_law_number" [.var 0, .bop .pow (.int 10) (.int 6)]) (.one 8) (.rng (.var 1)) []), .setI (.rd 7) (.var 4) (.var 6), .xpr (.mt .append (.rd 5) [.bf .tuple (.rd 7)])],
  .ret (.bf .tuple (.rd 5))]
def d__law_big_rows : Dn := ⟨"_law_big_rows", ["_law_deal_here", "_law_wide", "_law_many_here", "_law_first", "_law_place", "_law_rows", "_law_value", "_law_row", "_law_k"], ["_law_deal_here", "_law_wide", "_law_many_here"], c__law_big_rows, defArgs (top 10), defBody (top 10), defScope (top 10)⟩
theorem b__law_big_rows : (d__law_big_rows).Bd := fun _ _ _ _ _ _ us hl => match us, hl with | [_, _, _], _ => rfl
theorem o__law_big_rows : (d__law_big_rows).ok = true := by decide +kernel
def c__law_big_way : List CS := [
  .asg 2 (.bop .add (.int 1) (.call "_law_draw" [.var 0, .int 21])),
  .asg 3 (.call "_law_numbers" [.var 0, .int 60]),
  .asgO 4 (.lst []),
  .for_ (.one 5) (.rng (.call "_law_many" [.var 0, .int 60]))
  [.xpr (.mt .append (.rd 4) [.tup [.bop .mod (.bop .add (.var 5) (.bop .fdiv (.var 5) (.var 2))) (.var 2), .sub (.var 3) (.bop .fdiv (.var 5) (.var 2)), .call "_law_draw" [.var 0, .int 21]]])],
  .asgO 6 (.lst []),
  .for_ (.one 5) (.rng (.call "_law_many" [.var 0, .int 21]))
  [.xpr (.mt .insert (.rd 6) [.call "_law_draw" [.var 0, .bop .add (.bf .len (.rd 6)) (.int 1)], .bop .mod (.bop .mul (.var 5) (.int 8)) (.int 21)])],
  .ret (.tup [.str "way", .var 1, .bf .tuple (.rd 4), .bf .tuple (.rd 6)])]
def d__law_big_way : Dn := ⟨"_law_big_way", ["_law_deal_here", "_law_some", "_law_states", "_law_values", "_law_steps", "_law_k", "_law_ends"], ["_law_deal_here", "_law_some"], c__law_big_way, defArgs (top 11), defBody (top 11), defScope (top 11)⟩
theorem b__law_big_way : (d__law_big_way).Bd := fun _ _ _ _ _ _ us hl => match us, hl with | [_, _], _ => rfl
theorem o__law_big_way : (d__law_big_way).ok = true := by decide +kernel
def c__law_big_wish : List CS := [
  .asg 3 (.bf .tuple (.slc (.var 1) none (some (.bop .add (.int 1) (.call "_law_draw" [.var 0, .bf2 .min2 (.int 12) (.bf .len (.var 1))]))))),
  .ife (.cmp .eq (.var 2) (.str "unlike"))
  [.ret (.tup [.str "unlike", .var 3])]
  [],
  .ife (.cmp .eq (.var 2) (.str "many"))
  [.asg 4 (.bf .abs (.call "_law_number" [.var 0, .bop .pow (.int 10) (.int 9)])), .ret (.tup [.str "many", .call "_law_numbers" [.var 0, .call "_law_many" [.var 0, .int 60]], .var 3, .var 4, .bf .abs (.call "_law_number" [.var 0, .bop .pow (.int 10) (.int 9)])])]
  [],
  .ife (.cmp .eq (.var 2) (.str "sum"))
  [.ret (.call "_law_big_sum" [.var 0, .var 3])]
  [],
  .ife (.cmp .eq (.var 2) (.str "table"))
  [.ret (.tup [.str "table", .var 3, .call "_law_big_rows" [.var 0, .bf .len (.var 3), .call "_law_many" [.var 0, .int 60]]])]
  [],
  .ife (.cmp .eq (.var 2) (.str "way"))
  [.ret (.call "_law_big_way" [.var 0, .var 3])]
  [],
  .ife (.cmp .eq (.var 2) (.str "behind"))
  [.ret (.tup [.str "behind", .var 3, .call "_law_number" [.var 0, .bop .pow (.int 10) (.int 9)]])]
  [],
  .asg 5 (.sub (.lst [.str "unlike", .str "many", .str "sum", .str "table", .str "way", .str "behind"]) (.call "_law_draw" [.var 0, .int 6])),
  .ret (.tup [.str "same", .sub (.var 1) (.neg (.int 1)), .call "_law_numbers" [.var 0, .call "_law_many" [.var 0, .int 60]], .call "_law_big_wish" [.var 0, .slc (.var 1) none (some (.neg (.int 1))), .var 5]])]
def d__law_big_wish : Dn := ⟨"_law_big_wish", ["_law_deal_here", "_law_names_here", "_law_sort", "_law_some", "_law_low", "_law_inner"], ["_law_deal_here", "_law_names_here", "_law_sort"], c__law_big_wish, defArgs (top 12), defBody (top 12), defScope (top 12)⟩
theorem b__law_big_wish : (d__law_big_wish).Bd := fun _ _ _ _ _ _ us hl => match us, hl with | [_, _, _], _ => rfl
theorem o__law_big_wish : (d__law_big_wish).ok = true := by decide +kernel
def c__law_due : List CS := [
  .ife (.cmp .eq (.sub (.var 0) (.int 0)) (.str "many"))
  [.ret (.bf .list (.sub (.var 0) (.int 2)))]
  [],
  .ife (.cmp .eq (.sub (.var 0) (.int 0)) (.str "sum"))
  [.asgO 1 (.lst []), .for_ (.many [2, 3]) (.seq (.sub (.var 0) (.int 1)))
  [.xpr (.mt .append (.rd 1) [.var 3])], .ret (.mv 1)]
  [],
  .ife (.cmp .eq (.sub (.var 0) (.int 0)) (.str "same"))
  [.ret (.bop .add (.lst [.sub (.var 0) (.int 1)]) (.call "_law_due" [.sub (.var 0) (.int 3)]))]
  [],
  .ret (.bf .list (.sub (.var 0) (.int 1)))]
def d__law_due : Dn := ⟨"_law_due", ["_law_wish", "_law_found", "_law_a", "_law_name"], ["_law_wish"], c__law_due, defArgs (top 13), defBody (top 13), defScope (top 13)⟩
theorem b__law_due : (d__law_due).Bd := fun _ _ _ _ _ _ us hl => match us, hl with | [_], _ => rfl
theorem o__law_due : (d__law_due).ok = true := by decide +kernel
def c_law : List CS := [
  .asg 1 (.al (.call "_law_deal" [.var 0, .int 1])),
  .asg 2 (.call "_law_names" [.var 1, .int 14]),
  .for_ (.one 3) (.rng (.int 4))
  [.asg 4 (.sub (.lst [.str "unlike", .str "many", .str "sum", .str "table", .str "way", .str "behind", .str "same"]) (.call "_law_draw" [.var 1, .int 7])), .asg 5 (.call "_law_draw" [.var 1, .int 14]), .asg 6 (.call "_law_big_wish" [.var 1, .bop .add (.slc (.var 2) (some (.var 5)) none) (.slc (.var 2) none (some (.var 5))), .var 4]), .asg 7 (.call "cells_of" [.var 6]), .ife (.orr (.no (.bf (.isa "tuple") (.var 7))) (.cmp .ne (.bf .list (.var 7)) (.call "_law_due" [.var 6])))
  [.ret (.bl false)]
  []],
  .ret (.bl true)]
def d_law : Dn := ⟨"law", ["_law_script", "_law_deal_here", "_law_names_here", "_law_k", "_law_sort", "_law_turn", "_law_wish", "_law_told"], ["_law_script"], c_law, defArgs (top 14), defBody (top 14), defScope (top 14)⟩
theorem b_law : (d_law).Bd := fun _ _ _ _ _ _ us hl => match us, hl with | [_], _ => rfl
theorem o_law : (d_law).ok = true := by decide +kernel
def ds : List Dn := [d_cells_of, d__law_deal, d__law_draw, d__law_names, d__law_number, d__law_numbers, d__law_many, d__law_big_sum, d__law_big_rows, d__law_big_way, d__law_big_wish, d__law_due, d_law]
def cs : List (Str × D) := []
abbrev T : Tab := mkT ds cs
def fa : List He.Fa := faOf ds
def fn : List He.DefD := ds.map Dn.def_
def loose : List PySem.Str := ["cells_of", "_law_deal", "_law_draw", "_law_names", "_law_number", "_law_numbers", "_law_many", "_law_big_sum", "_law_big_rows", "_law_big_way", "_law_big_wish", "_law_due"]
abbrev R : PySem.W.OpenRow := PySem.W.OpenLaw.row PySem.Challenge.rw_seekhall_k03_cells_of_a_wish
abbrev hk : PySem.W.Hook := hookC 4 fa fn cs
def obh (s : PySem.W.SharedT) : AlC := obsCG 4 fa fn cs (HandSHeadRun.getT s)
theorem obh_eq (s : PySem.W.SharedT) : obh s = hk.obs s.abs := obsCG_eq (HandSHeadRun.getT_eq s)
theorem run (w : World) : HandSHeadRun.RunEq R (PySem.W.view R.prog [14]) hk obh 20000 loose w := by
  intro os
  kernel_rfl
theorem oks : ∀ d ∈ ds, d.ok = true ∧ d.Bd := by
  intro d hd
  simp only [ds, List.mem_cons, List.not_mem_nil, or_false] at hd
  rcases hd with rfl | rfl | rfl | rfl | rfl | rfl | rfl | rfl | rfl | rfl | rfl | rfl | rfl
  · exact ⟨o_cells_of, b_cells_of⟩
  · exact ⟨o__law_deal, b__law_deal⟩
  · exact ⟨o__law_draw, b__law_draw⟩
  · exact ⟨o__law_names, b__law_names⟩
  · exact ⟨o__law_number, b__law_number⟩
  · exact ⟨o__law_numbers, b__law_numbers⟩
  · exact ⟨o__law_many, b__law_many⟩
  · exact ⟨o__law_big_sum, b__law_big_sum⟩
  · exact ⟨o__law_big_rows, b__law_big_rows⟩
  · exact ⟨o__law_big_way, b__law_big_way⟩
  · exact ⟨o__law_big_wish, b__law_big_wish⟩
  · exact ⟨o__law_due, b__law_due⟩
  · exact ⟨o_law, b_law⟩
theorem hDeal : T.F "_law_deal" = some ⟨5, 2, dealC⟩ := by kernel_rfl
theorem hNames : T.F "_law_names" = some ⟨8, 2, namesC⟩ := by kernel_rfl
theorem hBig : BigT T := ⟨by kernel_rfl, by kernel_rfl, by kernel_rfl, by kernel_rfl, by kernel_rfl, by kernel_rfl, by kernel_rfl, by kernel_rfl⟩
theorem hCells : T.F "cells_of" = some ⟨2, 1, c_cells_of⟩ := by kernel_rfl
theorem hDue : T.F "_law_due" = some ⟨4, 1, c__law_due⟩ := by kernel_rfl
theorem hLaw : T.F "law" = some ⟨8, 1, c_law⟩ := by kernel_rfl
theorem q1 : decide (("unlike" : Str) = "many") = false := by decide +kernel
theorem q2 : decide (("unlike" : Str) = "sum") = false := by decide +kernel
theorem q3 : decide (("unlike" : Str) = "same") = false := by decide +kernel
theorem q4 : decide (("many" : Str) = "many") = true := by decide +kernel
theorem q5 : decide (("sum" : Str) = "many") = false := by decide +kernel
theorem q6 : decide (("sum" : Str) = "sum") = true := by decide +kernel
theorem q7 : decide (("table" : Str) = "many") = false := by decide +kernel
theorem q8 : decide (("table" : Str) = "sum") = false := by decide +kernel
theorem q9 : decide (("table" : Str) = "same") = false := by decide +kernel
theorem q10 : decide (("way" : Str) = "many") = false := by decide +kernel
theorem q11 : decide (("way" : Str) = "sum") = false := by decide +kernel
theorem q12 : decide (("way" : Str) = "same") = false := by decide +kernel
theorem q13 : decide (("behind" : Str) = "many") = false := by decide +kernel
theorem q14 : decide (("behind" : Str) = "sum") = false := by decide +kernel
theorem q15 : decide (("behind" : Str) = "same") = false := by decide +kernel
theorem q16 : decide (("same" : Str) = "many") = false := by decide +kernel
theorem q17 : decide (("same" : Str) = "sum") = false := by decide +kernel
theorem q18 : decide (("same" : Str) = "same") = true := by decide +kernel
def snd2 : D → Option D
  | .tup [_, c] => some c
  | _ => none
theorem snd_all (ts : List (Int × List Nat)) : (ts.map termD).filterMap snd2 = (ts.map (·.2)).map strD := by
  induction ts with
  | nil => rfl
  | cons t r ih =>
    rw [List.map_cons, List.filterMap_cons]
    show strD t.2 :: _ = _
    rw [ih]
    rfl
theorem cat_tup {xs ys : List D} (h : xs.length + ys.length ≤ 1000) : bopD .add (.tup xs) (.tup ys) = some (.fz (.tup (xs ++ ys))) := if_pos (by have := line1m; omega)
theorem cat_lst {xs ys : List D} (h : xs.length + ys.length ≤ 1000) : bopD .add (.lst xs) (.lst ys) = some (.fr (.lst (xs ++ ys))) := if_pos (by have := line1m; omega)
theorem cells_base {w : Wish} {k : Nat} {S : Sto} {Q : Op → Sto → Prop} (hj : w.deep = 0) (hl : w.cells.length ≤ 20) (q : Q (.fz (tupS w.cells)) S) : WF T (k + 1) "cells_of" [w.d] S Q := by
  refine wf_def hCells rfl ?_
  show WSs T k c_cells_of [.va w.d, .no] S (retQ Q)
  unfold c_cells_of
  have cd : ∀ ρ S, cont ρ S (.fz w.d) = some w.d := fun _ _ => by cases w <;> rfl
  simp only [wss_cons, seqQ_nil, ws_ife, we_cmp, we_sub, we_var, List.getElem?_cons_zero, slV_va, cd, ob_some, we_int, we_str, dv_fz, look_str]
  cases w with
  | unlike cs =>
    have s0 : subD (Wish.unlike cs).d (.int 0) = some (.str "unlike") := rfl
    have s1 : subD (Wish.unlike cs).d (.int 1) = some (tupS cs) := rfl
    simp only [s0, ob_some, look_str, cmp_eqS, q1, q2, q3, asB_bl, Bool.false_eq_true, if_false, wss_nil, seqQ_nx, wss_cons, seqQ_nil, ws_ife, ws_ret, we_cmp, we_sub, we_var, List.getElem?_cons_zero, slV_va, cd, we_int, we_str, dv_fz, s1, retO_fz, retQ_rt]
    exact q
  | many vs cs lo hi =>
    have s0 : subD (Wish.many vs cs lo hi).d (.int 0) = some (.str "many") := rfl
    have s1 : subD (Wish.many vs cs lo hi).d (.int 2) = some (tupS cs) := rfl
    simp only [s0, ob_some, look_str, cmp_eqS, q4, asB_bl, if_true, wss_nil, seqQ_nx, seqQ_rt, wss_cons, seqQ_nil, ws_ife, ws_ret, we_cmp, we_sub, we_var, List.getElem?_cons_zero, slV_va, cd, we_int, we_str, dv_fz, s1, retO_fz, retQ_rt]
    exact q
  | table cs rows =>
    have s0 : subD (Wish.table cs rows).d (.int 0) = some (.str "table") := rfl
    have s1 : subD (Wish.table cs rows).d (.int 1) = some (tupS cs) := rfl
    simp only [s0, ob_some, look_str, cmp_eqS, q7, q8, q9, asB_bl, Bool.false_eq_true, if_false, wss_nil, seqQ_nx, wss_cons, seqQ_nil, ws_ife, ws_ret, we_cmp, we_sub, we_var, List.getElem?_cons_zero, slV_va, cd, we_int, we_str, dv_fz, s1, retO_fz, retQ_rt]
    exact q
  | way cs steps ends =>
    have s0 : subD (Wish.way cs steps ends).d (.int 0) = some (.str "way") := rfl
    have s1 : subD (Wish.way cs steps ends).d (.int 1) = some (tupS cs) := rfl
    simp only [s0, ob_some, look_str, cmp_eqS, q10, q11, q12, asB_bl, Bool.false_eq_true, if_false, wss_nil, seqQ_nx, wss_cons, seqQ_nil, ws_ife, ws_ret, we_cmp, we_sub, we_var, List.getElem?_cons_zero, slV_va, cd, we_int, we_str, dv_fz, s1, retO_fz, retQ_rt]
    exact q
  | behind cs g =>
    have s0 : subD (Wish.behind cs g).d (.int 0) = some (.str "behind") := rfl
    have s1 : subD (Wish.behind cs g).d (.int 1) = some (tupS cs) := rfl
    simp only [s0, ob_some, look_str, cmp_eqS, q13, q14, q15, asB_bl, Bool.false_eq_true, if_false, wss_nil, seqQ_nx, wss_cons, seqQ_nil, ws_ife, ws_ret, we_cmp, we_sub, we_var, List.getElem?_cons_zero, slV_va, cd, we_int, we_str, dv_fz, s1, retO_fz, retQ_rt]
    exact q
  | same c vs w => cases hj
  | sum ts lo hi =>
    have s0 : subD (Wish.sum ts lo hi).d (.int 0) = some (.str "sum") := rfl
    have s1 : subD (Wish.sum ts lo hi).d (.int 1) = some (.tup (ts.map termD)) := rfl
    simp only [s0, ob_some, look_str, cmp_eqS, q5, q6, asB_bl, Bool.false_eq_true, if_false, if_true, wss_nil, seqQ_nx, wss_cons, seqQ_nil, ws_ife, ws_ret, we_cmp, we_bf, we_lc, wi_seq, we_sub, we_var, List.getElem?_cons_zero, slV_va, cd, we_int, we_str, dv_fz, s1, seq_tup]
    refine ⟨rfl, ?_⟩
    show WLc T k (.one 1) _ [] (ts.map termD) [] [.va (Wish.sum ts lo hi).d, .no] S _
    have hl' : ts.length ≤ 20 := by
      have : (Wish.sum ts lo hi).cells.length = ts.length := List.length_map ..
      omega
    refine wlc_each snd2 (by rw [List.length_map]; have := line1m; show 0 + _ ≤ _; omega) (fun d hd => ?_) ?_
    · obtain ⟨t, _, rfl⟩ := List.mem_map.mp hd
      show Sk.ob (some ([.va (Wish.sum ts lo hi).d, .va (termD t)] : Env')) _
      have ct : ∀ ρ S, cont ρ S (.fz (termD t)) = some (termD t) := fun _ _ => rfl
      have st1 : subD (termD t) (.int 1) = some (strD t.2) := rfl
      simp only [Sk.ob_some, wc_nil, if_true, we_sub, we_var, List.getElem?_cons_zero, List.getElem?_cons_succ, slV_va, we_int, ct, dv_fz, st1]
      exact ⟨rfl, rfl, trivial⟩
    rw [snd_all, List.nil_append]
    simp only [look_fr, Sk.ob_some, tup_lst, retO_fz, seqQ_rt, retQ_rt]
    exact q
theorem cells_ok {w : Wish} {k : Nat} {S : Sto} {Q : Op → Sto → Prop} (hj : w.deep ≤ 1) (hl : w.cells.length ≤ 20) (q : Q (.fz (tupS w.cells)) S) : WF T (k + 2) "cells_of" [w.d] S Q := by
  by_cases h0 : w.deep = 0
  · exact cells_base h0 hl q
  cases w with
  | same c vs w =>
    have hj' : w.deep = 0 := by
      have : w.deep + 1 ≤ 1 := hj
      omega
    have hl' : w.cells.length + 1 ≤ 20 := hl
    refine wf_def hCells rfl ?_
    show WSs T (k + 1) c_cells_of [.va (Wish.same c vs w).d, .no] S (retQ Q)
    unfold c_cells_of
    have cd : ∀ ρ S, cont ρ S (.fz (Wish.same c vs w).d) = some (Wish.same c vs w).d := fun _ _ => rfl
    have s0 : subD (Wish.same c vs w).d (.int 0) = some (.str "same") := rfl
    have s1 : subD (Wish.same c vs w).d (.int 1) = some (strD c) := rfl
    have s3 : subD (Wish.same c vs w).d (.int 3) = some w.d := rfl
    simp only [wss_cons, wss_nil, seqQ_nx, seqQ_nil, ws_ife, we_cmp, we_sub, we_var, List.getElem?_cons_zero, slV_va, cd, ob_some, we_int, we_str, dv_fz, s0, look_str, cmp_eqS, q16, q17, q18, asB_bl, Bool.false_eq_true, if_false, if_true, ws_ret, we_bop, we_tup, wl_cons, wl_nil, s1, we_call, s3]
    refine ⟨by show 1 ≤ _; decide, cells_base hj' (by omega) ?_⟩
    have ca : bopD .add (.tup [strD c]) (tupS w.cells) = some (.fz (tupS (c :: w.cells))) := cat_tup (by rw [List.length_map]; show 1 + _ ≤ _; omega)
    have cx : ∀ ρ S, cont ρ S (.fz (tupS w.cells)) = some (tupS w.cells) := fun _ _ => rfl
    simp only [cont_tup, ob_some, cx, ca, retO_fz, seqQ_rt, retQ_rt]
    exact q
  | _ => exact absurd rfl h0
theorem toPys_strs (cs : List (List Nat)) : toPys (cs.map strD) = some (cs.map fun c => PyData.str (st c)) := by
  induction cs with
  | nil => rfl
  | cons c r ih =>
    rw [List.map_cons, List.map_cons]
    show (match toPy (strD c), toPys (r.map strD) with
      | some x, some xs => some (x :: xs)
      | _, _ => none) = _
    rw [ih]
    rfl
theorem lay_strs {cs : List (List Nat)} (h : ∀ c ∈ cs, NmOk c) : PyData.canLayAll0 (cs.map fun c => PyData.str (st c)) = true ∧ PyData.depthAll (cs.map fun c => PyData.str (st c)) = 0 := by
  induction cs with
  | nil => exact ⟨rfl, rfl⟩
  | cons c r ih =>
    obtain ⟨i1, i2⟩ := ih fun x hx => h x (List.mem_cons_of_mem _ hx)
    have hc := (h c List.mem_cons_self).2
    constructor
    · show (PyData.strOk (st c) && PyData.canLayAll0 _) = true
      rw [i1, Bool.and_true]
      show (List.toArray c).all (· < 0x110000) = true
      rw [List.all_toArray, List.all_eq_true]
      intro x hx
      have := hc x hx
      exact decide_eq_true (by omega)
    · show max 0 (PyData.depthAll _) = 0
      rw [i2]
      rfl
theorem ne_strs {cs : List (List Nat)} (h : ∀ c ∈ cs, NmOk c) : cmpD .ne (.lst (cs.map strD)) (.lst (cs.map strD)) = some false := by
  obtain ⟨l1, l2⟩ := lay_strs h
  have tp : toPy (.lst (cs.map strD)) = some (.list (cs.map fun c => PyData.str (st c))) := by
    show (toPys (cs.map strD)).map PyData.list = _
    rw [toPys_strs]
    rfl
  have sh : SeqAt.shaped (.list (cs.map fun c => PyData.str (st c))) = true := by
    show (PyData.canLayAll0 _ && decide (PyData.depthAll _ + 1 ≤ 64)) = true
    rw [l1, l2]
    rfl
  have ev : PyData.eqv (.list (cs.map fun c => PyData.str (st c))) (.list (cs.map fun c => PyData.str (st c))) = true := SeqAt.eqv_refl _ l1
  show (deq (.lst (cs.map strD)) (.lst (cs.map strD))).map (!·) = _
  have e : deq (.lst (cs.map strD)) (.lst (cs.map strD)) = some true := by
    unfold deq
    dsimp only
    rw [tp]
    dsimp only
    rw [if_pos ⟨sh, sh⟩, ev]
  rw [e]
  rfl
theorem list_tup {ds : List D} : bfD .list (.tup ds) = some (.fr (.lst ds)) := rfl
theorem due_base {w : Wish} {k : Nat} {S : Sto} {Q : Op → Sto → Prop} (hj : w.deep = 0) (hl : w.cells.length ≤ 20) (q : Q (.fr (.lst (w.cells.map strD))) S) : WF T (k + 1) "_law_due" [w.d] S Q := by
  refine wf_def hDue rfl ?_
  show WSs T k c__law_due [.va w.d, .no, .no, .no] S (retQ Q)
  unfold c__law_due
  have cd : ∀ ρ S, cont ρ S (.fz w.d) = some w.d := fun _ _ => by cases w <;> rfl
  have lt : ∀ (cs : List (List Nat)) ρ S, look ρ S (.fz (tupS cs)) = some (.tup (cs.map strD)) := fun _ _ _ => rfl
  simp only [wss_cons, seqQ_nil, ws_ife, we_cmp, we_sub, we_var, List.getElem?_cons_zero, slV_va, cd, ob_some, we_int, we_str, dv_fz, look_str]
  cases w with
  | unlike cs =>
    have s0 : subD (Wish.unlike cs).d (.int 0) = some (.str "unlike") := rfl
    have s1 : subD (Wish.unlike cs).d (.int 1) = some (tupS cs) := rfl
    simp only [s0, ob_some, look_str, cmp_eqS, q1, q2, q3, asB_bl, Bool.false_eq_true, if_false, wss_nil, seqQ_nx, wss_cons, seqQ_nil, ws_ife, ws_ret, we_bf, we_cmp, we_sub, we_var, List.getElem?_cons_zero, slV_va, cd, we_int, we_str, dv_fz, s1, lt, list_tup, retO_fr, retQ_rt]
    exact q
  | many vs cs lo hi =>
    have s0 : subD (Wish.many vs cs lo hi).d (.int 0) = some (.str "many") := rfl
    have s1 : subD (Wish.many vs cs lo hi).d (.int 2) = some (tupS cs) := rfl
    simp only [s0, ob_some, look_str, cmp_eqS, q4, asB_bl, if_true, wss_nil, seqQ_nx, seqQ_rt, wss_cons, seqQ_nil, ws_ife, ws_ret, we_bf, we_cmp, we_sub, we_var, List.getElem?_cons_zero, slV_va, cd, we_int, we_str, dv_fz, s1, lt, list_tup, retO_fr, retQ_rt]
    exact q
  | table cs rows =>
    have s0 : subD (Wish.table cs rows).d (.int 0) = some (.str "table") := rfl
    have s1 : subD (Wish.table cs rows).d (.int 1) = some (tupS cs) := rfl
    simp only [s0, ob_some, look_str, cmp_eqS, q7, q8, q9, asB_bl, Bool.false_eq_true, if_false, wss_nil, seqQ_nx, wss_cons, seqQ_nil, ws_ife, ws_ret, we_bf, we_cmp, we_sub, we_var, List.getElem?_cons_zero, slV_va, cd, we_int, we_str, dv_fz, s1, lt, list_tup, retO_fr, retQ_rt]
    exact q
  | way cs steps ends =>
    have s0 : subD (Wish.way cs steps ends).d (.int 0) = some (.str "way") := rfl
    have s1 : subD (Wish.way cs steps ends).d (.int 1) = some (tupS cs) := rfl
    simp only [s0, ob_some, look_str, cmp_eqS, q10, q11, q12, asB_bl, Bool.false_eq_true, if_false, wss_nil, seqQ_nx, wss_cons, seqQ_nil, ws_ife, ws_ret, we_bf, we_cmp, we_sub, we_var, List.getElem?_cons_zero, slV_va, cd, we_int, we_str, dv_fz, s1, lt, list_tup, retO_fr, retQ_rt]
    exact q
  | behind cs g =>
    have s0 : subD (Wish.behind cs g).d (.int 0) = some (.str "behind") := rfl
    have s1 : subD (Wish.behind cs g).d (.int 1) = some (tupS cs) := rfl
    simp only [s0, ob_some, look_str, cmp_eqS, q13, q14, q15, asB_bl, Bool.false_eq_true, if_false, wss_nil, seqQ_nx, wss_cons, seqQ_nil, ws_ife, ws_ret, we_bf, we_cmp, we_sub, we_var, List.getElem?_cons_zero, slV_va, cd, we_int, we_str, dv_fz, s1, lt, list_tup, retO_fr, retQ_rt]
    exact q
  | same c vs w => cases hj
  | sum ts lo hi =>
    have s0 : subD (Wish.sum ts lo hi).d (.int 0) = some (.str "sum") := rfl
    have s1 : subD (Wish.sum ts lo hi).d (.int 1) = some (.tup (ts.map termD)) := rfl
    simp only [s0, ob_some, look_str, cmp_eqS, q5, q6, asB_bl, Bool.false_eq_true, if_false, if_true, wss_nil, seqQ_nx, wss_cons, seqQ_nil, ws_ife, we_cmp, we_str, ws_asgO, we_lst, wl_nil, asFr_fr, List.set_cons_succ, List.set_cons_zero, ws_for, wi_seq, we_sub, we_var, List.getElem?_cons_zero, slV_va, cd, we_int, dv_fz, s1, seq_tup]
    refine ⟨by decide, ?_⟩
    have hl' : ts.length ≤ 20 := by
      have : (Wish.sum ts lo hi).cells.length = ts.length := List.length_map ..
      omega
    refine wfor_inv (fun r ρ S' => S' = S ∧ ∃ (ds rest : List (Int × List Nat)) (a2 a3 : Sl), ds ++ rest = ts ∧ r = rest.map termD ∧ ρ = [.va (Wish.sum ts lo hi).d, .ow (.lst ((ds.map (·.2)).map strD)), a2, a3]) ⟨rfl, [], ts, .no, .no, rfl, rfl, rfl⟩ ?_ ?_
    · rintro d r ρ S' ⟨rfl, ds, rest, a2, a3, ht, er, rfl⟩
      cases rest with
      | nil => cases er
      | cons t rest =>
        rw [List.map_cons] at er
        injection er with e1 e2
        subst e1
        have hds : ds.length ≤ 20 := by
          have := congrArg List.length ht
          rw [List.length_append, List.length_cons] at this
          omega
        show Sk.ob (some ([.va (Wish.sum ts lo hi).d, .ow (.lst ((ds.map (·.2)).map strD)), .va (.int t.1), .va (strD t.2)] : Env')) _
        have ct : ∀ S, cont [.va (Wish.sum ts lo hi).d, .ow (.lst ((ds.map (·.2)).map strD)), .va (.int t.1), .va (strD t.2)] S (.sl 1) = some (.lst ((ds.map (·.2)).map strD)) := fun _ => cont_ow rfl
        have sc : ∀ S d', setC [.va (Wish.sum ts lo hi).d, .ow (.lst ((ds.map (·.2)).map strD)), .va (.int t.1), .va (strD t.2)] S (.sl 1) d' = some ([.va (Wish.sum ts lo hi).d, .ow d', .va (.int t.1), .va (strD t.2)], S) := fun _ _ => setC_ow rfl
        simp only [Sk.ob_some, wss_cons, seqQ_nil, ws_xpr, we_mt, we_rd, List.getElem?_cons_zero, List.getElem?_cons_succ, slR_ow, ct, wl_cons, wl_nil, we_var, slV_va, dv_fz, true_and]
        rw [app_lst (by rw [List.length_map, List.length_map]; omega), Sk.ob_some, afterM_some, sc, Sk.ob_some, turnQ_nx]
        exact ⟨rfl, ds ++ [t], rest, _, _, by rw [List.append_assoc]; exact ht, e2, by rw [List.map_append, List.map_append]; rfl⟩
    · rintro ρ S' ⟨rfl, ds, rest, a2, a3, ht, er, rfl⟩
      have hz : rest = [] := by
        cases rest with
        | nil => rfl
        | cons _ _ => cases er
      subst hz
      rw [List.append_nil] at ht
      subst ht
      simp only [seqQ_nx, wss_cons, seqQ_nil, ws_ret, we_mv, List.getElem?_cons_zero, List.getElem?_cons_succ, slO_ow, retO_fr, seqQ_rt, retQ_rt]
      exact q
theorem due_ok {w : Wish} {k : Nat} {S : Sto} {Q : Op → Sto → Prop} (hj : w.deep ≤ 1) (hl : w.cells.length ≤ 20) (q : Q (.fr (.lst (w.cells.map strD))) S) : WF T (k + 2) "_law_due" [w.d] S Q := by
  by_cases h0 : w.deep = 0
  · exact due_base h0 hl q
  cases w with
  | same c vs w =>
    have hj' : w.deep = 0 := by
      have : w.deep + 1 ≤ 1 := hj
      omega
    have hl' : w.cells.length + 1 ≤ 20 := hl
    refine wf_def hDue rfl ?_
    show WSs T (k + 1) c__law_due [.va (Wish.same c vs w).d, .no, .no, .no] S (retQ Q)
    unfold c__law_due
    have cd : ∀ ρ S, cont ρ S (.fz (Wish.same c vs w).d) = some (Wish.same c vs w).d := fun _ _ => rfl
    have s0 : subD (Wish.same c vs w).d (.int 0) = some (.str "same") := rfl
    have s1 : subD (Wish.same c vs w).d (.int 1) = some (strD c) := rfl
    have s3 : subD (Wish.same c vs w).d (.int 3) = some w.d := rfl
    simp only [wss_cons, wss_nil, seqQ_nx, seqQ_nil, ws_ife, we_cmp, we_sub, we_var, List.getElem?_cons_zero, slV_va, cd, ob_some, we_int, we_str, dv_fz, s0, look_str, cmp_eqS, q16, q17, q18, asB_bl, Bool.false_eq_true, if_false, if_true, ws_ret, we_bop, we_lst, wl_cons, wl_nil, s1, we_call, s3]
    refine ⟨by show 1 ≤ _; decide, due_base hj' (by omega) ?_⟩
    have ca : bopD .add (.lst [strD c]) (.lst (w.cells.map strD)) = some (.fr (.lst ((c :: w.cells).map strD))) := cat_lst (by rw [List.length_map]; show 1 + _ ≤ _; omega)
    simp only [cont_fr, ob_some, ca, retO_fr, seqQ_rt, retQ_rt]
    exact q
  | _ => exact absurd rfl h0

def sorts : List Str := ["unlike", "many", "sum", "table", "way", "behind", "same"]
theorem mem_cut {ds : List D} {lo hi : Option Int} {d : D} (h : d ∈ Sk.cutD ds lo hi) : d ∈ ds := List.mem_of_mem_drop (List.mem_of_mem_take h)
theorem cut_strs {ws : List (List Nat)} {lo hi : Option Int} : ∃ vs : List (List Nat), Sk.cutD (ws.map strD) lo hi = vs.map strD ∧ (∀ v ∈ vs, v ∈ ws) ∧ vs.length = min (HT.sIx ws.length ws.length hi - HT.sIx ws.length 0 lo) (ws.length - HT.sIx ws.length 0 lo) := by
  unfold Sk.cutD
  rw [List.length_map]
  refine ⟨(ws.drop (HT.sIx ws.length 0 lo)).take (HT.sIx ws.length ws.length hi - HT.sIx ws.length 0 lo), by rw [List.map_take, List.map_drop], fun v hv => List.mem_of_mem_drop (List.mem_of_mem_take hv), ?_⟩
  rw [List.length_take, List.length_drop]
theorem law_true : Law T 30 := by
  intro ns hl
  suffices h : WF T 30 "law" [.lst (ns.map .int)] [] fun o S => o = .fz (.bl true) by
    obtain ⟨⟨o, S'⟩, e, h⟩ := h
    have h : o = .fz (.bl true) := h
    rw [h] at e
    exact ⟨S', e⟩
  refine wf_def hLaw rfl ?_
  show WSs T 29 c_law [.va (.lst (ns.map .int)), .no, .no, .no, .no, .no, .no, .no] [] _
  unfold c_law
  simp only [wss_cons, seqQ_nil, ws_asg, we_al, we_call, wl_cons, wl_nil, we_var, List.getElem?_cons_zero, slV_va, dv_fz, we_int]
  refine deal_ok hDeal hl (by decide) fun mixed seed left hs h0 hll => ?_
  have hd : Dl (([] ++ [O.da (.lst (left.map .int))]) ++ [O.da (dealD mixed seed 0 ([] : Sto).length)]) 1 0 := ⟨mixed, seed, 0, left, by decide, rfl, rfl, hs, by decide, h0, hll⟩
  simp only [asFr_fr, dv_fz, seqQ_nx]
  show WSs T 29 _ [.va (.lst (ns.map .int)), .va (.ref 1), .no, .no, .no, .no, .no, .no] _ _
  generalize (([] ++ [O.da (.lst (left.map .int))]) ++ [O.da (dealD mixed seed 0 ([] : Sto).length)] : Sto) = S0 at hd ⊢
  simp only [wss_cons, seqQ_nil, ws_asg, we_call, wl_cons, wl_nil, we_var, List.getElem?_cons_zero, List.getElem?_cons_succ, slV_va, dv_fz, we_int]
  refine names_ok hBig.D hNames hd (by decide) (by decide) fun ws S1 hlen hw d1 e1 => ?_
  have hlen : ws.length = 14 := hlen
  simp only [dv_fr, seqQ_nx]
  show WSs T 29 _ [.va (.lst (ns.map .int)), .va (.ref 1), .va (.lst (ws.map strD)), .no, .no, .no, .no, .no] _ _
  have hr : rngD 0 4 = some ((List.range 4).map fun (k : Nat) => .int (0 + k)) := by kernel_rfl
  simp only [wss_cons, seqQ_nil, ws_for, wi_rng, we_int, asI_int, hr, Sk.ob_some]
  refine wfor_inv (fun r ρ S' => Dl S' 1 0 ∧ ∃ a3 a4 a5 a6 a7 : Sl, ρ = [.va (.lst (ns.map .int)), .va (.ref 1), .va (.lst (ws.map strD)), a3, a4, a5, a6, a7]) ⟨d1, _, _, _, _, _, rfl⟩ ?_ ?_
  · rintro d r ρ S2 ⟨d2, a3, a4, a5, a6, a7, rfl⟩
    show Sk.ob (some ([.va (.lst (ns.map .int)), .va (.ref 1), .va (.lst (ws.map strD)), .va d, a4, a5, a6, a7] : Env')) _
    simp only [Sk.ob_some, wss_cons, seqQ_nil, ws_asg, we_sub, we_lst, wl_cons, wl_nil, we_str, dv_fz, we_call, we_var, List.getElem?_cons_zero, List.getElem?_cons_succ, slV_va, we_int]
    refine ⟨by show 7 ≤ _; decide, draw_ok hBig.D d2 (by decide) (by decide) fun v S3 v0 v1 d3 e3 => ?_⟩
    obtain ⟨g, eg⟩ := atI_get (xs := sorts.map D.str) v0 (by exact v1)
    have eg : subD (.lst [.str "unlike", .str "many", .str "sum", .str "table", .str "way", .str "behind", .str "same"]) (.int v) = some (.str (sorts[v.toNat]'(by simpa using g))) := by
      show L2.atI (sorts.map D.str) v = _
      rw [eg, List.getElem_map]
    generalize sorts[v.toNat]'(by simpa using g) = s at eg
    simp only [cont_fr, Sk.ob_some, dv_fz, eg, seqQ_nx, List.set_cons_succ, List.set_cons_zero, wss_cons, seqQ_nil, ws_asg, we_call, wl_cons, wl_nil, we_var, List.getElem?_cons_zero, List.getElem?_cons_succ, slV_va, we_int]
    refine draw_ok hBig.D d3 (by decide) (by decide) fun x S4 x0 x1 d4 e4 => ?_
    obtain ⟨p, rfl⟩ : ∃ p : Nat, x = p := ⟨x.toNat, by omega⟩
    obtain ⟨u1, eu1, mu1, lu1⟩ := cut_strs (ws := ws) (lo := some (p : Int)) (hi := none)
    obtain ⟨u2, eu2, mu2, lu2⟩ := cut_strs (ws := ws) (lo := none) (hi := some (p : Int))
    have c1 : slcD (.lst (ws.map strD)) (some (p : Int)) none = some (.fr (.lst (u1.map strD))) := by rw [← eu1]; rfl
    have c2 : slcD (.lst (ws.map strD)) none (some (p : Int)) = some (.fr (.lst (u2.map strD))) := by rw [← eu2]; rfl
    have hp : p < 14 := by omega
    have l12 : (u1 ++ u2).length = 14 := by
      rw [List.length_append, lu1, lu2]
      simp only [HT.sIx_nat, HT.sIx_none, hlen]
      show min (14 - min p 14) (14 - min p 14) + min (min p 14 - 0) (14 - 0) = 14
      omega
    have ca : bopD .add (.lst (u1.map strD)) (.lst (u2.map strD)) = some (.fr (.lst ((u1 ++ u2).map strD))) := by
      rw [List.map_append]
      exact cat_lst (by rw [List.length_append] at l12; rw [List.length_map, List.length_map]; omega)
    simp only [dv_fz, seqQ_nx, List.set_cons_succ, List.set_cons_zero, wss_cons, seqQ_nil, ws_asg, we_call, wl_cons, wl_nil, we_var, we_bop, we_slc, wo_none, wo_some, asI_int, List.getElem?_cons_zero, List.getElem?_cons_succ, slV_va, cont_lst, Sk.ob_some, c1, c2, cont_fr, ca, dv_fr]
    refine bigWish_ok (k := 22) hBig d4 (by omega) (by omega) fun w S5 hw1 hw2 hw3 d5 e5 => ?_
    have hok : ∀ c ∈ w.cells, NmOk c := fun c hc => hw.ok c ((List.mem_append.mp (hw1 c hc)).elim (mu1 c) (mu2 c))
    simp only [dv_fz, seqQ_nx, List.set_cons_succ, List.set_cons_zero, wss_cons, seqQ_nil, ws_asg, we_call, wl_cons, wl_nil, we_var, List.getElem?_cons_zero, List.getElem?_cons_succ, slV_va]
    refine cells_ok (k := 27) hw3 (by omega) ?_
    have lt : ∀ ρ S, look ρ S (.fz (tupS w.cells)) = some (.tup (w.cells.map strD)) := fun _ _ => rfl
    have it : ∀ ds, bfD (.isa "tuple") (.tup ds) = some (.fz (.bl true)) := fun _ => by kernel_rfl
    simp only [dv_fz, seqQ_nx, List.set_cons_succ, List.set_cons_zero, wss_cons, seqQ_nil, ws_ife, we_orr, we_no, we_bf, we_var, List.getElem?_cons_zero, List.getElem?_cons_succ, slV_va, lt, Sk.ob_some, it, asB_bl, Bool.not_true, Bool.false_eq_true, if_false, we_cmp, list_tup, we_call, wl_cons, wl_nil, dv_fz]
    refine due_ok (k := 27) hw3 (by omega) ?_
    simp only [look_fr, Sk.ob_some, ne_strs hok, asB_bl, Bool.false_eq_true, if_false, wss_nil, turnQ_nx]
    exact ⟨d5, _, _, _, _, _, rfl⟩
  · rintro ρ S2 ⟨d2, a3, a4, a5, a6, a7, rfl⟩
    simp only [seqQ_nx, wss_cons, seqQ_nil, ws_ret, we_bl, retO_fz, retQ_rt]

theorem facts {P : Program} {w : World} {K : PySem.W.Frag} {h : Heap} {mg : Str → Option Value} {f : Addr} (L : Law T 30) (X : K.In h) (G : h.Ns mainGlobals mg) (hfa : mg ("law" : Str) = some (.ref f)) (c : SaysC fa fn cs K) :
    ∃ fd : FuncData, (∀ (s : Shared) (v : Value), BindsTo s fd ⟨[v], []⟩ [("_law_script", v)]) ∧ ∀ base : Heap, K.In base → base.Ns mainGlobals mg → FnOk P w K mg base C8.CX0 30 f fd ["_law_script"] (spF T 30 "law" K mg) := by
  have H := hd_of X G c oks
  obtain ⟨A, fd, m, F⟩ := H.fd d_law (by simp [ds])
  have e : mg ("law" : Str) = some (.ref A) := m
  rw [hfa] at e
  cases e
  refine ⟨fd, fun s v => FunD.bindsA (ps := ["_law_script"]) F b_law s [v] rfl, fun base _ _ => ?_⟩
  exact fn_ok1 H (fns_ok H 29) (d := d_law) (by simp [ds]) (by kernel_rfl) F
end Lw
open PySem PySem.W PySem.Calls PyProof.Rows
theorem PySem.Challenge.cw_seekhall_k03_cells_of_a_wish_holds : PySem.Challenge.rw_seekhall_k03_cells_of_a_wish.Holds := by
  w_on; o_law
  refine HandSHeadRun.head_any (r := OpenLaw.row PySem.Challenge.rw_seekhall_k03_cells_of_a_wish) (q := view (OpenLaw.row PySem.Challenge.rw_seekhall_k03_cells_of_a_wish).prog [14]) (H := Lw.hk) (ob := Lw.obh) (M := 20000) (loose := Lw.loose) (d := HandSHeadRun.topDef (OpenLaw.row PySem.Challenge.rw_seekhall_k03_cells_of_a_wish).prog 14) (kwd := []) Lw.obh_eq
    (by kernel_rfl) (fun s => by kernel_rfl) Lw.run (by kernel_rfl) (by kernel_rfl) (by kernel_rfl) (by rfl) (by first | assumption | decide +kernel) (by decide +kernel) ⟨rfl, rfl, rfl, rfl, rfl, by decide +kernel⟩ ?hw ?hc
  case hw => w_witness2
  case hc =>
    refine L2.walk_ofE (l := PySem.Challenge.rw_seekhall_k03_cells_of_a_wish) (n := 63) (k := 30) (x := "_law_script") (CX := C8.CX0) rfl (by decide) (by kernel_rfl) ⟨rfl, by decide, by decide⟩ ?F (fun _ _ _ _ z => z)
    intro w mg fa h Y G hmg0
    obtain ⟨K, KX, c⟩ := Y
    have hmg : mg ("law" : PySem.Str) = some (.ref fa) := by
      have e : (HandSHeadRun.topDef (OpenLaw.row PySem.Challenge.rw_seekhall_k03_cells_of_a_wish).prog 14).name = ("law" : PySem.Str) := by kernel_rfl
      rw [← e]
      exact hmg0
    obtain ⟨fd, hb, hF⟩ := Lw.facts (P := (PySem.Challenge.rw_seekhall_k03_cells_of_a_wish).prog) (w := w) Lw.law_true KX G hmg c
    exact ⟨K, fd, Sk.spF Lw.T 30 "law" K mg, KX, hb, fun H a ns hl _ hS => Sk.law_sp Lw.law_true H a ns hl hS, hF⟩
