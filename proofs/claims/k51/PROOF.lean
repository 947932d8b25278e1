import PyProof.Rows.All
import Wide.All
import OpenK.AllK
import Wide.FinOn
import HandS.Base
import HandS.Call
import HandS.List
import HandS.Text
import HandS.Comp
import HandS.Iter
import HandS.Exc
import HandS.Lambda
import HandS.Wide
import HandS.Style
import HandS.TupAny
import HandS.TupMul
import HandS.Deep
import HandS.IsInst
import HandS.Codes
import HandS.ExcOwn
import HandS.WordsExc
import HandS.CallLocal
import HandS.ExcCtx
import HandS.HeadHook1
import HandS.Conv
import HandS.Zip
import HandS.Walk
import HandS.Defaults
import HandS.Hot
import HandS.HotCalls
import HandS.ExcIs
import KE.KLam
import HandS.HeadHook2
import HandS.HeadHook4
import HandS.HeadWalk
import HandS.EndTab
import KE.KStateDown
import HandS.Ends
import HandS.More
import HandS.Words
import HandS.Head0
import HandS.Head1
import HandS.Head2
import HandS.HeadEnd
import HandS.HeadHook3
import PySem.Challenge.RW_sureshares_k51_whole_periods_told_back
set_option Elab.async false
set_option linter.all false
set_option maxRecDepth 100000
set_option autoImplicit false
section -- EvA
namespace Ev
open PySem (Str)

/-- values: immutable ones as they are; cell k: the k-th thing of the store; fn x: the module's def x; exc x l: an exception of the class x; scr ns: the script -/
inductive PV where
  | non | bl (b : Bool) | int (i : Int) | str (x : Str) | tup (xs : List PV) | lst (xs : List PV) | cell (k : Nat) | fn (x : Str) | exc (x : Str) (l : Int) | scr (ns : List Int)
  deriving Inhabited
inductive Cell where
  | lst (xs : List PV)
  | obj (c : Str) (fs : List (Str × PV))
abbrev Sto := List Cell
inductive R (α : Type) where
  | ok (a : α) (S : Sto)
  | ex (x : Str) (S : Sto)
  | stuck
def R.bind {α β : Type} (r : R α) (f : α → Sto → R β) : R β := match r with
  | .ok a S => f a S
  | .ex x S => .ex x S
  | .stuck => .stuck
def R.of {α : Type} (o : Option α) (S : Sto) : R α := match o with
  | some a => .ok a S
  | none => .stuck
abbrev Fn := List PV → Sto → R PV
/-- a slot: nothing, a value, a list of one's own that may still be changed -/
inductive Sl where
  | no | val (v : PV) | opn (xs : List PV)
  deriving Inhabited

def lim : Nat := 16777216
inductive Bop where
  | add | sub | mul | fdiv | mod | pow | eq | ne | lt | le | gt | ge | is_ | isnot | in_ | notin | ix
  deriving DecidableEq
def lstAt (S : Sto) (k : Nat) : Option (List PV) := match S[k]? with
  | some (.lst xs) => some xs
  | _ => none
def seqOf (S : Sto) : PV → Option (List PV)
  | .tup xs => some xs
  | .lst xs => some xs
  | .cell k => lstAt S k
  | .scr ns => some (ns.map .int)
  | _ => none
mutual
def toD : PV → Option PySem.PyData
  | .non => some .none
  | .bl b => some (.bool b)
  | .int i => some (.int i)
  | .str x => some (.str x)
  | .tup xs => (toDs xs).map .tuple
  | .lst xs => (toDs xs).map .list
  | .cell _ => none
  | .fn _ => none
  | .exc _ _ => none
  | .scr _ => none
def toDs : List PV → Option (List PySem.PyData)
  | [] => some []
  | x :: xs => match toD x, toDs xs with
    | some d, some ds => some (d :: ds)
    | _, _ => none
end
mutual
/-- == of data -/
def eqB : PV → PV → Bool
  | .non, .non => true
  | .bl a, .bl b => a == b
  | .bl a, .int j => (if a then 1 else 0) == j
  | .int i, .bl b => i == (if b then 1 else 0)
  | .int i, .int j => i == j
  | .str x, .str y => x == y
  | .lst xs, .lst ys => eqBs xs ys
  | .tup xs, .tup ys => eqBs xs ys
  | _, _ => false
def eqBs : List PV → List PV → Bool
  | [], [] => true
  | x :: xs, y :: ys => eqB x y && eqBs xs ys
  | _, _ => false
end
mutual
/-- data that == can tell apart, at most n deep -/
def dataN : Nat → PV → Bool
  | 0, _ => false
  | _ + 1, .non => true
  | _ + 1, .bl _ => true
  | _ + 1, .int _ => true
  | _ + 1, .str x => PySem.PyData.strOk x
  | n + 1, .tup xs => dataNs n xs
  | n + 1, .lst xs => dataNs n xs
  | _ + 1, _ => false
def dataNs : Nat → List PV → Bool
  | _, [] => true
  | n, x :: xs => dataN n x && dataNs n xs
end
def data (v : PV) : Bool := dataN 60 v
def addV : PV → PV → Option PV
  | .int i, .int j => some (.int (i + j))
  | .str x, .str y => if x.length + y.length ≤ lim then some (.str (x ++ y)) else none
  | .tup xs, .tup ys => if xs.length + ys.length ≤ lim then some (.tup (xs ++ ys)) else none
  | .lst xs, .lst ys => if xs.length + ys.length ≤ lim then some (.lst (xs ++ ys)) else none
  | _, _ => none
def mulOk (i j : Int) : Bool := decide (i.natAbs.log2 + j.natAbs.log2 < 100000000)
def rep (xs : List PV) (n : Nat) : List PV := (List.replicate n xs).flatten
def mulV : PV → PV → Option PV
  | .int i, .int j => if mulOk i j = true then some (.int (i * j)) else none
  | .tup xs, .int k => if (!xs.isEmpty) = true ∧ 1 ≤ k ∧ k ≤ 1000 ∧ xs.length ≤ 1000 then some (.tup (rep xs k.toNat)) else none
  | .lst xs, .int k => if 0 ≤ k ∧ k ≤ 1000 ∧ xs.length ≤ 1000 then some (.lst (rep xs k.toNat)) else none
  | _, _ => none
def divOk (j : Int) : Bool := decide (0 < j) && decide (j.natAbs.log2 < 9000)
def intOp (f : Int → Int → Option PV) : PV → PV → Option PV
  | .int i, .int j => f i j
  | _, _ => none
def isV : PV → PV → Option Bool
  | v, .non => some (match v with | .non => true | _ => false)
  | .bl a, .bl b => some (decide (a = b))
  | _, _ => none
def eqV (a b : PV) : Option Bool := if data a = true ∧ data b = true then some (eqB a b) else none
def inV (S : Sto) (a b : PV) : Option Bool := match a, b with
  | .str x, .str y => some (!(PySem.Builtin.Str.occurrences y x 0 y.length 1).isEmpty)
  | a, b => match seqOf S b with
    | some xs => if data a = true ∧ xs.all data = true then some (xs.any fun y => eqB y a) else none
    | none => none
def ixV (S : Sto) (a b : PV) : Option PV := match b with
  | .int i => (match a with
    | .str z => if z.length ≤ lim then (L2.atI z.cps.toList i).map fun c => .str ⟨#[c]⟩ else none
    | a => match seqOf S a with
      | some xs => L2.atI xs i
      | none => none)
  | _ => none
def bop (o : Bop) (S : Sto) (a b : PV) : Option PV := match o with
  | .add => addV a b
  | .sub => intOp (fun i j => some (.int (i - j))) a b
  | .mul => mulV a b
  | .fdiv => intOp (fun i j => if divOk j = true then some (.int (i / j)) else none) a b
  | .mod => intOp (fun i j => if 0 < j then some (.int (i % j)) else none) a b
  | .pow => intOp (fun i j => if 0 ≤ j ∧ j ≤ 1000 ∧ i.natAbs < 1000 then some (.int (i ^ j.toNat)) else none) a b
  | .eq => (eqV a b).map .bl
  | .ne => (eqV a b).map fun c => .bl (!c)
  | .lt => intOp (fun i j => some (.bl (decide (i < j)))) a b
  | .le => intOp (fun i j => some (.bl (decide (i ≤ j)))) a b
  | .gt => intOp (fun i j => some (.bl (decide (j < i)))) a b
  | .ge => intOp (fun i j => some (.bl (decide (j ≤ i)))) a b
  | .is_ => (isV a b).map .bl
  | .isnot => (isV a b).map fun c => .bl (!c)
  | .in_ => (inV S a b).map .bl
  | .notin => (inV S a b).map fun c => .bl (!c)
  | .ix => ixV S a b
/-- built-ins by name -/
inductive Blt where
  | abs | all | bool | int | len | list | max | min | str | sum | tuple
  deriving DecidableEq
def intsOf : List PV → Option (List Int)
  | [] => some []
  | .int i :: r => (intsOf r).map (i :: ·)
  | _ => none
def blsOf : List PV → Option (List Bool)
  | [] => some []
  | .bl i :: r => (blsOf r).map (i :: ·)
  | _ => none
def blt (b : Blt) (S : Sto) (vs : List PV) : Option PV := match b with
  | .abs => (match vs with
    | [.int i] => some (.int (if i < 0 then -i else i))
    | _ => none)
  | .all => (match vs with
    | [.lst xs] => (blsOf xs).map fun bs => .bl (bs.all id)
    | _ => none)
  | .bool => (match vs with
    | [.int i] => some (.bl (i != 0))
    | [.bl k] => some (.bl k)
    | _ => none)
  | .int => (match vs with
    | [.int i] => some (.int i)
    | [.bl k] => some (.int (if k then 1 else 0))
    | _ => none)
  | .len => (match vs with
    | [.str x] => if x.length ≤ lim then some (.int x.length) else none
    | [v] => (seqOf S v).map fun xs => .int xs.length
    | _ => none)
  | .list => (match vs with
    | [v] => (seqOf S v).map .lst
    | _ => none)
  | .max => (match vs with
    | [.int i, .int j] => some (.int (if j > i then j else i))
    | _ => none)
  | .min => (match vs with
    | [.int i, .int j] => some (.int (if j < i then j else i))
    | _ => none)
  | .str => (match vs with
    | [.int i] => if i.natAbs.log2 < 1920 then some (.str (toString i)) else none
    | _ => none)
  | .sum => (match vs with
    | [.lst xs] => (intsOf xs).map fun ns => .int ns.sum
    | _ => none)
  | .tuple => (match vs with
    | [v] => (seqOf S v).map .tup
    | _ => none)
/-- a value's type, by name -/
def tyN : PV → Option String
  | .non => some "NoneType"
  | .bl _ => some "bool"
  | .int _ => some "int"
  | .str _ => some "str"
  | .tup _ => some "tuple"
  | .lst _ => some "list"
  | _ => none
/-- isinstance against a built-in class -/
def isiN (c : String) (p : PV) : Option Bool := (tyN p).map fun t => (t == c) || (t == "bool" && c == "int")
inductive IK where
  | val | rng | zip | enum
  deriving DecidableEq
def rngOk (i : Int) : Bool := decide (-4611686018427387904 ≤ i) && decide (i < 4611686018427387904)
/-- what may be walked while the store changes -/
def frzOf : PV → Option (List PV)
  | .tup xs => some xs
  | .lst xs => some xs
  | .scr ns => some (ns.map .int)
  | _ => none
def zipV : PV → PV → Option (List PV)
  | .tup xs, .tup ys => some (List.zipWith (fun x y => .tup [x, y]) xs ys)
  | .lst xs, .lst ys => some (List.zipWith (fun x y => .tup [x, y]) xs ys)
  | _, _ => none
def enumV : PV → Option (List PV)
  | .lst xs => some (xs.mapIdx fun i x => .tup [.int (i : Nat), x])
  | _ => none
def valV : List PV → Option (List PV)
  | [.str x] => some (x.cps.toList.map fun c => .str ⟨#[c]⟩)
  | [v] => frzOf v
  | _ => none
def rngV : List PV → Option (List PV)
  | [.int n] => if rngOk n = true then some ((List.range n.toNat).map fun (i : Nat) => .int (0 + i)) else none
  | [.int a, .int b] => if rngOk a = true ∧ rngOk b = true then some ((List.range (b - a).toNat).map fun (i : Nat) => .int (a + i)) else none
  | _ => none
def zip2 : List PV → Option (List PV)
  | [a, b] => zipV a b
  | _ => none
def enum1 : List PV → Option (List PV)
  | [a] => enumV a
  | _ => none
def items (k : IK) (vs : List PV) : Option (List PV) := match k with
  | .val => valV vs
  | .rng => rngV vs
  | .zip => zip2 vs
  | .enum => enum1 vs
/-- a target: a name, or a flat tuple of names -/
inductive Tg where
  | nm (i : Nat)
  | tp (is : List Nat)
def setL : List Nat → List PV → List Sl → List Sl
  | i :: is, v :: vs, ρ => setL is vs (ρ.set i (.val v))
  | _, _, ρ => ρ
def bindT (t : Tg) (v : PV) (ρ : List Sl) : Option (List Sl) := match t with
  | .nm i => some (ρ.set i (.val v))
  | .tp is => (match v with
    | .tup vs => if vs.length = is.length then some (setL is vs ρ) else none
    | _ => none)

mutual
inductive C where
  | var (i : Nat)
  | bor (i : Nat)
  | cst (v : PV)
  | bin (o : Bop) (a b : C)
  | neg (a : C)
  | not_ (a : C)
  | and_ (a b : C)
  | or_ (a b : C)
  | chn (a : C) (o1 : Bop) (b : C) (o2 : Bop) (c : C)
  | ifx (c a b : C)
  | tup (as : Cs)
  | lst (as : Cs)
  | newc (as : Cs)
  | sl (a : C) (lo hi : Cs)
  | rev (a : C)
  | blt (b : Blt) (as : Cs)
  | rngv (t : Bool) (as : Cs)
  | isi (x : String) (a : C)
  | isx (i : Nat) (f : Str → Int → Option Bool)
  | call (f : Fn) (x : Str) (as : Cs)
  | callv (i : Nat) (as : Cs)
  | callh (h : (Sto → R PV) → Sto → R PV) (x : Str) (b : C)
  | thunk
  | lc (own : List Nat) (k : IK) (src : Cs) (tg : Tg) (cnd : Cs) (elt : C)
  | lc2 (own : List Nat) (k : IK) (src : Cs) (tg : Tg) (cnd : Cs) (own1 : List Nat) (k1 : IK) (src1 : Cs) (tg1 : Tg) (cnd1 : Cs) (elt : C)
inductive Cs where
  | nil
  | cons (a : C) (as : Cs)
end
/-- what else there is: the thunk that a def was handed, the defs that are called as values -/
structure Amb where
  κ : Sto → R PV := fun _ => .stuck
  dyn : List (Str × Nat × Fn) := []
  tab : List (Str × List Str) := []
def slVar : Option Sl → Option PV
  | some (.val v) => some v
  | _ => none
def slBor : Option Sl → Option PV
  | some (.val v) => some v
  | some (.opn xs) => some (.lst xs)
  | _ => none
/-- a range as a tuple, as a list -/
def rngT (t : Bool) (vs : List PV) : Option PV := match rngV vs with
  | some xs => if xs.length ≤ lim then some (if t = true then .tup xs else .lst xs) else none
  | none => none
/-- is the exception of that class? -/
def isxR (f : Str → Int → Option Bool) (o : Option PV) (S : Sto) : R PV := match o with
  | some (.exc x l) => .of ((f x l).map .bl) S
  | _ => .stuck
def truth (v : PV) (S : Sto) (f : Bool → Sto → R PV) : R PV := match v with
  | .bl b => f b S
  | _ => .stuck
/-- turn by turn; no exception may leave -/
def lcM (f : PV → Sto → R (List PV)) : List PV → Sto → R (List PV)
  | [], S => .ok [] S
  | x :: xs, S => match f x S with
    | .ok ys S' => (match lcM f xs S' with
      | .ok zs S'' => .ok (ys ++ zs) S''
      | _ => .stuck)
    | _ => .stuck
/-- slots forgotten -/
def wipeS (ρ : List Sl) : List Nat → List Sl
  | [] => ρ
  | v :: vs => (wipeS ρ vs).set v .no
/-- open lists forgotten -/
def shut (ρ : List Sl) : List Sl := ρ.map fun s => match s with
  | .opn _ => .no
  | s => s
/-- no test, or one -/
def condM (r : R (List PV)) (f : Sto → R (List PV)) : R (List PV) := match r with
  | .ok [] S => f S
  | .ok [.bl true] S => f S
  | .ok [.bl false] S => .ok [] S
  | _ => .stuck
def oneR (r : R PV) : R (List PV) := match r with
  | .ok v S => .ok [v] S
  | _ => .stuck
def listR (r : R (List PV)) : R PV := match r with
  | .ok ys S => if ys.length ≤ lim then .ok (.lst ys) S else .stuck
  | _ => .stuck
def walkR (k : IK) (r : R (List PV)) (f : List PV → Sto → R (List PV)) : R (List PV) := match r with
  | .ok vs S => (match items k vs with
    | some xs => f xs S
    | none => .stuck)
  | _ => .stuck
def bindR (tg : Tg) (x : PV) (ρ : List Sl) (f : List Sl → R (List PV)) : R (List PV) := match bindT tg x ρ with
  | some ρ' => f ρ'
  | none => .stuck
def itemsR (o : Option (List PV)) (f : List PV → R PV) : R PV := match o with
  | some xs => f xs
  | none => .stuck
def cutP (xs : List PV) (lo hi : Option Int) : List PV := (xs.drop (HT.sIx xs.length 0 lo)).take (HT.sIx xs.length xs.length hi - HT.sIx xs.length 0 lo)
def partOf : List PV → Option (Option Int)
  | [] => some none
  | [.int i] => some (some i)
  | _ => none
def slP (S : Sto) (v : PV) (l h : Option Int) : Option PV := match v with
  | .tup xs => some (.tup (cutP xs l h))
  | .lst xs => some (.lst (cutP xs l h))
  | .cell k => (lstAt S k).map fun xs => .lst (cutP xs l h)
  | .str x => if x.length ≤ lim then some (.str (PySem.Txt.slice x l h)) else none
  | _ => none
/-- an end of a slice, then the rest -/
def partK (vs : List PV) (f : Option Int → R PV) : R PV := match partOf vs with
  | some o => f o
  | none => .stuck
mutual
def ev (A : Amb) : C → List Sl → Sto → R PV
  | .var i, ρ, S => .of (slVar ρ[i]?) S
  | .bor i, ρ, S => .of (slBor ρ[i]?) S
  | .cst v, _, S => .ok v S
  | .bin o a b, ρ, S => (ev A a ρ S).bind fun x S1 => (ev A b ρ S1).bind fun y S2 => .of (bop o S2 x y) S2
  | .neg a, ρ, S => (ev A a ρ S).bind fun x S1 => match x with
    | .int i => .ok (.int (-i)) S1
    | _ => .stuck
  | .not_ a, ρ, S => (ev A a ρ S).bind fun x S1 => truth x S1 fun b S2 => .ok (.bl (!b)) S2
  | .and_ a b, ρ, S => (ev A a ρ S).bind fun x S1 => truth x S1 fun c S2 => if c = true then (ev A b ρ S2).bind fun y S3 => truth y S3 fun d S4 => .ok (.bl d) S4 else .ok (.bl false) S2
  | .or_ a b, ρ, S => (ev A a ρ S).bind fun x S1 => truth x S1 fun c S2 => if c = true then .ok (.bl true) S2 else (ev A b ρ S2).bind fun y S3 => truth y S3 fun d S4 => .ok (.bl d) S4
  | .chn a o1 b o2 c, ρ, S => (ev A a ρ S).bind fun x S1 => (ev A b ρ S1).bind fun y S2 => (R.of (bop o1 S2 x y) S2).bind fun r S3 => truth r S3 fun k S4 =>
      if k = true then (ev A c ρ S4).bind fun z S5 => (R.of (bop o2 S5 y z) S5).bind fun r2 S6 => truth r2 S6 fun d S7 => .ok (.bl d) S7 else .ok (.bl false) S4
  | .ifx c a b, ρ, S => (ev A c ρ S).bind fun x S1 => truth x S1 fun k S2 => if k = true then ev A a ρ S2 else ev A b ρ S2
  | .tup as, ρ, S => (evs A as ρ S).bind fun vs S1 => .ok (.tup vs) S1
  | .lst as, ρ, S => (evs A as ρ S).bind fun vs S1 => .ok (.lst vs) S1
  | .newc as, ρ, S => (evs A as ρ S).bind fun vs S1 => .ok (.cell S1.length) (S1 ++ [.lst vs])
  | .sl a lo hi, ρ, S => (ev A a ρ S).bind fun x S1 => (evs A lo ρ S1).bind fun l S2 => partK l fun l => (evs A hi ρ S2).bind fun h S3 => partK h fun h => .of (slP S3 x l h) S3
  | .rev a, ρ, S => (ev A a ρ S).bind fun x S1 => match x with
    | .tup xs => .ok (.tup xs.reverse) S1
    | .lst xs => .ok (.lst xs.reverse) S1
    | _ => .stuck
  | .blt b as, ρ, S => (evs A as ρ S).bind fun vs S1 => .of (blt b S1 vs) S1
  | .rngv t as, ρ, S => (evs A as ρ S).bind fun vs S1 => .of (rngT t vs) S1
  | .isi x a, ρ, S => (ev A a ρ S).bind fun v S1 => .of ((isiN x v).map .bl) S1
  | .isx i f, ρ, S => isxR f (slVar ρ[i]?) S
  | .call f _ as, ρ, S => (evs A as ρ S).bind fun vs S1 => f vs S1
  | .callv i as, ρ, S => match slVar ρ[i]? with
    | some (.fn x) => (match A.dyn.lookup x with
      | some (n, f) => (evs A as ρ S).bind fun vs S1 => if vs.length = n then f vs S1 else .stuck
      | none => .stuck)
    | _ => .stuck
  | .callh h _ b, ρ, S => h (fun S1 => ev A b ρ S1) S
  | .thunk, _, S => A.κ S
  | .lc own k src tg cnd elt, ρ, S => (evs A src ρ S).bind fun vs S1 => itemsR (items k vs) fun xs =>
      listR (lcM (fun x S2 => bindR tg x (wipeS ρ own) fun ρ' => condM (evs A cnd ρ' S2) fun S3 => oneR (ev A elt ρ' S3)) xs S1)
  | .lc2 own k src tg cnd own1 k1 src1 tg1 cnd1 elt, ρ, S => (evs A src ρ S).bind fun vs S1 => itemsR (items k vs) fun xs =>
      listR (lcM (fun x S2 => bindR tg x (shut (wipeS ρ own)) fun ρ' => condM (evs A cnd ρ' S2) fun S3 => walkR k1 (evs A src1 ρ' S3) fun xs1 S4 =>
        lcM (fun y S5 => bindR tg1 y (wipeS ρ' own1) fun ρ2 => condM (evs A cnd1 ρ2 S5) fun S6 => oneR (ev A elt ρ2 S6)) xs1 S4) xs S1)
def evs (A : Amb) : Cs → List Sl → Sto → R (List PV)
  | .nil, _, S => .ok [] S
  | .cons a as, ρ, S => (ev A a ρ S).bind fun v S1 => (evs A as ρ S1).bind fun vs S2 => .ok (v :: vs) S2
end
/-- a target of a tuple's assignment -/
inductive PTg where
  | nm (i : Nat)
  | op (i : Nat)
  | sub (i : Nat) (ix : C)
mutual
inductive Sm where
  | set (i : Nat) (e : C)
  | seto (i : Nat) (e : C)
  | frz (i : Nat)
  | unp (t : Tg) (e : C)
  | par (is : List Nat) (es : Cs)
  | seti (i : Nat) (ix e : C)
  | app (i : Nat) (e : C)
  | exp (e : C)
  | ret (e : C)
  | retN
  | ite (c : C) (a b : T)
  | for_ (k : IK) (src : Cs) (tg : Tg) (b : T)
  | whl (c : C) (b : T)
  | rais (x : Str)
  | try_ (b : T) (x : Str) (n k : Option Nat) (h : Str → Option PV)
inductive T where
  | nil
  | cons (s : Sm) (r : T)
end
inductive Fl where
  | nx (ρ : List Sl)
  | rt (v : PV)
/-- what a statement makes: an exception comes with the slots as they are then -/
inductive Qr where
  | ok (f : Fl) (S : Sto)
  | ex (x : Str) (ρ : List Sl) (S : Sto)
  | stuck
def R.to {α : Type} (r : R α) (ρ : List Sl) (f : α → Sto → Qr) : Qr := match r with
  | .ok a S => f a S
  | .ex x S => .ex x ρ S
  | .stuck => .stuck
def Qr.seq (q : Qr) (f : List Sl → Sto → Qr) : Qr := match q with
  | .ok (.nx ρ) S => f ρ S
  | q => q
def truthQ (v : PV) (f : Bool → Qr) : Qr := match v with
  | .bl b => f b
  | _ => .stuck
def forM (f : PV → List Sl → Sto → Qr) : List PV → List Sl → Sto → Qr
  | [], ρ, S => .ok (.nx ρ) S
  | x :: xs, ρ, S => (f x ρ S).seq fun ρ' S' => forM f xs ρ' S'
def whileM (c : List Sl → Sto → R PV) (b : List Sl → Sto → Qr) : Nat → List Sl → Sto → Qr
  | 0, _, _ => .stuck
  | n + 1, ρ, S => (c ρ S).to ρ fun v S1 => truthQ v fun k => if k = true then (b ρ S1).seq fun ρ' S' => whileM c b n ρ' S' else .ok (.nx ρ) S1
def fuel : Nat := 1000000000
/-- which classes a class is under; the first row: the classes that are caught at all -/
def under (tab : List (Str × List Str)) (x y : Str) : Option Bool := match tab with
  | (_, caught) :: r => if caught.contains y = true then (r.lookup x).map fun ys => ys.contains y else none
  | [] => none
def opnTo : Option Sl → List Sl → Nat → List Sl
  | some (.opn xs), ρ, i => ρ.set i (.val (.lst xs))
  | _, ρ, _ => ρ
def isBox : Option Sl → Bool
  | some (.opn _) => true
  | some (.val (.cell _)) => true
  | _ => false
def isOpn : Option Sl → Bool
  | some (.opn _) => true
  | _ => false
def setIxQ (o : Option Sl) (i : Nat) (v : PV) (j : PV) (ρ : List Sl) (S : Sto) : Qr := match j with
  | .int j => (match o with
    | some (.opn xs) => (match L2.ixN xs.length j with
      | some n => .ok (.nx (ρ.set i (.opn (xs.set n v)))) S
      | none => .stuck)
    | some (.val (.cell k)) => (match lstAt S k with
      | some xs => (match L2.ixN xs.length j with
        | some n => .ok (.nx ρ) (S.set k (.lst (xs.set n v)))
        | none => .stuck)
      | none => .stuck)
    | _ => .stuck)
  | _ => .stuck
def appQ (o : Option Sl) (i : Nat) (v : PV) (ρ : List Sl) (S : Sto) : Qr := match o with
  | some (.opn xs) => if xs.length < lim then .ok (.nx (ρ.set i (.opn (xs ++ [v])))) S else .stuck
  | _ => .stuck
def setOpt (i : Option Nat) (s : Sl) (ρ : List Sl) : List Sl := match i with
  | some i => ρ.set i s
  | none => ρ
/-- an exception was caught: v is told (k: stored there; else it is the def's answer) -/
def isPl : PV → Bool
  | .str _ => true
  | .non => true
  | _ => false
def caughtQ (v : Option PV) (n k : Option Nat) (ρ : List Sl) (S : Sto) : Qr := match v with
  | some v => if isPl v = true then (match k with
    | some i => .ok (.nx (setOpt n .no (ρ.set i (.val v)))) S
    | none => .ok (.rt v) S) else .stuck
  | none => .stuck
def bindQ (t : Tg) (v : PV) (ρ : List Sl) (f : List Sl → Qr) : Qr := match bindT t v ρ with
  | some ρ' => f ρ'
  | none => .stuck
def setoQ (i : Nat) (v : PV) (ρ : List Sl) (S : Sto) : Qr := match v with
  | .lst xs => .ok (.nx (ρ.set i (.opn xs))) S
  | _ => .stuck
mutual
def exS (A : Amb) : Sm → List Sl → Sto → Qr
  | .set i e, ρ, S => (ev A e ρ S).to ρ fun v S1 => .ok (.nx (ρ.set i (.val v))) S1
  | .seto i e, ρ, S => (ev A e ρ S).to ρ fun v S1 => setoQ i v ρ S1
  | .frz i, ρ, S => .ok (.nx (opnTo ρ[i]? ρ i)) S
  | .unp t e, ρ, S => (ev A e ρ S).to ρ fun v S1 => bindQ t v ρ fun ρ' => .ok (.nx ρ') S1
  | .par is es, ρ, S => (evs A es ρ S).to ρ fun vs S1 => if vs.length = is.length then .ok (.nx (setL is vs ρ)) S1 else .stuck
  | .seti i ix e, ρ, S => (ev A e ρ S).to ρ fun v S1 => if isBox ρ[i]? = true then (ev A ix ρ S1).to ρ fun j S2 => setIxQ ρ[i]? i v j ρ S2 else .stuck
  | .app i e, ρ, S => if isOpn ρ[i]? = true then (ev A e ρ S).to ρ fun v S1 => appQ ρ[i]? i v ρ S1 else .stuck
  | .exp e, ρ, S => (ev A e ρ S).to ρ fun _ S1 => .ok (.nx ρ) S1
  | .ret e, ρ, S => (ev A e ρ S).to ρ fun v S1 => .ok (.rt v) S1
  | .retN, _, S => .ok (.rt .non) S
  | .ite c a b, ρ, S => (ev A c ρ S).to ρ fun v S1 => truthQ v fun k => if k = true then exT A a ρ S1 else exT A b ρ S1
  | .for_ k src tg b, ρ, S => (evs A src ρ S).to ρ fun vs S1 => match items k vs with
    | some xs => forM (fun x ρ1 S2 => bindQ tg x ρ1 fun ρ2 => exT A b ρ2 S2) xs ρ S1
    | none => .stuck
  | .whl c b, ρ, S => whileM (ev A c) (exT A b) fuel ρ S
  | .rais x, ρ, S => .ex x ρ S
  | .try_ b x n k h, ρ, S => match exT A b ρ S with
    | .ex y ρ' S' => (match under A.tab y x with
      | some true => caughtQ (h y) n k ρ' S'
      | some false => .ex y ρ' S'
      | none => .stuck)
    | q => q
def exT (A : Amb) : T → List Sl → Sto → Qr
  | .nil, ρ, S => .ok (.nx ρ) S
  | .cons s r, ρ, S => (exS A s ρ S).seq fun ρ' S' => exT A r ρ' S'
end
/-- a def: n names in all, its parameters first -/
def run (A : Amb) (n : Nat) (b : T) : Fn := fun vs S => match exT A b (vs.map .val ++ List.replicate (n - vs.length) .no) S with
  | .ok (.nx _) S' => .ok .non S'
  | .ok (.rt v) S' => .ok v S'
  | .ex x _ S' => .ex x S'
  | .stuck => .stuck
end Ev

end -- EvA
section -- EvB
namespace Ev
open PySem L2

/-- which exceptions have a dict of their own: none -/
def dOk (x : Str) (d : Option Addr) : Prop := d = none
/-- a list that nobody changes any more -/
def FzL (H : Hp) (a : Addr) (vs : List V) : Prop := ∃ o, H a = some (.frz o (.lst vs))
theorem FzL.rd {H : Hp} {a : Addr} {vs : List V} (h : FzL H a vs) : Rd H a (.lst vs) := .inr h
/-- the script's list: frozen, or of the written part -/
def ScL (K : PySem.W.Frag) (H : Hp) (a : Addr) (vs : List V) : Prop :=
  (∃ o, H a = some (.frz o (.lst vs))) ∨
    ∃ (o : Obj) (its : Array Value) (n : Nat), K.lookup a = some o ∧ o.cls = .type "list" ∧ o.dict = none ∧ o.data = .seq its n ∧ its.size ≤ sizeLine ∧ Vals vs its.toList
theorem ScL.sq {K : PySem.W.Frag} {H : Hp} {a : Addr} {vs : List V} (h : ScL K H a vs) : SqL K H a vs := by
  rcases h with ⟨o, h⟩ | h
  · exact .inl (.inr ⟨o, h⟩)
  · exact .inr h
section
variable (K : PySem.W.Frag) (mg : Str → Option Value) (A : List Addr) (H : Hp)
mutual
def Rp : PV → V → Prop
  | .non, v => v = .non
  | .bl b, v => v = .bl b
  | .int i, v => v = .int i
  | .str x, v => v = .str x
  | .tup xs, v => ∃ a vs, v = .ref a ∧ SqT K H a vs ∧ RpL xs vs
  | .lst xs, v => ∃ a vs, v = .ref a ∧ FzL H a vs ∧ RpL xs vs
  | .cell k, v => ∃ a, A[k]? = some a ∧ v = .ref a
  | .fn x, v => ∃ a, mg x = some (.ref a) ∧ v = .ref a
  | .exc _ l, v => v = .ref l.toNat
  | .scr ns, v => ∃ a, v = .ref a ∧ ScL K H a (ns.map V.int)
def RpL : List PV → List V → Prop
  | [], vs => vs = []
  | x :: xs, vs => ∃ v r, vs = v :: r ∧ Rp x v ∧ RpL xs r
end
/-- a value that is only read: it may be a list that is still changed -/
def Rb (p : PV) (v : V) : Prop := Rp K mg A H p v ∨ ∃ xs a vs, p = .lst xs ∧ v = .ref a ∧ H a = some (.lst vs) ∧ RpL K mg A H xs vs ∧ a ∉ A
inductive RbL : List PV → List V → Prop
  | nil : RbL [] []
  | cons {p : PV} {v : V} {ps : List PV} {vs : List V} : Rb K mg A H p v → RbL ps vs → RbL (p :: ps) (v :: vs)
end
/-- nothing is told of it, or a table of code objects stands there -/
def Fr (H : Hp) (a : Addr) : Prop := H a = none ∨ ∃ ps, H a = some (.tbl ps)
theorem Fr.ne {H : Hp} {p b : Addr} {o : HO} (f : Fr H p) (h : H b = some o) (n : ∀ ps, o ≠ .tbl ps) : b ≠ p := fun z => by
  rw [z] at h
  rcases f with f | ⟨ps, f⟩
  · rw [f] at h; cases h
  · rw [f] at h; cases h; exact n ps rfl
/-- from (A, H) to (A', H'): what is not of the store stands -/
structure Stp (A : List Addr) (H : Hp) (A' : List Addr) (H' : Hp) : Prop where
  keep : ∀ b o, H b = some o → b ∉ A → (∀ ps, o ≠ .tbl ps) → H' b = some o
  tup : ∀ b xs, H b = some (.tup xs) → H' b = some (.tup xs)
  frz : ∀ b o u, H b = some (.frz o u) → H' b = some (.frz o u)
  ext : ∀ b φ, H b = some (.ext φ) → H' b = some (.ext φ)
  dom : ∀ b, Fr H' b → Fr H b
  app : ∃ new, A' = A ++ new ∧ ∀ a ∈ new, Fr H a
theorem Stp.refl (A : List Addr) (H : Hp) : Stp A H A H := ⟨fun _ _ h _ _ => h, fun _ _ h => h, fun _ _ _ h => h, fun _ _ h => h, fun _ h => h, [], by simp, by simp⟩
theorem Stp.there {A A' : List Addr} {H H' : Hp} (s : Stp A H A' H') {b : Addr} {o : HO} (h : H b = some o) (n : b ∉ A) (q : ∀ ps, o ≠ .tbl ps) : b ∉ A' := by
  obtain ⟨new, e, hn⟩ := s.app
  rw [e]
  intro z
  rcases List.mem_append.mp z with z | z
  · exact n z
  · exact (hn b z).ne h q rfl
theorem Stp.trans {A A1 A2 : List Addr} {H H1 H2 : Hp} (s : Stp A H A1 H1) (t : Stp A1 H1 A2 H2) : Stp A H A2 H2 where
  keep := fun b o h n q => t.keep b o (s.keep b o h n q) (s.there h n q) q
  tup := fun b xs h => t.tup b xs (s.tup b xs h)
  frz := fun b o u h => t.frz b o u (s.frz b o u h)
  ext := fun b φ h => t.ext b φ (s.ext b φ h)
  dom := fun b h => s.dom b (t.dom b h)
  app := by
    obtain ⟨n1, e1, h1⟩ := s.app
    obtain ⟨n2, e2, h2⟩ := t.app
    refine ⟨n1 ++ n2, by rw [e2, e1, List.append_assoc], fun a ha => ?_⟩
    rcases List.mem_append.mp ha with z | z
    · exact h1 a z
    · exact s.dom a (h2 a z)
theorem Stp.ix {A A' : List Addr} {H H' : Hp} (s : Stp A H A' H') {k : Nat} {a : Addr} (h : A[k]? = some a) : A'[k]? = some a := by
  obtain ⟨new, e, _⟩ := s.app
  rw [e, List.getElem?_append_left (List.getElem?_eq_some_iff.mp h).1]
  exact h
/-- what is frozen stands -/
structure Kp (A : List Addr) (H : Hp) (A' : List Addr) (H' : Hp) : Prop where
  tup : ∀ b xs, H b = some (.tup xs) → H' b = some (.tup xs)
  frz : ∀ b o u, H b = some (.frz o u) → H' b = some (.frz o u)
  ext : ∀ b φ, H b = some (.ext φ) → H' b = some (.ext φ)
  ix : ∀ (k : Nat) (a : Addr), A[k]? = some a → A'[k]? = some a
theorem Stp.kp {A A' : List Addr} {H H' : Hp} (s : Stp A H A' H') : Kp A H A' H' := ⟨s.tup, s.frz, s.ext, fun _ _ h => s.ix h⟩
theorem Kp.refl (A : List Addr) (H : Hp) : Kp A H A H := (Stp.refl A H).kp
theorem Kp.trans {A A1 A2 : List Addr} {H H1 H2 : Hp} (s : Kp A H A1 H1) (t : Kp A1 H1 A2 H2) : Kp A H A2 H2 :=
  ⟨fun b xs h => t.tup b xs (s.tup b xs h), fun b o u h => t.frz b o u (s.frz b o u h), fun b φ h => t.ext b φ (s.ext b φ h), fun k a h => t.ix k a (s.ix k a h)⟩
/-- a list that may be changed is written -/
theorem Kp.put {A : List Addr} {H : Hp} {p : Addr} {vs : List V} {o : HO} (hp : H p = some (.lst vs)) : Kp A H A (upd H p o) where
  tup := fun b u h => by rw [upd_ne (ne_of h hp nofun)]; exact h
  frz := fun b u w h => by rw [upd_ne (ne_of h hp nofun)]; exact h
  ext := fun b u h => by rw [upd_ne (ne_of h hp nofun)]; exact h
  ix := fun _ _ h => h
theorem Stp.put {A A' : List Addr} {H H' : Hp} {p : Addr} {o : HO} (s : Stp A H A' H') (hp : Fr H p) : Stp A H A' (upd H' p o) where
  keep := fun b u h n q => by rw [upd_ne (hp.ne h q)]; exact s.keep b u h n q
  tup := fun b u h => by rw [upd_ne (hp.ne h nofun)]; exact s.tup b u h
  frz := fun b u w h => by rw [upd_ne (hp.ne h nofun)]; exact s.frz b u w h
  ext := fun b u h => by rw [upd_ne (hp.ne h nofun)]; exact s.ext b u h
  dom := fun b h => by
    by_cases e : b = p
    · rw [e]; exact hp
    · refine s.dom b ?_
      unfold Fr at h ⊢
      rw [upd_ne e] at h
      exact h
  app := s.app
/-- a new thing is laid -/
theorem Stp.new {A : List Addr} {H : Hp} {p : Addr} {o : HO} (hp : H p = none) : Stp A H A (upd H p o) := (Stp.refl A H).put (.inl hp)
/-- a new cell of the store -/
theorem Stp.newc {A : List Addr} {H : Hp} {p : Addr} {o : HO} (hp : H p = none) : Stp A H (A ++ [p]) (upd H p o) := by
  obtain ⟨a, b, c, d, e, _⟩ := Stp.new (A := A) (o := o) hp
  exact ⟨a, b, c, d, e, [p], rfl, fun a ha => by rw [List.mem_singleton.mp ha]; exact .inl hp⟩
section
variable {K : PySem.W.Frag} {mg : Str → Option Value} {A A' : List Addr} {H H' : Hp}
theorem SqT.kp (s : Kp A H A' H') {a : Addr} {vs : List V} (h : SqT K H a vs) : SqT K H' a vs := by
  rcases h with (h | ⟨o, h⟩) | h
  · exact .inl (.inl (s.tup _ _ h))
  · exact .inl (.inr ⟨o, s.frz _ _ _ h⟩)
  · exact .inr h
theorem FzL.kp (s : Kp A H A' H') {a : Addr} {vs : List V} (h : FzL H a vs) : FzL H' a vs := by
  obtain ⟨o, h⟩ := h
  exact ⟨o, s.frz _ _ _ h⟩
theorem ScL.kp (s : Kp A H A' H') {a : Addr} {vs : List V} (h : ScL K H a vs) : ScL K H' a vs := by
  rcases h with ⟨o, h⟩ | h
  · exact .inl ⟨o, s.frz _ _ _ h⟩
  · exact .inr h
mutual
theorem Rp.kp (s : Kp A H A' H') : ∀ (p : PV) (v : V), Rp K mg A H p v → Rp K mg A' H' p v
  | .non, _, h => h
  | .bl _, _, h => h
  | .int _, _, h => h
  | .str _, _, h => h
  | .tup xs, v, h => by
    simp only [Rp] at h ⊢
    obtain ⟨a, vs, e, h1, h2⟩ := h
    exact ⟨a, vs, e, SqT.kp s h1, RpL.kp s xs vs h2⟩
  | .lst xs, v, h => by
    simp only [Rp] at h ⊢
    obtain ⟨a, vs, e, h1, h2⟩ := h
    exact ⟨a, vs, e, FzL.kp s h1, RpL.kp s xs vs h2⟩
  | .cell k, v, h => by
    simp only [Rp] at h ⊢
    obtain ⟨a, e, h1⟩ := h
    exact ⟨a, s.ix _ _ e, h1⟩
  | .fn x, v, h => h
  | .exc _ _, _, h => h
  | .scr ns, v, h => by
    simp only [Rp] at h ⊢
    obtain ⟨a, e, h1⟩ := h
    exact ⟨a, e, ScL.kp s h1⟩
theorem RpL.kp (s : Kp A H A' H') : ∀ (p : List PV) (v : List V), RpL K mg A H p v → RpL K mg A' H' p v
  | [], _, h => h
  | x :: xs, vs, h => by
    simp only [RpL] at h ⊢
    obtain ⟨v, r, e, h1, h2⟩ := h
    exact ⟨v, r, e, Rp.kp s x v h1, RpL.kp s xs r h2⟩
end
theorem SqT.stp (s : Stp A H A' H') {a : Addr} {vs : List V} (h : SqT K H a vs) : SqT K H' a vs := SqT.kp s.kp h
theorem FzL.stp (s : Stp A H A' H') {a : Addr} {vs : List V} (h : FzL H a vs) : FzL H' a vs := FzL.kp s.kp h
theorem ScL.stp (s : Stp A H A' H') {a : Addr} {vs : List V} (h : ScL K H a vs) : ScL K H' a vs := ScL.kp s.kp h
theorem Rp.stp (s : Stp A H A' H') (p : PV) (v : V) (h : Rp K mg A H p v) : Rp K mg A' H' p v := Rp.kp s.kp p v h
theorem RpL.stp (s : Stp A H A' H') (p : List PV) (v : List V) (h : RpL K mg A H p v) : RpL K mg A' H' p v := RpL.kp s.kp p v h
theorem RpL.nil : RpL K mg A H [] [] := by simp [RpL]
theorem RpL.cons {p : PV} {ps : List PV} {v : V} {vs : List V} (h : Rp K mg A H p v) (t : RpL K mg A H ps vs) : RpL K mg A H (p :: ps) (v :: vs) := by
  simp only [RpL]
  exact ⟨v, vs, rfl, h, t⟩
theorem RpL.length : ∀ {ps : List PV} {vs : List V}, RpL K mg A H ps vs → vs.length = ps.length
  | [], _, h => by simp only [RpL] at h; subst h; rfl
  | p :: ps, _, h => by
    simp only [RpL] at h
    obtain ⟨v, r, rfl, _, h2⟩ := h
    simp [RpL.length h2]
theorem RpL.app : ∀ {ps qs : List PV} {vs us : List V}, RpL K mg A H ps vs → RpL K mg A H qs us → RpL K mg A H (ps ++ qs) (vs ++ us)
  | [], _, _, _, h, t => by simp only [RpL] at h; subst h; exact t
  | p :: ps, qs, _, us, h, t => by
    simp only [RpL] at h
    obtain ⟨v, r, rfl, h1, h2⟩ := h
    exact RpL.cons h1 (RpL.app h2 t)
theorem RpL.get : ∀ {ps : List PV} {vs : List V} {i : Nat} {p : PV}, RpL K mg A H ps vs → ps[i]? = some p → ∃ v, vs[i]? = some v ∧ Rp K mg A H p v
  | [], _, _, _, _, e => by simp at e
  | q :: ps, _, 0, p, h, e => by
    simp only [RpL] at h
    obtain ⟨v, r, rfl, h1, _⟩ := h
    simp at e
    subst e
    exact ⟨v, rfl, h1⟩
  | q :: ps, _, i + 1, p, h, e => by
    simp only [RpL] at h
    obtain ⟨v, r, rfl, _, h2⟩ := h
    obtain ⟨w', e1, e2⟩ := RpL.get (i := i) h2 (by simpa using e)
    exact ⟨w', by simpa using e1, e2⟩
theorem RpL.set : ∀ {ps : List PV} {vs : List V} {p : PV} {v : V} (i : Nat), RpL K mg A H ps vs → Rp K mg A H p v → RpL K mg A H (ps.set i p) (vs.set i v)
  | [], _, _, _, _, h, _ => by simp only [RpL] at h; subst h; simp [RpL]
  | q :: ps, _, p, v, 0, h, t => by
    simp only [RpL] at h
    obtain ⟨w', r, rfl, _, h2⟩ := h
    exact RpL.cons t h2
  | q :: ps, _, p, v, i + 1, h, t => by
    simp only [RpL] at h
    obtain ⟨w', r, rfl, h1, h2⟩ := h
    exact RpL.cons h1 (RpL.set i h2 t)
theorem RpL.take : ∀ {ps : List PV} {vs : List V} (n : Nat), RpL K mg A H ps vs → RpL K mg A H (ps.take n) (vs.take n)
  | _, _, 0, _ => by simp [RpL]
  | [], _, n + 1, h => by simp only [RpL] at h; subst h; simp [RpL]
  | q :: ps, _, n + 1, h => by
    simp only [RpL] at h
    obtain ⟨w', r, rfl, h1, h2⟩ := h
    exact RpL.cons h1 (RpL.take n h2)
theorem RpL.drop : ∀ {ps : List PV} {vs : List V} (n : Nat), RpL K mg A H ps vs → RpL K mg A H (ps.drop n) (vs.drop n)
  | _, _, 0, h => h
  | [], _, n + 1, h => by simp only [RpL] at h; subst h; simp [RpL]
  | q :: ps, _, n + 1, h => by
    simp only [RpL] at h
    obtain ⟨w', r, rfl, _, h2⟩ := h
    exact RpL.drop n h2
theorem RpL.rev : ∀ {ps : List PV} {vs : List V}, RpL K mg A H ps vs → RpL K mg A H ps.reverse vs.reverse
  | [], _, h => by simp only [RpL] at h; subst h; simp [RpL]
  | q :: ps, _, h => by
    simp only [RpL] at h
    obtain ⟨w', r, rfl, h1, h2⟩ := h
    rw [List.reverse_cons, List.reverse_cons]
    exact RpL.app (RpL.rev h2) (RpL.cons h1 RpL.nil)
theorem RpL.rep {ps : List PV} {vs : List V} (h : RpL K mg A H ps vs) : ∀ n : Nat, RpL K mg A H (List.replicate n ps).flatten (List.replicate n vs).flatten
  | 0 => by simp [RpL]
  | n + 1 => by
    rw [List.replicate_succ, List.replicate_succ, List.flatten_cons, List.flatten_cons]
    exact RpL.app h (RpL.rep h n)
theorem RpL.nil_iff {ps : List PV} {vs : List V} (h : RpL K mg A H ps vs) : vs = [] ↔ ps = [] := by
  have e := h.length
  constructor
  · intro z; subst z; exact List.length_eq_zero_iff.mp e.symm
  · intro z; subst z; exact List.length_eq_zero_iff.mp e
theorem Rb.stp (s : Stp A H A' H') {p : PV} {v : V} (h : Rb K mg A H p v) : Rb K mg A' H' p v := by
  rcases h with h | ⟨xs, a, vs, e1, e2, h1, h2, h3⟩
  · exact .inl (Rp.stp s _ _ h)
  · exact .inr ⟨xs, a, vs, e1, e2, s.keep a _ h1 h3 (fun ps z => by cases z), RpL.stp s _ _ h2, s.there h1 h3 nofun⟩
theorem RbL.stp (s : Stp A H A' H') : ∀ {ps : List PV} {vs : List V}, RbL K mg A H ps vs → RbL K mg A' H' ps vs
  | _, _, .nil => .nil
  | _, _, .cons h t => .cons (h.stp s) (RbL.stp s t)
theorem RbL.length : ∀ {ps : List PV} {vs : List V}, RbL K mg A H ps vs → vs.length = ps.length
  | _, _, .nil => rfl
  | _, _, .cons _ t => by simp [RbL.length t]
theorem RbL.of : ∀ {ps : List PV} {vs : List V}, RpL K mg A H ps vs → RbL K mg A H ps vs
  | [], _, h => by simp only [RpL] at h; subst h; exact .nil
  | q :: ps, _, h => by
    simp only [RpL] at h
    obtain ⟨w', r, rfl, h1, h2⟩ := h
    exact .cons (.inl h1) (RbL.of h2)
theorem Rb.seqT {xs : List PV} {v : V} (h : Rb K mg A H (.tup xs) v) : ∃ a vs, v = .ref a ∧ SqT K H a vs ∧ RpL K mg A H xs vs := by
  rcases h with h | ⟨ys, a, vs, e, _⟩
  · simpa only [Rp] using h
  · cases e
theorem Rb.seqL {xs : List PV} {v : V} (h : Rb K mg A H (.lst xs) v) : ∃ a vs, v = .ref a ∧ Rd H a (.lst vs) ∧ RpL K mg A H xs vs := by
  rcases h with h | ⟨ys, a, vs, e, e1, h1, h2, _⟩
  · simp only [Rp] at h
    obtain ⟨a, vs, e, h1, h2⟩ := h
    exact ⟨a, vs, e, h1.rd, h2⟩
  · cases e
    exact ⟨a, vs, e1, .inl h1, h2⟩
theorem Rb.scr {ns : List Int} {v : V} (h : Rb K mg A H (.scr ns) v) : ∃ a, v = .ref a ∧ SqL K H a (ns.map V.int) := by
  rcases h with h | ⟨ys, a, vs, e, _⟩
  · simp only [Rp] at h
    obtain ⟨a, e, h⟩ := h
    exact ⟨a, e, h.sq⟩
  · cases e
theorem Rb.int {i : Int} {v : V} (h : Rb K mg A H (.int i) v) : v = .int i := by
  rcases h with h | ⟨ys, a, vs, e, _⟩
  · simpa only [Rp] using h
  · cases e
theorem Rb.bl {i : Bool} {v : V} (h : Rb K mg A H (.bl i) v) : v = .bl i := by
  rcases h with h | ⟨ys, a, vs, e, _⟩
  · simpa only [Rp] using h
  · cases e
theorem Rb.str {i : Str} {v : V} (h : Rb K mg A H (.str i) v) : v = .str i := by
  rcases h with h | ⟨ys, a, vs, e, _⟩
  · simpa only [Rp] using h
  · cases e
theorem Rb.non {v : V} (h : Rb K mg A H .non v) : v = .non := by
  rcases h with h | ⟨ys, a, vs, e, _⟩
  · simpa only [Rp] using h
  · cases e
theorem Rb.cell {k : Nat} {v : V} (h : Rb K mg A H (.cell k) v) : ∃ a, A[k]? = some a ∧ v = .ref a := by
  rcases h with h | ⟨ys, a, vs, e, _⟩
  · simpa only [Rp] using h
  · cases e
end
section
variable (K : PySem.W.Frag) (mg : Str → Option Value) (tb : List (Addr × Str)) (A : List Addr) (H : Hp)
inductive FsR : List (Str × PV) → List (Str × V) → Prop
  | nil : FsR [] []
  | cons {f : Str} {p : PV} {v : V} {ps : List (Str × PV)} {vs : List (Str × V)} : Rp K mg A H p v → FsR ps vs → FsR ((f, p) :: ps) ((f, v) :: vs)
def CellR (a : Addr) : Cell → Prop
  | .lst xs => ∃ vs, H a = some (.lst vs) ∧ RpL K mg A H xs vs
  | .obj c fs => ∃ C dx ws, mg c = some (.ref C) ∧ H a = some (.ins C dx ws) ∧ FsR K mg A H fs ws
structure SRep (S : Sto) : Prop where
  len : A.length = S.length
  nd : A.Nodup
  at_ : ∀ (k : Nat) (a : Addr) (c : Cell), A[k]? = some a → S[k]? = some c → CellR K mg A H a c
  tabs : LamX.Tabs tb H
def Sl1 : Sl → Option V → Prop
  | .no, _ => True
  | .val p, o => ∃ v, o = some v ∧ Rp K mg A H p v
  | .opn xs, o => ∃ a vs, o = some (.ref a) ∧ H a = some (.lst vs) ∧ a ∉ A ∧ RpL K mg A H xs vs
structure SlE (ρ : List Sl) (σ : St) : Prop where
  len : ρ.length = σ.length
  at_ : ∀ (i : Nat) (s : Sl), ρ[i]? = some s → ∃ o, σ[i]? = some o ∧ Sl1 K mg A H s o
  one : ∀ (i j : Nat) (xs ys : List PV) (a : Addr), ρ[i]? = some (.opn xs) → ρ[j]? = some (.opn ys) → σ[i]? = some (some (.ref a)) → σ[j]? = some (some (.ref a)) → i = j
end
section
variable {K : PySem.W.Frag} {mg : Str → Option Value} {tb : List (Addr × Str)} {A A' : List Addr} {H H' : Hp} {S : Sto} {ρ : List Sl} {σ : St}
theorem FsR.stp (s : Stp A H A' H') : ∀ {ps : List (Str × PV)} {vs : List (Str × V)}, FsR K mg A H ps vs → FsR K mg A' H' ps vs
  | _, _, .nil => .nil
  | _, _, .cons h t => .cons (Rp.stp s _ _ h) (FsR.stp s t)
theorem SRep.notin (r : SRep K mg tb A H S) {b : Addr} (h : ∀ vs C dx ws, H b ≠ some (.lst vs) ∧ H b ≠ some (.ins C dx ws)) : b ∉ A := fun z => by
  obtain ⟨k, hk⟩ := List.getElem?_of_mem z
  have hlt : k < S.length := by
    rw [← r.len]
    exact (List.getElem?_eq_some_iff.mp hk).1
  have q := r.at_ k b S[k] hk (List.getElem?_eq_getElem hlt)
  cases e : S[k] with
  | lst xs =>
    rw [e] at q
    obtain ⟨vs, q1, _⟩ := q
    exact (h vs 0 0 []).1 q1
  | obj c fs =>
    rw [e] at q
    obtain ⟨C, dx, ws, _, q1, _⟩ := q
    exact (h [] C dx ws).2 q1
theorem SRep.isin (r : SRep K mg tb A H S) {b : Addr} (h : b ∈ A) : H b ≠ none := fun z => by
  refine r.notin (b := b) (fun vs C dx ws => ?_) h
  rw [z]
  exact ⟨nofun, nofun⟩
/-- a new thing beside the store -/
theorem SRep.new (r : SRep K mg tb A H S) {p : Addr} {o : HO} (hp : H p = none) : SRep K mg tb A (upd H p o) S where
  len := r.len
  nd := r.nd
  at_ := fun k a c e1 e2 => by
    have s : Stp A H A (upd H p o) := Stp.new hp
    have q := r.at_ k a c e1 e2
    have ne : a ≠ p := fun z => r.isin (List.mem_of_getElem? e1) (by rw [z]; exact hp)
    cases c with
    | lst xs =>
      obtain ⟨vs, q1, q2⟩ := q
      exact ⟨vs, by rw [upd_ne ne]; exact q1, RpL.stp s _ _ q2⟩
    | obj c fs =>
      obtain ⟨C, dx, ws, q0, q1, q2⟩ := q
      exact ⟨C, dx, ws, q0, by rw [upd_ne ne]; exact q1, FsR.stp s q2⟩
  tabs := r.tabs.ext fun b u h => by rw [upd_ne (ne_of_none h hp)]; exact h
/-- a new list in the store -/
theorem SRep.newc (r : SRep K mg tb A H S) {p : Addr} {xs : List PV} {vs : List V} (hp : H p = none) (hx : RpL K mg A H xs vs) : SRep K mg tb (A ++ [p]) (upd H p (.lst vs)) (S ++ [.lst xs]) where
  len := by simp [r.len]
  nd := by
    rw [List.nodup_append]
    refine ⟨r.nd, by simp, fun a ha b hb z => ?_⟩
    rw [List.mem_singleton.mp hb] at z
    exact r.isin ha (by rw [z]; exact hp)
  at_ := fun k a c e1 e2 => by
    have s : Stp A H (A ++ [p]) (upd H p (.lst vs)) := Stp.newc hp
    by_cases hk : k < A.length
    · rw [List.getElem?_append_left hk] at e1
      rw [List.getElem?_append_left (by rw [← r.len]; exact hk)] at e2
      have q := r.at_ k a c e1 e2
      have ne : a ≠ p := fun z => r.isin (List.mem_of_getElem? e1) (by rw [z]; exact hp)
      cases c with
      | lst xs =>
        obtain ⟨vs, q1, q2⟩ := q
        exact ⟨vs, by rw [upd_ne ne]; exact q1, RpL.stp s _ _ q2⟩
      | obj c fs =>
        obtain ⟨C, dx, ws, q0, q1, q2⟩ := q
        exact ⟨C, dx, ws, q0, by rw [upd_ne ne]; exact q1, FsR.stp s q2⟩
    · have hk' : A.length ≤ k := Nat.le_of_not_lt hk
      rw [List.getElem?_append_right hk'] at e1
      rw [List.getElem?_append_right (by rw [← r.len]; exact hk')] at e2
      rw [← r.len] at e2
      cases hz : k - A.length with
      | zero =>
        rw [hz] at e1 e2
        simp at e1 e2
        subst e1 e2
        exact ⟨vs, upd_same, RpL.stp s _ _ hx⟩
      | succ n =>
        rw [hz] at e1
        simp at e1
  tabs := r.tabs.ext fun b u h => by rw [upd_ne (ne_of_none h hp)]; exact h
theorem FsR.kp (s : Kp A H A' H') : ∀ {ps : List (Str × PV)} {vs : List (Str × V)}, FsR K mg A H ps vs → FsR K mg A' H' ps vs
  | _, _, .nil => .nil
  | _, _, .cons h t => .cons (Rp.kp s _ _ h) (FsR.kp s t)
theorem tabs_put {T : List (Addr × Str)} {H : Hp} {p : Addr} {vs : List V} {o : HO} (t : LamX.Tabs T H) (hp : H p = some (.lst vs)) : LamX.Tabs T (upd H p o) := fun q hq => by
  obtain ⟨ps, h1, h2, h3⟩ := t q hq
  refine ⟨ps, by rw [upd_ne (ne_of h1 hp nofun)]; exact h1, h2, fun pos cv hc => ?_⟩
  obtain ⟨c, e1, e2⟩ := h3 pos cv hc
  exact ⟨c, e1, by rw [upd_ne (ne_of e2 hp (by unfold LamX.CodeO; nofun))]; exact e2⟩
/-- a list beside the store is written -/
theorem SRep.put (r : SRep K mg tb A H S) {p : Addr} {vs : List V} {o : HO} (hp : H p = some (.lst vs)) (hn : p ∉ A) : SRep K mg tb A (upd H p o) S where
  len := r.len
  nd := r.nd
  at_ := fun k a c e1 e2 => by
    have s : Kp A H A (upd H p o) := Kp.put hp
    have q := r.at_ k a c e1 e2
    have ne : a ≠ p := fun z => hn (by rw [← z]; exact List.mem_of_getElem? e1)
    cases c with
    | lst xs =>
      obtain ⟨vs, q1, q2⟩ := q
      exact ⟨vs, by rw [upd_ne ne]; exact q1, RpL.kp s _ _ q2⟩
    | obj c fs =>
      obtain ⟨C, dx, ws, q0, q1, q2⟩ := q
      exact ⟨C, dx, ws, q0, by rw [upd_ne ne]; exact q1, FsR.kp s q2⟩
  tabs := tabs_put r.tabs hp
theorem Sl1.stp (s : Stp A H A' H') {x : Sl} {o : Option V} (h : Sl1 K mg A H x o) : Sl1 K mg A' H' x o := by
  cases x with
  | no => trivial
  | val p =>
    obtain ⟨v, e, h⟩ := h
    exact ⟨v, e, Rp.stp s _ _ h⟩
  | opn xs =>
    obtain ⟨a, vs, e, h1, h2, h3⟩ := h
    exact ⟨a, vs, e, s.keep a _ h1 h2 (fun ps z => by cases z), s.there h1 h2 nofun, RpL.stp s _ _ h3⟩
theorem SlE.stp (s : Stp A H A' H') (h : SlE K mg A H ρ σ) : SlE K mg A' H' ρ σ :=
  ⟨h.len, fun i x e => let ⟨o, e1, e2⟩ := h.at_ i x e; ⟨o, e1, Sl1.stp s e2⟩, h.one⟩
theorem SlE.var (h : SlE K mg A H ρ σ) {i : Nat} {p : PV} (e : slVar ρ[i]? = some p) : ∃ v, σ[i]? = some (some v) ∧ Rp K mg A H p v := by
  cases q : ρ[i]? with
  | none => rw [q] at e; cases e
  | some x =>
    rw [q] at e
    cases x with
    | no => cases e
    | opn _ => cases e
    | val y =>
      cases e
      obtain ⟨o, e1, v, e2, e3⟩ := h.at_ i _ q
      exact ⟨v, by rw [e1, e2], e3⟩
theorem SlE.bor (h : SlE K mg A H ρ σ) {i : Nat} {p : PV} (e : slBor ρ[i]? = some p) : ∃ v, σ[i]? = some (some v) ∧ Rb K mg A H p v := by
  cases q : ρ[i]? with
  | none => rw [q] at e; cases e
  | some x =>
    rw [q] at e
    cases x with
    | no => cases e
    | opn xs =>
      cases e
      obtain ⟨o, e1, a, vs, e2, e3, e4, e5⟩ := h.at_ i _ q
      exact ⟨.ref a, by rw [e1, e2], .inr ⟨xs, a, vs, rfl, rfl, e3, e5, e4⟩⟩
    | val y =>
      cases e
      obtain ⟨o, e1, v, e2, e3⟩ := h.at_ i _ q
      exact ⟨v, by rw [e1, e2], .inl e3⟩
theorem SlE.setVal (h : SlE K mg A H ρ σ) (i : Nat) {p : PV} {v : V} (r : Rp K mg A H p v) : SlE K mg A H (ρ.set i (.val p)) (σ.set i (some v)) where
  len := by simp [h.len]
  at_ := fun j x e => by
    by_cases hj : i = j
    · subst hj
      have hi : i < ρ.length := by
        have := (List.getElem?_eq_some_iff.mp e).1
        simpa using this
      rw [List.getElem?_set_self hi] at e
      cases e
      exact ⟨some v, List.getElem?_set_self (by rw [← h.len]; exact hi), v, rfl, r⟩
    · rw [List.getElem?_set_ne hj] at e
      obtain ⟨o, e1, e2⟩ := h.at_ j x e
      exact ⟨o, by rw [List.getElem?_set_ne hj]; exact e1, e2⟩
  one := fun j k xs ys a e1 e2 e3 e4 => by
    have aux : ∀ {j : Nat} {xs : List PV}, (ρ.set i (.val p))[j]? = some (.opn xs) → i ≠ j ∧ ρ[j]? = some (.opn xs) := fun {j xs} e => by
      by_cases hj : i = j
      · subst hj
        by_cases hi : i < ρ.length
        · rw [List.getElem?_set_self hi] at e; cases e
        · rw [List.getElem?_eq_none (by simpa using hi)] at e; cases e
      · rw [List.getElem?_set_ne hj] at e
        exact ⟨hj, e⟩
    obtain ⟨n1, q1⟩ := aux e1
    obtain ⟨n2, q2⟩ := aux e2
    rw [List.getElem?_set_ne n1] at e3
    rw [List.getElem?_set_ne n2] at e4
    exact h.one j k xs ys a q1 q2 e3 e4
theorem SlE.setNo (h : SlE K mg A H ρ σ) (i : Nat) {o : Option V} : SlE K mg A H (ρ.set i .no) (σ.set i o) where
  len := by simp [h.len]
  at_ := fun j x e => by
    by_cases hj : i = j
    · subst hj
      have hi : i < ρ.length := by
        have := (List.getElem?_eq_some_iff.mp e).1
        simpa using this
      rw [List.getElem?_set_self hi] at e
      cases e
      exact ⟨o, List.getElem?_set_self (by rw [← h.len]; exact hi), trivial⟩
    · rw [List.getElem?_set_ne hj] at e
      obtain ⟨o, e1, e2⟩ := h.at_ j x e
      exact ⟨o, by rw [List.getElem?_set_ne hj]; exact e1, e2⟩
  one := fun j k xs ys a e1 e2 e3 e4 => by
    have aux : ∀ {j : Nat} {xs : List PV}, (ρ.set i .no)[j]? = some (.opn xs) → i ≠ j ∧ ρ[j]? = some (.opn xs) := fun {j xs} e => by
      by_cases hj : i = j
      · subst hj
        by_cases hi : i < ρ.length
        · rw [List.getElem?_set_self hi] at e; cases e
        · rw [List.getElem?_eq_none (by simpa using hi)] at e; cases e
      · rw [List.getElem?_set_ne hj] at e
        exact ⟨hj, e⟩
    obtain ⟨n1, q1⟩ := aux e1
    obtain ⟨n2, q2⟩ := aux e2
    rw [List.getElem?_set_ne n1] at e3
    rw [List.getElem?_set_ne n2] at e4
    exact h.one j k xs ys a q1 q2 e3 e4
end
end Ev

end -- EvB
section -- EvC
namespace Ev
open PySem PySem.Spec PyProof.Rows L2

/-- .. or a list was laid that may be frozen -/
def Fz (Q : VK) : VK := fun v H => Q v H ∨ ∃ p vs, v = .ref p ∧ H p = some (.lst vs) ∧ ∀ o, Q v (upd H p (.frz o (.lst vs)))
section
variable {X : Cx} {pins : List (Addr × Obj)} {σ : L2.St} {s : Shared} {Q : VK} {u : Value}
theorem fz_ep (h : EP X pins σ (Fz Q) u s) : EP X pins σ Q u s := by
  obtain ⟨v, H, I, r, q⟩ := h
  rcases q with q | ⟨p, vs, rfl, hp, q⟩
  · exact ⟨v, H, I, r, q⟩
  · obtain ⟨od, I'⟩ := I.lock hp trivial
    exact ⟨_, _, I', r, q od⟩
theorem OpR.fz {f : Value → Value → Sem Value} {r : R2} (h : OpR X f r) : OpR X f (fun x y H Q => r x y H (Fz Q)) :=
  fun pins s σ H x y v u Q I rx ry q => thn (h pins s σ H x y v u (Fz Q) I rx ry q) fun _ _ e => fz_ep e
theorem CallR.fz {f : Value} {r : List V → Hp → VK → Prop} (h : CallR X f r) : CallR X f (fun xs H Q => r xs H (Fz Q)) :=
  fun pins s σ H xs us Q I r1 q => thn (h pins s σ H xs us (Fz Q) I r1 q) fun _ _ e => fz_ep e
theorem pe_fz {e : Expr} {t : TE} (h : PE X e t) : PE X e (fun σ H Q => t σ H (Fz Q)) :=
  ⟨fun pins s σ H Q I q => thn (h.run pins s σ H (Fz Q) I q) fun _ _ e => fz_ep e⟩
end
section
variable {K : PySem.W.Frag} {mg : Str → Option Value} {tb : List (Addr × Str)} {A : List Addr} {H : Hp} {S : Sto}
/-- the answer v is wanted -/
def Ans (K : PySem.W.Frag) (mg : Str → Option Value) (tb : List (Addr × Str)) (A : List Addr) (H : Hp) (S : Sto) (p : PV) (Q : VK) : Prop :=
  ∀ v H', Stp A H A H' → SRep K mg tb A H' S → Rp K mg A H' p v → Q v H'
theorem Ans.here {p : PV} {Q : VK} {v : V} (q : Ans K mg tb A H S p Q) (hS : SRep K mg tb A H S) (r : Rp K mg A H p v) : Q v H := q v H (.refl A H) hS r
theorem Ans.tup {xs : List PV} {vs : List V} {Q : VK} (q : Ans K mg tb A H S (.tup xs) Q) (hS : SRep K mg tb A H S) (r : RpL K mg A H xs vs) (p : Addr) (hp : H p = none) : Q (.ref p) (upd H p (.tup vs)) :=
  q _ _ (Stp.new hp) (hS.new hp) (by simp only [Rp]; exact ⟨p, vs, rfl, SqT.of upd_same, RpL.stp (Stp.new hp) _ _ r⟩)
theorem Ans.lst {xs : List PV} {vs : List V} {Q : VK} (q : Ans K mg tb A H S (.lst xs) Q) (hS : SRep K mg tb A H S) (r : RpL K mg A H xs vs) (p : Addr) (hp : H p = none) : Fz Q (.ref p) (upd H p (.lst vs)) := by
  refine .inr ⟨p, vs, rfl, upd_same, fun o => ?_⟩
  rw [upd_upd]
  exact q _ _ (Stp.new hp) (hS.new hp) (by simp only [Rp]; exact ⟨p, vs, rfl, ⟨o, upd_same⟩, RpL.stp (Stp.new hp) _ _ r⟩)
theorem rp_int {i : Int} : Rp K mg A H (.int i) (.int i) := by simp [Rp]
theorem rp_bl {i : Bool} : Rp K mg A H (.bl i) (.bl i) := by simp [Rp]
theorem rp_str {i : Str} : Rp K mg A H (.str i) (.str i) := by simp [Rp]
theorem rp_non : Rp K mg A H .non .non := by simp [Rp]
end
/-- an operation on two values, by what it gives -/
def rO (K : PySem.W.Frag) (mg : Str → Option Value) (tb : List (Addr × Str)) (f : Sto → PV → PV → Option PV) : R2 := fun x y H Q =>
  ∃ A S a b p, SRep K mg tb A H S ∧ Rb K mg A H a x ∧ Rb K mg A H b y ∧ f S a b = some p ∧ Ans K mg tb A H S p Q

section
variable {K : PySem.W.Frag} {mg : Str → Option Value} {A : List Addr} {H : Hp}
mutual
theorem toD_some : ∀ (n : Nat) (p : PV), dataN n p = true → ∃ d, toD p = some d ∧ d.canLay0 = true ∧ d.depth ≤ n
  | 0, p, h => by cases p <;> simp [dataN] at h
  | n + 1, .non, _ => ⟨_, rfl, by simp [PyData.canLay0], by simp [PyData.depth]⟩
  | n + 1, .bl _, _ => ⟨_, rfl, by simp [PyData.canLay0], by simp [PyData.depth]⟩
  | n + 1, .int _, _ => ⟨_, rfl, by simp [PyData.canLay0], by simp [PyData.depth]⟩
  | n + 1, .str x, h => ⟨_, rfl, by simpa [PyData.canLay0, dataN] using h, by simp [PyData.depth]⟩
  | n + 1, .tup xs, h => by
    simp only [dataN] at h
    obtain ⟨ds, e, h1, h2⟩ := toDs_some n xs h
    exact ⟨.tuple ds, by simp [toD, e], by simpa [PyData.canLay0] using h1, by simp only [PyData.depth]; omega⟩
  | n + 1, .lst xs, h => by
    simp only [dataN] at h
    obtain ⟨ds, e, h1, h2⟩ := toDs_some n xs h
    exact ⟨.list ds, by simp [toD, e], by simpa [PyData.canLay0] using h1, by simp only [PyData.depth]; omega⟩
  | n + 1, .cell _, h => by simp [dataN] at h
  | n + 1, .fn _, h => by simp [dataN] at h
  | n + 1, .exc _ _, h => by simp [dataN] at h
  | n + 1, .scr _, h => by simp [dataN] at h
theorem toDs_some : ∀ (n : Nat) (ps : List PV), dataNs n ps = true → ∃ ds, toDs ps = some ds ∧ PyData.canLayAll0 ds = true ∧ PyData.depthAll ds ≤ n
  | n, [], _ => ⟨[], rfl, by simp [PyData.canLayAll0], by simp [PyData.depthAll]⟩
  | n, p :: ps, h => by
    simp only [dataNs, Bool.and_eq_true] at h
    obtain ⟨d, e, h1, h2⟩ := toD_some n p h.1
    obtain ⟨ds, e', h3, h4⟩ := toDs_some n ps h.2
    exact ⟨d :: ds, by simp [toDs, e, e'], by simp [PyData.canLayAll0, h1, h3], by simp only [PyData.depthAll]; omega⟩
end
mutual
theorem dp_of : ∀ (p : PV) (v : V) (d : PyData), Rp K mg A H p v → toD p = some d → Dp K H v d
  | .non, _, _, h, e => by simp only [Rp] at h; simp only [toD] at e; cases e; subst h; exact .non
  | .bl _, _, _, h, e => by simp only [Rp] at h; simp only [toD] at e; cases e; subst h; exact .bl _
  | .int _, _, _, h, e => by simp only [Rp] at h; simp only [toD] at e; cases e; subst h; exact .int _
  | .str _, _, _, h, e => by simp only [Rp] at h; simp only [toD] at e; cases e; subst h; exact .str _
  | .tup xs, _, _, h, e => by
    simp only [Rp] at h
    obtain ⟨a, vs, rfl, h1, h2⟩ := h
    simp only [toD] at e
    cases q : toDs xs with
    | none => rw [q] at e; cases e
    | some ds =>
      rw [q] at e
      cases e
      exact .tup h1 (dps_of xs vs ds h2 q)
  | .lst xs, _, _, h, e => by
    simp only [Rp] at h
    obtain ⟨a, vs, rfl, h1, h2⟩ := h
    simp only [toD] at e
    cases q : toDs xs with
    | none => rw [q] at e; cases e
    | some ds =>
      rw [q] at e
      cases e
      exact .lst (.inl h1.rd) (dps_of xs vs ds h2 q)
  | .cell _, _, _, _, e => by simp [toD] at e
  | .fn _, _, _, _, e => by simp [toD] at e
  | .exc _ _, _, _, _, e => by simp [toD] at e
  | .scr _, _, _, _, e => by simp [toD] at e
theorem dps_of : ∀ (ps : List PV) (vs : List V) (ds : List PyData), RpL K mg A H ps vs → toDs ps = some ds → DpAll K H vs ds
  | [], _, _, h, e => by simp only [RpL] at h; simp only [toDs] at e; cases e; subst h; exact .nil
  | p :: ps, _, ds, h, e => by
    simp only [RpL] at h
    obtain ⟨v, r, rfl, h1, h2⟩ := h
    simp only [toDs] at e
    cases q : toD p with
    | none => rw [q] at e; cases e
    | some d =>
      cases q2 : toDs ps with
      | none => rw [q, q2] at e; cases e
      | some ds' =>
        rw [q, q2] at e
        cases e
        exact .cons (dp_of p v d h1 q) (dps_of ps r ds' h2 q2)
end
theorem dpb_of {p : PV} {v : V} {d : PyData} (h : Rb K mg A H p v) (e : toD p = some d) : Dp K H v d := by
  rcases h with h | ⟨xs, a, vs, rfl, rfl, h1, h2, _⟩
  · exact dp_of p v d h e
  · simp only [toD] at e
    cases q : toDs xs with
    | none => rw [q] at e; cases e
    | some ds =>
      rw [q] at e
      cases e
      exact .lst (.inl (.inl h1)) (dps_of xs vs ds h2 q)
mutual
theorem eqB_of : ∀ (p q : PV) (d e : PyData), toD p = some d → toD q = some e → PyData.eqv d e = eqB p q
  | .tup xs, q, d, e, hd, he => by
    simp only [toD] at hd
    cases x : toDs xs with
    | none => rw [x] at hd; cases hd
    | some ds =>
      rw [x] at hd
      cases hd
      cases q with
      | tup ys =>
        simp only [toD] at he
        cases y : toDs ys with
        | none => rw [y] at he; cases he
        | some es =>
          rw [y] at he
          cases he
          simp only [PyData.eqv, eqB]
          exact eqBs_of xs ys ds es x y
      | lst ys =>
        simp only [toD] at he
        cases y : toDs ys with
        | none => rw [y] at he; cases he
        | some es => rw [y] at he; cases he; simp [PyData.eqv, eqB]
      | _ => simp only [toD] at he <;> first | (cases he; simp [PyData.eqv, eqB]) | simp at he
  | .lst xs, q, d, e, hd, he => by
    simp only [toD] at hd
    cases x : toDs xs with
    | none => rw [x] at hd; cases hd
    | some ds =>
      rw [x] at hd
      cases hd
      cases q with
      | lst ys =>
        simp only [toD] at he
        cases y : toDs ys with
        | none => rw [y] at he; cases he
        | some es =>
          rw [y] at he
          cases he
          simp only [PyData.eqv, eqB]
          exact eqBs_of xs ys ds es x y
      | tup ys =>
        simp only [toD] at he
        cases y : toDs ys with
        | none => rw [y] at he; cases he
        | some es => rw [y] at he; cases he; simp [PyData.eqv, eqB]
      | _ => simp only [toD] at he <;> first | (cases he; simp [PyData.eqv, eqB]) | simp at he
  | .non, q, d, e, hd, he => by
    cases hd
    cases q with
    | tup ys => simp only [toD] at he; cases y : toDs ys with
      | none => rw [y] at he; cases he
      | some es => rw [y] at he; cases he; simp [PyData.eqv, eqB]
    | lst ys => simp only [toD] at he; cases y : toDs ys with
      | none => rw [y] at he; cases he
      | some es => rw [y] at he; cases he; simp [PyData.eqv, eqB]
    | _ => simp only [toD] at he <;> first | (cases he; simp [PyData.eqv, eqB]) | simp at he
  | .bl _, q, d, e, hd, he => by
    cases hd
    cases q with
    | tup ys => simp only [toD] at he; cases y : toDs ys with
      | none => rw [y] at he; cases he
      | some es => rw [y] at he; cases he; simp [PyData.eqv, eqB]
    | lst ys => simp only [toD] at he; cases y : toDs ys with
      | none => rw [y] at he; cases he
      | some es => rw [y] at he; cases he; simp [PyData.eqv, eqB]
    | _ => simp only [toD] at he <;> first | (cases he; simp [PyData.eqv, eqB]) | simp at he
  | .int _, q, d, e, hd, he => by
    cases hd
    cases q with
    | tup ys => simp only [toD] at he; cases y : toDs ys with
      | none => rw [y] at he; cases he
      | some es => rw [y] at he; cases he; simp [PyData.eqv, eqB]
    | lst ys => simp only [toD] at he; cases y : toDs ys with
      | none => rw [y] at he; cases he
      | some es => rw [y] at he; cases he; simp [PyData.eqv, eqB]
    | _ => simp only [toD] at he <;> first | (cases he; simp [PyData.eqv, eqB]) | simp at he
  | .str _, q, d, e, hd, he => by
    cases hd
    cases q with
    | tup ys => simp only [toD] at he; cases y : toDs ys with
      | none => rw [y] at he; cases he
      | some es => rw [y] at he; cases he; simp [PyData.eqv, eqB]
    | lst ys => simp only [toD] at he; cases y : toDs ys with
      | none => rw [y] at he; cases he
      | some es => rw [y] at he; cases he; simp [PyData.eqv, eqB]
    | _ => simp only [toD] at he <;> first | (cases he; simp [PyData.eqv, eqB]) | simp at he
  | .cell _, _, _, _, hd, _ => by simp [toD] at hd
  | .fn _, _, _, _, hd, _ => by simp [toD] at hd
  | .exc _ _, _, _, _, hd, _ => by simp [toD] at hd
  | .scr _, _, _, _, hd, _ => by simp [toD] at hd
theorem eqBs_of : ∀ (p q : List PV) (d e : List PyData), toDs p = some d → toDs q = some e → PyData.eqvAll d e = eqBs p q
  | [], [], _, _, hd, he => by cases hd; cases he; simp [PyData.eqvAll, eqBs]
  | [], y :: ys, _, _, hd, he => by
    cases hd
    simp only [toDs] at he
    split at he
    · cases he; simp [PyData.eqvAll, eqBs]
    · cases he
  | x :: xs, [], _, _, hd, he => by
    cases he
    simp only [toDs] at hd
    split at hd
    · cases hd; simp [PyData.eqvAll, eqBs]
    · cases hd
  | x :: xs, y :: ys, _, _, hd, he => by
    simp only [toDs] at hd he
    split at hd
    · rename_i d ds h1 h2
      cases hd
      split at he
      · rename_i e es h3 h4
        cases he
        simp only [PyData.eqvAll, eqBs]
        rw [eqB_of x y d e h1 h3, eqBs_of xs ys ds es h2 h4]
      · cases he
    · cases hd
end
theorem data_of {p : PV} {v : V} (h : Rb K mg A H p v) (e : data p = true) : ∃ d, toD p = some d ∧ Dp K H v d ∧ SeqAt.shaped d = true := by
  obtain ⟨d, h1, h2, h3⟩ := toD_some 60 p e
  refine ⟨d, h1, dpb_of h h1, ?_⟩
  show (d.canLay0 && decide (d.depth ≤ 64)) = true
  rw [h2, decide_eq_true (by omega)]
  rfl
theorem datas_of : ∀ {ps : List PV} {vs : List V}, RpL K mg A H ps vs → ps.all data = true → ∃ ds, toDs ps = some ds ∧ DpAll K H vs ds ∧ PyData.canLayAll0 ds = true ∧ PyData.depthAll ds ≤ 60
  | [], _, h, _ => by simp only [RpL] at h; subst h; exact ⟨[], rfl, .nil, by simp [PyData.canLayAll0], by simp [PyData.depthAll]⟩
  | p :: ps, _, h, e => by
    simp only [RpL] at h
    obtain ⟨v, r, rfl, h1, h2⟩ := h
    rw [List.all_cons, Bool.and_eq_true] at e
    obtain ⟨d, q1, q2, q3⟩ := toD_some 60 p e.1
    obtain ⟨ds, w1, w2, w3, w4⟩ := datas_of h2 e.2
    exact ⟨d :: ds, by simp [toDs, q1, w1], .cons (dp_of p v d h1 q1) w2, by simp [PyData.canLayAll0, q2, w3], by simp only [PyData.depthAll]; omega⟩
theorem any_eqB {d : PyData} {p : PV} (hd : toD p = some d) : ∀ {ps : List PV} {ds : List PyData}, toDs ps = some ds → (ds.any fun z => PyData.eqv z d) = ps.any fun y => eqB y p
  | [], _, h => by cases h; rfl
  | x :: xs, _, h => by
    simp only [toDs] at h
    split at h
    · rename_i e es h1 h2
      cases h
      rw [List.any_cons, List.any_cons, eqB_of x p e d h1 hd, any_eqB hd h2]
    · cases h
end
end Ev

end -- EvC
section -- EvD
namespace Ev
open PySem PySem.Spec PyProof.Rows L2
section
variable {X : Cx} {tb : List (Addr × Str)}
theorem lim_eq : lim = sizeLine := by rw [sizeLine_eq]; rfl
/-- list + list, of any two that are read -/
def rCatR : R2 := fun x y H Q => ∃ l b xs zs, x = .ref l ∧ y = .ref b ∧ Rd H l (.lst xs) ∧ Rd H b (.lst zs) ∧ xs.length + zs.length ≤ sizeLine ∧ ∀ p, H p = none → Q (.ref p) (upd H p (.lst (xs ++ zs)))
theorem op_catR : OpR X (binaryOp .Add) rCatR := by
  intro pins s σ H x y v u Q I rx ry h
  obtain ⟨l, b, xs, zs, rfl, rfl, hH, hB, hz, q⟩ := h
  cases rx
  cases ry
  obtain ⟨z, its, n, r, e⟩ := hH.ok I.hok
  obtain ⟨z2, its2, n2, r2, e2⟩ := hB.ok I.hok
  have hl := r.length
  have hl2 := r2.length
  refine PySem.P.add_list e e2 ?_ (by rw [List.size_toArray, List.size_toArray]; omega)
  have ea : its.toArray ++ its2.toArray = (its ++ its2).toArray := by simp
  rw [ea]
  exact ⟨.ref _, _, I.lnew (t' := s.toks) (r.append r2) (by rw [List.length_append]; omega), rfl, q _ I.fresh⟩
/-- a list times an int -/
def rRepR : R2 := fun x y H Q => ∃ l k xs, x = .ref l ∧ y = .int k ∧ Rd H l (.lst xs) ∧ -(2 ^ 63) ≤ k ∧ k < 2 ^ 63 ∧ xs.length * k.toNat ≤ sizeLine ∧
  ∀ p, H p = none → Q (.ref p) (upd H p (.lst (List.replicate k.toNat xs).flatten))
theorem op_repR : OpR X (binaryOp .Mult) rRepR := by
  intro pins s σ H x y v u Q I rx ry h
  obtain ⟨l, k, xs, rfl, rfl, hH, h1, h2, hz, q⟩ := h
  cases rx
  obtain ⟨t, rfl⟩ := ry
  obtain ⟨z, its, n, r, e⟩ := hH.ok I.hok
  have hl := r.length
  have hlen : its.toArray.size * k.toNat ≤ sizeLine := by rw [List.size_toArray, ← hl]; exact hz
  have hcap : ¬ its.toArray.size * k.toNat > (2 ^ 63 - 1) / 8 := by
    have : (sizeLine : Nat) ≤ (2 ^ 63 - 1) / 8 := by decide
    omega
  have hfit : ¬ (!Builtin.List.listFitsIndex k) = true := by
    rw [fitsIndex_both h1 h2]
    exact Bool.false_ne_true
  have hlong : ¬ Builtin.List.listTooLong (its.toArray.size * k.toNat) = true := by
    rw [notLongL hlen]
    exact Bool.false_ne_true
  have hnew : List.foldl (fun x1 x2 => x1 ++ x2) #[] (List.replicate (if its.toArray.isEmpty = true then 0 else k.toNat) its.toArray) = (List.replicate k.toNat its).flatten.toArray := by
    have f0 : ∀ m : Nat, List.foldl (fun x1 x2 => x1 ++ x2) #[] (List.replicate m its.toArray) = (List.replicate m its).flatten.toArray := fun m => by
      have := foldl_rep its m []
      rw [List.nil_append] at this
      exact this
    rw [f0]
    cases its with
    | nil => simp
    | cons a r' => rw [if_neg (by simp)]
  refine wpAny_binaryOp_repeat_ref (T := "list") (U := "int") (by decide) ⟨_, e, rfl⟩ (fun s' => typeIs_int s' k t) noFill_list_mul F.fills_int_mul F.slot_int_rmul repeat_list F.slot_int_index.lookup
    (call_meets F.slot_int_rmul (typeIs_int s k t) F.entry_int_rmul (F.args_int_rmul_2 _ _) (int___rmul___int_list k t l its.toArray n)
      ⟨e, rfl, ⟨_, e, rfl⟩, call_meets F.slot_list_mul ⟨_, e, rfl⟩ F.entry_list_mul (F.args_list_mul_2 _ _) (AutoListH.list___mul___list_int_3 l its.toArray n k t hfit hcap hlong) ⟨e, ?_⟩⟩)
  rw [hnew]
  exact ⟨.ref _, _, I.lnew (t' := s.toks) (r.rep k.toNat) (by rw [PyProof.Rows.lm_len_rep_flat, Nat.mul_comm]; exact hz), rfl, q _ I.fresh⟩
/-- a tuple once is itself -/
theorem tuple_mul1 (l : Addr) (items : Array Value) (n : Nat) (dd : Option Addr) (sl : Array (Option Value)) (u : Tok) :
    Meets (Builtin.«tuple.__mul__» ⟨[.ref l, .int 1 u], []⟩) (fun _ R s => s.heap.get? l = some { cls := .type "tuple", dict := dd, data := .seq items n, slots := sl } ∧ R (.ok (.ret (Value.ref l))) s) :=
  .of_wp fun prog w A R s h => by
    obtain ⟨hp, g, d, tk, os⟩ := s
    obtain ⟨hl, h⟩ := h
    have f1 := AutoSeq1.idx_int
    have c0 : (decide ((1 : Int) < -(2 ^ 63)) || decide ((1 : Int) ≥ 2 ^ 63)) = false := by decide
    have c1 : (items.isEmpty || (1 : Int) == 1) = true := by simp
    wp_walk using wpAny_loadPart' hl
    repeat (first
      | (refine wpAny_ite_false (decide_eq_false (by rw [c0]; exact Bool.false_ne_true)) ?_; wp_walk using wpAny_loadPart' hl)
      | (refine wpAny_ite_true (decide_eq_true c1) ?_; wp_walk using wpAny_loadPart' hl))
    exact ⟨_, rfl, h⟩
def rRep1 (K : PySem.W.Frag) : R2 := fun x y H Q => ∃ l xs, x = .ref l ∧ y = .int 1 ∧ SqT K H l xs ∧ Q (.ref l) H
theorem op_rep1 : OpR X (binaryOp .Mult) (rRep1 X.K) := by
  intro pins s σ H x y v u Q I rx ry h
  obtain ⟨l, xs, rfl, rfl, hT, q⟩ := h
  cases rx
  obtain ⟨t, rfl⟩ := ry
  obtain ⟨its, r, ⟨⟨cls, dd, data, sl⟩, ho, hc, n, hd⟩, hs⟩ := I.tuple hT
  simp only at hc hd
  subst hc hd
  exact wpAny_binaryOp_repeat_ref (T := "tuple") (U := "int") (by decide) ⟨_, ho, rfl⟩ (fun s' => typeIs_int s' 1 t) noFill_tuple_mul F.fills_int_mul F.slot_int_rmul repeat_tuple F.slot_int_index.lookup
    (call_meets F.slot_int_rmul (typeIs_int s 1 t) F.entry_int_rmul (F.args_int_rmul_2 _ _) (int_rmul_tuple 1 t l its.toArray n dd sl)
      ⟨ho, rfl, ⟨_, ho, rfl⟩, call_meets F.slot_tuple_mul ⟨_, ho, rfl⟩ F.entry_tuple_mul (F.args_tuple_mul_2 _ _) (tuple_mul1 l its.toArray n dd sl t) ⟨ho, .ref l, H, I, rfl, q⟩⟩)
/-- factors of together less than 100,000,000 bits -/
theorem mulB_ok {i j : Int} (h : i.natAbs.log2 + j.natAbs.log2 < 100000000) : IntMulOk i j := by
  have bits : ∀ x : Int, Builtin.Int.intBits x ≤ x.natAbs.log2 + 1 := fun x => by
    unfold Builtin.Int.intBits
    split <;> omega
  have h1 := bits i
  have h2 := bits j
  have e : bitsLine = 134217728 := by decide
  intro z
  rw [Bool.and_eq_true] at z
  have z2 := z.2
  unfold Builtin.Int.intTooBig at z2
  have z3 := of_decide_eq_true z2
  rw [e] at z3
  omega
theorem op_mulB : OpR X (binaryOp .Mult) (rI (fun i j => i.natAbs.log2 + j.natAbs.log2 < 100000000) fun i j => .int (i * j)) := opI fun _ _ _ _ _ _ _ hc q => mul_int q (mulB_ok hc)
theorem o_mul : OpR X (binaryOp .Mult) (rO X.K X.mg tb fun _ a b => mulV a b) := by
  intro pins s σ H x y v u Q I rx ry h
  obtain ⟨A, S, a, b, p, hS, ra, rb, e0, q⟩ := h
  dsimp only at e0
  have e := e0
  unfold mulV at e
  split at e
  · split at e
    · rename_i hm
      cases e
      cases ra.int
      cases rb.int
      exact op_mulB pins s σ H _ _ v u Q I rx ry ⟨_, _, rfl, rfl, (by unfold mulOk at hm; exact of_decide_eq_true hm), q.here hS rp_int⟩
    · cases e
  · split at e
    · rename_i xs k hm
      cases e
      obtain ⟨l, vs, rfl, h1, h2⟩ := ra.seqT
      cases rb.int
      have hl := h2.length
      have hne : vs ≠ [] := fun z => by
        have := h2.nil_iff.mp z
        subst this
        exact absurd hm.1 (by simp)
      by_cases hk : k = 1
      · subst hk
        refine op_rep1 pins s σ H _ _ v u Q I rx ry ⟨l, vs, rfl, rfl, h1, ?_⟩
        have e1 : rep xs (1 : Int).toNat = xs := by simp [rep]
        rw [e1] at q
        exact q.here hS (by simp only [Rp]; exact ⟨l, vs, rfl, h1, h2⟩)
      · refine op_repT pins s σ H _ _ v u Q I rx ry ⟨l, k, vs, rfl, rfl, h1, hne, by omega, by omega, by omega, fun t ht => ?_⟩
        exact q.tup hS (RpL.rep h2 _) t ht
    · cases e
  · split at e
    · rename_i xs k hm
      cases e
      obtain ⟨l, vs, rfl, h1, h2⟩ := ra.seqL
      cases rb.int
      have hl := h2.length
      refine OpR.fz op_repR pins s σ H _ _ v u Q I rx ry ⟨l, k, vs, rfl, rfl, h1, by omega, by omega, ?_, fun t ht => q.lst hS (RpL.rep h2 _) t ht⟩
      rw [sizeLine_eq]
      have a1 : vs.length * k.toNat ≤ 1000 * 1000 := Nat.mul_le_mul (by omega) (by omega)
      omega
    · cases e
  · cases e
theorem o_add : OpR X (binaryOp .Add) (rO X.K X.mg tb fun _ a b => addV a b) := by
  intro pins s σ H x y v u Q I rx ry h
  obtain ⟨A, S, a, b, p, hS, ra, rb, e0, q⟩ := h
  dsimp only at e0
  have e := e0
  unfold addV at e
  split at e
  · cases e
    cases ra.int
    cases rb.int
    exact op_add pins s σ H _ _ v u Q I rx ry ⟨_, _, rfl, rfl, q.here hS rp_int⟩
  · split at e
    · rename_i hl
      cases e
      cases ra.str
      cases rb.str
      exact op_add_str pins s σ H _ _ v u Q I rx ry ⟨_, _, rfl, rfl, by rw [← lim_eq]; exact hl, q.here hS rp_str⟩
    · cases e
  · split at e
    · rename_i xs ys hl
      cases e
      obtain ⟨l, vs, rfl, h1, h2⟩ := ra.seqT
      obtain ⟨l', vs', rfl, h1', h2'⟩ := rb.seqT
      refine op_catA pins s σ H _ _ v u Q I rx ry ⟨l, l', vs, vs', rfl, rfl, h1, h1', by rw [h2.length, h2'.length, ← lim_eq]; exact hl, fun z => ?_, fun _ z => ?_, fun _ _ t ht => ?_⟩
      · have := h2.nil_iff.mp z
        subst this
        exact q.here hS (by simp only [Rp]; exact ⟨l', vs', rfl, h1', h2'⟩)
      · have := h2'.nil_iff.mp z
        subst this
        rw [List.append_nil] at q
        exact q.here hS (by simp only [Rp]; exact ⟨l, vs, rfl, h1, h2⟩)
      · exact q.tup hS (h2.app h2') t ht
    · cases e
  · split at e
    · rename_i xs ys hl
      cases e
      obtain ⟨l, vs, rfl, h1, h2⟩ := ra.seqL
      obtain ⟨l', vs', rfl, h1', h2'⟩ := rb.seqL
      refine OpR.fz op_catR pins s σ H _ _ v u Q I rx ry ⟨l, l', vs, vs', rfl, rfl, h1, h1', by rw [h2.length, h2'.length, ← lim_eq]; exact hl, fun t ht => ?_⟩
      exact q.lst hS (h2.app h2') t ht
    · cases e
  · cases e
theorem intOp_some {f : Int → Int → Option PV} {a b p : PV} (e : intOp f a b = some p) : ∃ i j, a = .int i ∧ b = .int j ∧ f i j = some p := by
  unfold intOp at e
  split at e
  · exact ⟨_, _, rfl, rfl, e⟩
  · cases e
theorem o_sub : OpR X (binaryOp .Sub) (rO X.K X.mg tb fun _ a b => intOp (fun i j => some (.int (i - j))) a b) := by
  intro pins s σ H x y v u Q I rx ry h
  obtain ⟨A, S, a, b, p, hS, ra, rb, e0, q⟩ := h
  dsimp only at e0
  obtain ⟨i, j, rfl, rfl, e⟩ := intOp_some e0
  cases e
  cases ra.int
  cases rb.int
  exact op_sub pins s σ H _ _ v u Q I rx ry ⟨_, _, rfl, rfl, q.here hS rp_int⟩
theorem o_fdiv : OpR X (binaryOp .FloorDiv) (rO X.K X.mg tb fun _ a b => intOp (fun i j => if divOk j = true then some (.int (i / j)) else none) a b) := by
  intro pins s σ H x y v u Q I rx ry h
  obtain ⟨A, S, a, b, p, hS, ra, rb, e0, q⟩ := h
  dsimp only at e0
  obtain ⟨i, j, rfl, rfl, e⟩ := intOp_some e0
  split at e
  · rename_i hd
    cases e
    cases ra.int
    cases rb.int
    unfold divOk at hd
    rw [Bool.and_eq_true, decide_eq_true_eq, decide_eq_true_eq] at hd
    exact op_fdivW pins s σ H _ _ v u Q I rx ry ⟨_, _, rfl, rfl, hd, q.here hS rp_int⟩
  · cases e
theorem o_mod : OpR X (binaryOp .Mod) (rO X.K X.mg tb fun _ a b => intOp (fun i j => if 0 < j then some (.int (i % j)) else none) a b) := by
  intro pins s σ H x y v u Q I rx ry h
  obtain ⟨A, S, a, b, p, hS, ra, rb, e0, q⟩ := h
  dsimp only at e0
  obtain ⟨i, j, rfl, rfl, e⟩ := intOp_some e0
  split at e
  · rename_i hd
    cases e
    cases ra.int
    cases rb.int
    exact op_mod pins s σ H _ _ v u Q I rx ry ⟨_, _, rfl, rfl, hd, q.here hS rp_int⟩
  · cases e
theorem o_pow : OpR X (binaryOp .Pow) (rO X.K X.mg tb fun _ a b => intOp (fun i j => if 0 ≤ j ∧ j ≤ 1000 ∧ i.natAbs < 1000 then some (.int (i ^ j.toNat)) else none) a b) := by
  intro pins s σ H x y v u Q I rx ry h
  obtain ⟨A, S, a, b, p, hS, ra, rb, e0, q⟩ := h
  dsimp only at e0
  obtain ⟨i, j, rfl, rfl, e⟩ := intOp_some e0
  split at e
  · rename_i hd
    cases e
    cases ra.int
    cases rb.int
    exact op_pow pins s σ H _ _ v u Q I rx ry ⟨_, _, rfl, rfl, ⟨hd.1, by omega, by omega⟩, q.here hS rp_int⟩
  · cases e
theorem o_lt : OpR X (compareOp .Lt) (rO X.K X.mg tb fun _ a b => intOp (fun i j => some (.bl (decide (i < j)))) a b) := by
  intro pins s σ H x y v u Q I rx ry h
  obtain ⟨A, S, a, b, p, hS, ra, rb, e0, q⟩ := h
  dsimp only at e0
  obtain ⟨i, j, rfl, rfl, e⟩ := intOp_some e0
  cases e
  cases ra.int
  cases rb.int
  exact op_lt pins s σ H _ _ v u Q I rx ry ⟨_, _, rfl, rfl, q.here hS rp_bl⟩
theorem o_le : OpR X (compareOp .LtE) (rO X.K X.mg tb fun _ a b => intOp (fun i j => some (.bl (decide (i ≤ j)))) a b) := by
  intro pins s σ H x y v u Q I rx ry h
  obtain ⟨A, S, a, b, p, hS, ra, rb, e0, q⟩ := h
  dsimp only at e0
  obtain ⟨i, j, rfl, rfl, e⟩ := intOp_some e0
  cases e
  cases ra.int
  cases rb.int
  exact op_le pins s σ H _ _ v u Q I rx ry ⟨_, _, rfl, rfl, q.here hS rp_bl⟩
theorem o_gt : OpR X (compareOp .Gt) (rO X.K X.mg tb fun _ a b => intOp (fun i j => some (.bl (decide (j < i)))) a b) := by
  intro pins s σ H x y v u Q I rx ry h
  obtain ⟨A, S, a, b, p, hS, ra, rb, e0, q⟩ := h
  dsimp only at e0
  obtain ⟨i, j, rfl, rfl, e⟩ := intOp_some e0
  cases e
  cases ra.int
  cases rb.int
  exact op_gt pins s σ H _ _ v u Q I rx ry ⟨_, _, rfl, rfl, q.here hS rp_bl⟩
theorem o_ge : OpR X (compareOp .GtE) (rO X.K X.mg tb fun _ a b => intOp (fun i j => some (.bl (decide (j ≤ i)))) a b) := by
  intro pins s σ H x y v u Q I rx ry h
  obtain ⟨A, S, a, b, p, hS, ra, rb, e0, q⟩ := h
  dsimp only at e0
  obtain ⟨i, j, rfl, rfl, e⟩ := intOp_some e0
  cases e
  cases ra.int
  cases rb.int
  exact op_ge pins s σ H _ _ v u Q I rx ry ⟨_, _, rfl, rfl, q.here hS rp_bl⟩
theorem eqV_some {a b : PV} {c : Bool} (e : eqV a b = some c) : data a = true ∧ data b = true ∧ c = eqB a b := by
  unfold eqV at e
  split at e
  · rename_i h
    cases e
    exact ⟨h.1, h.2, rfl⟩
  · cases e
theorem o_eq (hu : X.A.units + 64 < cLine) : OpR X (compareOp .Eq) (rO X.K X.mg tb fun _ a b => (eqV a b).map .bl) := by
  intro pins s σ H x y v u Q I rx ry h
  obtain ⟨A, S, a, b, p, hS, ra, rb, e0, q⟩ := h
  dsimp only at e0
  obtain ⟨c, e, rfl⟩ := Option.map_eq_some_iff.mp e0
  obtain ⟨h1, h2, rfl⟩ := eqV_some e
  obtain ⟨d, e1, e2, e3⟩ := data_of ra h1
  obtain ⟨d', e1', e2', e3'⟩ := data_of rb h2
  refine op_eqD hu pins s σ H x y v u Q I rx ry ⟨d, d', e2, e2', e3, e3', ?_⟩
  rw [eqB_of a b d d' e1 e1']
  exact q.here hS rp_bl
theorem o_ne (hu : X.A.units + 64 < cLine) : OpR X (compareOp .NotEq) (rO X.K X.mg tb fun _ a b => (eqV a b).map fun c => .bl (!c)) := by
  intro pins s σ H x y v u Q I rx ry h
  obtain ⟨A, S, a, b, p, hS, ra, rb, e0, q⟩ := h
  dsimp only at e0
  obtain ⟨c, e, rfl⟩ := Option.map_eq_some_iff.mp e0
  obtain ⟨h1, h2, rfl⟩ := eqV_some e
  obtain ⟨d, e1, e2, e3⟩ := data_of ra h1
  obtain ⟨d', e1', e2', e3'⟩ := data_of rb h2
  refine op_neD hu pins s σ H x y v u Q I rx ry ⟨d, d', e2, e2', e3, e3', ?_⟩
  rw [eqB_of a b d d' e1 e1']
  exact q.here hS rp_bl
theorem rb_notNon {K : PySem.W.Frag} {mg : Str → Option Value} {A : List Addr} {H : Hp} {a : PV} {v : V} (r : Rb K mg A H a v) (h : a ≠ .non) : v ≠ .non := by
  rcases r with r | ⟨xs, l, vs, rfl, rfl, _⟩
  · cases a with
    | non => exact absurd rfl h
    | bl _ => simp only [Rp] at r; subst r; nofun
    | int _ => simp only [Rp] at r; subst r; nofun
    | str _ => simp only [Rp] at r; subst r; nofun
    | tup _ => simp only [Rp] at r; obtain ⟨_, _, rfl, _⟩ := r; nofun
    | lst _ => simp only [Rp] at r; obtain ⟨_, _, rfl, _⟩ := r; nofun
    | cell _ => simp only [Rp] at r; obtain ⟨_, _, rfl⟩ := r; nofun
    | fn _ => simp only [Rp] at r; obtain ⟨_, _, rfl⟩ := r; nofun
    | exc _ _ => simp only [Rp] at r; subst r; nofun
    | scr _ => simp only [Rp] at r; obtain ⟨_, rfl, _⟩ := r; nofun
  · nofun
theorem isV_some {a b : PV} {c : Bool} (e : isV a b = some c) : (b = .non ∧ ((a = .non ∧ c = true) ∨ (a ≠ .non ∧ c = false))) ∨ ∃ i j, a = .bl i ∧ b = .bl j ∧ c = decide (i = j) := by
  unfold isV at e
  split at e
  · cases e
    refine .inl ⟨rfl, ?_⟩
    cases a <;> simp
  · cases e
    exact .inr ⟨_, _, rfl, rfl, rfl⟩
  · cases e
theorem o_is : OpR X (compareOp .Is) (rO X.K X.mg tb fun _ a b => (isV a b).map .bl) := by
  intro pins s σ H x y v u Q I rx ry h
  obtain ⟨A, S, a, b, p, hS, ra, rb, e0, q⟩ := h
  dsimp only at e0
  obtain ⟨c, e, rfl⟩ := Option.map_eq_some_iff.mp e0
  rcases isV_some e with ⟨rfl, h⟩ | ⟨i, j, rfl, rfl, rfl⟩
  · cases rb.non
    refine op_isN pins s σ H x _ v u Q I rx ry ⟨rfl, ?_⟩
    rcases h with ⟨rfl, rfl⟩ | ⟨h, rfl⟩
    · cases ra.non
      exact q.here hS rp_bl
    · rw [decide_eq_false (rb_notNon ra h)]
      exact q.here hS rp_bl
  · cases ra.bl
    cases rb.bl
    exact op_isBl pins s σ H _ _ v u Q I rx ry ⟨_, _, rfl, rfl, q.here hS rp_bl⟩
theorem o_isnot : OpR X (compareOp .IsNot) (rO X.K X.mg tb fun _ a b => (isV a b).map fun c => .bl (!c)) := by
  intro pins s σ H x y v u Q I rx ry h
  obtain ⟨A, S, a, b, p, hS, ra, rb, e0, q⟩ := h
  dsimp only at e0
  obtain ⟨c, e, rfl⟩ := Option.map_eq_some_iff.mp e0
  rcases isV_some e with ⟨rfl, h⟩ | ⟨i, j, rfl, rfl, rfl⟩
  · cases rb.non
    refine op_notN pins s σ H x _ v u Q I rx ry ⟨rfl, ?_⟩
    rcases h with ⟨rfl, rfl⟩ | ⟨h, rfl⟩
    · cases ra.non
      exact q.here hS rp_bl
    · rw [decide_eq_false (rb_notNon ra h)]
      exact q.here hS rp_bl
  · cases ra.bl
    cases rb.bl
    exact op_notBl pins s σ H _ _ v u Q I rx ry ⟨_, _, rfl, rfl, q.here hS rp_bl⟩
theorem seq_in (hS' : True) {K : PySem.W.Frag} {mg : Str → Option Value} {A : List Addr} {H : Hp} {S : Sto} (hS : SRep K mg tb A H S) {b : PV} {y : V} {xs : List PV} (rb : Rb K mg A H b y) (e : seqOf S b = some xs) :
    ∃ a vs, y = .ref a ∧ RpL K mg A H xs vs ∧ (SqL K H a vs ∨ SqT K H a vs) := by
  unfold seqOf at e
  split at e
  · cases e
    obtain ⟨a, vs, rfl, h1, h2⟩ := rb.seqT
    exact ⟨a, vs, rfl, h2, .inr h1⟩
  · cases e
    obtain ⟨a, vs, rfl, h1, h2⟩ := rb.seqL
    exact ⟨a, vs, rfl, h2, .inl (.inl h1)⟩
  · rename_i k
    obtain ⟨a, ha, rfl⟩ := rb.cell
    unfold lstAt at e
    split at e
    · rename_i ys he
      cases e
      obtain ⟨vs, h1, h2⟩ := hS.at_ k a _ ha he
      exact ⟨a, vs, rfl, h2, .inl (SqL.of h1)⟩
    · cases e
  · rename_i ns
    cases e
    obtain ⟨a, rfl, h⟩ := rb.scr
    refine ⟨a, _, rfl, ?_, .inl h⟩
    clear h rb
    induction ns with
    | nil => exact RpL.nil
    | cons n ns ih => exact RpL.cons rp_int ih
  · cases e
theorem in_core {a b : PV} {S : Sto} {c : Bool} (e : inV S a b = some c) : (∃ x y, a = .str x ∧ b = .str y ∧ c = !(Builtin.Str.occurrences y x 0 y.length 1).isEmpty) ∨
    ∃ xs, seqOf S b = some xs ∧ data a = true ∧ xs.all data = true ∧ c = xs.any fun y => eqB y a := by
  unfold inV at e
  split at e
  · cases e
    exact .inl ⟨_, _, rfl, rfl, rfl⟩
  · split at e
    · rename_i xs hx
      split at e
      · rename_i h
        cases e
        exact .inr ⟨xs, hx, h.1, h.2, rfl⟩
      · cases e
    · cases e
theorem o_in (hu : X.A.units + 65 < cLine) : OpR X (compareOp .In) (rO X.K X.mg tb fun S a b => (inV S a b).map .bl) := by
  intro pins s σ H x y v u Q I rx ry h
  obtain ⟨A, S, a, b, p, hS, ra, rb, e0, q⟩ := h
  dsimp only at e0
  obtain ⟨c, e, rfl⟩ := Option.map_eq_some_iff.mp e0
  rcases in_core e with ⟨i, j, rfl, rfl, rfl⟩ | ⟨xs, h1, h2, h3, rfl⟩
  · cases ra.str
    cases rb.str
    exact op_in_str pins s σ H _ _ v u Q I rx ry ⟨_, _, rfl, rfl, q.here hS rp_bl⟩
  · obtain ⟨d, e1, e2, e3⟩ := data_of ra h2
    obtain ⟨l, vs, rfl, w1, w2⟩ := seq_in trivial hS rb h1
    obtain ⟨ds, z1, z2, z3, z4⟩ := datas_of w1 h3
    have e4 := any_eqB e1 z1
    obtain ⟨as, r1⟩ := Dp.reads I d x v e2 rx
    rcases w2 with w2 | w2
    · obtain ⟨bs, r2⟩ := Dp.reads I (.list ds) _ u (.lst w2 z2) ry
      refine SeqAt.in_list_reads r2 r1 z3 (SeqAt.canLay_of_shaped e3) (room_in_shaped e3 hu) ?_
      rw [e4]
      exact ⟨.bl _, H, I, rfl, q.here hS rp_bl⟩
    · obtain ⟨bs, r2⟩ := Dp.reads I (.tuple ds) _ u (.tup w2 z2) ry
      refine SeqAt.in_tuple_reads r2 r1 z3 (SeqAt.canLay_of_shaped e3) (room_in_shaped e3 hu) ?_
      rw [e4]
      exact ⟨.bl _, H, I, rfl, q.here hS rp_bl⟩
theorem o_notin (hu : X.A.units + 65 < cLine) : OpR X (compareOp .NotIn) (rO X.K X.mg tb fun S a b => (inV S a b).map fun c => .bl (!c)) := by
  intro pins s σ H x y v u Q I rx ry h
  obtain ⟨A, S, a, b, p, hS, ra, rb, e0, q⟩ := h
  dsimp only at e0
  obtain ⟨c, e, rfl⟩ := Option.map_eq_some_iff.mp e0
  rcases in_core e with ⟨i, j, rfl, rfl, rfl⟩ | ⟨xs, h1, h2, h3, rfl⟩
  · cases ra.str
    cases rb.str
    exact op_notin_str pins s σ H _ _ v u Q I rx ry ⟨_, _, rfl, rfl, q.here hS rp_bl⟩
  · obtain ⟨d, e1, e2, e3⟩ := data_of ra h2
    obtain ⟨l, vs, rfl, w1, w2⟩ := seq_in trivial hS rb h1
    obtain ⟨ds, z1, z2, z3, z4⟩ := datas_of w1 h3
    have e4 := any_eqB e1 z1
    obtain ⟨as, r1⟩ := Dp.reads I d x v e2 rx
    rcases w2 with w2 | w2
    · obtain ⟨bs, r2⟩ := Dp.reads I (.list ds) _ u (.lst w2 z2) ry
      refine SeqAt.notIn_list_reads r2 r1 z3 (SeqAt.canLay_of_shaped e3) (room_in_shaped e3 hu) ?_
      rw [e4]
      exact ⟨.bl _, H, I, rfl, q.here hS rp_bl⟩
    · obtain ⟨bs, r2⟩ := Dp.reads I (.tuple ds) _ u (.tup w2 z2) ry
      refine SeqAt.notIn_tuple_reads r2 r1 z3 (SeqAt.canLay_of_shaped e3) (room_in_shaped e3 hu) ?_
      rw [e4]
      exact ⟨.bl _, H, I, rfl, q.here hS rp_bl⟩
theorem atI_rp {K : PySem.W.Frag} {mg : Str → Option Value} {A : List Addr} {H : Hp} {ps : List PV} {vs : List V} {i : Int} {p : PV} (r : RpL K mg A H ps vs) (e : atI ps i = some p) : ∃ v, atI vs i = some v ∧ Rp K mg A H p v := by
  unfold atI at e ⊢
  rw [r.length]
  cases h : ixN ps.length i with
  | none => rw [h] at e; cases e
  | some j =>
    rw [h] at e
    exact r.get e
theorem o_ix : IxR X (rO X.K X.mg tb fun S a b => ixV S a b) := by
  intro ea eb pins s σ H x y v u Q I rx ry h hsub
  obtain ⟨A, S, a, b, p, hS, ra, rb, e0, q⟩ := h
  dsimp only at e0
  have e := e0
  unfold ixV at e
  split at e
  · rename_i i
    cases rb.int
    split at e
    · rename_i z
      split at e
      · rename_i hl
        obtain ⟨c, h1, rfl⟩ := Option.map_eq_some_iff.mp e
        cases ra.str
        exact ix_str ea eb pins s σ H _ _ v u Q I rx ry ⟨z, i, c, rfl, rfl, by rw [← lim_eq]; exact hl, h1, q.here hS rp_str⟩ hsub
      · cases e
    · split at e
      · rename_i xs hx
        obtain ⟨l, vs, rfl, w1, w2⟩ := seq_in trivial hS ra hx
        obtain ⟨v', e1, e2⟩ := atI_rp w1 e
        rcases w2 with w2 | w2
        · exact ix_list ea eb pins s σ H _ _ v u Q I rx ry ⟨l, vs, i, v', rfl, rfl, w2, e1, q.here hS e2⟩ hsub
        · exact ix_tup ea eb pins s σ H _ _ v u Q I rx ry ⟨l, vs, i, v', rfl, rfl, w2, e1, q.here hS e2⟩ hsub
      · cases e
  · cases e
end
end Ev

end -- EvD
section -- EvE
namespace Ev
open PySem PySem.Spec PyProof.Rows L2
/-- a call by what it gives -/
def rC (K : PySem.W.Frag) (mg : Str → Option Value) (tb : List (Addr × Str)) (f : Sto → List PV → Option PV) : List V → Hp → VK → Prop := fun xs H Q =>
  ∃ A S ps p, SRep K mg tb A H S ∧ RbL K mg A H ps xs ∧ f S ps = some p ∧ Ans K mg tb A H S p Q
section
variable {K : PySem.W.Frag} {mg : Str → Option Value} {A : List Addr} {H : Hp}
theorem rb1 {p : PV} {xs : List V} (h : RbL K mg A H [p] xs) : ∃ v, xs = [v] ∧ Rb K mg A H p v := by
  cases h with
  | cons h t => cases t; exact ⟨_, rfl, h⟩
theorem rb2 {p q : PV} {xs : List V} (h : RbL K mg A H [p, q] xs) : ∃ v w, xs = [v, w] ∧ Rb K mg A H p v ∧ Rb K mg A H q w := by
  cases h with
  | cons h t =>
    obtain ⟨w, rfl, h2⟩ := rb1 t
    exact ⟨_, _, rfl, h, h2⟩
theorem bls_map : ∀ {ps : List PV} {bs : List Bool} {vs : List V}, blsOf ps = some bs → RpL K mg A H ps vs → vs = bs.map V.bl
  | [], _, _, e, r => by simp only [RpL] at r; cases e; subst r; rfl
  | p :: ps, _, _, e, r => by
    simp only [RpL] at r
    obtain ⟨v, t, rfl, h1, h2⟩ := r
    cases p with
    | bl b =>
      obtain ⟨cs, e1, rfl⟩ := Option.map_eq_some_iff.mp (show (blsOf ps).map (b :: ·) = some _ from e)
      simp only [Rp] at h1
      subst h1
      rw [bls_map e1 h2]
      rfl
    | _ => simp [blsOf] at e
theorem ints_map : ∀ {ps : List PV} {bs : List Int} {vs : List V}, intsOf ps = some bs → RpL K mg A H ps vs → vs = bs.map V.int
  | [], _, _, e, r => by simp only [RpL] at r; cases e; subst r; rfl
  | p :: ps, _, _, e, r => by
    simp only [RpL] at r
    obtain ⟨v, t, rfl, h1, h2⟩ := r
    cases p with
    | int b =>
      obtain ⟨cs, e1, rfl⟩ := Option.map_eq_some_iff.mp (show (intsOf ps).map (b :: ·) = some _ from e)
      simp only [Rp] at h1
      subst h1
      rw [ints_map e1 h2]
      rfl
    | _ => simp [intsOf] at e
end
section
variable {X : Cx} {tb : List (Addr × Str)}
theorem b_abs : CallR X (.builtin "abs") (rC X.K X.mg tb (blt .abs)) := by
  intro pins s σ H xs us Q I r h
  obtain ⟨A, S, ps, p, hS, rb, e, q⟩ := h
  simp only [blt] at e
  split at e
  · cases e
    obtain ⟨v, rfl, h1⟩ := rb1 rb
    cases h1.int
    exact call_abs pins s σ H _ us Q I r ⟨_, rfl, q.here hS rp_int⟩
  · cases e
theorem b_bool : CallR X (.type "bool") (rC X.K X.mg tb (blt .bool)) := by
  intro pins s σ H xs us Q I r h
  obtain ⟨A, S, ps, p, hS, rb, e, q⟩ := h
  simp only [blt] at e
  split at e
  · cases e
    obtain ⟨v, rfl, h1⟩ := rb1 rb
    cases h1.int
    exact call_bool1 pins s σ H _ us Q I r (.inl ⟨_, rfl, q.here hS rp_bl⟩)
  · cases e
    obtain ⟨v, rfl, h1⟩ := rb1 rb
    cases h1.bl
    exact call_bool1 pins s σ H _ us Q I r (.inr ⟨_, rfl, q.here hS rp_bl⟩)
  · cases e
theorem b_int : CallR X (.type "int") (rC X.K X.mg tb (blt .int)) := by
  intro pins s σ H xs us Q I r h
  obtain ⟨A, S, ps, p, hS, rb, e, q⟩ := h
  simp only [blt] at e
  split at e
  · cases e
    obtain ⟨v, rfl, h1⟩ := rb1 rb
    cases h1.int
    exact call_int1 pins s σ H _ us Q I r (.inl ⟨_, rfl, q.here hS rp_int⟩)
  · cases e
    obtain ⟨v, rfl, h1⟩ := rb1 rb
    cases h1.bl
    exact call_int1 pins s σ H _ us Q I r (.inr ⟨_, rfl, q.here hS rp_int⟩)
  · cases e
theorem b_str : CallR X (.type "str") (rC X.K X.mg tb (blt .str)) := by
  intro pins s σ H xs us Q I r h
  obtain ⟨A, S, ps, p, hS, rb, e, q⟩ := h
  simp only [blt] at e
  split at e
  · split at e
    · rename_i hz
      cases e
      obtain ⟨v, rfl, h1⟩ := rb1 rb
      cases h1.int
      exact call_str_int pins s σ H _ us Q I r ⟨_, rfl, hz, q.here hS rp_str⟩
    · cases e
  · cases e
theorem b_max (hc : X.calm = true) : CallR X (.builtin "max") (rC X.K X.mg tb (blt .max)) := by
  intro pins s σ H xs us Q I r h
  obtain ⟨A, S, ps, p, hS, rb, e, q⟩ := h
  simp only [blt] at e
  split at e
  · cases e
    obtain ⟨v, w', rfl, h1, h2⟩ := rb2 rb
    cases h1.int
    cases h2.int
    exact call_max2 hc pins s σ H _ us Q I r ⟨_, _, rfl, q.here hS rp_int⟩
  · cases e
theorem b_min (hc : X.calm = true) : CallR X (.builtin "min") (rC X.K X.mg tb (blt .min)) := by
  intro pins s σ H xs us Q I r h
  obtain ⟨A, S, ps, p, hS, rb, e, q⟩ := h
  simp only [blt] at e
  split at e
  · cases e
    obtain ⟨v, w', rfl, h1, h2⟩ := rb2 rb
    cases h1.int
    cases h2.int
    exact call_min2 hc pins s σ H _ us Q I r ⟨_, _, rfl, q.here hS rp_int⟩
  · cases e
theorem b_all (hc : X.calm = true) : CallR X (.builtin "all") (rC X.K X.mg tb (blt .all)) := by
  intro pins s σ H xs us Q I r h
  obtain ⟨A, S, ps, p, hS, rb, e, q⟩ := h
  simp only [blt] at e
  split at e
  · obtain ⟨bs, e1, rfl⟩ := Option.map_eq_some_iff.mp e
    obtain ⟨v, rfl, h1⟩ := rb1 rb
    obtain ⟨a, vs, rfl, h2, h3⟩ := h1.seqL
    refine cr_all hc pins s σ H _ us Q I r ⟨a, bs, rfl, ?_, q.here hS rp_bl⟩
    rw [← bls_map e1 h3]
    exact .inl h2
  · cases e
theorem b_sum (hc : X.calm = true) : CallR X (.builtin "sum") (rC X.K X.mg tb (blt .sum)) := by
  intro pins s σ H xs us Q I r h
  obtain ⟨A, S, ps, p, hS, rb, e, q⟩ := h
  simp only [blt] at e
  split at e
  · obtain ⟨bs, e1, rfl⟩ := Option.map_eq_some_iff.mp e
    obtain ⟨v, rfl, h1⟩ := rb1 rb
    obtain ⟨a, vs, rfl, h2, h3⟩ := h1.seqL
    refine cr_sum hc pins s σ H _ us Q I r ⟨a, bs, rfl, ?_, q.here hS rp_int⟩
    rw [← ints_map e1 h3]
    exact .inl h2
  · cases e
theorem b_len : CallR X (.builtin "len") (rC X.K X.mg tb (blt .len)) := by
  intro pins s σ H xs us Q I r h
  obtain ⟨A, S, ps, p, hS, rb, e, q⟩ := h
  simp only [blt] at e
  split at e
  · split at e
    · rename_i hz
      cases e
      obtain ⟨v, rfl, h1⟩ := rb1 rb
      cases h1.str
      exact call_len_str pins s σ H _ us Q I r ⟨_, rfl, by rw [← lim_eq]; exact hz, q.here hS rp_int⟩
    · cases e
  · obtain ⟨ys, e1, rfl⟩ := Option.map_eq_some_iff.mp e
    obtain ⟨v, rfl, h1⟩ := rb1 rb
    obtain ⟨l, vs, rfl, w1, w2⟩ := seq_in trivial hS h1 e1
    refine call_len_seq pins s σ H _ us Q I r ⟨l, vs, rfl, w2, ?_⟩
    rw [w1.length]
    exact q.here hS rp_int
  · cases e
theorem b_list : CallR X (.type "list") (rC X.K X.mg tb (blt .list)) := by
  intro pins s σ H xs us Q I r h
  obtain ⟨A, S, ps, p, hS, rb, e, q⟩ := h
  simp only [blt] at e
  split at e
  · obtain ⟨ys, e1, rfl⟩ := Option.map_eq_some_iff.mp e
    obtain ⟨v, rfl, h1⟩ := rb1 rb
    obtain ⟨l, vs, rfl, w1, w2⟩ := seq_in trivial hS h1 e1
    exact CallR.fz call_list_of pins s σ H _ us Q I r ⟨l, vs, rfl, w2, fun t ht => q.lst hS w1 t ht⟩
  · cases e
theorem b_tuple : CallR X (.type "tuple") (rC X.K X.mg tb (blt .tuple)) := by
  intro pins s σ H xs us Q I r h
  obtain ⟨A, S, ps, p, hS, rb, e, q⟩ := h
  simp only [blt] at e
  split at e
  · obtain ⟨ys, e1, rfl⟩ := Option.map_eq_some_iff.mp e
    obtain ⟨v, rfl, h1⟩ := rb1 rb
    obtain ⟨l, vs, rfl, w1, w2⟩ := seq_in trivial hS h1 e1
    rcases w2 with w2 | w2
    · exact call_tuple_of pins s σ H _ us Q I r ⟨l, vs, rfl, .inl ⟨w2, fun t ht => q.tup hS w1 t ht⟩⟩
    · exact call_tuple_of pins s σ H _ us Q I r ⟨l, vs, rfl, .inr ⟨w2, q.here hS (by simp only [Rp]; exact ⟨l, vs, rfl, w2, w1⟩)⟩⟩
  · cases e
theorem kit_tab : ∀ (t c : String), t ∈ ["NoneType", "bool", "int", "str", "tuple", "list"] → c ∈ ["int", "bool", "str", "tuple", "list"] →
    kitB t c = some ((t == c) || (t == "bool" && c == "int")) := by
  intro t c ht hc
  simp only [List.mem_cons, List.not_mem_nil, or_false] at ht hc
  rcases ht with rfl | rfl | rfl | rfl | rfl | rfl <;> rcases hc with rfl | rfl | rfl | rfl | rfl <;> decide +kernel
theorem tyx_of {A : List Addr} {H : Hp} {p : PV} {v : V} {n : String} (r : Rb X.K X.mg A H p v) (e : tyN p = some n) : TyX X.K H v (.type n) := by
  cases p with
  | non => cases e; cases r.non; exact .base .non
  | bl b => cases e; cases r.bl; exact .base (.bl b)
  | int b => cases e; cases r.int; exact .base (.int b)
  | str b => cases e; cases r.str; exact .base (.str b)
  | tup xs =>
    cases e
    obtain ⟨a, vs, rfl, h1, _⟩ := r.seqT
    rcases h1 with (h1 | ⟨o, h1⟩) | ⟨o, its, n, h1, h2, _⟩
    · exact .base (.tup h1)
    · exact .fTuple h1
    · exact .kTuple h1 h2
  | lst xs =>
    cases e
    obtain ⟨a, vs, rfl, h1, _⟩ := r.seqL
    rcases h1 with h1 | ⟨o, h1⟩
    · exact .base (.lst h1)
    · exact .base (.frz h1)
  | _ => cases e
theorem b_isi {c : String} (hc : c ∈ ["int", "bool", "str", "tuple", "list"]) {pins : List (Addr × Obj)} {s : Shared} {σ : L2.St} {H : Hp} {A : List Addr} {S : Sto} {p : PV} {b : Bool} {v : V} {u : Value} {Q : VK} (I : Inv X pins σ H s)
    (ru : RelV v u) (hS : SRep X.K X.mg tb A H S) (r : Rb X.K X.mg A H p v) (e : isiN c p = some b) (q : Ans X.K X.mg tb A H S (.bl b) Q) : wpAny (model X.prog X.w) X.A (call (.builtin "isinstance") [u, .type c]) (EP X pins σ Q) X.xe s := by
  obtain ⟨t, e1, rfl⟩ := Option.map_eq_some_iff.mp e
  have ht : t ∈ ["NoneType", "bool", "int", "str", "tuple", "list"] := by
    cases p <;> simp only [tyN] at e1 <;> first | (cases e1; simp) | (exact absurd e1 (by simp))
  exact call_isi pins s σ H [v, .ty c] [u, .type c] Q I (.cons ru (.cons rfl .nil)) ⟨v, .ty c, .type t, .type c, _, rfl, .ty c, tyx_of r e1, kit_ty (kit_tab t c ht hc), q.here hS rp_bl⟩
/-- a slice by what it gives -/
def rSl (K : PySem.W.Frag) (mg : Str → Option Value) (tb : List (Addr × Str)) : V → Option Int → Option Int → Hp → VK → Prop := fun x lo hi H Q =>
  ∃ A S a p, SRep K mg tb A H S ∧ Rb K mg A H a x ∧ slP S a lo hi = some p ∧ Ans K mg tb A H S p Q
theorem slr_fz {r : V → Option Int → Option Int → Hp → VK → Prop} (h : SlR X r) : SlR X (fun x lo hi H Q => r x lo hi H (Fz Q)) :=
  fun pins s σ H x v vl vu lo hi sl Q I rx hs pl pu q => by
    obtain ⟨T, id, h1, h2, h3⟩ := h pins s σ H x v vl vu lo hi sl (Fz Q) I rx hs pl pu q
    exact ⟨T, id, h1, h2, thn h3 fun _ _ e => fz_ep e⟩
theorem cut_rp {K : PySem.W.Frag} {mg : Str → Option Value} {A : List Addr} {H : Hp} {ps : List PV} {vs : List V} (r : RpL K mg A H ps vs) (lo hi : Option Int) : RpL K mg A H (cutP ps lo hi) (cutV vs lo hi) := by
  unfold cutP cutV
  rw [r.length]
  exact (r.drop _).take _
theorem o_sl : SlR X (rSl X.K X.mg tb) := by
  intro pins s σ H x v vl vu lo hi sl Q I rx hs pl pu h
  obtain ⟨A, S, a, p, hS, ra, e, q⟩ := h
  unfold slP at e
  split at e
  · cases e
    obtain ⟨l, vs, rfl, h1, h2⟩ := ra.seqT
    refine sl_tupA pins s σ H _ v vl vu lo hi sl Q I rx hs pl pu ⟨l, vs, rfl, h1, fun z => ?_, fun _ t ht => q.tup hS (cut_rp h2 lo hi) t ht⟩
    rename_i ps
    have e2 : cutP ps lo hi = ps := by
      unfold cutP
      rw [h2.length] at z
      rw [z.1, z.2]
      simp
    rw [e2] at q
    exact q.here hS (by simp only [Rp]; exact ⟨l, vs, rfl, h1, h2⟩)
  · cases e
    obtain ⟨l, vs, rfl, h1, h2⟩ := ra.seqL
    exact slr_fz sl_list pins s σ H _ v vl vu lo hi sl Q I rx hs pl pu ⟨l, vs, rfl, .inl h1, fun t ht => q.lst hS (cut_rp h2 lo hi) t ht⟩
  · rename_i k
    obtain ⟨xs, e1, rfl⟩ := Option.map_eq_some_iff.mp e
    obtain ⟨a, ha, rfl⟩ := ra.cell
    unfold lstAt at e1
    split at e1
    · rename_i ys he
      cases e1
      obtain ⟨vs, h1, h2⟩ := hS.at_ k a _ ha he
      exact slr_fz sl_list pins s σ H _ v vl vu lo hi sl Q I rx hs pl pu ⟨a, vs, rfl, SqL.of h1, fun t ht => q.lst hS (cut_rp h2 lo hi) t ht⟩
    · cases e1
  · split at e
    · rename_i x hz
      cases e
      cases ra.str
      exact C8.sl_txt pins s σ H _ v vl vu lo hi sl Q I rx hs pl pu ⟨_, rfl, by rw [← lim_eq]; exact hz, q.here hS rp_str⟩
    · cases e
  · cases e
end
end Ev

end -- EvE
section -- EvF
namespace Ev
open PySem PySem.Spec PyProof.Rows L2

def Rk (k : Bool) (K : PySem.W.Frag) (mg : Str → Option Value) (A : List Addr) (H : Hp) (p : PV) (v : V) : Prop := if k = true then Rb K mg A H p v else Rp K mg A H p v
section
variable (K : PySem.W.Frag) (mg : Str → Option Value) (tb : List (Addr × Str)) (W : WX)
def RE (k : Bool) (A : List Addr) (σ : L2.St) (H : Hp) (r : R PV) (Q : VK) : Prop := match r with
  | .ok p S' => ∀ v H' A', Stp A H A' H' → SRep K mg tb A' H' S' → Rk k K mg A' H' p v → Q v H'
  | .ex x S' => ∀ H' A' C dd, Stp A H A' H' → SRep K mg tb A' H' S' → mg x = some (.ref C) → dOk x dd → W (.ref C) dd σ H'
  | .stuck => False
def REs (k : Bool) (A : List Addr) (σ : L2.St) (H : Hp) (r : R (List PV)) (Q : List V → Hp → Prop) : Prop := match r with
  | .ok p S' => ∀ v H' A', Stp A H A' H' → SRep K mg tb A' H' S' → (if k = true then RbL K mg A' H' p v else RpL K mg A' H' p v) → Q v H'
  | .ex x S' => ∀ H' A' C dd, Stp A H A' H' → SRep K mg tb A' H' S' → mg x = some (.ref C) → dOk x dd → W (.ref C) dd σ H'
  | .stuck => False
/-- an expression's reading: it gives d of the slots and the store -/
def tE (k : Bool) (d : List Sl → Sto → R PV) : TE := fun σ H Q => ∃ ρ S A, SlE K mg A H ρ σ ∧ SRep K mg tb A H S ∧ RE K mg tb W k A σ H (d ρ S) Q
def tEs (k : Bool) (d : List Sl → Sto → R (List PV)) : TA := fun σ H Q => ∃ ρ S A, SlE K mg A H ρ σ ∧ SRep K mg tb A H S ∧ REs K mg tb W k A σ H (d ρ S) Q
/-- .. as a test -/
def tT (d : List Sl → Sto → R PV) : TT := fun σ H Q => ∃ ρ S A, SlE K mg A H ρ σ ∧ SRep K mg tb A H S ∧ RE K mg tb W false A σ H (d ρ S) fun v H' => ∃ b, v = .bl b ∧ Q b H'
end
section
variable {K : PySem.W.Frag} {mg : Str → Option Value} {tb : List (Addr × Str)} {W : WX} {k : Bool} {A A1 : List Addr} {σ : L2.St} {H H1 : Hp}
theorem Rk.stp {A' : List Addr} {H' : Hp} (s : Stp A H A' H') {p : PV} {v : V} (h : Rk k K mg A H p v) : Rk k K mg A' H' p v := by
  cases k with
  | true => exact Rb.stp s (show Rb K mg A H p v from h)
  | false => exact Rp.stp s p v h
theorem Rk.rb {p : PV} {v : V} (h : Rk k K mg A H p v) : Rb K mg A H p v := by
  cases k with
  | true => exact h
  | false => exact .inl h
theorem Rk.of {p : PV} {v : V} (h : Rp K mg A H p v) : Rk k K mg A H p v := by
  cases k with
  | true => exact .inl h
  | false => exact h
theorem RE.mono (s : Stp A H A1 H1) {r : R PV} {Q : VK} (h : RE K mg tb W k A σ H r Q) : RE K mg tb W k A1 σ H1 r Q := by
  cases r with
  | ok p S => exact fun v H' A' s' hS hr => h v H' A' (s.trans s') hS hr
  | ex x S => exact fun H' A' C dd s' hS hm => h H' A' C dd (s.trans s') hS hm
  | stuck => exact h
theorem REs.mono (s : Stp A H A1 H1) {r : R (List PV)} {Q : List V → Hp → Prop} (h : REs K mg tb W k A σ H r Q) : REs K mg tb W k A1 σ H1 r Q := by
  cases r with
  | ok p S => exact fun v H' A' s' hS hr => h v H' A' (s.trans s') hS hr
  | ex x S => exact fun H' A' C dd s' hS hm => h H' A' C dd (s.trans s') hS hm
  | stuck => exact h
/-- a first part, then the rest -/
theorem tE_bind {ρ : List Sl} {S : Sto} {d : List Sl → Sto → R PV} {kk : PV → Sto → R PV} {k' : Bool} {Q Q1 : VK} (hρ : SlE K mg A H ρ σ) (hS : SRep K mg tb A H S) (h : RE K mg tb W k A σ H ((d ρ S).bind kk) Q)
    (f : ∀ p S1 v H1 A1, d ρ S = .ok p S1 → Stp A H A1 H1 → SRep K mg tb A1 H1 S1 → SlE K mg A1 H1 ρ σ → Rk k' K mg A1 H1 p v → RE K mg tb W k A1 σ H1 (kk p S1) Q → Q1 v H1) : tE K mg tb W k' d σ H Q1 := by
  refine ⟨ρ, S, A, hρ, hS, ?_⟩
  cases e : d ρ S with
  | ok p S1 =>
    rw [e] at h
    exact fun v H' A' s hS' hr => f p S1 v H' A' e s hS' (hρ.stp s) hr (RE.mono s (show RE K mg tb W k A σ H (kk p S1) Q from h))
  | ex x S1 => rw [e] at h; exact h
  | stuck => rw [e] at h; exact h
theorem tEs_bind {ρ : List Sl} {S : Sto} {d : List Sl → Sto → R (List PV)} {kk : List PV → Sto → R PV} {k' : Bool} {Q : VK} {Q1 : List V → Hp → Prop} (hρ : SlE K mg A H ρ σ) (hS : SRep K mg tb A H S) (h : RE K mg tb W k A σ H ((d ρ S).bind kk) Q)
    (f : ∀ p S1 v H1 A1, d ρ S = .ok p S1 → Stp A H A1 H1 → SRep K mg tb A1 H1 S1 → SlE K mg A1 H1 ρ σ → (if k' = true then RbL K mg A1 H1 p v else RpL K mg A1 H1 p v) → RE K mg tb W k A1 σ H1 (kk p S1) Q → Q1 v H1) : tEs K mg tb W k' d σ H Q1 := by
  refine ⟨ρ, S, A, hρ, hS, ?_⟩
  cases e : d ρ S with
  | ok p S1 =>
    rw [e] at h
    exact fun v H' A' s hS' hr => f p S1 v H' A' e s hS' (hρ.stp s) hr (RE.mono s (show RE K mg tb W k A σ H (kk p S1) Q from h))
  | ex x S1 => rw [e] at h; exact h
  | stuck => rw [e] at h; exact h
theorem tT_bind {ρ : List Sl} {S : Sto} {d : List Sl → Sto → R PV} {kk : Bool → Sto → R PV} {Q : VK} {Q1 : Bool → Hp → Prop} (hρ : SlE K mg A H ρ σ) (hS : SRep K mg tb A H S) (h : RE K mg tb W k A σ H ((d ρ S).bind fun x S1 => truth x S1 kk) Q)
    (f : ∀ b S1 H1 A1, d ρ S = .ok (.bl b) S1 → Stp A H A1 H1 → SRep K mg tb A1 H1 S1 → SlE K mg A1 H1 ρ σ → RE K mg tb W k A1 σ H1 (kk b S1) Q → Q1 b H1) : tT K mg tb W d σ H Q1 := by
  refine ⟨ρ, S, A, hρ, hS, ?_⟩
  cases e : d ρ S with
  | ok p S1 =>
    rw [e] at h
    cases p with
    | bl b => exact fun v H' A' s hS' hr => ⟨b, by simpa [Rk, Rp] using hr, f b S1 H' A' e s hS' (hρ.stp s) (RE.mono s (show RE K mg tb W k A σ H (kk b S1) Q from h))⟩
    | _ => exact False.elim h
  | ex x S1 => rw [e] at h; exact h
  | stuck => rw [e] at h; exact h
/-- the same, of a value -/
theorem tE_truth {ρ : List Sl} {S : Sto} {d : List Sl → Sto → R PV} {kk : Bool → Sto → R PV} {Q Q1 : VK} (hρ : SlE K mg A H ρ σ) (hS : SRep K mg tb A H S) (h : RE K mg tb W k A σ H ((d ρ S).bind fun x S1 => truth x S1 kk) Q)
    (f : ∀ b S1 H1 A1, d ρ S = .ok (.bl b) S1 → Stp A H A1 H1 → SRep K mg tb A1 H1 S1 → SlE K mg A1 H1 ρ σ → RE K mg tb W k A1 σ H1 (kk b S1) Q → Q1 (.bl b) H1) : tE K mg tb W false d σ H Q1 := by
  refine ⟨ρ, S, A, hρ, hS, ?_⟩
  cases e : d ρ S with
  | ok p S1 =>
    rw [e] at h
    cases p with
    | bl b =>
      intro v H' A' s hS' hr
      have ev : v = .bl b := by simpa [Rk, Rp] using hr
      subst ev
      exact f b S1 H' A' e s hS' (hρ.stp s) (RE.mono s (show RE K mg tb W k A σ H (kk b S1) Q from h))
    | _ => exact False.elim h
  | ex x S1 => rw [e] at h; exact h
  | stuck => rw [e] at h; exact h
theorem re_of {S : Sto} {o : Option PV} {Q : VK} (h : RE K mg tb W k A σ H (R.of o S) Q) : ∃ p, o = some p ∧ ∀ v H' A', Stp A H A' H' → SRep K mg tb A' H' S → Rk k K mg A' H' p v → Q v H' := by
  cases o with
  | none => exact h.elim
  | some p => exact ⟨p, rfl, h⟩
theorem ans_of {S : Sto} {p : PV} {Q : VK} (h : ∀ v H' A', Stp A H A' H' → SRep K mg tb A' H' S → Rk k K mg A' H' p v → Q v H') : Ans K mg tb A H S p Q := fun v H' s hS r => h v H' A s hS (.of r)
end
theorem pe_imp {X : Cx} {e : Expr} {t t' : TE} (h : PE X e t) (f : ∀ σ H Q, t' σ H Q → t σ H Q) : PE X e t' := ⟨fun pins s σ H Q I q => h.run pins s σ H Q I (f σ H Q q)⟩
theorem pt_imp {X : Cx} {e : Expr} {t t' : TT} (h : PT X e t) (f : ∀ σ H Q, t' σ H Q → t σ H Q) : PT X e t' := ⟨fun pins s σ H Q I q => h.run pins s σ H Q I (f σ H Q q)⟩
theorem pw_imp {X : Cx} {e : Expr} {t t' : TT} (h : PW X e t) (f : ∀ σ H Q, t' σ H Q → t σ H Q) : PW X e t' := ⟨fun w pins s σ H Q I q => h.run w pins s σ H Q I (f σ H Q q)⟩
theorem pa_imp {X : Cx} {es : List Expr} {t t' : TA} (h : PA X es t) (f : ∀ σ H Q, t' σ H Q → t σ H Q) : PA X es t' := ⟨fun pos pins s σ H Q I q => h.run pos pins s σ H Q I (f σ H Q q)⟩
def DE (X : Cx) (tb : List (Addr × Str)) (e : Expr) (k : Bool) (d : List Sl → Sto → R PV) : Prop := ∀ W, L2N.Takes X W → PE X e (tE X.K X.mg tb W k d)
def DA (X : Cx) (tb : List (Addr × Str)) (es : List Expr) (k : Bool) (d : List Sl → Sto → R (List PV)) : Prop := ∀ W, L2N.Takes X W → PA X es (tEs X.K X.mg tb W k d)
def DT (X : Cx) (tb : List (Addr × Str)) (e : Expr) (d : List Sl → Sto → R PV) : Prop := ∀ W, L2N.Takes X W → PT X e (tT X.K X.mg tb W d)
/-- what a def promises: it gives f of its arguments and the store -/
def spF (K : PySem.W.Frag) (mg : Str → Option Value) (tb : List (Addr × Str)) (n : Nat) (f : Fn) : Sp := fun vs H Q E => vs.length = n ∧ ∃ ps S A, RpL K mg A H ps vs ∧ SRep K mg tb A H S ∧
  match f ps S with
  | .ok p S' => ∀ v H' A', Stp A H A' H' → SRep K mg tb A' H' S' → Rp K mg A' H' p v → Q v H'
  | .ex x S' => ∀ H' A' C dd, Stp A H A' H' → SRep K mg tb A' H' S' → mg x = some (.ref C) → dOk x dd → E (.ref C) dd H'
  | .stuck => False

structure CP where
  N : List Str
  own : List Nat := []
  fz : List (Nat × Nat) := []
  nc : List Nat := []
  Φ : List (Str × Nat × Fn) := []
  cs : List (Str × PV) := []
  vs : List Str := []
  excs : List Str := []
  hot : List (Str × (Str → Option PV)) := []
  lam : List (Str × ((Sto → R PV) → Sto → R PV)) := []
def blts : List (Str × Blt) := [("abs", .abs), ("all", .all), ("bool", .bool), ("int", .int), ("len", .len), ("list", .list), ("max", .max), ("min", .min), ("str", .str), ("sum", .sum), ("tuple", .tuple)]
def tyNames : List (Str × String) := [("int", "int"), ("bool", "bool"), ("str", "str"), ("tuple", "tuple"), ("list", "list")]
def okName (x : Str) : Bool := !(x == ("__debug__" : Str)) && !(x == ("__classdict__" : Str)) && !(x == ("__name__" : Str))
def ixOf (N : List Str) (x : Str) : Option Nat := N.findIdx? (· == x)
def isVis (sc : Scope) (x : Str) : Bool := match sc.names.lookup x with
  | some .local => true
  | some .cell => true
  | some .free => true
  | _ => false
def isGlob (sc : Scope) (x : Str) : Bool := decide (sc.names.lookup x = some .globalImplicit)
def nameC (P : CP) (sc : Scope) (x : Str) : Option C := if okName x = true then (if isVis sc x = true then (ixOf P.N x).map .var else if isGlob sc x = true then (match P.cs.lookup x with
  | some v => some (.cst v)
  | none => if P.vs.contains x = true then some (.cst (.fn x)) else none) else none) else none
def constC : Const → Option C
  | .none => some (.cst .non)
  | .bool b => some (.cst (.bl b))
  | .int i => some (.cst (.int i))
  | .str x => some (.cst (.str x))
  | _ => none
def binOf : Operator → Option Bop
  | .Add => some .add
  | .Sub => some .sub
  | .Mult => some .mul
  | .FloorDiv => some .fdiv
  | .Mod => some .mod
  | .Pow => some .pow
  | _ => none
def cmpOf : CmpOp → Bop
  | .Eq => .eq
  | .NotEq => .ne
  | .Lt => .lt
  | .LtE => .le
  | .Gt => .gt
  | .GtE => .ge
  | .Is => .is_
  | .IsNot => .isnot
  | .In => .in_
  | .NotIn => .notin
/-- a part that is only read: a local name may hold a list that is still changed -/
def borC (f : Expr → Option C) (P : CP) (sc : Scope) (e : Expr) : Option C := match e with
  | .Name x p => if okName x = true ∧ isVis sc x = true then (ixOf P.N x).map .bor else f (.Name x p)
  | e => f e
def listC (f : Expr → Option C) : List Expr → Option Cs
  | [] => some .nil
  | e :: r => match f e, listC f r with
    | some c, some cs => some (.cons c cs)
    | _, _ => none
def boolC (f : Expr → Option C) (op : BoolOp) : List Expr → Option C
  | [] => none
  | [e] => f e
  | e :: r => match f e, boolC f op r with
    | some c, some d => some (match op with | .And => .and_ c d | .Or => .or_ c d)
    | _, _ => none
def plainIx : Expr → Bool
  | .Slice _ _ _ _ => false
  | _ => true
def optC (f : Expr → Option C) : Option Expr → Option Cs
  | none => some .nil
  | some e => (f e).map fun c => .cons c .nil
def isMinusOne : Expr → Bool
  | .UnaryOp .USub (.Constant (.int 1) _ _) _ => true
  | _ => false
/-- tuple(range(..)), list(range(..)) -/
def rngArg (sc : Scope) (x : Str) : List Expr → Option (Bool × List Expr)
  | [.Call (.Name r _) as [] _] => if r = ("range" : Str) ∧ okName r = true ∧ isGlob sc r = true ∧ (as.length = 1 ∨ as.length = 2) then (if x = ("tuple" : Str) then some (true, as) else if x = ("list" : Str) then some (false, as) else none) else none
  | _ => none
/-- calls of built-ins and of the module's defs by name -/
def callC (f g : Expr → Option C) (P : CP) (sc : Scope) (x : Str) (args : List Expr) : Option C :=
  if okName x = true ∧ isGlob sc x = true then (match P.Φ.lookup x with
    | some (n, fn) => if args.length = n then (listC f args).map (.call fn x) else none
    | none => if x = ("isinstance" : Str) then (match args with
        | [a, .Name y _] => if okName y = true ∧ isGlob sc y = true then (match tyNames.lookup y with
          | some t => (g a).map (.isi t)
          | none => none) else none
        | _ => none)
      else match rngArg sc x args with
        | some (t, as) => (listC f as).map (.rngv t)
        | none => (match blts.lookup x with
          | some b => if args ≠ [] then (listC g args).map (.blt b) else none
          | none => none))
  else none
def isLocal (sc : Scope) (x : Str) : Bool := match sc.names.lookup x with
  | some .local => true
  | some .cell => true
  | _ => false
def tgName (P : CP) (sc : Scope) (x : Str) : Option Nat := if isLocal sc x = true then ixOf P.N x else none
def tgNames (P : CP) (sc : Scope) : List Expr → Option (List Nat)
  | [] => some []
  | .Name x _ :: r => match tgName P sc x, tgNames P sc r with
    | some i, some is => some (i :: is)
    | _, _ => none
  | _ => none
def tgC (P : CP) (sc : Scope) : Expr → Option Tg
  | .Name x _ => (tgName P sc x).map .nm
  | .Tuple es _ _ => (tgNames P sc es).map .tp
  | _ => none
def tgIx : Tg → List Nat
  | .nm i => [i]
  | .tp is => is
def isTup : Expr → Bool
  | .Tuple _ _ _ => true
  | _ => false
def walked : List (Str × IK) := [("range", .rng), ("zip", .zip), ("enumerate", .enum)]
def valC (f : Expr → Option C) (e : Expr) : Option (IK × Cs) := (f e).map fun c => (.val, .cons c .nil)
def srcC (f : Expr → Option C) (sc : Scope) (tup : Bool) : Expr → Option (IK × Cs)
  | .Call (.Name x p) args [] q => if okName x = true ∧ isGlob sc x = true then (match walked.lookup x with
    | some .rng => if args.length = 1 ∨ args.length = 2 then (listC f args).map fun cs => (.rng, cs) else none
    | some .zip => if args.length = 2 ∧ tup = true then (listC f args).map fun cs => (.zip, cs) else none
    | some .enum => if args.length = 1 ∧ tup = true then (listC f args).map fun cs => (.enum, cs) else none
    | _ => valC f (.Call (.Name x p) args [] q)) else valC f (.Call (.Name x p) args [] q)
  | e => valC f e
/-- a condition: for the place where its truth is asked -/
def condC (f : Expr → Option C) : List Expr → Option Cs
  | [] => some .nil
  | [e] => (f e).map fun c => .cons c .nil
  | _ => none
def ownOf (N : List Str) : List (Str × NameKind) → List (Str × Nat)
  | [] => []
  | (x, k) :: r => if k = .local ∨ k = .cell then (match ixOf N x with
    | some i => (x, i) :: ownOf N r
    | none => ownOf N r) else ownOf N r
def ownIx (N : List Str) (scope : Scope) : List Nat := (ownOf N scope.names).map (·.2)
def noSet : Expr → Bool
  | .Set _ _ _ => false
  | _ => true
def lcC (f g h : Expr → Option C) (t : Expr → Option C) (P : CP) (sc scope : Scope) (elt : Expr) (gs : List Comprehension) : Option C :=
  if blkC P.N sc scope (ownOf P.N scope.names) = true then (match gs with
    | [⟨tg, iter, ifs, 0⟩] => if noSet iter = true then (match srcC f sc (isTup tg) iter, tgC P scope tg, condC t ifs, g elt with
      | some (k, src), some tg', some cnd, some e => if (tgIx tg').all (fun i => (ownIx P.N scope).contains i) = true then some (.lc (ownIx P.N scope) k src tg' cnd e) else none
      | _, _, _, _ => none) else none
    | [⟨tg, iter, ifs, 0⟩, ⟨tg1, iter1, ifs1, 0⟩] => if noSet iter = true ∧ noSet iter1 = true then
      (match srcC f sc (isTup tg) iter, tgC P scope tg, condC t ifs with
      | some (k, src), some tg', some cnd => (match srcC h (relS scope sc) (isTup tg1) iter1, tgC P scope tg1, condC t ifs1, g elt with
        | some (k1, src1), some tg1', some cnd1, some e => if (tgIx tg').all (fun i => (ownIx P.N scope).contains i) = true ∧ (tgIx tg1').all (fun i => (ownIx P.N scope).contains i) = true then
            some (.lc2 (ownIx P.N scope) k src tg' cnd (tgIx tg1') k1 src1 tg1' cnd1 e) else none
        | _, _, _, _ => none)
      | _, _, _ => none) else none
    | _ => none) else none
/-- where the truth is asked: no conditional expression -/
def testC (f : Expr → Option C) (e : Expr) : Option C := match e with
  | .IfExp _ _ _ _ => none
  | e => f e
/-- no parameters -/
def emptyP : Arguments → Bool
  | ⟨[], [], none, [], [], none, []⟩ => true
  | _ => false
def lamArg : List Expr → Option (Arguments × Expr × Scope)
  | [.Lambda params body scope _] => some (params, body, scope)
  | _ => none
def noLam (P : CP) : CP := { P with lam := [] }
def lamC (P : CP) (sc : Scope) (f : Scope → Expr → Option C) (g : Str) (params : Arguments) (body : Expr) (scope : Scope) : Option C :=
  if okName g = true ∧ isGlob sc g = true ∧ LamX.lamSB sc scope = true ∧ emptyP params = true then (match P.lam.lookup g with
    | some h => (f scope body).map (.callh h g)
    | none => none) else none
def compE (P : CP) : Nat → Scope → Expr → Option C
  | 0, _, _ => none
  | n + 1, sc, e => match e with
    | .Name x _ => nameC P sc x
    | .Constant c _ _ => constC c
    | .BinOp a op b _ => (match binOf op, borC (compE P n sc) P sc a, borC (compE P n sc) P sc b with
      | some o, some c, some d => some (.bin o c d)
      | _, _, _ => none)
    | .UnaryOp .USub a _ => (compE P n sc a).map .neg
    | .UnaryOp .Not a _ => (testC (compE P n sc) a).map .not_
    | .BoolOp op es _ => boolC (testC (compE P n sc)) op es
    | .Compare a [op] [b] _ => (match borC (compE P n sc) P sc a, borC (compE P n sc) P sc b with
      | some c, some d => some (.bin (cmpOf op) c d)
      | _, _ => none)
    | .Compare a [o1, o2] [b, c] _ => (match compE P n sc a, compE P n sc b, compE P n sc c with
      | some c1, some c2, some c3 => some (.chn c1 (cmpOf o1) c2 (cmpOf o2) c3)
      | _, _, _ => none)
    | .IfExp c a b _ => (match testC (compE P n sc) c, compE P n sc a, compE P n sc b with
      | some c1, some c2, some c3 => some (.ifx c1 c2 c3)
      | _, _, _ => none)
    | .Tuple es _ _ => if es.length ≤ 1000 then (listC (compE P n sc) es).map .tup else none
    | .List es pos => if es.length ≤ 1000 then (listC (compE P n sc) es).map (if P.nc.contains pos.line = true then .newc else .lst) else none
    | .Subscript a (.Slice lo hi none _) _ => (match borC (compE P n sc) P sc a, optC (compE P n sc) lo, optC (compE P n sc) hi with
      | some c, some l, some h => some (.sl c l h)
      | _, _, _ => none)
    | .Subscript a b _ => if plainIx b = true then (match borC (compE P n sc) P sc a, borC (compE P n sc) P sc b with
      | some c, some d => some (.bin .ix c d)
      | _, _ => none) else none
    | .Call (.Name x _) args [] _ => (match lamArg args with
      | some (params, body, scope) => lamC P sc (fun sc e => compE (noLam P) n sc e) x params body scope
      | none => if isVis sc x = true then (if okName x = true ∧ args ≠ [] then (match ixOf P.N x with
        | some i => (listC (compE P n sc) args).map (.callv i)
        | none => none) else none) else callC (compE P n sc) (borC (compE P n sc) P sc) P sc x args)
    | .ListComp elt gs scope _ => lcC (compE P n sc) (compE P n (relS scope sc)) (compE P n (relS scope sc)) (testC (compE P n (relS scope sc))) P sc scope elt gs
    | _ => none
end Ev

end -- EvF
section -- EvG
namespace Ev
open PySem PySem.Spec PyProof.Rows L2

def FnIsG (Pr : Program) (w : World) (K : PySem.W.Frag) (mg : Str → Option Value) (base : Heap) (tb : List (Addr × Str)) (lv : Nat) (x : Str) (n : Nat) (f : Fn) : Prop := ∃ a fd ps, mg x = some (.ref a) ∧ PySem.W.keepIn K (.ref a) = true ∧ FnOk Pr w K mg base (L2N.CX Pr w) lv a fd ps (spF K mg tb n f) ∧ Binds K fd ps []
abbrev FnIs (X : Cx) (tb : List (Addr × Str)) (lv : Nat) (x : Str) (n : Nat) (f : Fn) : Prop := FnIsG X.prog X.w X.K X.mg X.base tb lv x n f
def freeNames : List Str := ["abs", "all", "bool", "int", "len", "list", "max", "min", "str", "sum", "tuple", "isinstance", "range", "zip", "enumerate", "sorted", "set"]
structure FxG (Pr : Program) (w : World) (K : PySem.W.Frag) (mg : Str → Option Value) (base : Heap) (tb : List (Addr × Str)) (P : CP) (B : Amb) (lv : Nat) : Prop where
  fns : ∀ x n f, P.Φ.lookup x = some (n, f) → FnIsG Pr w K mg base tb lv x n f
  cs : ∀ x v, P.cs.lookup x = some v → ∃ u vv, mg x = some u ∧ RelV vv u ∧ ∀ A H, Rp K mg A H v vv
  vs : ∀ x, P.vs.contains x = true → ∃ a, mg x = some (.ref a)
  free : ∀ x ∈ freeNames, mg x = none
  dyn : ∀ x n f, B.dyn.lookup x = some (n, f) → FnIsG Pr w K mg base tb lv x n f
  exc : ∀ x, P.excs.contains x = true → ∃ C, mg x = some (.ref C) ∧ PySem.W.excIn K C He.veBase "ValueError.__new__" = true ∧ PySem.W.keepIn K (.ref C) = true ∧ PySem.W.subIn K (.ref C) (.type "BaseException") = some true ∧ PySem.W.typeIn K (.ref C) = some (.type "type")
  cls : ∀ y x b, under B.tab y x = some b → ∃ Cy Cx, mg y = some (.ref Cy) ∧ mg x = some (.ref Cx) ∧ PySem.W.exmOne K (.ref Cy) (.ref Cx) = some b
abbrev Fx (X : Cx) (tb : List (Addr × Str)) (P : CP) (B : Amb) (lv : Nat) : Prop := FxG X.prog X.w X.K X.mg X.base tb P B lv
/-- over this heap -/
def Over (P : Program) (w : World) (K : PySem.W.Frag) (mg : Str → Option Value) (base : Heap) (X : Cx) : Prop := X.prog = P ∧ X.w = w ∧ X.K = K ∧ X.mg = mg ∧ X.base = base
/-- a lambda's context, made in X -/
structure ZOk (X Z : Cx) (lv : Nat) (scope : Scope) : Prop where
  N : Z.N = X.N
  sc : Z.env.scope = scope
  calm : Z.calm = true
  room : Room lv Z.A
  ov : Over X.prog X.w X.K X.mg X.base Z
def LamOk (X : Cx) (tb : List (Addr × Str)) (B : Amb) (lv : Nat) (g : Str) (h : (Sto → R PV) → Sto → R PV) : Prop :=
  ∀ (params : Arguments) (body : Expr) (scope : Scope) (b : C) (p lpos pos : Pos), okName g = true → isGlob X.env.scope g = true → emptyP params = true → LamX.lamSB X.env.scope scope = true → (∀ Z : Cx, ZOk X Z lv scope → DE Z tb body false (ev B b)) →
    DE X tb (.Call (.Name g p) [.Lambda params body scope lpos] [] pos) false (ev B (.callh h g b))
/-- a context of the same frame -/
structure LY (X Y : Cx) : Prop where
  ov : Over X.prog X.w X.K X.mg X.base Y
  A : Y.A = X.A
  code : Y.env.code = X.env.code
  qual : Y.env.qual = X.env.qual
  calm : Y.calm = true
structure Ctx (X : Cx) (tb : List (Addr × Str)) (P : CP) (B : Amb) (lv : Nat) (sc : Scope) : Prop where
  N : X.N = P.N
  nd : P.N.Nodup
  sc : X.env.scope = sc
  calm : X.calm = true
  room : Room lv X.A
  fx : Fx X tb P B lv
  lam : ∀ g h, P.lam.lookup g = some h → ∀ Y : Cx, LY X Y → LamOk Y tb B lv g h

theorem ixOf_some {N : List Str} {x : Str} {i : Nat} (h : ixOf N x = some i) : N[i]? = some x := by
  unfold ixOf at h
  rw [List.findIdx?_eq_some_iff_getElem] at h
  obtain ⟨hi, h1, _⟩ := h
  rw [List.getElem?_eq_getElem hi]
  exact congrArg some (by simpa using h1)
theorem isVis_vis {sc : Scope} {x : Str} (h : isVis sc x = true) : Vis sc x := by
  unfold isVis at h
  split at h
  · exact .inl ‹_›
  · exact .inr (.inl ‹_›)
  · exact .inr (.inr ‹_›)
  · cases h
theorem okName_1 {x : Str} (h : okName x = true) : (x == ("__debug__" : Str)) = false := by
  unfold okName at h
  simp only [Bool.and_eq_true, Bool.not_eq_true'] at h
  exact h.1.1
theorem okName_2 {x : Str} (h : okName x = true) : (x == ("__classdict__" : Str)) = false := by
  unfold okName at h
  simp only [Bool.and_eq_true, Bool.not_eq_true'] at h
  exact h.1.2
theorem okName_3 {x : Str} (h : okName x = true) : x ≠ "__name__" := by
  unfold okName at h
  simp only [Bool.and_eq_true, Bool.not_eq_true'] at h
  intro z
  rw [z] at h
  exact absurd h.2 (by decide +kernel)
section
variable {X : Cx} {tb : List (Addr × Str)} {P : CP} {B : Amb} {lv : Nat} {sc : Scope}
theorem Ctx.hu (c : Ctx X tb P B lv sc) : X.A.units + 65 < cLine := by have := c.room.un; omega
theorem Ctx.gl (c : Ctx X tb P B lv sc) {x : Str} (h : isGlob sc x = true) : Gl X x := by
  show X.env.scope.names.lookup x = some .globalImplicit
  rw [c.sc]
  exact of_decide_eq_true h
theorem de_var (c : Ctx X tb P B lv sc) {x : Str} {i : Nat} {p : Pos} (hn : okName x = true) (hv : isVis sc x = true) (hi : ixOf P.N x = some i) : DE X tb (.Name x p) false (ev B (.var i)) := fun W tk => by
  refine pe_imp (pe_var (i := i) (by rw [c.N]; exact ixOf_some hi) (by rw [c.sc]; exact isVis_vis hv) (okName_1 hn) (okName_2 hn)) fun σ H Q ⟨ρ, S, A, hρ, hS, h⟩ => ?_
  obtain ⟨q, e, h⟩ := re_of (show RE X.K X.mg tb W false A σ H (R.of (slVar ρ[i]?) S) Q by simpa only [ev] using h)
  obtain ⟨v, e1, e2⟩ := hρ.var e
  exact ⟨v, e1, h v H A (.refl A H) hS e2⟩
theorem de_bor (c : Ctx X tb P B lv sc) {x : Str} {i : Nat} {p : Pos} (hn : okName x = true) (hv : isVis sc x = true) (hi : ixOf P.N x = some i) : DE X tb (.Name x p) true (ev B (.bor i)) := fun W tk => by
  refine pe_imp (pe_var (i := i) (by rw [c.N]; exact ixOf_some hi) (by rw [c.sc]; exact isVis_vis hv) (okName_1 hn) (okName_2 hn)) fun σ H Q ⟨ρ, S, A, hρ, hS, h⟩ => ?_
  obtain ⟨q, e, h⟩ := re_of (show RE X.K X.mg tb W true A σ H (R.of (slBor ρ[i]?) S) Q by simpa only [ev] using h)
  obtain ⟨v, e1, e2⟩ := hρ.bor e
  exact ⟨v, e1, h v H A (.refl A H) hS e2⟩
theorem de_k {e : Expr} {d : List Sl → Sto → R PV} (h : DE X tb e false d) : DE X tb e true d := fun W tk => pe_imp (h W tk) fun σ H Q ⟨ρ, S, A, hρ, hS, h⟩ => by
  refine ⟨ρ, S, A, hρ, hS, ?_⟩
  cases e : d ρ S with
  | ok p S1 => rw [e] at h; exact fun v H' A' s hS' hr => h v H' A' s hS' (.inl hr)
  | ex x S1 => rw [e] at h; exact h
  | stuck => rw [e] at h; exact h
theorem de_cst {e : Expr} {v : V} {p : PV} (h : PE X e (tC v)) (hr : ∀ A H, Rp X.K X.mg A H p v) : DE X tb e false (ev B (.cst p)) := fun W tk => by
  refine pe_imp h fun σ H Q ⟨ρ, S, A, hρ, hS, h⟩ => ?_
  simp only [ev, RE] at h
  exact h v H A (.refl A H) hS (hr A H)
theorem snd_const {k : Const} {n : Nat} {pos : Pos} {c : C} (h : constC k = some c) : DE X tb (.Constant k n pos) false (ev B c) := by
  cases k with
  | none => cases h; exact de_cst pe_non fun _ _ => rp_non
  | bool b => cases h; exact de_cst pe_bl fun _ _ => rp_bl
  | int b => cases h; exact de_cst pe_int fun _ _ => rp_int
  | str b => cases h; exact de_cst pe_str fun _ _ => rp_str
  | _ => cases h
theorem snd_name (cx : Ctx X tb P B lv sc) {x : Str} {pos : Pos} {c : C} (h : nameC P sc x = some c) : DE X tb (.Name x pos) false (ev B c) := by
  unfold nameC at h
  split at h
  · rename_i hn
    split at h
    · rename_i hv
      obtain ⟨i, hi, rfl⟩ := Option.map_eq_some_iff.mp h
      exact de_var cx hn hv hi
    · split at h
      · rename_i hg
        split at h
        · rename_i v hv
          cases h
          obtain ⟨u, vv, h1, h2, h3⟩ := cx.fx.cs x v hv
          exact de_cst (pe_glob (cx.gl hg) h1 h2 (okName_1 hn)) h3
        · split at h
          · rename_i hv
            cases h
            obtain ⟨a, h1⟩ := cx.fx.vs x hv
            exact de_cst (v := .ref a) (pe_glob (cx.gl hg) h1 rfl (okName_1 hn)) fun A H => by simp only [Rp]; exact ⟨a, h1, rfl⟩
          · cases h
      · cases h
  · cases h
theorem snd_bor (cx : Ctx X tb P B lv sc) {f : Expr → Option C} (hf : ∀ e c, f e = some c → DE X tb e false (ev B c)) {e : Expr} {c : C} (h : borC f P sc e = some c) : DE X tb e true (ev B c) := by
  unfold borC at h
  split at h
  · split at h
    · rename_i hh
      obtain ⟨i, hi, rfl⟩ := Option.map_eq_some_iff.mp h
      exact de_bor cx hh.1 hh.2 hi
    · exact de_k (hf _ _ h)
  · exact de_k (hf _ _ h)
theorem RE.bl {K : PySem.W.Frag} {mg : Str → Option Value} {W : WX} {k b : Bool} {A : List Addr} {σ : L2.St} {H : Hp} {S : Sto} {Q : VK} (h : RE K mg tb W k A σ H (.ok (.bl b) S) Q) (hS : SRep K mg tb A H S) : Q (.bl b) H := h (.bl b) H A (.refl A H) hS (Rk.of rp_bl)
theorem RE.int {K : PySem.W.Frag} {mg : Str → Option Value} {W : WX} {k : Bool} {b : Int} {A : List Addr} {σ : L2.St} {H : Hp} {S : Sto} {Q : VK} (h : RE K mg tb W k A σ H (.ok (.int b) S) Q) (hS : SRep K mg tb A H S) : Q (.int b) H := h (.int b) H A (.refl A H) hS (Rk.of rp_int)
def Opr.sem (o : Bop) : Value → Value → Sem Value := match o with
  | .add => binaryOp .Add
  | .sub => binaryOp .Sub
  | .mul => binaryOp .Mult
  | .fdiv => binaryOp .FloorDiv
  | .mod => binaryOp .Mod
  | .pow => binaryOp .Pow
  | .eq => compareOp .Eq
  | .ne => compareOp .NotEq
  | .lt => compareOp .Lt
  | .le => compareOp .LtE
  | .gt => compareOp .Gt
  | .ge => compareOp .GtE
  | .is_ => compareOp .Is
  | .isnot => compareOp .IsNot
  | .in_ => compareOp .In
  | .notin => compareOp .NotIn
  | .ix => fun _ _ => pure .none
theorem o_all (hu : X.A.units + 65 < cLine) (o : Bop) (h : o ≠ .ix) : OpR X (Opr.sem o) (rO X.K X.mg tb (bop o)) := by
  cases o with
  | add => exact o_add
  | sub => exact o_sub
  | mul => exact o_mul
  | fdiv => exact o_fdiv
  | mod => exact o_mod
  | pow => exact o_pow
  | eq => exact o_eq (by omega)
  | ne => exact o_ne (by omega)
  | lt => exact o_lt
  | le => exact o_le
  | gt => exact o_gt
  | ge => exact o_ge
  | is_ => exact o_is
  | isnot => exact o_isnot
  | in_ => exact o_in hu
  | notin => exact o_notin hu
  | ix => exact absurd rfl h
theorem cmp_sem (op : CmpOp) : Opr.sem (cmpOf op) = compareOp op ∧ cmpOf op ≠ .ix := by cases op <;> exact ⟨rfl, nofun⟩
theorem bin_sem {op : Operator} {o : Bop} (h : binOf op = some o) : Opr.sem o = binaryOp op ∧ o ≠ .ix := by cases op <;> cases h <;> exact ⟨rfl, nofun⟩
/-- two parts, then the operation -/
theorem op_read {W : WX} {o : Bop} {a b : C} {σ : L2.St} {H : Hp} {Q : VK} (h : tE X.K X.mg tb W false (ev B (.bin o a b)) σ H Q) : tOp (rO X.K X.mg tb (bop o)) (tE X.K X.mg tb W true (ev B a)) (tE X.K X.mg tb W true (ev B b)) σ H Q := by
  obtain ⟨ρ, S, A, hρ, hS, h⟩ := h
  simp only [ev] at h
  refine tE_bind hρ hS h fun x S1 x' H1 A1 _ s1 hS1 hρ1 rx h1 => ?_
  refine tE_bind hρ1 hS1 h1 fun y S2 y' H2 A2 _ s2 hS2 hρ2 ry h2 => ?_
  obtain ⟨p, e, h2⟩ := re_of h2
  exact ⟨A2, S2, x, y, p, hS2, Rb.stp s2 rx, ry, e, ans_of h2⟩
theorem de_bin (cx : Ctx X tb P B lv sc) {o : Bop} {op : Operator} {a b : Expr} {c d : C} {pos : Pos} (ho : binOf op = some o) (ha : DE X tb a true (ev B c)) (hb : DE X tb b true (ev B d)) : DE X tb (.BinOp a op b pos) false (ev B (.bin o c d)) := fun W tk => by
  have h := o_all (X := X) (tb := tb) cx.hu o (bin_sem ho).2
  rw [(bin_sem ho).1] at h
  exact pe_imp (pe_op h (ha W tk) (hb W tk)) fun σ H Q q => op_read q
theorem nb {op : CmpOp} {b : Expr} {k : Bool} {d : List Sl → Sto → R PV} {f : Expr → Option C} {c : C} (h : borC f P sc b = some c) (hf : ∀ es k p, f (.Set es k p) = none) : behindInMarks op b = false := by
  cases b with
  | Set es k p =>
    have h2 : f (.Set es k p) = some c := h
    rw [hf] at h2
    cases h2
  | _ => rfl
theorem de_cmp (cx : Ctx X tb P B lv sc) {op : CmpOp} {a b : Expr} {c d : C} {pos : Pos} (hm : behindInMarks op b = false) (ha : DE X tb a true (ev B c)) (hb : DE X tb b true (ev B d)) : DE X tb (.Compare a [op] [b] pos) false (ev B (.bin (cmpOf op) c d)) := fun W tk => by
  have h := o_all (X := X) (tb := tb) cx.hu (cmpOf op) (cmp_sem op).2
  rw [(cmp_sem op).1] at h
  exact pe_imp (pe_cmpR h (ha W tk) (hb W tk) hm) fun σ H Q q => op_read q
theorem dt_cmp (cx : Ctx X tb P B lv sc) {op : CmpOp} {a b : Expr} {c d : C} {pos : Pos} (hm : behindInMarks op b = false) (ha : DE X tb a true (ev B c)) (hb : DE X tb b true (ev B d)) : DT X tb (.Compare a [op] [b] pos) (ev B (.bin (cmpOf op) c d)) := fun W tk => by
  have h := o_all (X := X) (tb := tb) cx.hu (cmpOf op) (cmp_sem op).2
  rw [(cmp_sem op).1] at h
  exact pt_imp (pt_cmpR h (ha W tk) (hb W tk) hm) fun σ H Q q => op_read (Q := fun v H' => ∃ b, v = .bl b ∧ Q b H') q
theorem de_ix (cx : Ctx X tb P B lv sc) {a b : Expr} {c d : C} {pos : Pos} (hp : plainIx b = true) (ha : DE X tb a true (ev B c)) (hb : DE X tb b true (ev B d)) : DE X tb (.Subscript a b pos) false (ev B (.bin .ix c d)) := fun W tk =>
  pe_imp (pe_ix o_ix (ha W tk) (hb W tk) (fun o i => by cases b <;> first | rfl | cases hp)) fun σ H Q q => op_read q
theorem chn_read (cx : Ctx X tb P B lv sc) {W : WX} {o1 o2 : Bop} {a b c : C} {σ : L2.St} {H : Hp} {Q : VK} (h : tE X.K X.mg tb W false (ev B (.chn a o1 b o2 c)) σ H Q) :
    tChain (rO X.K X.mg tb (bop o1)) (rO X.K X.mg tb (bop o2)) (tE X.K X.mg tb W false (ev B a)) (tE X.K X.mg tb W false (ev B b)) (tE X.K X.mg tb W false (ev B c)) σ H Q := by
  obtain ⟨ρ, S, A, hρ, hS, h⟩ := h
  simp only [ev] at h
  refine tE_bind hρ hS h fun x S1 x' H1 A1 _ s1 hS1 hρ1 rx h1 => ?_
  refine tE_bind hρ1 hS1 h1 fun y S2 y' H2 A2 _ s2 hS2 hρ2 ry h2 => ?_
  cases e : bop o1 S2 x y with
  | none => rw [e] at h2; exact h2.elim
  | some p =>
    rw [e] at h2
    refine ⟨A2, S2, x, y, p, hS2, .inl (Rp.stp s2 _ _ rx), .inl ry, e, fun v H3 s3 hS3 r3 => ?_⟩
    have h3 : RE X.K X.mg tb W false A2 σ H2 (truth p S2 fun k S4 => if k = true then (ev B c ρ S4).bind fun z S5 => (R.of (bop o2 S5 y z) S5).bind fun r2 S6 => truth r2 S6 fun d S7 => .ok (.bl d) S7 else .ok (.bl false) S4) Q := h2
    cases p with
    | bl k =>
      have ek : v = .bl k := by simpa [Rp] using r3
      refine ⟨k, ek, ?_⟩
      have h4 := RE.mono s3 h3
      simp only [truth] at h4
      by_cases hk : k = true
      · rw [if_pos hk] at h4 ⊢
        refine tE_bind (hρ2.stp s3) hS3 h4 fun z S5 z' H5 A5 _ s5 hS5 hρ5 rz h5 => ?_
        cases e2 : bop o2 S5 y z with
        | none => rw [e2] at h5; exact h5.elim
        | some p2 =>
          rw [e2] at h5
          have h6 : RE X.K X.mg tb W false A5 σ H5 (truth p2 S5 fun d S7 => .ok (.bl d) S7) Q := h5
          refine ⟨A5, S5, y, z, p2, hS5, .inl (Rp.stp s5 _ _ (Rp.stp s3 _ _ ry)), .inl rz, e2, fun w' H6 s6 hS6 r6 => ?_⟩
          cases p2 with
          | bl d => exact h6 w' H6 A5 s6 hS6 r6
          | _ => exact h6.elim
      · rw [if_neg hk] at h4 ⊢
        exact RE.bl h4 hS3
    | _ => exact h3.elim
theorem de_chn (cx : Ctx X tb P B lv sc) {p1 p2 : CmpOp} {a b c : Expr} {a' b' c' : C} {pos : Pos} (hm : lastMarks [p1, p2] [b, c] = false) (ha : DE X tb a false (ev B a')) (hb : DE X tb b false (ev B b')) (hc : DE X tb c false (ev B c')) :
    DE X tb (.Compare a [p1, p2] [b, c] pos) false (ev B (.chn a' (cmpOf p1) b' (cmpOf p2) c')) := fun W tk => by
  have h1 := o_all (X := X) (tb := tb) cx.hu (cmpOf p1) (cmp_sem p1).2
  rw [(cmp_sem p1).1] at h1
  have h2 := o_all (X := X) (tb := tb) cx.hu (cmpOf p2) (cmp_sem p2).2
  rw [(cmp_sem p2).1] at h2
  exact pe_imp (pe_chain h1 h2 (ha W tk) (hb W tk) (hc W tk) hm) fun σ H Q q => chn_read cx q
theorem dt_chn (cx : Ctx X tb P B lv sc) {p1 p2 : CmpOp} {a b c : Expr} {a' b' c' : C} {pos : Pos} (hm : lastMarks [p1, p2] [b, c] = false) (ha : DE X tb a false (ev B a')) (hb : DE X tb b false (ev B b')) (hc : DE X tb c false (ev B c')) :
    DT X tb (.Compare a [p1, p2] [b, c] pos) (ev B (.chn a' (cmpOf p1) b' (cmpOf p2) c')) := fun W tk => by
  have h1 := o_all (X := X) (tb := tb) cx.hu (cmpOf p1) (cmp_sem p1).2
  rw [(cmp_sem p1).1] at h1
  have h2 := o_all (X := X) (tb := tb) cx.hu (cmpOf p2) (cmp_sem p2).2
  rw [(cmp_sem p2).1] at h2
  exact pt_imp (pt_chain h1 h2 (ha W tk) (hb W tk) (hc W tk) hm) fun σ H Q q => chn_read cx (Q := fun v H' => ∃ b, v = .bl b ∧ Q b H') q
theorem de_neg {a : Expr} {c : C} {pos : Pos} (ha : DE X tb a false (ev B c)) : DE X tb (.UnaryOp .USub a pos) false (ev B (.neg c)) := fun W tk =>
  pe_imp (pe_un un_neg (ha W tk)) fun σ H Q ⟨ρ, S, A, hρ, hS, h⟩ => by
    simp only [ev] at h
    refine tE_bind hρ hS h fun x S1 x' H1 A1 _ s1 hS1 hρ1 rx h1 => ?_
    cases x with
    | int i =>
      have e : x' = .int i := by simpa [Rk, Rp] using rx
      exact ⟨i, e, RE.int h1 hS1⟩
    | _ => exact h1.elim
theorem de_not {a : Expr} {c : C} {pos : Pos} (ha : DE X tb a false (ev B c)) : DE X tb (.UnaryOp .Not a pos) false (ev B (.not_ c)) := fun W tk =>
  pe_imp (pe_not (ha W tk)) fun σ H Q ⟨ρ, S, A, hρ, hS, h⟩ => by
    simp only [ev] at h
    refine tE_truth hρ hS h fun b S1 H1 A1 _ s1 hS1 hρ1 h1 => ?_
    exact ⟨b, rfl, RE.bl h1 hS1⟩
theorem dt_not {a : Expr} {c : C} {pos : Pos} (ha : DT X tb a (ev B c)) : DT X tb (.UnaryOp .Not a pos) (ev B (.not_ c)) := fun W tk =>
  pt_imp (pt_not (ha W tk)) fun σ H Q ⟨ρ, S, A, hρ, hS, h⟩ => by
    simp only [ev] at h
    refine tT_bind hρ hS h fun b S1 H1 A1 _ s1 hS1 hρ1 h1 => ?_
    obtain ⟨b', e, q⟩ := RE.bl h1 hS1
    cases e
    exact q
/-- a part whose value, a bool, is the whole one's -/
theorem tE_last {W : WX} {d : List Sl → Sto → R PV} {ρ : List Sl} {S : Sto} {A : List Addr} {σ : L2.St} {H : Hp} {Q : VK} (hρ : SlE X.K X.mg A H ρ σ) (hS : SRep X.K X.mg tb A H S)
    (h : RE X.K X.mg tb W false A σ H ((d ρ S).bind fun y S3 => truth y S3 fun d S4 => .ok (.bl d) S4) Q) : tE X.K X.mg tb W false d σ H Q := by
  refine ⟨ρ, S, A, hρ, hS, ?_⟩
  cases e : d ρ S with
  | ok p S1 =>
    rw [e] at h
    cases p with
    | bl b => exact h
    | _ => exact h.elim
  | ex x S1 => rw [e] at h; exact h
  | stuck => rw [e] at h; exact h
theorem tT_last {W : WX} {d : List Sl → Sto → R PV} {ρ : List Sl} {S : Sto} {A : List Addr} {σ : L2.St} {H : Hp} {Q : Bool → Hp → Prop} (hρ : SlE X.K X.mg A H ρ σ) (hS : SRep X.K X.mg tb A H S)
    (h : RE X.K X.mg tb W false A σ H ((d ρ S).bind fun y S3 => truth y S3 fun d S4 => .ok (.bl d) S4) fun v H' => ∃ b, v = .bl b ∧ Q b H') : tT X.K X.mg tb W d σ H Q := tE_last (Q := fun v H' => ∃ b, v = .bl b ∧ Q b H') hρ hS h
theorem de_and {a b : Expr} {r : List Expr} {c d : C} {pos : Pos} (ha : DE X tb a false (ev B c)) (hb : DE X tb (.BoolOp .And (b :: r) pos) false (ev B d)) : DE X tb (.BoolOp .And (a :: b :: r) pos) false (ev B (.and_ c d)) := fun W tk =>
  pe_imp (pe_and (ha W tk) (hb W tk)) fun σ H Q ⟨ρ, S, A, hρ, hS, h⟩ => by
    simp only [ev] at h
    refine tE_truth hρ hS h fun b S1 H1 A1 _ s1 hS1 hρ1 h1 => ⟨b, rfl, ?_⟩
    by_cases hb : b = true
    · rw [if_pos hb] at h1 ⊢
      exact tE_last hρ1 hS1 h1
    · rw [if_neg hb] at h1 ⊢
      exact RE.bl h1 hS1
theorem de_or {a b : Expr} {r : List Expr} {c d : C} {pos : Pos} (ha : DE X tb a false (ev B c)) (hb : DE X tb (.BoolOp .Or (b :: r) pos) false (ev B d)) : DE X tb (.BoolOp .Or (a :: b :: r) pos) false (ev B (.or_ c d)) := fun W tk =>
  pe_imp (pe_or (ha W tk) (hb W tk)) fun σ H Q ⟨ρ, S, A, hρ, hS, h⟩ => by
    simp only [ev] at h
    refine tE_truth hρ hS h fun b S1 H1 A1 _ s1 hS1 hρ1 h1 => ⟨b, rfl, ?_⟩
    by_cases hb : b = true
    · rw [if_pos hb] at h1 ⊢
      exact RE.bl h1 hS1
    · rw [if_neg hb] at h1 ⊢
      exact tE_last hρ1 hS1 h1
def DW (X : Cx) (tb : List (Addr × Str)) (e : Expr) (d : List Sl → Sto → R PV) : Prop := ∀ W, L2N.Takes X W → PW X e (tT X.K X.mg tb W d)
theorem dw_and {a b : Expr} {r : List Expr} {c d : C} {pos : Pos} (ha : DT X tb a (ev B c)) (hb : DW X tb (.BoolOp .And (b :: r) pos) (ev B d)) : DW X tb (.BoolOp .And (a :: b :: r) pos) (ev B (.and_ c d)) := fun W tk =>
  pw_imp (pw_and (ha W tk) (hb W tk)) fun σ H Q ⟨ρ, S, A, hρ, hS, h⟩ => by
    simp only [ev] at h
    refine tT_bind hρ hS h fun b S1 H1 A1 _ s1 hS1 hρ1 h1 => ?_
    show if b = true then _ else _
    by_cases hb : b = true
    · rw [if_pos hb] at h1 ⊢
      exact tT_last hρ1 hS1 h1
    · rw [if_neg hb] at h1 ⊢
      obtain ⟨b', e, q⟩ := RE.bl h1 hS1
      cases e
      exact q
theorem dw_or {a b : Expr} {r : List Expr} {c d : C} {pos : Pos} (ha : DT X tb a (ev B c)) (hb : DW X tb (.BoolOp .Or (b :: r) pos) (ev B d)) : DW X tb (.BoolOp .Or (a :: b :: r) pos) (ev B (.or_ c d)) := fun W tk =>
  pw_imp (pw_or (ha W tk) (hb W tk)) fun σ H Q ⟨ρ, S, A, hρ, hS, h⟩ => by
    simp only [ev] at h
    refine tT_bind hρ hS h fun b S1 H1 A1 _ s1 hS1 hρ1 h1 => ?_
    show if b = true then _ else _
    by_cases hb : b = true
    · rw [if_pos hb] at h1 ⊢
      obtain ⟨b', e, q⟩ := RE.bl h1 hS1
      cases e
      exact q
    · rw [if_neg hb] at h1 ⊢
      exact tT_last hρ1 hS1 h1
theorem snd_bool {f : Expr → Option C} (hf : ∀ e c, f e = some c → DE X tb e false (ev B c)) {op : BoolOp} {pos : Pos} : ∀ {es : List Expr} {c : C}, boolC f op es = some c → DE X tb (.BoolOp op es pos) false (ev B c)
  | [], _, h => by cases h
  | [e], _, h => fun W tk => pe_one (hf e _ h W tk)
  | e :: e2 :: r, c, h => by
    unfold boolC at h
    split at h
    · rename_i c1 d1 h1 h2
      cases h
      cases op with
      | And => exact de_and (hf _ _ h1) (snd_bool hf h2)
      | Or => exact de_or (hf _ _ h1) (snd_bool hf h2)
    · cases h
theorem snd_boolT {f : Expr → Option C} (hf : ∀ e c, f e = some c → DT X tb e (ev B c)) {op : BoolOp} {pos : Pos} : ∀ {es : List Expr} {c : C}, boolC f op es = some c → DW X tb (.BoolOp op es pos) (ev B c)
  | [], _, h => by cases h
  | [e], _, h => fun W tk => by
    cases op with
    | And => exact pw_and1 (hf e _ h W tk)
    | Or => exact pw_or1 (hf e _ h W tk)
  | e :: e2 :: r, c, h => by
    unfold boolC at h
    split at h
    · rename_i c1 d1 h1 h2
      cases h
      cases op with
      | And => exact dw_and (hf _ _ h1) (snd_boolT hf h2)
      | Or => exact dw_or (hf _ _ h1) (snd_boolT hf h2)
    · cases h
theorem de_ifx {c a b : Expr} {c' a' b' : C} {pos : Pos} (hc : DT X tb c (ev B c')) (ha : DE X tb a false (ev B a')) (hb : DE X tb b false (ev B b')) : DE X tb (.IfExp c a b pos) false (ev B (.ifx c' a' b')) := fun W tk =>
  pe_imp (pe_ifExp (hc W tk) (ha W tk) (hb W tk)) fun σ H Q ⟨ρ, S, A, hρ, hS, h⟩ => by
    simp only [ev] at h
    refine tT_bind hρ hS h fun b S1 H1 A1 _ s1 hS1 hρ1 h1 => ?_
    show if b = true then _ else _
    by_cases hb : b = true
    · rw [if_pos hb] at h1 ⊢
      exact ⟨ρ, S1, A1, hρ1, hS1, h1⟩
    · rw [if_neg hb] at h1 ⊢
      exact ⟨ρ, S1, A1, hρ1, hS1, h1⟩
theorem dt_val {e : Expr} {d : List Sl → Sto → R PV} (h : DE X tb e false d) (he : ∀ whole, isTrue e X.env whole = (do let v ← whole; standAt e.pos; holding [v] (truthy v))) : DT X tb e d := fun W tk =>
  pt_imp (pt_val (h W tk) he) fun σ H Q q => q
theorem snd_list {f : Expr → Option C} {k : Bool} (hf : ∀ e c, f e = some c → DE X tb e k (ev B c)) (hs : ∀ e p, f (.Starred e p) = none) : ∀ {es : List Expr} {cs : Cs}, listC f es = some cs → DA X tb es k (evs B cs)
  | [], cs, h => fun W tk => by
    cases h
    refine pa_imp pa_nil fun σ H Q ⟨ρ, S, A, hρ, hS, h⟩ => ?_
    simp only [evs, REs] at h
    refine h [] H A (.refl _ _) hS ?_
    cases k with
    | true => exact .nil
    | false => exact (show RpL X.K X.mg A H [] [] from RpL.nil)
  | e :: r, cs, h => fun W tk => by
    unfold listC at h
    split at h
    · rename_i c cs' h1 h2
      cases h
      refine pa_imp (pa_cons (hf e c h1 W tk) (snd_list hf hs h2 W tk) ?_) fun σ H Q ⟨ρ, S, A, hρ, hS, h⟩ => ?_
      · cases e with
        | Starred e p => rw [hs] at h1; cases h1
        | _ => rfl
      · simp only [evs] at h
        show tE X.K X.mg tb W k (ev B c) σ H fun x H1 => tEs X.K X.mg tb W k (evs B cs') σ H1 fun xs H2 => Q (x :: xs) H2
        refine ⟨ρ, S, A, hρ, hS, ?_⟩
        cases e1 : ev B c ρ S with
        | stuck => rw [e1] at h; exact h
        | ex x S1 => rw [e1] at h; exact h
        | ok p S1 =>
          rw [e1] at h
          intro v H' A' s hS' hr
          refine ⟨ρ, S1, A', hρ.stp s, hS', ?_⟩
          have h' := REs.mono s (show REs X.K X.mg tb W k A σ H ((evs B cs' ρ S1).bind fun vs S2 => .ok (p :: vs) S2) Q from h)
          cases e2 : evs B cs' ρ S1 with
          | stuck => rw [e2] at h'; exact h'
          | ex x S1 => rw [e2] at h'; exact h'
          | ok ps S2 =>
            rw [e2] at h'
            intro vs H2 A2 s2 hS2 hrs
            refine h' (v :: vs) H2 A2 s2 hS2 ?_
            cases k with
            | true => exact .cons (Rb.stp s2 hr) hrs
            | false => exact RpL.cons (Rp.stp s2 _ _ hr) hrs
    · cases h
theorem listC_plain {f : Expr → Option C} (hs : ∀ e p, f (.Starred e p) = none) : ∀ {es : List Expr} {cs : Cs} {env : Env} {pos : Pos}, listC f es = some cs → (backTo pos (starEach es env)).any (·.1) = false
  | [], _, _, _, _ => rfl
  | e :: r, cs, env, pos, h => by
    unfold listC at h
    split at h
    · rename_i c cs' h1 h2
      cases h
      have ih := listC_plain hs (env := env) (pos := pos) h2
      cases e with
      | Starred e p => rw [hs] at h1; cases h1
      | _ => simpa [starEach, backTo] using ih
    · cases h
theorem listC_head {f : Expr → Option C} (hs : ∀ e p, f (.Starred e p) = none) {e : Expr} {r : List Expr} {cs : Cs} {env : Env} (h : listC f (e :: r) = some cs) : starEach (e :: r) env = (false, eval e env) :: starEach r env := by
  unfold listC at h
  split at h
  · rename_i c cs' h1 h2
    cases e with
    | Starred e p => rw [hs] at h1; cases h1
    | _ => rfl
  · cases h
theorem listC_tail {f : Expr → Option C} {e : Expr} {r : List Expr} {cs : Cs} (h : listC f (e :: r) = some cs) : ∃ cs', listC f r = some cs' := by
  unfold listC at h
  split at h
  · rename_i c cs' h1 h2
    exact ⟨cs', h2⟩
  · cases h
theorem listC_len {f : Expr → Option C} : ∀ {es : List Expr} {cs : Cs} {ρ : List Sl} {S S' : Sto} {vs : List PV}, listC f es = some cs → evs B cs ρ S = .ok vs S' → vs.length = es.length
  | [], _, _, _, _, _, h, e => by cases h; simp only [evs] at e; cases e; rfl
  | x :: r, _, ρ, S, S', vs, h, e => by
    unfold listC at h
    split at h
    · rename_i c cs' h1 h2
      cases h
      simp only [evs] at e
      cases e1 : ev B c ρ S with
      | ok p S1 =>
        rw [e1] at e
        cases e2 : evs B cs' ρ S1 with
        | ok ps S2 =>
          have e3 : R.ok (p :: ps) S2 = R.ok vs S' := by
            have e4 : ((evs B cs' ρ S1).bind fun vs S2 => R.ok (p :: vs) S2) = R.ok vs S' := e
            rw [e2] at e4
            exact e4
          cases e3
          simp [listC_len h2 e2]
        | ex x S2 =>
          have e4 : ((evs B cs' ρ S1).bind fun vs S2 => R.ok (p :: vs) S2) = R.ok vs S' := e
          rw [e2] at e4
          cases e4
        | stuck =>
          have e4 : ((evs B cs' ρ S1).bind fun vs S2 => R.ok (p :: vs) S2) = R.ok vs S' := e
          rw [e2] at e4
          cases e4
      | ex x S1 => rw [e1] at e; cases e
      | stuck => rw [e1] at e; cases e
    · cases h
end
end Ev

end -- EvG
section -- EvH
namespace Ev
open PySem PySem.Spec PyProof.Rows L2
section
variable {X : Cx} {tb : List (Addr × Str)} {P : CP} {B : Amb} {lv : Nat} {sc : Scope}
theorem small_line {n : Nat} (h : n ≤ 1000) : n ≤ sizeLine := by rw [sizeLine_eq]; omega
theorem de_tup {es : List Expr} {cs : Cs} {f : Expr → Option C} {n : Nat} {pos : Pos} (hl : listC f es = some cs) (hn : es.length ≤ 1000) (h : DA X tb es false (evs B cs)) : DE X tb (.Tuple es n pos) false (ev B (.tup cs)) := fun W tk =>
  pe_imp (pe_tup (h W tk)) fun σ H Q ⟨ρ, S, A, hρ, hS, h⟩ => by
    simp only [ev] at h
    refine tEs_bind (k' := false) hρ hS h fun ps S1 vs H1 A1 he s1 hS1 hρ1 hr h1 => ?_
    have hr : RpL X.K X.mg A1 H1 ps vs := hr
    refine ⟨by rw [hr.length, listC_len hl he]; exact small_line hn, fun p hp => ?_⟩
    exact Ans.tup (ans_of h1) hS1 hr p hp
theorem de_lstL {es : List Expr} {cs : Cs} {pos : Pos} (hl : ∀ {ρ S S' vs}, evs B cs ρ S = .ok vs S' → vs.length = es.length) (hn : es.length ≤ 1000) (h : DA X tb es false (evs B cs)) : DE X tb (.List es pos) false (ev B (.lst cs)) := fun W tk =>
  pe_imp (pe_fz (pe_lst (h W tk))) fun σ H Q ⟨ρ, S, A, hρ, hS, h⟩ => by
    simp only [ev] at h
    refine tEs_bind (k' := false) hρ hS h fun ps S1 vs H1 A1 he s1 hS1 hρ1 hr h1 => ?_
    have hr : RpL X.K X.mg A1 H1 ps vs := hr
    refine ⟨by rw [hr.length, hl he]; exact small_line hn, fun p hp => ?_⟩
    exact Ans.lst (ans_of h1) hS1 hr p hp
theorem de_lst {es : List Expr} {cs : Cs} {f : Expr → Option C} {pos : Pos} (hl : listC f es = some cs) (hn : es.length ≤ 1000) (h : DA X tb es false (evs B cs)) : DE X tb (.List es pos) false (ev B (.lst cs)) := de_lstL (fun h => listC_len hl h) hn h
theorem de_newc {es : List Expr} {cs : Cs} {f : Expr → Option C} {pos : Pos} (hl : listC f es = some cs) (hn : es.length ≤ 1000) (h : DA X tb es false (evs B cs)) : DE X tb (.List es pos) false (ev B (.newc cs)) := fun W tk =>
  pe_imp (pe_lst (h W tk)) fun σ H Q ⟨ρ, S, A, hρ, hS, h⟩ => by
    simp only [ev] at h
    refine tEs_bind (k' := false) hρ hS h fun ps S1 vs H1 A1 he s1 hS1 hρ1 hr h1 => ?_
    have hr : RpL X.K X.mg A1 H1 ps vs := hr
    refine ⟨by rw [hr.length, listC_len hl he]; exact small_line hn, fun p hp => ?_⟩
    refine h1 (.ref p) _ (A1 ++ [p]) (Stp.newc hp) (hS1.newc hp hr) (Rk.of ?_)
    simp only [Rp]
    exact ⟨p, by rw [← hS1.len]; simp, rfl⟩
/-- .. a list of one's own, not frozen yet -/
def tF (K : PySem.W.Frag) (mg : Str → Option Value) (tb : List (Addr × Str)) (W : WX) (d : List Sl → Sto → R PV) : TE := fun σ H Q => ∃ ρ S A, SlE K mg A H ρ σ ∧ SRep K mg tb A H S ∧ match d ρ S with
  | .ok p S' => ∀ xs, p = .lst xs → ∀ a vs H' A', Stp A H A' H' → SRep K mg tb A' H' S' → Fr H a → H' a = some (.lst vs) → a ∉ A' → RpL K mg A' H' xs vs → Q (.ref a) H'
  | .ex x S' => ∀ H' A' C dd, Stp A H A' H' → SRep K mg tb A' H' S' → mg x = some (.ref C) → dOk x dd → W (.ref C) dd σ H'
  | .stuck => False
def DF (X : Cx) (tb : List (Addr × Str)) (e : Expr) (d : List Sl → Sto → R PV) : Prop := ∀ W, L2N.Takes X W → PE X e (tF X.K X.mg tb W d)
theorem df_lst {es : List Expr} {cs : Cs} {f : Expr → Option C} {pos : Pos} (hl : listC f es = some cs) (hn : es.length ≤ 1000) (h : DA X tb es false (evs B cs)) : DF X tb (.List es pos) (ev B (.lst cs)) := fun W tk =>
  pe_imp (pe_lst (h W tk)) fun σ H Q ⟨ρ, S, A, hρ, hS, h⟩ => by
    simp only [ev] at h
    refine ⟨ρ, S, A, hρ, hS, ?_⟩
    cases e : evs B cs ρ S with
    | stuck => rw [e] at h; exact h
    | ex x S1 => rw [e] at h; exact h
    | ok ps S1 =>
      rw [e] at h
      intro vs H1 A1 s1 hS1 hr
      have hr : RpL X.K X.mg A1 H1 ps vs := hr
      refine ⟨by rw [hr.length, listC_len hl e]; exact small_line hn, fun p hp => ?_⟩
      have nA : p ∉ A1 := fun z => hS1.isin z hp
      exact h ps rfl p vs _ A1 (s1.trans (Stp.new hp)) (hS1.new hp) (s1.dom p (.inl hp)) upd_same nA (RpL.stp (Stp.new hp) _ _ hr)
def DO (X : Cx) (tb : List (Addr × Str)) (e : Option Expr) (d : List Sl → Sto → R (List PV)) : Prop := ∀ W, L2N.Takes X W → PO X e (fun σ H Q => tEs X.K X.mg tb W false d σ H fun vs H' => ∃ o, (vs = [] ∧ o = none ∨ ∃ i, vs = [.int i] ∧ o = some i) ∧ Q o H')
theorem snd_opt {f : Expr → Option C} (hf : ∀ e c, f e = some c → DE X tb e false (ev B c)) {e : Option Expr} {cs : Cs} (h : optC f e = some cs) : DO X tb e (evs B cs) := fun W tk => by
  cases e with
  | none =>
    cases h
    refine ⟨fun pins s σ H Q I q => ?_⟩
    obtain ⟨ρ, S, A, hρ, hS, h⟩ := q
    simp only [evs, REs] at h
    obtain ⟨o, ho, q⟩ := h [] H A (.refl _ _) hS (show RpL X.K X.mg A H [] [] from RpL.nil)
    rcases ho with ⟨_, rfl⟩ | ⟨i, z, _⟩
    · exact po_none.run pins s σ H Q I q
    · cases z
  | some e =>
    obtain ⟨c, hc, rfl⟩ := Option.map_eq_some_iff.mp h
    refine ⟨fun pins s σ H Q I q => ?_⟩
    refine (po_some (hf e c hc W tk)).run pins s σ H Q I ?_
    obtain ⟨ρ, S, A, hρ, hS, h⟩ := q
    simp only [evs] at h
    show tE X.K X.mg tb W false (ev B c) σ H fun x H1 => ∃ i, x = .int i ∧ Q (some i) H1
    refine ⟨ρ, S, A, hρ, hS, ?_⟩
    cases e1 : ev B c ρ S with
    | stuck => rw [e1] at h; exact h
    | ex x S1 => rw [e1] at h; exact h
    | ok p S1 =>
      rw [e1] at h
      intro v H' A' s hS' hr
      have h' : REs X.K X.mg tb W false A σ H (.ok [p] S1) _ := h
      obtain ⟨o, ho, q⟩ := h' [v] H' A' s hS' (show RpL X.K X.mg A' H' [p] [v] from RpL.cons hr RpL.nil)
      rcases ho with ⟨z, _⟩ | ⟨i, z, rfl⟩
      · cases z
      · cases z
        exact ⟨i, rfl, q⟩
theorem part_of {K : PySem.W.Frag} {mg : Str → Option Value} {A : List Addr} {H : Hp} {ps : List PV} {vs : List V} {o : Option Int} (h : partOf ps = some o) (r : RpL K mg A H ps vs) : vs = [] ∧ o = none ∨ ∃ i, vs = [.int i] ∧ o = some i := by
  unfold partOf at h
  split at h
  · cases h
    simp only [RpL] at r
    exact .inl ⟨r, rfl⟩
  · cases h
    simp only [RpL, Rp] at r
    obtain ⟨v, t, rfl, rfl, rfl⟩ := r
    exact .inr ⟨_, rfl, rfl⟩
  · cases h
theorem de_sl {e : Expr} {lo hi : Option Expr} {c : C} {l h' : Cs} {p2 pos : Pos} (he : DE X tb e true (ev B c)) (hl : DO X tb lo (evs B l)) (hh : DO X tb hi (evs B h')) : DE X tb (.Subscript e (.Slice lo hi none p2) pos) false (ev B (.sl c l h')) := fun W tk =>
  pe_imp (pe_slice o_sl (he W tk) (hl W tk) (hh W tk)) fun σ H Q ⟨ρ, S, A, hρ, hS, h⟩ => by
    simp only [ev] at h
    refine tE_bind hρ hS h fun x S1 x' H1 A1 _ s1 hS1 hρ1 rx h1 => ?_
    refine tEs_bind (k' := false) hρ1 hS1 h1 fun ps S2 vs H2 A2 _ s2 hS2 hρ2 r2 h2 => ?_
    have r2 : RpL X.K X.mg A2 H2 ps vs := r2
    unfold partK at h2
    split at h2
    · rename_i o1 e1
      refine ⟨o1, part_of e1 r2, ?_⟩
      refine tEs_bind (k' := false) hρ2 hS2 h2 fun qs S3 us H3 A3 _ s3 hS3 hρ3 r3 h3 => ?_
      have r3 : RpL X.K X.mg A3 H3 qs us := r3
      split at h3
      · rename_i o2 e2
        obtain ⟨p, e3, h3⟩ := re_of h3
        exact ⟨o2, part_of e2 r3, A3, S3, x, p, hS3, Rb.stp s3 (Rb.stp s2 rx), e3, ans_of h3⟩
      · exact h3.elim
    · exact h2.elim
theorem blt_read {W : WX} {b : Blt} {as : Cs} {σ : L2.St} {H : Hp} {Q : VK} (h : tE X.K X.mg tb W false (ev B (.blt b as)) σ H Q) : tCB (rC X.K X.mg tb (blt b)) (tEs X.K X.mg tb W true (evs B as)) σ H Q := by
  obtain ⟨ρ, S, A, hρ, hS, h⟩ := h
  simp only [ev] at h
  refine tEs_bind (k' := true) hρ hS h fun ps S1 vs H1 A1 _ s1 hS1 hρ1 r1 h1 => ?_
  have r1 : RbL X.K X.mg A1 H1 ps vs := r1
  obtain ⟨p, e, h1⟩ := re_of h1
  exact ⟨A1, S1, ps, p, hS1, r1, e, ans_of h1⟩
inductive BK where
  | fn (s : String)
  | ty (s : String)
def BK.val : BK → Value
  | .fn s => .builtin s
  | .ty s => .type s
def bltKind : Blt → BK
  | .abs => .fn "abs" | .all => .fn "all" | .bool => .ty "bool" | .int => .ty "int" | .len => .fn "len" | .list => .ty "list" | .max => .fn "max" | .min => .fn "min" | .str => .ty "str" | .sum => .fn "sum" | .tuple => .ty "tuple"
theorem b_all_ok (hc : X.calm = true) (b : Blt) : CallR X (bltKind b).val (rC X.K X.mg tb (blt b)) := by
  cases b with
  | abs => exact b_abs
  | all => exact b_all hc
  | bool => exact b_bool
  | int => exact b_int
  | len => exact b_len
  | list => exact b_list
  | max => exact b_max hc
  | min => exact b_min hc
  | str => exact b_str
  | sum => exact b_sum hc
  | tuple => exact b_tuple
theorem blt_boot : ∀ q ∈ blts, bootBuiltins q.1 = some (bltKind q.2).val ∧ q.1 ∈ freeNames := by
  have h : (blts.all fun q => decide (bootBuiltins q.1 = some (bltKind q.2).val ∧ q.1 ∈ freeNames)) = true := by decide +kernel
  intro q hq
  exact of_decide_eq_true (List.all_eq_true.mp h q hq)
theorem mem_lookup2 {α : Type} : ∀ {l : List (Str × α)} {x : Str} {v : α}, l.lookup x = some v → (x, v) ∈ l := PySem.mem_of_lookup
theorem de_blt (cx : Ctx X tb P B lv sc) {x : Str} {b : Blt} {args : List Expr} {as : Cs} {f : Expr → Option C} {p pos : Pos} (hn : okName x = true) (hg : isGlob sc x = true) (hb : blts.lookup x = some b) (hne : args ≠ [])
    (hl : listC f args = some as) (hs : ∀ e p, f (.Starred e p) = none) (h : DA X tb args true (evs B as)) : DE X tb (.Call (.Name x p) args [] pos) false (ev B (.blt b as)) := fun W tk => by
  have hm := PySem.mem_of_lookup hb
  obtain ⟨h1, h2⟩ := blt_boot _ hm
  cases args with
  | nil => exact absurd rfl hne
  | cons e es =>
    have c := b_all_ok (X := X) (tb := tb) cx.calm b
    obtain ⟨cs', hcs⟩ := listC_tail hl
    cases hk : bltKind b with
    | fn s =>
      rw [hk] at c h1
      exact pe_imp (pe_callB c (cx.gl hg) (cx.fx.free x h2) h1 (h W tk) (okName_3 hn) (okName_1 hn) (listC_head hs hl) (listC_plain hs hcs)) fun σ H Q q => blt_read q
    | ty s =>
      rw [hk] at c h1
      exact pe_imp (pe_callTy c (cx.gl hg) (cx.fx.free x h2) h1 (h W tk) (okName_3 hn) (okName_1 hn) (listC_head hs hl) (listC_plain hs hcs)) fun σ H Q q => blt_read q
theorem ty_boot : ∀ q ∈ tyNames, bootBuiltins q.1 = some (.type q.2) ∧ q.1 ∈ freeNames ∧ q.2 ∈ ["int", "bool", "str", "tuple", "list"] := by
  have h : (tyNames.all fun q => decide (bootBuiltins q.1 = some (.type q.2) ∧ q.1 ∈ freeNames ∧ q.2 ∈ ["int", "bool", "str", "tuple", "list"])) = true := by decide +kernel
  intro q hq
  exact of_decide_eq_true (List.all_eq_true.mp h q hq)
theorem boot_isi : bootBuiltins "isinstance" = some (.builtin "isinstance") := by decide +kernel
def rIs (K : PySem.W.Frag) (mg : Str → Option Value) (tb : List (Addr × Str)) (t : String) : List V → Hp → VK → Prop := fun xs H Q => ∃ A S p b v, SRep K mg tb A H S ∧ xs = [v, .ty t] ∧ Rb K mg A H p v ∧ isiN t p = some b ∧ Ans K mg tb A H S (.bl b) Q
theorem cr_is {t : String} (ht : t ∈ ["int", "bool", "str", "tuple", "list"]) : CallR X (.builtin "isinstance") (rIs X.K X.mg tb t) := by
  intro pins s σ H xs us Q I r h
  obtain ⟨A, S, p, b, v, hS, rfl, hr, e, q⟩ := h
  obtain ⟨u1, u2, rfl, r1, r2⟩ := vals2 r
  cases r2
  exact b_isi ht I r1 hS hr e q
theorem de_isi (cx : Ctx X tb P B lv sc) {x y : Str} {t : String} {a : Expr} {c : C} {p py pos : Pos} (hx : x = ("isinstance" : Str)) (hn : okName x = true) (hg : isGlob sc x = true) (hny : okName y = true) (hgy : isGlob sc y = true) (ht : tyNames.lookup y = some t)
    (hst : ∀ e p, a ≠ .Starred e p) (h : DE X tb a true (ev B c)) : DE X tb (.Call (.Name x p) [a, .Name y py] [] pos) false (ev B (.isi t c)) := fun W tk => by
  obtain ⟨h1, h2, h3⟩ := ty_boot _ (PySem.mem_of_lookup ht)
  have hfx : x ∈ freeNames := by rw [hx]; decide +kernel
  have hbx : bootBuiltins x = some (.builtin "isinstance") := by rw [hx]; exact boot_isi
  have pt : PE X (.Name y py) (tC (.ty t)) := pe_bltn (cx.gl hgy) (cx.fx.free y h2) h1 rfl (okName_3 hny) (okName_1 hny)
  have hstar : starEach [a, .Name y py] X.env = (false, eval a X.env) :: starEach [.Name y py] X.env := by
    cases a with
    | Starred e p => exact absurd rfl (hst e p)
    | _ => rfl
  refine pe_imp (pe_callB (cr_is (tb := tb) (t := t) h3) (cx.gl hg) (cx.fx.free x hfx) hbx (pa_cons (h W tk) (pa_cons pt pa_nil) hstar) (okName_3 hn) (okName_1 hn) hstar rfl) fun σ H Q ⟨ρ, S, A, hρ, hS, h⟩ => ?_
  simp only [ev] at h
  show tE X.K X.mg tb W true (ev B c) σ H fun x H1 => rIs X.K X.mg tb t [x, .ty t] H1 Q
  refine tE_bind hρ hS h fun q S1 v H1 A1 _ s1 hS1 hρ1 r1 h1 => ?_
  obtain ⟨r, e, h1⟩ := re_of h1
  obtain ⟨b, e', rfl⟩ := Option.map_eq_some_iff.mp e
  exact ⟨A1, S1, q, b, v, hS1, rfl, r1, e', ans_of h1⟩
theorem call_read {W : WX} {f : Fn} {x : Str} {n : Nat} {as : Cs} {es : List Expr} {g : Expr → Option C} {σ : L2.St} {H : Hp} {Q : VK} (hl : listC g es = some as) (hn : es.length = n) (h : tE X.K X.mg tb W false (ev B (.call f x as)) σ H Q) :
    tCallS (spF X.K X.mg tb n f) (WE W) (tEs X.K X.mg tb W false (evs B as)) σ H Q := by
  obtain ⟨ρ, S, A, hρ, hS, h⟩ := h
  simp only [ev] at h
  refine tEs_bind (k' := false) hρ hS h fun ps S1 vs H1 A1 he s1 hS1 hρ1 r1 h1 => ?_
  have r1 : RpL X.K X.mg A1 H1 ps vs := r1
  refine ⟨by rw [r1.length, listC_len hl he, hn], ps, S1, A1, r1, hS1, ?_⟩
  cases e : f ps S1 with
  | ok p S2 => rw [e] at h1; exact h1
  | ex y S2 => rw [e] at h1; exact h1
  | stuck => rw [e] at h1; exact h1
theorem de_call (cx : Ctx X tb P B lv sc) {x : Str} {n : Nat} {fn : Fn} {args : List Expr} {as : Cs} {f : Expr → Option C} {p pos : Pos} (hn : okName x = true) (hg : isGlob sc x = true) (hb : P.Φ.lookup x = some (n, fn)) (hlen : args.length = n)
    (hl : listC f args = some as) (hs : ∀ e p, f (.Starred e p) = none) (h : DA X tb args false (evs B as)) : DE X tb (.Call (.Name x p) args [] pos) false (ev B (.call fn x as)) := fun W tk => by
  obtain ⟨a, fd, ps, h1, h2, h3, h4⟩ := cx.fx.fns x n fn hb
  cases args with
  | nil =>
    refine ⟨fun pins s σ H Q I q => ?_⟩
    cases hl
    have q' := call_read (g := f) (es := []) rfl hlen q
    refine wpAny_Call_Name_kw (ld_glob I (cx.gl hg) h1 ?_ (okName_1 hn))
    refine PySem.W.callWith_K0 I.kIn h2 (run_fnS h3 cx.room h4 (L2N.passAt tk σ) I .nil ?_)
    obtain ⟨ρ, S, A, hρ, hS, q'⟩ := q'
    exact q' [] H A (.refl _ _) hS (show RpL X.K X.mg A H [] [] from RpL.nil)
  | cons e es =>
    obtain ⟨cs', hcs⟩ := listC_tail hl
    exact pe_imp (pe_callS h3 cx.room (cx.gl hg) h1 h2 h4 (E := WE W) (L2N.passAt tk) (h W tk) (okName_1 hn) (listC_head hs hl) (listC_plain hs hcs)) fun σ H Q q => call_read hl hlen q
/-- a local name that holds a def -/
theorem de_callv (cx : Ctx X tb P B lv sc) {x : Str} {i : Nat} {args : List Expr} {as : Cs} {f : Expr → Option C} {p pos : Pos} (hn : okName x = true) (hv : isVis sc x = true) (hi : ixOf P.N x = some i) (hne : args ≠ [])
    (hl : listC f args = some as) (hs : ∀ e p, f (.Starred e p) = none) (h : DA X tb args false (evs B as)) : DE X tb (.Call (.Name x p) args [] pos) false (ev B (.callv i as)) := fun W tk => by
  cases args with
  | nil => exact absurd rfl hne
  | cons e es =>
    obtain ⟨cs', hcs⟩ := listC_tail hl
    refine ⟨fun pins s σ H Q I q => ?_⟩
    obtain ⟨ρ, S, A, hρ, hS, q⟩ := q
    simp only [ev] at q
    split at q
    · rename_i y hy
      obtain ⟨v, e1, e2⟩ := hρ.var hy
      simp only [Rp] at e2
      obtain ⟨a, hm, rfl⟩ := e2
      split at q
      · rename_i n g hg
        obtain ⟨a', fd, ps, h1, h2, h3, h4⟩ := cx.fx.dyn y n g hg
        rw [hm] at h1
        cases h1
        refine wpAny_Call_Name_kw (thn ((pe_var (pos := p) (i := i) (by rw [cx.N]; exact ixOf_some hi) (by rw [cx.sc]; exact isVis_vis hv) (okName_1 hn) (okName_2 hn)).run pins s σ H (fun v H1 => v = .ref a ∧ H1 = H) I ⟨.ref a, e1, rfl, rfl⟩) fun u s1 ⟨v, H1, I1, r1, q1⟩ => ?_)
        obtain ⟨ev1, eH⟩ := q1
        subst ev1
        rw [eH] at I1
        cases r1
        refine PySem.W.callWith_K (h₀ := X.base) I1.ok.mod.kin h2 (thn ((h W tk).run pos pins s1 σ _ _ I1 (tEs_bind (k' := false) (Q1 := fun vs H1 => spF X.K X.mg tb n g vs H1 Q (WE W σ)) hρ hS q fun ps S1 vs H2 A1 he s1 hS1 hρ1 r1 h1 => ?_)) fun us s2 ⟨vs, H2, I2, r, q⟩ => ⟨I2.kIn, ?_⟩) (listC_head hs hl) (listC_plain hs hcs)
        · have r1 : RpL X.K X.mg A1 H2 ps vs := r1
          split at h1
          · rename_i hz
            refine ⟨by rw [r1.length, hz], ps, S1, A1, r1, hS1, ?_⟩
            cases e : g ps S1 with
            | ok p S2 => rw [e] at h1; exact h1
            | ex y S2 => rw [e] at h1; exact h1
            | stuck => rw [e] at h1; exact h1
          · exact h1.elim
        · exact run_fnS h3 cx.room h4 (L2N.passAt tk σ) I2 r q
      · exact q.elim
    · exact q.elim
theorem rpl_ints {K : PySem.W.Frag} {mg : Str → Option Value} {A : List Addr} {H : Hp} {a : Int} : ∀ l : List Nat, RpL K mg A H (l.map fun (i : Nat) => .int (a + i)) (l.map fun (i : Nat) => V.int (a + i))
  | [] => RpL.nil
  | i :: r => RpL.cons rp_int (rpl_ints r)
theorem rngT_some {t : Bool} {vs : List PV} {p : PV} (h : rngT t vs = some p) : ∃ (a b : Int), ((vs = [.int b] ∧ a = 0) ∨ vs = [.int a, .int b]) ∧ RgOk a b ∧ p = (if t = true then .tup ((List.range (b - a).toNat).map fun (i : Nat) => .int (a + i)) else .lst ((List.range (b - a).toNat).map fun (i : Nat) => .int (a + i))) := by
  unfold rngT at h
  split at h
  · rename_i xs hx
    split at h
    · rename_i hl
      cases h
      unfold rngV at hx
      split at hx
      · split at hx
        · rename_i n hn
          cases hx
          unfold rngOk at hn
          simp only [Bool.and_eq_true, decide_eq_true_eq] at hn
          refine ⟨0, _, .inl ⟨rfl, rfl⟩, ⟨by omega, by omega, by omega, by omega, ?_⟩, by simp⟩
          simp [lim] at hl
          omega
        · cases hx
      · split at hx
        · rename_i hn
          cases hx
          obtain ⟨h1, h2⟩ := hn
          unfold rngOk at h1 h2
          simp only [Bool.and_eq_true, decide_eq_true_eq] at h1 h2
          refine ⟨_, _, .inr rfl, ⟨by omega, by omega, by omega, by omega, ?_⟩, rfl⟩
          simp [lim] at hl
          omega
        · cases hx
      · cases hx
    · cases h
  · cases h
theorem rg_fin {t : Bool} {W : WX} {A : List Addr} {σ : L2.St} {H : Hp} {S : Sto} {Q : VK} {a b : Int} (hS : SRep X.K X.mg tb A H S)
    (q : ∀ v H' A', Stp A H A' H' → SRep X.K X.mg tb A' H' S → Rk false X.K X.mg A' H' (if t = true then .tup ((List.range (b - a).toNat).map fun (i : Nat) => PV.int (a + i)) else .lst ((List.range (b - a).toNat).map fun (i : Nat) => PV.int (a + i))) v → Q v H') :
    ∀ p, H p = none → if t = true then Q (.ref p) (upd H p (.tup (rgV a b))) else Fz Q (.ref p) (upd H p (.lst (rgV a b))) := fun p hp => by
  cases t with
  | true =>
    rw [if_pos rfl]
    refine Ans.tup (xs := (List.range (b - a).toNat).map fun (i : Nat) => PV.int (a + i)) (fun v H' s hS r => q v H' A s hS (Rk.of (by rw [if_pos rfl]; exact r))) hS (rpl_ints _) p hp
  | false =>
    rw [if_neg (by simp)]
    refine Ans.lst (xs := (List.range (b - a).toNat).map fun (i : Nat) => PV.int (a + i)) (fun v H' s hS r => q v H' A s hS (Rk.of (by rw [if_neg (by simp)]; exact r))) hS (rpl_ints _) p hp
/-- the parts of a range, then its bounds -/
theorem rg_read1 {t : Bool} {W : WX} {c : C} {σ : L2.St} {H : Hp} {Q : VK} (h : tE X.K X.mg tb W false (ev B (.rngv t (.cons c .nil))) σ H Q) :
    tRg1 (tE X.K X.mg tb W false (ev B c)) σ H fun a b H1 => RgOk a b ∧ ∀ p, H1 p = none → if t = true then Q (.ref p) (upd H1 p (.tup (rgV a b))) else Fz Q (.ref p) (upd H1 p (.lst (rgV a b))) := by
  obtain ⟨ρ, S, A, hρ, hS, h⟩ := h
  simp only [ev, evs] at h
  refine ⟨ρ, S, A, hρ, hS, ?_⟩
  cases e : ev B c ρ S with
  | stuck => rw [e] at h; exact h
  | ex x S1 => rw [e] at h; exact h
  | ok p S1 =>
    rw [e] at h
    intro v H' A' s hS' hr
    have hr : Rp X.K X.mg A' H' p v := hr
    obtain ⟨pv, e1, q⟩ := re_of (RE.mono s (show RE X.K X.mg tb W false A σ H (.of (rngT t [p]) S1) Q from h))
    obtain ⟨a, b, hv, ok, rfl⟩ := rngT_some e1
    rcases hv with ⟨hv, rfl⟩ | hv
    · cases hv
      exact ⟨b, by simpa [Rp] using hr, ok, rg_fin (W := W) (σ := σ) hS' q⟩
    · cases hv
theorem rg_read2 {t : Bool} {W : WX} {c d : C} {σ : L2.St} {H : Hp} {Q : VK} (h : tE X.K X.mg tb W false (ev B (.rngv t (.cons c (.cons d .nil)))) σ H Q) :
    tRg2 (tE X.K X.mg tb W false (ev B c)) (tE X.K X.mg tb W false (ev B d)) σ H fun a b H1 => RgOk a b ∧ ∀ p, H1 p = none → if t = true then Q (.ref p) (upd H1 p (.tup (rgV a b))) else Fz Q (.ref p) (upd H1 p (.lst (rgV a b))) := by
  obtain ⟨ρ, S, A, hρ, hS, h⟩ := h
  simp only [ev, evs] at h
  refine ⟨ρ, S, A, hρ, hS, ?_⟩
  cases e : ev B c ρ S with
  | stuck => rw [e] at h; exact h
  | ex x S1 => rw [e] at h; exact h
  | ok p S1 =>
    rw [e] at h
    intro v H' A' s hS' hr
    have hr : Rp X.K X.mg A' H' p v := hr
    refine ⟨ρ, S1, A', hρ.stp s, hS', ?_⟩
    cases e' : ev B d ρ S1 with
    | stuck => simp only [R.bind, e'] at h; exact h
    | ex x S1 =>
      simp only [R.bind, e'] at h
      exact fun H2 A2 C dd s2 => h H2 A2 C dd (s.trans s2)
    | ok p2 S2 =>
      simp only [R.bind, e'] at h
      intro v2 H2 A2 s2 hS2 hr2
      have hr2 : Rp X.K X.mg A2 H2 p2 v2 := hr2
      obtain ⟨pv, e1, q⟩ := re_of (RE.mono (s.trans s2) h)
      obtain ⟨a, b, hv, ok, rfl⟩ := rngT_some e1
      rcases hv with ⟨hv, _⟩ | hv
      · cases hv
      · cases hv
        exact ⟨a, b, by simpa [Rp] using hr, by simpa [Rp] using hr2, ok, rg_fin (W := W) (σ := σ) hS2 q⟩
theorem boot_tl : bootBuiltins "tuple" = some (.type "tuple") ∧ bootBuiltins "list" = some (.type "list") := by decide +kernel
theorem de_rngv (cx : Ctx X tb P B lv sc) {x : Str} {t : Bool} {args as : List Expr} {cs : Cs} {f : Expr → Option C} {p pos : Pos} (hf : ∀ e c, f e = some c → DE X tb e false (ev B c)) (hs : ∀ e p, f (.Starred e p) = none) (hn : okName x = true) (hg : isGlob sc x = true) (hr : rngArg sc x args = some (t, as)) (hl : listC f as = some cs) :
    DE X tb (.Call (.Name x p) args [] pos) false (ev B (.rngv t cs)) := fun W tk => by
  unfold rngArg at hr
  split at hr
  · rename_i r pr as' pc
    split at hr
    · rename_i hh
      obtain ⟨rfl, hr1, hr2, hlen⟩ := hh
      have fr : X.mg "range" = none := cx.fx.free _ (by decide +kernel)
      have key : ∀ as2, as2 = as' → listC f as2 = some cs → ∀ t', ∃ te, PRg X (.Call (.Name "range" pr) as' [] pc) te ∧ ∀ σ H Q, tE X.K X.mg tb W false (ev B (.rngv t' cs)) σ H Q → te σ H fun a b H1 => RgOk a b ∧ ∀ p, H1 p = none → if t' = true then Q (.ref p) (upd H1 p (.tup (rgV a b))) else Fz Q (.ref p) (upd H1 p (.lst (rgV a b))) := by
        intro as2 e2 hl t'
        subst e2
        rcases hlen with hlen | hlen
        · obtain ⟨a, rfl⟩ := List.length_eq_one_iff.mp hlen
          unfold listC at hl
          split at hl
          · rename_i c1 c2 h1 h2
            cases hl
            cases h2
            exact ⟨_, prg_1 (cx.gl hr2) fr (hf _ _ h1 W tk) (listC_head (f := f) (cs := .cons c1 .nil) hs (by unfold listC; rw [h1]; rfl)), fun σ H Q q => rg_read1 q⟩
          · cases hl
        · obtain ⟨a, b, rfl⟩ : ∃ a b, as2 = [a, b] := match as2, hlen with
            | [a, b], _ => ⟨a, b, rfl⟩
          obtain ⟨cs2, h2⟩ := listC_tail hl
          have na := listC_head (env := X.env) hs hl
          have nb := listC_head (env := X.env) hs h2
          have np := listC_plain (env := X.env) (pos := pc) hs h2
          unfold listC at hl
          split at hl
          · rename_i c1 c2 h1 h3
            cases hl
            unfold listC at h3
            split at h3
            · rename_i d1 d2 h4 h5
              cases h3
              cases h5
              exact ⟨_, prg_2 (cx.gl hr2) fr (hf _ _ h1 W tk) (hf _ _ h4 W tk) na nb np, fun σ H Q q => rg_read2 q⟩
            · cases h3
          · cases hl
      split at hr
      · rename_i hx
        cases hr
        subst hx
        obtain ⟨te, h1, h2⟩ := key as rfl hl true
        refine pe_imp (pe_tupRg cx.calm (cx.gl hg) (cx.fx.free _ (by decide +kernel)) h1 rfl) fun σ H Q q => ?_
        have := h2 σ H Q q
        simp only [if_true] at this
        exact this
      · split at hr
        · rename_i hx
          cases hr
          subst hx
          obtain ⟨te, h1, h2⟩ := key as rfl hl false
          refine pe_imp (pe_fz (pe_listRg cx.calm (cx.gl hg) (cx.fx.free _ (by decide +kernel)) h1 rfl)) fun σ H Q q => ?_
          have := h2 σ H Q q
          simp only [Bool.false_eq_true, if_false] at this
          exact this
        · cases hr
    · cases hr
  · cases hr
end
end Ev

end -- EvH
section -- EvI
namespace Ev
open PySem PySem.Spec PyProof.Rows L2
section
variable (K : PySem.W.Frag) (mg : Str → Option Value) (tb : List (Addr × Str)) (W : WX)
/-- J walks xs, from (A1, H1) on -/
def Wk (J : It) (A1 : List Addr) (H1 : Hp) (xs : List PV) : Prop := ∃ (G : Hp → Prop) (Y : Nat → Hp → V → Hp → Prop), Walk J xs.length G Y ∧
  (∀ A2 H2, Kp A1 H1 A2 H2 → G H2) ∧
  ∀ i H2 v H3 A2 S2, i < xs.length → Kp A1 H1 A2 H2 → SRep K mg tb A2 H2 S2 → Y i H2 v H3 → ∃ p, xs[i]? = some p ∧ Stp A2 H2 A2 H3 ∧ SRep K mg tb A2 H3 S2 ∧ Rp K mg A2 H3 p v
def iE (B : Amb) (k : IK) (as : Cs) : TI := fun σ H R => ∃ ρ S A, SlE K mg A H ρ σ ∧ SRep K mg tb A H S ∧ match evs B as ρ S with
  | .ok vs S1 => (match items k vs with
    | some xs => ∀ J H1 A1, Stp A H A1 H1 → SRep K mg tb A1 H1 S1 → Wk K mg tb J A1 H1 xs → R J H1
    | none => False)
  | .ex x S1 => ∀ H' A' C dd, Stp A H A' H' → SRep K mg tb A' H' S1 → mg x = some (.ref C) → dOk x dd → W (.ref C) dd σ H'
  | .stuck => False
end
def DI (X : Cx) (tb : List (Addr × Str)) (tg iter : Expr) (B : Amb) (k : IK) (as : Cs) : Prop := ∀ W, L2N.Takes X W → PI X tg iter (iE X.K X.mg tb W B k as)
theorem pi_imp {X : Cx} {tg it : Expr} {t t' : TI} (h : PI X tg it t) (f : ∀ σ H R, t' σ H R → t σ H R) : PI X tg it t' := ⟨fun pins s σ H R I q => h.run pins s σ H R I (f σ H R q)⟩
section
variable {X : Cx} {tb : List (Addr × Str)} {P : CP} {B : Amb} {lv : Nat} {sc : Scope} {tg : Expr}
/-- a list, a tuple or a text: as it comes -/
theorem pi_any {l : Expr} {tl : TE} (hl : PE X l tl) : PI X tg l (fun σ H R => tl σ H fun x H1 => (∃ a, x = .ref a ∧ (∃ xs, SqL X.K H1 a xs) ∧ R (Itl X.K a) H1) ∨ (∃ a, x = .ref a ∧ (∃ xs, SqT X.K H1 a xs) ∧ R (Itt X.K a) H1) ∨ ∃ z, x = .str z ∧ R (Its z) H1) := by
  refine ⟨fun pins s σ H R I h => ?_⟩
  refine thn (hl.run pins s σ H _ I h) fun v s1 ⟨x, H1, I1, r1, q1⟩ => ?_
  rcases q1 with ⟨a, rfl, ⟨xs, hq⟩, q⟩ | ⟨a, rfl, ⟨xs, hq⟩, q⟩ | ⟨z, rfl, q⟩
  · cases r1
    obtain ⟨its, rv, p, hz⟩ := I1.list hq
    refine wpAny_pyIter_list p.isList ?_
    refine ⟨s1.heap.objs.size, [s1.heap.objs.size], _, _, H1, rfl, I1.kept (t' := s1.toks) fun b o e => Heap.get?_push_of_some _ e, turn_list a _, ⟨_, Heap.get?_push_size _ rfl, rfl, rfl⟩, fun b hb => ?_, q⟩
    have e : b = s1.heap.objs.size := by simpa using hb
    subst e
    exact I1.fpOk (Nat.le_refl _) (I1.hok.fresh (Nat.le_refl _))
  · cases r1
    obtain ⟨its, rv, p, hz⟩ := I1.tuple hq
    refine wpAny_pyIter_tuple (show s1.heap.IsTuple a its.toArray from p) ?_
    refine ⟨s1.heap.objs.size, [s1.heap.objs.size], _, _, H1, rfl, I1.kept (t' := s1.toks) fun b o e => Heap.get?_push_of_some _ e, turn_tuple a _, ⟨_, Heap.get?_push_size _ rfl, rfl, rfl⟩, fun b hb => ?_, q⟩
    have e : b = s1.heap.objs.size := by simpa using hb
    subst e
    exact I1.fpOk (Nat.le_refl _) (I1.hok.fresh (Nat.le_refl _))
  · obtain ⟨t, rfl⟩ := r1
    cases ha : z.cps.all (· < 128)
    · exact wpAny_pyIter_wide ha (pi_one (tk := s1.toks) I1 _ (turn_str _ z t "str_iterator" (.inr rfl)) ⟨_, Heap.get?_push_size _ rfl, rfl, rfl⟩ q)
    · exact wpAny_pyIter_ascii ha (pi_one (tk := s1.toks) I1 _ (turn_str _ z t "str_ascii_iterator" (.inl rfl)) ⟨_, Heap.get?_push_size _ rfl, rfl, rfl⟩ q)
section
variable {K : PySem.W.Frag} {mg : Str → Option Value} {A1 : List Addr} {H1 : Hp}
theorem wk_at {J : It} {G : Hp → Prop} {vs : List V} {xs : List PV} (w : Walk J vs.length G (YAt vs)) (hG : ∀ A2 H2, Kp A1 H1 A2 H2 → G H2) (r : RpL K mg A1 H1 xs vs) : Wk K mg tb J A1 H1 xs := by
  refine ⟨G, YAt vs, by rw [← r.length]; exact w, hG, fun i H2 v H3 A2 S2 hi k hS y => ?_⟩
  obtain ⟨rfl, hy⟩ := y
  have hp : xs[i]? = some xs[i] := List.getElem?_eq_getElem hi
  obtain ⟨v', e, h⟩ := r.get hp
  rw [hy] at e
  cases e
  exact ⟨_, hp, .refl _ _, hS, Rp.kp k _ _ h⟩
theorem wk_scr {J : It} {G : Hp → Prop} {ns : List Int} (w : Walk J (ns.map V.int).length G (YAt (ns.map V.int))) (hG : ∀ A2 H2, Kp A1 H1 A2 H2 → G H2) : Wk K mg tb J A1 H1 (ns.map .int) := by
  refine ⟨G, _, by simpa using w, hG, fun i H2 v H3 A2 S2 hi k hS y => ?_⟩
  obtain ⟨rfl, hy⟩ := y
  rw [List.getElem?_map] at hy
  obtain ⟨n, e, rfl⟩ := Option.map_eq_some_iff.mp hy
  exact ⟨.int n, by rw [List.getElem?_map, e]; rfl, .refl _ _, hS, rp_int⟩
theorem wk_range {a : Int} {n : Nat} : Wk K mg tb (Itr a n) A1 H1 ((List.range n).map fun (i : Nat) => .int (a + i)) := by
  refine ⟨_, _, by simpa using (walk_range (lo := a) (n := n)), fun _ _ _ => trivial, fun i H2 v H3 A2 S2 hi k hS y => ?_⟩
  obtain ⟨rfl, rfl⟩ := y
  have hi : i < n := by simpa using hi
  exact ⟨.int (a + i), by simp [hi], .refl _ _, hS, rp_int⟩
theorem wk_str {z : Str} : Wk K mg tb (Its z) A1 H1 (z.cps.toList.map fun c => .str ⟨#[c]⟩) := by
  refine ⟨_, _, by simpa using (walk_str (z := z)), fun _ _ _ => trivial, fun i H2 v H3 A2 S2 hi k hS y => ?_⟩
  obtain ⟨rfl, c, hc, rfl⟩ := y
  exact ⟨.str ⟨#[c]⟩, by rw [List.getElem?_map, Array.getElem?_toList, hc]; rfl, .refl _ _, hS, rp_str⟩
/-- pairs, newly laid -/
theorem wk_pair {J : It} {n : Nat} {G : Hp → Prop} {f g : Nat → Option V} {xs : List PV} (w : Walk J n G (YPair f g)) (hn : xs.length = n) (hG : ∀ A2 H2, Kp A1 H1 A2 H2 → G H2)
    (h : ∀ i x y, i < n → f i = some x → g i = some y → ∃ p q, xs[i]? = some (.tup [p, q]) ∧ Rp K mg A1 H1 p x ∧ Rp K mg A1 H1 q y) : Wk K mg tb J A1 H1 xs := by
  refine ⟨G, _, by rw [hn]; exact w, hG, fun i H2 v H3 A2 S2 hi k hS y => ?_⟩
  obtain ⟨T, x, y, rfl, hT, rfl, hf, hg⟩ := y
  obtain ⟨p, q, e, h1, h2⟩ := h i x y (by omega) hf hg
  have s : Stp A2 H2 A2 (upd H2 T (.tup [x, y])) := Stp.new hT
  refine ⟨_, e, s, hS.new hT, ?_⟩
  simp only [Rp]
  exact ⟨T, [x, y], rfl, SqT.of upd_same, RpL.cons (Rp.stp s _ _ (Rp.kp k _ _ h1)) (RpL.cons (Rp.stp s _ _ (Rp.kp k _ _ h2)) RpL.nil)⟩
end
theorem wk_zip {K : PySem.W.Frag} {mg : Str → Option Value} {A1 : List Addr} {H1 : Hp} {J : It} {G : Hp → Prop} {vs us : List V} {xs ys : List PV} (w : Walk J (min vs.length us.length) G (YPair (fun i => vs[i]?) fun i => us[i]?)) (hG : ∀ A2 H2, Kp A1 H1 A2 H2 → G H2)
    (r : RpL K mg A1 H1 xs vs) (t : RpL K mg A1 H1 ys us) : Wk K mg tb J A1 H1 (List.zipWith (fun x y => .tup [x, y]) xs ys) := by
  refine wk_pair w (by rw [List.length_zipWith, r.length, t.length]) hG fun i x y hi hf hg => ?_
  have h1 : i < xs.length := by rw [← r.length]; omega
  have h2 : i < ys.length := by rw [← t.length]; omega
  have e1 : xs[i]? = some xs[i] := List.getElem?_eq_getElem h1
  have e2 : ys[i]? = some ys[i] := List.getElem?_eq_getElem h2
  obtain ⟨v, q1, q2⟩ := r.get e1
  obtain ⟨u, q3, q4⟩ := t.get e2
  rw [hf] at q1
  rw [hg] at q3
  cases q1
  cases q3
  exact ⟨_, _, by rw [List.getElem?_zipWith, e1, e2], q2, q4⟩
theorem walk_zipT {K : PySem.W.Frag} {a b : Addr} {xs ys : List V} : Walk (RZ.ItzT K a b) (min xs.length ys.length) (fun H => SqT K H a xs ∧ SqT K H b ys) (YPair (fun i => xs[i]?) (fun i => ys[i]?)) := by
  refine ⟨fun i _ hi q => ?_, fun _ q => ⟨xs, ys, q.1, q.2, by omega⟩, fun i H v H' _ q y => ?_⟩
  · have h1 : i < xs.length := by omega
    have h2 : i < ys.length := by omega
    exact ⟨xs, ys, xs[i], ys[i], q.1, q.2, by simp [h1], by simp [h2]⟩
  · obtain ⟨T, x, z, h1, h2, h3, h4, h5⟩ := y
    exact ⟨T, x, z, h1, h2, h3, h4 xs q.1, h5 ys q.2⟩
/-- one value -/
theorem rpl1 {K : PySem.W.Frag} {mg : Str → Option Value} {A : List Addr} {H : Hp} {p : PV} {vs : List V} (h : RpL K mg A H [p] vs) : ∃ v, vs = [v] ∧ Rp K mg A H p v := by
  simp only [RpL] at h
  obtain ⟨v, r, rfl, h1, rfl⟩ := h
  exact ⟨v, rfl, h1⟩
theorem rpl2 {K : PySem.W.Frag} {mg : Str → Option Value} {A : List Addr} {H : Hp} {p q : PV} {vs : List V} (h : RpL K mg A H [p, q] vs) : ∃ v u, vs = [v, u] ∧ Rp K mg A H p v ∧ Rp K mg A H q u := by
  simp only [RpL] at h
  obtain ⟨v, r, rfl, h1, u, r2, rfl, h2, rfl⟩ := h
  exact ⟨v, u, rfl, h1, h2⟩
/-- the source's parts, then the walk -/
theorem iE_bind {W : WX} {k : IK} {as : Cs} {σ : L2.St} {H : Hp} {R : It → Hp → Prop} {Q1 : List V → Hp → Prop} (h : iE X.K X.mg tb W B k as σ H R)
    (f : ∀ ps xs vs A1 H1 S1, (∃ ρ S, evs B as ρ S = .ok ps S1) → items k ps = some xs → SRep X.K X.mg tb A1 H1 S1 → RpL X.K X.mg A1 H1 ps vs → (∀ J, Wk X.K X.mg tb J A1 H1 xs → R J H1) → Q1 vs H1) : tEs X.K X.mg tb W false (evs B as) σ H Q1 := by
  obtain ⟨ρ, S, A, hρ, hS, h⟩ := h
  refine ⟨ρ, S, A, hρ, hS, ?_⟩
  cases e : evs B as ρ S with
  | stuck => rw [e] at h; exact h
  | ex x S1 => rw [e] at h; exact h
  | ok ps S1 =>
    rw [e] at h
    simp only at h
    split at h
    · rename_i xs hx
      exact fun vs H1 A1 s1 hS1 hr => f ps xs vs A1 H1 S1 ⟨ρ, S, e⟩ hx hS1 hr fun J w => h J H1 A1 s1 hS1 w
    · exact h.elim
theorem rngOk_of {i : Int} (h : rngOk i = true) : -(2 ^ 62) ≤ i ∧ i < 2 ^ 62 := by
  unfold rngOk at h
  simp only [Bool.and_eq_true, decide_eq_true_eq] at h
  omega
theorem frz_items {p : PV} {v : V} {xs : List PV} {A1 : List Addr} {H1 : Hp} {R : It → Hp → Prop} (r : Rp X.K X.mg A1 H1 p v) (e : frzOf p = some xs) (q : ∀ J, Wk X.K X.mg tb J A1 H1 xs → R J H1) :
    (∃ a, v = .ref a ∧ (∃ xs, SqL X.K H1 a xs) ∧ R (Itl X.K a) H1) ∨ (∃ a, v = .ref a ∧ (∃ xs, SqT X.K H1 a xs) ∧ R (Itt X.K a) H1) ∨ ∃ z, v = .str z ∧ R (Its z) H1 := by
  cases p with
  | tup ys =>
    cases e
    simp only [Rp] at r
    obtain ⟨a, vs, rfl, h1, h2⟩ := r
    exact .inr (.inl ⟨a, rfl, ⟨vs, h1⟩, q _ (wk_at walk_tup (fun A2 H2 k => SqT.kp k h1) h2)⟩)
  | lst ys =>
    cases e
    simp only [Rp] at r
    obtain ⟨a, vs, rfl, h1, h2⟩ := r
    exact .inl ⟨a, rfl, ⟨vs, .inl h1.rd⟩, q _ (wk_at walk_list (fun A2 H2 k => .inl (FzL.kp k h1).rd) h2)⟩
  | scr ns =>
    cases e
    simp only [Rp] at r
    obtain ⟨a, rfl, h1⟩ := r
    exact .inl ⟨a, rfl, ⟨_, h1.sq⟩, q _ (wk_scr walk_list (fun A2 H2 k => (ScL.kp k h1).sq))⟩
  | _ => cases e
theorem di_val {e : Expr} {c : C} (h : DE X tb e false (ev B c)) : DI X tb tg e B .val (.cons c .nil) := fun W tk => by
  refine pi_imp (pi_any (h W tk)) fun σ H R q => ?_
  obtain ⟨ρ, S, A, hρ, hS, q⟩ := q
  refine ⟨ρ, S, A, hρ, hS, ?_⟩
  simp only [evs] at q
  cases e1 : ev B c ρ S with
  | stuck => rw [e1] at q; exact q
  | ex x S1 => rw [e1] at q; exact q
  | ok p S1 =>
    rw [e1] at q
    simp only [Ev.R.bind] at q
    intro v H1 A1 s1 hS1 hr
    have hr : Rp X.K X.mg A1 H1 p v := hr
    split at q
    · rename_i xs hx
      have q' : ∀ J, Wk X.K X.mg tb J A1 H1 xs → R J H1 := fun J w => q J H1 A1 s1 hS1 w
      cases p with
      | str z =>
        cases hx
        have ez : v = .str z := by simpa [Rp] using hr
        exact .inr (.inr ⟨z, ez, q' _ wk_str⟩)
      | _ => exact frz_items hr hx q'
    · exact q.elim
theorem di_rng1 (cx : Ctx X tb P B lv sc) {x : Str} {a : Expr} {cs : Cs} {f : Expr → Option C} {p pos : Pos} (hx : x = ("range" : Str)) (hg : isGlob sc x = true) (hl : listC f [a] = some cs) (hs : ∀ e p, f (.Starred e p) = none) (h : DA X tb [a] false (evs B cs)) :
    DI X tb tg (.Call (.Name x p) [a] [] pos) B .rng cs := fun W tk => by
  subst hx
  refine pi_imp (pi_range1 (cx.gl hg) (cx.fx.free _ (by decide +kernel)) (h W tk) (listC_head hs hl)) fun σ H R q => ?_
  refine iE_bind q fun ps xs vs A1 H1 S1 ⟨ρ, S, he⟩ hi hS1 hr w => ?_
  have hlen := listC_len hl he
  have hi : rngV ps = some xs := hi
  unfold rngV at hi
  split at hi
  · split at hi
    · rename_i hn
      cases hi
      obtain ⟨v, rfl, r⟩ := rpl1 hr
      obtain ⟨h1, h2⟩ := rngOk_of hn
      exact ⟨_, by simpa [Rp] using r, h1, h2, w _ wk_range⟩
    · cases hi
  · simp at hlen
  · cases hi
theorem di_rng2 (cx : Ctx X tb P B lv sc) {x : Str} {a b : Expr} {cs : Cs} {f : Expr → Option C} {p pos : Pos} (hx : x = ("range" : Str)) (hg : isGlob sc x = true) (hl : listC f [a, b] = some cs) (hs : ∀ e p, f (.Starred e p) = none) (h : DA X tb [a, b] false (evs B cs)) :
    DI X tb tg (.Call (.Name x p) [a, b] [] pos) B .rng cs := fun W tk => by
  subst hx
  obtain ⟨cs', hcs⟩ := listC_tail hl
  have h2 : starEach [b] X.env = [(false, eval b X.env)] := listC_head hs hcs
  refine pi_imp (pi_range2 (cx.gl hg) (cx.fx.free _ (by decide +kernel)) (h W tk) (by rw [listC_head hs hl, h2]) h2) fun σ H R q => ?_
  refine iE_bind q fun ps xs vs A1 H1 S1 ⟨ρ, S, he⟩ hi hS1 hr w => ?_
  have hlen := listC_len hl he
  have hi : rngV ps = some xs := hi
  unfold rngV at hi
  split at hi
  · simp at hlen
  · split at hi
    · rename_i hn
      cases hi
      obtain ⟨v, u, rfl, r, t⟩ := rpl2 hr
      obtain ⟨h1, h2⟩ := rngOk_of hn.1
      obtain ⟨h3, h4⟩ := rngOk_of hn.2
      simp only [Rp] at r t
      subst r t
      exact ⟨_, _, rfl, ⟨h1, h2, h3, h4⟩, w _ wk_range⟩
    · cases hi
  · cases hi
theorem di_zip (cx : Ctx X tb P B lv sc) {x : Str} {a b : Expr} {cs : Cs} {f : Expr → Option C} {p pos tpos : Pos} {es : List Expr} {kk : Nat} (hx : x = ("zip" : Str)) (hg : isGlob sc x = true) (hl : listC f [a, b] = some cs) (hs : ∀ e p, f (.Starred e p) = none) (h : DA X tb [a, b] false (evs B cs)) :
    DI X tb (.Tuple es kk tpos) (.Call (.Name x p) [a, b] [] pos) B .zip cs := fun W tk => by
  subst hx
  obtain ⟨cs', hcs⟩ := listC_tail hl
  refine pi_imp (RZ.pi_zipA (cx.gl hg) (cx.fx.free _ (by decide +kernel)) (h W tk) (listC_head hs hl) (listC_plain hs hcs)) fun σ H R q => ?_
  refine iE_bind q fun ps xs vs A1 H1 S1 ⟨ρ, S, he⟩ hi hS1 hr w => ?_
  have hi : zip2 ps = some xs := hi
  unfold zip2 at hi
  split at hi
  · rename_i c d
    obtain ⟨v, u, rfl, r, t⟩ := rpl2 hr
    unfold zipV at hi
    split at hi
    · cases hi
      simp only [Rp] at r t
      obtain ⟨a1, vs1, rfl, r1, r2⟩ := r
      obtain ⟨a2, vs2, rfl, t1, t2⟩ := t
      exact ⟨a1, a2, vs1, vs2, rfl, .inr ⟨r1, t1, w _ (wk_zip walk_zipT (fun A2 H2 k => ⟨SqT.kp k r1, SqT.kp k t1⟩) r2 t2)⟩⟩
    · cases hi
      simp only [Rp] at r t
      obtain ⟨a1, vs1, rfl, r1, r2⟩ := r
      obtain ⟨a2, vs2, rfl, t1, t2⟩ := t
      exact ⟨a1, a2, vs1, vs2, rfl, .inl ⟨.inl r1.rd, .inl t1.rd, w _ (wk_zip (walk_zip rfl) (fun A2 H2 k => ⟨.inl (FzL.kp k r1).rd, .inl (FzL.kp k t1).rd⟩) r2 t2)⟩⟩
    · cases hi
  · cases hi
theorem enumV_some {c : PV} {xs : List PV} (h : enumV c = some xs) : ∃ ys, c = .lst ys ∧ xs = ys.mapIdx fun i x => .tup [.int (i : Nat), x] := by
  cases c <;> simp [enumV] at h
  exact ⟨_, rfl, h.symm⟩
theorem di_enum (cx : Ctx X tb P B lv sc) {x : Str} {a : Expr} {cs : Cs} {f : Expr → Option C} {p pos tpos : Pos} {es : List Expr} {kk : Nat} (hx : x = ("enumerate" : Str)) (hg : isGlob sc x = true) (hl : listC f [a] = some cs) (hs : ∀ e p, f (.Starred e p) = none) (h : DA X tb [a] false (evs B cs)) :
    DI X tb (.Tuple es kk tpos) (.Call (.Name x p) [a] [] pos) B .enum cs := fun W tk => by
  subst hx
  refine pi_imp (pi_enum (cx.gl hg) (cx.fx.free _ (by decide +kernel)) (h W tk) (listC_head hs hl)) fun σ H R q => ?_
  refine iE_bind q fun ps xs vs A1 H1 S1 ⟨ρ, S, he⟩ hi hS1 hr w => ?_
  have hi : enum1 ps = some xs := hi
  unfold enum1 at hi
  split at hi
  · rename_i c
    obtain ⟨v, rfl, r⟩ := rpl1 hr
    obtain ⟨ys, rfl, hi⟩ := enumV_some hi
    · cases hi
      simp only [Rp] at r
      obtain ⟨a1, vs1, rfl, r1, r2⟩ := r
      refine ⟨a1, vs1, rfl, .inl r1.rd, w _ (wk_pair walk_enum (by rw [List.length_mapIdx, r2.length]) (fun A2 H2 k => .inl (FzL.kp k r1).rd) fun i x y hi hf hg => ?_)⟩
      cases hf
      have h1 : i < ys.length := by rw [← r2.length]; exact hi
      have e1 : ys[i]? = some ys[i] := List.getElem?_eq_getElem h1
      obtain ⟨v, q1, q2⟩ := r2.get e1
      rw [hg] at q1
      cases q1
      exact ⟨.int (i : Nat), _, by rw [List.getElem?_mapIdx, e1]; rfl, rp_int, q2⟩
  · cases hi
theorem len2 {α : Type} {l : List α} (h : l.length = 2) : ∃ a b, l = [a, b] := match l, h with
  | [a, b], _ => ⟨a, b, rfl⟩
theorem walked_mem {x : Str} {k : IK} (h : walked.lookup x = some k) : (x = ("range" : Str) ∧ k = .rng) ∨ (x = ("zip" : Str) ∧ k = .zip) ∨ (x = ("enumerate" : Str) ∧ k = .enum) := by
  have := PySem.mem_of_lookup h
  simp only [walked, List.mem_cons, Prod.mk.injEq, List.not_mem_nil, or_false] at this
  exact this
theorem snd_val {f : Expr → Option C} (hf : ∀ e c, f e = some c → DE X tb e false (ev B c)) {e : Expr} {k : IK} {cs : Cs} (h : valC f e = some (k, cs)) : DI X tb tg e B k cs := by
  obtain ⟨c, hc, e⟩ := Option.map_eq_some_iff.mp h
  cases e
  exact di_val (hf _ _ hc)
theorem snd_src (cx : Ctx X tb P B lv sc) {f : Expr → Option C} (hf : ∀ e c, f e = some c → DE X tb e false (ev B c)) (hs : ∀ e p, f (.Starred e p) = none) {e : Expr} {k : IK} {cs : Cs} (h : srcC f sc (isTup tg) e = some (k, cs)) : DI X tb tg e B k cs := by
  cases e with
  | Call fn args kws q =>
    cases fn with
    | Name x p =>
      cases kws with
      | nil =>
        unfold srcC at h
        simp only at h
        split at h
        · rename_i hh
          split at h
          · rename_i hw
            have hx : x = ("range" : Str) := by rcases walked_mem hw with h | h | h <;> first | exact h.1 | exact absurd h.2 nofun
            split at h
            · rename_i hl
              obtain ⟨cs', hc, e⟩ := Option.map_eq_some_iff.mp h
              cases e
              rcases hl with hl | hl
              · obtain ⟨a, rfl⟩ := List.length_eq_one_iff.mp hl
                exact di_rng1 cx hx hh.2 hc hs (snd_list hf hs hc)
              · obtain ⟨a, b, rfl⟩ := len2 hl
                exact di_rng2 cx hx hh.2 hc hs (snd_list hf hs hc)
            · cases h
          · rename_i hw
            have hx : x = ("zip" : Str) := by rcases walked_mem hw with h | h | h <;> first | exact h.1 | exact absurd h.2 nofun
            split at h
            · rename_i hl
              obtain ⟨cs', hc, e⟩ := Option.map_eq_some_iff.mp h
              cases e
              obtain ⟨a, b, rfl⟩ := len2 hl.1
              cases tg with
              | Tuple es kk tpos => exact di_zip cx hx hh.2 hc hs (snd_list hf hs hc)
              | _ => exact absurd hl.2 nofun
            · cases h
          · rename_i hw
            have hx : x = ("enumerate" : Str) := by rcases walked_mem hw with h | h | h <;> first | exact h.1 | exact absurd h.2 nofun
            split at h
            · rename_i hl
              obtain ⟨cs', hc, e⟩ := Option.map_eq_some_iff.mp h
              cases e
              obtain ⟨a, rfl⟩ := List.length_eq_one_iff.mp hl.1
              cases tg with
              | Tuple es kk tpos => exact di_enum cx hx hh.2 hc hs (snd_list hf hs hc)
              | _ => exact absurd hl.2 nofun
            · cases h
          · exact snd_val hf h
        · exact snd_val hf h
      | cons _ _ => exact snd_val hf h
    | _ => exact snd_val hf h
  | _ => exact snd_val hf h
/-- a target's reading: the slots get the value's parts -/
def tG (K : PySem.W.Frag) (mg : Str → Option Value) (t : Tg) : TG := fun v σ H Q => ∃ ρ A p ρ', SlE K mg A H ρ σ ∧ Rp K mg A H p v ∧ bindT t p ρ = some ρ' ∧ ∀ σ', SlE K mg A H ρ' σ' → (∀ own, (∀ i ∈ tgIx t, i ∈ own) → wipe σ' own = wipe σ own) → Q σ' H
def DG (X : Cx) (e : Expr) (t : Tg) : Prop := PG X e (tG X.K X.mg t)
theorem pg_imp {X : Cx} {e : Expr} {t t' : TG} (h : PG X e t) (f : ∀ v σ H Q, t' v σ H Q → t v σ H Q) : PG X e t' := ⟨fun pins s σ H v u Q I r q => h.run pins s σ H v u Q I r (f v σ H Q q)⟩
theorem wipe_get (σ : L2.St) (i : Nat) : ∀ own : List Nat, (wipe σ own)[i]? = if i ∈ own ∧ i < σ.length then some none else σ[i]?
  | [] => by simp [wipe]
  | v :: vs => by
    unfold wipe
    by_cases h : v = i
    · subst h
      by_cases hl : v < σ.length
      · rw [List.getElem?_set_self (by rw [wipe_length]; exact hl), if_pos ⟨List.mem_cons_self, hl⟩]
      · rw [if_neg (fun z => hl z.2), List.getElem?_eq_none (by rw [List.length_set, wipe_length]; omega), List.getElem?_eq_none (by omega)]
    · rw [List.getElem?_set_ne h, wipe_get σ i vs]
      have e : (i ∈ v :: vs ∧ i < σ.length) = (i ∈ vs ∧ i < σ.length) := by
        simp only [List.mem_cons]
        have : i ≠ v := fun z => h z.symm
        simp [this]
      simp only [e]
theorem wipe_set {σ : L2.St} {i : Nat} {o : Option V} {own : List Nat} (h : i ∈ own) : wipe (σ.set i o) own = wipe σ own := by
  apply List.ext_getElem?
  intro j
  rw [wipe_get, wipe_get, List.length_set]
  by_cases hj : j ∈ own ∧ j < σ.length
  · rw [if_pos hj, if_pos hj]
  · rw [if_neg hj, if_neg hj]
    by_cases e : i = j
    · subst e
      have : ¬ i < σ.length := fun z => hj ⟨h, z⟩
      rw [List.getElem?_eq_none (by rw [List.length_set]; omega), List.getElem?_eq_none (by omega)]
    · rw [List.getElem?_set_ne e]
/-- the names that a target may name -/
def TgOk (X : Cx) (sc : Scope) : Prop := ∀ x, isLocal sc x = true → Loc X.env.scope x ∧ (X.fn x = true ∨ X.env.scope.names.lookup x = some .local)
theorem snd_tgNames (hN : X.N = P.N) (nd : P.N.Nodup) (ok : TgOk X sc) : ∀ {es : List Expr} {is : List Nat}, tgNames P sc es = some is →
    PGs X es (fun vs σ H Q => ∃ ρ A ps, SlE X.K X.mg A H ρ σ ∧ RpL X.K X.mg A H ps vs ∧ ps.length = is.length ∧ ∀ σ', SlE X.K X.mg A H (setL is ps ρ) σ' → (∀ own, (∀ i ∈ is, i ∈ own) → wipe σ' own = wipe σ own) → Q σ' H) ∧
      (assignEach es X.env).length = is.length ∧ (assignEach es X.env).findIdx? (·.1) = none
  | [], is, h => by
    cases h
    refine ⟨⟨fun pins s σ H vs us Q I r q => ?_⟩, rfl, rfl⟩
    obtain ⟨ρ, A, ps, hρ, hr, hl, q⟩ := q
    cases ps with
    | nil =>
      simp only [RpL] at hr
      exact pgs_nil.run pins s σ H vs us Q I r ⟨hr, q σ hρ fun _ _ => rfl⟩
    | cons _ _ => simp at hl
  | e :: es, is, h => by
    unfold tgNames at h
    split at h
    · cases h; rename_i e0; cases e0
    · rename_i x pos r e0
      cases e0
      split at h
      · rename_i i is' h1 h2
        cases h
        obtain ⟨ih, l1, l2⟩ := snd_tgNames hN nd ok h2
        unfold tgName at h1
        split at h1
        · rename_i hl
          obtain ⟨o1, o2⟩ := ok x hl
          refine ⟨⟨fun pins s σ H vs us Q I r q => ?_⟩, by simpa [assignEach] using l1, by
            have : assignEach (.Name x pos :: es) X.env = (false, assign (.Name x pos) X.env) :: assignEach es X.env := rfl
            rw [this, List.findIdx?_cons, l2]
            rfl⟩
          refine (pgs_cons (pg_name (i := i) (pos := pos) (by rw [hN]; exact nd) (by rw [hN]; exact ixOf_some h1) o1 o2) ih).run pins s σ H vs us Q I r ?_
          obtain ⟨ρ, A, ps, hρ, hr, hlen, q⟩ := q
          cases ps with
          | nil => simp at hlen
          | cons p ps =>
            simp only [RpL] at hr
            obtain ⟨v, vr, rfl, r1, r2⟩ := hr
            refine ⟨v, vr, rfl, ?_⟩
            show ∃ _, _
            refine ⟨ρ.set i (.val p), A, ps, hρ.setVal i r1, r2, by simpa using hlen, fun σ' hσ' hw => q σ' hσ' fun own ho => ?_⟩
            rw [hw own fun j hj => ho j (List.mem_cons_of_mem _ hj), wipe_set (ho i List.mem_cons_self)]
        · cases h1
      · cases h
    · cases h
theorem snd_tg (cx : Ctx X tb P B lv sc) {sc' : Scope} (ok : TgOk X sc') {e : Expr} {t : Tg} (h : tgC P sc' e = some t) : DG X e t := by
  unfold tgC at h
  split at h
  · obtain ⟨i, h1, rfl⟩ := Option.map_eq_some_iff.mp h
    unfold tgName at h1
    split at h1
    · rename_i hl
      obtain ⟨o1, o2⟩ := ok _ hl
      refine pg_imp (pg_name (i := i) (by rw [cx.N]; exact cx.nd) (by rw [cx.N]; exact ixOf_some h1) o1 o2) fun v σ H Q ⟨ρ, A, p, ρ', hρ, r, e, q⟩ => ?_
      cases e
      exact q _ (hρ.setVal i r) fun own ho => wipe_set (ho i (by simp [tgIx]))
    · cases h1
  · obtain ⟨is, h1, rfl⟩ := Option.map_eq_some_iff.mp h
    obtain ⟨g1, g2, g3⟩ := snd_tgNames cx.N cx.nd ok h1
    refine pg_imp (pg_tup cx.calm g1 g2 g3) fun v σ H Q ⟨ρ, A, p, ρ', hρ, r, e, q⟩ => ?_
    unfold bindT at e
    simp only at e
    split at e
    · rename_i ps
      split at e
      · rename_i hlen
        cases e
        simp only [Rp] at r
        obtain ⟨a, vs, rfl, r1, r2⟩ := r
        exact ⟨a, vs, rfl, r1, by rw [r2.length, hlen], ρ, A, ps, hρ, r2, hlen, q⟩
      · cases e
    · cases e
  · cases h
end
end Ev

end -- EvI
section -- EvJ
namespace Ev
open PySem PySem.Spec PyProof.Rows L2
theorem it_gen {J : It} {n : Nat} {G : Hp → Prop} {Y : Nat → Hp → V → Hp → Prop} (w : Walk J n G Y) {B : (Hp → Prop) → V → Hp → Prop} {H0 : Hp} {Qd : Hp → Prop} (Pv : Nat → Hp → Prop) (h0 : Pv 0 H0) (hG : ∀ i H, i ≤ n → Pv i H → G H)
    (hs : ∀ i x H H', i < n → Pv i H → Y i H x H' → B (Pv (i + 1)) x H') (hd : ∀ H, Pv n H → Qd H) :
    ∃ W : Nat → Nat → Hp → Prop, (∃ m, W 0 m H0) ∧ ∀ i m H, W i m H →
      (J.stop i H ∧ Qd H) ∨ (J.go i H ∧ ∃ Nx : Hp → Prop, (∀ H', Nx H' → ∃ m', m' < m ∧ W (i + 1) m' H') ∧ ∀ x H', J.yld i H x H' → B Nx x H') := by
  refine ⟨fun i m H => m = n - i ∧ i ≤ n ∧ Pv i H, ⟨n, by simp, Nat.zero_le _, h0⟩, ?_⟩
  rintro i m H ⟨rfl, hi, p⟩
  have q := hG i H hi p
  by_cases hlt : i < n
  · exact .inr ⟨w.goes i H hlt q, Pv (i + 1), fun H' p' => ⟨n - (i + 1), by omega, rfl, hlt, p'⟩, fun x H' y => hs i x H H' hlt p (w.yields i H x H' hlt q y)⟩
  · have e : i = n := by omega
    subst e
    exact .inl ⟨w.stops H q, hd H p⟩
section
variable {K : PySem.W.Frag} {mg : Str → Option Value} {tb : List (Addr × Str)} {A A' : List Addr} {H H' : Hp} {ρ : List Sl} {σ : L2.St}
theorem SlE.wipe (h : SlE K mg A H ρ σ) : ∀ own : List Nat, SlE K mg A H (wipeS ρ own) (wipe σ own)
  | [] => h
  | v :: vs => (SlE.wipe h vs).setNo v
theorem SlE.shut (h : SlE K mg A H ρ σ) : SlE K mg A H (Ev.shut ρ) σ where
  len := by unfold Ev.shut; rw [List.length_map, h.len]
  at_ := fun i s e => by
    unfold Ev.shut at e
    rw [List.getElem?_map] at e
    obtain ⟨x, e1, e2⟩ := Option.map_eq_some_iff.mp e
    obtain ⟨o, q1, q2⟩ := h.at_ i x e1
    refine ⟨o, q1, ?_⟩
    cases x with
    | no => rw [← e2]; trivial
    | val v => rw [← e2]; exact q2
    | opn xs => rw [← e2]; trivial
  one := fun i j xs ys a e1 e2 _ _ => by
    unfold Ev.shut at e1
    rw [List.getElem?_map] at e1
    obtain ⟨x, _, e3⟩ := Option.map_eq_some_iff.mp e1
    cases x <;> cases e3
def ValS (ρ : List Sl) : Prop := ∀ (i : Nat) (xs : List PV), ρ[i]? ≠ some (.opn xs)
theorem valS_shut : ValS (Ev.shut ρ) := fun i xs e1 => by
  unfold Ev.shut at e1
  rw [List.getElem?_map] at e1
  obtain ⟨x, _, e3⟩ := Option.map_eq_some_iff.mp e1
  cases x <;> cases e3
theorem ValS.set (h : ValS ρ) {i : Nat} {s : Sl} (hs : ∀ xs, s ≠ .opn xs) : ValS (ρ.set i s) := fun j xs e => by
  by_cases hj : i = j
  · subst hj
    by_cases hi : i < ρ.length
    · rw [List.getElem?_set_self hi] at e
      cases e
      exact hs _ rfl
    · rw [List.getElem?_eq_none (by simpa using hi)] at e; cases e
  · rw [List.getElem?_set_ne hj] at e
    exact h j xs e
theorem ValS.setL : ∀ {is : List Nat} {vs : List PV} {ρ : List Sl}, ValS ρ → ValS (Ev.setL is vs ρ)
  | [], _, _, h => by unfold Ev.setL; exact h
  | _ :: _, [], _, h => by unfold Ev.setL; exact h
  | i :: is, v :: vs, ρ, h => by unfold Ev.setL; exact ValS.setL (h.set nofun)
theorem ValS.bind (h : ValS ρ) {t : Tg} {p : PV} {ρ' : List Sl} (e : bindT t p ρ = some ρ') : ValS ρ' := by
  unfold bindT at e
  split at e
  · cases e; exact h.set nofun
  · split at e
    · split at e
      · cases e; exact h.setL
      · cases e
    · cases e
theorem ValS.wipe (h : ValS ρ) : ∀ own : List Nat, ValS (wipeS ρ own)
  | [] => h
  | v :: vs => (ValS.wipe h vs).set nofun
theorem SlE.kp (s : Kp A H A' H') (n : ValS ρ) (h : SlE K mg A H ρ σ) : SlE K mg A' H' ρ σ :=
  ⟨h.len, fun i x e => let ⟨o, e1, e2⟩ := h.at_ i x e; ⟨o, e1, by
    cases x with
    | no => trivial
    | val p =>
      obtain ⟨v, e, h⟩ := e2
      exact ⟨v, e, Rp.kp s _ _ h⟩
    | opn xs => exact absurd e (n i xs)⟩, h.one⟩
/-- the new list so far: done; what is still to come: rest -/
def LcP (K : PySem.W.Frag) (mg : Str → Option Value) (tb : List (Addr × Str)) (A1 : List Addr) (H1 : Hp) (A4 : List Addr) (H4 : Hp) (D : Addr) (f : PV → Sto → R (List PV)) (xs ys : List PV) (S5 : Sto) (i : Nat) (H : Hp) : Prop :=
  ∃ A2 S2 done acc rest, Stp A1 H1 A2 H ∧ Kp A4 H4 A2 H ∧ SRep K mg tb A2 H S2 ∧ H D = some (.lst acc) ∧ D ∉ A2 ∧ RpL K mg A2 H done acc ∧ lcM f (xs.drop i) S2 = .ok rest S5 ∧ ys = done ++ rest
theorem lcM_cons {f : PV → Sto → R (List PV)} {x : PV} {xs rest : List PV} {S S5 : Sto} (h : lcM f (x :: xs) S = .ok rest S5) : ∃ ys zs S', f x S = .ok ys S' ∧ lcM f xs S' = .ok zs S5 ∧ rest = ys ++ zs := by
  unfold lcM at h
  cases e : f x S with
  | ok ys S' =>
    rw [e] at h
    simp only at h
    cases e2 : lcM f xs S' with
    | ok zs S'' =>
      rw [e2] at h
      cases h
      exact ⟨ys, zs, S', rfl, e2, rfl⟩
    | ex x S'' => rw [e2] at h; cases h
    | stuck => rw [e2] at h; cases h
  | ex x S' => rw [e] at h; cases h
  | stuck => rw [e] at h; cases h
theorem drop_cons {xs : List PV} {i : Nat} {p : PV} (h : xs[i]? = some p) : xs.drop i = p :: xs.drop (i + 1) := by
  obtain ⟨hi, e⟩ := List.getElem?_eq_some_iff.mp h
  rw [List.drop_eq_getElem_cons hi, e]
/-- one item more -/
theorem LcP.put {A1 A4 A5 : List Addr} {H1 H4 H5 : Hp} {D : Addr} {f : PV → Sto → R (List PV)} {xs ys done rest : List PV} {acc : List V} {S' S5 : Sto} {i : Nat} {v : PV} {y : V} (hD : H1 D = none) (s : Stp A1 H1 A5 H5) (k : Kp A4 H4 A5 H5) (hS : SRep K mg tb A5 H5 S') (hd : H5 D = some (.lst acc)) (hn : D ∉ A5)
    (r : RpL K mg A5 H5 done acc) (r2 : Rp K mg A5 H5 v y) (e : lcM f (xs.drop i) S' = .ok rest S5) (e2 : ys = done ++ (v :: rest)) : LcP K mg tb A1 H1 A4 H4 D f xs ys S5 i (upd H5 D (.lst (acc ++ [y]))) :=
  have kp := Kp.put (A := A5) (o := .lst (acc ++ [y])) hd
  ⟨A5, S', done ++ [v], acc ++ [y], rest, s.put (.inl hD), k.trans kp, hS.put hd hn, upd_same, hn, RpL.kp kp _ _ (RpL.app r (RpL.cons r2 RpL.nil)), e, by rw [e2]; simp⟩
end
theorem wipe_idem {σ : L2.St} {own : List Nat} : wipe (wipe σ own) own = wipe σ own := by
  apply List.ext_getElem?
  intro j
  rw [wipe_get (wipe σ own) j own, wipe_length]
  by_cases hj : j ∈ own ∧ j < σ.length
  · rw [if_pos hj, wipe_get, if_pos hj]
  · rw [if_neg hj]
section
variable {X : Cx} {tb : List (Addr × Str)} {P : CP} {B : Amb} {lv : Nat} {sc : Scope}
/-- tests' reading -/
def tCnd (K : PySem.W.Frag) (mg : Str → Option Value) (tb : List (Addr × Str)) (W : WX) (d : List Sl → Sto → R (List PV)) : TT := fun σ H Q => ∃ ρ S A, SlE K mg A H ρ σ ∧ SRep K mg tb A H S ∧ match d ρ S with
  | .ok [] S' => ∀ H' A', Stp A H A' H' → SRep K mg tb A' H' S' → Q true H'
  | .ok [.bl b] S' => ∀ H' A', Stp A H A' H' → SRep K mg tb A' H' S' → Q b H'
  | .ok _ _ => False
  | .ex x S' => ∀ H' A' C dd, Stp A H A' H' → SRep K mg tb A' H' S' → mg x = some (.ref C) → dOk x dd → W (.ref C) dd σ H'
  | .stuck => False
def DC (X : Cx) (tb : List (Addr × Str)) (es : List Expr) (d : List Sl → Sto → R (List PV)) : Prop := ∀ W, L2N.Takes X W → PTs X es (tCnd X.K X.mg tb W d)
theorem pts_imp {es : List Expr} {t t' : TT} (h : PTs X es t) (f : ∀ σ H Q, t' σ H Q → t σ H Q) : PTs X es t' := ⟨fun pins s σ H Q I q => h.run pins s σ H Q I (f σ H Q q)⟩
theorem snd_cnd {f : Expr → Option C} (hf : ∀ e c, f e = some c → DT X tb e (ev B c)) {es : List Expr} {cs : Cs} (h : condC f es = some cs) : DC X tb es (evs B cs) := fun W tk => by
  unfold condC at h
  split at h
  · cases h
    refine pts_imp pts_nil fun σ H Q ⟨ρ, S, A, hρ, hS, q⟩ => ?_
    simp only [evs] at q
    exact q H A (.refl _ _) hS
  · obtain ⟨c, hc, rfl⟩ := Option.map_eq_some_iff.mp h
    refine pts_imp (pts_one (hf _ _ hc W tk)) fun σ H Q ⟨ρ, S, A, hρ, hS, q⟩ => ?_
    refine ⟨ρ, S, A, hρ, hS, ?_⟩
    simp only [evs] at q
    cases e : ev B c ρ S with
    | stuck => rw [e] at q; exact q
    | ex x S1 => rw [e] at q; exact q
    | ok p S1 =>
      rw [e] at q
      cases p with
      | bl b => exact fun v H' A' s hS' hr => ⟨b, by simpa [Rk, Rp] using hr, q H' A' s hS'⟩
      | _ => exact q.elim
  · cases h
def W0 : WX := fun _ _ _ _ => False
theorem takes0 : L2N.Takes X W0 := fun u s' ⟨_, _, _, _, _, _, _, _, _, _, _, _, _, _, _, _, w⟩ => w.elim
theorem condM_ok {r : R (List PV)} {f : Sto → R (List PV)} {ys : List PV} {S' : Sto} (h : condM r f = .ok ys S') : (∃ S3, (r = .ok [] S3 ∨ r = .ok [.bl true] S3) ∧ f S3 = .ok ys S') ∨ (r = .ok [.bl false] S' ∧ ys = []) := by
  unfold condM at h
  split at h
  · exact .inl ⟨_, .inl rfl, h⟩
  · exact .inl ⟨_, .inr rfl, h⟩
  · cases h; exact .inr ⟨rfl, rfl⟩
  · cases h
/-- the tests, then the rest -/
theorem cnd_do {A : List Addr} {σ : L2.St} {H : Hp} {ρ : List Sl} {S S' : Sto} {d : List Sl → Sto → R (List PV)} {f : Sto → R (List PV)} {ys : List PV} {Q : Bool → Hp → Prop} (h : condM (d ρ S) f = .ok ys S') (hρ : SlE X.K X.mg A H ρ σ) (hS : SRep X.K X.mg tb A H S)
    (h1 : ∀ S3 A3 H3, f S3 = .ok ys S' → Stp A H A3 H3 → SRep X.K X.mg tb A3 H3 S3 → Q true H3) (h2 : ys = [] → ∀ A3 H3, Stp A H A3 H3 → SRep X.K X.mg tb A3 H3 S' → Q false H3) : tCnd X.K X.mg tb W0 d σ H Q := by
  refine ⟨ρ, S, A, hρ, hS, ?_⟩
  rcases condM_ok h with ⟨S3, e | e, h⟩ | ⟨e, h⟩
  · rw [e]; exact fun H3 A3 s hS3 => h1 S3 A3 H3 h s hS3
  · rw [e]; exact fun H3 A3 s hS3 => h1 S3 A3 H3 h s hS3
  · rw [e]; exact fun H3 A3 s hS3 => h2 h A3 H3 s hS3
theorem oneR_ok {r : R PV} {ys : List PV} {S : Sto} (h : oneR r = .ok ys S) : ∃ v, r = .ok v S ∧ ys = [v] := by
  unfold oneR at h
  split at h
  · cases h; exact ⟨_, rfl, rfl⟩
  · cases h
/-- one item of the comprehension's last clause: target, tests, element -/
theorem lc_turn {A1 A4 : List Addr} {H1 H4 : Hp} {D : Addr} {ρ0 : List Sl} {σ : L2.St} {own : List Nat} {t : Tg} {cnd : Cs} {e : C} {xs ys : List PV} {S5 : Sto} {i : Nat} {x : V} {p : PV} {A2 : List Addr} {S2 : Sto} {done rest : List PV} {acc : List V} {H' : Hp}
    (hown : ∀ i ∈ tgIx t, i ∈ own) (hlim : ys.length ≤ lim) (hD : H1 D = none) (hρ : SlE X.K X.mg A2 H' ρ0 (wipe σ own)) (s : Stp A1 H1 A2 H') (k : Kp A4 H4 A2 H') (hS : SRep X.K X.mg tb A2 H' S2) (hd : H' D = some (.lst acc)) (hn : D ∉ A2) (r : RpL X.K X.mg A2 H' done acc)
    (hp : xs[i]? = some p) (rp : Rp X.K X.mg A2 H' p x)
    (el : lcM (fun x S2 => bindR t x ρ0 fun ρ' => condM (evs B cnd ρ' S2) fun S3 => oneR (ev B e ρ' S3)) (xs.drop i) S2 = .ok rest S5) (ey : ys = done ++ rest) :
    tG X.K X.mg t x (wipe σ own) H' fun σ2 H2 => wipe σ2 own = wipe σ own ∧ tCnd X.K X.mg tb W0 (evs B cnd) σ2 H2 fun b H3 =>
      if b = true then tE X.K X.mg tb W0 false (ev B e) σ2 H3 fun y H4' => ∃ acc, H4' D = some (.lst acc) ∧ acc.length < sizeLine ∧ LcP X.K X.mg tb A1 H1 A4 H4 D (fun x S2 => bindR t x ρ0 fun ρ' => condM (evs B cnd ρ' S2) fun S3 => oneR (ev B e ρ' S3)) xs ys S5 (i + 1) (upd H4' D (.lst (acc ++ [y])))
      else LcP X.K X.mg tb A1 H1 A4 H4 D (fun x S2 => bindR t x ρ0 fun ρ' => condM (evs B cnd ρ' S2) fun S3 => oneR (ev B e ρ' S3)) xs ys S5 (i + 1) H3 := by
  rw [drop_cons hp] at el
  obtain ⟨us, zs, S', e1, e2, e3⟩ := lcM_cons el
  simp only [bindR] at e1
  split at e1
  · rename_i ρ' hb
    refine ⟨ρ0, A2, p, ρ', hρ, rp, hb, fun σ' hσ' hw => ⟨by rw [hw own hown]; exact wipe_idem, ?_⟩⟩
    refine cnd_do e1 hσ' hS (fun S3 A3 H3 e4 s3 hS3 => ?_) (fun e4 A3 H3 s3 hS3 => ?_)
    · rw [if_pos rfl]
      obtain ⟨v, e5, rfl⟩ := oneR_ok e4
      refine ⟨ρ', S3, A3, hσ'.stp s3, hS3, ?_⟩
      rw [e5]
      intro y H5 A5 s5 hS5 hr
      have st := s3.trans s5
      refine ⟨acc, st.keep D _ hd hn (fun ps z => by cases z), ?_, ?_⟩
      · rw [r.length, ← lim_eq]
        rw [ey, e3, List.length_append, List.length_append] at hlim
        simp at hlim
        omega
      · exact LcP.put hD (s.trans st) (k.trans st.kp) hS5 (st.keep D _ hd hn (fun ps z => by cases z)) (st.there hd hn nofun) (RpL.stp st _ _ r) hr e2 (by rw [ey, e3]; rfl)
    · rw [if_neg (by simp)]
      subst e4
      exact ⟨A3, S', done, acc, zs, s.trans s3, k.trans s3.kp, hS3, s3.keep D _ hd hn (fun ps z => by cases z), s3.there hd hn nofun, RpL.stp s3 _ _ r, e2, by rw [ey, e3]; rfl⟩
  · cases e1
theorem listR_ok {r : R (List PV)} {p : PV} {S : Sto} (h : listR r = .ok p S) : ∃ ys, r = .ok ys S ∧ p = .lst ys ∧ ys.length ≤ lim := by
  unfold listR at h
  split at h
  · split at h
    · cases h; exact ⟨_, rfl, rfl, ‹_›⟩
    · cases h
  · cases h
theorem listR_no {r : R (List PV)} {x : Str} {S : Sto} (h : listR r = .ex x S) : False := by
  unfold listR at h
  split at h
  · split at h <;> cases h
  · cases h
theorem lc_read {W : WX} {own : List Nat} {k : IK} {src : Cs} {t : Tg} {cnd : Cs} {e : C} {σ : L2.St} {H : Hp} {Q : VK} (hown : ∀ i ∈ tgIx t, i ∈ own) (h : tF X.K X.mg tb W (ev B (.lc own k src t cnd e)) σ H Q) :
    tLc (iE X.K X.mg tb W B k src) (tG X.K X.mg t) (tCnd X.K X.mg tb W0 (evs B cnd)) (tE X.K X.mg tb W0 false (ev B e)) own σ H Q := by
  obtain ⟨ρ, S, A, hρ, hS, h⟩ := h
  simp only [ev] at h
  refine ⟨ρ, S, A, hρ, hS, ?_⟩
  cases e1 : evs B src ρ S with
  | stuck => rw [e1] at h; exact h
  | ex x S1 => rw [e1] at h; exact h
  | ok ps S1 =>
    rw [e1] at h
    simp only [R.bind, itemsR] at h
    show match items k ps with
      | some xs => _
      | none => False
    cases e2 : items k ps with
    | none => rw [e2] at h; exact h
    | some xs =>
      rw [e2] at h
      simp only at h
      intro J H1 A1 s1 hS1 w D hD
      split at h
      · rename_i p S5 e3
        obtain ⟨ys, e4, rfl, hlim⟩ := listR_ok e3
        obtain ⟨G, Y, hW, hG, hY⟩ := w
        have hρ1 := SlE.wipe (hρ.stp s1) own
        refine it_gen hW (B := fun Nx x H' => tG X.K X.mg t x (wipe σ own) H' fun σ2 H2 => wipe σ2 own = wipe σ own ∧ tCnd X.K X.mg tb W0 (evs B cnd) σ2 H2 fun b H3 =>
          if b = true then tE X.K X.mg tb W0 false (ev B e) σ2 H3 fun y H4 => ∃ acc, H4 D = some (.lst acc) ∧ acc.length < sizeLine ∧ Nx (upd H4 D (.lst (acc ++ [y]))) else Nx H3)
          (LcP X.K X.mg tb A1 H1 A1 H1 D (fun x S2 => bindR t x (wipeS ρ own) fun ρ' => condM (evs B cnd ρ' S2) fun S3 => oneR (ev B e ρ' S3)) xs ys S5) ?_ ?_ ?_ ?_
        · exact ⟨A1, S1, [], [], ys, .new hD, Stp.kp (.new hD), hS1.new hD, upd_same, fun z => hS1.isin z hD, RpL.nil, e4, rfl⟩
        · rintro i H2 hi ⟨A2, S2, done, acc, rest, s2, k2, _⟩
          exact hG A2 H2 k2
        · rintro i x H2 H3 hi ⟨A2, S2, done, acc, rest, s2, k2, hS2, hd, hn, r, el, ey⟩ y
          obtain ⟨p, hp, s3, hS3, r3⟩ := hY i H2 x H3 A2 S2 hi k2 hS2 y
          have s4 := s2.trans s3
          exact lc_turn hown hlim hD (hρ1.stp s4) s4 s4.kp hS3 (s3.keep D _ hd hn (fun ps z => by cases z)) hn (RpL.stp s3 _ _ r) hp r3 el ey
        · rintro H2 ⟨A2, S2, done, acc, rest, s2, k2, hS2, hd, hn, r, el, ey⟩
          rw [List.drop_eq_nil_of_le (Nat.le_refl _)] at el
          cases el
          rw [List.append_nil] at ey
          subst ey
          exact h _ rfl D acc H2 A2 (s1.trans s2) hS2 (s1.dom D (.inl hD)) hd hn r
      · rename_i e3; exact (listR_no e3).elim
      · exact h.elim
theorem walkR_ok {k : IK} {r : R (List PV)} {f : List PV → Sto → R (List PV)} {ys : List PV} {S' : Sto} (h : walkR k r f = .ok ys S') : ∃ ps xs S1, r = .ok ps S1 ∧ items k ps = some xs ∧ f xs S1 = .ok ys S' := by
  unfold walkR at h
  split at h
  · split at h
    · exact ⟨_, _, _, rfl, by assumption, h⟩
    · cases h
  · cases h
theorem lc2_read {W : WX} {own own1 : List Nat} {k k1 : IK} {src src1 : Cs} {t t1 : Tg} {cnd cnd1 : Cs} {e : C} {σ : L2.St} {H : Hp} {Q : VK} (hown : ∀ i ∈ tgIx t, i ∈ own) (hown1 : ∀ i ∈ tgIx t1, i ∈ own1) (h : tF X.K X.mg tb W (ev B (.lc2 own k src t cnd own1 k1 src1 t1 cnd1 e)) σ H Q) :
    tLc2 (iE X.K X.mg tb W B k src) (tG X.K X.mg t) (tCnd X.K X.mg tb W0 (evs B cnd)) (iE X.K X.mg tb W0 B k1 src1) (tG X.K X.mg t1) (tCnd X.K X.mg tb W0 (evs B cnd1)) (tE X.K X.mg tb W0 false (ev B e)) own own1 σ H Q := by
  obtain ⟨ρ, S, A, hρ, hS, h⟩ := h
  simp only [ev] at h
  refine ⟨ρ, S, A, hρ, hS, ?_⟩
  cases e1 : evs B src ρ S with
  | stuck => rw [e1] at h; exact h
  | ex x S1 => rw [e1] at h; exact h
  | ok ps S1 =>
    rw [e1] at h
    simp only [R.bind, itemsR] at h
    show match items k ps with
      | some xs => _
      | none => False
    cases e2 : items k ps with
    | none => rw [e2] at h; exact h
    | some xs =>
      rw [e2] at h
      simp only at h
      intro J H1 A1 s1 hS1 w D hD
      split at h
      · rename_i p S5 e3
        obtain ⟨ys, e4, rfl, hlim⟩ := listR_ok e3
        obtain ⟨G, Y, hW, hG, hY⟩ := w
        have hρ1 := SlE.shut (SlE.wipe (hρ.stp s1) own)
        have hv1 : ValS (Ev.shut (wipeS ρ own)) := valS_shut
        let f1 := fun (ρ' : List Sl) (y : PV) (S5 : Sto) => bindR t1 y (wipeS ρ' own1) fun ρ2 => condM (evs B cnd1 ρ2 S5) fun S6 => oneR (ev B e ρ2 S6)
        let f := fun (x : PV) (S2 : Sto) => bindR t x (Ev.shut (wipeS ρ own)) fun ρ' => condM (evs B cnd ρ' S2) fun S3 => walkR k1 (evs B src1 ρ' S3) fun xs1 S4 => lcM (f1 ρ') xs1 S4
        refine it_gen hW (B := fun Nx x H' => tG X.K X.mg t x (wipe σ own) H' fun σ2 H2 => wipe σ2 own = wipe σ own ∧ tCnd X.K X.mg tb W0 (evs B cnd) σ2 H2 fun b H3 =>
          if b = true then iE X.K X.mg tb W0 B k1 src1 σ2 H3 fun J1 H4 => ∃ W1 : Nat → Nat → Hp → Prop, (∃ m, W1 0 m H4) ∧ ∀ j k H, W1 j k H →
            (J1.stop j H ∧ Nx H) ∨ (J1.go j H ∧ ∃ Nx1 : Hp → Prop, (∀ H', Nx1 H' → ∃ k', k' < k ∧ W1 (j + 1) k' H') ∧ ∀ x H', J1.yld j H x H' → tG X.K X.mg t1 x (wipe σ2 own1) H' fun σ3 H5 => wipe σ3 own1 = wipe σ2 own1 ∧ tCnd X.K X.mg tb W0 (evs B cnd1) σ3 H5 fun b H6 =>
              if b = true then tE X.K X.mg tb W0 false (ev B e) σ3 H6 fun y H7 => ∃ acc, H7 D = some (.lst acc) ∧ acc.length < sizeLine ∧ Nx1 (upd H7 D (.lst (acc ++ [y]))) else Nx1 H6)
          else Nx H3)
          (LcP X.K X.mg tb A1 H1 A1 H1 D f xs ys S5) ?_ ?_ ?_ ?_
        · exact ⟨A1, S1, [], [], ys, .new hD, Stp.kp (.new hD), hS1.new hD, upd_same, fun z => hS1.isin z hD, RpL.nil, e4, rfl⟩
        · rintro i H2 hi ⟨A2, S2, done, acc, rest, s2, k2, _⟩
          exact hG A2 H2 k2
        · rintro i x H2 H3 hi ⟨A2, S2, done, acc, rest, s2, k2, hS2, hd, hn, r, el, ey⟩ y
          obtain ⟨p, hp, s3, hS3, r3⟩ := hY i H2 x H3 A2 S2 hi k2 hS2 y
          have s4 := s2.trans s3
          have hd3 := s3.keep D _ hd hn (fun ps z => by cases z)
          rw [drop_cons hp] at el
          obtain ⟨us, zs, S', q1, q2, q3⟩ := lcM_cons el
          simp only [f, bindR] at q1
          split at q1
          · rename_i ρ' hb
            have hv : ValS ρ' := hv1.bind hb
            refine ⟨Ev.shut (wipeS ρ own), A2, p, ρ', hρ1.stp s4, r3, hb, fun σ2 hσ2 hw => ⟨by rw [hw own hown]; exact wipe_idem, ?_⟩⟩
            refine cnd_do q1 hσ2 hS3 (fun S3 A4 H4 q4 s5 hS4 => ?_) (fun q4 A4 H4 s5 hS4 => ?_)
            · rw [if_pos rfl]
              obtain ⟨ps1, xs1, S4, q5, q6, q7⟩ := walkR_ok q4
              refine ⟨ρ', S3, A4, hσ2.stp s5, hS4, ?_⟩
              rw [q5]
              show match items k1 ps1 with
                | some xs => _
                | none => False
              rw [q6]
              intro J1 H5 A5 s6 hS5 w1
              obtain ⟨G1, Y1, hW1, hG1, hY1⟩ := w1
              have s7 := s5.trans s6
              have s8 := s4.trans s7
              have hρ5 := SlE.wipe (hσ2.stp s7) own1
              refine it_gen hW1 (B := fun Nx1 x H' => tG X.K X.mg t1 x (wipe σ2 own1) H' fun σ3 H5 => wipe σ3 own1 = wipe σ2 own1 ∧ tCnd X.K X.mg tb W0 (evs B cnd1) σ3 H5 fun b H6 =>
                if b = true then tE X.K X.mg tb W0 false (ev B e) σ3 H6 fun y H7 => ∃ acc, H7 D = some (.lst acc) ∧ acc.length < sizeLine ∧ Nx1 (upd H7 D (.lst (acc ++ [y]))) else Nx1 H6)
                (LcP X.K X.mg tb A1 H1 A5 H5 D (f1 ρ') xs1 (done ++ us) S') ?_ ?_ ?_ ?_
              · exact ⟨A5, S4, done, acc, us, s8, Kp.refl _ _, hS5, s7.keep D _ hd3 hn (fun ps z => by cases z), s7.there hd3 hn nofun, RpL.stp s7 _ _ (RpL.stp s3 _ _ r), q7, rfl⟩
              · rintro j H6 hj ⟨A6, S6, done1, acc1, rest1, t2, k3, _⟩
                exact hG1 A6 H6 k3
              · rintro j x1 H6 H7 hj ⟨A6, S6, done1, acc1, rest1, t2, k3, hS6, hd6, hn6, r6, el6, ey6⟩ y1
                obtain ⟨p1, hp1, t3, hS7, r7⟩ := hY1 j H6 x1 H7 A6 S6 hj k3 hS6 y1
                have t4 := t2.trans t3
                have k4 := k3.trans t3.kp
                exact lc_turn hown1 (by rw [ey, q3, List.length_append, List.length_append] at hlim; rw [List.length_append]; omega) hD (SlE.kp k4 (hv.wipe own1) hρ5) t4 k4 hS7 (t3.keep D _ hd6 hn6 (fun ps z => by cases z)) hn6 (RpL.stp t3 _ _ r6) hp1 r7 el6 ey6
              · rintro H6 ⟨A6, S6, done1, acc1, rest1, t2, k3, hS6, hd6, hn6, r6, el6, ey6⟩
                rw [List.drop_eq_nil_of_le (Nat.le_refl _)] at el6
                cases el6
                rw [List.append_nil] at ey6
                subst ey6
                exact ⟨A6, _, done ++ us, acc1, zs, t2, (k2.trans (s3.trans s7).kp).trans k3, hS6, hd6, hn6, r6, q2, by rw [ey, q3]; simp⟩
            · rw [if_neg (by simp)]
              subst q4
              exact ⟨A4, S', done, acc, zs, s4.trans s5, (k2.trans s3.kp).trans s5.kp, hS4, s5.keep D _ hd3 hn (fun ps z => by cases z), s5.there hd3 hn nofun, RpL.stp s5 _ _ (RpL.stp s3 _ _ r), q2, by rw [ey, q3]; rfl⟩
          · cases q1
        · rintro H2 ⟨A2, S2, done, acc, rest, s2, k2, hS2, hd, hn, r, el, ey⟩
          rw [List.drop_eq_nil_of_le (Nat.le_refl _)] at el
          cases el
          rw [List.append_nil] at ey
          subst ey
          exact h _ rfl D acc H2 A2 (s1.trans s2) hS2 (s1.dom D (.inl hD)) hd hn r
      · rename_i e3; exact (listR_no e3).elim
      · exact h.elim
/-- frozen, a value -/
theorem df_fz {e : Expr} {d : List Sl → Sto → R PV} (h : DF X tb e d) (hl : ∀ ρ S p S', d ρ S = .ok p S' → ∃ xs, p = .lst xs) : DE X tb e false d := fun W tk =>
  pe_imp (pe_fz (h W tk)) fun σ H Q ⟨ρ, S, A, hρ, hS, q⟩ => by
    refine ⟨ρ, S, A, hρ, hS, ?_⟩
    cases e1 : d ρ S with
    | stuck => rw [e1] at q; exact q
    | ex x S1 => rw [e1] at q; exact q
    | ok p S1 =>
      rw [e1] at q
      intro xs exs a vs H' A' s hS' hn hd nA hr
      subst exs
      refine .inr ⟨a, vs, rfl, hd, fun o => ?_⟩
      refine q (.ref a) _ A' (s.put hn) (hS'.put hd nA) (Rk.of ?_)
      simp only [Rp]
      exact ⟨a, vs, rfl, ⟨o, upd_same⟩, RpL.kp (Kp.put hd) _ _ hr⟩
end
end Ev

end -- EvJ
section -- EvK
namespace Ev
open PySem PySem.Spec PyProof.Rows L2
section
variable {tb : List (Addr × Str)} {P : CP} {B : Amb} {lv : Nat}
theorem star_none {n : Nat} {sc : Scope} (e : Expr) (p : Pos) : compE P n sc (.Starred e p) = none := by
  cases n <;> rfl
theorem set_none {n : Nat} {sc : Scope} (es : List Expr) (k : Nat) (p : Pos) : compE P n sc (.Set es k p) = none := by
  cases n <;> rfl
theorem bor_star {n : Nat} {sc : Scope} (e : Expr) (p : Pos) : borC (compE P n sc) P sc (.Starred e p) = none := star_none e p
theorem foldNo {e : Expr} (h : noSet e = true) (env : Env) (x : Value) : foldedSetIterable e env x = pure x := by
  cases e <;> first | rfl | cases h
/-- in a block -/
theorem Ctx.blk {X : Cx} {sc : Scope} (cx : Ctx X tb P B lv sc) (s : Shared) (H : Hp) (scope : Scope) (cl : List (Str × Addr)) (C : Addr) (fp : List Addr) : Ctx (X.blk s H scope (compEnvC scope cl C X.env) fp) tb P B lv (relS scope sc) :=
  ⟨cx.N, cx.nd, by rw [← cx.sc]; rfl, cx.calm, cx.room, ⟨cx.fx.fns, cx.fx.cs, cx.fx.vs, cx.fx.free, cx.fx.dyn, cx.fx.exc, cx.fx.cls⟩, fun g h hl Y ly => cx.lam g h hl Y ⟨ly.ov, ly.A, ly.code, ly.qual, ly.calm⟩⟩
theorem tgOk_blk {X : Cx} (s : Shared) (H : Hp) (scope : Scope) (cl : List (Str × Addr)) (C : Addr) (fp : List Addr) : TgOk (X.blk s H scope (compEnvC scope cl C X.env) fp) scope := fun x h => by
  have e : (X.blk s H scope (compEnvC scope cl C X.env) fp).env.scope = relS scope X.env.scope := rfl
  unfold isLocal at h
  split at h
  · rename_i hl
    have q : (relS scope X.env.scope).names.lookup x = some .local := lookup_relS_keep (by decide) hl
    exact ⟨.inl (by rw [e]; exact q), .inr (by rw [e]; exact q)⟩
  · rename_i hl
    have q : (relS scope X.env.scope).names.lookup x = some .cell := lookup_relS_keep (by decide) hl
    refine ⟨.inr (by rw [e]; exact q), .inl ?_⟩
    show (scope.names.lookup x == some .cell) = true
    rw [hl]
    rfl
  · cases h
theorem ownIx_eq {N : List Str} {scope : Scope} : (ownOf N scope.names).map (·.2) = ownIx N scope := rfl
theorem all_mem {is own : List Nat} (h : (is.all fun i => own.contains i) = true) : ∀ i ∈ is, i ∈ own := fun i hi => by
  have := List.all_eq_true.mp h i hi
  simpa using this
def PEok (tb : List (Addr × Str)) (P : CP) (B : Amb) (lv n : Nat) : Prop := ∀ (X : Cx) (sc : Scope), Ctx X tb P B lv sc → ∀ e c, compE P n sc e = some c → DE X tb e false (ev B c) ∧ (testC (compE P n sc) e = some c → DT X tb e (ev B c))
theorem ListR {own k src tg cnd elt} {ρ : List Sl} {S S' : Sto} {p : PV} (h : ev B (.lc own k src tg cnd elt) ρ S = .ok p S') : ∃ xs, p = .lst xs := by
  simp only [ev] at h
  cases e : evs B src ρ S with
  | stuck => rw [e] at h; cases h
  | ex x S1 => rw [e] at h; cases h
  | ok ps S1 =>
    rw [e] at h
    simp only [R.bind, itemsR] at h
    split at h
    · obtain ⟨ys, _, e2, _⟩ := listR_ok h
      exact ⟨ys, e2⟩
    · cases h
theorem ListR2 {own k src tg cnd own1 k1 src1 tg1 cnd1 elt} {ρ : List Sl} {S S' : Sto} {p : PV} (h : ev B (.lc2 own k src tg cnd own1 k1 src1 tg1 cnd1 elt) ρ S = .ok p S') : ∃ xs, p = .lst xs := by
  simp only [ev] at h
  cases e : evs B src ρ S with
  | stuck => rw [e] at h; cases h
  | ex x S1 => rw [e] at h; cases h
  | ok ps S1 =>
    rw [e] at h
    simp only [R.bind, itemsR] at h
    split at h
    · obtain ⟨ys, _, e2, _⟩ := listR_ok h
      exact ⟨ys, e2⟩
    · cases h
theorem ps_imp {X : Cx} {e : Stmt} {t t' : TS} (h : PS X e t) (f : ∀ D σ H, t' D σ H → t D σ H) : PS X e t' := ⟨fun pins s σ H D I q => h.run pins s σ H D I (f D σ H q)⟩
def DA1 (X : Cx) (tb : List (Addr × Str)) (st : Stmt) (i : Nat) (d : List Sl → Sto → R PV) : Prop := ∀ W, L2N.Takes X W → PS X st (tAsg (tF X.K X.mg tb W d) (gName i))
/-- what a comprehension wants of its parts -/
structure LcPart (X : Cx) (tb : List (Addr × Str)) (P : CP) (B : Amb) (sc scope : Scope) (elt : Expr) (pos : Pos) (gs : List Comprehension) (c : C) : Prop where
  df : DF X tb (.ListComp elt gs scope pos) (ev B c)
  ls : ∀ ρ S p S', ev B c ρ S = .ok p S' → ∃ xs, p = .lst xs
  asg : ∀ (i : Nat) (y : Str) (py spos : Pos), X.N[i]? = some y → X.env.scope.names.lookup y = some .local → swapsWith (.ListComp elt gs scope pos) (some (.Name y py)) spos.line X.env = pure true → DA1 X tb (.Assign [.Name y py] (.ListComp elt gs scope pos) spos) i (ev B c)
theorem snd_lc {n : Nat} (ih : PEok tb P B lv n) {X : Cx} {sc scope : Scope} (cx : Ctx X tb P B lv sc) {elt : Expr} {gs : List Comprehension} {pos : Pos} {c : C}
    (h : lcC (compE P n sc) (compE P n (relS scope sc)) (compE P n (relS scope sc)) (testC (compE P n (relS scope sc))) P sc scope elt gs = some c) : LcPart X tb P B sc scope elt pos gs c := by
  have hE : ∀ e c, compE P n sc e = some c → DE X tb e false (ev B c) := fun e c h => (ih X sc cx e c h).1
  unfold lcC at h
  split at h
  · rename_i hb
    have ok : BlkOk X.N X.env.scope scope (ownOf P.N scope.names) := by rw [cx.N, cx.sc]; exact blkOk_by hb
    have hN : X.N.Nodup := by rw [cx.N]; exact cx.nd
    split at h
    · rename_i tg iter ifs
      split at h
      · rename_i hns
        split at h
        · rename_i k src tg' cnd e h1 h2 h3 h4
          split at h
          · rename_i hall
            cases h
            have hown := all_mem hall
            refine ⟨fun W tk => ?_, fun ρ S p S' => ListR, fun i y py spos hy hyl hsw W tk => ?_⟩
            · exact pe_imp (pe_lc (g := tG X.K X.mg tg') (tt := tCnd X.K X.mg tb W0 (evs B cnd)) (te := tE X.K X.mg tb W0 false (ev B e)) cx.calm hN (snd_src cx hE (fun e p => star_none e p) h1 W tk) ok
              (fun s H C cl fp => snd_tg (Ctx.blk cx s H scope cl C fp) (tgOk_blk s H scope cl C fp) h2)
              (fun s H C cl fp => snd_cnd (fun e c h => (ih _ _ (Ctx.blk cx s H scope cl C fp) e c (by cases e <;> first | exact h | cases h)).2 h) h3 W0 takes0)
              (fun s H C cl fp => (ih _ _ (Ctx.blk cx s H scope cl C fp) elt e h4).1 W0 takes0) (foldNo hns _)) fun σ H Q q => lc_read hown q
            · exact ps_imp (ps_setLc (g := tG X.K X.mg tg') (tt := tCnd X.K X.mg tb W0 (evs B cnd)) (te := tE X.K X.mg tb W0 false (ev B e)) cx.calm hN hy hyl hsw (snd_src cx hE (fun e p => star_none e p) h1 W tk) ok
              (fun s H C cl fp => snd_tg (Ctx.blk cx s H scope cl C fp) (tgOk_blk s H scope cl C fp) h2)
              (fun s H C cl fp => snd_cnd (fun e c h => (ih _ _ (Ctx.blk cx s H scope cl C fp) e c (by cases e <;> first | exact h | cases h)).2 h) h3 W0 takes0)
              (fun s H C cl fp => (ih _ _ (Ctx.blk cx s H scope cl C fp) elt e h4).1 W0 takes0) (foldNo hns _)) fun D σ H q => lc_read hown q
          · cases h
        · cases h
      · cases h
    · rename_i tg iter ifs tg1 iter1 ifs1
      split at h
      · rename_i hns
        split at h
        · rename_i k src tg' cnd h1 h2 h3
          split at h
          · rename_i k1 src1 tg1' cnd1 e h5 h6 h7 h4
            split at h
            · rename_i hall
              cases h
              have hown := all_mem hall.1
              have hown1 := all_mem hall.2
              refine ⟨fun W tk => ?_, fun ρ S p S' => ListR2, fun i y py spos hy hyl hsw W tk => ?_⟩
              · refine pe_imp (pe_lc2 (vs1 := tgIx tg1') (g := tG X.K X.mg tg') (g1 := tG X.K X.mg tg1') (tt := tCnd X.K X.mg tb W0 (evs B cnd)) (tt1 := tCnd X.K X.mg tb W0 (evs B cnd1)) (wi1 := iE X.K X.mg tb W0 B k1 src1) (te := tE X.K X.mg tb W0 false (ev B e)) cx.calm hN (snd_src cx hE (fun e p => star_none e p) h1 W tk) ok hown1
                (fun s H C cl fp => snd_tg (Ctx.blk cx s H scope cl C fp) (tgOk_blk s H scope cl C fp) h2)
                (fun s H C cl fp => snd_cnd (fun e c h => (ih _ _ (Ctx.blk cx s H scope cl C fp) e c (by cases e <;> first | exact h | cases h)).2 h) h3 W0 takes0)
                (fun s H C cl fp => snd_src (Ctx.blk cx s H scope cl C fp) (fun e c h => (ih _ _ (Ctx.blk cx s H scope cl C fp) e c h).1) (fun e p => star_none e p) h5 W0 takes0)
                (fun s H C cl fp => snd_tg (Ctx.blk cx s H scope cl C fp) (tgOk_blk s H scope cl C fp) h6)
                (fun s H C cl fp => snd_cnd (fun e c h => (ih _ _ (Ctx.blk cx s H scope cl C fp) e c (by cases e <;> first | exact h | cases h)).2 h) h7 W0 takes0)
                (fun s H C cl fp => (ih _ _ (Ctx.blk cx s H scope cl C fp) elt e h4).1 W0 takes0) (foldNo hns.1 _) (fun env => foldNo hns.2 env)) fun σ H Q q => lc2_read hown (fun i hi => hi) q
              · refine ps_imp (ps_setLc2 (vs1 := tgIx tg1') (g := tG X.K X.mg tg') (g1 := tG X.K X.mg tg1') (tt := tCnd X.K X.mg tb W0 (evs B cnd)) (tt1 := tCnd X.K X.mg tb W0 (evs B cnd1)) (wi1 := iE X.K X.mg tb W0 B k1 src1) (te := tE X.K X.mg tb W0 false (ev B e)) cx.calm hN hy hyl hsw (snd_src cx hE (fun e p => star_none e p) h1 W tk) ok hown1
                (fun s H C cl fp => snd_tg (Ctx.blk cx s H scope cl C fp) (tgOk_blk s H scope cl C fp) h2)
                (fun s H C cl fp => snd_cnd (fun e c h => (ih _ _ (Ctx.blk cx s H scope cl C fp) e c (by cases e <;> first | exact h | cases h)).2 h) h3 W0 takes0)
                (fun s H C cl fp => snd_src (Ctx.blk cx s H scope cl C fp) (fun e c h => (ih _ _ (Ctx.blk cx s H scope cl C fp) e c h).1) (fun e p => star_none e p) h5 W0 takes0)
                (fun s H C cl fp => snd_tg (Ctx.blk cx s H scope cl C fp) (tgOk_blk s H scope cl C fp) h6)
                (fun s H C cl fp => snd_cnd (fun e c h => (ih _ _ (Ctx.blk cx s H scope cl C fp) e c (by cases e <;> first | exact h | cases h)).2 h) h7 W0 takes0)
                (fun s H C cl fp => (ih _ _ (Ctx.blk cx s H scope cl C fp) elt e h4).1 W0 takes0) (foldNo hns.1 _) (fun env => foldNo hns.2 env)) fun D σ H q => lc2_read hown (fun i hi => hi) q
            · cases h
          · cases h
        · cases h
      · cases h
    · cases h
  · cases h
theorem testC_of {f : Expr → Option C} {e : Expr} {c : C} (h : testC f e = some c) : f e = some c := by
  cases e <;> first | exact h | cases h
theorem snd_call {n : Nat} {X : Cx} {sc : Scope} (cx : Ctx X tb P B lv sc) (hE : ∀ e c, compE P n sc e = some c → DE X tb e false (ev B c)) {x : Str} {args : List Expr} {p pos : Pos} {c : C}
    (h : callC (compE P n sc) (borC (compE P n sc) P sc) P sc x args = some c) : DE X tb (.Call (.Name x p) args [] pos) false (ev B c) := by
  have hB : ∀ e c, borC (compE P n sc) P sc e = some c → DE X tb e true (ev B c) := fun e c h => snd_bor cx hE h
  unfold callC at h
  split at h
  · rename_i hh
    split at h
    · rename_i m fn hΦ
      split at h
      · rename_i hl
        obtain ⟨as, ha, rfl⟩ := Option.map_eq_some_iff.mp h
        exact de_call cx hh.1 hh.2 hΦ hl ha (fun e p => star_none e p) (snd_list hE (fun e p => star_none e p) ha)
      · cases h
    · split at h
      · rename_i hx
        split at h
        · rename_i a y py
          split at h
          · rename_i hy
            split at h
            · rename_i t ht
              obtain ⟨c', hc, rfl⟩ := Option.map_eq_some_iff.mp h
              exact de_isi cx hx hh.1 hh.2 hy.1 hy.2 ht (fun e p z => by rw [z] at hc; cases (bor_star e p).symm.trans hc) (hB _ _ hc)
            · cases h
          · cases h
        · cases h
      · split at h
        · rename_i t as hr
          obtain ⟨cs, ha, rfl⟩ := Option.map_eq_some_iff.mp h
          exact de_rngv cx hE (fun e p => star_none e p) hh.1 hh.2 hr ha
        split at h
        · rename_i b hb
          split at h
          · rename_i hne
            obtain ⟨as, ha, rfl⟩ := Option.map_eq_some_iff.mp h
            exact de_blt cx hh.1 hh.2 hb hne ha (fun e p => bor_star e p) (snd_list hB (fun e p => bor_star e p) ha)
          · cases h
        · cases h
  · cases h
theorem LY.refl {X : Cx} (h : X.calm = true) : LY X X := ⟨⟨rfl, rfl, rfl, rfl, rfl⟩, rfl, rfl, rfl, h⟩
theorem snd_lam {n : Nat} (ih : PEok tb (noLam P) B lv n) {X : Cx} {sc : Scope} (cx : Ctx X tb P B lv sc) {args : List Expr} {params : Arguments} {body : Expr} {scope : Scope} {g : Str} {lp pos : Pos} {c : C} (hla : lamArg args = some (params, body, scope))
    (h : lamC P sc (fun sc e => compE (noLam P) n sc e) g params body scope = some c) : DE X tb (.Call (.Name g lp) args [] pos) false (ev B c) := by
  unfold lamArg at hla
  split at hla
  · cases hla
    unfold lamC at h
    split at h
    · rename_i hh
      obtain ⟨h1, h2, h3, h4⟩ := hh
      split at h
      · rename_i hf hl
        obtain ⟨b, hb, rfl⟩ := Option.map_eq_some_iff.mp h
        refine cx.lam g hf hl X (LY.refl cx.calm) _ _ _ b _ _ _ h1 (by rw [cx.sc]; exact h2) h4 (by rw [cx.sc]; exact h3) fun Z z => (ih Z scope ⟨z.N.trans cx.N, cx.nd, z.sc, z.calm, z.room, ?_, fun g h hl => by cases hl⟩ body b hb).1
        obtain ⟨e1, e2, e3, e4, e5⟩ := z.ov
        show FxG Z.prog Z.w Z.K Z.mg Z.base tb (noLam P) B lv
        rw [e1, e2, e3, e4, e5]
        exact ⟨cx.fx.fns, cx.fx.cs, cx.fx.vs, cx.fx.free, cx.fx.dyn, cx.fx.exc, cx.fx.cls⟩
      · cases h
    · cases h
  · cases hla
/-- THE RULE of expressions -/
theorem sndAll (n : Nat) : ∀ P : CP, PEok tb P B lv n := by
  induction n with
  | zero => exact fun P X sc cx e c h => by cases h
  | succ n ihA =>
    intro P X sc cx e c h
    have ih := ihA P
    have hE : ∀ e c, compE P n sc e = some c → DE X tb e false (ev B c) := fun e c h => (ih X sc cx e c h).1
    have hT : ∀ e c, testC (compE P n sc) e = some c → DT X tb e (ev B c) := fun e c h => (ih X sc cx e c (testC_of h)).2 h
    have hB : ∀ e c, borC (compE P n sc) P sc e = some c → DE X tb e true (ev B c) := fun e c h => snd_bor cx hE h
    have nbC : ∀ {op : CmpOp} {b : Expr} {c : C}, borC (compE P n sc) P sc b = some c → behindInMarks op b = false := fun h => nb (k := true) (d := fun _ _ => .stuck) h fun es k p => set_none es k p
    cases e with
    | Name x p =>
      have q := snd_name (pos := p) cx (show nameC P sc x = some c from h)
      exact ⟨q, fun _ => dt_val q fun _ => rfl⟩
    | Constant k m p =>
      have q := snd_const (X := X) (tb := tb) (B := B) (n := m) (pos := p) (show constC k = some c from h)
      exact ⟨q, fun _ => dt_val q fun _ => rfl⟩
    | BinOp a op b p =>
      have h' : (match binOf op, borC (compE P n sc) P sc a, borC (compE P n sc) P sc b with
        | some o, some c, some d => some (.bin o c d)
        | _, _, _ => none) = some c := h
      split at h'
      · rename_i o c1 d1 h1 h2 h3
        cases h'
        have q := de_bin (pos := p) cx h1 (hB _ _ h2) (hB _ _ h3)
        exact ⟨q, fun _ => dt_val q fun _ => rfl⟩
      · cases h'
    | UnaryOp op a p =>
      cases op with
      | USub =>
        obtain ⟨c', hc, rfl⟩ := Option.map_eq_some_iff.mp (show (compE P n sc a).map .neg = some c from h)
        have q := de_neg (pos := p) (hE _ _ hc)
        exact ⟨q, fun _ => dt_val q fun _ => rfl⟩
      | Not =>
        obtain ⟨c', hc, rfl⟩ := Option.map_eq_some_iff.mp (show (testC (compE P n sc) a).map .not_ = some c from h)
        exact ⟨de_not (pos := p) (hE _ _ (testC_of hc)), fun _ => dt_not (hT _ _ hc)⟩
      | _ => cases h
    | BoolOp op es p =>
      have h' : boolC (testC (compE P n sc)) op es = some c := h
      exact ⟨snd_bool (fun e c h => hE e c (testC_of h)) h', fun _ W tk => (snd_boolT hT h' W tk).pt⟩
    | Compare a ops bs p =>
      match ops, bs, h with
      | [op], [b], h =>
        have h' : (match borC (compE P n sc) P sc a, borC (compE P n sc) P sc b with
          | some c, some d => some (.bin (cmpOf op) c d)
          | _, _ => none) = some c := h
        split at h'
        · rename_i c1 d1 h1 h2
          cases h'
          exact ⟨de_cmp cx (nbC h2) (hB _ _ h1) (hB _ _ h2), fun _ => dt_cmp cx (nbC h2) (hB _ _ h1) (hB _ _ h2)⟩
        · cases h'
      | [o1, o2], [b, d], h =>
        have h' : (match compE P n sc a, compE P n sc b, compE P n sc d with
          | some c1, some c2, some c3 => some (.chn c1 (cmpOf o1) c2 (cmpOf o2) c3)
          | _, _, _ => none) = some c := h
        split at h'
        · rename_i c1 c2 c3 h1 h2 h3
          cases h'
          have hm : lastMarks [o1, o2] [b, d] = false := by
            cases d with
            | Set es k p => rw [set_none] at h3; cases h3
            | _ => rfl
          exact ⟨de_chn cx hm (hE _ _ h1) (hE _ _ h2) (hE _ _ h3), fun _ => dt_chn cx hm (hE _ _ h1) (hE _ _ h2) (hE _ _ h3)⟩
        · cases h'
      | [], _, h => cases h
      | [_], [], h => cases h
      | [_], _ :: _ :: _, h => cases h
      | [_, _], [], h => cases h
      | [_, _], [_], h => cases h
      | [_, _], _ :: _ :: _ :: _, h => cases h
      | _ :: _ :: _ :: _, _, h => cases h
    | IfExp a b d p =>
      have h' : (match testC (compE P n sc) a, compE P n sc b, compE P n sc d with
        | some c1, some c2, some c3 => some (.ifx c1 c2 c3)
        | _, _, _ => none) = some c := h
      split at h'
      · rename_i c1 c2 c3 h1 h2 h3
        cases h'
        exact ⟨de_ifx (pos := p) (hT _ _ h1) (hE _ _ h2) (hE _ _ h3), fun z => by cases z⟩
      · cases h'
    | Tuple es k p =>
      have h' : (if es.length ≤ 1000 then (listC (compE P n sc) es).map .tup else none) = some c := h
      split at h'
      · rename_i hl
        obtain ⟨cs, hc, rfl⟩ := Option.map_eq_some_iff.mp h'
        have q := de_tup (n := k) (pos := p) hc hl (snd_list hE (fun e p => star_none e p) hc)
        exact ⟨q, fun _ => dt_val q fun _ => rfl⟩
      · cases h'
    | List es p =>
      have h' : (if es.length ≤ 1000 then (listC (compE P n sc) es).map (if P.nc.contains p.line = true then .newc else .lst) else none) = some c := h
      split at h'
      · rename_i hl
        obtain ⟨cs, hc, rfl⟩ := Option.map_eq_some_iff.mp h'
        have hA := snd_list hE (fun e p => star_none e p) hc
        by_cases hn : P.nc.contains p.line = true
        · rw [if_pos hn]
          have q := de_newc (pos := p) hc hl hA
          exact ⟨q, fun _ => dt_val q fun _ => rfl⟩
        · rw [if_neg hn]
          have q := de_lst (pos := p) hc hl hA
          exact ⟨q, fun _ => dt_val q fun _ => rfl⟩
      · cases h'
    | Subscript a b p =>
      have gen : (if plainIx b = true then (match borC (compE P n sc) P sc a, borC (compE P n sc) P sc b with
          | some c, some d => some (.bin .ix c d)
          | _, _ => none) else none) = some c → DE X tb (.Subscript a b p) false (ev B c) := fun h' => by
        split at h'
        · rename_i hp
          split at h'
          · rename_i c1 d1 h1 h2
            cases h'
            exact de_ix cx hp (hB _ _ h1) (hB _ _ h2)
          · cases h'
        · cases h'
      have q : DE X tb (.Subscript a b p) false (ev B c) := by
        cases b with
        | Slice lo hi st p2 =>
          cases st with
          | none =>
            have h' : (match borC (compE P n sc) P sc a, optC (compE P n sc) lo, optC (compE P n sc) hi with
              | some c, some l, some h => some (.sl c l h)
              | _, _, _ => none) = some c := h
            split at h'
            · rename_i c1 l1 h1 e1 e2 e3
              cases h'
              exact de_sl (hB _ _ e1) (snd_opt hE e2) (snd_opt hE e3)
            · cases h'
          | some _ => exact gen h
        | _ => exact gen h
      exact ⟨q, fun _ => dt_val q fun _ => rfl⟩
    | Call f args kws p =>
      cases f with
      | Name x q =>
        cases kws with
        | nil =>
          have h0 : (match lamArg args with
            | some (params, body, scope) => lamC P sc (fun sc e => compE (noLam P) n sc e) x params body scope
            | none => if isVis sc x = true then (if okName x = true ∧ args ≠ [] then (match ixOf P.N x with
              | some i => (listC (compE P n sc) args).map (.callv i)
              | none => none) else none) else callC (compE P n sc) (borC (compE P n sc) P sc) P sc x args) = some c := h
          split at h0
          · rename_i params body scope hla
            have r := snd_lam (lp := q) (pos := p) (ihA (noLam P)) cx hla h0
            exact ⟨r, fun _ => dt_val r fun _ => rfl⟩
          · have h' := h0
            split at h'
            · rename_i hv
              split at h'
              · rename_i hh
                split at h'
                · rename_i i hi
                  obtain ⟨as, ha, rfl⟩ := Option.map_eq_some_iff.mp h'
                  have r := de_callv (p := q) (pos := p) cx hh.1 hv hi hh.2 ha (fun e p => star_none e p) (snd_list hE (fun e p => star_none e p) ha)
                  exact ⟨r, fun _ => dt_val r fun _ => rfl⟩
                · cases h'
              · cases h'
            · have r := snd_call (p := q) (pos := p) cx hE h'
              exact ⟨r, fun _ => dt_val r fun _ => rfl⟩
        | cons _ _ => cases h
      | _ => cases h
    | ListComp elt gs scope p =>
      have q := snd_lc (pos := p) ih cx h
      have r := df_fz q.df q.ls
      exact ⟨r, fun _ => dt_val r fun _ => rfl⟩
    | _ => cases h
theorem snd (n : Nat) : PEok tb P B lv n := sndAll n P
end
end Ev

end -- EvK
section -- EvL
namespace Ev
open PySem PySem.Spec PyProof.Rows L2
section
variable (K : PySem.W.Frag) (mg : Str → Option Value) (tb : List (Addr × Str)) (W : WX) (A0 : List Addr) (H0 : Hp)
/-- the state between two statements; (A0, H0): the def's start -/
structure SS (A : List Addr) (H : Hp) (ρ : List Sl) (σ : L2.St) (S : Sto) : Prop where
  sl : SlE K mg A H ρ σ
  st : SRep K mg tb A H S
  own : ∀ (i : Nat) (xs : List PV) (a : Addr), ρ[i]? = some (.opn xs) → σ[i]? = some (some (.ref a)) → Fr H0 a
  stp : Stp A0 H0 A H
def QE (A : List Addr) (H : Hp) (q : Qr) (D : Ends) : Prop := match q with
  | .ok (.nx ρ) S => ∀ σ' H' A', Kp A H A' H' → SS K mg tb A0 H0 A' H' ρ σ' S → D.nx σ' H'
  | .ok (.rt p) S => ∀ v H' A', Kp A H A' H' → Stp A0 H0 A' H' → SRep K mg tb A' H' S → Rp K mg A' H' p v → D.rt v H'
  | .ex x ρ S => ∀ σ' H' A' C dd, Kp A H A' H' → SS K mg tb A0 H0 A' H' ρ σ' S → mg x = some (.ref C) → dOk x dd → W (.ref C) dd σ' H'
  | .stuck => False
def tS (d : List Sl → Sto → Qr) : TS := fun D σ H => ∃ ρ S A, SS K mg tb A0 H0 A H ρ σ S ∧ QE K mg tb W A0 H0 A H (d ρ S) D
end
def DS (X : Cx) (tb : List (Addr × Str)) (st : Stmt) (d : List Sl → Sto → Qr) : Prop := ∀ A0 H0 W, L2N.Takes X W → PS X st (tS X.K X.mg tb W A0 H0 d)
def DSs (X : Cx) (tb : List (Addr × Str)) (st : List Stmt) (d : List Sl → Sto → Qr) : Prop := ∀ A0 H0 W, L2N.Takes X W → PSs X st (tS X.K X.mg tb W A0 H0 d)
theorem pss_imp {X : Cx} {e : List Stmt} {t t' : TS} (h : PSs X e t) (f : ∀ D σ H, t' D σ H → t D σ H) : PSs X e t' := ⟨fun pins s σ H D I q => h.run pins s σ H D I (f D σ H q)⟩
section
variable {K : PySem.W.Frag} {mg : Str → Option Value} {tb : List (Addr × Str)} {W : WX} {A0 A A1 : List Addr} {H0 H H1 : Hp} {ρ : List Sl} {σ : L2.St} {S S1 : Sto} {D : Ends}
theorem SS.to (ss : SS K mg tb A0 H0 A H ρ σ S) (s : Stp A H A1 H1) (hS : SRep K mg tb A1 H1 S1) : SS K mg tb A0 H0 A1 H1 ρ σ S1 := ⟨ss.sl.stp s, hS, ss.own, ss.stp.trans s⟩
theorem QE.mono (k : Kp A H A1 H1) {q : Qr} (h : QE K mg tb W A0 H0 A H q D) : QE K mg tb W A0 H0 A1 H1 q D := by
  cases q with
  | ok f S =>
    cases f with
    | nx ρ => exact fun σ' H' A' k' ss => h σ' H' A' (k.trans k') ss
    | rt p => exact fun v H' A' k' s hS r => h v H' A' (k.trans k') s hS r
  | ex x ρ S => exact fun σ' H' A' C dd k' ss hm => h σ' H' A' C dd (k.trans k') ss hm
  | stuck => exact h
theorem to_bind {d : List Sl → Sto → R PV} {f : PV → Sto → Qr} {k' : Bool} {Q1 : VK} (ss : SS K mg tb A0 H0 A H ρ σ S) (h : QE K mg tb W A0 H0 A H ((d ρ S).to ρ f) D)
    (g : ∀ p S1 v H1 A1, d ρ S = .ok p S1 → Stp A H A1 H1 → SS K mg tb A0 H0 A1 H1 ρ σ S1 → Rk k' K mg A1 H1 p v → QE K mg tb W A0 H0 A1 H1 (f p S1) D → Q1 v H1) : tE K mg tb W k' d σ H Q1 := by
  refine ⟨ρ, S, A, ss.sl, ss.st, ?_⟩
  cases e : d ρ S with
  | ok p S1 =>
    rw [e] at h
    exact fun v H' A' s hS' hr => g p S1 v H' A' e s (ss.to s hS') hr (QE.mono s.kp (show QE K mg tb W A0 H0 A H (f p S1) D from h))
  | ex x S1 =>
    rw [e] at h
    exact fun H' A' C dd s hS' hm => h σ H' A' C dd s.kp (ss.to s hS') hm
  | stuck => rw [e] at h; exact h
theorem tos_bind {d : List Sl → Sto → R (List PV)} {f : List PV → Sto → Qr} {k' : Bool} {Q1 : List V → Hp → Prop} (ss : SS K mg tb A0 H0 A H ρ σ S) (h : QE K mg tb W A0 H0 A H ((d ρ S).to ρ f) D)
    (g : ∀ p S1 v H1 A1, d ρ S = .ok p S1 → Stp A H A1 H1 → SS K mg tb A0 H0 A1 H1 ρ σ S1 → (if k' = true then RbL K mg A1 H1 p v else RpL K mg A1 H1 p v) → QE K mg tb W A0 H0 A1 H1 (f p S1) D → Q1 v H1) : tEs K mg tb W k' d σ H Q1 := by
  refine ⟨ρ, S, A, ss.sl, ss.st, ?_⟩
  cases e : d ρ S with
  | ok p S1 =>
    rw [e] at h
    exact fun v H' A' s hS' hr => g p S1 v H' A' e s (ss.to s hS') hr (QE.mono s.kp (show QE K mg tb W A0 H0 A H (f p S1) D from h))
  | ex x S1 =>
    rw [e] at h
    exact fun H' A' C dd s hS' hm => h σ H' A' C dd s.kp (ss.to s hS') hm
  | stuck => rw [e] at h; exact h
theorem toT_bind {d : List Sl → Sto → R PV} {f : Bool → Sto → Qr} {Q1 : Bool → Hp → Prop} (ss : SS K mg tb A0 H0 A H ρ σ S) (h : QE K mg tb W A0 H0 A H ((d ρ S).to ρ fun v S1 => truthQ v fun k => f k S1) D)
    (g : ∀ b S1 H1 A1, Stp A H A1 H1 → SS K mg tb A0 H0 A1 H1 ρ σ S1 → QE K mg tb W A0 H0 A1 H1 (f b S1) D → Q1 b H1) : tT K mg tb W d σ H Q1 := by
  refine ⟨ρ, S, A, ss.sl, ss.st, ?_⟩
  cases e : d ρ S with
  | ok p S1 =>
    rw [e] at h
    cases p with
    | bl b => exact fun v H' A' s hS' hr => ⟨b, by simpa [Rk, Rp] using hr, g b S1 H' A' s (ss.to s hS') (QE.mono s.kp (show QE K mg tb W A0 H0 A H (f b S1) D from h))⟩
    | _ => exact False.elim h
  | ex x S1 =>
    rw [e] at h
    exact fun H' A' C dd s hS' hm => h σ H' A' C dd s.kp (ss.to s hS') hm
  | stuck => rw [e] at h; exact h
theorem QE.nx (h : QE K mg tb W A0 H0 A H (.ok (.nx ρ) S) D) (ss : SS K mg tb A0 H0 A H ρ σ S) : D.nx σ H := h σ H A (Kp.refl _ _) ss
/-- one after another: what the first leaves -/
theorem QE.seq {q : Qr} {f : List Sl → Sto → Qr} (h : QE K mg tb W A0 H0 A H (q.seq f) D) (N : L2.St → Hp → Prop)
    (hN : ∀ ρ' S' σ' H' A', Kp A H A' H' → SS K mg tb A0 H0 A' H' ρ' σ' S' → QE K mg tb W A0 H0 A' H' (f ρ' S') D → N σ' H') (ct bk : L2.St → Hp → Prop) : QE K mg tb W A0 H0 A H q { nx := N, rt := D.rt, bk := bk, ct := ct } := by
  cases q with
  | ok g S =>
    cases g with
    | nx ρ => exact fun σ' H' A' k ss => hN ρ S σ' H' A' k ss (QE.mono k (show QE K mg tb W A0 H0 A H (f ρ S) D from h))
    | rt p => exact h
  | ex x ρ S => exact h
  | stuck => exact h
theorem setL_opn : ∀ {is : List Nat} {vs : List PV} {ρ : List Sl} {i : Nat} {xs : List PV}, vs.length = is.length → (setL is vs ρ)[i]? = some (.opn xs) → i ∉ is ∧ ρ[i]? = some (.opn xs)
  | [], [], ρ, i, xs, _, e => ⟨by simp, by unfold setL at e; exact e⟩
  | [], _ :: _, _, _, _, h, _ => by simp at h
  | _ :: _, [], _, _, _, h, _ => by simp at h
  | j :: is, v :: vs, ρ, i, xs, h, e => by
    unfold setL at e
    obtain ⟨h1, h2⟩ := setL_opn (by simpa using h) e
    by_cases hj : j = i
    · subst hj
      by_cases hl : j < ρ.length
      · rw [List.getElem?_set_self hl] at h2; cases h2
      · rw [List.getElem?_eq_none (by simpa using hl)] at h2; cases h2
    · rw [List.getElem?_set_ne hj] at h2
      exact ⟨by simp only [List.mem_cons, not_or]; exact ⟨fun z => hj z.symm, h1⟩, h2⟩
theorem bindT_opn {t : Tg} {p : PV} {ρ' : List Sl} {i : Nat} {xs : List PV} (h : bindT t p ρ = some ρ') (e : ρ'[i]? = some (.opn xs)) : i ∉ tgIx t ∧ ρ[i]? = some (.opn xs) := by
  unfold bindT at h
  split at h
  · rename_i j
    cases h
    obtain ⟨h1, h2⟩ := setL_opn (is := [j]) (vs := [p]) (ρ := ρ) rfl (by simpa [setL] using e)
    exact ⟨h1, h2⟩
  · split at h
    · split at h
      · cases h
        exact setL_opn (by assumption) e
      · cases h
    · cases h
theorem SS.bound {t : Tg} {p : PV} {ρ' : List Sl} {σ' : L2.St} (ss : SS K mg tb A0 H0 A H ρ σ S) (h : bindT t p ρ = some ρ') (hs : SlE K mg A H ρ' σ') (hw : ∀ own, (∀ i ∈ tgIx t, i ∈ own) → wipe σ' own = wipe σ own) : SS K mg tb A0 H0 A H ρ' σ' S :=
  ⟨hs, ss.st, fun i xs a e1 e2 => by
    obtain ⟨n, e⟩ := bindT_opn h e1
    have q := hw (tgIx t) fun _ h => h
    have q1 := congrArg (·[i]?) q
    simp only [wipe_get] at q1
    rw [if_neg (fun z => n z.1), if_neg (fun z => n z.1), e2] at q1
    exact ss.own i xs a e q1.symm, ss.stp⟩
/-- a slot gets a value -/
theorem SS.setVal (ss : SS K mg tb A0 H0 A H ρ σ S) (i : Nat) {p : PV} {v : V} (r : Rp K mg A H p v) : SS K mg tb A0 H0 A H (ρ.set i (.val p)) (σ.set i (some v)) S :=
  ⟨ss.sl.setVal i r, ss.st, fun j xs a e1 e2 => by
    obtain ⟨n, e⟩ := setL_opn (is := [i]) (vs := [p]) (ρ := ρ) rfl (by simpa [setL] using e1)
    rw [List.getElem?_set_ne (fun z => n (by simp [z]))] at e2
    exact ss.own j xs a e e2, ss.stp⟩
theorem SS.setNo (ss : SS K mg tb A0 H0 A H ρ σ S) (i : Nat) {o : Option V} : SS K mg tb A0 H0 A H (ρ.set i .no) (σ.set i o) S :=
  ⟨ss.sl.setNo i, ss.st, fun j xs a e1 e2 => by
    by_cases hj : i = j
    · subst hj
      by_cases hi : i < ρ.length
      · rw [List.getElem?_set_self hi] at e1; cases e1
      · rw [List.getElem?_eq_none (by simpa using hi)] at e1; cases e1
    · rw [List.getElem?_set_ne hj] at e1 e2
      exact ss.own j xs a e1 e2, ss.stp⟩
/-- a slot gets a new list of one's own -/
theorem SS.setOpn (ss : SS K mg tb A0 H0 A H ρ σ S) (i : Nat) {xs : List PV} {a : Addr} {vs : List V} (s : Stp A H A1 H1) (hS : SRep K mg tb A1 H1 S1) (hn : Fr H a) (hd : H1 a = some (.lst vs)) (nA : a ∉ A1) (r : RpL K mg A1 H1 xs vs) :
    SS K mg tb A0 H0 A1 H1 (ρ.set i (.opn xs)) (σ.set i (some (.ref a))) S1 := by
  have sl := ss.sl.stp s
  have old : ∀ (j : Nat) (ys : List PV) (b : Addr), ρ[j]? = some (.opn ys) → σ[j]? = some (some (.ref b)) → b ≠ a := fun j ys b e1 e2 z => by
    obtain ⟨o, q1, b', vs', q2, q3, _⟩ := ss.sl.at_ j _ e1
    rw [e2] at q1
    cases q1
    cases q2
    exact hn.ne q3 nofun z
  refine ⟨⟨by simp [sl.len], fun j x e => ?_, fun j k xs' ys' b e1 e2 e3 e4 => ?_⟩, hS, fun j xs' b e1 e2 => ?_, ss.stp.trans s⟩
  · by_cases hj : i = j
    · subst hj
      have hi : i < ρ.length := by
        have := (List.getElem?_eq_some_iff.mp e).1
        simpa using this
      rw [List.getElem?_set_self hi] at e
      cases e
      exact ⟨_, List.getElem?_set_self (by rw [← sl.len]; exact hi), a, vs, rfl, hd, nA, r⟩
    · rw [List.getElem?_set_ne hj] at e
      obtain ⟨o, q1, q2⟩ := sl.at_ j x e
      exact ⟨o, by rw [List.getElem?_set_ne hj]; exact q1, q2⟩
  · by_cases hj : i = j
    · by_cases hk : i = k
      · rw [← hj, ← hk]
      · rw [List.getElem?_set_ne hk] at e2 e4
        subst hj
        have hi : i < σ.length := by
          have := (List.getElem?_eq_some_iff.mp e3).1
          simpa using this
        rw [List.getElem?_set_self hi] at e3
        cases e3
        exact absurd rfl (old k ys' a e2 e4)
    · rw [List.getElem?_set_ne hj] at e1 e3
      by_cases hk : i = k
      · subst hk
        have hi : i < σ.length := by
          have := (List.getElem?_eq_some_iff.mp e4).1
          simpa using this
        rw [List.getElem?_set_self hi] at e4
        cases e4
        exact absurd rfl (old j xs' a e1 e3)
      · rw [List.getElem?_set_ne hk] at e2 e4
        exact sl.one j k xs' ys' b e1 e2 e3 e4
  · by_cases hj : i = j
    · subst hj
      have hi : i < σ.length := by
        have := (List.getElem?_eq_some_iff.mp e2).1
        simpa using this
      rw [List.getElem?_set_self hi] at e2
      cases e2
      exact ss.stp.dom a hn
    · rw [List.getElem?_set_ne hj] at e1 e2
      exact ss.own j xs' b e1 e2
/-- an open list is changed in place -/
theorem SS.putOpn (ss : SS K mg tb A0 H0 A H ρ σ S) {i : Nat} {xs ys : List PV} {a : Addr} {us : List V} (e1 : ρ[i]? = some (.opn xs)) (e2 : σ[i]? = some (some (.ref a))) (r : RpL K mg A H ys us) :
    Kp A H A (upd H a (.lst us)) ∧ SS K mg tb A0 H0 A (upd H a (.lst us)) (ρ.set i (.opn ys)) σ S := by
  obtain ⟨o, q1, a', vs, q2, q3, q4, q5⟩ := ss.sl.at_ i _ e1
  rw [e2] at q1
  cases q1
  cases q2
  have kp : Kp A H A (upd H a (.lst us)) := Kp.put q3
  have hi : i < ρ.length := (List.getElem?_eq_some_iff.mp e1).1
  refine ⟨kp, ⟨⟨by simp [ss.sl.len], fun j x e => ?_, fun j k xs' ys' b f1 f2 f3 f4 => ?_⟩, ss.st.put q3 q4, fun j xs' b f1 f2 => ?_, ss.stp.put (ss.own i xs a e1 e2)⟩⟩
  · by_cases hj : i = j
    · subst hj
      rw [List.getElem?_set_self hi] at e
      cases e
      exact ⟨_, e2, a, us, rfl, upd_same, q4, RpL.kp kp _ _ r⟩
    · rw [List.getElem?_set_ne hj] at e
      obtain ⟨o, p1, p2⟩ := ss.sl.at_ j x e
      refine ⟨o, p1, ?_⟩
      cases x with
      | no => trivial
      | val p =>
        obtain ⟨v, f, h⟩ := p2
        exact ⟨v, f, Rp.kp kp _ _ h⟩
      | opn zs =>
        obtain ⟨b, ws, f, h1, h2, h3⟩ := p2
        have ne : b ≠ a := fun z => hj (ss.sl.one i j xs zs a e1 e e2 (by rw [p1, f, z]))
        exact ⟨b, ws, f, by rw [upd_ne ne]; exact h1, h2, RpL.kp kp _ _ h3⟩
  · have aux : ∀ {j : Nat} {xs' : List PV}, (ρ.set i (.opn ys))[j]? = some (.opn xs') → ∃ zs, ρ[j]? = some (.opn zs) := fun {j xs'} f => by
      by_cases hj : i = j
      · subst hj; exact ⟨xs, e1⟩
      · rw [List.getElem?_set_ne hj] at f; exact ⟨_, f⟩
    obtain ⟨z1, g1⟩ := aux f1
    obtain ⟨z2, g2⟩ := aux f2
    exact ss.sl.one j k z1 z2 b g1 g2 f3 f4
  · have aux : ∃ zs, ρ[j]? = some (.opn zs) := by
      by_cases hj : i = j
      · subst hj; exact ⟨xs, e1⟩
      · rw [List.getElem?_set_ne hj] at f1; exact ⟨_, f1⟩
    obtain ⟨z1, g1⟩ := aux
    exact ss.own j z1 b g1 f2
/-- .. is frozen -/
theorem SS.frzOpn (ss : SS K mg tb A0 H0 A H ρ σ S) {i : Nat} {xs : List PV} {a : Addr} {vs : List V} (e1 : ρ[i]? = some (.opn xs)) (e2 : σ[i]? = some (some (.ref a))) (hd : H a = some (.lst vs)) (od : Obj) :
    Kp A H A (upd H a (.frz od (.lst vs))) ∧ SS K mg tb A0 H0 A (upd H a (.frz od (.lst vs))) (ρ.set i (.val (.lst xs))) σ S := by
  obtain ⟨o, q1, a', vs', q2, q3, q4, q5⟩ := ss.sl.at_ i _ e1
  rw [e2] at q1
  cases q1
  cases q2
  rw [hd] at q3
  cases q3
  have kp : Kp A H A (upd H a (.frz od (.lst vs))) := Kp.put hd
  have hi : i < ρ.length := (List.getElem?_eq_some_iff.mp e1).1
  have aux : ∀ {j : Nat} {xs' : List PV}, (ρ.set i (.val (.lst xs)))[j]? = some (.opn xs') → i ≠ j ∧ ρ[j]? = some (.opn xs') := fun {j xs'} f => by
    by_cases hj : i = j
    · subst hj; rw [List.getElem?_set_self hi] at f; cases f
    · rw [List.getElem?_set_ne hj] at f; exact ⟨hj, f⟩
  refine ⟨kp, ⟨⟨by simp [ss.sl.len], fun j x e => ?_, fun j k xs' ys' b f1 f2 f3 f4 => ss.sl.one j k xs' ys' b (aux f1).2 (aux f2).2 f3 f4⟩, ss.st.put hd q4, fun j xs' b f1 f2 => ss.own j xs' b (aux f1).2 f2, ss.stp.put (ss.own i xs a e1 e2)⟩⟩
  by_cases hj : i = j
  · subst hj
    rw [List.getElem?_set_self hi] at e
    cases e
    refine ⟨_, e2, .ref a, rfl, ?_⟩
    simp only [Rp]
    exact ⟨a, vs, rfl, ⟨od, upd_same⟩, RpL.kp kp _ _ q5⟩
  · rw [List.getElem?_set_ne hj] at e
    obtain ⟨o, p1, p2⟩ := ss.sl.at_ j x e
    refine ⟨o, p1, ?_⟩
    cases x with
    | no => trivial
    | val p =>
      obtain ⟨v, f, h⟩ := p2
      exact ⟨v, f, Rp.kp kp _ _ h⟩
    | opn zs =>
      obtain ⟨b, ws, f, h1, h2, h3⟩ := p2
      have ne : b ≠ a := fun z => hj (ss.sl.one i j xs zs a e1 e e2 (by rw [p1, f, z]))
      exact ⟨b, ws, f, by rw [upd_ne ne]; exact h1, h2, RpL.kp kp _ _ h3⟩
/-- a list of the store is written -/
theorem SRep.setk {k : Nat} {xs ys : List PV} {p : Addr} {vs us : List V} (r : SRep K mg tb A H S) (hk : A[k]? = some p) (hs : lstAt S k = some xs) (hd : H p = some (.lst vs)) (hy : RpL K mg A H ys us) : Stp A H A (upd H p (.lst us)) ∧ SRep K mg tb A (upd H p (.lst us)) (S.set k (.lst ys)) := by
  have s : Stp A H A (upd H p (.lst us)) := by
    refine ⟨fun b o h n q => ?_, fun b xs h => ?_, fun b o u h => ?_, fun b o h => ?_, fun b h => ?_, [], by simp, by simp⟩
    · rw [upd_ne (fun z => n (by rw [z]; exact List.mem_of_getElem? hk))]; exact h
    · rw [upd_ne (ne_of h hd nofun)]; exact h
    · rw [upd_ne (ne_of h hd nofun)]; exact h
    · rw [upd_ne (ne_of h hd nofun)]; exact h
    · unfold Fr at h ⊢
      by_cases e : b = p
      · rw [e, upd_same] at h
        rcases h with h | ⟨ps, h⟩ <;> cases h
      · rw [upd_ne e] at h; exact h
  refine ⟨s, ⟨by simp [r.len], r.nd, fun j a c e1 e2 => ?_, tabs_put r.tabs hd⟩⟩
  by_cases hj : k = j
  · subst hj
    rw [hk] at e1
    cases e1
    have hlt : k < S.length := by
      rw [← r.len]
      exact (List.getElem?_eq_some_iff.mp hk).1
    rw [List.getElem?_set_self hlt] at e2
    cases e2
    exact ⟨us, upd_same, RpL.stp s _ _ hy⟩
  · rw [List.getElem?_set_ne hj] at e2
    have ne : a ≠ p := fun z => by
      rw [z] at e1
      have h1 := (List.getElem?_eq_some_iff.mp hk)
      have h2 := (List.getElem?_eq_some_iff.mp e1)
      exact hj ((List.getElem_inj r.nd).mp (h1.2.trans h2.2.symm))
    have q := r.at_ j a c e1 e2
    cases c with
    | lst xs =>
      obtain ⟨vs, q1, q2⟩ := q
      exact ⟨vs, by rw [upd_ne ne]; exact q1, RpL.stp s _ _ q2⟩
    | obj c fs =>
      obtain ⟨C, dx, ws, q0, q1, q2⟩ := q
      exact ⟨C, dx, ws, q0, by rw [upd_ne ne]; exact q1, FsR.stp s q2⟩
end
end Ev

end -- EvL
section -- EvM
namespace Ev
open PySem PySem.Spec PyProof.Rows L2
structure CtxS (X : Cx) (tb : List (Addr × Str)) (P : CP) (B : Amb) (lv : Nat) (sc : Scope) : Prop where
  cx : Ctx X tb P B lv sc
  pas : PassesOwn (model X.prog X.w) X.A X.env X.xe
  tg : TgOk X sc
  stk : X.stack = X.env :: X.outer
  frm : X.env.frame = some X.env.locals
  kd : sc.kind = .function
section
variable {X : Cx} {tb : List (Addr × Str)} {P : CP} {B : Amb} {lv : Nat} {sc : Scope}
theorem CtxS.tr (c : CtxS X tb P B lv sc) {pn : List (Addr × Obj)} {xe : Value → Shared → Prop} (h : PassesOwn (model X.prog X.w) X.A X.env xe) : CtxS (X.tr pn xe) tb P B lv sc :=
  ⟨⟨c.cx.N, c.cx.nd, c.cx.sc, c.cx.calm, c.cx.room, ⟨c.cx.fx.fns, c.cx.fx.cs, c.cx.fx.vs, c.cx.fx.free, c.cx.fx.dyn, c.cx.fx.exc, c.cx.fx.cls⟩, fun g h hl Y ly => c.cx.lam g h hl Y ⟨ly.ov, ly.A, ly.code, ly.qual, ly.calm⟩⟩, h, c.tg, c.stk, c.frm, c.kd⟩
theorem CtxS.nN (c : CtxS X tb P B lv sc) : X.N.Nodup := by rw [c.cx.N]; exact c.cx.nd
def FzN (N : L2.St → Hp → Prop) : L2.St → Hp → Prop := fun σ H => N σ H ∨ ∃ p vs, H p = some (.lst vs) ∧ ∀ o, N σ (upd H p (.frz o (.lst vs)))
theorem fzN_inv {pins : List (Addr × Obj)} {σ : L2.St} {H : Hp} {s : Shared} {N : L2.St → Hp → Prop} (I : Inv X pins σ H s) (h : FzN N σ H) : ∃ H', Inv X pins σ H' s ∧ N σ H' := by
  rcases h with h | ⟨p, vs, hp, q⟩
  · exact ⟨H, I, h⟩
  · obtain ⟨od, I'⟩ := I.lock hp trivial
    exact ⟨_, I', q od⟩
theorem ps_fzN {st : Stmt} {t : TS} (h : PS X st t) : PS X st (fun D => t { D with nx := FzN D.nx }) := by
  refine ⟨fun pins s σ H D I q => thn (h.run pins s σ H _ I q) fun f s1 q => ?_⟩
  cases f with
  | next =>
    obtain ⟨σ', H', I', q⟩ := q
    obtain ⟨H2, I2, q2⟩ := fzN_inv I' q
    exact ⟨σ', H2, I2, q2⟩
  | _ => exact q
theorem pss_fz0 {sts : List Stmt} {t : TS} (h : PSs X sts t) : PSs X sts (fun D => FzN (t D)) := by
  refine ⟨fun pins s σ H D I q => ?_⟩
  obtain ⟨H2, I2, q2⟩ := fzN_inv I q
  exact h.run pins s σ H2 D I2 q2
theorem ds_set (c : CtxS X tb P B lv sc) {x : Str} {i : Nat} {e : Expr} {d : C} {px pos : Pos} (hx : isLocal sc x = true) (hi : ixOf P.N x = some i) (he : DE X tb e false (ev B d)) (hs : swapsWith e (some (.Name x px)) pos.line X.env = pure false) : DS X tb (.Assign [.Name x px] e pos) (exS B (.set i d)) := fun A0 H0 W tk => by
  obtain ⟨o1, o2⟩ := c.tg x hx
  refine ps_imp (ps_set (i := i) c.nN (by rw [c.cx.N]; exact ixOf_some hi) o1 (he W tk) hs o2) fun D σ H ⟨ρ, S, A, ss, q⟩ => ?_
  simp only [exS] at q
  exact to_bind (k' := false) ss q fun p S1 v H1 A1 _ s ss1 r q1 => QE.nx q1 (ss1.setVal i r)
/-- name = a new list -/
theorem da1_df (c : CtxS X tb P B lv sc) {x : Str} {i : Nat} {e : Expr} {d : List Sl → Sto → R PV} {px pos : Pos} (hx : isLocal sc x = true) (hi : ixOf P.N x = some i) (he : DF X tb e d) (hs : swapsWith e (some (.Name x px)) pos.line X.env = pure false) : DA1 X tb (.Assign [.Name x px] e pos) i d := fun W tk => by
  obtain ⟨o1, o2⟩ := c.tg x hx
  exact ps_set (i := i) c.nN (by rw [c.cx.N]; exact ixOf_some hi) o1 (he W tk) hs o2
section
variable {K : PySem.W.Frag} {mg : Str → Option Value} {W : WX} {A0 A : List Addr} {H0 H : Hp} {ρ : List Sl} {σ : L2.St} {S : Sto} {D : Ends}
theorem toF_bind {d : List Sl → Sto → R PV} {f : PV → Sto → Qr} {Q1 : VK} (ss : SS K mg tb A0 H0 A H ρ σ S) (h : QE K mg tb W A0 H0 A H ((d ρ S).to ρ f) D)
    (g : ∀ xs S1 a vs H1 A1, d ρ S = .ok (.lst xs) S1 → Stp A H A1 H1 → SRep K mg tb A1 H1 S1 → Fr H a → H1 a = some (.lst vs) → a ∉ A1 → RpL K mg A1 H1 xs vs → QE K mg tb W A0 H0 A1 H1 (f (.lst xs) S1) D → Q1 (.ref a) H1) : tF K mg tb W d σ H Q1 := by
  refine ⟨ρ, S, A, ss.sl, ss.st, ?_⟩
  cases e : d ρ S with
  | ok p S1 =>
    rw [e] at h
    intro xs ex a vs H' A' s hS' hn hd nA hr
    subst ex
    exact g xs S1 a vs H' A' e s hS' hn hd nA hr (QE.mono s.kp (show QE K mg tb W A0 H0 A H (f (.lst xs) S1) D from h))
  | ex x S1 =>
    rw [e] at h
    exact fun H' A' C dd s hS' hm => h σ H' A' C dd s.kp (ss.to s hS') hm
  | stuck => rw [e] at h; exact h
end
theorem ds_seto {st : Stmt} {i : Nat} {d : C} (h : DA1 X tb st i (ev B d)) : DS X tb st (exS B (.seto i d)) := fun A0 H0 W tk =>
  ps_imp (h W tk) fun D σ H ⟨ρ, S, A, ss, q⟩ => by
    simp only [exS] at q
    exact toF_bind ss q fun xs S1 a vs H1 A1 _ s hS1 hn hd nA hr q1 => QE.nx q1 (ss.setOpn i s hS1 hn hd nA hr)
theorem ds_setf {st : Stmt} {i : Nat} {d : C} (h : DA1 X tb st i (ev B d)) : DS X tb st (exS B (.set i d)) := fun A0 H0 W tk =>
  ps_imp (ps_fzN (h W tk)) fun D σ H ⟨ρ, S, A, ss, q⟩ => by
    simp only [exS] at q
    show tF X.K X.mg tb W (ev B d) σ H fun x H1 => gName i x σ H1 (FzN D.nx)
    refine toF_bind ss q fun xs S1 a vs H1 A1 _ s hS1 hn hd nA hr q1 => .inr ⟨a, vs, hd, fun o => ?_⟩
    have kp : Kp A1 H1 A1 (upd H1 a (.frz o (.lst vs))) := Kp.put hd
    have s2 : Stp A H A1 (upd H1 a (.frz o (.lst vs))) := s.put hn
    have q2 := QE.mono kp q1
    refine QE.nx q2 ((ss.to s2 (hS1.put hd nA)).setVal i ?_)
    simp only [Rp]
    exact ⟨a, vs, rfl, ⟨o, upd_same⟩, RpL.kp kp _ _ hr⟩
theorem ds_unp (c : CtxS X tb P B lv sc) {tg e : Expr} {t : Tg} {d : C} {pos : Pos} (hg : tgC P sc tg = some t) (he : DE X tb e false (ev B d)) (hs : swapsWithSole [tg] e pos.line X.env = pure false) (hw : swappedStores [tg] e X.env = pure none) : DS X tb (.Assign [tg] e pos) (exS B (.unp t d)) := fun A0 H0 W tk => by
  have h1 : (assignEach [tg] X.env).map (·.2) = [assign tg X.env] := by
    cases tg <;> first | rfl | cases hg
  refine ps_imp (ps_asg (he W tk) (snd_tg c.cx c.tg hg) hs hw h1) fun D σ H ⟨ρ, S, A, ss, q⟩ => ?_
  simp only [exS] at q
  refine to_bind (k' := false) ss q fun p S1 v H1 A1 _ s ss1 r q1 => ?_
  unfold bindQ at q1
  split at q1
  · rename_i ρ' hb
    exact ⟨ρ, A1, p, ρ', ss1.sl, r, hb, fun σ' hσ' hw => QE.nx q1 (ss1.bound hb hσ' hw)⟩
  · exact q1.elim
theorem ds_par2 (c : CtxS X tb P B lv sc) {x y : Str} {i j : Nat} {a b : Expr} {as : Cs} {f : Expr → Option C} {px py pt pt2 pos : Pos} {kt k2 : Nat} (hi : ixOf P.N x = some i) (hj : ixOf P.N y = some j) (hij : i ≠ j) (hx : sc.names.lookup x = some .local) (hy : sc.names.lookup y = some .local)
    (hl : listC f [a, b] = some as) (ha : DA X tb [a, b] false (evs B as)) (hw : swappedStores [.Tuple [.Name x px, .Name y py] kt pt] (.Tuple [a, b] k2 pt2) X.env = pure (some [x, y])) :
    DS X tb (.Assign [.Tuple [.Name x px, .Name y py] kt pt] (.Tuple [a, b] k2 pt2) pos) (exS B (.unp (.tp [i, j]) (.tup as))) := fun A0 H0 W tk => by
  refine ps_imp (ps_par (i := i) (j := j) c.cx.calm c.nN (by rw [c.cx.N]; exact ixOf_some hi) (by rw [c.cx.N]; exact ixOf_some hj) hij (by rw [c.cx.sc]; exact hx) (by rw [c.cx.sc]; exact hy) (ha W tk) hw) fun D σ H ⟨ρ, S, A, ss, q⟩ => ?_
  simp only [exS, ev] at q
  have q' : QE X.K X.mg tb W A0 H0 A H ((evs B as ρ S).to ρ fun vs S1 => bindQ (.tp [i, j]) (.tup vs) ρ fun ρ' => .ok (.nx ρ') S1) D := by
    cases e : evs B as ρ S with
    | ok p S1 => rw [e] at q; exact q
    | ex x S1 => rw [e] at q; exact q
    | stuck => rw [e] at q; exact q
  refine tos_bind (k' := false) ss q' fun ps S1 vs H1 A1 he s ss1 r q1 => ?_
  have r : RpL X.K X.mg A1 H1 ps vs := r
  obtain ⟨p1, p2, rfl⟩ := len2 (listC_len hl he)
  obtain ⟨v, w, rfl, r1, r2⟩ := rpl2 r
  exact ⟨v, w, rfl, QE.nx q1 ((ss1.setVal i r1).setVal j r2)⟩
theorem rpl3 {K : PySem.W.Frag} {mg : Str → Option Value} {A : List Addr} {H : Hp} {p q r : PV} {vs : List V} (h : RpL K mg A H [p, q, r] vs) : ∃ v u w, vs = [v, u, w] ∧ Rp K mg A H p v ∧ Rp K mg A H q u ∧ Rp K mg A H r w := by
  simp only [RpL] at h
  obtain ⟨v, _, rfl, h1, u, _, rfl, h2, w, _, rfl, h3, rfl⟩ := h
  exact ⟨v, u, w, rfl, h1, h2, h3⟩
theorem len3 {α : Type} {l : List α} (h : l.length = 3) : ∃ a b c, l = [a, b, c] := match l, h with
  | [a, b, c], _ => ⟨a, b, c, rfl⟩
theorem ds_par3 (c : CtxS X tb P B lv sc) {x y z : Str} {i j l : Nat} {a b d : Expr} {as : Cs} {f : Expr → Option C} {px py pz pt pt2 pos : Pos} {kt k2 : Nat} (hi : ixOf P.N x = some i) (hj : ixOf P.N y = some j) (hl' : ixOf P.N z = some l) (hij : i ≠ j) (hil : i ≠ l) (hjl : j ≠ l)
    (hx : sc.names.lookup x = some .local) (hy : sc.names.lookup y = some .local) (hz : sc.names.lookup z = some .local)
    (hl : listC f [a, b, d] = some as) (ha : DA X tb [a, b, d] false (evs B as)) (hw : swappedStores [.Tuple [.Name x px, .Name y py, .Name z pz] kt pt] (.Tuple [a, b, d] k2 pt2) X.env = pure (some [x, y, z])) :
    DS X tb (.Assign [.Tuple [.Name x px, .Name y py, .Name z pz] kt pt] (.Tuple [a, b, d] k2 pt2) pos) (exS B (.unp (.tp [i, j, l]) (.tup as))) := fun A0 H0 W tk => by
  refine ps_imp (ps_par3 (i := i) (j := j) (l := l) c.cx.calm c.nN (by rw [c.cx.N]; exact ixOf_some hi) (by rw [c.cx.N]; exact ixOf_some hj) (by rw [c.cx.N]; exact ixOf_some hl') hij hil hjl (by rw [c.cx.sc]; exact hx) (by rw [c.cx.sc]; exact hy) (by rw [c.cx.sc]; exact hz) (ha W tk) hw) fun D σ H ⟨ρ, S, A, ss, q⟩ => ?_
  simp only [exS, ev] at q
  have q' : QE X.K X.mg tb W A0 H0 A H ((evs B as ρ S).to ρ fun vs S1 => bindQ (.tp [i, j, l]) (.tup vs) ρ fun ρ' => .ok (.nx ρ') S1) D := by
    cases e : evs B as ρ S with
    | ok p S1 => rw [e] at q; exact q
    | ex x S1 => rw [e] at q; exact q
    | stuck => rw [e] at q; exact q
  refine tos_bind (k' := false) ss q' fun ps S1 vs H1 A1 he s ss1 r q1 => ?_
  have r : RpL X.K X.mg A1 H1 ps vs := r
  obtain ⟨p1, p2, p3, rfl⟩ := len3 (listC_len hl he)
  obtain ⟨v, w, u, rfl, r1, r2, r3⟩ := rpl3 r
  exact ⟨v, w, u, rfl, QE.nx q1 (((ss1.setVal i r1).setVal j r2).setVal l r3)⟩
theorem ds_seti (c : CtxS X tb P B lv sc) {x : Str} {i : Nat} {ix e : Expr} {j d : C} {px ps pos : Pos} (hn : okName x = true) (hv : isVis sc x = true) (hi : ixOf P.N x = some i) (hp : plainIx ix = true) (hix : DE X tb ix false (ev B j)) (he : DE X tb e false (ev B d)) : DS X tb (.Assign [.Subscript (.Name x px) ix ps] e pos) (exS B (.seti i j d)) := fun A0 H0 W tk => by
  have hvar : PE X (.Name x px) _ := pe_var (i := i) (by rw [c.cx.N]; exact ixOf_some hi) (by rw [c.cx.sc]; exact isVis_vis hv) (okName_1 hn) (okName_2 hn)
  refine ps_imp (ps_asg (he W tk) (pg_sub hvar (hix W tk) set_list (by intro v; cases ix <;> first | rfl | cases hp)) (by cases e <;> rfl) (by cases e <;> rfl) (by cases ix <;> rfl)) fun D σ H ⟨ρ, S, A, ss, q⟩ => ?_
  simp only [exS] at q
  refine to_bind (k' := false) ss q fun p S1 v H1 A1 _ s ss1 r q1 => ?_
  have r : Rp X.K X.mg A1 H1 p v := r
  split at q1
  · rename_i hb
    cases es : ρ[i]? with
    | none => rw [es] at hb; cases hb
    | some sl =>
      cases sl with
      | no => rw [es] at hb; cases hb
      | opn xs =>
        obtain ⟨o, e1, a, vs, rfl, h1, h2, h3⟩ := ss1.sl.at_ i _ es
        refine ⟨.ref a, e1, to_bind (k' := false) ss1 q1 fun jp S2 jv H2 A2 _ s2 ss2 rj q2 => ?_⟩
        rw [es] at q2
        unfold setIxQ at q2
        cases jp with
        | int jn =>
          simp only at q2
          split at q2
          · rename_i k hk
            have ej : jv = .int jn := by simpa [Rk, Rp] using rj
            obtain ⟨o, f1, a', vs', f2, g1, g2, g3⟩ := ss2.sl.at_ i _ es
            rw [e1] at f1
            cases f1
            cases f2
            refine ⟨a, vs', jn, k, rfl, ej, g1, by rw [g3.length]; exact hk, ?_⟩
            obtain ⟨kp, ss3⟩ := ss2.putOpn es e1 (RpL.set k g3 (Rp.stp s2 _ _ r))
            exact QE.nx (QE.mono kp q2) ss3
          · exact q2.elim
        | _ => exact q2.elim
      | val y =>
        cases y with
        | cell k =>
          obtain ⟨o, e1, w, rfl, h1⟩ := ss1.sl.at_ i _ es
          simp only [Rp] at h1
          obtain ⟨a, hk, rfl⟩ := h1
          refine ⟨.ref a, e1, to_bind (k' := false) ss1 q1 fun jp S2 jv H2 A2 _ s2 ss2 rj q2 => ?_⟩
          rw [es] at q2
          unfold setIxQ at q2
          cases jp with
          | int jn =>
            simp only at q2
            split at q2
            · rename_i ys hys
              split at q2
              · rename_i n hn
                have ej : jv = .int jn := by simpa [Rk, Rp] using rj
                have hk2 := s2.ix hk
                unfold lstAt at hys
                split at hys
                · rename_i zs hz
                  cases hys
                  have hc := ss2.st.at_ k a (.lst ys) hk2 hz
                  obtain ⟨us, hu, ru⟩ := hc
                  refine ⟨a, us, jn, n, rfl, ej, hu, by rw [ru.length]; exact hn, ?_⟩
                  obtain ⟨s3, hS3⟩ := SRep.setk ss2.st hk2 (by unfold lstAt; rw [hz]) hu (RpL.set n ru (Rp.stp s2 _ _ r))
                  exact QE.nx (QE.mono s3.kp q2) (ss2.to s3 hS3)
                · cases hys
              · exact q2.elim
            · exact q2.elim
          | _ => exact q2.elim
        | _ => rw [es] at hb; cases hb
  · exact q1.elim
theorem ds_app (c : CtxS X tb P B lv sc) {x : Str} {i : Nat} {e : Expr} {d : C} {px pa pc pos : Pos} (hn : okName x = true) (hv : isVis sc x = true) (hi : ixOf P.N x = some i) (hst : starEach [e] X.env = [(false, eval e X.env)]) (hline : (pa.endLine == pc.line) = true) (he : DE X tb e false (ev B d)) :
    DS X tb (.Expr (.Call (.Attribute (.Name x px) "append" pa) [e] [] pc) pos) (exS B (.app i d)) := fun A0 H0 W tk => by
  have hvar : PE X (.Name x px) _ := pe_var (i := i) (by rw [c.cx.N]; exact ixOf_some hi) (by rw [c.cx.sc]; exact isVis_vis hv) (okName_1 hn) (okName_2 hn)
  have hA : PA X [e] _ := pa_cons (he W tk) pa_nil hst
  refine ps_imp (ps_expr (pe_bm (T := "list") PySem.F.plainAttrs_list PySem.F.slot_list_append PySem.F.type_list_append mt_append hvar hA rfl (by rw [hst]; rfl) hline hst rfl) rfl) fun D σ H ⟨ρ, S, A, ss, q⟩ => ?_
  simp only [exS] at q
  split at q
  · rename_i hb
    cases es : ρ[i]? with
    | none => rw [es] at hb; cases hb
    | some sl =>
      cases sl with
      | no => rw [es] at hb; cases hb
      | val y => rw [es] at hb; cases hb
      | opn xs =>
        obtain ⟨o, e1, a, vs, rfl, h1, h2, h3⟩ := ss.sl.at_ i _ es
        refine ⟨.ref a, e1, .inl ⟨rfl, _, .inl (.inl h1)⟩, to_bind (k' := false) ss q fun p S1 v H1 A1 _ s ss1 r q1 => ?_⟩
        have r : Rp X.K X.mg A1 H1 p v := r
        rw [es] at q1
        simp only [appQ] at q1
        split at q1
        · rename_i hl
          obtain ⟨o, f1, a', vs', f2, g1, g2, g3⟩ := ss1.sl.at_ i _ es
          rw [e1] at f1
          cases f1
          cases f2
          refine ⟨a, vs', v, rfl, rfl, g1, by rw [g3.length, ← lim_eq]; exact hl, ?_⟩
          obtain ⟨kp, ss3⟩ := ss1.putOpn es e1 (RpL.app g3 (RpL.cons r RpL.nil))
          exact QE.nx (QE.mono kp q1) ss3
        · exact q1.elim
  · exact q.elim
theorem ds_exp {e : Expr} {d : C} {pos : Pos} (he : DE X tb e false (ev B d)) (hs : swapsWith e none pos.line X.env = pure false) : DS X tb (.Expr e pos) (exS B (.exp d)) := fun A0 H0 W tk =>
  ps_imp (ps_expr (he W tk) hs) fun D σ H ⟨ρ, S, A, ss, q⟩ => by
    simp only [exS] at q
    exact to_bind (k' := false) ss q fun p S1 v H1 A1 _ s ss1 r q1 => QE.nx q1 ss1
theorem ds_ret {e : Expr} {d : C} {pos : Pos} (he : DE X tb e false (ev B d)) : DS X tb (.Return (some e) pos) (exS B (.ret d)) := fun A0 H0 W tk =>
  ps_imp (ps_ret (he W tk)) fun D σ H ⟨ρ, S, A, ss, q⟩ => by
    simp only [exS] at q
    exact to_bind (k' := false) ss q fun p S1 v H1 A1 _ s ss1 r q1 => q1 v H1 A1 (Kp.refl _ _) ss1.stp ss1.st r
theorem ds_retN {pos : Pos} : DS X tb (.Return none pos) (exS B .retN) := fun A0 H0 W tk =>
  ps_imp ps_retN fun D σ H ⟨ρ, S, A, ss, q⟩ => by
    simp only [exS] at q
    exact q .non H A (Kp.refl _ _) ss.stp ss.st rp_non
theorem ds_if {cnd : Expr} {a b : List Stmt} {d : C} {ta tb' : T} {pos : Pos} (hc : DT X tb cnd (ev B d)) (ha : DSs X tb a (exT B ta)) (hb : DSs X tb b (exT B tb')) : DS X tb (.If cnd a b pos) (exS B (.ite d ta tb')) := fun A0 H0 W tk =>
  ps_imp (ps_if (hc W tk) (ha A0 H0 W tk) (hb A0 H0 W tk)) fun D σ H ⟨ρ, S, A, ss, q⟩ => by
    simp only [exS] at q
    refine toT_bind (f := fun k S1 => if k = true then exT B ta ρ S1 else exT B tb' ρ S1) ss q fun b S1 H1 A1 s ss1 q1 => ?_
    show if b = true then _ else _
    by_cases h : b = true
    · rw [if_pos h] at q1 ⊢
      exact ⟨ρ, S1, A1, ss1, q1⟩
    · rw [if_neg h] at q1 ⊢
      exact ⟨ρ, S1, A1, ss1, q1⟩
theorem ds_for (c : CtxS X tb P B lv sc) {tg iter : Expr} {body : List Stmt} {k : IK} {src : Cs} {t : Tg} {b : T} {pos : Pos} (hi : DI X tb tg iter B k src) (hg : tgC P sc tg = some t) (hb : DSs X tb body (exT B b)) (hn : noSet iter = true) : DS X tb (.For tg iter body [] pos) (exS B (.for_ k src t b)) := fun A0 H0 W tk => by
  refine ps_imp (ps_for c.pas c.cx.calm (hi W tk) (snd_tg c.cx c.tg hg) (hb A0 H0 W tk) (foldNo hn _)) fun D σ H ⟨ρ, S, A, ss, q⟩ => ?_
  simp only [exS] at q
  refine ⟨ρ, S, A, ss.sl, ss.st, ?_⟩
  cases e1 : evs B src ρ S with
  | stuck => rw [e1] at q; exact q
  | ex x S1 => rw [e1] at q; exact fun H' A' C dd s hS' hm => q σ H' A' C dd s.kp (ss.to s hS') hm
  | ok ps S1 =>
    rw [e1] at q
    have q : QE X.K X.mg tb W A0 H0 A H (match items k ps with
      | some xs => forM (fun x ρ1 S2 => bindQ t x ρ1 fun ρ2 => exT B b ρ2 S2) xs ρ S1
      | none => .stuck) D := q
    show match items k ps with
      | some xs => _
      | none => False
    cases e2 : items k ps with
    | none => rw [e2] at q; exact q
    | some xs =>
      rw [e2] at q
      intro J H1 A1 s1 hS1 w
      obtain ⟨G, Y, hW, hG, hY⟩ := w
      refine for_it hW (fun i σ H => ∃ ρ S A, Kp A1 H1 A H ∧ SS X.K X.mg tb A0 H0 A H ρ σ S ∧ QE X.K X.mg tb W A0 H0 A H (forM (fun x ρ1 S2 => bindQ t x ρ1 fun ρ2 => exT B b ρ2 S2) (xs.drop i) ρ S) D) ?_ ?_ ?_ ?_
      · exact ⟨ρ, S1, A1, Kp.refl _ _, ss.to s1 hS1, QE.mono s1.kp q⟩
      · rintro i σ2 H2 hi ⟨ρ2, S2, A2, k2, _⟩
        exact hG A2 H2 k2
      · rintro i x σ2 H2 H3 hi ⟨ρ2, S2, A2, k2, ss2, q2⟩ y
        obtain ⟨p, hp, s3, hS3, r3⟩ := hY i H2 x H3 A2 S2 hi k2 ss2.st y
        rw [drop_cons hp] at q2
        have q3 := QE.mono s3.kp q2
        have ss3 := ss2.to s3 hS3
        unfold forM at q3
        simp only [bindQ] at q3
        split at q3
        · rename_i ρ3 hb
          refine ⟨ρ2, A2, p, ρ3, ss3.sl, r3, hb, fun σ' hσ' hw => ⟨ρ3, S2, A2, ss3.bound hb hσ' hw, ?_⟩⟩
          exact QE.seq q3 _ (fun ρ' S' σ4 H4 A4 k4 ss4 q4 => ⟨ρ', S', A4, (k2.trans s3.kp).trans k4, ss4, q4⟩) _ _
        · exact q3.elim
      · rintro σ2 H2 ⟨ρ2, S2, A2, k2, ss2, q2⟩
        rw [List.drop_eq_nil_of_le (Nat.le_refl _)] at q2
        exact QE.nx q2 ss2
theorem ds_whl (c : CtxS X tb P B lv sc) {cnd : Expr} {body : List Stmt} {d : C} {b : T} {pos : Pos} (hc : DT X tb cnd (ev B d)) (hb : DSs X tb body (exT B b)) : DS X tb (.While cnd body [] pos) (exS B (.whl d b)) := fun A0 H0 W tk => by
  refine ps_imp (ps_while c.pas (hc W tk) (hb A0 H0 W tk)) fun D σ H ⟨ρ, S, A, ss, q⟩ => ?_
  simp only [exS] at q
  refine ⟨fun m σ H => ∃ ρ S A, SS X.K X.mg tb A0 H0 A H ρ σ S ∧ QE X.K X.mg tb W A0 H0 A H (whileM (ev B d) (exT B b) m ρ S) D, ⟨fuel, ρ, S, A, ss, q⟩, ?_⟩
  rintro m σ1 H1 ⟨ρ1, S1, A1, ss1, q1⟩
  cases m with
  | zero => exact q1.elim
  | succ m =>
    unfold whileM at q1
    refine toT_bind (f := fun k S2 => if k = true then (exT B b ρ1 S2).seq fun ρ' S' => whileM (ev B d) (exT B b) m ρ' S' else .ok (.nx ρ1) S2) ss1 q1 fun k S2 H2 A2 s ss2 q2 => ?_
    by_cases h : k = true
    · rw [if_pos h] at q2 ⊢
      refine ⟨fun σ' H' => ∃ ρ S A, SS X.K X.mg tb A0 H0 A H' ρ σ' S ∧ QE X.K X.mg tb W A0 H0 A H' (whileM (ev B d) (exT B b) m ρ S) D, fun σ' H' h => ⟨m, Nat.lt_succ_self m, h⟩, ρ1, S2, A2, ss2, ?_⟩
      exact QE.seq q2 _ (fun ρ' S' σ4 H4 A4 k4 ss4 q4 => ⟨ρ', S', A4, ss4, q4⟩) _ _
    · rw [if_neg h] at q2 ⊢
      exact QE.nx q2 ss2
theorem dss_nil : DSs X tb [] (exT B .nil) := fun A0 H0 W tk => pss_imp pss_nil fun D σ H ⟨ρ, S, A, ss, q⟩ => by
  simp only [exT] at q
  exact QE.nx q ss
theorem dss_cons {st : Stmt} {rest : List Stmt} {s : Sm} {r : T} (h1 : DS X tb st (exS B s)) (h2 : DSs X tb rest (exT B r)) : DSs X tb (st :: rest) (exT B (.cons s r)) := fun A0 H0 W tk =>
  pss_imp (pss_cons (h1 A0 H0 W tk) (h2 A0 H0 W tk)) fun D σ H ⟨ρ, S, A, ss, q⟩ => by
    simp only [exT] at q
    refine ⟨ρ, S, A, ss, ?_⟩
    exact QE.seq q _ (fun ρ' S' σ4 H4 A4 k4 ss4 q4 => ⟨ρ', S', A4, ss4, q4⟩) D.ct D.bk
/-- a list is frozen ahead of a block -/
theorem dss_frz {sts : List Stmt} {i : Nat} {r : T} (h : DSs X tb sts (exT B r)) : DSs X tb sts (exT B (.cons (.frz i) r)) := fun A0 H0 W tk =>
  pss_imp (pss_fz0 (h A0 H0 W tk)) fun D σ H ⟨ρ, S, A, ss, q⟩ => by
    simp only [exT, exS, Qr.seq] at q
    cases es : ρ[i]? with
    | none => rw [es] at q; exact .inl ⟨ρ, S, A, ss, q⟩
    | some sl =>
      rw [es] at q
      cases sl with
      | no => exact .inl ⟨ρ, S, A, ss, q⟩
      | val v => exact .inl ⟨ρ, S, A, ss, q⟩
      | opn xs =>
        obtain ⟨o, e1, a, vs, rfl, h1, h2, h3⟩ := ss.sl.at_ i _ es
        refine .inr ⟨a, vs, h1, fun od => ?_⟩
        obtain ⟨kp, ss2⟩ := ss.frzOpn es e1 h1 od
        exact ⟨_, S, A, ss2, QE.mono kp q⟩
theorem dss_skip {st : Stmt} {rest : List Stmt} {r : T} (h1 : PS X st tNext) (h2 : DSs X tb rest (exT B r)) : DSs X tb (st :: rest) (exT B r) := fun A0 H0 W tk => pss_imp (pss_cons h1 (h2 A0 H0 W tk)) fun D σ H q => q
end
end Ev

end -- EvM
section -- EvN
namespace Ev
open PySem PySem.Spec PyProof.Rows L2
section
variable {X : Cx} {tb : List (Addr × Str)} {P : CP} {B : Amb} {lv : Nat} {sc : Scope}
theorem ds_rais (c : CtxS X tb P B lv sc) {x m : Str} {j : Nat} {p p2 pc pos : Pos} (hn : okName x = true) (hg : isGlob sc x = true) (hx : P.excs.contains x = true) : DS X tb (.Raise (some (.Call (.Name x p) [.Constant (.str m) j p2] [] pc)) none pos) (exS B (.rais x)) := fun A0 H0 W tk => by
  obtain ⟨C, h1, h2, h3, h4, h5⟩ := c.cx.fx.exc x hx
  refine ps_imp (L2N.ps_raise c.cx.calm tk (L2N.pmk_own PySem.F.excBase_ValueError h2 h1 h3 (raises_own h4 h5) (c.cx.gl hg) (okName_1 hn))) fun D σ H ⟨ρ, S, A, ss, q⟩ => ?_
  simp only [exS] at q
  exact q σ H A C none (Kp.refl _ _) ss h1 rfl
/-- texts and None -/
def plV : PV → Option V
  | .str x => some (.str x)
  | .non => some .non
  | _ => none
theorem plV_rp {K : PySem.W.Frag} {mg : Str → Option Value} {A : List Addr} {H : Hp} {p : PV} {v : V} (h : plV p = some v) : Rp K mg A H p v := by
  cases p <;> cases h
  · exact rp_non
  · exact rp_str
/-- a suite's reading: the exception of the class x is at slot n; it tells h x -/
def tSu (K : PySem.W.Frag) (mg : Str → Option Value) (tb : List (Addr × Str)) (n : Nat) (k : Option Nat) (h : Str → Option PV) (a : Addr) (cls : Value) (d : Option Addr) : TS := fun D σ H => (∃ σ0 : L2.St, σ = σ0.set n (some (.ref a))) ∧ ∃ x C p v, cls = .ref C ∧ d = none ∧ mg x = some (.ref C) ∧ h x = some p ∧ plV p = some v ∧ ∃ A S, SRep K mg tb A H S ∧ ∀ H', Stp A H A H' → SRep K mg tb A H' S → match k with
  | none => D.rt v H'
  | some i => D.nx (σ.set i (some v)) H'
def SuOk (X : Cx) (tb : List (Addr × Str)) (suite : List Stmt) (n : Nat) (k : Option Nat) (h : Str → Option PV) : Prop := ∀ (a : Addr) (oe : Obj) (cls : Value) (d : Option Addr) (pn : List (Addr × Obj)), L2N.Zn cls d oe → (∃ vs, oe.data = .fields vs) → PSs (X.suite a ((a, oe) :: pn)) suite (tSu X.K X.mg tb n k h a cls d)
theorem ds_try (c : CtxS X tb P B lv sc) {body suite : List Stmt} {b₀ : Stmt} {x n : Str} {i : Nat} {k : Option Nat} {h : Str → Option PV} {b : T} {np pos' pos : Pos} (hx : okName x = true) (hg : isGlob sc x = true) (hxc : P.excs.contains x = true) (hi : ixOf P.N n = some i) (hln : sc.names.lookup n = some .local) (hki : k ≠ some i)
    (hb : ∀ (pn : List (Addr × Obj)) (xe : Value → Shared → Prop), PassesOwn (model X.prog X.w) X.A X.env xe → DSs (X.tr pn xe) tb body (exT B b)) (hs : SuOk X tb (b₀ :: suite) i k h) :
    DS X tb (.Try body [.ExceptHandler (some (.Name x np)) (some n) (b₀ :: suite) pos'] [] [] pos) (exS B (.try_ b x (some i) k h)) := fun A0 H0 W tk => by
  obtain ⟨Cx, g1, _⟩ := c.cx.fx.exc x hxc
  have hN : X.N[i]? = some n := by rw [c.cx.N]; exact ixOf_some hi
  have hk : X.env.kindOf n = some .local := by
    show X.env.scope.names.lookup n = some .local
    rw [c.cx.sc]; exact hln
  refine ps_imp (L2N.ps_try_as (Wout := W) (tb := fun W => tS X.K X.mg tb W A0 H0 (exT B b)) (ts := tSu X.K X.mg tb i k h) c.stk c.frm c.nN hN hk ⟨c.cx.gl hg, okName_1 hx, .inl g1⟩ tk
    (fun W pn xe tk' ps => hb pn xe ps A0 H0 W tk') hs) fun D σ H ⟨ρ, S, A, ss, q⟩ => ?_
  refine ⟨ρ, S, A, ss, ?_⟩
  simp only [exS] at q
  cases e : exT B b ρ S with
  | stuck => rw [e] at q; exact q
  | ok f S' => rw [e] at q; cases f <;> exact q
  | ex y ρ' S' =>
    rw [e] at q
    simp only at q
    split at q
    · rename_i hu
      obtain ⟨Cy, Cx', f1, f2, f3⟩ := c.cx.fx.cls y x true hu
      rw [g1] at f2
      cases f2
      intro σ' H' A' C dd kp ss' hm hd
      rw [f1] at hm
      cases hm
      refine ⟨true, f3, fun _ a ha => ?_, fun z => by cases z⟩
      have q' := QE.mono kp q
      cases hh : h y with
      | none => rw [hh] at q'; exact q'.elim
      | some p =>
        rw [hh] at q'
        unfold caughtQ at q'
        simp only at q'
        split at q'
        · rename_i hp
          obtain ⟨v, hv⟩ : ∃ v, plV p = some v := by cases p <;> first | exact ⟨_, rfl⟩ | cases hp
          refine ⟨⟨σ', rfl⟩, y, Cy, p, v, rfl, hd, f1, hh, hv, A', S', ss'.st, fun H2 s2 hS2 => ?_⟩
          replace ss' := ss'.to s2 hS2
          replace q' := QE.mono s2.kp q'
          cases k with
          | none => exact q' v H2 A' (Kp.refl _ _) ss'.stp ss'.st (plV_rp hv)
          | some j =>
            have hij : j ≠ i := fun z => hki (by rw [z])
            have s1 := ss'.setVal j (plV_rp (K := X.K) (mg := X.mg) hv)
            have s3 : SS X.K X.mg tb A0 H0 A' H2 ((ρ'.set j (.val p)).set i .no) ((σ'.set j (some v)).set i none) S' := s1.setNo i
            have e2 : ((σ'.set i (some (.ref a))).set j (some v)).set i none = (σ'.set j (some v)).set i none := by
              rw [List.set_comm _ _ hij, List.set_set, List.set_comm _ _ hij]
            show D.nx (((σ'.set i (some (.ref a))).set j (some v)).set i none) H2
            rw [e2]
            exact q' _ H2 A' (Kp.refl _ _) s3
        · exact q'.elim
    · rename_i hu
      obtain ⟨Cy, Cx', f1, f2, f3⟩ := c.cx.fx.cls y x false hu
      rw [g1] at f2
      cases f2
      intro σ' H' A' C dd kp ss' hm hd
      rw [f1] at hm
      cases hm
      exact ⟨false, f3, And.intro nofun fun _ => q σ' H' A' Cy dd kp ss' f1 hd⟩
    · exact q.elim
end
end Ev

end -- EvN
section -- EvO
namespace Ev
open PySem PySem.Spec PyProof.Rows L2
def swNames (sc : Scope) (line : Nat) (ts : List Expr) : List Str := ts.filterMap fun
  | .Name id pos => if sc.names.lookup id == some .local && pos.line == line then some id else none
  | _ => none
def headLine (ts : List Expr) : Nat := (ts.head?.map (·.pos.line)).getD 0
/-- no swapped stores for sure -/
def swNone (sc : Scope) (ts : List Expr) (e : Expr) : Bool := match e with
  | .Tuple vs _ _ => !(ts.length == 2 || ts.length == 3) || vs.length != ts.length || (swNames sc (headLine ts) ts).length != ts.length || vs.all (foldedForSure 8)
  | _ => true
def noStar : Expr → Bool
  | .Starred _ _ => false
  | _ => true
/-- swapped stores for sure -/
def swSome (sc : Scope) (ts vs : List Expr) : Bool := (ts.length == 2 || ts.length == 3) && vs.length == ts.length && vs.all noStar && (swNames sc (headLine ts) ts).length == ts.length && (swNames sc (headLine ts) ts).eraseDups.length == (swNames sc (headLine ts) ts).length && !(vs.all (foldedForSure 8)) && !(vs.all (constantsAlone 8))
theorem star_any {vs : List Expr} (h : vs.all noStar = true) : (vs.any fun | .Starred .. => true | _ => false) = false := by
  rw [List.any_eq_false]
  intro e he
  have := List.all_eq_true.mp h e he
  cases e <;> first | exact Bool.false_ne_true | cases this
theorem sw_none {X : Cx} {sc : Scope} (hk : sc.kind = .function) (hs : X.env.scope = sc) {ts : List Expr} {k : Nat} {p : Pos} {e : Expr} (h : swNone sc ts e = true) : swappedStores [.Tuple ts k p] e X.env = pure none := by
  subst hs
  cases e with
  | Tuple vs k2 p2 =>
    simp only [swNone, Bool.or_eq_true] at h
    have hb : X.env.blockKind = .function := by unfold Env.blockKind; rw [hk]; rfl
    unfold swappedStores
    simp only
    split
    · rfl
    · rename_i h1
      split
      · rfl
      · simp only [hb] at h1
        split
        · rfl
        · rename_i h2
          split
          · rfl
          · rename_i h3
            exfalso
            rcases h with ((h | h) | h) | h
            · rw [h] at h1; simp at h1
            · rw [h] at h1; simp at h1
            · apply h2
              simp only [Bool.or_eq_true]
              exact .inl h
            · exact h3 h
  | _ => rfl
theorem sw_some {X : Cx} {sc : Scope} (hk : sc.kind = .function) (hs : X.env.scope = sc) {ts vs : List Expr} {k k2 : Nat} {p p2 : Pos} (h : swSome sc ts vs = true) : swappedStores [.Tuple ts k p] (.Tuple vs k2 p2) X.env = pure (some (swNames sc (headLine ts) ts)) := by
  subst hs
  have hb : X.env.blockKind = .function := by unfold Env.blockKind; rw [hk]; rfl
  simp only [swSome, Bool.and_eq_true, Bool.not_eq_true', beq_iff_eq] at h
  obtain ⟨⟨⟨⟨⟨⟨h1, h2⟩, h3⟩, h4⟩, h5⟩, h6⟩, h7⟩ := h
  unfold swappedStores
  simp only
  rw [if_neg, if_neg, if_neg, if_neg, if_neg]
  · rfl
  · rw [h7]; exact Bool.false_ne_true
  · rw [h6]; exact Bool.false_ne_true
  · show ¬ ((swNames X.env.scope (headLine ts) ts).length != ts.length || (swNames X.env.scope (headLine ts) ts).eraseDups.length != (swNames X.env.scope (headLine ts) ts).length) = true
    rw [h4, h5, h4]
    simp
  · exact fun z => Bool.false_ne_true ((star_any h3).symm.trans z)
  · rw [h1, h2, hb]
    simp
def noComp : Expr → Bool
  | .ListComp _ _ _ _ => false
  | .SetComp _ _ _ _ => false
  | .DictComp _ _ _ _ _ => false
  | _ => true
def fE : Nat := 40
abbrev cE (P : CP) (sc : Scope) : Expr → Option C := compE P fE sc
/-- name = value -/
def asgC (P : CP) (sc : Scope) (x : Str) (e : Expr) : Option Sm := if isLocal sc x = true then (match ixOf P.N x with
  | some i => (match e with
    | .ListComp elt gs scope _ => (lcC (cE P sc) (compE P fE (relS scope sc)) (compE P fE (relS scope sc)) (testC (compE P fE (relS scope sc))) P sc scope elt gs).map (if P.own.contains i = true then .seto i else .set i)
    | .List es pos => if es.length ≤ 1000 then (listC (cE P sc) es).map fun cs => if P.nc.contains pos.line = true then .set i (.newc cs) else if P.own.contains i = true then .seto i (.lst cs) else .set i (.lst cs) else none
    | e => if noComp e = true then (cE P sc e).map (.set i) else none)
  | none => none) else none
/-- a, b = value -/
def tupC (P : CP) (sc : Scope) (ts : List Expr) (e : Expr) : Option Sm := if swNone sc ts e = true then (match tgNames P sc ts, cE P sc e with
    | some is, some c => if noComp e = true then some (.unp (.tp is) c) else none
    | _, _ => none)
  else match ts, e with
    | [.Name x px, .Name y py], .Tuple [a, b] _ _ => if swSome sc [.Name x px, .Name y py] [a, b] = true ∧ sc.names.lookup x = some .local ∧ sc.names.lookup y = some .local ∧ px.line = py.line then (match ixOf P.N x, ixOf P.N y, listC (cE P sc) [a, b] with
      | some i, some j, some cs => if i ≠ j then some (.unp (.tp [i, j]) (.tup cs)) else none
      | _, _, _ => none) else none
    | [.Name x px, .Name y py, .Name z pz], .Tuple [a, b, d] _ _ => if swSome sc [.Name x px, .Name y py, .Name z pz] [a, b, d] = true ∧ sc.names.lookup x = some .local ∧ sc.names.lookup y = some .local ∧ sc.names.lookup z = some .local ∧ px.line = py.line ∧ px.line = pz.line then (match ixOf P.N x, ixOf P.N y, ixOf P.N z, listC (cE P sc) [a, b, d] with
      | some i, some j, some l, some cs => if i ≠ j ∧ i ≠ l ∧ j ≠ l then some (.unp (.tp [i, j, l]) (.tup cs)) else none
      | _, _, _, _ => none) else none
    | _, _ => none
/-- a suite of an except clause that hands the exception n to a def: where the answer goes, the def -/
def suiteC (n : Str) : List Stmt → Option (Option Str × Str)
  | [.Return (some (.Call (.Name f _) [.Name e _] [] _)) _] => if e = n then some (none, f) else none
  | [.Assign [.Name y _] (.Call (.Name f _) [.Name e _] [] _) _] => if e = n then some (some y, f) else none
  | _ => none
def slotC (P : CP) (sc : Scope) : Option Str → Option (Option Nat)
  | none => some none
  | some y => if sc.names.lookup y = some .local then (ixOf P.N y).map some else none
def exprC (P : CP) (sc : Scope) (e : Expr) : Option Sm := if noComp e = true then (cE P sc e).map .exp else none
def appC (P : CP) (sc : Scope) : Expr → Option Sm
  | .Call (.Attribute (.Name x px) m pa) [e] [] pc => if m = ("append" : Str) ∧ okName x = true ∧ isVis sc x = true ∧ (pa.endLine == pc.line) = true ∧ noStar e = true then (match ixOf P.N x, cE P sc e with
    | some i, some c => some (.app i c)
    | _, _ => none) else none
  | e => exprC P sc e
def isDoc : Stmt → Bool
  | .Pass _ => true
  | .Expr (.Constant (.str _) _ _) _ => true
  | _ => false
def compS (P : CP) (sc : Scope) (g : List Stmt → Option T) : Stmt → Option Sm
  | .Return (some e) _ => (cE P sc e).map .ret
  | .Return none _ => some .retN
  | .Expr e _ => appC P sc e
  | .Assign [.Name x _] e _ => asgC P sc x e
  | .Assign [.Tuple ts _ _] e _ => tupC P sc ts e
  | .Assign [.Subscript (.Name x _) ix _] e _ => if okName x = true ∧ isVis sc x = true ∧ plainIx ix = true then (match ixOf P.N x, cE P sc ix, cE P sc e with
    | some i, some j, some d => some (.seti i j d)
    | _, _, _ => none) else none
  | .If c a b _ => (match testC (cE P sc) c, g a, g b with
    | some c, some a, some b => some (.ite c a b)
    | _, _, _ => none)
  | .For tg iter body [] _ => if noSet iter = true then (match srcC (cE P sc) sc (isTup tg) iter, tgC P sc tg, g body with
    | some (k, src), some t, some b => some (.for_ k src t b)
    | _, _, _ => none) else none
  | .While c body [] _ => (match testC (cE P sc) c, g body with
    | some c, some b => some (.whl c b)
    | _, _ => none)
  | .Raise (some (.Call (.Name x _) [.Constant (.str _) _ _] [] _)) none _ => if okName x = true ∧ isGlob sc x = true ∧ P.excs.contains x = true then some (.rais x) else none
  | .Try body [.ExceptHandler (some (.Name x _)) (some n) (b₀ :: suite) _] [] [] _ => if okName x = true ∧ isGlob sc x = true ∧ P.excs.contains x = true ∧ sc.names.lookup n = some .local then
    (match ixOf P.N n, suiteC n (b₀ :: suite), g body with
    | some i, some (y, f), some b => (match slotC P sc y, P.hot.lookup f with
      | some k, some h => if k ≠ some i then some (.try_ b x (some i) k h) else none
      | _, _ => none)
    | _, _, _ => none) else none
  | _ => none
def frzT : List Nat → T → T
  | [], t => t
  | i :: is, t => .cons (.frz i) (frzT is t)
def fzAt (P : CP) (l : Nat) : List Nat := (P.fz.filter fun q => q.1 == l).map (·.2)
def compT (P : CP) (sc : Scope) : Nat → List Stmt → Option T
  | 0, _ => none
  | _ + 1, [] => some .nil
  | n + 1, st :: r => (match compT P sc n r with
    | some t => if isDoc st = true then some t else (compS P sc (compT P sc n) st).map fun s => frzT (fzAt P st.pos.line) (.cons s t)
    | none => none)
end Ev

end -- EvO
section -- EvP
namespace Ev
open PySem PySem.Spec PyProof.Rows L2
section
variable {tb : List (Addr × Str)} {P : CP} {B : Amb} {lv : Nat}
section
variable {X : Cx} {sc : Scope}
theorem cE_ok (c : Ctx X tb P B lv sc) {e : Expr} {d : C} (h : cE P sc e = some d) : DE X tb e false (ev B d) := (snd fE X sc c e d h).1
theorem cT_ok (c : Ctx X tb P B lv sc) {e : Expr} {d : C} (h : testC (cE P sc) e = some d) : DT X tb e (ev B d) := (snd fE X sc c e d (testC_of h)).2 h
theorem noComp_sw {e : Expr} (h : noComp e = true) (t : Option Expr) (l : Nat) (env : Env) : swapsWith e t l env = pure false := by
  cases e <;> first | rfl | cases h
theorem snd_asg (c : CtxS X tb P B lv sc) {x : Str} {e : Expr} {s : Sm} {px pos : Pos} (h : asgC P sc x e = some s) : DS X tb (.Assign [.Name x px] e pos) (exS B s) := by
  unfold asgC at h
  split at h
  · rename_i hx
    split at h
    · rename_i i hi
      have gen : (if noComp e = true then (cE P sc e).map (.set i) else none) = some s → DS X tb (.Assign [.Name x px] e pos) (exS B s) := fun h => by
        split at h
        · rename_i hn
          obtain ⟨d, hd, rfl⟩ := Option.map_eq_some_iff.mp h
          exact ds_set c hx hi (cE_ok c.cx hd) (noComp_sw hn _ _ _)
        · cases h
      cases e with
      | ListComp elt gs scope p =>
        simp only at h
        obtain ⟨d, hd, hs⟩ := Option.map_eq_some_iff.mp h
        have L := snd_lc (pos := p) (snd fE) c.cx hd
        have da : DA1 X tb (.Assign [.Name x px] (.ListComp elt gs scope p) pos) i (ev B d) := by
          have e1 : swapsWith (.ListComp elt gs scope p) (some (.Name x px)) pos.line X.env = pure (X.env.blockKind == .function && X.env.kindOf x == some .local && px.line == (Expr.ListComp elt gs scope p).pos.line && !(scope.names.any fun (n, k) => n == x && (k == .local || k == .cell))) := rfl
          cases hv : (X.env.blockKind == .function && X.env.kindOf x == some .local && px.line == (Expr.ListComp elt gs scope p).pos.line && !(scope.names.any fun (n, k) => n == x && (k == .local || k == .cell))) with
          | true =>
            have hl : X.env.kindOf x = some .local := by
              simp only [Bool.and_eq_true, beq_iff_eq] at hv
              exact hv.1.1.2
            exact L.asg i x px pos (by rw [c.cx.N]; exact ixOf_some hi) hl (by rw [e1, hv])
          | false => exact da1_df c hx hi L.df (by rw [e1, hv])
        split at hs
        · subst hs; exact ds_seto da
        · subst hs; exact ds_setf da
      | List es p =>
        simp only at h
        split at h
        · rename_i hl
          obtain ⟨cs, hcs, hs⟩ := Option.map_eq_some_iff.mp h
          have hA := snd_list (fun e d h => cE_ok c.cx h) (fun e p => star_none e p) hcs
          split at hs
          · subst hs
            exact ds_set c hx hi (de_newc hcs hl hA) rfl
          · split at hs
            · subst hs
              exact ds_seto (da1_df c hx hi (df_lst hcs hl hA) rfl)
            · subst hs
              exact ds_set c hx hi (de_lst hcs hl hA) rfl
        · cases h
      | _ => exact gen h
    · cases h
  · cases h
theorem sole_sw {ts : List Expr} {k : Nat} {p : Pos} {e : Expr} {l : Nat} {env : Env} : swapsWithSole [.Tuple ts k p] e l env = pure false := by
  show swapsWith e (some (.Tuple ts k p)) l env = pure false
  cases e <;> rfl
theorem names2 {x y : Str} {px py : Pos} (hx : sc.names.lookup x = some .local) (hy : sc.names.lookup y = some .local) (hp : px.line = py.line) : swNames sc (headLine [.Name x px, .Name y py]) [.Name x px, .Name y py] = [x, y] := by
  have l1 : headLine [.Name x px, .Name y py] = px.line := rfl
  rw [l1]
  simp [swNames, hx, hy, hp]
theorem names3 {x y z : Str} {px py pz : Pos} (hx : sc.names.lookup x = some .local) (hy : sc.names.lookup y = some .local) (hz : sc.names.lookup z = some .local) (hp : px.line = py.line) (hp2 : px.line = pz.line) : swNames sc (headLine [.Name x px, .Name y py, .Name z pz]) [.Name x px, .Name y py, .Name z pz] = [x, y, z] := by
  have l1 : headLine [.Name x px, .Name y py, .Name z pz] = px.line := rfl
  rw [l1]
  have e3 : py.line = pz.line := hp.symm.trans hp2
  simp [swNames, hx, hy, hz, hp, e3]
theorem snd_tup (c : CtxS X tb P B lv sc) {ts : List Expr} {e : Expr} {s : Sm} {k : Nat} {p pos : Pos} (h : tupC P sc ts e = some s) : DS X tb (.Assign [.Tuple ts k p] e pos) (exS B s) := by
  unfold tupC at h
  split at h
  · rename_i hsw
    split at h
    · rename_i is d h1 h2
      split at h
      · cases h
        exact ds_unp c (tg := .Tuple ts k p) (by show (tgNames P sc ts).map Tg.tp = _; rw [h1]; rfl) (cE_ok c.cx h2) sole_sw (sw_none c.kd c.cx.sc hsw)
      · cases h
    · cases h
  · split at h
    · split at h
      · rename_i hh
        obtain ⟨h1, hx, hy, hp⟩ := hh
        split at h
        · rename_i i j cs hi hj hcs
          split at h
          · rename_i hij
            cases h
            refine ds_par2 c hi hj hij hx hy hcs (snd_list (fun e d h => cE_ok c.cx h) (fun e p => star_none e p) hcs) ?_
            rw [sw_some c.kd c.cx.sc h1]
            rw [names2 hx hy hp]
          · cases h
        · cases h
      · cases h
    · split at h
      · rename_i hh
        obtain ⟨h1, hx, hy, hz, hp, hp2⟩ := hh
        split at h
        · rename_i i j l cs hi hj hl hcs
          split at h
          · rename_i hij
            cases h
            refine ds_par3 c hi hj hl hij.1 hij.2.1 hij.2.2 hx hy hz hcs (snd_list (fun e d h => cE_ok c.cx h) (fun e p => star_none e p) hcs) ?_
            rw [sw_some c.kd c.cx.sc h1]
            rw [names3 hx hy hz hp hp2]
          · cases h
        · cases h
      · cases h
    · cases h
theorem noStar_eq {e : Expr} {env : Env} (h : noStar e = true) : starEach [e] env = [(false, eval e env)] := by
  cases e <;> first | rfl | cases h
theorem snd_exp (c : CtxS X tb P B lv sc) {e : Expr} {s : Sm} {pos : Pos} (h : exprC P sc e = some s) : DS X tb (.Expr e pos) (exS B s) := by
  unfold exprC at h
  split at h
  · rename_i hn
    obtain ⟨d, hd, rfl⟩ := Option.map_eq_some_iff.mp h
    exact ds_exp (cE_ok c.cx hd) (noComp_sw hn _ _ _)
  · cases h
theorem snd_app (c : CtxS X tb P B lv sc) {e : Expr} {s : Sm} {pos : Pos} (h : appC P sc e = some s) : DS X tb (.Expr e pos) (exS B s) := by
  unfold appC at h
  split at h
  · rename_i x px m pa e pc
    split at h
    · rename_i hh
      obtain ⟨hm, hn, hv, hl, hst⟩ := hh
      split at h
      · rename_i i d hi hd
        cases h
        subst hm
        exact ds_app c hn hv hi (noStar_eq hst) hl (cE_ok c.cx hd)
      · cases h
    · cases h
  · exact snd_exp c h
end
/-- every suite that hands its exception to a def -/
def SuAll (X : Cx) (tb : List (Addr × Str)) (P : CP) (sc : Scope) : Prop := ∀ (n : Str) (suite : List Stmt) (y : Option Str) (f : Str) (i : Nat) (k : Option Nat) (h : Str → Option PV), suiteC n suite = some (y, f) → ixOf P.N n = some i → sc.names.lookup n = some .local → slotC P sc y = some k → P.hot.lookup f = some h → SuOk X tb suite i k h
def PSok (tb : List (Addr × Str)) (P : CP) (B : Amb) (lv : Nat) (n : Nat) : Prop := ∀ (X : Cx) (sc : Scope), CtxS X tb P B lv sc → SuAll X tb P sc → ∀ sts t, compT P sc n sts = some t → DSs X tb sts (exT B t)
theorem dss_frzT {X : Cx} {sts : List Stmt} : ∀ {is : List Nat} {t : T}, DSs X tb sts (exT B t) → DSs X tb sts (exT B (frzT is t))
  | [], _, h => h
  | i :: is, t, h => dss_frz (dss_frzT h)
theorem snd_S {n : Nat} (ih : PSok tb P B lv n) {X : Cx} {sc : Scope} (c : CtxS X tb P B lv sc) (su : SuAll X tb P sc) {st : Stmt} {s : Sm} (h : compS P sc (compT P sc n) st = some s) : DS X tb st (exS B s) := by
  have hE : ∀ {e d}, cE P sc e = some d → DE X tb e false (ev B d) := fun h => cE_ok c.cx h
  have hT : ∀ {e d}, testC (cE P sc) e = some d → DT X tb e (ev B d) := fun h => cT_ok c.cx h
  unfold compS at h
  split at h
  · obtain ⟨d, hd, rfl⟩ := Option.map_eq_some_iff.mp h
    exact ds_ret (hE hd)
  · cases h; exact ds_retN
  · exact snd_app c h
  · exact snd_asg c h
  · exact snd_tup c h
  · split at h
    · rename_i hh
      obtain ⟨hn, hv, hp⟩ := hh
      split at h
      · rename_i i j d hi hj hd
        cases h
        exact ds_seti c hn hv hi hp (hE hj) (hE hd)
      · cases h
    · cases h
  · split at h
    · rename_i d a b h1 h2 h3
      cases h
      exact ds_if (hT h1) (ih X sc c su _ _ h2) (ih X sc c su _ _ h3)
    · cases h
  · split at h
    · rename_i hn
      split at h
      · rename_i k src t b h1 h2 h3
        cases h
        exact ds_for c (snd_src c.cx (fun e d h => cE_ok c.cx h) (fun e p => star_none e p) h1) h2 (ih X sc c su _ _ h3) hn
      · cases h
    · cases h
  · split at h
    · rename_i d b h1 h2
      cases h
      exact ds_whl c (hT h1) (ih X sc c su _ _ h2)
    · cases h
  · split at h
    · rename_i hh
      cases h
      exact ds_rais c hh.1 hh.2.1 hh.2.2
    · cases h
  · split at h
    · rename_i hh
      split at h
      · rename_i i y f b hi hs hb
        split at h
        · rename_i k hf hk hh2
          split at h
          · rename_i hki
            cases h
            exact ds_try c hh.1 hh.2.1 hh.2.2.1 hi hh.2.2.2 hki (fun pn xe ps => ih (X.tr pn xe) sc (CtxS.tr c ps) su _ _ hb) (su _ _ _ _ _ _ _ hs hi hh.2.2.2 hk hh2)
          · cases h
        · cases h
      · cases h
    · cases h
  · cases h
/-- THE RULE of statements -/
theorem sndT (n : Nat) : PSok tb P B lv n := by
  induction n with
  | zero => exact fun X sc c su sts t h => by cases h
  | succ n ih =>
    intro X sc c su sts t h
    cases sts with
    | nil => cases h; exact dss_nil
    | cons st r =>
      unfold compT at h
      split at h
      · rename_i t' hr
        have R := ih X sc c su _ _ hr
        split at h
        · rename_i hd
          cases h
          refine dss_skip ?_ R
          cases st with
          | Pass p => exact ps_pass
          | Expr e p =>
            cases e with
            | Constant k j p2 =>
              cases k with
              | str x => exact ps_doc
              | _ => cases hd
            | _ => cases hd
          | _ => cases hd
        · obtain ⟨s, hs, rfl⟩ := Option.map_eq_some_iff.mp h
          exact dss_frzT (dss_cons (snd_S ih c su hs) R)
      · cases h
end
end Ev

end -- EvP
section -- EvQ
namespace Ev
open PySem PySem.Spec PyProof.Rows L2
section
variable {P : Program} {w : World} {K : PySem.W.Frag} {mg : Str → Option Value} {base : Heap} {tb : List (Addr × Str)}
theorem ss_start {A : List Addr} {H : Hp} {N : List Str} {ps : List PV} {vs : List V} {S : Sto} (r : RpL K mg A H ps vs) (hS : SRep K mg tb A H S) (hl : vs.length ≤ N.length) :
    SS K mg tb A H A H (ps.map .val ++ List.replicate (N.length - ps.length) .no) (L2.start N vs) S := by
  have el := r.length
  have noOpn : ∀ (i : Nat) (xs : List PV), (ps.map Sl.val ++ List.replicate (N.length - ps.length) .no)[i]? ≠ some (.opn xs) := fun i xs e => by
    by_cases hi : i < ps.length
    · rw [List.getElem?_append_left (by simpa using hi), List.getElem?_map, List.getElem?_eq_getElem hi] at e
      cases e
    · rw [List.getElem?_append_right (by simpa using hi), List.getElem?_replicate] at e
      split at e <;> cases e
  refine ⟨⟨?_, fun i x e => ?_, fun i j xs ys a e1 _ _ _ => absurd e1 (noOpn i xs)⟩, hS, fun i xs a e _ => absurd e (noOpn i xs), .refl A H⟩
  · unfold L2.start
    simp only [List.length_append, List.length_map, List.length_replicate]
    omega
  · unfold L2.start
    by_cases hi : i < ps.length
    · rw [List.getElem?_append_left (by simpa using hi), List.getElem?_map] at e
      obtain ⟨p, e1, rfl⟩ := Option.map_eq_some_iff.mp e
      obtain ⟨v, e2, h⟩ := r.get e1
      exact ⟨some v, by rw [List.getElem?_append_left (by rw [List.length_map, el]; exact hi), List.getElem?_map, e2]; rfl, v, rfl, h⟩
    · rw [List.getElem?_append_right (by simpa using hi), List.getElem?_replicate] at e
      split at e
      · cases e
        refine ⟨none, ?_, trivial⟩
        rw [List.getElem?_append_right (by rw [List.length_map, el]; omega), List.getElem?_replicate, List.length_map, el]
        rw [List.length_map] at *
        rw [if_pos (by assumption)]
      · cases e
theorem loc_of {sc : Scope} {y : Str} (hy : isLocal sc y = true) : Loc sc y := by
  unfold isLocal at hy
  split at hy
  · exact .inl (by assumption)
  · exact .inr (by assumption)
  · cases hy
theorem mk_fn {x : Str} {params : Arguments} {body : List Stmt} {scope : Scope} {f : Addr} {fd : FuncData} (F : FunD K x x params body scope [] [] f fd) {N ps : List Str} (S : C8.scC N ps scope = true) {cp : CP} {B : Amb} {lv m n : Nat} {t : T} (hN : cp.N = N) (hn : ps.length = n)
    (hc : compT cp scope m body = some t) (fx : ∀ X : Cx, Over P w K mg base X → Fx X tb cp B lv) (su : ∀ X : Cx, Over P w K mg base X → Ctx X tb cp B lv scope → SuAll X tb cp scope) {k : Nat} (hk : lv ≤ k)
    (la : ∀ (X : Cx) (cdv : Value), Over P w K mg base X → PySem.W.codeIn K cdv x = true → (∃ oc od fd' osl, K.lookup f = some ⟨oc, od, .func fd', osl⟩ ∧ fd'.code = cdv) → Room k X.A → X.env.code = cdv → X.env.qual = (envOfC x scope 0 f cdv).qual → ∀ g h, cp.lam.lookup g = some h → ∀ Y : Cx, LY X Y → LamOk Y tb B lv g h) :
    FnOk P w K mg base (L2N.CX P w) (k + 1) f fd ps (spF K mg tb n (run B N.length t)) := by
  have FS := C8.fnScope_by S
  have hpl : ps.length ≤ N.length := by have := congrArg List.length FS.pre; rw [List.length_take] at this; omega
  obtain ⟨oc, od, dV, kV, doc, pm, an, cdv, ct, osl, rfl, lk, hcd, _, _⟩ := F.ex
  refine fn_of lk hcd FS (fun vs H Q E h => by rw [hn]; exact h.1) fun A outer s H vs Q E hr hsp => ?_
  obtain ⟨hl, pv, S0, A0, r, hS, q⟩ := hsp
  have ov : Over P w K mg base (cxOf (L2N.CX P w) P w K mg base N x scope f cdv A outer s H E) := ⟨rfl, rfl, rfl, rfl, rfl⟩
  have cx : Ctx (cxOf (L2N.CX P w) P w K mg base N x scope f cdv A outer s H E) tb cp B lv scope := ⟨hN.symm, by rw [hN]; exact FS.nd, rfl, rfl, hr.mono hk, fx _ ov, la _ cdv ov hcd ⟨oc, od, _, osl, lk, rfl⟩ hr rfl rfl⟩
  have c : CtxS (cxOf (L2N.CX P w) P w K mg base N x scope f cdv A outer s H E) tb cp B lv scope :=
    ⟨cx, passes_of rfl, fun y hy => And.intro (loc_of hy) (Or.inl rfl), rfl, rfl, FS.kind⟩
  have tk : L2N.Takes (cxOf (L2N.CX P w) P w K mg base N x scope f cdv A outer s H E) (fun cls d _ H => E cls d H) := L2N.takes_of rfl rfl rfl rfl
  refine ⟨_, sndT m _ scope c (su _ ov cx) body t hc A0 H _ tk, ?_⟩
  refine ⟨_, S0, A0, ss_start r hS (by rw [hl]; omega), ?_⟩
  have e : run B N.length t pv S0 = (match exT B t (pv.map .val ++ List.replicate (N.length - pv.length) .no) S0 with
    | .ok (.nx _) S' => .ok .non S'
    | .ok (.rt v) S' => .ok v S'
    | .ex x _ S' => .ex x S'
    | .stuck => .stuck) := rfl
  rw [e] at q
  cases h : exT B t (pv.map .val ++ List.replicate (N.length - pv.length) .no) S0 with
  | stuck => rw [h] at q; exact q
  | ok g S' =>
    rw [h] at q
    cases g with
    | nx ρ => exact fun σ' H' A' _ ss => q .non H' A' ss.stp ss.st rp_non
    | rt p => exact fun v H' A' _ s hS' hr => q v H' A' s hS' hr
  | ex y ρ S' =>
    rw [h] at q
    exact fun σ' H' A' C dd _ ss hm hd => q H' A' C dd ss.stp ss.st hm hd
theorem fnIs_of {X : Cx} {x : Str} {lv lv' n : Nat} {fn : Fn} {f : Addr} {fd : FuncData} {ps : List Str} (ov : Over P w K mg base X) (g : mg x = some (.ref f)) (k : PySem.W.keepIn K (.ref f) = true) (ok : FnOk P w K mg base (L2N.CX P w) lv f fd ps (spF K mg tb n fn)) (b : L2.Binds K fd ps []) (h : lv ≤ lv') : FnIs X tb lv' x n fn := by
  obtain ⟨rfl, rfl, rfl, rfl, rfl⟩ := ov
  exact ⟨f, fd, ps, g, k, ok.mono h, b⟩
end
end Ev

end -- EvQ
section -- EvR
namespace EvH
open PySem PySem.Spec PyProof.Rows HotX
section
variable {prog : Program} {w : World} {A : Around} {E : Value → Shared → Prop} {s : Shared}
/-- what is handled stands behind a step that spares it -/
theorem hot_keep {x1 : Addr} {h h' : Heap} (hot : HotAt A x1 h) (k : ∀ o, h.get? x1 = some o → h'.get? x1 = some o) : HotAt A x1 h' := by
  obtain ⟨hh, o, vs, e, d, c⟩ := hot
  exact ⟨hh, o, vs, k o e, d, c⟩
/-- the end of an iteration, told by a StopIteration that is laid and caught: h1 is the state ahead of it -/
theorem stop_hot {α : Type} {x1 : Addr} {h1 : Heap} {Q : α → Shared → Prop} {P : Addr → Heap → Prop} (hot : HotAt A x1 h1)
    (q : ∀ h' (e : Addr), (∀ b o, h1.get? b = some o → h'.get? b = some o) → (∃ o, h'.get? e = some o ∧ o.cls = .type "StopIteration") → E (.ref e) { s with heap := h' }) :
    wpAny (model prog w) A (newExc (.type "StopIteration") [] >>= fun e => (raiseNew e : Sem α)) Q E { s with heap := h1 } := by
  refine wpAny_bind ?_
  simp only [newExc, newTuple]
  refine wpAny_bind (wpAny_newObj_type ?_ (by size_fits))
  refine wpAny_bind (m := firstArgMember _ _) (wpAny_of_eq (a := Value.none) (by first | rfl | (simp only [firstArgMember]; rfl)) ?_)
  refine wpAny_newObj_type ?_ (by size_fits)
  refine raiseNew_hot (hot_keep hot fun o e => Heap.get?_push_of_some _ (Heap.get?_push_of_some _ e)) ?_ (Heap.get?_push_size _ rfl) rfl (by first | (simp; done) | (simp; omega) | (simp only [Array.size_append]; simp; omega)) ?_
  · obtain ⟨_, o, vs, e, _, _⟩ := hot
    exact Nat.ne_of_lt (Heap.lt_size (Heap.get?_push_of_some _ e))
  · refine q _ _ (fun b o e => ?_) ⟨_, Heap.get?_update_self _ (Heap.get?_push_size _ rfl) rfl, rfl⟩
    rw [Heap.get?_update_other _ _ (Nat.ne_of_gt (Heap.lt_size (Heap.get?_push_of_some _ e)))]
    exact Heap.get?_push_of_some _ (Heap.get?_push_of_some _ e)
theorem in1_hot {x1 : Addr} {h : Heap} (hot : HotAt A x1 h) : HotAt A.in1 x1 h := by
  obtain ⟨hh, o, vs, e, d, c⟩ := hot
  exact ⟨hh, o, vs, e, d, c⟩
theorem list_end_hot {it l x1 : Addr} {i : Nat} {items : Array Value} {Q : Option Value → Shared → Prop} (hot : HotAt A x1 s.heap) (hne : x1 ≠ it)
    (hit : s.heap.IsListIter it l i) (hl : s.heap.IsList l items) (hx : items[i]? = none)
    (hQ : ∀ h', Heap.ExtBut it s.heap h' → Q none { s with heap := h' }) : wpAny (model prog w) A (pyNext (.ref it)) Q E s := by
  obtain ⟨o, ho, hc, hd⟩ := id hit
  obtain ⟨ol, hol, _, nl, hdl⟩ := hl
  unfold pyNext
  refine wpAny_bind (wpAny_attempt (wpAny_callSpecial?_slot (name := Str.ofString "__next__") hit.typeIs slot_listiter_next
    (wpAny_call_entry slot_listiter_next hit.typeIs entry_listiter_next ?_ (args_listiter_next _))))
  show wpAny _ _ (field (.ref it) 0 >>= _) _ _ s
  refine wpAny_bind (wpAny_field ho hd (x := .ref l) rfl ?_)
  show wpAny _ _ (if (Value.ref l == Value.none) = true then _ else _) _ _ s
  rw [if_neg (show ¬ ((Value.ref l == Value.none) = true) from Bool.false_ne_true)]
  show wpAny _ _ (field (.ref it) 1 >>= _) _ _ s
  refine wpAny_bind (wpAny_field ho hd (x := .int i 0) rfl ?_)
  show wpAny _ _ (seqItems? (.ref l) >>= _) _ _ s
  refine wpAny_bind (wpAny_seqItems hol hdl ?_)
  simp only [Int.toNat_natCast, hx]
  refine wpAny_bind (wpAny_rule (wpAny_bind (wpAny_setField ho hd (by simp) ?_)))
  refine stop_hot (P := fun _ _ => True) (in1_hot (hot_keep hot fun o e => (Heap.get?_update_other _ _ (Ne.symm hne)).trans e)) fun h' e k he => ?_
  refine wpAny_bind (wpAny_isInstance (T := "StopIteration") (b := true) he isSubtype_stop ?_)
  exact wpAny_pure (hQ h' fun b o hb eb => k b o ((Heap.get?_update_other _ _ (Ne.symm hb)).trans eb))
theorem tup_end_hot {it t x1 : Addr} {i : Nat} {items : Array Value} {Q : Option Value → Shared → Prop} (hot : HotAt A x1 s.heap) (hne : x1 ≠ it)
    (hit : IsTupIter s.heap it t i) (ht : IsTup s.heap t items) (hx : items[i]? = none)
    (hQ : ∀ h', Heap.ExtBut it s.heap h' → Q none { s with heap := h' }) : wpAny (model prog w) A (pyNext (.ref it)) Q E s := by
  obtain ⟨o, ho, hc, hd⟩ := id hit
  obtain ⟨ol, hol, _, nl, hdl⟩ := ht
  unfold pyNext
  refine wpAny_bind (wpAny_attempt (wpAny_callSpecial?_slot (name := Str.ofString "__next__") hit.typeIs slot_tupleiter_next
    (wpAny_call_entry slot_tupleiter_next hit.typeIs entry_tupleiter_next ?_ (args_tupleiter_next _))))
  show wpAny _ _ (field (.ref it) 0 >>= _) _ _ s
  refine wpAny_bind (wpAny_field ho hd (x := .ref t) rfl ?_)
  show wpAny _ _ (if (Value.ref t == Value.none) = true then _ else _) _ _ s
  rw [if_neg (show ¬ ((Value.ref t == Value.none) = true) from Bool.false_ne_true)]
  show wpAny _ _ (field (.ref it) 1 >>= _) _ _ s
  refine wpAny_bind (wpAny_field ho hd (x := .int i 0) rfl ?_)
  show wpAny _ _ (seqItems? (.ref t) >>= _) _ _ s
  refine wpAny_bind (wpAny_seqItems hol hdl ?_)
  simp only [Int.toNat_natCast, hx]
  refine wpAny_bind (wpAny_rule (wpAny_bind (wpAny_setField ho hd (by simp) ?_)))
  refine stop_hot (P := fun _ _ => True) (in1_hot (hot_keep hot fun o e => (Heap.get?_update_other _ _ (Ne.symm hne)).trans e)) fun h' e k he => ?_
  refine wpAny_bind (wpAny_isInstance (T := "StopIteration") (b := true) he isSubtype_stop ?_)
  exact wpAny_pure (hQ h' fun b o hb eb => k b o ((Heap.get?_update_other _ _ (Ne.symm hb)).trans eb))
theorem unpack_hot {t x1 : Addr} {items : Array Value} {targets : List (Bool × (Value → Sem Unit))} {Q : Unit → Shared → Prop} (hot : HotAt A x1 s.heap) (ht : IsTup s.heap t items)
    (hn : targets.length = items.size) (hstar : targets.findIdx? (·.1) = none)
    (h : ∀ h', Heap.ExtBut s.heap.objs.size s.heap h' → wpAny (model prog w) A (assignInOrder (targets.map (·.2)) items.toList) Q E { s with heap := h' }) :
    wpAny (model prog w) A (unpack (.ref t) targets) Q E s := by
  have hlt : t ≠ s.heap.objs.size := by obtain ⟨o, ho, _⟩ := ht; exact Nat.ne_of_lt (Heap.lt_size ho)
  have hx1 : x1 ≠ s.heap.objs.size := by obtain ⟨_, o, vs, e, _⟩ := hot; exact Nat.ne_of_lt (Heap.lt_size e)
  unfold unpack
  rw [hn, hstar]
  refine wpAny_bind (wpAny_holding ?_)
  unfold unpackItems
  refine wpAny_bind ?_
  unfold notIterableAtAll
  refine wpAny_bind (wpAny_specialOf ht.typeIs slot_tuple_iter.lookup ?_)
  refine wpAny_pure ?_
  simp only [Bool.false_eq_true, if_false]
  refine wpAny_bind (wpAny_holding (iter_tuple ht ?_))
  refine wpAny_bind (wpAny_holding (draw_tuple hlt items.size 0 _ _ ⟨_, Heap.get?_push_size _ rfl, rfl, rfl⟩ (ht.push _) (by omega) fun h₁ hit₁ hs₁ => ?_))
  have hall : List.take items.size (List.drop 0 items.toList) = items.toList := by
    rw [List.drop_zero]; exact List.take_of_length_le (by simp)
  rw [hall, if_neg (by simp)]
  have ht₁ : IsTup h₁ t items := (ht.push _).extBut hs₁.extBut hlt
  have hot1 : HotAt A x1 h₁ := hot_keep hot fun o e => hs₁.extBut x1 o hx1 (Heap.get?_push_of_some _ e)
  refine wpAny_bind (wpAny_holding (tup_end_hot hot1 hx1 hit₁ ht₁ (by simp) fun h₂ he₂ => ?_))
  simp only [Option.isSome_none, Bool.false_eq_true, if_false]
  exact wpAny_pure (h h₂ fun b o hb e => he₂ b o hb (hs₁.extBut b o hb (Heap.get?_push_of_some _ e)))
end
end EvH

end -- EvR
section -- EvS
namespace Ev
open PySem PySem.Spec PyProof.Rows L2 HotX
/-- the exception at x1 is handled, it stands since the start -/
structure HB (Y : Cx) (x1 : Addr) : Prop where
  hd : Y.A.handled = some (.ref x1)
  at0 : ∃ (o : Obj) (vs : Array Value), Y.s_0.heap.get? x1 = some o ∧ o.data = .fields vs ∧ vs[2]? = some .none
  fr : Y.H_0 x1 = none
  nfs : x1 ∉ Y.fs
  nex : x1 ∉ Y.ex
theorem HB.hot {Y : Cx} {x1 : Addr} {pins : List (Addr × Obj)} {σ : L2.St} {H : Hp} {s : Shared} (b : HB Y x1) (I : Inv Y pins σ H s) : HotAt Y.A x1 s.heap := by
  obtain ⟨o, vs, e, d, c⟩ := b.at0
  exact ⟨b.hd, o, vs, I.base.keep x1 o e b.fr b.nfs b.nex, d, c⟩
/-- the exception that is handled is pinned -/
structure HP (X : Cx) (p : Addr × Obj) : Prop where
  hot : L2H.Hot1 X.A p
  mem : p ∈ X.pn
section
variable {X : Cx} {pos : Pos}
theorem pg_tupH {x1 : Addr} {es : List Expr} {k : Nat} {t : TGs} {n : Nat} (b : HB X x1) (h : PGs X es t)
    (hn : (assignEach es X.env).length = n := by rfl) (hst : (assignEach es X.env).findIdx? (·.1) = none := by rfl) : PG X (.Tuple es k pos) (gTup X.K n t) := by
  refine ⟨fun pins s σ H v u Q I r hw => ?_⟩
  obtain ⟨a, xs, rfl, hq, hl, hw⟩ := hw
  cases r
  obtain ⟨its, rv, ht, hz⟩ := I.tuple hq
  rw [assign_Tuple]
  refine wpAny_bind (wpAny_standAt (EvH.unpack_hot (b.hot I) ht (by simp [hn, ← hl, rv.length]) hst fun h' hx => ?_))
  have I1 : Inv X pins σ H { s with heap := h' } := I.kept (t' := s.toks) fun b o e => hx b o (Nat.ne_of_lt (Heap.lt_size e)) e
  exact h.run pins _ σ H xs _ Q I1 (by simpa using rv) hw
/-- [elt for tg in a list if ..], the list left as it is -/
def tLcH (K : PySem.W.Frag) (ti : TE) (g : TG) (tt : TT) (te : TE) (vs : List Nat) : TE := fun σ H Q => ti σ H fun x H1 => ∃ a xs, x = .ref a ∧ SqL K H1 a xs ∧ ∀ D, H1 D = none → ∃ Pv : Nat → Hp → Prop, Pv 0 (upd H1 D (.lst [])) ∧ (∀ i H, Pv i H → SqL K H a xs) ∧
  (∀ i x H, xs[i]? = some x → Pv i H → g x (wipe σ vs) H fun σ2 H2 => wipe σ2 vs = wipe σ vs ∧ tt σ2 H2 fun b H3 =>
    if b = true then te σ2 H3 fun y H4 => ∃ acc, H4 D = some (.lst acc) ∧ acc.length < sizeLine ∧ Pv (i + 1) (upd H4 D (.lst (acc ++ [y]))) else Pv (i + 1) H3) ∧ ∀ H, Pv xs.length H → Q (.ref D) H
theorem pe_lcH {p : Addr × Obj} {elt tg iter : Expr} {ifs : List Expr} {scope : Scope} {own : List (Str × Nat)} {ti : TE} {g : TG} {tt : TT} {te : TE} (hp : HP X p) (hN : X.N.Nodup) (hi : PE X iter ti) (ok : BlkOk X.N X.env.scope scope own)
    (hg : ∀ (s : Shared) (H : Hp) (C : Addr) (cl : List (Str × Addr)) (fp : List Addr), HB (X.blk s H scope (compEnvC scope cl C X.env) fp) p.1 → PG (X.blk s H scope (compEnvC scope cl C X.env) fp) tg g)
    (ht : ∀ (s : Shared) (H : Hp) (C : Addr) (cl : List (Str × Addr)) (fp : List Addr), PTs (X.blk s H scope (compEnvC scope cl C X.env) fp) ifs tt)
    (he : ∀ (s : Shared) (H : Hp) (C : Addr) (cl : List (Str × Addr)) (fp : List Addr), PE (X.blk s H scope (compEnvC scope cl C X.env) fp) elt te) (hs : ∀ x, foldedSetIterable iter X.env x = pure x := by intro _; rfl) :
    PE X (.ListComp elt [⟨tg, iter, ifs, 0⟩] scope pos) (tLcH X.K ti g tt te (own.map (·.2))) := by
  refine ⟨fun pins s σ H Q I h => ?_⟩
  rw [eval_ListComp]
  have hfree : ∀ y ∈ scope.names, y.2 = .free → ∃ c, X.env.cells.lookup y.1 = some c := fun y hy e =>
    (ok.free y hy e).elim (fun k => I.ok.has _ (.inl k)) fun k => I.ok.has _ (.inr k)
  refine wpAny_comprehension_free (use := none) rfl hs (closure_ok hfree) ok.kind (fun y hy e => by rw [ok.uniq y hy, e]) (thn (hi.run pins s σ H _ I h) fun v s1 ⟨x, H1, I1, r1, a, xs, ex, hq, q⟩ => ?_)
  subst ex
  cases r1
  obtain ⟨its0, _, p0, _⟩ := I1.list hq
  refine wpAny_pyIter_list p0.isList (wpAny_newObj_type (newEnv_comp ?_) (by show 0 ≤ sizeLine; decide))
  -- the iterator at T, the new list at D, the block's dict at C
  generalize eT : s1.heap.objs.size = T
  have nT : H1 T = none := I1.hok.fresh (Nat.le_of_eq eT)
  generalize es2 : ({ s1 with heap := s1.heap.push { cls := .type "list_iterator", data := .fields #[.ref a, .int 0 0] } } : Shared) = s2
  have I2 : Inv X pins σ H1 s2 := by rw [← es2]; exact I1.kept (t' := s1.toks) fun b o e => Heap.get?_push_of_some _ e
  have t2 : s2.heap.IsListIter T a 0 := by rw [← es2, ← eT]; exact ⟨_, Heap.get?_push_size _ rfl, rfl, rfl⟩
  have sz2 : s2.heap.objs.size = T + 1 := by rw [← es2, ← eT, Heap.size_push]
  generalize eD : s2.heap.objs.size = D
  have nD : H1 D = none := I2.hok.fresh (Nat.le_of_eq eD)
  obtain ⟨Pv, pv0, pvS, pvT, pvE⟩ := q D nD
  generalize es3 : ({ s2 with heap := s2.heap.push { cls := .type "list", data := .seq ([] : List Value).toArray } } : Shared) = s3
  have I3 : Inv X pins σ (upd H1 D (.lst [])) s3 := by
    rw [← es3]
    refine I2.laid (t' := s2.toks) (fun b o e => Heap.get?_push_of_some _ e) (Nat.le_of_eq eD) ⟨Nat.zero_le _, [], 0, .nil, ?_⟩
    rw [← eD]
    exact Heap.get?_push_size _ rfl
  have TD : T ≠ D := by omega
  have fT : FpOk X pins (upd H1 D (.lst [])) T := I1.fpOk (Nat.le_of_eq eT) (by rw [upd_ne TD]; exact nT)
  have t3 : s3.heap.IsListIter T a 0 := t2.at fun o e => by rw [← es3]; exact Heap.get?_push_of_some _ e
  have lT : T < s3.heap.objs.size := by obtain ⟨_, e, _⟩ := t3; exact Heap.lt_size e
  generalize eH3 : upd H1 D (.lst []) = H3 at I3 fT pv0
  have P3 := I3.pin p (List.mem_append_left _ hp.mem)
  have pT : p.1 ≠ T := fT.2.2.2.2.2 p (List.mem_append_left _ hp.mem)
  have I4 := block_start (fp := [T]) I3 ok hN fun b hb => by
    rw [List.mem_singleton.mp hb]
    exact ⟨fT, lT⟩
  generalize eC : s3.heap.objs.size = Cc at I4
  generalize ecl : cellsFrom (Cc + 1) scope.names (cloFrom X.env.cells scope.names []) = cl at I4
  have hb : HB (X.blk s3 H3 scope (compEnvC scope cl Cc X.env) [T]) p.1 := by
    obtain ⟨hh, vs, d1, c1⟩ := hp.hot
    exact ⟨hh, ⟨p.2, vs, P3.1, d1, c1⟩, P3.2.1, fun hm => (List.mem_cons.mp (I3.stkSub p.1 hm)).elim P3.2.2.1 P3.2.2.2.1, by simp [pT]⟩
  have pg := hg s3 H3 Cc cl [T] hb
  have pt := ht s3 H3 Cc cl [T]
  have pe := he s3 H3 Cc cl [T]
  show codeAny _ _ (.compStart (.ListComp elt [⟨tg, iter, ifs, 0⟩] scope pos) 0 (.ref T) (.ref D) (compEnvC scope cl Cc X.env)) (compPost (model X.prog X.w) X.A X.xe none (EP X pins σ Q) (.ref D) Cc) { s3 with heap := pushCells (s3.heap.push { cls := .type "dict", data := .dict #[] }) scope.names }
  generalize ece : compEnvC scope cl Cc X.env = ce at I4 hb pg pt pe ⊢
  have cL : ce.locals = Cc := by rw [← ece]; rfl
  generalize es4 : ({ s3 with heap := pushCells (s3.heap.push { cls := .type "dict", data := .dict #[] }) scope.names } : Shared) = s4 at I4 ⊢
  have t4 : s4.heap.IsListIter T a 0 := t3.at fun o e => by rw [← es4]; exact pushCells_keeps _ _ _ _ (Heap.get?_push_of_some _ e)
  have n3 : H3 T = none := fT.1
  have mT : T ∈ (X.blk s3 H3 scope ce [T]).ex := List.mem_singleton.mpr rfl
  have loop : codeAny (model X.prog X.w) X.A (.compLoop (.ListComp elt [⟨tg, iter, ifs, 0⟩] scope pos) 0 (.ref T) (.ref D) ce) (compPost (model X.prog X.w) X.A X.xe none (EP X pins σ Q) (.ref D) Cc) s4 := by
    refine compLoop_any (fun n s' => ∃ i H', Inv (X.blk s3 H3 scope ce [T]) [] (wipe σ (own.map (·.2))) H' s' ∧ s'.heap.IsListIter T a i ∧ H' T = none ∧ Pv i H' ∧ n = xs.length - i ∧ i ≤ xs.length) ?_ xs.length ⟨0, H3, I4, t4, n3, pv0, rfl, Nat.zero_le _⟩
    rintro n s5 ⟨i, H5, I5, t5, n5, p5, rfl, hle⟩
    have stat : ∀ {H' : Hp} {s' : Shared} {σ' : L2.St}, Inv (X.blk s3 H3 scope ce [T]) [] σ' H' s' → H' T = none → FpOk (X.blk s3 H3 scope ce [T]) [] H' T := fun I' n' =>
      ⟨n', (I'.ok.exf T mT).1, I'.ok.exfs T mT, .inl mT, fun x c e => (I'.ok.exf T mT).2 x c e, fun p hp => absurd (show p ∈ ([] : List (Addr × Obj)) ++ [] from hp) (by simp)⟩
    obtain ⟨f0, f1, f2, f3, f4, f5⟩ := stat I5 n5
    obtain ⟨its, rv, pl, hz⟩ := I5.list (pvS i H5 p5)
    have hlen := rv.length
    by_cases hlt : i < xs.length
    · have hx : xs[i]? = some xs[i] := List.getElem?_eq_getElem hlt
      obtain ⟨u, hu, ru⟩ := rv.get hx
      refine wpAny_pyNext_list_item t5 pl.isList (x := u) (by simpa using hu) fun h6 t6 sb => ?_
      have I6 : Inv (X.blk s3 H3 scope ce [T]) [] (wipe σ (own.map (·.2))) H5 { s5 with heap := h6 } := I5.turned (t' := s5.toks) (fun b o hb e => (sb.2 b hb).trans e) f0 f1 f3 f4 f5
      obtain ⟨o6, e6, c6, d6⟩ := id t6
      refine go_of (s := { s5 with heap := h6 }) e6 c6 d6 (by decide) ?_
      have I7 := I6.pinned (fp := [T]) (fun b hb => by rw [List.mem_singleton.mp hb]; exact stat I6 n5) (fun b hb => by rw [List.mem_singleton.mp hb]; exact ⟨o6, e6, fun v z => by rw [d6] at z; cases z⟩)
      refine thnF (pg.run _ _ _ H5 _ u _ I7 ru (pvT i _ H5 hx p5)) fun _ s8 ⟨σ8, H8, I8, hw8, q8⟩ => ?_
      refine thnF (pt.run _ s8 σ8 H8 _ I8 q8) fun b s9 ⟨H9, I9, q9⟩ => ?_
      have fin : ∀ {s' : Shared} {H' : Hp}, Inv (X.blk s3 H3 scope ce [T]) ([] ++ pinsAt [T] h6) σ8 H' s' → Pv (i + 1) H' →
          ∃ m, m < xs.length - i ∧ ∃ i H', Inv (X.blk s3 H3 scope ce [T]) [] (wipe σ (own.map (·.2))) H' s' ∧ s'.heap.IsListIter T a i ∧ H' T = none ∧ Pv i H' ∧ m = xs.length - i ∧ i ≤ xs.length := fun {s' H'} I' nx => by
        have pin' := I'.pin (T, o6) (List.mem_append_right _ (List.mem_append_right _ (mem_pinsAt (List.mem_singleton.mpr rfl) e6)))
        refine ⟨xs.length - (i + 1), by omega, i + 1, H', (I'.unpinned (pins := [])).weak (by rw [← hw8, wipe_length]) (fun j v e => ?_), ⟨o6, pin'.1, c6, d6⟩, pin'.2.1, nx, rfl, hlt⟩
        rw [← hw8] at e
        exact (wipe_some e).1
      cases b with
      | false =>
        simp only [Bool.false_eq_true, if_false] at q9 ⊢
        exact fin I9 q9
      | true =>
        simp only [if_true] at q9 ⊢
        refine thnF (pe.run _ s9 σ8 H9 _ I9 q9) fun z s10 ⟨yv, H10, I10, r10, acc, hD10, hz10, nx⟩ => ?_
        exact app_ok (X := X.blk s3 H3 scope ce [T]) I10 hD10 hz10 r10 fun s11 I11 => fin I11 nx
    · have ei : i = xs.length := by omega
      subst ei
      refine EvH.list_end_hot (hb.hot I5) pT t5 pl.isList (by simp; omega) fun h6 eb => ?_
      have I6 : Inv (X.blk s3 H3 scope ce [T]) [] (wipe σ (own.map (·.2))) H5 { s5 with heap := h6 } := I5.turned (t' := s5.toks) (fun b o hb e => eb b o hb e) f0 f1 f3 f4 f5
      have I7 : Inv X pins σ H5 { s5 with heap := h6 } := I3.call' (ch := [T]) I6.os I6.base I6.hok I6.bare fun b hb => by
        rw [List.mem_singleton.mp hb]
        exact ⟨fT.2.2.2.1, fT.2.1, fT.2.2.2.2.1, fT.2.2.2.2.2⟩
      have nC : H5 Cc = none := by
        have z : H5 ce.locals = none := I6.free
        rw [cL] at z
        exact z
      obtain ⟨m, hn, _⟩ := I6.loc
      have hn : ({ s5 with heap := h6 } : Shared).heap.Ns ce.locals m := hn
      rw [cL] at hn
      obtain ⟨g0, g1, g2, g3, g4, g5⟩ := I3.fpOk (Nat.le_of_eq eC) nC
      exact ⟨m, hn, fun h'' sb => ⟨.ref D, H5, I7.turned (t' := s5.toks) (fun b o hb e => (sb.2 b hb).trans e) g0 g1 g3 g4 g5, rfl, pvE H5 p5⟩⟩
  exact codeAny_compStart_list loop (wpAny_pyIter_listiter t4 loop)
end
end Ev

end -- EvS
section -- EvT
namespace Ev
open PySem PySem.Spec PyProof.Rows L2 HotX
section
variable {X : Cx} {tb : List (Addr × Str)} {P : CP} {B : Amb} {sc : Scope}
theorem de_bor0 (hN : X.N = P.N) (hs : X.env.scope = sc) {x : Str} {i : Nat} {p : Pos} (hn : okName x = true) (hv : isVis sc x = true) (hi : ixOf P.N x = some i) : DE X tb (.Name x p) true (ev B (.bor i)) := fun W tk => by
  refine pe_imp (pe_var (i := i) (by rw [hN]; exact ixOf_some hi) (by rw [hs]; exact isVis_vis hv) (okName_1 hn) (okName_2 hn)) fun σ H Q ⟨ρ, S, A, hρ, hS, h⟩ => ?_
  obtain ⟨q, e, h⟩ := re_of (show RE X.K X.mg tb W true A σ H (R.of (slBor ρ[i]?) S) Q by simpa only [ev] using h)
  obtain ⟨v, e1, e2⟩ := hρ.bor e
  exact ⟨v, e1, h v H A (.refl A H) hS e2⟩
theorem de_bin0 (hu : X.A.units + 65 < cLine) {o : Bop} {op : Operator} {a b : Expr} {c d : C} {pos : Pos} (ho : binOf op = some o) (ha : DE X tb a true (ev B c)) (hb : DE X tb b true (ev B d)) : DE X tb (.BinOp a op b pos) false (ev B (.bin o c d)) := fun W tk => by
  have h := o_all (X := X) (tb := tb) hu o (bin_sem ho).2
  rw [(bin_sem ho).1] at h
  exact pe_imp (pe_op h (ha W tk) (hb W tk)) fun σ H Q q => op_read q
theorem ds_set0 (hN : X.N = P.N) (nd : P.N.Nodup) (tg : TgOk X sc) {x : Str} {i : Nat} {e : Expr} {d : C} {px pos : Pos} (hx : isLocal sc x = true) (hi : ixOf P.N x = some i) (he : DE X tb e false (ev B d)) (hs : swapsWith e (some (.Name x px)) pos.line X.env = pure false) : DS X tb (.Assign [.Name x px] e pos) (exS B (.set i d)) := fun A0 H0 W tk => by
  obtain ⟨o1, o2⟩ := tg x hx
  refine ps_imp (ps_set (i := i) (by rw [hN]; exact nd) (by rw [hN]; exact ixOf_some hi) o1 (he W tk) hs o2) fun D σ H ⟨ρ, S, A, ss, q⟩ => ?_
  simp only [exS] at q
  exact to_bind (k' := false) ss q fun p S1 v H1 A1 _ s ss1 r q1 => QE.nx q1 (ss1.setVal i r)
def rIsP (K : PySem.W.Frag) (D a : Addr) : List V → Hp → VK → Prop := fun xs H Q => ∃ (C : Addr) (b : Bool), xs = [.ref a, .ref C] ∧ PySem.W.kitOne K (.ref D) (.ref C) = some b ∧ Q (.bl b) H
theorem call_isP {p : Addr × Obj} {D : Addr} (C : ExcC X.K D) (hp : p ∈ X.pn) (hz : Zc (.ref D) none p.2) (hf : ∃ vs, p.2.data = .fields vs) : CallR X (.builtin "isinstance") (rIsP X.K D p.1) := by
  intro pins s σ H xs us Q I r h
  obtain ⟨Cc, b, rfl, e, q⟩ := h
  obtain ⟨u1, u2, rfl, r1, r2⟩ := vals2 r
  cases r1
  cases r2
  have hget := (I.pin p (List.mem_append_left _ hp)).1
  obtain ⟨vs, hv⟩ := hf
  have J : PySem.W.InstAt s.heap p.1 p.2 D none := by
    obtain ⟨a, oc, od, oda, osl⟩ := p
    obtain ⟨h1, h2⟩ := hz
    dsimp only at h1 h2 hv
    subst h1 h2 hv
    exact ⟨hget, rfl, rfl, trivial⟩
  exact PySem.W.kia_one (PySem.W.handS_kitx_exc C.hg C.hk C.hs C.hd C.ha C.hn C.ht C.hm) I.kIn J e (fun z => nomatch z) fun tk => ⟨.bl b, H, I.kept (t' := tk) fun _ _ z => z, rfl, q⟩
/-- the exception p.1 is of the class x: what isinstance tells of it -/
def kitF (kit : Str → Str → Option Bool) (a : Addr) (y : Str) : Str → Int → Option Bool := fun x l => if l = (a : Int) then kit x y else none
structure ExF (X : Cx) (p : Addr × Obj) (x : Str) (kit : Str → Str → Option Bool) : Prop where
  mem : p ∈ X.pn
  cls : ∃ D, X.mg x = some (.ref D) ∧ ExcC X.K D ∧ Zc (.ref D) none p.2 ∧ ∀ y b, kit x y = some b → ∃ Cy, X.mg y = some (.ref Cy) ∧ PySem.W.kitOne X.K (.ref D) (.ref Cy) = some b
  flds : ∃ vs, p.2.data = .fields vs
theorem de_isx {p : Addr × Obj} {x : Str} {kit : Str → Str → Option Bool} (hN : X.N = P.N) (hs : X.env.scope = sc) (gl : ∀ {x : Str}, isGlob sc x = true → Gl X x) (hm : X.mg "isinstance" = none) (F : ExF X p x kit)
    {fi e y : Str} {i : Nat} {p1 p2 p3 pos : Pos} (hfi : fi = ("isinstance" : Str)) (gi : isGlob sc fi = true) (he : okName e = true) (hv : isVis sc e = true) (hi : ixOf P.N e = some i) (hy : okName y = true) (gy : isGlob sc y = true) :
    DE X tb (.Call (.Name fi p1) [.Name e p2, .Name y p3] [] pos) false (ev B (.isx i fun x' l => if x' = x then kitF kit p.1 y x' l else none)) := fun W tk => by
  subst hfi
  obtain ⟨D, hD, hC, hz, hk⟩ := F.cls
  refine ⟨fun pins s σ H Q I q => ?_⟩
  obtain ⟨ρ, S, A, hρ, hS, q⟩ := q
  simp only [ev] at q
  unfold isxR at q
  split at q
  · rename_i x' l hsl
    obtain ⟨b, e1, q2⟩ := re_of q
    obtain ⟨b', e2, rfl⟩ := Option.map_eq_some_iff.mp e1
    simp only at e2
    split at e2
    · rename_i hx
      subst hx
      unfold kitF at e2
      split at e2
      · rename_i hl
        obtain ⟨v, e3, e4⟩ := hρ.var hsl
        have ev4 : v = .ref p.1 := by
          have : v = .ref l.toNat := by simpa [Rp] using e4
          rw [this, hl]
          rfl
        subst ev4
        obtain ⟨Cy, g1, g2⟩ := hk y b' e2
        have pE : PE X (.Name e p2) _ := pe_var (i := i) (by rw [hN]; exact ixOf_some hi) (by rw [hs]; exact isVis_vis hv) (okName_1 he) (okName_2 he)
        have pY : PE X (.Name y p3) (tC (.ref Cy)) := pe_glob (gl gy) g1 rfl (okName_1 hy)
        refine (pe_callB (call_isP hC F.mem hz F.flds) (gl gi) hm boot_isi (pa_cons pE (pa_cons pY pa_nil)) (by decide +kernel) (by decide +kernel)).run pins s σ H Q I ?_
        exact ⟨.ref p.1, e3, Cy, b', rfl, g2, q2 (.bl b') H A (.refl A H) hS (Rk.of rp_bl)⟩
      · cases e2
    · cases e2
  · exact q.elim
end
end Ev

end -- EvT
section -- EvU
namespace Ev
open PySem PySem.Spec PyProof.Rows L2 HotX
section
variable {P : Program} {w : World} {K : PySem.W.Frag} {mg : Str → Option Value} {base : Heap}
theorem run_hot {x : Str} {params : Arguments} {body : List Stmt} {scope : Scope} {f : Addr} {fd : FuncData} (F : FunD K x x params body scope [] [] f fd) {N ps : List Str} (S : FnScope N ps scope) {A : Around} {outer : List Env} {s : Shared} {H : Hp} {args : Args} {us : List Value} {vs : List V} {Q : VK} {p : Addr × Obj} {k : Nat}
    (hr : L2H.RoomH (k + 1) A) (hot : L2H.Hot1 A p) (hpin : L2H.PinOk outer H s p) (e0 : Env0 P w K mg base A outer s H) (hb : BindsTo s fd args (ps.zip us)) (r : Vals vs us) (hl : vs.length = ps.length)
    (go : ∀ (cdv : Value), L2H.RoomH k (A.deeper (envOfC x scope s.heap.objs.size f cdv)) → ∃ t, PSs (L2H.cxH (L2N.CX P w) P w K mg base N x scope f cdv A outer s H (fun _ _ _ => False) p) body t ∧ t { nx := fun _ H' => Q .non H', rt := Q } (L2.start N vs) H) :
    codeAny (model P w) A (.call (.ref f) args) (CR (L2N.CX P w) outer P w H s Q fun _ _ _ => False) s := by
  obtain ⟨oc, od, dV, kV, doc, pm, an, cdv, ct, osl, rfl, lk, hcd, _, _⟩ := F.ex
  have KX : K.In s.heap := e0.mod.kin.keeps fun b o e => (e0.bs b o e).1
  have room : ∀ y ∈ ps.zip us, scope.names.lookup y.1 = some .local ∨ (scope.names.lookup y.1 = some .cell ∧ ((cellsFrom (s.heap.objs.size + 1) scope.names []).lookup y.1).isSome = true) := fun y hy =>
    (S.par y.1 (List.of_mem_zip (show (y.1, y.2) ∈ ps.zip us from hy)).1).imp id fun q => ⟨q, PySem.W.cellsFrom_some _ _ _ (.inl q)⟩
  refine codeAny_call_function hr.depth (KX _ _ lk) rfl S.co S.gen rfl (PySem.W.codeRec_of KX hcd) (hb _ _ _ _ (wpAny_newFunctionEnv_cells S.kind room fun env he s1 ic => ?_))
  subst he
  refine ⟨(e0.mod.nolimit.keeps fun b o e => (e0.bs b o e).1).keeps ic.toInCall.keep, codeAny_func ?_⟩
  obtain ⟨t, ht, hq⟩ := go cdv (hr.deeper _)
  refine wpAny_mono (ht.run [] s1 _ H _ (L2H.inv_startH S hpin e0 hl r ic) hq) (fun fl s' z => ?_) fun _ _ z => z
  cases fl with
  | ret u =>
    obtain ⟨v, _, H', J, rv, q⟩ := z
    exact ⟨v, H', J.os, J.bare, J.base, J.hok, rv, q⟩
  | next =>
    obtain ⟨_, H', J, q⟩ := z
    exact ⟨.non, H', J.os, J.bare, J.base, J.hok, rfl, q⟩
  | brk => obtain ⟨_, _, _, q⟩ := z; exact q.elim
  | cont => obtain ⟨_, _, _, q⟩ := z; exact q.elim
end
/-- f(e) in the suite that caught a -/
theorem pe_hot {X : Cx} {a : Addr} {oe : Obj} {pn : List (Addr × Obj)} {f : Str} {fa : Addr} {fd : FuncData} {params : Arguments} {body : List Stmt} {scope : Scope} {N : List Str} {i : Nat} {e x1 : Str} {p q pos : Pos} {v : V} {k : Nat} (F : FunD X.K f f params body scope [] [] fa fd) (S : FnScope N [x1] scope) (hb : L2.Binds X.K fd [x1] [])
    (hN : X.N[i]? = some e) (hv : Vis X.env.scope e) (h1 : okName e = true) (hg : Gl X f) (hm : X.mg f = some (.ref fa)) (hf : okName f = true) (hk : PySem.W.keepIn X.K (.ref fa) = true) (hr : L2H.RoomH (k + 1) X.A) (hz : L2N.Zn (oe.cls) none oe) (hfl : ∃ vs, oe.data = .fields vs)
    {tb : List (Addr × Str)} (go : ∀ (cdv : Value) (s : Shared) (H : Hp) (A : List Addr) (S' : Sto) (Q : VK), SRep X.K X.mg tb A H S' → (∀ H', Stp A H A H' → SRep X.K X.mg tb A H' S' → Q v H') → L2H.RoomH k ((X.A.mark (some (.ref a))).deeper (envOfC f scope s.heap.objs.size fa cdv)) →
      ∃ t, PSs (L2H.cxH (L2N.CX X.prog X.w) X.prog X.w X.K X.mg X.base N f scope fa cdv (X.A.mark (some (.ref a))) X.stack s H (fun _ _ _ => False) (a, oe)) body t ∧ t { nx := fun _ H' => Q .non H', rt := Q } (L2.start N [.ref a]) H) :
    PE (X.suite a ((a, oe) :: pn)) (.Call (.Name f p) [.Name e q] [] pos) (fun σ H Q => σ[i]? = some (some (.ref a)) ∧ ∃ A S', SRep X.K X.mg tb A H S' ∧ ∀ H', Stp A H A H' → SRep X.K X.mg tb A H' S' → Q v H') := by
  refine ⟨fun pins s σ H Q I h => ?_⟩
  obtain ⟨h, A, S', hS, hQ⟩ := h
  have pE : PE (X.suite a ((a, oe) :: pn)) (.Name e q) (tVar i) := pe_var hN hv (okName_1 h1) (okName_2 h1)
  have pA : PA (X.suite a ((a, oe) :: pn)) [.Name e q] (tCons (tVar i) tNil) := pa_cons pE pa_nil
  refine wpAny_Call_Name_kw (ld_glob I hg hm ?_ (okName_1 hf))
  refine PySem.W.callWith_K (h₀ := X.base) I.ok.mod.kin hk (thn (pA.run pos pins s σ H (fun vs H1 => vs = [.ref a] ∧ H1 = H) I ⟨.ref a, h, rfl, rfl⟩) fun us s1 ⟨vs, H1, I1, r, e1, e2⟩ => ⟨I1.kIn, ?_⟩) rfl rfl
  subst e1
  rw [e2] at I1
  have P1 := I1.pin (a, oe) (List.mem_append_left _ List.mem_cons_self)
  obtain ⟨vs, hvs⟩ := hfl
  have hot : L2H.Hot1 (X.suite a ((a, oe) :: pn)).A (a, oe) := ⟨rfl, vs, hvs, hz.2.2 vs hvs⟩
  have hpin : L2H.PinOk (X.suite a ((a, oe) :: pn)).stack H s1 (a, oe) := ⟨P1.1, P1.2.1, fun hm => (List.mem_cons.mp (I1.stkSub a hm)).elim P1.2.2.1 P1.2.2.2.1, P1.2.2.2.2⟩
  have hl : us.length = 1 := r.length.symm
  have b := hb s1 us I1.kIn (by rw [List.append_nil]; exact hl)
  rw [List.append_nil] at b
  refine wpAny_call (codeAny_mono (run_hot F S (Q := fun v' H' => v' = v ∧ Q v H') (k := k) ⟨hr.dp, hr.un⟩ hot hpin I1.env0 b r rfl fun cdv hr' => go cdv s1 H A S' (fun v' H' => v' = v ∧ Q v H') hS (fun H' s hS' => And.intro rfl (hQ H' s hS')) hr') fun r s' hq => ?_)
  cases r with
  | error e =>
    obtain ⟨_, _, _, _, _, _, _, _, _, _, _, _, z⟩ := hq
    exact z.elim
  | ok fl =>
    cases fl with
    | ret u =>
      obtain ⟨v', H', I', r', e1, e2⟩ := I1.after hq
      subst e1
      exact ⟨_, _, I', r', e2⟩
    | next => exact hq.elim
    | brk => exact hq.elim
    | cont => exact hq.elim
end Ev

end -- EvU
section -- EvV
namespace Ev
open PySem PySem.Spec PyProof.Rows L2 HotX
/-- ('word', isinstance(e, Y)) -/
def pairE (sc : Scope) (e : Str) : Expr → Option (Str × Str)
  | .Tuple [.Constant (.str w) _ _, .Call (.Name fi _) [.Name e' _, .Name y _] [] _] _ _ => if fi = ("isinstance" : Str) ∧ isGlob sc fi = true ∧ e' = e ∧ okName y = true ∧ isGlob sc y = true then some (w, y) else none
  | _ => none
def pairsE (sc : Scope) (e : Str) : List Expr → Option (List (Str × Str))
  | [] => some []
  | x :: r => match pairE sc e x, pairsE sc e r with
    | some p, some ps => some (p :: ps)
    | _, _ => none
/-- some = [..]; some = some + [..]; ..; return sep.join([a for a, b in some if b]) -/
def errC (sc : Scope) (e s a b : Str) : Bool → List Stmt → Option (List (List (Str × Str)) × Str)
  | true, .Assign [.Name s' _] (.List es _) _ :: r => if s' = s ∧ es.length ≤ 1000 then (match pairsE sc e es, errC sc e s a b false r with
    | some t, some (ts, sep) => some (t :: ts, sep)
    | _, _ => none) else none
  | false, [.Return (some (.Call (.Attribute (.Constant (.str sep) _ _) m ap) [.ListComp (.Name a1 _) [⟨.Tuple [.Name a2 _, .Name b1 _] _ _, .Name s' _, [.Name b2 _], 0⟩] scope _] [] cp)) _] =>
    if s' = s ∧ m = ("join" : Str) ∧ a1 = a ∧ a2 = a ∧ b1 = b ∧ b2 = b ∧ (ap.endLine == cp.line) = true ∧ blkC [e, s, a, b] sc scope [(a, 2), (b, 3)] = true ∧ scope.names.lookup a = some .local ∧ scope.names.lookup b = some .local then some ([], sep) else none
  | false, .Assign [.Name s' _] (.BinOp (.Name s'' _) .Add (.List es _) _) _ :: r => if s' = s ∧ s'' = s ∧ es.length ≤ 1000 then (match pairsE sc e es, errC sc e s a b false r with
    | some t, some (ts, sep) => some (t :: ts, sep)
    | _, _ => none) else none
  | _, _ => none
def tellL (kb : Str → Bool) (t : List (Str × Str)) : List PV := t.map fun q => .tup [.str q.1, .bl (kb q.2)]
def wordsL (kb : Str → Bool) (t : List (Str × Str)) : List Str := (t.filter fun q => kb q.2).map (·.1)
section
variable {X : Cx} {tb : List (Addr × Str)} {p : Addr × Obj} {x : Str} {kit : Str → Str → Option Bool} {sc : Scope} {e s a b : Str} {B : Amb}
def gI (kit : Str → Str → Option Bool) (p : Addr × Obj) (x y : Str) : Str → Int → Option Bool := fun x' l => if x' = x then kitF kit p.1 y x' l else none
def pairK (kit : Str → Str → Option Bool) (p : Addr × Obj) (x : Str) (q : Str × Str) : C := .tup (.cons (.cst (.str q.1)) (.cons (.isx 0 (gI kit p x q.2)) .nil))
def csK (kit : Str → Str → Option Bool) (p : Addr × Obj) (x : Str) : List (Str × Str) → Cs
  | [] => .nil
  | q :: r => .cons (pairK kit p x q) (csK kit p x r)
/-- the context -/
structure HC (X : Cx) (sc : Scope) (p : Addr × Obj) (x : Str) (kit : Str → Str → Option Bool) (e s a b : Str) : Prop where
  N : X.N = [e, s, a, b]
  nd : [e, s, a, b].Nodup
  sce : X.env.scope = sc
  he : isVis sc e = true
  hs : sc.names.lookup s = some .local
  ok : okName e = true ∧ okName s = true ∧ okName a = true ∧ okName b = true
  free : X.mg "isinstance" = none
  F : ExF X p x kit
  hp : HP X p
  hu : X.A.units + 65 < cLine
def cpN (e s a b : Str) : CP := { N := [e, s, a, b] }
theorem ix0 (e s a b : Str) : ixOf [e, s, a, b] e = some 0 := by
  unfold ixOf
  rw [List.findIdx?_cons]
  simp
theorem ix1 {e s a b : Str} (nd : [e, s, a, b].Nodup) : ixOf [e, s, a, b] s = some 1 := by
  have h : (e == s) = false := by
    simp at nd
    simpa using nd.1.1
  unfold ixOf
  rw [List.findIdx?_cons, h]
  simp [List.findIdx?_cons]
theorem da_nil {k : Bool} : DA X tb [] k (evs B .nil) := snd_list (f := fun _ => none) (fun _ _ h => by cases h) (fun _ _ => rfl) rfl
theorem da_cons {k : Bool} {e : Expr} {r : List Expr} {c : C} {cs : Cs} (h1 : DE X tb e k (ev B c)) (h2 : DA X tb r k (evs B cs)) (hs : starEach (e :: r) X.env = (false, eval e X.env) :: starEach r X.env) : DA X tb (e :: r) k (evs B (.cons c cs)) := fun W tk => by
  refine pa_imp (pa_cons (h1 W tk) (h2 W tk) hs) fun σ H Q ⟨ρ, S, A, hρ, hS, h⟩ => ?_
  simp only [evs] at h
  show tE X.K X.mg tb W k (ev B c) σ H fun x H1 => tEs X.K X.mg tb W k (evs B cs) σ H1 fun xs H2 => Q (x :: xs) H2
  refine ⟨ρ, S, A, hρ, hS, ?_⟩
  cases e1 : ev B c ρ S with
  | stuck => rw [e1] at h; exact h
  | ex x S1 => rw [e1] at h; exact h
  | ok p S1 =>
    rw [e1] at h
    intro v H' A' s hS' hr
    refine ⟨ρ, S1, A', hρ.stp s, hS', ?_⟩
    have h' := REs.mono s (show REs X.K X.mg tb W k A σ H ((evs B cs ρ S1).bind fun vs S2 => .ok (p :: vs) S2) Q from h)
    cases e2 : evs B cs ρ S1 with
    | stuck => rw [e2] at h'; exact h'
    | ex x S1 => rw [e2] at h'; exact h'
    | ok ps S2 =>
      rw [e2] at h'
      intro vs H2 A2 s2 hS2 hrs
      refine h' (v :: vs) H2 A2 s2 hS2 ?_
      cases k with
      | true => exact .cons (Rb.stp s2 hr) hrs
      | false => exact RpL.cons (Rp.stp s2 _ _ hr) hrs
theorem de_pair (c : HC X sc p x kit e s a b) {ex : Expr} {q : Str × Str} (h : pairE sc e ex = some q) : DE X tb ex false (ev B (pairK kit p x q)) ∧ noStar ex = true := by
  unfold pairE at h
  split at h
  · rename_i w _ _ fi _ e' _ y _ _ _ _
    split at h
    · rename_i hh
      obtain ⟨h1, h2, h3, h4, h5⟩ := hh
      cases h
      subst h3
      refine ⟨de_tup (f := fun z => match z with | .Constant k _ _ => some (.cst (.str w)) | .Call _ _ _ _ => some (.isx 0 (gI kit p x y)) | _ => none) rfl (by simp) ?_, rfl⟩
      exact da_cons (snd_const rfl) (da_cons (de_isx (P := cpN e' s a b) c.N c.sce (fun {z} hz => by show X.env.scope.names.lookup z = _; rw [c.sce]; exact of_decide_eq_true hz) c.free c.F h1 h2 c.ok.1 c.he (ix0 e' s a b) h4 h5) da_nil rfl) rfl
    · cases h
  · cases h
theorem da_pairs (c : HC X sc p x kit e s a b) : ∀ {es : List Expr} {t : List (Str × Str)}, pairsE sc e es = some t → DA X tb es false (evs B (csK kit p x t)) ∧ es.length = t.length
  | [], t, h => by cases h; exact ⟨da_nil, rfl⟩
  | ex :: r, t, h => by
    unfold pairsE at h
    split at h
    · rename_i q qs h1 h2
      cases h
      obtain ⟨d1, d2⟩ := de_pair (tb := tb) (B := B) c h1
      obtain ⟨d3, d4⟩ := da_pairs c h2
      exact ⟨da_cons d1 d3 (by cases ex <;> first | rfl | cases d2), by simp [d4]⟩
    · cases h
/-- the pairs' values -/
theorem ev_pairs {kb : Str → Bool} {ρ : List Sl} {S : Sto} (hρ : slVar ρ[0]? = some (.exc x (p.1 : Nat))) : ∀ {t : List (Str × Str)}, (∀ q ∈ t, kit x q.2 = some (kb q.2)) → evs B (csK kit p x t) ρ S = .ok (tellL kb t) S
  | [], _ => rfl
  | q :: r, h => by
    have e1 : ev B (pairK kit p x q) ρ S = .ok (.tup [.str q.1, .bl (kb q.2)]) S := by
      simp only [pairK, ev, evs, R.bind, hρ, isxR, gI, kitF, if_true, h q List.mem_cons_self, Option.map, R.of]
    have e2 : evs B (csK kit p x r) ρ S = .ok (tellL kb r) S := ev_pairs hρ fun q' hq => h q' (List.mem_cons_of_mem _ hq)
    simp only [csK, evs, e1, R.bind, e2]
    rfl
theorem len_pairs {ρ : List Sl} {S' : Sto} : ∀ {t : List (Str × Str)} {vs : List PV} {S : Sto}, evs B (csK kit p x t) ρ S = .ok vs S' → vs.length = t.length
  | [], vs, S, h => by simp only [csK, evs] at h; cases h; rfl
  | q :: r, vs, S, h => by
    simp only [csK, evs] at h
    cases e1 : ev B (pairK kit p x q) ρ S with
    | stuck => rw [e1] at h; cases h
    | ex x S1 => rw [e1] at h; cases h
    | ok v S1 =>
      rw [e1] at h
      simp only [R.bind] at h
      cases e2 : evs B (csK kit p x r) ρ S1 with
      | stuck => rw [e2] at h; cases h
      | ex x S1 => rw [e2] at h; cases h
      | ok us S2 =>
        rw [e2] at h
        cases h
        have := len_pairs e2
        simp [this]
theorem lst_pairs (c : HC X sc p x kit e s a b) {es : List Expr} {t : List (Str × Str)} {pos : Pos} (h : pairsE sc e es = some t) (hn : es.length ≤ 1000) : DE X tb (.List es pos) false (ev B (.lst (csK kit p x t))) :=
  de_lstL (fun q => (len_pairs q).trans (da_pairs (tb := tb) (B := B) c h).2.symm) hn (da_pairs c h).1
def strBl : List PV → Option (List (Str × Bool))
  | [] => some []
  | .tup [.str w, .bl b] :: r => (strBl r).map ((w, b) :: ·)
  | _ => none
def kept (l : List (Str × Bool)) : List Str := (l.filter (·.2)).map (·.1)
def joinOk (sep : Str) (ys : List Str) : Bool := decide ((ys.map (·.length)).sum + ys.length * sep.length ≤ 16777216)
def finE (sep : Str) (ρ : List Sl) (S : Sto) : Qr := match slVar ρ[1]? with
  | some (.lst xs) => (match strBl xs with
    | some l => if joinOk sep (kept l) = true ∧ l.length ≤ lim ∧ ρ.length = 4 then .ok (.rt (.str (Txt.join sep (kept l)))) S else .stuck
    | none => .stuck)
  | _ => .stuck
theorem strBl_get {K : PySem.W.Frag} {mg : Str → Option Value} {A : List Addr} {H : Hp} : ∀ {xs : List PV} {l : List (Str × Bool)} {vs : List V} {i : Nat} {v : V}, strBl xs = some l → RpL K mg A H xs vs → vs[i]? = some v → ∃ w b t, l[i]? = some (w, b) ∧ v = .ref t ∧ SqT K H t [.str w, .bl b]
  | [], _, _, i, v, _, hr, e => by simp only [RpL] at hr; subst hr; simp at e
  | x :: xs, l, vs, i, v, h, hr, e => by
    unfold strBl at h
    split at h
    · rename_i h0; cases h0
    · rename_i w b r h0
      cases h0
      obtain ⟨l', hl, rfl⟩ := Option.map_eq_some_iff.mp h
      simp only [RpL] at hr
      obtain ⟨v0, vr, rfl, h1, h2⟩ := hr
      cases i with
      | zero =>
        simp at e
        subst e
        simp only [Rp] at h1
        obtain ⟨a, us, rfl, q, hu⟩ := h1
        obtain ⟨u1, u2, rfl, r1, r2⟩ := rpl2 hu
        simp only [Rp] at r1 r2
        subst r1 r2
        exact ⟨w, b, a, rfl, rfl, q⟩
      | succ i => exact strBl_get (i := i) hl h2 (by simpa using e)
    · cases h
theorem strBl_len : ∀ {xs : List PV} {l : List (Str × Bool)}, strBl xs = some l → l.length = xs.length
  | [], l, h => by cases h; rfl
  | x :: xs, l, h => by
    unfold strBl at h
    split at h
    · rename_i h0; cases h0
    · rename_i h0
      cases h0
      obtain ⟨l', hl, rfl⟩ := Option.map_eq_some_iff.mp h
      simp [strBl_len hl]
    · cases h
theorem kept_take {l : List (Str × Bool)} {i : Nat} {w : Str} {b : Bool} (h : l[i]? = some (w, b)) : kept (l.take (i + 1)) = if b = true then kept (l.take i) ++ [w] else kept (l.take i) := by
  have e : l.take (i + 1) = l.take i ++ [(w, b)] := by rw [List.take_add_one, h]; rfl
  rw [e]
  unfold kept
  rw [List.filter_append, List.map_append]
  cases b <;> simp
theorem ds_fin (c : HC X sc p x kit e s a b) {sep a1 a2 b1 s' b2 m : Str} {pa1 pa2 pb1 ps pb2 p1 ap cp lp tp rp : Pos} {k1 kk : Nat} {scope : Scope} (hs : s' = s) (hm : m = ("join" : Str)) (h1 : a1 = a) (h2 : a2 = a) (h3 : b1 = b) (h4 : b2 = b) (hline : (ap.endLine == cp.line) = true)
    (hb : blkC [e, s, a, b] sc scope [(a, 2), (b, 3)] = true) (la : scope.names.lookup a = some .local) (lb : scope.names.lookup b = some .local) :
    DS X tb (.Return (some (.Call (.Attribute (.Constant (.str sep) k1 p1) m ap) [.ListComp (.Name a1 pa1) [⟨.Tuple [.Name a2 pa2, .Name b1 pb1] kk tp, .Name s' ps, [.Name b2 pb2], 0⟩] scope lp] [] cp)) rp) (finE sep) := fun A0 H0 W tk => by
  subst hs hm h1 h2 h3 h4
  have hN : X.N.Nodup := by rw [c.N]; exact c.nd
  have ok : BlkOk X.N X.env.scope scope [(a2, 2), (b2, 3)] := by rw [c.N, c.sce]; exact blkOk_by hb
  have hit : PE X (.Name s' ps) (tVar 1) := pe_var (i := 1) (by rw [c.N]; rfl) (by rw [c.sce]; exact .inl c.hs) (okName_1 c.ok.2.1) (okName_2 c.ok.2.1)
  have lc := pe_lcH (X := X) (p := p) (elt := .Name a2 pa1) (ifs := [.Name b2 pb2]) (pos := lp) (g := gTup X.K 2 (gCons (gName 2) (gCons (gName 3) gNil))) (tt := tB (tVar 3)) (te := tVar 2) (tg := .Tuple [.Name a2 pa2, .Name b2 pb1] kk tp) c.hp hN hit ok
    (fun s H C cl fp hB => pg_tupH hB (pgs_cons (pg_name (i := 2) (by exact hN) (by show X.N[2]? = _; rw [c.N]; rfl) (.inl (show (relS scope X.env.scope).names.lookup a2 = _ from lookup_relS_keep (by decide) la)) (.inr (show (relS scope X.env.scope).names.lookup a2 = _ from lookup_relS_keep (by decide) la)))
      (pgs_cons (pg_name (i := 3) (by exact hN) (by show X.N[3]? = _; rw [c.N]; rfl) (.inl (show (relS scope X.env.scope).names.lookup b2 = _ from lookup_relS_keep (by decide) lb)) (.inr (show (relS scope X.env.scope).names.lookup b2 = _ from lookup_relS_keep (by decide) lb))) pgs_nil)))
    (fun s H C cl fp => pts_one (pt_val (pe_var (i := 3) (by show X.N[3]? = _; rw [c.N]; rfl) (.inl (show (relS scope X.env.scope).names.lookup b2 = _ from lookup_relS_keep (by decide) lb)) (okName_1 c.ok.2.2.2) (okName_2 c.ok.2.2.2)) fun _ => rfl))
    (fun s H C cl fp => pe_var (i := 2) (by show X.N[2]? = _; rw [c.N]; rfl) (.inl (show (relS scope X.env.scope).names.lookup a2 = _ from lookup_relS_keep (by decide) la)) (okName_1 c.ok.2.2.1) (okName_2 c.ok.2.2.1))
  refine ps_imp (ps_ret (pe_join pe_str lc rfl rfl hline)) fun D σ H ⟨ρ, S, A, ss, q⟩ => ?_
  unfold finE at q
  split at q
  · rename_i xs hsl
    split at q
    · rename_i l hl
      split at q
      · rename_i hh
        obtain ⟨hj, hlim, h4⟩ := hh
        obtain ⟨v, e1, r⟩ := ss.sl.var hsl
        simp only [Rp] at r
        obtain ⟨L, vs, rfl, hF, hr⟩ := r
        have hlen : σ.length = 4 := by rw [← ss.sl.len, h4]
        refine ⟨⟨sep, rfl⟩, .ref L, e1, L, vs, rfl, .inl hF.rd, fun D' hD => ⟨fun i H' => H' = upd H D' (.lst ((kept (l.take i)).map V.str)), rfl, ?_, ?_, ?_⟩⟩
        · rintro i H' rfl
          exact .inl (FzL.kp (Stp.new (A := A) hD).kp hF).rd
        · rintro i v H' hv rfl
          obtain ⟨w, b, t, e2, rfl, hq⟩ := strBl_get hl hr hv
          have k1 : Kp A H A (upd H D' (.lst ((kept (l.take i)).map V.str))) := (Stp.new hD).kp
          refine ⟨t, _, rfl, SqT.kp k1 hq, rfl, .str w, [.bl b], rfl, ?_⟩
          show ∃ v r, [V.bl b] = v :: r ∧ _
          refine ⟨.bl b, [], rfl, rfl, ?_⟩
          have l2 : 2 < (wipe σ [2, 3]).length := by rw [wipe_length, hlen]; decide
          have l3 : 3 < ((wipe σ [2, 3]).set 2 (some (.str w))).length := by rw [List.length_set, wipe_length, hlen]; decide
          refine ⟨?_, .bl b, List.getElem?_set_self l3, b, rfl, ?_⟩
          · show wipe (((wipe σ [2, 3]).set 2 (some (.str w))).set 3 (some (.bl b))) [2, 3] = wipe σ [2, 3]
            rw [wipe_set (by decide), wipe_set (by decide), wipe_idem]
          · cases b with
            | false =>
              rw [if_neg (by simp)]
              show upd H D' (.lst ((kept (l.take i)).map V.str)) = upd H D' (.lst ((kept (l.take (i + 1))).map V.str))
              rw [kept_take e2]
              rfl
            | true =>
              rw [if_pos rfl]
              refine ⟨.str w, ?_, (kept (l.take i)).map V.str, upd_same, ?_, ?_⟩
              · show (((wipe σ [2, 3]).set 2 (some (.str w))).set 3 (some (.bl true)))[2]? = _
                rw [List.getElem?_set_ne (by decide)]
                exact List.getElem?_set_self l2
              · have hi := (List.getElem?_eq_some_iff.mp e2).1
                have h1 : (kept (l.take i)).length ≤ (l.take i).length := by
                  unfold kept
                  rw [List.length_map]
                  exact List.length_filter_le _ _
                rw [List.length_take] at h1
                rw [List.length_map, ← lim_eq]
                omega
              · show upd (upd H D' _) D' _ = upd H D' (.lst ((kept (l.take (i + 1))).map V.str))
                rw [upd_upd, kept_take e2, if_pos rfl, List.map_append]
                rfl
        · rintro H' rfl
          have el : l.take vs.length = l := by
            rw [hr.length, ← strBl_len hl]
            exact List.take_length
          rw [el]
          refine ⟨sep, D', kept l, rfl, rfl, .inl (.inl (.inl upd_same)), of_decide_eq_true hj, ?_⟩
          have s : Stp A H A (upd H D' (.lst ((kept l).map V.str))) := Stp.new hD
          exact q _ _ A s.kp (ss.stp.trans s) (ss.st.new hD) rp_str
      · exact q.elim
    · exact q.elim
  · exact q.elim
def bodyE (sms : List Sm) (sep : Str) (B : Amb) : List Sl → Sto → Qr := match sms with
  | [] => finE sep
  | s :: r => fun ρ S => (exS B s ρ S).seq (bodyE r sep B)
def smE (kit : Str → Str → Option Bool) (p : Addr × Obj) (x : Str) : Bool → List (List (Str × Str)) → List Sm
  | _, [] => []
  | true, t :: r => .set 1 (.lst (csK kit p x t)) :: smE kit p x false r
  | false, t :: r => .set 1 (.bin .add (.bor 1) (.lst (csK kit p x t))) :: smE kit p x false r
theorem dss_seq {st : Stmt} {rest : List Stmt} {d1 d2 : List Sl → Sto → Qr} (h1 : DS X tb st d1) (h2 : DSs X tb rest d2) : DSs X tb (st :: rest) (fun ρ S => (d1 ρ S).seq d2) := fun A0 H0 W tk =>
  pss_imp (pss_cons (h1 A0 H0 W tk) (h2 A0 H0 W tk)) fun D σ H ⟨ρ, S, A, ss, q⟩ =>
    ⟨ρ, S, A, ss, QE.seq q _ (fun ρ' S' σ4 H4 A4 k4 ss4 q4 => ⟨ρ', S', A4, ss4, q4⟩) D.ct D.bk⟩
theorem dss_one {st : Stmt} {d : List Sl → Sto → Qr} (h : DS X tb st d) : DSs X tb [st] d := fun A0 H0 W tk => pss_one (h A0 H0 W tk)
theorem err_body (c : HC X sc p x kit e s a b) (tg : TgOk X sc) : ∀ {n : Bool} {body : List Stmt} {ts : List (List (Str × Str))} {sep : Str}, errC sc e s a b n body = some (ts, sep) → DSs X tb body (bodyE (smE kit p x n ts) sep B) := by
  intro n body
  induction body generalizing n with
  | nil => intro ts sep h; cases n <;> cases h
  | cons st r ih =>
    intro ts sep h
    have ls : isLocal sc s = true := by unfold isLocal; rw [c.hs]
    unfold errC at h
    split at h
    · rename_i s' _ es _ _ r' hbody
      cases hbody
      split at h
      · rename_i hh
        obtain ⟨rfl, hl⟩ := hh
        split at h
        · rename_i t ts' sep' h1 h2
          cases h
          exact dss_seq (ds_set0 (P := cpN e _ a b) c.N c.nd tg ls (ix1 c.nd) (lst_pairs c h1 hl) rfl) (ih h2)
        · cases h
      · cases h
    · rename_i hbody
      cases hbody
      split at h
      · rename_i hh
        obtain ⟨h1, h2, h3, h4, h5, h6, h7, h8, h9, h10⟩ := hh
        cases h
        exact dss_one (ds_fin c h1 h2 h3 h4 h5 h6 h7 h8 h9 h10)
      · cases h
    · rename_i s' _ s'' _ es _ _ _ r' hbody
      cases hbody
      split at h
      · rename_i hh
        obtain ⟨rfl, h0, hl⟩ := hh
        split at h
        · rename_i t ts' sep' h1 h2
          cases h
          subst h0
          exact dss_seq (ds_set0 (P := cpN e _ a b) c.N c.nd tg ls (ix1 c.nd) (de_bin0 c.hu rfl (de_bor0 (P := cpN e _ a b) c.N c.sce c.ok.2.1 (by unfold isVis; rw [c.hs]) (ix1 c.nd)) (de_k (lst_pairs c h1 hl))) rfl) (ih h2)
        · cases h
      · cases h
    · cases h
end
end Ev

end -- EvV
section -- EvW
namespace Ev
open PySem PySem.Spec PyProof.Rows L2 HotX
section
variable {p : Addr × Obj} {x : Str} {kit : Str → Str → Option Bool} {B : Amb} {kb : Str → Bool}
theorem strBl_tell : ∀ t : List (Str × Str), strBl (tellL kb t) = some (t.map fun q => (q.1, kb q.2))
  | [] => rfl
  | q :: r => by
    show strBl (.tup [.str q.1, .bl (kb q.2)] :: tellL kb r) = _
    simp only [strBl, strBl_tell r]
    rfl
theorem kept_tell (t : List (Str × Str)) : kept (t.map fun q => (q.1, kb q.2)) = wordsL kb t := by
  unfold kept wordsL
  rw [List.filter_map, List.map_map]
  rfl
def errS (x : Str) (a : Addr) (l : List PV) : List Sl := [.val (.exc x (a : Nat)), .val (.lst l), .no, .no]
theorem err_rest {sep : Str} {S : Sto} : ∀ {ts : List (List (Str × Str))} {acc : List (Str × Str)}, (∀ q ∈ ts.flatten, kit x q.2 = some (kb q.2)) → (acc ++ ts.flatten).length ≤ lim → joinOk sep (wordsL kb (acc ++ ts.flatten)) = true →
    bodyE (smE kit p x false ts) sep B (errS x p.1 (tellL kb acc)) S = .ok (.rt (.str (Txt.join sep (wordsL kb (acc ++ ts.flatten))))) S
  | [], acc, _, hl, hj => by
    rw [List.flatten_nil, List.append_nil] at *
    show finE sep _ S = _
    unfold finE
    have e1 : slVar (errS x p.1 (tellL kb acc))[1]? = some (.lst (tellL kb acc)) := rfl
    rw [e1]
    simp only [strBl_tell, kept_tell]
    rw [if_pos ⟨hj, by rw [List.length_map]; exact hl, rfl⟩]
  | t :: ts, acc, hk, hl, hj => by
    have e1 : evs B (csK kit p x t) (errS x p.1 (tellL kb acc)) S = .ok (tellL kb t) S := ev_pairs rfl fun q hq => hk q (by rw [List.flatten_cons]; exact List.mem_append_left _ hq)
    have hlen : (tellL kb acc).length + (tellL kb t).length ≤ lim := by
      unfold tellL
      rw [List.length_map, List.length_map]
      rw [List.flatten_cons, List.length_append, List.length_append] at hl
      omega
    have e2 : exS B (.set 1 (.bin .add (.bor 1) (.lst (csK kit p x t)))) (errS x p.1 (tellL kb acc)) S = .ok (.nx (errS x p.1 (tellL kb (acc ++ t)))) S := by
      have e3 : slBor (errS x p.1 (tellL kb acc))[1]? = some (.lst (tellL kb acc)) := rfl
      simp only [exS, ev, e3, R.of, R.bind, e1, bop, addV, if_pos hlen, R.to]
      unfold tellL errS
      simp
    show ((exS B (.set 1 (.bin .add (.bor 1) (.lst (csK kit p x t)))) (errS x p.1 (tellL kb acc)) S).seq (bodyE (smE kit p x false ts) sep B)) = _
    rw [e2]
    show bodyE (smE kit p x false ts) sep B (errS x p.1 (tellL kb (acc ++ t))) S = _
    have e4 : acc ++ (t :: ts).flatten = (acc ++ t) ++ ts.flatten := by rw [List.flatten_cons, List.append_assoc]
    rw [e4] at hl hj ⊢
    exact err_rest (fun q hq => hk q (by rw [List.flatten_cons]; exact List.mem_append_right _ hq)) hl hj
theorem err_eval {sep : Str} {S : Sto} {t : List (Str × Str)} {ts : List (List (Str × Str))} (hk : ∀ q ∈ (t :: ts).flatten, kit x q.2 = some (kb q.2)) (hl : ((t :: ts).flatten).length ≤ lim) (hj : joinOk sep (wordsL kb (t :: ts).flatten) = true) :
    bodyE (smE kit p x true (t :: ts)) sep B [.val (.exc x (p.1 : Nat)), .no, .no, .no] S = .ok (.rt (.str (Txt.join sep (wordsL kb (t :: ts).flatten)))) S := by
  have e1 : evs B (csK kit p x t) [.val (.exc x (p.1 : Nat)), .no, .no, .no] S = .ok (tellL kb t) S := ev_pairs rfl fun q hq => hk q (by rw [List.flatten_cons]; exact List.mem_append_left _ hq)
  have e2 : exS B (.set 1 (.lst (csK kit p x t))) [.val (.exc x (p.1 : Nat)), .no, .no, .no] S = .ok (.nx (errS x p.1 (tellL kb t))) S := by
    simp only [exS, ev, R.bind, e1, R.to]
    rfl
  show ((exS B (.set 1 (.lst (csK kit p x t))) [.val (.exc x (p.1 : Nat)), .no, .no, .no] S).seq (bodyE (smE kit p x false ts) sep B)) = _
  rw [e2]
  show bodyE (smE kit p x false ts) sep B (errS x p.1 (tellL kb t)) S = _
  rw [List.flatten_cons] at *
  exact err_rest (fun q hq => hk q (List.mem_append_right _ hq)) hl hj
end
/-- the def f tells h of an error -/
structure ErrDef (P : Program) (w : World) (K : PySem.W.Frag) (mg : Str → Option Value) (f : Str) (h : Str → Option PV) : Prop where
  ex : ∃ (fa : Addr) (fd : FuncData) (params : Arguments) (body : List Stmt) (scope : Scope) (e s a b : Str) (t : List (Str × Str)) (ts : List (List (Str × Str))) (sep : Str) (kit : Str → Str → Option Bool) (kb : Str → Str → Bool),
    FunD K f f params body scope [] [] fa fd ∧ C8.scC [e, s, a, b] [e] scope = true ∧ L2.Binds K fd [e] [] ∧ mg f = some (.ref fa) ∧ PySem.W.keepIn K (.ref fa) = true ∧ errC scope e s a b true body = some (t :: ts, sep) ∧
      isVis scope e = true ∧ scope.names.lookup s = some .local ∧ (okName e = true ∧ okName s = true ∧ okName a = true ∧ okName b = true) ∧ mg "isinstance" = none ∧ ((t :: ts).flatten).length ≤ lim ∧
      ∀ x pv, h x = some pv → joinOk sep (wordsL (kb x) (t :: ts).flatten) = true ∧ pv = .str (Txt.join sep (wordsL (kb x) (t :: ts).flatten)) ∧ (∀ q ∈ (t :: ts).flatten, kit x q.2 = some (kb x q.2)) ∧
        ∃ D, mg x = some (.ref D) ∧ ExcC K D ∧ ∀ y b, kit x y = some b → ∃ Cy, mg y = some (.ref Cy) ∧ PySem.W.kitOne K (.ref D) (.ref Cy) = some b
theorem app_len {A A' : List Addr} {n : List Addr} (h : A' = A ++ n) (l : A'.length = A.length) : A' = A := by
  subst h
  have : n.length = 0 := by rw [List.length_append] at l; omega
  rw [List.length_eq_zero_iff.mp this, List.append_nil]
section
variable {X : Cx} {tb : List (Addr × Str)} {cp : CP} {sc : Scope} {lv : Nat} {B : Amb}
/-- the call in a suite -/
theorem err_call {f n : Str} {h : Str → Option PV} {i : Nat} {p q pos : Pos} (cx : Ctx X tb cp B (lv + 1) sc) (E : ErrDef X.prog X.w X.K X.mg f h) (hf : okName f = true ∧ isGlob sc f = true) (hn : okName n = true) (hi : ixOf cp.N n = some i) (hl : sc.names.lookup n = some .local) {a : Addr} {oe : Obj} {cls : Value} {d : Option Addr} {pn : List (Addr × Obj)}
    (hz : L2N.Zn cls d oe) (hfl : ∃ vs, oe.data = .fields vs) {x : Str} {C : Addr} {pv : PV} {v : V} (hc : cls = .ref C) (hd : d = none) (hx : X.mg x = some (.ref C)) (hh : h x = some pv) (hv : plV pv = some v) :
    PE (X.suite a ((a, oe) :: pn)) (.Call (.Name f p) [.Name n q] [] pos) (fun σ H Q => σ[i]? = some (some (.ref a)) ∧ ∃ A S', SRep X.K X.mg tb A H S' ∧ ∀ H', Stp A H A H' → SRep X.K X.mg tb A H' S' → Q v H') := by
  obtain ⟨fa, fd, params, body, scope, e, s, a1, b1, t, ts, sep, kit, kb, F, hS, hb, hm, hk, hE, he, hs, hok, hfree, hlim, hall⟩ := E.ex
  obtain ⟨hj, hpv, hkit, D, hD, hC, hcls⟩ := hall x pv hh
  have FS := C8.fnScope_by hS
  rw [hx] at hD
  cases hD
  subst hc hd
  have ecls : oe.cls = .ref C := hz.1
  have ev : v = .str (Txt.join sep (wordsL (kb x) (t :: ts).flatten)) := by
    rw [hpv] at hv
    cases hv
    rfl
  subst ev
  have hr := L2H.roomH_of cx.room
  refine pe_hot (tb := tb) (k := lv) F FS hb (by rw [cx.N]; exact ixOf_some hi) (by rw [cx.sc]; exact .inl hl) hn (cx.gl hf.2) hm hf.1 hk hr (by rw [ecls]; exact hz) hfl fun cdv s1 H A S' Q hSR hQ room => ?_
  have hu := room.un
  have hcx : HC (L2H.cxH (L2N.CX X.prog X.w) X.prog X.w X.K X.mg X.base [e, s, a1, b1] f scope fa cdv (X.A.mark (some (.ref a))) X.stack s1 H (fun _ _ _ => False) (a, oe)) scope (a, oe) x kit e s a1 b1 := by
    obtain ⟨vs, hvs⟩ := hfl
    exact ⟨rfl, FS.nd, rfl, he, hs, hok, hfree, ⟨List.mem_singleton.mpr rfl, ⟨C, hx, hC, hz.zc, hcls⟩, ⟨vs, hvs⟩⟩, ⟨⟨rfl, vs, hvs, hz.2.2 vs hvs⟩, List.mem_singleton.mpr rfl⟩, by
      show ((X.A.mark (some (.ref a))).deeper (envOfC f scope s1.heap.objs.size fa cdv)).units + 65 < cLine
      omega⟩
  refine ⟨_, err_body (B := B) (tb := tb) hcx (fun y hy => And.intro (loc_of hy) (Or.inl rfl)) hE A H W0 takes0, ?_⟩
  refine ⟨[.val (.exc x (a : Nat)), .no, .no, .no], S', A, ?_, ?_⟩
  · exact ss_start (N := [e, s, a1, b1]) (ps := [.exc x (a : Nat)]) (vs := [.ref a]) (by simp [RpL, Rp]) hSR (by simp)
  · rw [err_eval (p := (a, oe)) (B := B) (S := S') hkit hlim hj]
    intro v' H' A' _ s' hS' r'
    obtain ⟨new, hnew, _⟩ := s'.app
    have eA : A' = A := app_len hnew (by rw [hS'.len, hSR.len])
    subst eA
    have : v' = .str (Txt.join sep (wordsL (kb x) (t :: ts).flatten)) := by simpa [Rp] using r'
    rw [this]
    exact hQ H' s' hS'
theorem su_all (cx : Ctx X tb cp B (lv + 1) sc) (hE : ∀ f h, cp.hot.lookup f = some h → ErrDef X.prog X.w X.K X.mg f h ∧ okName f = true ∧ isGlob sc f = true) (hn : ∀ x ∈ cp.N, okName x = true) : SuAll X tb cp sc := by
  intro n suite y f i k h hsu hi hl hk hf a oe cls d pn hz hfl
  obtain ⟨E, h1, h2⟩ := hE f h hf
  have hni : okName n = true := hn n (List.mem_of_getElem? (ixOf_some hi))
  have hN : X.N[i]? = some n := by rw [cx.N]; exact ixOf_some hi
  unfold suiteC at hsu
  split at hsu
  · split at hsu
    · rename_i he
      subst he
      cases hsu
      cases hk
      refine ⟨fun pins s σ H D I q => ?_⟩
      obtain ⟨⟨σ0, rfl⟩, x, C, pv, v, hc, hd, hx, hh, hv, A, S', hS, q⟩ := q
      have hi2 : i < σ0.length := by
        have e1 := I.len
        rw [List.length_set] at e1
        rw [e1]
        exact (List.getElem?_eq_some_iff.mp hN).1
      exact (pss_one (ps_ret (err_call cx E ⟨h1, h2⟩ hni hi hl hz hfl hc hd hx hh hv))).run pins s _ H D I ⟨List.getElem?_set_self hi2, A, S', hS, fun H' s hS' => q H' s hS'⟩
    · cases hsu
  · split at hsu
    · rename_i he
      subst he
      cases hsu
      unfold slotC at hk
      simp only at hk
      split at hk
      · rename_i hy
        obtain ⟨j, hj, rfl⟩ := Option.map_eq_some_iff.mp hk
        refine ⟨fun pins s σ H D I q => ?_⟩
        obtain ⟨⟨σ0, rfl⟩, x, C, pv, v, hc, hd, hx, hh, hv, A, S', hS, q⟩ := q
        have hi2 : i < σ0.length := by
          have e1 := I.len
          rw [List.length_set] at e1
          rw [e1]
          exact (List.getElem?_eq_some_iff.mp hN).1
        exact (pss_one (ps_set (X := X.suite a ((a, oe) :: pn)) (i := j) (by show X.N.Nodup; rw [cx.N]; exact cx.nd) (by show X.N[j]? = _; rw [cx.N]; exact ixOf_some hj) (.inl (show X.env.scope.names.lookup _ = _ by rw [cx.sc]; exact hy)) (err_call cx E ⟨h1, h2⟩ hni hi hl hz hfl hc hd hx hh hv) rfl (.inr (show X.env.scope.names.lookup _ = _ by rw [cx.sc]; exact hy)))).run pins s _ H D I ⟨List.getElem?_set_self hi2, A, S', hS, fun H' s hS' => q H' s hS'⟩
      · cases hk
    · cases hsu
  · cases hsu
end
end Ev

end -- EvW
section -- EvX
namespace Ev
open PySem PySem.Spec PyProof.Rows L2 LamX
/-- the lambda's context; what leaves it is of the L2N family -/
def lamN (X : Cx) (A : Around) (outer : List Env) (s : Shared) (H : Hp) (E : XK) (scope : Scope) (f c' : Addr) : Cx :=
  { lamCx X A outer s H E scope f c' with xe := fun e s' => wpAny (model X.prog X.w) (A.deeper (lamEnv X scope s.heap.objs.size f c')) (leaving (lamEnv X scope s.heap.objs.size f c') e) (fun _ s'' => L2N.CX X.prog X.w outer H s E e s'') (fun e' s'' => L2N.CX X.prog X.w outer H s E e' s'') s' }
section
variable {X : Cx} {pins : List (Addr × Obj)} {σ : L2.St} {H : Hp} {s : Shared}
/-- a(), in the def that got the lambda f -/
theorem pe_actN {CXg : CXT} {Eg : XK} {Ng : List Str} {qg : Str} {sg : Scope} {g f c' : Addr} {cdg pm ctv : Value} {params : Arguments} {body : Expr} {scope : Scope} {k i : Nat} {a : Str} {pn : List (Addr × Obj)} {xe : Value → Shared → Prop} {W : WX} {E : XK} {tb : TE} {p1 p2 : Pos}
    (I : Inv X pins σ H s) (L : LamS X.env.scope scope) (hf : s.heap.get? f = some (PySem.W.kla_obj "<lambda>" (X.env.qual ++ "<lambda>") params body scope (cloFrom X.env.cells scope.names []) pm c' ctv)) (hfn : H f = none) (hfr : f ∉ frs X.stack)
    (hbind : bindArgs (PySem.W.kla_fn "<lambda>" (X.env.qual ++ "<lambda>") params body scope (cloFrom X.env.cells scope.names []) pm (.ref c') ctv) ⟨[], []⟩ = pure [])
    (tk : L2N.Takes ((cxOf CXg X.prog X.w X.K X.mg X.base Ng qg sg g cdg X.A X.stack s H Eg).tr pn xe) W) (hW : ∀ cls d σ' H', E cls d H' → W cls d σ' H') (hr : Room (k + 1) (X.A.deeper (envOfC qg sg s.heap.objs.size g cdg)))
    (hbody : ∀ (A : Around) (outer : List Env) (s : Shared) (H : Hp), Room k (A.deeper (lamEnv X scope s.heap.objs.size f c')) → PE (lamN X A outer s H E scope f c') body tb)
    (hN : Ng[i]? = some a) (hv : Vis sg a) (hd : (a == ("__debug__" : Str)) = false) (hcd : (a == ("__classdict__" : Str)) = false) :
    PE ((cxOf CXg X.prog X.w X.K X.mg X.base Ng qg sg g cdg X.A X.stack s H Eg).tr pn xe) (.Call (.Name a p1) [] [] p2)
      (fun σZ HZ Q => σZ[i]? = some (some (.ref f)) ∧ HZ c' = some (CodeO c' (X.env.qual ++ "<lambda>")) ∧ tb σ HZ Q) := by
  refine ⟨fun pinsZ sZ σZ HZ Q IZ h => ?_⟩
  obtain ⟨hs, hc, ht⟩ := h
  refine wpAny_Call_Name_kw (thn ((pe_var (pos := p1) (i := i) hN hv hd hcd).run pinsZ sZ σZ HZ (fun v H1 => v = .ref f ∧ H1 = HZ) IZ ⟨.ref f, hs, rfl, rfl⟩) fun u s1 ⟨v, H1, I1, r1, e1, e2⟩ => ?_)
  subst e1
  rw [e2] at I1
  obtain rfl : u = Value.ref f := r1
  have of1 := I1.base.keep f _ hf hfn hfr (fun z => nomatch (show f ∈ ([] : List Addr) from z))
  refine PySem.W.callWith_F0 ⟨_, _, _, _, of1⟩ ?_
  have un : Un (frs X.stack) [] H HZ s.heap s1.heap := I1.base
  obtain ⟨⟨oc, vs, t, hoc, hdc, hvc⟩, _, _⟩ := I1.hok c' _ hc
  have rc : codeAny (model X.prog X.w) (X.A.deeper (envOfC qg sg s.heap.objs.size g cdg)) (.call (.ref f) ⟨[], []⟩) (CR (L2N.CX X.prog X.w) (envOfC qg sg s.heap.objs.size g cdg :: X.stack) X.prog X.w HZ s1 Q E) s1 := by
    refine PySem.W.kla_callFunE hr.depth of1 rfl L.co L.gen rfl ⟨c', oc, vs, t, rfl, hoc, hdc, hvc⟩ ?_
    rw [hbind]
    refine wpAny_pure (wpAny_newFunctionEnv (fun y hy => (L.own y hy).2) (fun y hy => absurd hy (by simp)) (fun h₁ hns hsb => ⟨I1.nolimit.fresh _ hsb, ?_⟩) L.kind)
    have J := (lam_start2 (E := E) (f := f) (c' := c') (tk := s1.toks + ([] : List (Str × Value)).length) I L I1.env0 hr.hd un hns fun b o e => hsb.extBut b o (Nat.ne_of_lt (Heap.lt_size e)) (Heap.get?_push_of_some _ e)).wish (lamN X (X.A.deeper (envOfC qg sg s.heap.objs.size g cdg)) (envOfC qg sg s.heap.objs.size g cdg :: X.stack) s1 HZ E scope f c').xe
    refine PySem.W.kla_codeExpr (wpAny_mono ((hbody _ _ s1 HZ (hr.deeper _)).run [] _ _ HZ Q J ht) (fun v s' hq => ?_) fun e s' hq => hq)
    obtain ⟨w', H', J', rv, q⟩ := hq
    exact ⟨w', H', J'.os, J'.bare, J'.base, J'.hok, rv, q⟩
  refine wpAny_call (codeAny_mono rc fun r s' hq => ?_)
  cases r with
  | error e => exact L2N.passes_call tk hW pinsZ σZ HZ s1 e s' I1 hq
  | ok fl =>
    cases fl with
    | ret u => exact I1.after hq
    | next => exact hq.elim
    | brk => exact hq.elim
    | cont => exact hq.elim
end
section
variable {K : PySem.W.Frag} {mg : Str → Option Value} {tb : List (Addr × Str)} {A : List Addr} {H H1 : Hp} {S : Sto}
theorem Stp.extN (e : ExtN H H1) : Stp A H A H1 where
  keep := fun b o h _ q => e b o h q
  tup := fun b xs h => e b _ h nofun
  frz := fun b o u h => e b _ h nofun
  ext := fun b φ h => e b _ h nofun
  dom := fun b h => by
    cases q : H b with
    | none => exact .inl q
    | some o =>
      cases o with
      | tbl ps => exact .inr ⟨ps, q⟩
      | _ => exact absurd rfl (h.ne (e b _ q nofun) nofun)
  app := ⟨[], by simp, by simp⟩
theorem SRep.extN (r : SRep K mg tb A H S) (e : ExtN H H1) (t : Tabs tb H1) : SRep K mg tb A H1 S where
  len := r.len
  nd := r.nd
  at_ := fun k a c e1 e2 => by
    have q := r.at_ k a c e1 e2
    have s : Stp A H A H1 := Stp.extN e
    cases c with
    | lst xs =>
      obtain ⟨vs, q1, q2⟩ := q
      exact ⟨vs, e a _ q1 nofun, RpL.stp s _ _ q2⟩
    | obj c fs =>
      obtain ⟨C, dx, ws, q0, q1, q2⟩ := q
      exact ⟨C, dx, ws, q0, e a _ q1 nofun, FsR.stp s q2⟩
  tabs := t
end
end Ev

end -- EvX
section -- EvY
namespace Ev
open PySem PySem.Spec PyProof.Rows L2 LamX
/-- try: call() / except x as e: return f(e) / return r -/
def refC (sg : Scope) : List Stmt → Option (Str × Str × Str × Str × Str)
  | [.Try [.Expr (.Call (.Name a _) [] [] _) _] [.ExceptHandler (some (.Name x _)) (some n) (b₀ :: suite) _] [] [] _, .Return (some (.Constant (.str r) _ _)) _] =>
    (match suiteC n (b₀ :: suite) with
    | some (none, f) => if okName a = true ∧ okName x = true ∧ isGlob sg x = true ∧ sg.names.lookup n = some .local then some (a, x, n, f, r) else none
    | _ => none)
  | _ => none
/-- what such a def makes of what it calls -/
def refH (tab : List (Str × List Str)) (x r : Str) (e : Str → Option PV) (κ : Sto → R PV) (S : Sto) : R PV := match κ S with
  | .ok _ S' => .ok (.str r) S'
  | .ex y S' => (match under tab y x with
    | some true => (match e y with
      | some v => if isPl v = true then .ok v S' else .stuck
      | none => .stuck)
    | some false => .ex y S'
    | none => .stuck)
  | .stuck => .stuck
/-- such a def -/
structure RefDef (P : Program) (w : World) (K : PySem.W.Frag) (mg : Str → Option Value) (base : Heap) (tb : List (Addr × Str)) (B : Amb) (lv : Nat) (g : Str) (h : (Sto → R PV) → Sto → R PV) : Prop where
  ex : ∃ (ga : Addr) (fd : FuncData) (pg : Arguments) (bg : List Stmt) (sg : Scope) (a x n f r : Str) (cp : CP) (e : Str → Option PV),
    FunD K g g pg bg sg [] [] ga fd ∧ cp.N = [a, n] ∧ C8.scC [a, n] [a] sg = true ∧ L2.Binds K fd [a] [] ∧ mg g = some (.ref ga) ∧ PySem.W.keepIn K (.ref ga) = true ∧ refC sg bg = some (a, x, n, f, r) ∧ okName n = true ∧ isVis sg a = true ∧
      cp.hot = [(f, e)] ∧ okName f = true ∧ isGlob sg f = true ∧ ErrDef P w K mg f e ∧ h = refH B.tab x r e ∧ (∀ X : Cx, Over P w K mg base X → Fx X tb cp B (lv + 1)) ∧ cp.excs.contains x = true ∧ cp.lam = []
/-- the maker's code object and its table -/
structure LamCtx (X : Cx) (tb : List (Addr × Str)) (lv : Nat) : Prop where
  room : Room (lv + 2) X.A
  ex : ∃ c P, X.env.code = .ref c ∧ TabB X.base X.mg c P ∧ (P, X.env.qual ++ "<lambda>") ∈ tb ∧ ∀ p ∈ tb, p.1 = P → p.2 = X.env.qual ++ "<lambda>"
section
variable {X : Cx} {tb : List (Addr × Str)} {P : CP} {B : Amb} {lv : Nat} {sc : Scope}
theorem emptyP_eq {params : Arguments} (h : emptyP params = true) : params = ⟨[], [], none, [], [], none, []⟩ := by
  unfold emptyP at h
  split at h
  · rfl
  · cases h
theorem lamOk_of (lc : LamCtx X tb lv) {g : Str} {h : (Sto → R PV) → Sto → R PV} (R : RefDef X.prog X.w X.K X.mg X.base tb B lv g h) : LamOk X tb B lv g h := fun params body scope b p lpos pos hg1 hg2 hpar L hb W tk => by
  have epar := emptyP_eq hpar
  subst epar
  have hdef : defaultsOf ⟨[], [], none, [], [], none, []⟩ X.env = ([], []) := rfl
  have hbind : ∀ (q : Str) (cl : List (Str × Addr)) (pm cv ctv : Value), bindArgs (PySem.W.kla_fn "<lambda>" q ⟨[], [], none, [], [], none, []⟩ body scope cl pm cv ctv) ⟨[], []⟩ = pure [] := fun _ _ _ _ _ => rfl
  obtain ⟨ga, fd, pg, bg, sg, a, x, n, f, r, cp, e, F, hN, hS, hbd, hm, hk, hR, hnn, hva, hhot, hf, hgf, hE, rfl, fxG, hxc, hnl⟩ := R.ex
  obtain ⟨c, Pt, hcode, TB, hmT, hu⟩ := lc.ex
  have FS := C8.fnScope_by hS
  have LS : LamS X.env.scope scope := lamS_by L
  refine ⟨fun pins s σ H Q I q => ?_⟩
  obtain ⟨ρ, S, A, hρ, hSR, q⟩ := q
  simp only [ev] at q
  refine wpAny_Call_Name_kw (ld_glob I (show X.env.scope.names.lookup g = some .globalImplicit from of_decide_eq_true hg2) hm ?_ (okName_1 hg1))
  refine PySem.W.callWith_K (h₀ := X.base) I.ok.mod.kin hk ?_ (by rfl) (by rfl)
  show wpAny _ _ (spliced ((false, eval (.Lambda ⟨[], [], none, [], [], none, []⟩ body scope lpos) X.env) :: backTo pos (starEach [] X.env))) _ _ s
  refine Calls.spliced_cons (lam_make2 I TB hcode hmT hu hSR.tabs hdef (LS.has I.ok) fun fa c' pm' ctv H1 s' I1 eN T1 hfo hfn hfr hco => ?_)
  refine Calls.spliced_nil ⟨I1.kIn, ?_⟩
  have s1 : Stp A H A H1 := Stp.extN eN
  have hS1 := hSR.extN eN T1
  have q1 := RE.mono s1 q
  have rc : codeAny (model X.prog X.w) X.A (.call (.ref ga) ⟨[.ref fa], []⟩) (CR (L2N.CX X.prog X.w) X.stack X.prog X.w H1 s' Q (WE W σ)) s' := by
    obtain ⟨oc, od, dV, kV, doc, pm, an, cdv, ct, osl, rfl, lk, hcd, _, _⟩ := F.ex
    refine run_ofS (N := [a, n]) (ps := [a]) (us := [.ref fa]) (vs := [.ref fa]) lk hcd FS lc.room I1.env0 (hbd s' [.ref fa] I1.kIn rfl) (.cons rfl .nil) rfl fun hr' => ?_
    have cxY : Ctx (cxOf (L2N.CX X.prog X.w) X.prog X.w X.K X.mg X.base [a, n] g sg ga cdv X.A X.stack s' H1 (WE W σ)) tb cp B (lv + 1) sg := ⟨hN.symm, by rw [hN]; exact FS.nd, rfl, rfl, hr', fxG _ ⟨rfl, rfl, rfl, rfl, rfl⟩, fun g h hl => by rw [hnl] at hl; cases hl⟩
    have tkY : L2N.Takes (cxOf (L2N.CX X.prog X.w) X.prog X.w X.K X.mg X.base [a, n] g sg ga cdv X.A X.stack s' H1 (WE W σ)) (fun cls d _ H => WE W σ cls d H) := L2N.takes_of rfl rfl rfl rfl
    obtain ⟨CX, g1, _⟩ := cxY.fx.exc x hxc
    have han : a ≠ n := by have := FS.nd; simp at this; exact this
    have ixn : ixOf cp.N n = some 1 := by
      rw [hN]
      unfold ixOf
      have h : (a == n) = false := by simpa using han
      rw [List.findIdx?_cons, h]
      simp [List.findIdx?_cons]
    have su := su_all (X := cxOf (L2N.CX X.prog X.w) X.prog X.w X.K X.mg X.base [a, n] g sg ga cdv X.A X.stack s' H1 (WE W σ)) cxY (fun f' h' hl => by
      rw [hhot] at hl
      simp only [List.lookup_cons, List.lookup_nil] at hl
      split at hl
      · rename_i hb
        have ef : f' = f := by simpa using hb
        subst ef
        cases hl
        exact ⟨hE, hf, hgf⟩
      · cases hl) (fun y hy => by
      rw [hN] at hy
      rcases List.mem_cons.mp hy with rfl | hy
      · unfold refC at hR
        split at hR
        · split at hR
          · split at hR
            · rename_i hh
              cases hR
              exact hh.1
            · cases hR
          · cases hR
        · cases hR
      · rw [List.mem_singleton.mp hy]; exact hnn)
    unfold refC at hR
    split at hR
    · rename_i a1 q1' q2' q3' x1 q4' n1 b0 suite q5' q6' r1 q7' q8' q9'
      split at hR
      · rename_i f1 hsu
        split at hR
        · rename_i hh
          obtain ⟨ha1, hx1, hgx, hln⟩ := hh
          cases hR
          have hs := su n (b0 :: suite) none f 1 none e hsu ixn hln rfl (by rw [hhot]; simp)
          refine ⟨_, pss_cons (L2N.ps_try_as (X := cxOf (L2N.CX X.prog X.w) X.prog X.w X.K X.mg X.base [a, n] g sg ga cdv X.A X.stack s' H1 (WE W σ)) (c := .ref CX) (i := 1) (Wout := fun cls d _ H => WE W σ cls d H)
            (tb := fun W' D σ' H' => ∃ Ech : XK, (∀ cls d σ'' H'', Ech cls d H'' → W' cls d σ'' H'') ∧ σ'[0]? = some (some (.ref fa)) ∧ H' c' = some (CodeO c' (X.env.qual ++ "<lambda>")) ∧ tE X.K X.mg tb (fun cls d _ H => Ech cls d H) false (ev B b) σ H' fun _ H2 => D.nx σ' H2)
            (ts := tSu X.K X.mg tb 1 none e) rfl rfl FS.nd rfl hln ⟨show sg.names.lookup _ = some .globalImplicit from of_decide_eq_true hgx, okName_1 hx1, .inl g1⟩ tkY (fun W' pn xe tk' ps => ?_) hs) (pss_one (ps_ret pe_str)), ?_⟩
          · refine ⟨fun pins2 s2 σ2 H2 D2 I2 h2 => ?_⟩
            obtain ⟨Ech, hW, h1, h2, h3⟩ := h2
            have hp := pe_actN (tb := tE X.K X.mg tb (fun cls d _ H => Ech cls d H) false (ev B b)) (k := lv) (i := 0) (p1 := q1') (p2 := q2') I1 LS hfo hfn hfr (hbind _ _ _ _ _) tk' hW hr' (fun A' outer' s'' H'' hr2 =>
              hb (lamN X A' outer' s'' H'' Ech scope fa c') ⟨rfl, rfl, rfl, hr2, ⟨rfl, rfl, rfl, rfl, rfl⟩⟩ (fun cls d _ H => Ech cls d H) (L2N.takes_of rfl rfl rfl rfl)) rfl (isVis_vis hva) (okName_1 ha1) (okName_2 ha1)
            exact (pss_one (ps_expr hp rfl)).run pins2 s2 σ2 H2 D2 I2 ⟨h1, h2, h3⟩
          · refine ⟨fun cls d H'' => ∀ σ'', wAs X.K (.ref CX) 1 (tSu X.K X.mg tb 1 none e) (fun cls d _ H => WE W σ cls d H) { nx := fun _ H' => Q (.str r) H', rt := Q } cls d σ'' H'', fun cls d σ'' H'' h => h σ'', rfl, hco, ?_⟩
            refine ⟨ρ, S, A, hρ.stp s1, hS1, ?_⟩
            unfold refH at q1
            simp only at q1
            cases e1 : ev B b ρ S with
            | stuck => rw [e1] at q1; exact q1
            | ok pv S' =>
              rw [e1] at q1
              exact fun v H' A' s hS' _ => q1 (.str r) H' A' s hS' (Rk.of rp_str)
            | ex y S' =>
              rw [e1] at q1
              simp only at q1
              intro H' A' C dd s hS' hmC hd σ''
              split at q1
              · rename_i hu
                obtain ⟨Cy, Cx'', f1, f2, f3⟩ := cxY.fx.cls y x true hu
                have g1' : X.mg x = some (.ref CX) := g1
                have f2' : X.mg x = some (.ref Cx'') := f2
                rw [g1'] at f2'
                cases f2'
                have f1' : X.mg y = some (.ref Cy) := f1
                rw [f1'] at hmC
                cases hmC
                split at q1
                · rename_i pv hpv
                  split at q1
                  · rename_i hpl
                    obtain ⟨v, hv⟩ : ∃ v, plV pv = some v := by cases pv <;> first | exact ⟨_, rfl⟩ | cases hpl
                    refine ⟨true, f3, And.intro (fun _ a' ha' => ⟨⟨σ'', rfl⟩, y, _, pv, v, rfl, hd, f1, hpv, hv, A', S', hS', fun H2 s2 hS2 => ?_⟩) nofun⟩
                    exact q1 v H2 A' (s.trans s2) hS2 (Rk.of (plV_rp hv))
                  · exact q1.elim
                · exact q1.elim
              · rename_i hu
                obtain ⟨Cy, Cx'', f1, f2, f3⟩ := cxY.fx.cls y x false hu
                have g1' : X.mg x = some (.ref CX) := g1
                have f2' : X.mg x = some (.ref Cx'') := f2
                rw [g1'] at f2'
                cases f2'
                have f1' : X.mg y = some (.ref Cy) := f1
                rw [f1'] at hmC
                cases hmC
                exact ⟨false, f3, And.intro nofun fun _ => q1 H' A' _ dd s hS' f1' hd⟩
              · exact q1.elim
        · cases hR
      · cases hR
    · cases hR
  refine wpAny_call (codeAny_mono rc fun r' s2 hq => ?_)
  cases r' with
  | error er => exact L2N.passAt tk σ pins H1 s' er s2 I1 hq
  | ok fl =>
    cases fl with
    | ret u => exact I1.after hq
    | next => exact hq.elim
    | brk => exact hq.elim
    | cont => exact hq.elim
end
end Ev

end -- EvY
section -- EvZ
namespace Ev
open PySem PySem.Spec PyProof.Rows L2 LamX
section
variable {Pr : Program} {w : World} {K : PySem.W.Frag} {mg : Str → Option Value} {base : Heap} {tb : List (Addr × Str)}
theorem FnIsG.mono {lv lv' n : Nat} {x : Str} {f : Fn} (h : FnIsG Pr w K mg base tb lv x n f) (hl : lv ≤ lv') : FnIsG Pr w K mg base tb lv' x n f := by
  obtain ⟨a, fd, ps, h1, h2, h3, h4⟩ := h
  exact ⟨a, fd, ps, h1, h2, h3.mono hl, h4⟩
/-- what is known of the module -/
structure Md (Pr : Program) (w : World) (K : PySem.W.Frag) (mg : Str → Option Value) (base : Heap) (tb : List (Addr × Str)) (tab : List (Str × List Str)) (cls vs : List Str) : Prop where
  free : ∀ x ∈ freeNames, mg x = none
  exc : ∀ x ∈ cls, ∃ C, mg x = some (.ref C) ∧ PySem.W.excIn K C He.veBase "ValueError.__new__" = true ∧ PySem.W.keepIn K (.ref C) = true ∧ PySem.W.subIn K (.ref C) (.type "BaseException") = some true ∧ PySem.W.typeIn K (.ref C) = some (.type "type")
  sub : ∀ y x b, under tab y x = some b → ∃ Cy Cx, mg y = some (.ref Cy) ∧ mg x = some (.ref Cx) ∧ PySem.W.exmOne K (.ref Cy) (.ref Cx) = some b
  glo : ∀ x ∈ vs, ∃ a, mg x = some (.ref a)
theorem all0 {α : Type} {p : α → Prop} : ∀ q ∈ ([] : List α), p q := fun _ h => by cases h
theorem all1 {α : Type} {p : α → Prop} {a : α} {l : List α} (h : p a) (t : ∀ q ∈ l, p q) : ∀ q ∈ a :: l, p q := fun q hq => by
  rcases List.mem_cons.mp hq with e | e
  · subst e; exact h
  · exact t q e
theorem fx_of {tab : List (Str × List Str)} {cls vs : List Str} (M : Md Pr w K mg base tb tab cls vs) {cp : CP} {B : Amb} {lv : Nat} (hB : B.tab = tab) (h1 : ∀ q ∈ cp.Φ, FnIsG Pr w K mg base tb lv q.1 q.2.1 q.2.2) (h2 : ∀ q ∈ cp.cs, ∃ u vv, mg q.1 = some u ∧ RelV vv u ∧ ∀ A H, Rp K mg A H q.2 vv)
    (h3 : (cp.vs.all fun x => decide (x ∈ vs)) = true) (h4 : ∀ q ∈ B.dyn, FnIsG Pr w K mg base tb lv q.1 q.2.1 q.2.2) (h5 : (cp.excs.all fun x => decide (x ∈ cls)) = true) : FxG Pr w K mg base tb cp B lv where
  fns := fun x n f h => h1 (x, n, f) (PySem.mem_of_lookup h)
  cs := fun x v h => h2 (x, v) (PySem.mem_of_lookup h)
  vs := fun x h => M.glo x (of_decide_eq_true (List.all_eq_true.mp h3 x (by simpa using h)))
  free := M.free
  dyn := fun x n f h => h4 (x, n, f) (PySem.mem_of_lookup h)
  exc := fun x h => M.exc x (of_decide_eq_true (List.all_eq_true.mp h5 x (by simpa using h)))
  cls := fun y x b h => M.sub y x b (by rw [← hB]; exact h)
theorem fx_over {cp : CP} {B : Amb} {lv : Nat} (fx : FxG Pr w K mg base tb cp B lv) : ∀ X : Cx, Over Pr w K mg base X → Fx X tb cp B lv := fun X ⟨e1, e2, e3, e4, e5⟩ => by
  show FxG X.prog X.w X.K X.mg X.base tb cp B lv
  rw [e1, e2, e3, e4, e5]
  exact fx
theorem some_getD {cp : CP} {sc : Scope} {m : Nat} {body : List Stmt} (h : (compT cp sc m body).isSome = true) : compT cp sc m body = some ((compT cp sc m body).getD .nil) := by
  cases e : compT cp sc m body with
  | none => rw [e] at h; cases h
  | some t => rfl
/-- a plain def -/
theorem mkIs {x : Str} {params : Arguments} {body : List Stmt} {scope : Scope} {f : Addr} {fd : FuncData} (F : FunD K x x params body scope [] [] f fd) (g : mg x = some (.ref f)) {ps : List Str} {cp : CP} {B : Amb} {lv n : Nat} (S : C8.scC cp.N ps scope = true) (hn : ps.length = n)
    (hb : ∀ (kV doc pm : Value) (an : Option Addr) (cdv ct : Value) (us : List Value), us.length = ps.length → bindArgs (PySem.W.fnOf x x params body scope .none kV doc pm an cdv ct) ⟨us, []⟩ = pure (ps.zip us)) (ok : (compT cp scope 60 body).isSome = true) (fx : FxG Pr w K mg base tb cp B lv) (nh : cp.hot = []) (nl : cp.lam = []) :
    FnIsG Pr w K mg base tb (lv + 1) x n (run B cp.N.length ((compT cp scope 60 body).getD .nil)) :=
  ⟨f, fd, ps, g, F.kp, mk_fn F S rfl hn (some_getD ok) (fx_over fx) (fun X _ cx n suite y f i k h _ _ _ _ hf => by rw [nh] at hf; cases hf) (Nat.le_refl _) (fun X cdv _ _ _ _ _ _ g h hl => by rw [nl] at hl; cases hl), FunD.bindsN F hb⟩
/-- what stands at a def's code object -/
structure TabF (K : PySem.W.Frag) (mg : Str → Option Value) (base : Heap) (tb : List (Addr × Str)) (x : Str) (scope : Scope) (f : Addr) : Prop where
  at_ : ∀ c oc od fd' osl, K.lookup f = some ⟨oc, od, .func fd', osl⟩ → fd'.code = .ref c → ∃ P, TabB base mg c P ∧ (P, (envOfC x scope 0 f (.ref c)).qual ++ "<lambda>") ∈ tb ∧ ∀ p ∈ tb, p.1 = P → p.2 = (envOfC x scope 0 f (.ref c)).qual ++ "<lambda>"
/-- a def that makes lambdas for defs as RefDef tells them -/
theorem mkIsL {x : Str} {params : Arguments} {body : List Stmt} {scope : Scope} {f : Addr} {fd : FuncData} (F : FunD K x x params body scope [] [] f fd) (g : mg x = some (.ref f)) {ps : List Str} {cp : CP} {B : Amb} {lv n : Nat} (S : C8.scC cp.N ps scope = true) (hn : ps.length = n)
    (hb : ∀ (kV doc pm : Value) (an : Option Addr) (cdv ct : Value) (us : List Value), us.length = ps.length → bindArgs (PySem.W.fnOf x x params body scope .none kV doc pm an cdv ct) ⟨us, []⟩ = pure (ps.zip us)) (ok : (compT cp scope 60 body).isSome = true) (fx : FxG Pr w K mg base tb cp B lv) (nh : cp.hot = [])
    (T : TabF K mg base tb x scope f) (R : ∀ q ∈ cp.lam, RefDef Pr w K mg base tb B lv q.1 q.2) :
    FnIsG Pr w K mg base tb (lv + 3) x n (run B cp.N.length ((compT cp scope 60 body).getD .nil)) := by
  refine ⟨f, fd, ps, g, F.kp, mk_fn F S rfl hn (some_getD ok) (fx_over fx) (fun X _ cx n suite y f i k h _ _ _ _ hf => by rw [nh] at hf; cases hf) (k := lv + 2) (by omega) (fun X cdv ov hcd lk hr hcode hqual g h hl Y ly => ?_), FunD.bindsN F hb⟩
  obtain ⟨c, rfl⟩ := He.codeIn_ref hcd
  obtain ⟨oc, od, fd', osl, lk1, lk2⟩ := lk
  obtain ⟨Pt, t1, t2, t3⟩ := T.at_ c oc od fd' osl lk1 lk2
  obtain ⟨e1, e2, e3, e4, e5⟩ := ov
  obtain ⟨a1, a2, a3, a4, a5⟩ := ly.ov
  refine lamOk_of (X := Y) ⟨by rw [ly.A]; exact hr, c, Pt, by rw [ly.code, hcode], by rw [a5, e5, a4, e4]; exact t1, by rw [ly.qual, hqual]; exact t2, by rw [ly.qual, hqual]; exact t3⟩ ?_
  have r := R (g, h) (PySem.mem_of_lookup hl)
  rw [a1, a2, a3, a4, a5, e1, e2, e3, e4, e5]
  exact r
theorem env0_lock {A : Around} {outer : List Env} {s : Shared} {H : Hp} {a : Addr} {xs : List V} (e : Env0 Pr w K mg base A outer s H) (h : H a = some (.lst xs)) : ∃ od, Env0 Pr w K mg base A outer s (upd H a (.frz od (.lst xs))) := by
  have x := e.hok a _ h
  obtain ⟨z, its, n, r, ho⟩ := id x
  have ne : ∀ b, H b = none → b ≠ a := fun b hb z => by rw [z, h] at hb; cases hb
  refine ⟨{ cls := .type "list", data := .seq its.toArray n }, e.frames, e.mod, fun b o q => ⟨(e.bs b o q).1, by rw [upd_ne (ne b (e.bs b o q).2)]; exact (e.bs b o q).2⟩, e.bsz, e.funs, fun b hb => by rw [upd_ne (ne b (e.frf b hb))]; exact e.frf b hb, fun b o q => ?_, e.bare⟩
  by_cases hb : b = a
  · subst hb
    rw [upd_same] at q
    cases q
    exact ⟨ho, x.stay (fun _ _ _ q => q) (fun c q => by rw [upd_ne (fun z => by rw [z, h] at q; cases q)]; exact q) fun c ys q => by rw [upd_ne (fun z => by rw [z, h] at q; cases q)]; exact q⟩
  · rw [upd_ne hb] at q
    exact (e.hok b o q).stay (fun _ _ _ q => q) (fun c q => by rw [upd_ne (fun z => by rw [z, h] at q; cases q)]; exact q) fun c ys q => by rw [upd_ne (fun z => by rw [z, h] at q; cases q)]; exact q
theorem un_lock {fs ex : List Addr} {H H' : Hp} {h1 h2 : Heap} {a : Addr} {od : Obj} {xs : List V} (u : Un fs ex (upd H a (.frz od (.lst xs))) H' h1 h2) (h : H a = some (.lst xs)) : Un fs ex H H' h1 h2 := by
  have ne : ∀ b o, H b = some o → o ≠ .lst xs → b ≠ a := fun b o hb n z => by rw [z, h] at hb; cases hb; exact n rfl
  have nn : ∀ b, H b = none → upd H a (.frz od (.lst xs)) b = none := fun b hb => by rw [upd_ne (fun z => by rw [z, h] at hb; cases hb)]; exact hb
  exact ⟨fun b o q n => u.keep b o q (nn b n), fun b o q n => u.slot b o q (nn b n), fun b o q n => u.free b o q (nn b n), u.there, fun b ys q => u.tups b ys (by rw [upd_ne (ne b _ q nofun)]; exact q), fun b o v q => u.frzs b o v (by rw [upd_ne (ne b _ q nofun)]; exact q), fun b ps q => u.tbls b ps (by rw [upd_ne (ne b _ q nofun)]; exact q)⟩
theorem ub_lock {fs : List Addr} {H H' : Hp} {h1 B h2 : Heap} {a : Addr} {od : Obj} {xs : List V} (u : UB fs (upd H a (.frz od (.lst xs))) H' h1 B h2) (h : H a = some (.lst xs)) : UB fs H H' h1 B h2 := by
  have ne : ∀ b o, H b = some o → o ≠ .lst xs → b ≠ a := fun b o hb n z => by rw [z, h] at hb; cases hb; exact n rfl
  have nn : ∀ b, H b = none → upd H a (.frz od (.lst xs)) b = none := fun b hb => by rw [upd_ne (fun z => by rw [z, h] at hb; cases hb)]; exact hb
  exact ⟨fun b o q n => u.keep b o q (nn b n), u.slot, fun b o q n => u.free b o q (nn b n), u.there, fun b ys q => u.tups b ys (by rw [upd_ne (ne b _ q nofun)]; exact q), fun b o v q => u.frzs b o v (by rw [upd_ne (ne b _ q nofun)]; exact q), fun b ps q => u.tbls b ps (by rw [upd_ne (ne b _ q nofun)]; exact q)⟩
/-- the promise, or the promise once a list is locked -/
def spLock (sp : Sp) : Sp := fun vs H Q E => sp vs H Q E ∨ ∃ a xs, H a = some (.lst xs) ∧ ∀ od, sp vs (upd H a (.frz od (.lst xs))) Q E
theorem fnOk_lock {k : Nat} {f : Addr} {fd : FuncData} {ps : List Str} {sp : Sp} (F : FnOk Pr w K mg base (L2N.CX Pr w) k f fd ps sp) : FnOk Pr w K mg base (L2N.CX Pr w) k f fd ps (spLock sp) := by
  refine ⟨fun vs H Q E h => ?_, fun A outer s H args us vs Q E hr e hb r h => ?_⟩
  · rcases h with h | ⟨a, xs, _, h⟩
    · exact F.len _ _ _ _ h
    · exact F.len _ _ _ _ (h default)
  · rcases h with h | ⟨a, xs, ha, h⟩
    · exact F.run A outer s H args us vs Q E hr e hb r h
    · obtain ⟨od, e2⟩ := env0_lock e ha
      refine codeAny_mono (F.run A outer s _ args us vs Q E hr e2 hb r (h od)) fun r s' hq => ?_
      cases r with
      | error er =>
        obtain ⟨a', B, H', cls, d, e1, fl, hok, ub, na, os, ag, hE⟩ := hq
        exact ⟨a', B, H', cls, d, e1, fl, hok, ub_lock ub ha, na, os, ag, hE⟩
      | ok fl =>
        cases fl with
        | ret u =>
          obtain ⟨v, H', os, ag, un, hok, rv, q⟩ := hq
          exact ⟨v, H', os, ag, un_lock un ha, hok, rv, q⟩
        | next => exact hq.elim
        | brk => exact hq.elim
        | cont => exact hq.elim
/-- the law's own promise at the script -/
theorem sp_law {f : Fn} {H : Hp} {a : Addr} {ns : List Int} {S' : Sto} (h : f [.scr ns] [] = .ok (.bl true) S') (hs : SqL K H a (ns.map V.int)) (ht : Tabs tb H) : spLock (spF K mg tb 1 f) [.ref a] H (fun v _ => v = .bl true) fun _ _ _ => False := by
  have go : ∀ H : Hp, ScL K H a (ns.map V.int) → Tabs tb H → spF K mg tb 1 f [.ref a] H (fun v _ => v = .bl true) fun _ _ _ => False := fun H hs ht => by
    refine ⟨rfl, [.scr ns], [], [], RpL.cons (by simp only [Rp]; exact ⟨a, rfl, hs⟩) RpL.nil, ⟨rfl, List.nodup_nil, fun k a c e _ => by simp at e, ht⟩, ?_⟩
    rw [h]
    intro v H' A' _ _ r
    simpa [Rp] using r
  rcases hs with (hs | ⟨o, hs⟩) | hs
  · refine .inr ⟨a, _, hs, fun od => go _ (.inl ⟨od, upd_same⟩) ?_⟩
    intro q hq
    obtain ⟨ps, h1, h2, h3⟩ := ht q hq
    refine ⟨ps, by rw [upd_ne (ne_of h1 hs nofun)]; exact h1, h2, fun pos cv hc => ?_⟩
    obtain ⟨c, e1, e2⟩ := h3 pos cv hc
    exact ⟨c, e1, by rw [upd_ne (ne_of e2 hs (by unfold LamX.CodeO; nofun))]; exact e2⟩
  · exact .inl (go H (.inl ⟨o, hs⟩) ht)
  · exact .inl (go H (.inr hs) ht)
end
end Ev

end -- EvZ
section -- PlA
namespace Ev
theorem bind_ok {α β : Type} {a : α} {S : Sto} {f : α → Sto → R β} : (R.ok a S).bind f = f a S := rfl
theorem to_ok {α : Type} {a : α} {S : Sto} {ρ : List Sl} {f : α → Sto → Qr} : (R.ok a S).to ρ f = f a S := rfl
theorem seq_nx {ρ : List Sl} {S : Sto} {f : List Sl → Sto → Qr} : (Qr.ok (.nx ρ) S).seq f = f ρ S := rfl
theorem seq_rt {v : PV} {S : Sto} {f : List Sl → Sto → Qr} : (Qr.ok (.rt v) S).seq f = .ok (.rt v) S := rfl
theorem seq_ex {x : PySem.Str} {ρ : List Sl} {S : Sto} {f : List Sl → Sto → Qr} : (Qr.ex x ρ S).seq f = .ex x ρ S := rfl
theorem of_some {v : PV} {S : Sto} : R.of (some v) S = .ok v S := rfl
theorem truth_bl {b : Bool} {S : Sto} {f : Bool → Sto → R PV} : truth (.bl b) S f = f b S := rfl
theorem truthQ_bl {b : Bool} {f : Bool → Qr} : truthQ (.bl b) f = f b := rfl
/-- a while that ends within n turns -/
theorem whileM_mono {c : List Sl → Sto → R PV} {b : List Sl → Sto → Qr} {ρ' : List Sl} {S' : Sto} : ∀ {n m : Nat} {ρ : List Sl} {S : Sto}, n ≤ m → whileM c b n ρ S = .ok (.nx ρ') S' → whileM c b m ρ S = .ok (.nx ρ') S'
  | 0, _, _, _, _, h => by unfold whileM at h; cases h
  | n + 1, 0, _, _, hm, _ => by omega
  | n + 1, m + 1, ρ, S, hm, h => by
    unfold whileM at h ⊢
    cases e : c ρ S with
    | stuck => rw [e] at h; cases h
    | ex x S1 => rw [e] at h; cases h
    | ok v S1 =>
      rw [e] at h
      simp only [to_ok] at h ⊢
      cases v with
      | bl k =>
        simp only [truthQ_bl] at h ⊢
        split at h
        · rename_i hk
          rw [if_pos hk]
          cases e2 : b ρ S1 with
          | stuck => rw [e2] at h; cases h
          | ex x ρ2 S2 => rw [e2] at h; cases h
          | ok f S2 =>
            rw [e2] at h
            cases f with
            | nx ρ2 => exact whileM_mono (by omega) h
            | rt v => exact h
        · rename_i hk
          rw [if_neg hk]
          exact h
      | _ => cases h
/-- a loop by an invariant: what each turn leaves -/
theorem forM_fold {α : Type} {f : PV → List Sl → Sto → Qr} {g : α → PV → α} {st : α → List Sl} {S : Sto} : ∀ {xs : List PV} {a : α}, (∀ a x, x ∈ xs → f x (st a) S = .ok (.nx (st (g a x))) S) → forM f xs (st a) S = .ok (.nx (st (xs.foldl g a))) S
  | [], _, _ => rfl
  | x :: xs, a, h => by
    unfold forM
    rw [h a x List.mem_cons_self]
    exact forM_fold fun a y hy => h a y (List.mem_cons_of_mem _ hy)
/-- a comprehension, item by item -/
theorem lcM_map {f : PV → Sto → R (List PV)} {g : PV → List PV} {S : Sto} : ∀ {xs : List PV}, (∀ x ∈ xs, f x S = .ok (g x) S) → lcM f xs S = .ok (xs.flatMap g) S
  | [], _ => rfl
  | x :: xs, h => by
    unfold lcM
    rw [h x List.mem_cons_self]
    simp only [lcM_map fun y hy => h y (List.mem_cons_of_mem _ hy), List.flatMap_cons]
end Ev

end -- PlA
section -- HdK51
set_option maxHeartbeats 0
namespace Hd
open PySem PySem.Spec PyProof.Rows L2
def top (i : Nat) : Stmt := PySem.Challenge.pw_sureshares_k51_whole_periods_told_back.main.body.getD i (.Pass ⟨0, 0, 0, 0⟩)
abbrev s20 : Stmt := top 20
def d20 : He.DefD := ⟨("ratio", none), "ratio", "ratio", defArgs s20, defBody s20, defScope s20, [], []⟩
abbrev s21 : Stmt := top 21
def d21 : He.DefD := ⟨("plus", none), "plus", "plus", defArgs s21, defBody s21, defScope s21, [], []⟩
abbrev s22 : Stmt := top 22
def d22 : He.DefD := ⟨("product", none), "product", "product", defArgs s22, defBody s22, defScope s22, [], []⟩
abbrev s23 : Stmt := top 23
def d23 : He.DefD := ⟨("at_most", none), "at_most", "at_most", defArgs s23, defBody s23, defScope s23, [], []⟩
abbrev s24 : Stmt := top 24
def d24 : He.DefD := ⟨("sum_of", none), "sum_of", "sum_of", defArgs s24, defBody s24, defScope s24, [], []⟩
abbrev s27 : Stmt := top 27
def d27 : He.DefD := ⟨("is_int", none), "is_int", "is_int", defArgs s27, defBody s27, defScope s27, [], []⟩
abbrev s28 : Stmt := top 28
def d28 : He.DefD := ⟨("is_fraction", none), "is_fraction", "is_fraction", defArgs s28, defBody s28, defScope s28, [], []⟩
abbrev s29 : Stmt := top 29
def d29 : He.DefD := ⟨("are_some_lengths", none), "are_some_lengths", "are_some_lengths", defArgs s29, defBody s29, defScope s29, [], []⟩
abbrev s30 : Stmt := top 30
def d30 : He.DefD := ⟨("often", none), "often", "often", defArgs s30, defBody s30, defScope s30, [], []⟩
abbrev s31 : Stmt := top 31
def d31 : He.DefD := ⟨("need_at", none), "need_at", "need_at", defArgs s31, defBody s31, defScope s31, [], []⟩
abbrev s32 : Stmt := top 32
def d32 : He.DefD := ⟨("answer_of", none), "answer_of", "answer_of", defArgs s32, defBody s32, defScope s32, [], []⟩
abbrev s33 : Stmt := top 33
def d33 : He.DefD := ⟨("in_time", none), "in_time", "in_time", defArgs s33, defBody s33, defScope s33, [], []⟩
abbrev s34 : Stmt := top 34
def d34 : He.DefD := ⟨("need_number", none), "need_number", "need_number", defArgs s34, defBody s34, defScope s34, [], []⟩
abbrev s39 : Stmt := top 39
def d39 : He.DefD := ⟨("are_facts", none), "are_facts", "are_facts", defArgs s39, defBody s39, defScope s39, [], []⟩
abbrev s40 : Stmt := top 40
def d40 : He.DefD := ⟨("all_periods", none), "all_periods", "all_periods", defArgs s40, defBody s40, defScope s40, [], []⟩
abbrev s41 : Stmt := top 41
def d41 : He.DefD := ⟨("periods_told", none), "periods_told", "periods_told", defArgs s41, defBody s41, defScope s41, [], []⟩
abbrev s43 : Stmt := top 43
def d43 : He.DefD := ⟨("_law_source", none), "_law_source", "_law_source", defArgs s43, defBody s43, defScope s43, [], []⟩
abbrev s44 : Stmt := top 44
def d44 : He.DefD := ⟨("_law_pick", none), "_law_pick", "_law_pick", defArgs s44, defBody s44, defScope s44, [], []⟩
abbrev s45 : Stmt := top 45
def d45 : He.DefD := ⟨("_law_chosen", none), "_law_chosen", "_law_chosen", defArgs s45, defBody s45, defScope s45, [], []⟩
abbrev s46 : Stmt := top 46
def d46 : He.DefD := ⟨("_law_by_three", none), "_law_by_three", "_law_by_three", defArgs s46, defBody s46, defScope s46, [], []⟩
abbrev s47 : Stmt := top 47
def d47 : He.DefD := ⟨("_law_refused", none), "_law_refused", "_law_refused", defArgs s47, defBody s47, defScope s47, [], []⟩
abbrev s48 : Stmt := top 48
def d48 : He.DefD := ⟨("_law_error", none), "_law_error", "_law_error", defArgs s48, defBody s48, defScope s48, [], []⟩
abbrev s49 : Stmt := top 49
def d49 : He.DefD := ⟨("_law_divisor", none), "_law_divisor", "_law_divisor", defArgs s49, defBody s49, defScope s49, [], []⟩
abbrev s50 : Stmt := top 50
def d50 : He.DefD := ⟨("_law_low", none), "_law_low", "_law_low", defArgs s50, defBody s50, defScope s50, [], []⟩
abbrev s51 : Stmt := top 51
def d51 : He.DefD := ⟨("_law_lengths", none), "_law_lengths", "_law_lengths", defArgs s51, defBody s51, defScope s51, [], []⟩
abbrev s52 : Stmt := top 52
def d52 : He.DefD := ⟨("_law_ticks", none), "_law_ticks", "_law_ticks", defArgs s52, defBody s52, defScope s52, [], []⟩
abbrev s53 : Stmt := top 53
def d53 : He.DefD := ⟨("_law_answers", none), "_law_answers", "_law_answers", defArgs s53, defBody s53, defScope s53, [], []⟩
abbrev s54 : Stmt := top 54
def d54 : He.DefD := ⟨("_law_in_time", none), "_law_in_time", "_law_in_time", defArgs s54, defBody s54, defScope s54, [], []⟩
abbrev s55 : Stmt := top 55
def d55 : He.DefD := ⟨("_law_all_periods", none), "_law_all_periods", "_law_all_periods", defArgs s55, defBody s55, defScope s55, [], []⟩
abbrev s56 : Stmt := top 56
def d56 : He.DefD := ⟨("_law_right", none), "_law_right", "_law_right", defArgs s56, defBody s56, defScope s56, [], []⟩
abbrev s57 : Stmt := top 57
def d57 : He.DefD := ⟨("_law_refusals", none), "_law_refusals", "_law_refusals", defArgs s57, defBody s57, defScope s57, [], []⟩
abbrev s58 : Stmt := top 58
def d58 : He.DefD := ⟨("_law_written", none), "_law_written", "_law_written", defArgs s58, defBody s58, defScope s58, [], []⟩
abbrev s59 : Stmt := top 59
def d59 : He.DefD := ⟨("law", none), "law", "law", defArgs s59, defBody s59, defScope s59, [], []⟩
def fn : List He.DefD := [d20, d21, d22, d23, d24, d27, d28, d29, d30, d31, d32, d33, d34, d39, d40, d41, d43, d44, d45, d46, d47, d48, d49, d50, d51, d52, d53, d54, d55, d56, d57, d58, d59]
def fa0 : List He.Fa := [.glo "ratio",
  .glo "plus",
  .glo "product",
  .glo "at_most",
  .glo "sum_of",
  .glo "is_int",
  .glo "is_fraction",
  .glo "are_some_lengths",
  .glo "often",
  .glo "need_at",
  .glo "answer_of",
  .glo "in_time",
  .glo "need_number",
  .glo "are_facts",
  .glo "all_periods",
  .glo "periods_told",
  .glo "_law_source",
  .glo "_law_pick",
  .glo "_law_chosen",
  .glo "_law_by_three",
  .glo "_law_refused",
  .glo "_law_error",
  .glo "_law_divisor",
  .glo "_law_low",
  .glo "_law_lengths"]
def fa1 : List He.Fa := [.glo "_law_ticks",
  .glo "_law_answers",
  .glo "_law_in_time",
  .glo "_law_all_periods",
  .glo "_law_right",
  .glo "_law_refusals",
  .glo "_law_written",
  .glo "law",
  .glo "ShareError",
  .glo "InvalidPeriods",
  .glo "InvalidLengths",
  .glo "InvalidNumber",
  .glo "InvalidShare",
  .glo "InvalidPaper",
  .glo "InvalidFacts",
  .glo "InvalidPlan",
  .glo "InvalidWork",
  .glo "InvalidRows",
  .glo "InvalidTick",
  .glo "InvalidText",
  .glo "Early",
  .glo "Late",
  .glo "Unlike",
  .glo "NothingToUndo",
  .glo "TooMany"]
def fa2 : List He.Fa := [.free "len",
  .free "all",
  .free "abs",
  .free "isinstance",
  .free "int",
  .free "tuple",
  .free "list",
  .free "range",
  .free "zip",
  .free "sorted",
  .free "set",
  .free "max",
  .free "min",
  .free "enumerate",
  .free "sum",
  .free "str",
  .free "bool",
  .free "super",
  .exc "ShareError",
  .exc "InvalidPeriods",
  .exc "InvalidLengths",
  .exc "InvalidNumber",
  .exc "InvalidShare",
  .exc "InvalidPaper",
  .exc "InvalidFacts"]
def fa3 : List He.Fa := [.exc "InvalidPlan",
  .exc "InvalidWork",
  .exc "InvalidRows",
  .exc "InvalidTick",
  .exc "InvalidText",
  .exc "Early",
  .exc "Late",
  .exc "Unlike",
  .exc "NothingToUndo",
  .exm "ShareError" "ShareError" true,
  .exm "InvalidPeriods" "ShareError" true,
  .exm "InvalidLengths" "ShareError" true,
  .exm "InvalidNumber" "ShareError" true,
  .exm "InvalidShare" "ShareError" true,
  .exm "InvalidPaper" "ShareError" true,
  .exm "InvalidFacts" "ShareError" true,
  .exm "InvalidPlan" "ShareError" true,
  .exm "InvalidWork" "ShareError" true,
  .exm "InvalidRows" "ShareError" true,
  .exm "InvalidTick" "ShareError" true,
  .exm "InvalidText" "ShareError" true,
  .exm "Early" "ShareError" true,
  .exm "Late" "ShareError" true,
  .exm "Unlike" "ShareError" true,
  .exm "NothingToUndo" "ShareError" true]
def fa4 : List He.Fa := [.exm "TooMany" "ShareError" true,
  .glo "NOUGHT",
  .int "MOST_INTEGER" 1000000000000000000000000000000,
  .int "MOST_FACTS" 5,
  .int "MOST_TOLD" 8,
  .int "MOST_MANY" 4]
def fa : List He.Fa := fa0 ++ fa1 ++ fa2 ++ fa3 ++ fa4
def tf : List He.Defn := [("_law_by_three", none)]
def classes : List PySem.Str := ["ShareError", "InvalidPeriods", "InvalidLengths", "InvalidNumber", "InvalidShare", "InvalidPaper", "InvalidFacts", "InvalidPlan", "InvalidWork", "InvalidRows", "InvalidTick", "InvalidText", "Early", "Late", "Unlike", "NothingToUndo"]
def under2 : List (PySem.Str × List PySem.Str) := [("ShareError", ["ShareError"]), ("InvalidPeriods", ["InvalidPeriods", "ShareError"]), ("InvalidLengths", ["InvalidLengths", "ShareError"]), ("InvalidNumber", ["InvalidNumber", "ShareError"]), ("InvalidShare", ["InvalidShare", "ShareError"]), ("InvalidPaper", ["InvalidPaper", "ShareError"]), ("InvalidFacts", ["InvalidFacts", "ShareError"]), ("InvalidPlan", ["InvalidPlan", "ShareError"]), ("InvalidWork", ["InvalidWork", "ShareError"]), ("InvalidRows", ["InvalidRows", "ShareError"]), ("InvalidTick", ["InvalidTick", "ShareError"]), ("InvalidText", ["InvalidText", "ShareError"]), ("Early", ["Early", "ShareError"]), ("Late", ["Late", "ShareError"]), ("Unlike", ["Unlike", "ShareError"]), ("NothingToUndo", ["NothingToUndo", "ShareError"])]
def excB (K : PySem.W.Frag) (x : PySem.Str) : Bool := decide (PySem.W.findIn K (.ref (He.ga K x)) "__getattribute__" = some (some (.builtin "BaseException.__getattribute__"))) && decide (PySem.W.findIn K (.ref (He.ga K x)) "__getattr__" = some none) && decide (PySem.W.subIn K (.ref (He.ga K x)) (.type "BaseException") = some true) &&
  PySem.W.hasDictIn K (He.ga K x) && decide (PySem.W.findIn K (.ref (He.ga K x)) "__class__" = some (some (.builtin "object.__class__"))) && decide (PySem.W.specialIn K (.builtin "object.__class__") "__get__" = some (some (.builtin "getset_descriptor.__get__"))) && decide (PySem.W.takesIn K (.builtin "object.__class__") = some true) && decide (PySem.W.mroIn K (He.ga K x) (.type "object") = some true)
def kitB (K : PySem.W.Frag) (y : PySem.Str × List PySem.Str) (x : PySem.Str) : Bool := decide (PySem.W.kitOne K (.ref (He.ga K y.1)) (.ref (He.ga K x)) = some (y.2.contains x))
def allC : List PySem.Str := ["ShareError", "InvalidPeriods", "InvalidLengths", "InvalidNumber", "InvalidShare", "InvalidPaper", "InvalidFacts", "InvalidPlan", "InvalidWork", "InvalidRows", "InvalidTick", "InvalidText", "Early", "Late", "Unlike", "NothingToUndo", "TooMany"]
def ex (K : PySem.W.Frag) : Bool := (He.tupB K "NOUGHT" [.int 0, .int 1]) && (classes.all (excB K) && (under2.all (fun y => allC.all (kitB K y)) && decide ((tf.map fun p => (He.cT K p).2).Nodup)))
abbrev R : PySem.W.OpenRow := PySem.W.OpenLaw.row PySem.Challenge.rw_sureshares_k51_whole_periods_told_back
abbrev hk : PySem.W.Hook := He.hookX 4 fa fn [] tf ex
def ob (s : PySem.W.SharedT) : He.AlX := He.obsX 4 fa fn [] tf ex (HandSHeadRun.getT s)
theorem ob_eq (s : PySem.W.SharedT) : ob s = hk.obs s.abs := He.obsX_eq (HandSHeadRun.getT_eq s)
def lo0 : List PySem.Str := ["__name__", "ShareError", "InvalidPeriods", "InvalidLengths", "InvalidNumber", "InvalidShare", "InvalidPaper", "InvalidFacts", "InvalidPlan", "InvalidWork", "InvalidRows", "InvalidTick", "InvalidText", "Early", "Late", "Unlike", "NothingToUndo", "TooMany", "NOUGHT", "ratio", "plus", "product", "at_most", "sum_of", "MOST_INTEGER"]
def lo1 : List PySem.Str := ["is_int", "is_fraction", "are_some_lengths", "often", "need_at", "answer_of", "in_time", "need_number", "MOST_FACTS", "MOST_TOLD", "MOST_MANY", "are_facts", "all_periods", "periods_told", "_law_source", "_law_pick", "_law_chosen", "_law_by_three", "_law_refused", "_law_error", "_law_divisor", "_law_low", "_law_lengths", "_law_ticks", "_law_answers"]
def lo2 : List PySem.Str := ["_law_in_time", "_law_all_periods", "_law_right", "_law_refusals", "_law_written"]
def loose : List PySem.Str := lo0 ++ lo1 ++ lo2
theorem run (w : World) : HandSHeadRun.RunEq R (PySem.W.view R.prog [59]) hk ob 20000 loose w := by
  intro os
  kernel_rfl
end Hd

end -- HdK51
section -- LwK51
set_option maxHeartbeats 0
namespace Lw
open PySem PySem.Spec PyProof.Rows L2 Ev
def top (i : Nat) : Stmt := PySem.Challenge.pw_sureshares_k51_whole_periods_told_back.main.body.getD i (.Pass ⟨0, 0, 0, 0⟩)
def rows : List (Str × List Str) := [("ShareError", ["ShareError"]), ("InvalidPeriods", ["InvalidPeriods", "ShareError"]), ("InvalidLengths", ["InvalidLengths", "ShareError"]), ("InvalidNumber", ["InvalidNumber", "ShareError"]), ("InvalidShare", ["InvalidShare", "ShareError"]), ("InvalidPaper", ["InvalidPaper", "ShareError"]), ("InvalidFacts", ["InvalidFacts", "ShareError"]), ("InvalidPlan", ["InvalidPlan", "ShareError"]), ("InvalidWork", ["InvalidWork", "ShareError"]), ("InvalidRows", ["InvalidRows", "ShareError"]), ("InvalidTick", ["InvalidTick", "ShareError"]), ("InvalidText", ["InvalidText", "ShareError"]), ("Early", ["Early", "ShareError"]), ("Late", ["Late", "ShareError"]), ("Unlike", ["Unlike", "ShareError"]), ("NothingToUndo", ["NothingToUndo", "ShareError"])]
def tab : List (Str × List Str) := ("", ["ShareError"]) :: rows
def errL : List (Str × PV) := [("ShareError", .str ""), ("InvalidPeriods", .str "periods"), ("InvalidLengths", .str "lengths"), ("InvalidNumber", .str "number"), ("InvalidShare", .str "share"), ("InvalidPaper", .str "paper"), ("InvalidFacts", .str "facts"), ("InvalidPlan", .str "plan"), ("InvalidWork", .str "work"), ("InvalidRows", .str "rows"), ("InvalidTick", .str "tick"), ("InvalidText", .str "text"), ("Early", .str "early"), ("Late", .str "late"), ("Unlike", .str "unlike"), ("NothingToUndo", .str "undo")]
def errV (x : Str) : Option PV := errL.lookup x
def B0 : Amb := { tab := tab }
def c__law_source : CP := { N := ["script", "k", "number", "start"], nc := [125] }
def t__law_source : T := (compT c__law_source (defScope (top 43)) 60 (defBody (top 43))).getD .nil
theorem ok__law_source : (compT c__law_source (defScope (top 43)) 60 (defBody (top 43))).isSome = true := by kernel_rfl
def F__law_source : Fn := run B0 4 t__law_source
def c_is_int : CP := { N := ["value", "low", "high"] }
def t_is_int : T := (compT c_is_int (defScope (top 27)) 60 (defBody (top 27))).getD .nil
theorem ok_is_int : (compT c_is_int (defScope (top 27)) 60 (defBody (top 27))).isSome = true := by kernel_rfl
def F_is_int : Fn := run B0 3 t_is_int
def c_need_number : CP := { N := ["value", "low", "high"], Φ := [("is_int", 3, F_is_int)], excs := ["InvalidNumber"] }
def t_need_number : T := (compT c_need_number (defScope (top 34)) 60 (defBody (top 34))).getD .nil
theorem ok_need_number : (compT c_need_number (defScope (top 34)) 60 (defBody (top 34))).isSome = true := by kernel_rfl
def F_need_number : Fn := run B0 3 t_need_number
def c_ratio : CP := { N := ["top", "below", "sign", "one", "other"] }
def t_ratio : T := (compT c_ratio (defScope (top 20)) 60 (defBody (top 20))).getD .nil
theorem ok_ratio : (compT c_ratio (defScope (top 20)) 60 (defBody (top 20))).isSome = true := by kernel_rfl
def F_ratio : Fn := run B0 5 t_ratio
def c_is_fraction : CP := { N := ["value", "most"], Φ := [("ratio", 2, F_ratio), ("is_int", 3, F_is_int)] }
def t_is_fraction : T := (compT c_is_fraction (defScope (top 28)) 60 (defBody (top 28))).getD .nil
theorem ok_is_fraction : (compT c_is_fraction (defScope (top 28)) 60 (defBody (top 28))).isSome = true := by kernel_rfl
def F_is_fraction : Fn := run B0 2 t_is_fraction
def c_are_some_lengths : CP := { N := ["many", "value", "length"], Φ := [("is_fraction", 2, F_is_fraction)], cs := [("MOST_INTEGER", .int 1000000000000000000000000000000)] }
def t_are_some_lengths : T := (compT c_are_some_lengths (defScope (top 29)) 60 (defBody (top 29))).getD .nil
theorem ok_are_some_lengths : (compT c_are_some_lengths (defScope (top 29)) 60 (defBody (top 29))).isSome = true := by kernel_rfl
def F_are_some_lengths : Fn := run B0 3 t_are_some_lengths
def c_are_facts : CP := { N := ["many", "value", "fact"], Φ := [("are_some_lengths", 2, F_are_some_lengths)], cs := [("MOST_FACTS", .int 5)] }
def t_are_facts : T := (compT c_are_facts (defScope (top 39)) 60 (defBody (top 39))).getD .nil
theorem ok_are_facts : (compT c_are_facts (defScope (top 39)) 60 (defBody (top 39))).isSome = true := by kernel_rfl
def F_are_facts : Fn := run B0 3 t_are_facts
def c_all_periods : CP := { N := ["many", "most", "found", "turn", "row", "one"] }
def t_all_periods : T := (compT c_all_periods (defScope (top 40)) 60 (defBody (top 40))).getD .nil
theorem ok_all_periods : (compT c_all_periods (defScope (top 40)) 60 (defBody (top 40))).isSome = true := by kernel_rfl
def F_all_periods : Fn := run B0 6 t_all_periods
def c_plus : CP := { N := ["one", "other"], Φ := [("ratio", 2, F_ratio)] }
def t_plus : T := (compT c_plus (defScope (top 21)) 60 (defBody (top 21))).getD .nil
theorem ok_plus : (compT c_plus (defScope (top 21)) 60 (defBody (top 21))).isSome = true := by kernel_rfl
def F_plus : Fn := run B0 2 t_plus
def c_sum_of : CP := { N := ["some", "total", "one"], Φ := [("plus", 2, F_plus)], cs := [("NOUGHT", .tup [.int 0, .int 1])] }
def t_sum_of : T := (compT c_sum_of (defScope (top 24)) 60 (defBody (top 24))).getD .nil
theorem ok_sum_of : (compT c_sum_of (defScope (top 24)) 60 (defBody (top 24))).isSome = true := by kernel_rfl
def F_sum_of : Fn := run B0 3 t_sum_of
def c_at_most : CP := { N := ["one", "other"] }
def t_at_most : T := (compT c_at_most (defScope (top 23)) 60 (defBody (top 23))).getD .nil
theorem ok_at_most : (compT c_at_most (defScope (top 23)) 60 (defBody (top 23))).isSome = true := by kernel_rfl
def F_at_most : Fn := run B0 2 t_at_most
def c_product : CP := { N := ["one", "other"], Φ := [("ratio", 2, F_ratio)] }
def t_product : T := (compT c_product (defScope (top 22)) 60 (defBody (top 22))).getD .nil
theorem ok_product : (compT c_product (defScope (top 22)) 60 (defBody (top 22))).isSome = true := by kernel_rfl
def F_product : Fn := run B0 2 t_product
def c_often : CP := { N := ["period", "moment"] }
def t_often : T := (compT c_often (defScope (top 30)) 60 (defBody (top 30))).getD .nil
theorem ok_often : (compT c_often (defScope (top 30)) 60 (defBody (top 30))).isSome = true := by kernel_rfl
def F_often : Fn := run B0 2 t_often
def c_need_at : CP := { N := ["periods", "lengths", "number", "moment", "total", "period", "length"], Φ := [("plus", 2, F_plus), ("product", 2, F_product), ("often", 2, F_often)], cs := [("NOUGHT", .tup [.int 0, .int 1])] }
def t_need_at : T := (compT c_need_at (defScope (top 31)) 60 (defBody (top 31))).getD .nil
theorem ok_need_at : (compT c_need_at (defScope (top 31)) 60 (defBody (top 31))).isSome = true := by kernel_rfl
def F_need_at : Fn := run B0 7 t_need_at
def c_answer_of : CP := { N := ["periods", "lengths", "number", "moment", "need"], Φ := [("sum_of", 1, F_sum_of), ("at_most", 2, F_at_most), ("need_at", 4, F_need_at)], cs := [("NOUGHT", .tup [.int 0, .int 1])] }
def t_answer_of : T := (compT c_answer_of (defScope (top 32)) 60 (defBody (top 32))).getD .nil
theorem ok_answer_of : (compT c_answer_of (defScope (top 32)) 60 (defBody (top 32))).isSome = true := by kernel_rfl
def F_answer_of : Fn := run B0 5 t_answer_of
def c_in_time : CP := { N := ["periods", "lengths", "number"], Φ := [("answer_of", 3, F_answer_of)] }
def t_in_time : T := (compT c_in_time (defScope (top 33)) 60 (defBody (top 33))).getD .nil
theorem ok_in_time : (compT c_in_time (defScope (top 33)) 60 (defBody (top 33))).isSome = true := by kernel_rfl
def F_in_time : Fn := run B0 3 t_in_time
def c_periods_told : CP := { N := ["many", "most", "facts", "row", "lengths", "good"], Φ := [("need_number", 3, F_need_number), ("are_facts", 2, F_are_facts), ("all_periods", 2, F_all_periods), ("in_time", 2, F_in_time)], cs := [("MOST_MANY", .int 4), ("MOST_TOLD", .int 8)], excs := ["InvalidFacts"] }
def t_periods_told : T := (compT c_periods_told (defScope (top 41)) 60 (defBody (top 41))).getD .nil
theorem ok_periods_told : (compT c_periods_told (defScope (top 41)) 60 (defBody (top 41))).isSome = true := by kernel_rfl
def F_periods_told : Fn := run B0 6 t_periods_told
def c__law_written : CP := { N := ["none", "even", "late", "one"], Φ := [("periods_told", 3, F_periods_told)], vs := ["periods_told"] }
def t__law_written : T := (compT c__law_written (defScope (top 58)) 60 (defBody (top 58))).getD .nil
theorem ok__law_written : (compT c__law_written (defScope (top 58)) 60 (defBody (top 58))).isSome = true := by kernel_rfl
def F__law_written : Fn := run B0 4 t__law_written
def B__law_by_three : Amb := { tab := tab, dyn := [("periods_told", 3, F_periods_told)] }
def c__law_by_three : CP := { N := ["call", "one", "other", "third"], lam := [("_law_refused", refH tab "ShareError" "" errV)] }
def t__law_by_three : T := (compT c__law_by_three (defScope (top 46)) 60 (defBody (top 46))).getD .nil
theorem ok__law_by_three : (compT c__law_by_three (defScope (top 46)) 60 (defBody (top 46))).isSome = true := by kernel_rfl
def F__law_by_three : Fn := run B__law_by_three 4 t__law_by_three
def c__law_refusals : CP := { N := ["odd", "fact", "odds"], Φ := [("_law_by_three", 4, F__law_by_three), ("periods_told", 3, F_periods_told)], vs := ["periods_told"] }
def t__law_refusals : T := (compT c__law_refusals (defScope (top 57)) 60 (defBody (top 57))).getD .nil
theorem ok__law_refusals : (compT c__law_refusals (defScope (top 57)) 60 (defBody (top 57))).isSome = true := by kernel_rfl
def F__law_refusals : Fn := run B0 3 t__law_refusals
def c__law_all_periods : CP := { N := ["many", "most_so", "found", "turn", "longer", "head", "one"] }
def t__law_all_periods : T := (compT c__law_all_periods (defScope (top 55)) 60 (defBody (top 55))).getD .nil
theorem ok__law_all_periods : (compT c__law_all_periods (defScope (top 55)) 60 (defBody (top 55))).isSome = true := by kernel_rfl
def F__law_all_periods : Fn := run B0 7 t__law_all_periods
def c__law_pick : CP := { N := ["source", "many", "found"] }
def t__law_pick : T := (compT c__law_pick (defScope (top 44)) 60 (defBody (top 44))).getD .nil
theorem ok__law_pick : (compT c__law_pick (defScope (top 44)) 60 (defBody (top 44))).isSome = true := by kernel_rfl
def F__law_pick : Fn := run B0 3 t__law_pick
def c__law_chosen : CP := { N := ["source", "things"], Φ := [("_law_pick", 2, F__law_pick)] }
def t__law_chosen : T := (compT c__law_chosen (defScope (top 45)) 60 (defBody (top 45))).getD .nil
theorem ok__law_chosen : (compT c__law_chosen (defScope (top 45)) 60 (defBody (top 45))).isSome = true := by kernel_rfl
def F__law_chosen : Fn := run B0 2 t__law_chosen
def c__law_divisor : CP := { N := ["one", "other"] }
def t__law_divisor : T := (compT c__law_divisor (defScope (top 49)) 60 (defBody (top 49))).getD .nil
theorem ok__law_divisor : (compT c__law_divisor (defScope (top 49)) 60 (defBody (top 49))).isSome = true := by kernel_rfl
def F__law_divisor : Fn := run B0 2 t__law_divisor
def c__law_low : CP := { N := ["top", "below", "part"], Φ := [("_law_divisor", 2, F__law_divisor)] }
def t__law_low : T := (compT c__law_low (defScope (top 50)) 60 (defBody (top 50))).getD .nil
theorem ok__law_low : (compT c__law_low (defScope (top 50)) 60 (defBody (top 50))).isSome = true := by kernel_rfl
def F__law_low : Fn := run B0 3 t__law_low
def c__law_lengths : CP := { N := ["source", "periods", "found", "period", "below"], own := [2], Φ := [("_law_pick", 2, F__law_pick), ("_law_low", 2, F__law_low)] }
def t__law_lengths : T := (compT c__law_lengths (defScope (top 51)) 60 (defBody (top 51))).getD .nil
theorem ok__law_lengths : (compT c__law_lengths (defScope (top 51)) 60 (defBody (top 51))).isSome = true := by kernel_rfl
def F__law_lengths : Fn := run B0 5 t__law_lengths
def c__law_ticks : CP := { N := ["lengths_so", "found", "one"], Φ := [("_law_divisor", 2, F__law_divisor)] }
def t__law_ticks : T := (compT c__law_ticks (defScope (top 52)) 60 (defBody (top 52))).getD .nil
theorem ok__law_ticks : (compT c__law_ticks (defScope (top 52)) 60 (defBody (top 52))).isSome = true := by kernel_rfl
def F__law_ticks : Fn := run B0 3 t__law_ticks
def c__law_answers : CP := { N := ["periods", "lengths_so", "ticks", "works", "found", "rests", "tick", "at", "busy", "one", "work", "later"], own := [5, 4], Φ := [("_law_ticks", 1, F__law_ticks), ("_law_low", 2, F__law_low)] }
def t__law_answers : T := (compT c__law_answers (defScope (top 53)) 60 (defBody (top 53))).getD .nil
theorem ok__law_answers : (compT c__law_answers (defScope (top 53)) 60 (defBody (top 53))).isSome = true := by kernel_rfl
def F__law_answers : Fn := run B0 12 t__law_answers
def c__law_in_time : CP := { N := ["periods", "lengths_so"], Φ := [("_law_answers", 2, F__law_answers)] }
def t__law_in_time : T := (compT c__law_in_time (defScope (top 54)) 60 (defBody (top 54))).getD .nil
theorem ok__law_in_time : (compT c__law_in_time (defScope (top 54)) 60 (defBody (top 54))).isSome = true := by kernel_rfl
def F__law_in_time : Fn := run B0 2 t__law_in_time
def c__law_right : CP := { N := ["source", "many", "most_so", "some", "turn", "due", "row_so", "every", "facts_so", "lengths_so", "good"], own := [5], Φ := [("_law_all_periods", 2, F__law_all_periods), ("_law_chosen", 2, F__law_chosen), ("_law_pick", 2, F__law_pick), ("_law_lengths", 2, F__law_lengths), ("_law_in_time", 2, F__law_in_time), ("periods_told", 3, F_periods_told)], vs := ["periods_told"] }
def t__law_right : T := (compT c__law_right (defScope (top 56)) 60 (defBody (top 56))).getD .nil
theorem ok__law_right : (compT c__law_right (defScope (top 56)) 60 (defBody (top 56))).isSome = true := by kernel_rfl
def F__law_right : Fn := run B0 11 t__law_right
def c_law : CP := { N := ["script", "k", "source", "turn"], Φ := [("_law_source", 2, F__law_source), ("_law_written", 0, F__law_written), ("_law_refusals", 0, F__law_refusals), ("_law_right", 3, F__law_right), ("_law_pick", 2, F__law_pick)] }
def t_law : T := (compT c_law (defScope (top 59)) 60 (defBody (top 59))).getD .nil
theorem ok_law : (compT c_law (defScope (top 59)) 60 (defBody (top 59))).isSome = true := by kernel_rfl
def F_law : Fn := run B0 4 t_law
end Lw

end -- LwK51
section -- ChK51
set_option maxHeartbeats 0
namespace Ch
open PySem PySem.Spec PyProof.Rows L2 Ev Lw LamX
def qualIn (x : Str) : Str := (envOfC x (defScope (top 0)) 0 0 .none).qual
def tbK (K : PySem.W.Frag) : List (Addr × Str) := Hd.tf.map fun p => ((He.cT K p).2, qualIn p.1 ++ "<lambda>")
structure In (w : World) (K : PySem.W.Frag) (mg : Str → Option Value) (base h : Heap) : Prop where
  c : He.SaysX Hd.fa Hd.fn [] Hd.tf Hd.ex w h K
  X : K.In h
  G : h.Ns mainGlobals mg
  T : ∀ p ∈ Hd.tf.map (He.cT K), TabB base mg p.1 p.2
section
variable {Pr : Program} {w : World} {K : PySem.W.Frag} {mg : Str → Option Value} {base h : Heap}
theorem sub_of {s : Str} {caught : List Str} {rows : List (Str × List Str)} (H : ∀ q ∈ rows, ∀ x ∈ caught, ∃ Cy Cx, mg q.1 = some (.ref Cy) ∧ mg x = some (.ref Cx) ∧ PySem.W.exmOne K (.ref Cy) (.ref Cx) = some (q.2.contains x)) :
    ∀ y x b, Ev.under ((s, caught) :: rows) y x = some b → ∃ Cy Cx, mg y = some (.ref Cy) ∧ mg x = some (.ref Cx) ∧ PySem.W.exmOne K (.ref Cy) (.ref Cx) = some b := fun y x b hb => by
  unfold Ev.under at hb
  simp only at hb
  split at hb
  · rename_i hc
    obtain ⟨ys, hl, rfl⟩ := Option.map_eq_some_iff.mp hb
    exact H (y, ys) (PySem.mem_of_lookup hl) x (by simpa using hc)
  · cases hb
theorem md (I : In w K mg base h) : Md Pr w K mg base (tbK K) tab ["ShareError", "InvalidPeriods", "InvalidLengths", "InvalidNumber", "InvalidShare", "InvalidPaper", "InvalidFacts", "InvalidPlan", "InvalidWork", "InvalidRows", "InvalidTick", "InvalidText", "Early", "Late", "Unlike", "NothingToUndo"] ["periods_told"] := ⟨(all1 (He.free_ok I.X I.G (I.c.t.d.fact 52 (f := .free "abs") rfl)) (all1 (He.free_ok I.X I.G (I.c.t.d.fact 51 (f := .free "all") rfl)) (all1 (He.free_ok I.X I.G (I.c.t.d.fact 66 (f := .free "bool") rfl)) (all1 (He.free_ok I.X I.G (I.c.t.d.fact 54 (f := .free "int") rfl)) (all1 (He.free_ok I.X I.G (I.c.t.d.fact 50 (f := .free "len") rfl)) (all1 (He.free_ok I.X I.G (I.c.t.d.fact 56 (f := .free "list") rfl)) (all1 (He.free_ok I.X I.G (I.c.t.d.fact 61 (f := .free "max") rfl)) (all1 (He.free_ok I.X I.G (I.c.t.d.fact 62 (f := .free "min") rfl)) (all1 (He.free_ok I.X I.G (I.c.t.d.fact 65 (f := .free "str") rfl)) (all1 (He.free_ok I.X I.G (I.c.t.d.fact 64 (f := .free "sum") rfl)) (all1 (He.free_ok I.X I.G (I.c.t.d.fact 55 (f := .free "tuple") rfl)) (all1 (He.free_ok I.X I.G (I.c.t.d.fact 53 (f := .free "isinstance") rfl)) (all1 (He.free_ok I.X I.G (I.c.t.d.fact 57 (f := .free "range") rfl)) (all1 (He.free_ok I.X I.G (I.c.t.d.fact 58 (f := .free "zip") rfl)) (all1 (He.free_ok I.X I.G (I.c.t.d.fact 63 (f := .free "enumerate") rfl)) (all1 (He.free_ok I.X I.G (I.c.t.d.fact 59 (f := .free "sorted") rfl)) (all1 (He.free_ok I.X I.G (I.c.t.d.fact 60 (f := .free "set") rfl)) all0))))))))))))))))),
  (all1 ⟨_, (He.glo_ok I.X I.G (I.c.t.d.fact 33 (f := .glo "ShareError") rfl)), (He.exc_ok (I.c.t.d.fact 68 (f := .exc "ShareError") rfl)).1, (He.exc_ok (I.c.t.d.fact 68 (f := .exc "ShareError") rfl)).2.1, (He.exc_ok (I.c.t.d.fact 68 (f := .exc "ShareError") rfl)).2.2.1, (He.exc_ok (I.c.t.d.fact 68 (f := .exc "ShareError") rfl)).2.2.2⟩ (all1 ⟨_, (He.glo_ok I.X I.G (I.c.t.d.fact 34 (f := .glo "InvalidPeriods") rfl)), (He.exc_ok (I.c.t.d.fact 69 (f := .exc "InvalidPeriods") rfl)).1, (He.exc_ok (I.c.t.d.fact 69 (f := .exc "InvalidPeriods") rfl)).2.1, (He.exc_ok (I.c.t.d.fact 69 (f := .exc "InvalidPeriods") rfl)).2.2.1, (He.exc_ok (I.c.t.d.fact 69 (f := .exc "InvalidPeriods") rfl)).2.2.2⟩ (all1 ⟨_, (He.glo_ok I.X I.G (I.c.t.d.fact 35 (f := .glo "InvalidLengths") rfl)), (He.exc_ok (I.c.t.d.fact 70 (f := .exc "InvalidLengths") rfl)).1, (He.exc_ok (I.c.t.d.fact 70 (f := .exc "InvalidLengths") rfl)).2.1, (He.exc_ok (I.c.t.d.fact 70 (f := .exc "InvalidLengths") rfl)).2.2.1, (He.exc_ok (I.c.t.d.fact 70 (f := .exc "InvalidLengths") rfl)).2.2.2⟩ (all1 ⟨_, (He.glo_ok I.X I.G (I.c.t.d.fact 36 (f := .glo "InvalidNumber") rfl)), (He.exc_ok (I.c.t.d.fact 71 (f := .exc "InvalidNumber") rfl)).1, (He.exc_ok (I.c.t.d.fact 71 (f := .exc "InvalidNumber") rfl)).2.1, (He.exc_ok (I.c.t.d.fact 71 (f := .exc "InvalidNumber") rfl)).2.2.1, (He.exc_ok (I.c.t.d.fact 71 (f := .exc "InvalidNumber") rfl)).2.2.2⟩ (all1 ⟨_, (He.glo_ok I.X I.G (I.c.t.d.fact 37 (f := .glo "InvalidShare") rfl)), (He.exc_ok (I.c.t.d.fact 72 (f := .exc "InvalidShare") rfl)).1, (He.exc_ok (I.c.t.d.fact 72 (f := .exc "InvalidShare") rfl)).2.1, (He.exc_ok (I.c.t.d.fact 72 (f := .exc "InvalidShare") rfl)).2.2.1, (He.exc_ok (I.c.t.d.fact 72 (f := .exc "InvalidShare") rfl)).2.2.2⟩ (all1 ⟨_, (He.glo_ok I.X I.G (I.c.t.d.fact 38 (f := .glo "InvalidPaper") rfl)), (He.exc_ok (I.c.t.d.fact 73 (f := .exc "InvalidPaper") rfl)).1, (He.exc_ok (I.c.t.d.fact 73 (f := .exc "InvalidPaper") rfl)).2.1, (He.exc_ok (I.c.t.d.fact 73 (f := .exc "InvalidPaper") rfl)).2.2.1, (He.exc_ok (I.c.t.d.fact 73 (f := .exc "InvalidPaper") rfl)).2.2.2⟩ (all1 ⟨_, (He.glo_ok I.X I.G (I.c.t.d.fact 39 (f := .glo "InvalidFacts") rfl)), (He.exc_ok (I.c.t.d.fact 74 (f := .exc "InvalidFacts") rfl)).1, (He.exc_ok (I.c.t.d.fact 74 (f := .exc "InvalidFacts") rfl)).2.1, (He.exc_ok (I.c.t.d.fact 74 (f := .exc "InvalidFacts") rfl)).2.2.1, (He.exc_ok (I.c.t.d.fact 74 (f := .exc "InvalidFacts") rfl)).2.2.2⟩ (all1 ⟨_, (He.glo_ok I.X I.G (I.c.t.d.fact 40 (f := .glo "InvalidPlan") rfl)), (He.exc_ok (I.c.t.d.fact 75 (f := .exc "InvalidPlan") rfl)).1, (He.exc_ok (I.c.t.d.fact 75 (f := .exc "InvalidPlan") rfl)).2.1, (He.exc_ok (I.c.t.d.fact 75 (f := .exc "InvalidPlan") rfl)).2.2.1, (He.exc_ok (I.c.t.d.fact 75 (f := .exc "InvalidPlan") rfl)).2.2.2⟩ (all1 ⟨_, (He.glo_ok I.X I.G (I.c.t.d.fact 41 (f := .glo "InvalidWork") rfl)), (He.exc_ok (I.c.t.d.fact 76 (f := .exc "InvalidWork") rfl)).1, (He.exc_ok (I.c.t.d.fact 76 (f := .exc "InvalidWork") rfl)).2.1, (He.exc_ok (I.c.t.d.fact 76 (f := .exc "InvalidWork") rfl)).2.2.1, (He.exc_ok (I.c.t.d.fact 76 (f := .exc "InvalidWork") rfl)).2.2.2⟩ (all1 ⟨_, (He.glo_ok I.X I.G (I.c.t.d.fact 42 (f := .glo "InvalidRows") rfl)), (He.exc_ok (I.c.t.d.fact 77 (f := .exc "InvalidRows") rfl)).1, (He.exc_ok (I.c.t.d.fact 77 (f := .exc "InvalidRows") rfl)).2.1, (He.exc_ok (I.c.t.d.fact 77 (f := .exc "InvalidRows") rfl)).2.2.1, (He.exc_ok (I.c.t.d.fact 77 (f := .exc "InvalidRows") rfl)).2.2.2⟩ (all1 ⟨_, (He.glo_ok I.X I.G (I.c.t.d.fact 43 (f := .glo "InvalidTick") rfl)), (He.exc_ok (I.c.t.d.fact 78 (f := .exc "InvalidTick") rfl)).1, (He.exc_ok (I.c.t.d.fact 78 (f := .exc "InvalidTick") rfl)).2.1, (He.exc_ok (I.c.t.d.fact 78 (f := .exc "InvalidTick") rfl)).2.2.1, (He.exc_ok (I.c.t.d.fact 78 (f := .exc "InvalidTick") rfl)).2.2.2⟩ (all1 ⟨_, (He.glo_ok I.X I.G (I.c.t.d.fact 44 (f := .glo "InvalidText") rfl)), (He.exc_ok (I.c.t.d.fact 79 (f := .exc "InvalidText") rfl)).1, (He.exc_ok (I.c.t.d.fact 79 (f := .exc "InvalidText") rfl)).2.1, (He.exc_ok (I.c.t.d.fact 79 (f := .exc "InvalidText") rfl)).2.2.1, (He.exc_ok (I.c.t.d.fact 79 (f := .exc "InvalidText") rfl)).2.2.2⟩ (all1 ⟨_, (He.glo_ok I.X I.G (I.c.t.d.fact 45 (f := .glo "Early") rfl)), (He.exc_ok (I.c.t.d.fact 80 (f := .exc "Early") rfl)).1, (He.exc_ok (I.c.t.d.fact 80 (f := .exc "Early") rfl)).2.1, (He.exc_ok (I.c.t.d.fact 80 (f := .exc "Early") rfl)).2.2.1, (He.exc_ok (I.c.t.d.fact 80 (f := .exc "Early") rfl)).2.2.2⟩ (all1 ⟨_, (He.glo_ok I.X I.G (I.c.t.d.fact 46 (f := .glo "Late") rfl)), (He.exc_ok (I.c.t.d.fact 81 (f := .exc "Late") rfl)).1, (He.exc_ok (I.c.t.d.fact 81 (f := .exc "Late") rfl)).2.1, (He.exc_ok (I.c.t.d.fact 81 (f := .exc "Late") rfl)).2.2.1, (He.exc_ok (I.c.t.d.fact 81 (f := .exc "Late") rfl)).2.2.2⟩ (all1 ⟨_, (He.glo_ok I.X I.G (I.c.t.d.fact 47 (f := .glo "Unlike") rfl)), (He.exc_ok (I.c.t.d.fact 82 (f := .exc "Unlike") rfl)).1, (He.exc_ok (I.c.t.d.fact 82 (f := .exc "Unlike") rfl)).2.1, (He.exc_ok (I.c.t.d.fact 82 (f := .exc "Unlike") rfl)).2.2.1, (He.exc_ok (I.c.t.d.fact 82 (f := .exc "Unlike") rfl)).2.2.2⟩ (all1 ⟨_, (He.glo_ok I.X I.G (I.c.t.d.fact 48 (f := .glo "NothingToUndo") rfl)), (He.exc_ok (I.c.t.d.fact 83 (f := .exc "NothingToUndo") rfl)).1, (He.exc_ok (I.c.t.d.fact 83 (f := .exc "NothingToUndo") rfl)).2.1, (He.exc_ok (I.c.t.d.fact 83 (f := .exc "NothingToUndo") rfl)).2.2.1, (He.exc_ok (I.c.t.d.fact 83 (f := .exc "NothingToUndo") rfl)).2.2.2⟩ all0)))))))))))))))),
  sub_of (all1 (all1 ⟨_, _, (He.glo_ok I.X I.G (I.c.t.d.fact 33 (f := .glo "ShareError") rfl)), (He.glo_ok I.X I.G (I.c.t.d.fact 33 (f := .glo "ShareError") rfl)), (He.exm_ok (I.c.t.d.fact 84 (f := .exm "ShareError" "ShareError" true) rfl))⟩ all0) (all1 (all1 ⟨_, _, (He.glo_ok I.X I.G (I.c.t.d.fact 34 (f := .glo "InvalidPeriods") rfl)), (He.glo_ok I.X I.G (I.c.t.d.fact 33 (f := .glo "ShareError") rfl)), (He.exm_ok (I.c.t.d.fact 85 (f := .exm "InvalidPeriods" "ShareError" true) rfl))⟩ all0) (all1 (all1 ⟨_, _, (He.glo_ok I.X I.G (I.c.t.d.fact 35 (f := .glo "InvalidLengths") rfl)), (He.glo_ok I.X I.G (I.c.t.d.fact 33 (f := .glo "ShareError") rfl)), (He.exm_ok (I.c.t.d.fact 86 (f := .exm "InvalidLengths" "ShareError" true) rfl))⟩ all0) (all1 (all1 ⟨_, _, (He.glo_ok I.X I.G (I.c.t.d.fact 36 (f := .glo "InvalidNumber") rfl)), (He.glo_ok I.X I.G (I.c.t.d.fact 33 (f := .glo "ShareError") rfl)), (He.exm_ok (I.c.t.d.fact 87 (f := .exm "InvalidNumber" "ShareError" true) rfl))⟩ all0) (all1 (all1 ⟨_, _, (He.glo_ok I.X I.G (I.c.t.d.fact 37 (f := .glo "InvalidShare") rfl)), (He.glo_ok I.X I.G (I.c.t.d.fact 33 (f := .glo "ShareError") rfl)), (He.exm_ok (I.c.t.d.fact 88 (f := .exm "InvalidShare" "ShareError" true) rfl))⟩ all0) (all1 (all1 ⟨_, _, (He.glo_ok I.X I.G (I.c.t.d.fact 38 (f := .glo "InvalidPaper") rfl)), (He.glo_ok I.X I.G (I.c.t.d.fact 33 (f := .glo "ShareError") rfl)), (He.exm_ok (I.c.t.d.fact 89 (f := .exm "InvalidPaper" "ShareError" true) rfl))⟩ all0) (all1 (all1 ⟨_, _, (He.glo_ok I.X I.G (I.c.t.d.fact 39 (f := .glo "InvalidFacts") rfl)), (He.glo_ok I.X I.G (I.c.t.d.fact 33 (f := .glo "ShareError") rfl)), (He.exm_ok (I.c.t.d.fact 90 (f := .exm "InvalidFacts" "ShareError" true) rfl))⟩ all0) (all1 (all1 ⟨_, _, (He.glo_ok I.X I.G (I.c.t.d.fact 40 (f := .glo "InvalidPlan") rfl)), (He.glo_ok I.X I.G (I.c.t.d.fact 33 (f := .glo "ShareError") rfl)), (He.exm_ok (I.c.t.d.fact 91 (f := .exm "InvalidPlan" "ShareError" true) rfl))⟩ all0) (all1 (all1 ⟨_, _, (He.glo_ok I.X I.G (I.c.t.d.fact 41 (f := .glo "InvalidWork") rfl)), (He.glo_ok I.X I.G (I.c.t.d.fact 33 (f := .glo "ShareError") rfl)), (He.exm_ok (I.c.t.d.fact 92 (f := .exm "InvalidWork" "ShareError" true) rfl))⟩ all0) (all1 (all1 ⟨_, _, (He.glo_ok I.X I.G (I.c.t.d.fact 42 (f := .glo "InvalidRows") rfl)), (He.glo_ok I.X I.G (I.c.t.d.fact 33 (f := .glo "ShareError") rfl)), (He.exm_ok (I.c.t.d.fact 93 (f := .exm "InvalidRows" "ShareError" true) rfl))⟩ all0) (all1 (all1 ⟨_, _, (He.glo_ok I.X I.G (I.c.t.d.fact 43 (f := .glo "InvalidTick") rfl)), (He.glo_ok I.X I.G (I.c.t.d.fact 33 (f := .glo "ShareError") rfl)), (He.exm_ok (I.c.t.d.fact 94 (f := .exm "InvalidTick" "ShareError" true) rfl))⟩ all0) (all1 (all1 ⟨_, _, (He.glo_ok I.X I.G (I.c.t.d.fact 44 (f := .glo "InvalidText") rfl)), (He.glo_ok I.X I.G (I.c.t.d.fact 33 (f := .glo "ShareError") rfl)), (He.exm_ok (I.c.t.d.fact 95 (f := .exm "InvalidText" "ShareError" true) rfl))⟩ all0) (all1 (all1 ⟨_, _, (He.glo_ok I.X I.G (I.c.t.d.fact 45 (f := .glo "Early") rfl)), (He.glo_ok I.X I.G (I.c.t.d.fact 33 (f := .glo "ShareError") rfl)), (He.exm_ok (I.c.t.d.fact 96 (f := .exm "Early" "ShareError" true) rfl))⟩ all0) (all1 (all1 ⟨_, _, (He.glo_ok I.X I.G (I.c.t.d.fact 46 (f := .glo "Late") rfl)), (He.glo_ok I.X I.G (I.c.t.d.fact 33 (f := .glo "ShareError") rfl)), (He.exm_ok (I.c.t.d.fact 97 (f := .exm "Late" "ShareError" true) rfl))⟩ all0) (all1 (all1 ⟨_, _, (He.glo_ok I.X I.G (I.c.t.d.fact 47 (f := .glo "Unlike") rfl)), (He.glo_ok I.X I.G (I.c.t.d.fact 33 (f := .glo "ShareError") rfl)), (He.exm_ok (I.c.t.d.fact 98 (f := .exm "Unlike" "ShareError" true) rfl))⟩ all0) (all1 (all1 ⟨_, _, (He.glo_ok I.X I.G (I.c.t.d.fact 48 (f := .glo "NothingToUndo") rfl)), (He.glo_ok I.X I.G (I.c.t.d.fact 33 (f := .glo "ShareError") rfl)), (He.exm_ok (I.c.t.d.fact 99 (f := .exm "NothingToUndo" "ShareError" true) rfl))⟩ all0) all0)))))))))))))))),
  (all1 ⟨_, (He.glo_ok I.X I.G (I.c.t.d.fact 15 (f := .glo "periods_told") rfl))⟩ all0)⟩
def kitT (x y : Str) : Option Bool := if Hd.allC.contains y = true then (rows.lookup x).map fun l => l.contains y else none
def kbT (x y : Str) : Bool := (kitT x y).getD false
def errT : List (Str × Str) := [("periods", "InvalidPeriods"), ("lengths", "InvalidLengths")]
def errTs : List (List (Str × Str)) := [[("number", "InvalidNumber"), ("share", "InvalidShare")], [("paper", "InvalidPaper"), ("facts", "InvalidFacts")], [("plan", "InvalidPlan"), ("work", "InvalidWork")], [("rows", "InvalidRows"), ("tick", "InvalidTick")], [("text", "InvalidText"), ("early", "Early")], [("late", "Late"), ("unlike", "Unlike")], [("undo", "NothingToUndo"), ("many", "TooMany")]]
theorem excC (I : In w K mg base h) {x : Str} (hx : x ∈ Hd.classes) : ExcC K (He.ga K x) := by
  have c1 := (He.ba (He.ba I.c.more).2).1
  have c2 := List.all_eq_true.mp c1 x hx
  unfold Hd.excB at c2
  simp only [Bool.and_eq_true, decide_eq_true_eq] at c2
  obtain ⟨⟨⟨⟨⟨⟨⟨d1, d2⟩, d3⟩, d4⟩, d5⟩, d6⟩, d7⟩, d8⟩ := c2
  exact ⟨d1, d2, d3, d4, d5, d6, d7, d8⟩
theorem kitC (I : In w K mg base h) {q : Str × List Str} (hq : q ∈ Hd.under2) {y : Str} (hy : y ∈ Hd.allC) : PySem.W.kitOne K (.ref (He.ga K q.1)) (.ref (He.ga K y)) = some (q.2.contains y) := by
  have c1 := (He.ba (He.ba (He.ba I.c.more).2).2).1
  have c2 := List.all_eq_true.mp (List.all_eq_true.mp c1 q hq) y hy
  exact of_decide_eq_true c2
theorem tabsND (I : In w K mg base h) : (Hd.tf.map fun p => (He.cT K p).2).Nodup := of_decide_eq_true (He.ba (He.ba (He.ba I.c.more).2).2).2
theorem gloC (I : In w K mg base h) : ∀ y ∈ Hd.allC, mg y = some (.ref (He.ga K y)) := (all1 (He.glo_ok I.X I.G (I.c.t.d.fact 33 (f := .glo "ShareError") rfl)) (all1 (He.glo_ok I.X I.G (I.c.t.d.fact 34 (f := .glo "InvalidPeriods") rfl)) (all1 (He.glo_ok I.X I.G (I.c.t.d.fact 35 (f := .glo "InvalidLengths") rfl)) (all1 (He.glo_ok I.X I.G (I.c.t.d.fact 36 (f := .glo "InvalidNumber") rfl)) (all1 (He.glo_ok I.X I.G (I.c.t.d.fact 37 (f := .glo "InvalidShare") rfl)) (all1 (He.glo_ok I.X I.G (I.c.t.d.fact 38 (f := .glo "InvalidPaper") rfl)) (all1 (He.glo_ok I.X I.G (I.c.t.d.fact 39 (f := .glo "InvalidFacts") rfl)) (all1 (He.glo_ok I.X I.G (I.c.t.d.fact 40 (f := .glo "InvalidPlan") rfl)) (all1 (He.glo_ok I.X I.G (I.c.t.d.fact 41 (f := .glo "InvalidWork") rfl)) (all1 (He.glo_ok I.X I.G (I.c.t.d.fact 42 (f := .glo "InvalidRows") rfl)) (all1 (He.glo_ok I.X I.G (I.c.t.d.fact 43 (f := .glo "InvalidTick") rfl)) (all1 (He.glo_ok I.X I.G (I.c.t.d.fact 44 (f := .glo "InvalidText") rfl)) (all1 (He.glo_ok I.X I.G (I.c.t.d.fact 45 (f := .glo "Early") rfl)) (all1 (He.glo_ok I.X I.G (I.c.t.d.fact 46 (f := .glo "Late") rfl)) (all1 (He.glo_ok I.X I.G (I.c.t.d.fact 47 (f := .glo "Unlike") rfl)) (all1 (He.glo_ok I.X I.G (I.c.t.d.fact 48 (f := .glo "NothingToUndo") rfl)) (all1 (He.glo_ok I.X I.G (I.c.t.d.fact 49 (f := .glo "TooMany") rfl)) all0)))))))))))))))))
theorem nodup_inj {α β : Type} {f : α → β} : ∀ {l : List α}, (l.map f).Nodup → ∀ {a b : α}, a ∈ l → b ∈ l → f a = f b → a = b
  | [], _, _, _, h, _, _ => by cases h
  | x :: l, nd, a, b, ha, hb, e => by
    rw [List.map_cons, List.nodup_cons] at nd
    rcases List.mem_cons.mp ha with ha' | ha'
    · rcases List.mem_cons.mp hb with hb' | hb'
      · rw [ha', hb']
      · exact absurd (List.mem_map.mpr ⟨b, hb', by rw [← e, ha']⟩) nd.1
    · rcases List.mem_cons.mp hb with hb' | hb'
      · exact absurd (List.mem_map.mpr ⟨a, ha', by rw [e, hb']⟩) nd.1
      · exact nodup_inj nd.2 ha' hb' e
theorem tabF_of (I : In w K mg base h) {p : He.Defn} {x : Str} {scope : Scope} {f : Addr} (hp : p ∈ Hd.tf) (hx : p = (x, none)) (hf : f = He.fAd K p) : TabF K mg base (tbK K) x scope f := by
  subst hf hx
  refine ⟨fun c oc od fd' osl lk hc => ?_⟩
  have ec : He.codeOf K (x, none) = c := He.codeOf_eq lk hc
  have t1 := I.T (He.cT K (x, none)) (List.mem_map.mpr ⟨_, hp, rfl⟩)
  have e1 : (He.cT K (x, none)).1 = c := ec
  rw [e1] at t1
  refine ⟨(He.cT K (x, none)).2, t1, List.mem_map.mpr ⟨_, hp, rfl⟩, fun q hq e => ?_⟩
  obtain ⟨p', hp', rfl⟩ := List.mem_map.mp hq
  have := nodup_inj (tabsND I) hp' hp e
  rw [this]
  rfl
theorem errd (I : In w K mg base h) : ErrDef Pr w K mg "_law_error" errV := by
  obtain ⟨fd, F⟩ := I.c.t.d.def_ 21 (d := Hd.d48) rfl
  refine ⟨⟨_, fd, _, _, _, "e", "some", "word_so", "good", errT, errTs, " ", kitT, kbT, F, by kernel_rfl, FunD.bindsN F (fun _ _ _ _ _ _ us hl => match us, hl with | [_], _ => rfl), (He.glo_ok I.X I.G (I.c.t.d.fact 21 (f := .glo "_law_error") rfl)), F.kp, by kernel_rfl, by kernel_rfl, by kernel_rfl, by decide +kernel, He.free_ok I.X I.G (I.c.t.d.fact 53 (f := .free "isinstance") rfl), by decide +kernel, fun x pv hx => ?_⟩⟩
  have hm : (x, pv) ∈ Hd.under2.map fun q => (q.1, PV.str (Txt.join " " (wordsL (kbT q.1) (errT :: errTs).flatten))) := by
    have e : (Hd.under2.map fun q => (q.1, PV.str (Txt.join " " (wordsL (kbT q.1) (errT :: errTs).flatten)))) = errL := by kernel_rfl
    rw [e]
    exact PySem.mem_of_lookup hx
  obtain ⟨q, hq, e⟩ := List.mem_map.mp hm
  cases e
  have all : (Hd.under2.all fun q => joinOk " " (wordsL (kbT q.1) (errT :: errTs).flatten) && ((errT :: errTs).flatten.all fun r => decide (kitT q.1 r.2 = some (kbT q.1 r.2))) && decide (q.1 ∈ Hd.classes) && decide (q.1 ∈ Hd.allC) && decide (rows.lookup q.1 = some q.2)) = true := by decide +kernel
  have hall := List.all_eq_true.mp all q hq
  simp only [Bool.and_eq_true, decide_eq_true_eq] at hall
  obtain ⟨⟨⟨⟨a1, a2⟩, a3⟩, a4⟩, a5⟩ := hall
  refine ⟨a1, rfl, fun r hr => of_decide_eq_true (List.all_eq_true.mp a2 r hr), He.ga K q.1, gloC I _ a4, excC I a3, fun y b hb => ?_⟩
  unfold kitT at hb
  split at hb
  · rename_i hy
    have hy : y ∈ Hd.allC := by simpa using hy
    rw [a5] at hb
    cases hb
    exact ⟨He.ga K y, gloC I y hy, kitC I hq hy⟩
  · cases hb
def c_ref : CP := { N := ["call", "e"], excs := ["ShareError"], hot := [("_law_error", errV)] }
theorem refd_any (I : In w K mg base h) {B : Amb} (hB : B.tab = tab) {lv : Nat} (hd : ∀ q ∈ B.dyn, FnIsG Pr w K mg base (tbK K) (lv + 1) q.1 q.2.1 q.2.2) : RefDef Pr w K mg base (tbK K) B lv "_law_refused" (refH tab "ShareError" "" errV) := by
  obtain ⟨fd, F⟩ := I.c.t.d.def_ 20 (d := Hd.d47) rfl
  exact ⟨⟨_, fd, _, _, _, "call", "ShareError", "e", "_law_error", "", c_ref, errV, F, rfl, by kernel_rfl, FunD.bindsN F (fun _ _ _ _ _ _ us hl => match us, hl with | [_], _ => rfl), (He.glo_ok I.X I.G (I.c.t.d.fact 20 (f := .glo "_law_refused") rfl)), F.kp, by kernel_rfl, by decide +kernel, by kernel_rfl, rfl, by decide +kernel, by kernel_rfl, errd I, by rw [hB],
    fx_over (fx_of (md I) hB all0 all0 rfl hd (by decide +kernel)), by decide +kernel, rfl⟩⟩
theorem tup_0 (I : In w K mg base h) : He.tupB K "NOUGHT" [.int 0, .int 1] = true := (He.ba I.c.more).1
theorem is__law_source (I : In w K mg base h) : FnIsG Pr w K mg base (tbK K) 1 "_law_source" 2 F__law_source := by
  obtain ⟨fd, F⟩ := I.c.t.d.def_ 16 (d := Hd.d43) rfl
  exact mkIs (B := B0) (cp := c__law_source) (ps := ["script", "k"]) (scope := defScope (top 43)) F (He.glo_ok I.X I.G (I.c.t.d.fact 16 (f := .glo "_law_source") rfl)) (by kernel_rfl) rfl (fun _ _ _ _ _ _ us hl => match us, hl with | [_, _], _ => rfl) ok__law_source (fx_of (md I) rfl all0 all0 rfl all0 rfl) rfl rfl
theorem is_is_int (I : In w K mg base h) : FnIsG Pr w K mg base (tbK K) 1 "is_int" 3 F_is_int := by
  obtain ⟨fd, F⟩ := I.c.t.d.def_ 5 (d := Hd.d27) rfl
  exact mkIs (B := B0) (cp := c_is_int) (ps := ["value", "low", "high"]) (scope := defScope (top 27)) F (He.glo_ok I.X I.G (I.c.t.d.fact 5 (f := .glo "is_int") rfl)) (by kernel_rfl) rfl (fun _ _ _ _ _ _ us hl => match us, hl with | [_, _, _], _ => rfl) ok_is_int (fx_of (md I) rfl all0 all0 rfl all0 rfl) rfl rfl
theorem is_need_number (I : In w K mg base h) : FnIsG Pr w K mg base (tbK K) 2 "need_number" 3 F_need_number := by
  obtain ⟨fd, F⟩ := I.c.t.d.def_ 12 (d := Hd.d34) rfl
  exact mkIs (B := B0) (cp := c_need_number) (ps := ["value", "low", "high"]) (scope := defScope (top 34)) F (He.glo_ok I.X I.G (I.c.t.d.fact 12 (f := .glo "need_number") rfl)) (by kernel_rfl) rfl (fun _ _ _ _ _ _ us hl => match us, hl with | [_, _, _], _ => rfl) ok_need_number (fx_of (md I) rfl (all1 ((is_is_int I).mono (by decide)) all0) all0 rfl all0 rfl) rfl rfl
theorem is_ratio (I : In w K mg base h) : FnIsG Pr w K mg base (tbK K) 1 "ratio" 2 F_ratio := by
  obtain ⟨fd, F⟩ := I.c.t.d.def_ 0 (d := Hd.d20) rfl
  exact mkIs (B := B0) (cp := c_ratio) (ps := ["top", "below"]) (scope := defScope (top 20)) F (He.glo_ok I.X I.G (I.c.t.d.fact 0 (f := .glo "ratio") rfl)) (by kernel_rfl) rfl (fun _ _ _ _ _ _ us hl => match us, hl with | [_, _], _ => rfl) ok_ratio (fx_of (md I) rfl all0 all0 rfl all0 rfl) rfl rfl
theorem is_is_fraction (I : In w K mg base h) : FnIsG Pr w K mg base (tbK K) 2 "is_fraction" 2 F_is_fraction := by
  obtain ⟨fd, F⟩ := I.c.t.d.def_ 6 (d := Hd.d28) rfl
  exact mkIs (B := B0) (cp := c_is_fraction) (ps := ["value", "most"]) (scope := defScope (top 28)) F (He.glo_ok I.X I.G (I.c.t.d.fact 6 (f := .glo "is_fraction") rfl)) (by kernel_rfl) rfl (fun _ _ _ _ _ _ us hl => match us, hl with | [_, _], _ => rfl) ok_is_fraction (fx_of (md I) rfl (all1 ((is_ratio I).mono (by decide)) (all1 ((is_is_int I).mono (by decide)) all0)) all0 rfl all0 rfl) rfl rfl
theorem is_are_some_lengths (I : In w K mg base h) : FnIsG Pr w K mg base (tbK K) 3 "are_some_lengths" 2 F_are_some_lengths := by
  obtain ⟨fd, F⟩ := I.c.t.d.def_ 7 (d := Hd.d29) rfl
  exact mkIs (B := B0) (cp := c_are_some_lengths) (ps := ["many", "value"]) (scope := defScope (top 29)) F (He.glo_ok I.X I.G (I.c.t.d.fact 7 (f := .glo "are_some_lengths") rfl)) (by kernel_rfl) rfl (fun _ _ _ _ _ _ us hl => match us, hl with | [_, _], _ => rfl) ok_are_some_lengths (fx_of (md I) rfl (all1 ((is_is_fraction I).mono (by decide)) all0) (all1 (by obtain ⟨t, e⟩ := He.int_ok I.X I.G (I.c.t.d.fact 102 (f := .int "MOST_INTEGER" 1000000000000000000000000000000) rfl); exact ⟨_, .int _, e, ⟨t, rfl⟩, fun A H => rp_int⟩) all0) rfl all0 rfl) rfl rfl
theorem is_are_facts (I : In w K mg base h) : FnIsG Pr w K mg base (tbK K) 4 "are_facts" 2 F_are_facts := by
  obtain ⟨fd, F⟩ := I.c.t.d.def_ 13 (d := Hd.d39) rfl
  exact mkIs (B := B0) (cp := c_are_facts) (ps := ["many", "value"]) (scope := defScope (top 39)) F (He.glo_ok I.X I.G (I.c.t.d.fact 13 (f := .glo "are_facts") rfl)) (by kernel_rfl) rfl (fun _ _ _ _ _ _ us hl => match us, hl with | [_, _], _ => rfl) ok_are_facts (fx_of (md I) rfl (all1 ((is_are_some_lengths I).mono (by decide)) all0) (all1 (by obtain ⟨t, e⟩ := He.int_ok I.X I.G (I.c.t.d.fact 103 (f := .int "MOST_FACTS" 5) rfl); exact ⟨_, .int _, e, ⟨t, rfl⟩, fun A H => rp_int⟩) all0) rfl all0 rfl) rfl rfl
theorem is_all_periods (I : In w K mg base h) : FnIsG Pr w K mg base (tbK K) 1 "all_periods" 2 F_all_periods := by
  obtain ⟨fd, F⟩ := I.c.t.d.def_ 14 (d := Hd.d40) rfl
  exact mkIs (B := B0) (cp := c_all_periods) (ps := ["many", "most"]) (scope := defScope (top 40)) F (He.glo_ok I.X I.G (I.c.t.d.fact 14 (f := .glo "all_periods") rfl)) (by kernel_rfl) rfl (fun _ _ _ _ _ _ us hl => match us, hl with | [_, _], _ => rfl) ok_all_periods (fx_of (md I) rfl all0 all0 rfl all0 rfl) rfl rfl
theorem is_plus (I : In w K mg base h) : FnIsG Pr w K mg base (tbK K) 2 "plus" 2 F_plus := by
  obtain ⟨fd, F⟩ := I.c.t.d.def_ 1 (d := Hd.d21) rfl
  exact mkIs (B := B0) (cp := c_plus) (ps := ["one", "other"]) (scope := defScope (top 21)) F (He.glo_ok I.X I.G (I.c.t.d.fact 1 (f := .glo "plus") rfl)) (by kernel_rfl) rfl (fun _ _ _ _ _ _ us hl => match us, hl with | [_, _], _ => rfl) ok_plus (fx_of (md I) rfl (all1 ((is_ratio I).mono (by decide)) all0) all0 rfl all0 rfl) rfl rfl
theorem is_sum_of (I : In w K mg base h) : FnIsG Pr w K mg base (tbK K) 3 "sum_of" 1 F_sum_of := by
  obtain ⟨fd, F⟩ := I.c.t.d.def_ 4 (d := Hd.d24) rfl
  exact mkIs (B := B0) (cp := c_sum_of) (ps := ["some"]) (scope := defScope (top 24)) F (He.glo_ok I.X I.G (I.c.t.d.fact 4 (f := .glo "sum_of") rfl)) (by kernel_rfl) rfl (fun _ _ _ _ _ _ us hl => match us, hl with | [_], _ => rfl) ok_sum_of (fx_of (md I) rfl (all1 ((is_plus I).mono (by decide)) all0) (all1 ⟨_, .ref (He.ga K "NOUGHT"), (He.glo_ok I.X I.G (I.c.t.d.fact 101 (f := .glo "NOUGHT") rfl)), rfl, fun A H => by simp only [Rp]; exact ⟨_, _, rfl, He.tupB_ok (tup_0 I) H, by simp [RpL, Rp, He.Dv.v]⟩⟩ all0) rfl all0 rfl) rfl rfl
theorem is_at_most (I : In w K mg base h) : FnIsG Pr w K mg base (tbK K) 1 "at_most" 2 F_at_most := by
  obtain ⟨fd, F⟩ := I.c.t.d.def_ 3 (d := Hd.d23) rfl
  exact mkIs (B := B0) (cp := c_at_most) (ps := ["one", "other"]) (scope := defScope (top 23)) F (He.glo_ok I.X I.G (I.c.t.d.fact 3 (f := .glo "at_most") rfl)) (by kernel_rfl) rfl (fun _ _ _ _ _ _ us hl => match us, hl with | [_, _], _ => rfl) ok_at_most (fx_of (md I) rfl all0 all0 rfl all0 rfl) rfl rfl
theorem is_product (I : In w K mg base h) : FnIsG Pr w K mg base (tbK K) 2 "product" 2 F_product := by
  obtain ⟨fd, F⟩ := I.c.t.d.def_ 2 (d := Hd.d22) rfl
  exact mkIs (B := B0) (cp := c_product) (ps := ["one", "other"]) (scope := defScope (top 22)) F (He.glo_ok I.X I.G (I.c.t.d.fact 2 (f := .glo "product") rfl)) (by kernel_rfl) rfl (fun _ _ _ _ _ _ us hl => match us, hl with | [_, _], _ => rfl) ok_product (fx_of (md I) rfl (all1 ((is_ratio I).mono (by decide)) all0) all0 rfl all0 rfl) rfl rfl
theorem is_often (I : In w K mg base h) : FnIsG Pr w K mg base (tbK K) 1 "often" 2 F_often := by
  obtain ⟨fd, F⟩ := I.c.t.d.def_ 8 (d := Hd.d30) rfl
  exact mkIs (B := B0) (cp := c_often) (ps := ["period", "moment"]) (scope := defScope (top 30)) F (He.glo_ok I.X I.G (I.c.t.d.fact 8 (f := .glo "often") rfl)) (by kernel_rfl) rfl (fun _ _ _ _ _ _ us hl => match us, hl with | [_, _], _ => rfl) ok_often (fx_of (md I) rfl all0 all0 rfl all0 rfl) rfl rfl
theorem is_need_at (I : In w K mg base h) : FnIsG Pr w K mg base (tbK K) 3 "need_at" 4 F_need_at := by
  obtain ⟨fd, F⟩ := I.c.t.d.def_ 9 (d := Hd.d31) rfl
  exact mkIs (B := B0) (cp := c_need_at) (ps := ["periods", "lengths", "number", "moment"]) (scope := defScope (top 31)) F (He.glo_ok I.X I.G (I.c.t.d.fact 9 (f := .glo "need_at") rfl)) (by kernel_rfl) rfl (fun _ _ _ _ _ _ us hl => match us, hl with | [_, _, _, _], _ => rfl) ok_need_at (fx_of (md I) rfl (all1 ((is_plus I).mono (by decide)) (all1 ((is_product I).mono (by decide)) (all1 ((is_often I).mono (by decide)) all0))) (all1 ⟨_, .ref (He.ga K "NOUGHT"), (He.glo_ok I.X I.G (I.c.t.d.fact 101 (f := .glo "NOUGHT") rfl)), rfl, fun A H => by simp only [Rp]; exact ⟨_, _, rfl, He.tupB_ok (tup_0 I) H, by simp [RpL, Rp, He.Dv.v]⟩⟩ all0) rfl all0 rfl) rfl rfl
theorem is_answer_of (I : In w K mg base h) : FnIsG Pr w K mg base (tbK K) 4 "answer_of" 3 F_answer_of := by
  obtain ⟨fd, F⟩ := I.c.t.d.def_ 10 (d := Hd.d32) rfl
  exact mkIs (B := B0) (cp := c_answer_of) (ps := ["periods", "lengths", "number"]) (scope := defScope (top 32)) F (He.glo_ok I.X I.G (I.c.t.d.fact 10 (f := .glo "answer_of") rfl)) (by kernel_rfl) rfl (fun _ _ _ _ _ _ us hl => match us, hl with | [_, _, _], _ => rfl) ok_answer_of (fx_of (md I) rfl (all1 ((is_sum_of I).mono (by decide)) (all1 ((is_at_most I).mono (by decide)) (all1 ((is_need_at I).mono (by decide)) all0))) (all1 ⟨_, .ref (He.ga K "NOUGHT"), (He.glo_ok I.X I.G (I.c.t.d.fact 101 (f := .glo "NOUGHT") rfl)), rfl, fun A H => by simp only [Rp]; exact ⟨_, _, rfl, He.tupB_ok (tup_0 I) H, by simp [RpL, Rp, He.Dv.v]⟩⟩ all0) rfl all0 rfl) rfl rfl
theorem is_in_time (I : In w K mg base h) : FnIsG Pr w K mg base (tbK K) 5 "in_time" 2 F_in_time := by
  obtain ⟨fd, F⟩ := I.c.t.d.def_ 11 (d := Hd.d33) rfl
  exact mkIs (B := B0) (cp := c_in_time) (ps := ["periods", "lengths"]) (scope := defScope (top 33)) F (He.glo_ok I.X I.G (I.c.t.d.fact 11 (f := .glo "in_time") rfl)) (by kernel_rfl) rfl (fun _ _ _ _ _ _ us hl => match us, hl with | [_, _], _ => rfl) ok_in_time (fx_of (md I) rfl (all1 ((is_answer_of I).mono (by decide)) all0) all0 rfl all0 rfl) rfl rfl
theorem is_periods_told (I : In w K mg base h) : FnIsG Pr w K mg base (tbK K) 6 "periods_told" 3 F_periods_told := by
  obtain ⟨fd, F⟩ := I.c.t.d.def_ 15 (d := Hd.d41) rfl
  exact mkIs (B := B0) (cp := c_periods_told) (ps := ["many", "most", "facts"]) (scope := defScope (top 41)) F (He.glo_ok I.X I.G (I.c.t.d.fact 15 (f := .glo "periods_told") rfl)) (by kernel_rfl) rfl (fun _ _ _ _ _ _ us hl => match us, hl with | [_, _, _], _ => rfl) ok_periods_told (fx_of (md I) rfl (all1 ((is_need_number I).mono (by decide)) (all1 ((is_are_facts I).mono (by decide)) (all1 ((is_all_periods I).mono (by decide)) (all1 ((is_in_time I).mono (by decide)) all0)))) (all1 (by obtain ⟨t, e⟩ := He.int_ok I.X I.G (I.c.t.d.fact 105 (f := .int "MOST_MANY" 4) rfl); exact ⟨_, .int _, e, ⟨t, rfl⟩, fun A H => rp_int⟩) (all1 (by obtain ⟨t, e⟩ := He.int_ok I.X I.G (I.c.t.d.fact 104 (f := .int "MOST_TOLD" 8) rfl); exact ⟨_, .int _, e, ⟨t, rfl⟩, fun A H => rp_int⟩) all0)) rfl all0 rfl) rfl rfl
theorem is__law_written (I : In w K mg base h) : FnIsG Pr w K mg base (tbK K) 7 "_law_written" 0 F__law_written := by
  obtain ⟨fd, F⟩ := I.c.t.d.def_ 31 (d := Hd.d58) rfl
  exact mkIs (B := B0) (cp := c__law_written) (ps := []) (scope := defScope (top 58)) F (He.glo_ok I.X I.G (I.c.t.d.fact 31 (f := .glo "_law_written") rfl)) (by kernel_rfl) rfl (fun _ _ _ _ _ _ us hl => match us, hl with | [], _ => rfl) ok__law_written (fx_of (md I) rfl (all1 ((is_periods_told I).mono (by decide)) all0) all0 rfl all0 rfl) rfl rfl
theorem tabf__law_by_three (I : In w K mg base h) : TabF K mg base (tbK K) "_law_by_three" (defScope (top 46)) (He.ga K "_law_by_three") := tabF_of I (p := ("_law_by_three", none)) (by decide +kernel) rfl rfl
theorem refd__law_by_three (I : In w K mg base h) : RefDef Pr w K mg base (tbK K) B__law_by_three 6 "_law_refused" (refH tab "ShareError" "" errV) := refd_any I rfl (all1 ((is_periods_told I).mono (by decide)) all0)
theorem is__law_by_three (I : In w K mg base h) : FnIsG Pr w K mg base (tbK K) 9 "_law_by_three" 4 F__law_by_three := by
  obtain ⟨fd, F⟩ := I.c.t.d.def_ 19 (d := Hd.d46) rfl
  exact mkIsL (B := B__law_by_three) (cp := c__law_by_three) (ps := ["call", "one", "other", "third"]) (scope := defScope (top 46)) F (He.glo_ok I.X I.G (I.c.t.d.fact 19 (f := .glo "_law_by_three") rfl)) (by kernel_rfl) rfl (fun _ _ _ _ _ _ us hl => match us, hl with | [_, _, _, _], _ => rfl) ok__law_by_three (fx_of (md I) rfl all0 all0 rfl (all1 ((is_periods_told I).mono (by decide)) all0) rfl) rfl (tabf__law_by_three I) (all1 (refd__law_by_three I) all0)
theorem is__law_refusals (I : In w K mg base h) : FnIsG Pr w K mg base (tbK K) 10 "_law_refusals" 0 F__law_refusals := by
  obtain ⟨fd, F⟩ := I.c.t.d.def_ 30 (d := Hd.d57) rfl
  exact mkIs (B := B0) (cp := c__law_refusals) (ps := []) (scope := defScope (top 57)) F (He.glo_ok I.X I.G (I.c.t.d.fact 30 (f := .glo "_law_refusals") rfl)) (by kernel_rfl) rfl (fun _ _ _ _ _ _ us hl => match us, hl with | [], _ => rfl) ok__law_refusals (fx_of (md I) rfl (all1 ((is__law_by_three I).mono (by decide)) (all1 ((is_periods_told I).mono (by decide)) all0)) all0 rfl all0 rfl) rfl rfl
theorem is__law_all_periods (I : In w K mg base h) : FnIsG Pr w K mg base (tbK K) 1 "_law_all_periods" 2 F__law_all_periods := by
  obtain ⟨fd, F⟩ := I.c.t.d.def_ 28 (d := Hd.d55) rfl
  exact mkIs (B := B0) (cp := c__law_all_periods) (ps := ["many", "most_so"]) (scope := defScope (top 55)) F (He.glo_ok I.X I.G (I.c.t.d.fact 28 (f := .glo "_law_all_periods") rfl)) (by kernel_rfl) rfl (fun _ _ _ _ _ _ us hl => match us, hl with | [_, _], _ => rfl) ok__law_all_periods (fx_of (md I) rfl all0 all0 rfl all0 rfl) rfl rfl
theorem is__law_pick (I : In w K mg base h) : FnIsG Pr w K mg base (tbK K) 1 "_law_pick" 2 F__law_pick := by
  obtain ⟨fd, F⟩ := I.c.t.d.def_ 17 (d := Hd.d44) rfl
  exact mkIs (B := B0) (cp := c__law_pick) (ps := ["source", "many"]) (scope := defScope (top 44)) F (He.glo_ok I.X I.G (I.c.t.d.fact 17 (f := .glo "_law_pick") rfl)) (by kernel_rfl) rfl (fun _ _ _ _ _ _ us hl => match us, hl with | [_, _], _ => rfl) ok__law_pick (fx_of (md I) rfl all0 all0 rfl all0 rfl) rfl rfl
theorem is__law_chosen (I : In w K mg base h) : FnIsG Pr w K mg base (tbK K) 2 "_law_chosen" 2 F__law_chosen := by
  obtain ⟨fd, F⟩ := I.c.t.d.def_ 18 (d := Hd.d45) rfl
  exact mkIs (B := B0) (cp := c__law_chosen) (ps := ["source", "things"]) (scope := defScope (top 45)) F (He.glo_ok I.X I.G (I.c.t.d.fact 18 (f := .glo "_law_chosen") rfl)) (by kernel_rfl) rfl (fun _ _ _ _ _ _ us hl => match us, hl with | [_, _], _ => rfl) ok__law_chosen (fx_of (md I) rfl (all1 ((is__law_pick I).mono (by decide)) all0) all0 rfl all0 rfl) rfl rfl
theorem is__law_divisor (I : In w K mg base h) : FnIsG Pr w K mg base (tbK K) 1 "_law_divisor" 2 F__law_divisor := by
  obtain ⟨fd, F⟩ := I.c.t.d.def_ 22 (d := Hd.d49) rfl
  exact mkIs (B := B0) (cp := c__law_divisor) (ps := ["one", "other"]) (scope := defScope (top 49)) F (He.glo_ok I.X I.G (I.c.t.d.fact 22 (f := .glo "_law_divisor") rfl)) (by kernel_rfl) rfl (fun _ _ _ _ _ _ us hl => match us, hl with | [_, _], _ => rfl) ok__law_divisor (fx_of (md I) rfl all0 all0 rfl all0 rfl) rfl rfl
theorem is__law_low (I : In w K mg base h) : FnIsG Pr w K mg base (tbK K) 2 "_law_low" 2 F__law_low := by
  obtain ⟨fd, F⟩ := I.c.t.d.def_ 23 (d := Hd.d50) rfl
  exact mkIs (B := B0) (cp := c__law_low) (ps := ["top", "below"]) (scope := defScope (top 50)) F (He.glo_ok I.X I.G (I.c.t.d.fact 23 (f := .glo "_law_low") rfl)) (by kernel_rfl) rfl (fun _ _ _ _ _ _ us hl => match us, hl with | [_, _], _ => rfl) ok__law_low (fx_of (md I) rfl (all1 ((is__law_divisor I).mono (by decide)) all0) all0 rfl all0 rfl) rfl rfl
theorem is__law_lengths (I : In w K mg base h) : FnIsG Pr w K mg base (tbK K) 3 "_law_lengths" 2 F__law_lengths := by
  obtain ⟨fd, F⟩ := I.c.t.d.def_ 24 (d := Hd.d51) rfl
  exact mkIs (B := B0) (cp := c__law_lengths) (ps := ["source", "periods"]) (scope := defScope (top 51)) F (He.glo_ok I.X I.G (I.c.t.d.fact 24 (f := .glo "_law_lengths") rfl)) (by kernel_rfl) rfl (fun _ _ _ _ _ _ us hl => match us, hl with | [_, _], _ => rfl) ok__law_lengths (fx_of (md I) rfl (all1 ((is__law_pick I).mono (by decide)) (all1 ((is__law_low I).mono (by decide)) all0)) all0 rfl all0 rfl) rfl rfl
theorem is__law_ticks (I : In w K mg base h) : FnIsG Pr w K mg base (tbK K) 2 "_law_ticks" 1 F__law_ticks := by
  obtain ⟨fd, F⟩ := I.c.t.d.def_ 25 (d := Hd.d52) rfl
  exact mkIs (B := B0) (cp := c__law_ticks) (ps := ["lengths_so"]) (scope := defScope (top 52)) F (He.glo_ok I.X I.G (I.c.t.d.fact 25 (f := .glo "_law_ticks") rfl)) (by kernel_rfl) rfl (fun _ _ _ _ _ _ us hl => match us, hl with | [_], _ => rfl) ok__law_ticks (fx_of (md I) rfl (all1 ((is__law_divisor I).mono (by decide)) all0) all0 rfl all0 rfl) rfl rfl
theorem is__law_answers (I : In w K mg base h) : FnIsG Pr w K mg base (tbK K) 3 "_law_answers" 2 F__law_answers := by
  obtain ⟨fd, F⟩ := I.c.t.d.def_ 26 (d := Hd.d53) rfl
  exact mkIs (B := B0) (cp := c__law_answers) (ps := ["periods", "lengths_so"]) (scope := defScope (top 53)) F (He.glo_ok I.X I.G (I.c.t.d.fact 26 (f := .glo "_law_answers") rfl)) (by kernel_rfl) rfl (fun _ _ _ _ _ _ us hl => match us, hl with | [_, _], _ => rfl) ok__law_answers (fx_of (md I) rfl (all1 ((is__law_ticks I).mono (by decide)) (all1 ((is__law_low I).mono (by decide)) all0)) all0 rfl all0 rfl) rfl rfl
theorem is__law_in_time (I : In w K mg base h) : FnIsG Pr w K mg base (tbK K) 4 "_law_in_time" 2 F__law_in_time := by
  obtain ⟨fd, F⟩ := I.c.t.d.def_ 27 (d := Hd.d54) rfl
  exact mkIs (B := B0) (cp := c__law_in_time) (ps := ["periods", "lengths_so"]) (scope := defScope (top 54)) F (He.glo_ok I.X I.G (I.c.t.d.fact 27 (f := .glo "_law_in_time") rfl)) (by kernel_rfl) rfl (fun _ _ _ _ _ _ us hl => match us, hl with | [_, _], _ => rfl) ok__law_in_time (fx_of (md I) rfl (all1 ((is__law_answers I).mono (by decide)) all0) all0 rfl all0 rfl) rfl rfl
theorem is__law_right (I : In w K mg base h) : FnIsG Pr w K mg base (tbK K) 7 "_law_right" 3 F__law_right := by
  obtain ⟨fd, F⟩ := I.c.t.d.def_ 29 (d := Hd.d56) rfl
  exact mkIs (B := B0) (cp := c__law_right) (ps := ["source", "many", "most_so"]) (scope := defScope (top 56)) F (He.glo_ok I.X I.G (I.c.t.d.fact 29 (f := .glo "_law_right") rfl)) (by kernel_rfl) rfl (fun _ _ _ _ _ _ us hl => match us, hl with | [_, _, _], _ => rfl) ok__law_right (fx_of (md I) rfl (all1 ((is__law_all_periods I).mono (by decide)) (all1 ((is__law_chosen I).mono (by decide)) (all1 ((is__law_pick I).mono (by decide)) (all1 ((is__law_lengths I).mono (by decide)) (all1 ((is__law_in_time I).mono (by decide)) (all1 ((is_periods_told I).mono (by decide)) all0)))))) all0 rfl all0 rfl) rfl rfl
theorem is_law (I : In w K mg base h) : FnIsG Pr w K mg base (tbK K) 11 "law" 1 F_law := by
  obtain ⟨fd, F⟩ := I.c.t.d.def_ 32 (d := Hd.d59) rfl
  exact mkIs (B := B0) (cp := c_law) (ps := ["script"]) (scope := defScope (top 59)) F (He.glo_ok I.X I.G (I.c.t.d.fact 32 (f := .glo "law") rfl)) (by kernel_rfl) rfl (fun _ _ _ _ _ _ us hl => match us, hl with | [_], _ => rfl) ok_law (fx_of (md I) rfl (all1 ((is__law_source I).mono (by decide)) (all1 ((is__law_written I).mono (by decide)) (all1 ((is__law_refusals I).mono (by decide)) (all1 ((is__law_right I).mono (by decide)) (all1 ((is__law_pick I).mono (by decide)) all0))))) all0 rfl all0 rfl) rfl rfl
theorem law_ok (I : In w K mg base h) {fd : FuncData} (F : FunD K "law" "law" (defArgs (top 59)) (defBody (top 59)) (defScope (top 59)) [] [] (He.ga K "law") fd) : FnOk Pr w K mg base (L2N.CX Pr w) 11 (He.ga K "law") fd ["script"] (spF K mg (tbK K) 1 F_law) :=
  mk_fn (B := B0) (cp := c_law) F (by kernel_rfl) rfl rfl (some_getD ok_law) (fx_over (fx_of (md I) rfl (all1 ((is__law_source I).mono (by decide)) (all1 ((is__law_written I).mono (by decide)) (all1 ((is__law_refusals I).mono (by decide)) (all1 ((is__law_right I).mono (by decide)) (all1 ((is__law_pick I).mono (by decide)) all0))))) all0 rfl all0 rfl)) (fun X _ cx n suite y f i k h _ _ _ _ hf => by cases hf) (Nat.le_refl _) (fun X cdv _ _ _ _ _ _ g h hl => by cases hl)
end
theorem row_holds (plain : ∀ ns : List Int, ns.length ≤ 63 → (∀ z ∈ ns, Builtin.Int.intBits z ≤ 1048576) → ∃ S', F_law [.scr ns] [] = .ok (.bl true) S') : PySem.Challenge.rw_sureshares_k51_whole_periods_told_back.Holds := by
  w_on; o_law
  refine HandSHeadRun.head_any (r := PySem.W.OpenLaw.row PySem.Challenge.rw_sureshares_k51_whole_periods_told_back) (q := PySem.W.view (PySem.W.OpenLaw.row PySem.Challenge.rw_sureshares_k51_whole_periods_told_back).prog [59]) (H := Hd.hk) (ob := Hd.ob) (M := 20000) (loose := Hd.loose) (d := HandSHeadRun.topDef (PySem.W.OpenLaw.row PySem.Challenge.rw_sureshares_k51_whole_periods_told_back).prog 59) (kwd := []) Hd.ob_eq
    (by kernel_rfl) (fun s => by kernel_rfl) Hd.run (by kernel_rfl) (by kernel_rfl) (by kernel_rfl) (by rfl) (by first | assumption | decide +kernel) (by decide +kernel) ⟨rfl, rfl, rfl, rfl, rfl, by decide +kernel⟩ ?hw ?hc
  case hw => w_witness2
  case hc =>
    refine LamX.walk_ofTsE (l := PySem.Challenge.rw_sureshares_k51_whole_periods_told_back) (n := 63) (k := 11) (x := "script") (CX := fun w => L2N.CX (PySem.Challenge.rw_sureshares_k51_whole_periods_told_back).prog w) rfl (by decide) (by kernel_rfl) ⟨rfl, by decide, by decide⟩ ?F (fun w H s e s' z => by obtain ⟨_, _, _, _, _, _, _, _, _, _, _, _, z⟩ := z; exact z)
    intro w mg fa h Y G hmg0
    obtain ⟨K, KX, c⟩ := Y
    have hmg : mg ("law" : PySem.Str) = some (.ref fa) := by
      have e : (HandSHeadRun.topDef (PySem.W.OpenLaw.row PySem.Challenge.rw_sureshares_k51_whole_periods_told_back).prog 59).name = ("law" : PySem.Str) := by kernel_rfl
      rw [← e]
      exact hmg0
    obtain ⟨fd, F⟩ := c.t.d.def_ 32 (d := Hd.d59) rfl
    have e := hmg.symm.trans (He.glo_ok KX G (c.t.d.fact 32 (f := .glo "law") rfl))
    cases e
    have b := FunD.bindsA (ps := ["script"]) F fun _ _ _ _ _ _ us hl => match us, hl with | [_], _ => rfl
    refine ⟨K, KX, fd, Hd.tf.map (He.cT K), spLock (spF K mg (tbK K) 1 F_law), fun p hp => ?_, fun p hp => ?_, fun p hp => ?_, fun s v => b s [v] rfl, fun H a ns hl hbits hT hS => ?_, fun base hb hg hTB => fnOk_lock (law_ok (h := h) ⟨c, KX, G, hTB⟩ F)⟩
    · obtain ⟨q, hq, rfl⟩ := List.mem_map.mp hp; exact c.empty q hq
    · obtain ⟨q, hq, rfl⟩ := List.mem_map.mp hp; exact c.out q hq
    · obtain ⟨q, hq, rfl⟩ := List.mem_map.mp hp; exact PySem.W.codeHd_of_K KX (c.hd q hq)
    · obtain ⟨S', hp⟩ := plain ns hl hbits
      refine sp_law hp hS fun q hq => ?_
      obtain ⟨d, hd, rfl⟩ := List.mem_map.mp hq
      exact TabS.nil (hT (He.cT K d) (List.mem_map.mpr ⟨d, hd, rfl⟩))
end Ch

end -- ChK51
section -- LtK51
set_option maxHeartbeats 0
namespace Lw
open Ev
abbrev hR := refH tab "ShareError" "" errV
def l__law_source : T := (.cons (.set 2 (.cst (.int 0))) (.cons (.ite (.bin .gt (.blt .len (.cons (.bor 0) .nil)) (.bor 1)) (.cons (.set 2 (.blt .int (.cons (.bin .ix (.bor 0) (.bor 1)) .nil))) .nil) .nil) (.cons (.set 3 (.bin .mod (.bin .add (.bin .add (.bin .mul (.bor 2) (.cst (.int 16807))) (.bin .mul (.cst (.int 60919)) (.bor 1))) (.cst (.int 31))) (.cst (.int 2147481173)))) (.cons (.set 3 (.bin .add (.bin .add (.bin .mod (.bin .mul (.bor 3) (.bor 3)) (.cst (.int 2147481151))) (.bin .mul (.cst (.int 2)) (.bor 1))) (.cst (.int 5)))) (.cons (.ret (.newc (.cons (.ifx (.bin .ge (.bor 2) (.bin .pow (.cst (.int 10)) (.cst (.int 18)))) (.var 2) (.cst (.int 0))) (.cons (.var 3) .nil)))) .nil)))))
theorem tl__law_source : t__law_source = l__law_source := by kernel_rfl
def n__law_source : T := (.cons (.set 2 (.cst (.int 0))) (.cons (.ite (.bin .gt (.blt .len (.cons (.bor 0) .nil)) (.bor 1)) (.cons (.set 2 (.blt .int (.cons (.bin .ix (.bor 0) (.bor 1)) .nil))) .nil) .nil) (.cons (.set 3 (.bin .mod (.bin .add (.bin .add (.bin .mul (.bor 2) (.cst (.int 16807))) (.bin .mul (.cst (.int 60919)) (.bor 1))) (.cst (.int 31))) (.cst (.int 2147481173)))) (.cons (.set 3 (.bin .add (.bin .add (.bin .mod (.bin .mul (.bor 3) (.bor 3)) (.cst (.int 2147481151))) (.bin .mul (.cst (.int 2)) (.bor 1))) (.cst (.int 5)))) (.cons (.ret (.newc (.cons (.ifx (.bin .ge (.bor 2) (.bin .pow (.cst (.int 10)) (.cst (.int 18)))) (.var 2) (.cst (.int 0))) (.cons (.var 3) .nil)))) .nil)))))
theorem r__law_source : F__law_source = run B0 4 n__law_source := by
  unfold F__law_source
  rw [tl__law_source]
  rfl
def l_is_int : T := (.cons (.ret (.and_ (.isi "int" (.bor 0)) (.and_ (.not_ (.isi "bool" (.bor 0))) (.chn (.var 1) .le (.var 0) .le (.var 2))))) .nil)
theorem tl_is_int : t_is_int = l_is_int := by kernel_rfl
def n_is_int_1 : C := (.and_ (.isi "int" (.bor 0)) (.and_ (.not_ (.isi "bool" (.bor 0))) (.chn (.var 1) .le (.var 0) .le (.var 2))))
def n_is_int : T := (.cons (.ret n_is_int_1) .nil)
theorem r_is_int : F_is_int = run B0 3 n_is_int := by
  unfold F_is_int
  rw [tl_is_int]
  rfl
def l_need_number : T := (.cons (.ite (.not_ (.call F_is_int "is_int" (.cons (.var 0) (.cons (.var 1) (.cons (.var 2) .nil))))) (.cons (.rais "InvalidNumber") .nil) .nil) .nil)
theorem tl_need_number : t_need_number = l_need_number := by kernel_rfl
def n_need_number : T := (.cons (.ite (.not_ (.call F_is_int "is_int" (.cons (.var 0) (.cons (.var 1) (.cons (.var 2) .nil))))) (.cons (.rais "InvalidNumber") .nil) .nil) .nil)
theorem r_need_number : F_need_number = run B0 3 n_need_number := by
  unfold F_need_number
  rw [tl_need_number]
  rfl
def l_ratio : T := (.cons (.unp (.tp [3, 4]) (.tup (.cons (.blt .abs (.cons (.bor 0) .nil)) (.cons (.blt .abs (.cons (.bor 1) .nil)) .nil)))) (.cons (.whl (.bin .ne (.bor 4) (.cst (.int 0))) (.cons (.unp (.tp [3, 4]) (.tup (.cons (.var 4) (.cons (.bin .mod (.bor 3) (.bor 4)) .nil)))) .nil)) (.cons (.set 2 (.ifx (.bin .gt (.bor 1) (.cst (.int 0))) (.cst (.int 1)) (.neg (.cst (.int 1))))) (.cons (.ret (.tup (.cons (.bin .fdiv (.bin .mul (.bor 2) (.bor 0)) (.bor 3)) (.cons (.bin .fdiv (.bin .mul (.bor 2) (.bor 1)) (.bor 3)) .nil)))) .nil))))
theorem tl_ratio : t_ratio = l_ratio := by kernel_rfl
def n_ratio_1 : C := (.bin .ne (.bor 4) (.cst (.int 0)))
def n_ratio_2 : T := (.cons (.unp (.tp [3, 4]) (.tup (.cons (.var 4) (.cons (.bin .mod (.bor 3) (.bor 4)) .nil)))) .nil)
def n_ratio : T := (.cons (.unp (.tp [3, 4]) (.tup (.cons (.blt .abs (.cons (.bor 0) .nil)) (.cons (.blt .abs (.cons (.bor 1) .nil)) .nil)))) (.cons (.whl n_ratio_1 n_ratio_2) (.cons (.set 2 (.ifx (.bin .gt (.bor 1) (.cst (.int 0))) (.cst (.int 1)) (.neg (.cst (.int 1))))) (.cons (.ret (.tup (.cons (.bin .fdiv (.bin .mul (.bor 2) (.bor 0)) (.bor 3)) (.cons (.bin .fdiv (.bin .mul (.bor 2) (.bor 1)) (.bor 3)) .nil)))) .nil))))
theorem r_ratio : F_ratio = run B0 5 n_ratio := by
  unfold F_ratio
  rw [tl_ratio]
  rfl
def l_is_fraction : T := (.cons (.ite (.or_ (.not_ (.isi "tuple" (.bor 0))) (.bin .ne (.blt .len (.cons (.bor 0) .nil)) (.cst (.int 2)))) (.cons (.ret (.cst (.bl false))) .nil) .nil) (.cons (.ite (.or_ (.not_ (.call F_is_int "is_int" (.cons (.bin .ix (.bor 0) (.cst (.int 0))) (.cons (.cst (.int 0)) (.cons (.var 1) .nil))))) (.not_ (.call F_is_int "is_int" (.cons (.bin .ix (.bor 0) (.cst (.int 1))) (.cons (.cst (.int 1)) (.cons (.var 1) .nil)))))) (.cons (.ret (.cst (.bl false))) .nil) .nil) (.cons (.ret (.bin .eq (.call F_ratio "ratio" (.cons (.bin .ix (.bor 0) (.cst (.int 0))) (.cons (.bin .ix (.bor 0) (.cst (.int 1))) .nil))) (.bor 0))) .nil)))
theorem tl_is_fraction : t_is_fraction = l_is_fraction := by kernel_rfl
def n_is_fraction_1 : C := (.or_ (.not_ (.call F_is_int "is_int" (.cons (.bin .ix (.bor 0) (.cst (.int 0))) (.cons (.cst (.int 0)) (.cons (.var 1) .nil))))) (.not_ (.call F_is_int "is_int" (.cons (.bin .ix (.bor 0) (.cst (.int 1))) (.cons (.cst (.int 1)) (.cons (.var 1) .nil))))))
def n_is_fraction_2 : C := (.or_ (.not_ (.isi "tuple" (.bor 0))) (.bin .ne (.blt .len (.cons (.bor 0) .nil)) (.cst (.int 2))))
def n_is_fraction : T := (.cons (.ite n_is_fraction_2 (.cons (.ret (.cst (.bl false))) .nil) .nil) (.cons (.ite n_is_fraction_1 (.cons (.ret (.cst (.bl false))) .nil) .nil) (.cons (.ret (.bin .eq (.call F_ratio "ratio" (.cons (.bin .ix (.bor 0) (.cst (.int 0))) (.cons (.bin .ix (.bor 0) (.cst (.int 1))) .nil))) (.bor 0))) .nil)))
theorem r_is_fraction : F_is_fraction = run B0 2 n_is_fraction := by
  unfold F_is_fraction
  rw [tl_is_fraction]
  rfl
def l_are_some_lengths : T := (.cons (.ite (.or_ (.not_ (.isi "tuple" (.bor 1))) (.bin .ne (.blt .len (.cons (.bor 1) .nil)) (.bor 0))) (.cons (.ret (.cst (.bl false))) .nil) .nil) (.cons (.ret (.blt .all (.cons (.lc [2] .val (.cons (.var 1) .nil) (.nm 2) .nil (.call F_is_fraction "is_fraction" (.cons (.var 2) (.cons (.cst (.int 1000000000000000000000000000000)) .nil)))) .nil))) .nil))
theorem tl_are_some_lengths : t_are_some_lengths = l_are_some_lengths := by kernel_rfl
def n_are_some_lengths_1 : C := (.call F_is_fraction "is_fraction" (.cons (.var 2) (.cons (.cst (.int 1000000000000000000000000000000)) .nil)))
def n_are_some_lengths_2 : C := (.or_ (.not_ (.isi "tuple" (.bor 1))) (.bin .ne (.blt .len (.cons (.bor 1) .nil)) (.bor 0)))
def n_are_some_lengths : T := (.cons (.ite n_are_some_lengths_2 (.cons (.ret (.cst (.bl false))) .nil) .nil) (.cons (.ret (.blt .all (.cons (.lc [2] .val (.cons (.var 1) .nil) (.nm 2) .nil n_are_some_lengths_1) .nil))) .nil))
theorem r_are_some_lengths : F_are_some_lengths = run B0 3 n_are_some_lengths := by
  unfold F_are_some_lengths
  rw [tl_are_some_lengths]
  rfl
def l_are_facts : T := (.cons (.ite (.or_ (.not_ (.isi "tuple" (.bor 1))) (.bin .gt (.blt .len (.cons (.bor 1) .nil)) (.cst (.int 5)))) (.cons (.ret (.cst (.bl false))) .nil) .nil) (.cons (.for_ .val (.cons (.var 1) .nil) (.nm 2) (.cons (.ite (.or_ (.not_ (.isi "tuple" (.bor 2))) (.or_ (.bin .ne (.blt .len (.cons (.bor 2) .nil)) (.cst (.int 2))) (.not_ (.isi "bool" (.bin .ix (.bor 2) (.cst (.int 1))))))) (.cons (.ret (.cst (.bl false))) .nil) .nil) (.cons (.ite (.not_ (.call F_are_some_lengths "are_some_lengths" (.cons (.var 0) (.cons (.bin .ix (.bor 2) (.cst (.int 0))) .nil)))) (.cons (.ret (.cst (.bl false))) .nil) .nil) .nil))) (.cons (.ret (.cst (.bl true))) .nil)))
theorem tl_are_facts : t_are_facts = l_are_facts := by kernel_rfl
def n_are_facts_1 : C := (.or_ (.not_ (.isi "tuple" (.bor 2))) (.or_ (.bin .ne (.blt .len (.cons (.bor 2) .nil)) (.cst (.int 2))) (.not_ (.isi "bool" (.bin .ix (.bor 2) (.cst (.int 1)))))))
def n_are_facts_2 : T := (.cons (.ite n_are_facts_1 (.cons (.ret (.cst (.bl false))) .nil) .nil) (.cons (.ite (.not_ (.call F_are_some_lengths "are_some_lengths" (.cons (.var 0) (.cons (.bin .ix (.bor 2) (.cst (.int 0))) .nil)))) (.cons (.ret (.cst (.bl false))) .nil) .nil) .nil))
def n_are_facts_3 : C := (.or_ (.not_ (.isi "tuple" (.bor 1))) (.bin .gt (.blt .len (.cons (.bor 1) .nil)) (.cst (.int 5))))
def n_are_facts : T := (.cons (.ite n_are_facts_3 (.cons (.ret (.cst (.bl false))) .nil) .nil) (.cons (.for_ .val (.cons (.var 1) .nil) (.nm 2) n_are_facts_2) (.cons (.ret (.cst (.bl true))) .nil)))
theorem r_are_facts : F_are_facts = run B0 3 n_are_facts := by
  unfold F_are_facts
  rw [tl_are_facts]
  rfl
def l_all_periods : T := (.cons (.set 2 (.lst (.cons (.tup .nil) .nil))) (.cons (.for_ .rng (.cons (.var 0) .nil) (.nm 3) (.cons (.set 2 (.lc2 [4, 5] .val (.cons (.var 2) .nil) (.nm 4) .nil [5] .rng (.cons (.cst (.int 1)) (.cons (.bin .add (.bor 1) (.cst (.int 1))) .nil)) (.nm 5) (.cons (.or_ (.bin .eq (.bor 4) (.tup .nil)) (.bin .lt (.bin .ix (.bor 4) (.neg (.cst (.int 1)))) (.bor 5))) .nil) (.bin .add (.bor 4) (.tup (.cons (.var 5) .nil))))) .nil)) (.cons (.ret (.var 2)) .nil)))
theorem tl_all_periods : t_all_periods = l_all_periods := by kernel_rfl
def n_all_periods_1 : C := (.or_ (.bin .eq (.bor 4) (.tup .nil)) (.bin .lt (.bin .ix (.bor 4) (.neg (.cst (.int 1)))) (.bor 5)))
def n_all_periods_2 : Cs := (.cons n_all_periods_1 .nil)
def n_all_periods_3 : C := (.bin .add (.bor 4) (.tup (.cons (.var 5) .nil)))
def n_all_periods_4 : T := (.cons (.set 2 (.lc2 [4, 5] .val (.cons (.var 2) .nil) (.nm 4) .nil [5] .rng (.cons (.cst (.int 1)) (.cons (.bin .add (.bor 1) (.cst (.int 1))) .nil)) (.nm 5) n_all_periods_2 n_all_periods_3)) .nil)
def n_all_periods : T := (.cons (.set 2 (.lst (.cons (.tup .nil) .nil))) (.cons (.for_ .rng (.cons (.var 0) .nil) (.nm 3) n_all_periods_4) (.cons (.ret (.var 2)) .nil)))
theorem r_all_periods : F_all_periods = run B0 6 n_all_periods := by
  unfold F_all_periods
  rw [tl_all_periods]
  rfl
def l_plus : T := (.cons (.ret (.call F_ratio "ratio" (.cons (.bin .add (.bin .mul (.bin .ix (.bor 0) (.cst (.int 0))) (.bin .ix (.bor 1) (.cst (.int 1)))) (.bin .mul (.bin .ix (.bor 1) (.cst (.int 0))) (.bin .ix (.bor 0) (.cst (.int 1))))) (.cons (.bin .mul (.bin .ix (.bor 0) (.cst (.int 1))) (.bin .ix (.bor 1) (.cst (.int 1)))) .nil)))) .nil)
theorem tl_plus : t_plus = l_plus := by kernel_rfl
def n_plus : T := (.cons (.ret (.call F_ratio "ratio" (.cons (.bin .add (.bin .mul (.bin .ix (.bor 0) (.cst (.int 0))) (.bin .ix (.bor 1) (.cst (.int 1)))) (.bin .mul (.bin .ix (.bor 1) (.cst (.int 0))) (.bin .ix (.bor 0) (.cst (.int 1))))) (.cons (.bin .mul (.bin .ix (.bor 0) (.cst (.int 1))) (.bin .ix (.bor 1) (.cst (.int 1)))) .nil)))) .nil)
theorem r_plus : F_plus = run B0 2 n_plus := by
  unfold F_plus
  rw [tl_plus]
  rfl
def l_sum_of : T := (.cons (.set 1 (.cst (.tup [.int 0, .int 1]))) (.cons (.for_ .val (.cons (.var 0) .nil) (.nm 2) (.cons (.set 1 (.call F_plus "plus" (.cons (.var 1) (.cons (.var 2) .nil)))) .nil)) (.cons (.ret (.var 1)) .nil)))
theorem tl_sum_of : t_sum_of = l_sum_of := by kernel_rfl
def n_sum_of_1 : T := (.cons (.set 1 (.call F_plus "plus" (.cons (.var 1) (.cons (.var 2) .nil)))) .nil)
def n_sum_of : T := (.cons (.set 1 (.cst (.tup [.int 0, .int 1]))) (.cons (.for_ .val (.cons (.var 0) .nil) (.nm 2) n_sum_of_1) (.cons (.ret (.var 1)) .nil)))
theorem r_sum_of : F_sum_of = run B0 3 n_sum_of := by
  unfold F_sum_of
  rw [tl_sum_of]
  rfl
def l_at_most : T := (.cons (.ret (.bin .le (.bin .mul (.bin .ix (.bor 0) (.cst (.int 0))) (.bin .ix (.bor 1) (.cst (.int 1)))) (.bin .mul (.bin .ix (.bor 1) (.cst (.int 0))) (.bin .ix (.bor 0) (.cst (.int 1)))))) .nil)
theorem tl_at_most : t_at_most = l_at_most := by kernel_rfl
def n_at_most : T := (.cons (.ret (.bin .le (.bin .mul (.bin .ix (.bor 0) (.cst (.int 0))) (.bin .ix (.bor 1) (.cst (.int 1)))) (.bin .mul (.bin .ix (.bor 1) (.cst (.int 0))) (.bin .ix (.bor 0) (.cst (.int 1)))))) .nil)
theorem r_at_most : F_at_most = run B0 2 n_at_most := by
  unfold F_at_most
  rw [tl_at_most]
  rfl
def l_product : T := (.cons (.ret (.call F_ratio "ratio" (.cons (.bin .mul (.bin .ix (.bor 0) (.cst (.int 0))) (.bin .ix (.bor 1) (.cst (.int 0)))) (.cons (.bin .mul (.bin .ix (.bor 0) (.cst (.int 1))) (.bin .ix (.bor 1) (.cst (.int 1)))) .nil)))) .nil)
theorem tl_product : t_product = l_product := by kernel_rfl
def n_product : T := (.cons (.ret (.call F_ratio "ratio" (.cons (.bin .mul (.bin .ix (.bor 0) (.cst (.int 0))) (.bin .ix (.bor 1) (.cst (.int 0)))) (.cons (.bin .mul (.bin .ix (.bor 0) (.cst (.int 1))) (.bin .ix (.bor 1) (.cst (.int 1)))) .nil)))) .nil)
theorem r_product : F_product = run B0 2 n_product := by
  unfold F_product
  rw [tl_product]
  rfl
def l_often : T := (.cons (.ret (.bin .sub (.cst (.int 0)) (.bin .fdiv (.bin .sub (.cst (.int 0)) (.bin .ix (.bor 1) (.cst (.int 0)))) (.bin .mul (.bor 0) (.bin .ix (.bor 1) (.cst (.int 1))))))) .nil)
theorem tl_often : t_often = l_often := by kernel_rfl
def n_often : T := (.cons (.ret (.bin .sub (.cst (.int 0)) (.bin .fdiv (.bin .sub (.cst (.int 0)) (.bin .ix (.bor 1) (.cst (.int 0)))) (.bin .mul (.bor 0) (.bin .ix (.bor 1) (.cst (.int 1))))))) .nil)
theorem r_often : F_often = run B0 2 n_often := by
  unfold F_often
  rw [tl_often]
  rfl
def l_need_at : T := (.cons (.set 4 (.cst (.tup [.int 0, .int 1]))) (.cons (.for_ .zip (.cons (.sl (.bor 0) .nil (.cons (.bin .add (.bor 2) (.cst (.int 1))) .nil)) (.cons (.var 1) .nil)) (.tp [5, 6]) (.cons (.set 4 (.call F_plus "plus" (.cons (.var 4) (.cons (.call F_product "product" (.cons (.var 6) (.cons (.tup (.cons (.call F_often "often" (.cons (.var 5) (.cons (.var 3) .nil))) (.cons (.cst (.int 1)) .nil))) .nil))) .nil)))) .nil)) (.cons (.ret (.var 4)) .nil)))
theorem tl_need_at : t_need_at = l_need_at := by kernel_rfl
def n_need_at_1 : T := (.cons (.set 4 (.call F_plus "plus" (.cons (.var 4) (.cons (.call F_product "product" (.cons (.var 6) (.cons (.tup (.cons (.call F_often "often" (.cons (.var 5) (.cons (.var 3) .nil))) (.cons (.cst (.int 1)) .nil))) .nil))) .nil)))) .nil)
def n_need_at : T := (.cons (.set 4 (.cst (.tup [.int 0, .int 1]))) (.cons (.for_ .zip (.cons (.sl (.bor 0) .nil (.cons (.bin .add (.bor 2) (.cst (.int 1))) .nil)) (.cons (.var 1) .nil)) (.tp [5, 6]) n_need_at_1) (.cons (.ret (.var 4)) .nil)))
theorem r_need_at : F_need_at = run B0 7 n_need_at := by
  unfold F_need_at
  rw [tl_need_at]
  rfl
def l_answer_of : T := (.cons (.ite (.bin .eq (.bin .ix (.bor 1) (.bor 2)) (.cst (.tup [.int 0, .int 1]))) (.cons (.ret (.cst (.tup [.int 0, .int 1]))) .nil) .nil) (.cons (.set 3 (.call F_sum_of "sum_of" (.cons (.sl (.bor 1) .nil (.cons (.bin .add (.bor 2) (.cst (.int 1))) .nil)) .nil))) (.cons (.whl (.call F_at_most "at_most" (.cons (.var 3) (.cons (.tup (.cons (.bin .ix (.bor 0) (.bor 2)) (.cons (.cst (.int 1)) .nil))) .nil))) (.cons (.set 4 (.call F_need_at "need_at" (.cons (.var 0) (.cons (.var 1) (.cons (.var 2) (.cons (.var 3) .nil)))))) (.cons (.ite (.call F_at_most "at_most" (.cons (.var 4) (.cons (.var 3) .nil))) (.cons (.ret (.var 3)) .nil) .nil) (.cons (.set 3 (.var 4)) .nil)))) (.cons (.ret (.cst .non)) .nil))))
theorem tl_answer_of : t_answer_of = l_answer_of := by kernel_rfl
def n_answer_of_1 : C := (.call F_at_most "at_most" (.cons (.var 3) (.cons (.tup (.cons (.bin .ix (.bor 0) (.bor 2)) (.cons (.cst (.int 1)) .nil))) .nil)))
def n_answer_of_2 : T := (.cons (.set 4 (.call F_need_at "need_at" (.cons (.var 0) (.cons (.var 1) (.cons (.var 2) (.cons (.var 3) .nil)))))) (.cons (.ite (.call F_at_most "at_most" (.cons (.var 4) (.cons (.var 3) .nil))) (.cons (.ret (.var 3)) .nil) .nil) (.cons (.set 3 (.var 4)) .nil)))
def n_answer_of : T := (.cons (.ite (.bin .eq (.bin .ix (.bor 1) (.bor 2)) (.cst (.tup [.int 0, .int 1]))) (.cons (.ret (.cst (.tup [.int 0, .int 1]))) .nil) .nil) (.cons (.set 3 (.call F_sum_of "sum_of" (.cons (.sl (.bor 1) .nil (.cons (.bin .add (.bor 2) (.cst (.int 1))) .nil)) .nil))) (.cons (.whl n_answer_of_1 n_answer_of_2) (.cons (.ret (.cst .non)) .nil))))
theorem r_answer_of : F_answer_of = run B0 5 n_answer_of := by
  unfold F_answer_of
  rw [tl_answer_of]
  rfl
def l_in_time : T := (.cons (.ret (.blt .all (.cons (.lc [2] .rng (.cons (.blt .len (.cons (.bor 0) .nil)) .nil) (.nm 2) .nil (.bin .isnot (.call F_answer_of "answer_of" (.cons (.var 0) (.cons (.var 1) (.cons (.var 2) .nil)))) (.cst .non))) .nil))) .nil)
theorem tl_in_time : t_in_time = l_in_time := by kernel_rfl
def n_in_time_1 : C := (.bin .isnot (.call F_answer_of "answer_of" (.cons (.var 0) (.cons (.var 1) (.cons (.var 2) .nil)))) (.cst .non))
def n_in_time : T := (.cons (.ret (.blt .all (.cons (.lc [2] .rng (.cons (.blt .len (.cons (.bor 0) .nil)) .nil) (.nm 2) .nil n_in_time_1) .nil))) .nil)
theorem r_in_time : F_in_time = run B0 3 n_in_time := by
  unfold F_in_time
  rw [tl_in_time]
  rfl
def l_periods_told : T := (.cons (.exp (.call F_need_number "need_number" (.cons (.var 0) (.cons (.cst (.int 1)) (.cons (.cst (.int 4)) .nil))))) (.cons (.exp (.call F_need_number "need_number" (.cons (.var 1) (.cons (.cst (.int 1)) (.cons (.cst (.int 8)) .nil))))) (.cons (.ite (.not_ (.call F_are_facts "are_facts" (.cons (.var 0) (.cons (.var 2) .nil)))) (.cons (.rais "InvalidFacts") .nil) .nil) (.cons (.ret (.lc [3] .val (.cons (.call F_all_periods "all_periods" (.cons (.var 0) (.cons (.var 1) .nil))) .nil) (.nm 3) (.cons (.blt .all (.cons (.lc [4, 5] .val (.cons (.var 2) .nil) (.tp [4, 5]) .nil (.bin .eq (.call F_in_time "in_time" (.cons (.var 3) (.cons (.var 4) .nil))) (.bor 5))) .nil)) .nil) (.var 3))) .nil))))
theorem tl_periods_told : t_periods_told = l_periods_told := by kernel_rfl
def n_periods_told_1 : C := (.bin .eq (.call F_in_time "in_time" (.cons (.var 3) (.cons (.var 4) .nil))) (.bor 5))
def n_periods_told_2 : Cs := (.cons (.blt .all (.cons (.lc [4, 5] .val (.cons (.var 2) .nil) (.tp [4, 5]) .nil n_periods_told_1) .nil)) .nil)
def n_periods_told : T := (.cons (.exp (.call F_need_number "need_number" (.cons (.var 0) (.cons (.cst (.int 1)) (.cons (.cst (.int 4)) .nil))))) (.cons (.exp (.call F_need_number "need_number" (.cons (.var 1) (.cons (.cst (.int 1)) (.cons (.cst (.int 8)) .nil))))) (.cons (.ite (.not_ (.call F_are_facts "are_facts" (.cons (.var 0) (.cons (.var 2) .nil)))) (.cons (.rais "InvalidFacts") .nil) .nil) (.cons (.ret (.lc [3] .val (.cons (.call F_all_periods "all_periods" (.cons (.var 0) (.cons (.var 1) .nil))) .nil) (.nm 3) n_periods_told_2 (.var 3))) .nil))))
theorem r_periods_told : F_periods_told = run B0 6 n_periods_told := by
  unfold F_periods_told
  rw [tl_periods_told]
  rfl
def l__law_written : T := (.cons (.unp (.tp [1, 2]) (.tup (.cons (.tup (.cons (.tup (.cons (.tup (.cons (.cst (.int 1)) (.cons (.cst (.int 1)) .nil))) (.cons (.tup (.cons (.cst (.int 1)) (.cons (.cst (.int 1)) .nil))) .nil))) (.cons (.cst (.bl true)) .nil))) (.cons (.tup (.cons (.tup (.cons (.tup (.cons (.cst (.int 1)) (.cons (.cst (.int 1)) .nil))) (.cons (.tup (.cons (.cst (.int 2)) (.cons (.cst (.int 1)) .nil))) .nil))) (.cons (.cst (.bl false)) .nil))) .nil)))) (.cons (.ite (.bin .ne (.call F_periods_told "periods_told" (.cons (.cst (.int 2)) (.cons (.cst (.int 4)) (.cons (.tup (.cons (.var 1) .nil)) .nil)))) (.lst (.cons (.tup (.cons (.cst (.int 2)) (.cons (.cst (.int 3)) .nil))) (.cons (.tup (.cons (.cst (.int 2)) (.cons (.cst (.int 4)) .nil))) (.cons (.tup (.cons (.cst (.int 3)) (.cons (.cst (.int 4)) .nil))) .nil))))) (.cons (.ret (.cst (.bl false))) .nil) .nil) (.cons (.ite (.bin .ne (.call F_periods_told "periods_told" (.cons (.cst (.int 2)) (.cons (.cst (.int 4)) (.cons (.tup (.cons (.var 1) (.cons (.var 2) .nil))) .nil)))) (.lst (.cons (.tup (.cons (.cst (.int 2)) (.cons (.cst (.int 3)) .nil))) .nil))) (.cons (.ret (.cst (.bl false))) .nil) .nil) (.cons (.ite (.bin .ne (.call F_periods_told "periods_told" (.cons (.cst (.int 2)) (.cons (.cst (.int 3)) (.cons (.tup .nil) .nil)))) (.lst (.cons (.tup (.cons (.cst (.int 1)) (.cons (.cst (.int 2)) .nil))) (.cons (.tup (.cons (.cst (.int 1)) (.cons (.cst (.int 3)) .nil))) (.cons (.tup (.cons (.cst (.int 2)) (.cons (.cst (.int 3)) .nil))) .nil))))) (.cons (.ret (.cst (.bl false))) .nil) .nil) (.cons (.ite (.bin .ne (.call F_periods_told "periods_told" (.cons (.cst (.int 1)) (.cons (.cst (.int 3)) (.cons (.tup (.cons (.tup (.cons (.tup (.cons (.tup (.cons (.cst (.int 2)) (.cons (.cst (.int 1)) .nil))) .nil)) (.cons (.cst (.bl true)) .nil))) .nil)) .nil)))) (.lst (.cons (.tup (.cons (.cst (.int 2)) .nil)) (.cons (.tup (.cons (.cst (.int 3)) .nil)) .nil)))) (.cons (.ret (.cst (.bl false))) .nil) .nil) (.cons (.ite (.or_ (.bin .ne (.call F_periods_told "periods_told" (.cons (.cst (.int 4)) (.cons (.cst (.int 3)) (.cons (.tup .nil) .nil)))) (.lst .nil)) (.bin .ne (.call F_periods_told "periods_told" (.cons (.cst (.int 4)) (.cons (.cst (.int 4)) (.cons (.tup .nil) .nil)))) (.lst (.cons (.tup (.cons (.cst (.int 1)) (.cons (.cst (.int 2)) (.cons (.cst (.int 3)) (.cons (.cst (.int 4)) .nil))))) .nil)))) (.cons (.ret (.cst (.bl false))) .nil) .nil) (.cons (.ite (.bin .ne (.blt .len (.cons (.call F_periods_told "periods_told" (.cons (.cst (.int 4)) (.cons (.cst (.int 8)) (.cons (.tup .nil) .nil)))) .nil)) (.cst (.int 70))) (.cons (.ret (.cst (.bl false))) .nil) .nil) (.cons (.ite (.bin .ne (.call F_periods_told "periods_told" (.cons (.cst (.int 1)) (.cons (.cst (.int 8)) (.cons (.tup (.cons (.tup (.cons (.tup (.cons (.tup (.cons (.cst (.int 15)) (.cons (.cst (.int 2)) .nil))) .nil)) (.cons (.cst (.bl false)) .nil))) (.cons (.tup (.cons (.tup (.cons (.tup (.cons (.cst (.int 7)) (.cons (.cst (.int 1)) .nil))) .nil)) (.cons (.cst (.bl true)) .nil))) .nil))) .nil)))) (.lst (.cons (.tup (.cons (.cst (.int 7)) .nil)) .nil))) (.cons (.ret (.cst (.bl false))) .nil) .nil) (.cons (.set 0 (.tup (.cons (.tup (.cons (.tup (.cons (.cst (.int 0)) (.cons (.cst (.int 1)) .nil))) (.cons (.tup (.cons (.cst (.int 8)) (.cons (.cst (.int 1)) .nil))) .nil))) (.cons (.cst (.bl true)) .nil)))) (.cons (.ite (.bin .ne (.call F_periods_told "periods_told" (.cons (.cst (.int 2)) (.cons (.cst (.int 8)) (.cons (.tup (.cons (.var 0) .nil)) .nil)))) (.lc [3] .rng (.cons (.cst (.int 1)) (.cons (.cst (.int 8)) .nil)) (.nm 3) .nil (.tup (.cons (.var 3) (.cons (.cst (.int 8)) .nil))))) (.cons (.ret (.cst (.bl false))) .nil) .nil) (.cons (.ret (.bin .eq (.call F_periods_told "periods_told" (.cons (.cst (.int 2)) (.cons (.cst (.int 8)) (.cons (.tup (.cons (.var 1) (.cons (.tup (.cons (.bin .ix (.bor 1) (.cst (.int 0))) (.cons (.cst (.bl false)) .nil))) .nil))) .nil)))) (.lst .nil))) .nil)))))))))))
theorem tl__law_written : t__law_written = l__law_written := by kernel_rfl
def n__law_written_1 : C := (.tup (.cons (.var 3) (.cons (.cst (.int 8)) .nil)))
def n__law_written_2 : C := (.or_ (.bin .ne (.call F_periods_told "periods_told" (.cons (.cst (.int 4)) (.cons (.cst (.int 3)) (.cons (.tup .nil) .nil)))) (.lst .nil)) (.bin .ne (.call F_periods_told "periods_told" (.cons (.cst (.int 4)) (.cons (.cst (.int 4)) (.cons (.tup .nil) .nil)))) (.lst (.cons (.tup (.cons (.cst (.int 1)) (.cons (.cst (.int 2)) (.cons (.cst (.int 3)) (.cons (.cst (.int 4)) .nil))))) .nil))))
def n__law_written : T := (.cons (.unp (.tp [1, 2]) (.tup (.cons (.tup (.cons (.tup (.cons (.tup (.cons (.cst (.int 1)) (.cons (.cst (.int 1)) .nil))) (.cons (.tup (.cons (.cst (.int 1)) (.cons (.cst (.int 1)) .nil))) .nil))) (.cons (.cst (.bl true)) .nil))) (.cons (.tup (.cons (.tup (.cons (.tup (.cons (.cst (.int 1)) (.cons (.cst (.int 1)) .nil))) (.cons (.tup (.cons (.cst (.int 2)) (.cons (.cst (.int 1)) .nil))) .nil))) (.cons (.cst (.bl false)) .nil))) .nil)))) (.cons (.ite (.bin .ne (.call F_periods_told "periods_told" (.cons (.cst (.int 2)) (.cons (.cst (.int 4)) (.cons (.tup (.cons (.var 1) .nil)) .nil)))) (.lst (.cons (.tup (.cons (.cst (.int 2)) (.cons (.cst (.int 3)) .nil))) (.cons (.tup (.cons (.cst (.int 2)) (.cons (.cst (.int 4)) .nil))) (.cons (.tup (.cons (.cst (.int 3)) (.cons (.cst (.int 4)) .nil))) .nil))))) (.cons (.ret (.cst (.bl false))) .nil) .nil) (.cons (.ite (.bin .ne (.call F_periods_told "periods_told" (.cons (.cst (.int 2)) (.cons (.cst (.int 4)) (.cons (.tup (.cons (.var 1) (.cons (.var 2) .nil))) .nil)))) (.lst (.cons (.tup (.cons (.cst (.int 2)) (.cons (.cst (.int 3)) .nil))) .nil))) (.cons (.ret (.cst (.bl false))) .nil) .nil) (.cons (.ite (.bin .ne (.call F_periods_told "periods_told" (.cons (.cst (.int 2)) (.cons (.cst (.int 3)) (.cons (.tup .nil) .nil)))) (.lst (.cons (.tup (.cons (.cst (.int 1)) (.cons (.cst (.int 2)) .nil))) (.cons (.tup (.cons (.cst (.int 1)) (.cons (.cst (.int 3)) .nil))) (.cons (.tup (.cons (.cst (.int 2)) (.cons (.cst (.int 3)) .nil))) .nil))))) (.cons (.ret (.cst (.bl false))) .nil) .nil) (.cons (.ite (.bin .ne (.call F_periods_told "periods_told" (.cons (.cst (.int 1)) (.cons (.cst (.int 3)) (.cons (.tup (.cons (.tup (.cons (.tup (.cons (.tup (.cons (.cst (.int 2)) (.cons (.cst (.int 1)) .nil))) .nil)) (.cons (.cst (.bl true)) .nil))) .nil)) .nil)))) (.lst (.cons (.tup (.cons (.cst (.int 2)) .nil)) (.cons (.tup (.cons (.cst (.int 3)) .nil)) .nil)))) (.cons (.ret (.cst (.bl false))) .nil) .nil) (.cons (.ite n__law_written_2 (.cons (.ret (.cst (.bl false))) .nil) .nil) (.cons (.ite (.bin .ne (.blt .len (.cons (.call F_periods_told "periods_told" (.cons (.cst (.int 4)) (.cons (.cst (.int 8)) (.cons (.tup .nil) .nil)))) .nil)) (.cst (.int 70))) (.cons (.ret (.cst (.bl false))) .nil) .nil) (.cons (.ite (.bin .ne (.call F_periods_told "periods_told" (.cons (.cst (.int 1)) (.cons (.cst (.int 8)) (.cons (.tup (.cons (.tup (.cons (.tup (.cons (.tup (.cons (.cst (.int 15)) (.cons (.cst (.int 2)) .nil))) .nil)) (.cons (.cst (.bl false)) .nil))) (.cons (.tup (.cons (.tup (.cons (.tup (.cons (.cst (.int 7)) (.cons (.cst (.int 1)) .nil))) .nil)) (.cons (.cst (.bl true)) .nil))) .nil))) .nil)))) (.lst (.cons (.tup (.cons (.cst (.int 7)) .nil)) .nil))) (.cons (.ret (.cst (.bl false))) .nil) .nil) (.cons (.set 0 (.tup (.cons (.tup (.cons (.tup (.cons (.cst (.int 0)) (.cons (.cst (.int 1)) .nil))) (.cons (.tup (.cons (.cst (.int 8)) (.cons (.cst (.int 1)) .nil))) .nil))) (.cons (.cst (.bl true)) .nil)))) (.cons (.ite (.bin .ne (.call F_periods_told "periods_told" (.cons (.cst (.int 2)) (.cons (.cst (.int 8)) (.cons (.tup (.cons (.var 0) .nil)) .nil)))) (.lc [3] .rng (.cons (.cst (.int 1)) (.cons (.cst (.int 8)) .nil)) (.nm 3) .nil n__law_written_1)) (.cons (.ret (.cst (.bl false))) .nil) .nil) (.cons (.ret (.bin .eq (.call F_periods_told "periods_told" (.cons (.cst (.int 2)) (.cons (.cst (.int 8)) (.cons (.tup (.cons (.var 1) (.cons (.tup (.cons (.bin .ix (.bor 1) (.cst (.int 0))) (.cons (.cst (.bl false)) .nil))) .nil))) .nil)))) (.lst .nil))) .nil)))))))))))
theorem r__law_written : F__law_written = run B0 4 n__law_written := by
  unfold F__law_written
  rw [tl__law_written]
  rfl
def l__law_by_three : T := (.cons (.ret (.callh hR "_law_refused" (.callv 0 (.cons (.var 1) (.cons (.var 2) (.cons (.var 3) .nil)))))) .nil)
theorem tl__law_by_three : t__law_by_three = l__law_by_three := by kernel_rfl
def n__law_by_three : T := (.cons (.ret (.callh hR "_law_refused" (.callv 0 (.cons (.var 1) (.cons (.var 2) (.cons (.var 3) .nil)))))) .nil)
theorem r__law_by_three : F__law_by_three = run B__law_by_three 4 n__law_by_three := by
  unfold F__law_by_three
  rw [tl__law_by_three]
  rfl
def l__law_refusals : T := (.cons (.for_ .val (.cons (.lst (.cons (.cst .non) (.cons (.cst (.int 0)) (.cons (.cst (.int 5)) (.cons (.cst (.bl true)) (.cons (.cst (.str "1")) .nil)))))) .nil) (.nm 0) (.cons (.ite (.bin .ne (.call F__law_by_three "_law_by_three" (.cons (.cst (.fn "periods_told")) (.cons (.var 0) (.cons (.cst .non) (.cons (.cst .non) .nil))))) (.cst (.str "number"))) (.cons (.ret (.cst (.bl false))) .nil) .nil) .nil)) (.cons (.for_ .val (.cons (.lst (.cons (.cst .non) (.cons (.cst (.int 0)) (.cons (.cst (.int 9)) (.cons (.cst (.bl true)) (.cons (.cst (.str "1")) .nil)))))) .nil) (.nm 0) (.cons (.ite (.bin .ne (.call F__law_by_three "_law_by_three" (.cons (.cst (.fn "periods_told")) (.cons (.cst (.int 2)) (.cons (.var 0) (.cons (.cst .non) .nil))))) (.cst (.str "number"))) (.cons (.ret (.cst (.bl false))) .nil) .nil) .nil)) (.cons (.set 1 (.tup (.cons (.tup (.cons (.tup (.cons (.cst (.int 1)) (.cons (.cst (.int 1)) .nil))) (.cons (.tup (.cons (.cst (.int 1)) (.cons (.cst (.int 2)) .nil))) .nil))) (.cons (.cst (.bl true)) .nil)))) (.cons (.set 2 (.lst (.cons (.cst .non) (.cons (.lst .nil) (.cons (.var 1) (.cons (.lst (.cons (.var 1) .nil)) (.cons (.bin .mul (.tup (.cons (.var 1) .nil)) (.cst (.int 6))) .nil))))))) (.cons (.set 2 (.bin .add (.bor 2) (.lst (.cons (.tup (.cons (.tup (.cons (.bin .ix (.bor 1) (.cst (.int 0))) .nil)) .nil)) (.cons (.tup (.cons (.tup (.cons (.bin .ix (.bor 1) (.cst (.int 0))) (.cons (.cst (.int 1)) .nil))) .nil)) (.cons (.tup (.cons (.tup (.cons (.bin .ix (.bor 1) (.cst (.int 0))) (.cons (.cst .non) .nil))) .nil)) (.cons (.tup (.cons (.tup (.cons (.tup (.cons (.tup (.cons (.cst (.int 1)) (.cons (.cst (.int 1)) .nil))) .nil)) (.cons (.cst (.bl true)) .nil))) .nil)) .nil))))))) (.cons (.set 2 (.bin .add (.bor 2) (.lst (.cons (.tup (.cons (.tup (.cons (.blt .list (.cons (.bin .ix (.bor 1) (.cst (.int 0))) .nil)) (.cons (.cst (.bl true)) .nil))) .nil)) (.cons (.tup (.cons (.tup (.cons (.tup (.cons (.tup (.cons (.cst (.int 2)) (.cons (.cst (.int 2)) .nil))) (.cons (.tup (.cons (.cst (.int 1)) (.cons (.cst (.int 2)) .nil))) .nil))) (.cons (.cst (.bl true)) .nil))) .nil)) (.cons (.tup (.cons (.bin .add (.bor 1) (.tup (.cons (.cst (.int 1)) .nil))) .nil)) (.cons (.tup (.cons (.tup (.cons (.cst .non) (.cons (.cst (.bl false)) .nil))) .nil)) .nil))))))) (.cons (.ret (.bin .eq (.lc [0] .val (.cons (.var 2) .nil) (.nm 0) (.cons (.bin .ne (.call F__law_by_three "_law_by_three" (.cons (.cst (.fn "periods_told")) (.cons (.cst (.int 2)) (.cons (.cst (.int 5)) (.cons (.var 0) .nil))))) (.cst (.str "facts"))) .nil) (.var 0)) (.lst .nil))) .nil)))))))
theorem tl__law_refusals : t__law_refusals = l__law_refusals := by kernel_rfl
def n__law_refusals_1 : Cs := (.cons (.bin .ne (.call F__law_by_three "_law_by_three" (.cons (.cst (.fn "periods_told")) (.cons (.cst (.int 2)) (.cons (.cst (.int 5)) (.cons (.var 0) .nil))))) (.cst (.str "facts"))) .nil)
def n__law_refusals_2 : T := (.cons (.ite (.bin .ne (.call F__law_by_three "_law_by_three" (.cons (.cst (.fn "periods_told")) (.cons (.cst (.int 2)) (.cons (.var 0) (.cons (.cst .non) .nil))))) (.cst (.str "number"))) (.cons (.ret (.cst (.bl false))) .nil) .nil) .nil)
def n__law_refusals_3 : T := (.cons (.ite (.bin .ne (.call F__law_by_three "_law_by_three" (.cons (.cst (.fn "periods_told")) (.cons (.var 0) (.cons (.cst .non) (.cons (.cst .non) .nil))))) (.cst (.str "number"))) (.cons (.ret (.cst (.bl false))) .nil) .nil) .nil)
def n__law_refusals : T := (.cons (.for_ .val (.cons (.lst (.cons (.cst .non) (.cons (.cst (.int 0)) (.cons (.cst (.int 5)) (.cons (.cst (.bl true)) (.cons (.cst (.str "1")) .nil)))))) .nil) (.nm 0) n__law_refusals_3) (.cons (.for_ .val (.cons (.lst (.cons (.cst .non) (.cons (.cst (.int 0)) (.cons (.cst (.int 9)) (.cons (.cst (.bl true)) (.cons (.cst (.str "1")) .nil)))))) .nil) (.nm 0) n__law_refusals_2) (.cons (.set 1 (.tup (.cons (.tup (.cons (.tup (.cons (.cst (.int 1)) (.cons (.cst (.int 1)) .nil))) (.cons (.tup (.cons (.cst (.int 1)) (.cons (.cst (.int 2)) .nil))) .nil))) (.cons (.cst (.bl true)) .nil)))) (.cons (.set 2 (.lst (.cons (.cst .non) (.cons (.lst .nil) (.cons (.var 1) (.cons (.lst (.cons (.var 1) .nil)) (.cons (.bin .mul (.tup (.cons (.var 1) .nil)) (.cst (.int 6))) .nil))))))) (.cons (.set 2 (.bin .add (.bor 2) (.lst (.cons (.tup (.cons (.tup (.cons (.bin .ix (.bor 1) (.cst (.int 0))) .nil)) .nil)) (.cons (.tup (.cons (.tup (.cons (.bin .ix (.bor 1) (.cst (.int 0))) (.cons (.cst (.int 1)) .nil))) .nil)) (.cons (.tup (.cons (.tup (.cons (.bin .ix (.bor 1) (.cst (.int 0))) (.cons (.cst .non) .nil))) .nil)) (.cons (.tup (.cons (.tup (.cons (.tup (.cons (.tup (.cons (.cst (.int 1)) (.cons (.cst (.int 1)) .nil))) .nil)) (.cons (.cst (.bl true)) .nil))) .nil)) .nil))))))) (.cons (.set 2 (.bin .add (.bor 2) (.lst (.cons (.tup (.cons (.tup (.cons (.blt .list (.cons (.bin .ix (.bor 1) (.cst (.int 0))) .nil)) (.cons (.cst (.bl true)) .nil))) .nil)) (.cons (.tup (.cons (.tup (.cons (.tup (.cons (.tup (.cons (.cst (.int 2)) (.cons (.cst (.int 2)) .nil))) (.cons (.tup (.cons (.cst (.int 1)) (.cons (.cst (.int 2)) .nil))) .nil))) (.cons (.cst (.bl true)) .nil))) .nil)) (.cons (.tup (.cons (.bin .add (.bor 1) (.tup (.cons (.cst (.int 1)) .nil))) .nil)) (.cons (.tup (.cons (.tup (.cons (.cst .non) (.cons (.cst (.bl false)) .nil))) .nil)) .nil))))))) (.cons (.ret (.bin .eq (.lc [0] .val (.cons (.var 2) .nil) (.nm 0) n__law_refusals_1 (.var 0)) (.lst .nil))) .nil)))))))
theorem r__law_refusals : F__law_refusals = run B0 3 n__law_refusals := by
  unfold F__law_refusals
  rw [tl__law_refusals]
  rfl
def l__law_all_periods : T := (.cons (.set 2 (.lst (.cons (.tup .nil) .nil))) (.cons (.for_ .rng (.cons (.var 0) .nil) (.nm 3) (.cons (.set 4 (.lst .nil)) (.cons (.for_ .val (.cons (.var 2) .nil) (.nm 5) (.cons (.set 4 (.bin .add (.bor 4) (.lc [6] .rng (.cons (.cst (.int 1)) (.cons (.bin .add (.bor 1) (.cst (.int 1))) .nil)) (.nm 6) (.cons (.or_ (.bin .eq (.bor 5) (.tup .nil)) (.bin .lt (.bin .ix (.bor 5) (.neg (.cst (.int 1)))) (.bor 6))) .nil) (.bin .add (.bor 5) (.tup (.cons (.var 6) .nil)))))) .nil)) (.cons (.set 2 (.var 4)) .nil)))) (.cons (.ret (.var 2)) .nil)))
theorem tl__law_all_periods : t__law_all_periods = l__law_all_periods := by kernel_rfl
def n__law_all_periods_1 : C := (.or_ (.bin .eq (.bor 5) (.tup .nil)) (.bin .lt (.bin .ix (.bor 5) (.neg (.cst (.int 1)))) (.bor 6)))
def n__law_all_periods_2 : Cs := (.cons n__law_all_periods_1 .nil)
def n__law_all_periods_3 : C := (.bin .add (.bor 5) (.tup (.cons (.var 6) .nil)))
def n__law_all_periods_4 : T := (.cons (.set 4 (.bin .add (.bor 4) (.lc [6] .rng (.cons (.cst (.int 1)) (.cons (.bin .add (.bor 1) (.cst (.int 1))) .nil)) (.nm 6) n__law_all_periods_2 n__law_all_periods_3))) .nil)
def n__law_all_periods_5 : T := (.cons (.set 4 (.lst .nil)) (.cons (.for_ .val (.cons (.var 2) .nil) (.nm 5) n__law_all_periods_4) (.cons (.set 2 (.var 4)) .nil)))
def n__law_all_periods : T := (.cons (.set 2 (.lst (.cons (.tup .nil) .nil))) (.cons (.for_ .rng (.cons (.var 0) .nil) (.nm 3) n__law_all_periods_5) (.cons (.ret (.var 2)) .nil)))
theorem r__law_all_periods : F__law_all_periods = run B0 7 n__law_all_periods := by
  unfold F__law_all_periods
  rw [tl__law_all_periods]
  rfl
def l__law_pick : T := (.cons (.ite (.bin .gt (.bin .ix (.bor 0) (.cst (.int 0))) (.cst (.int 0))) (.cons (.set 2 (.bin .mod (.blt .int (.cons (.bin .ix (.bor 0) (.cst (.int 0))) .nil)) (.bor 1))) (.cons (.seti 0 (.cst (.int 0)) (.bin .fdiv (.blt .int (.cons (.bin .ix (.bor 0) (.cst (.int 0))) .nil)) (.bor 1))) (.cons (.ret (.var 2)) .nil))) .nil) (.cons (.seti 0 (.cst (.int 1)) (.bin .mod (.blt .int (.cons (.bin .add (.bin .mul (.bin .ix (.bor 0) (.cst (.int 1))) (.cst (.int 44497))) (.cst (.int 9973))) .nil)) (.cst (.int 2147483647)))) (.cons (.ret (.bin .mod (.bin .fdiv (.bin .mod (.blt .int (.cons (.bin .mul (.bin .ix (.bor 0) (.cst (.int 1))) (.bin .ix (.bor 0) (.cst (.int 1)))) .nil)) (.cst (.int 2147483399))) (.cst (.int 11))) (.bor 1))) .nil)))
theorem tl__law_pick : t__law_pick = l__law_pick := by kernel_rfl
def n__law_pick : T := (.cons (.ite (.bin .gt (.bin .ix (.bor 0) (.cst (.int 0))) (.cst (.int 0))) (.cons (.set 2 (.bin .mod (.blt .int (.cons (.bin .ix (.bor 0) (.cst (.int 0))) .nil)) (.bor 1))) (.cons (.seti 0 (.cst (.int 0)) (.bin .fdiv (.blt .int (.cons (.bin .ix (.bor 0) (.cst (.int 0))) .nil)) (.bor 1))) (.cons (.ret (.var 2)) .nil))) .nil) (.cons (.seti 0 (.cst (.int 1)) (.bin .mod (.blt .int (.cons (.bin .add (.bin .mul (.bin .ix (.bor 0) (.cst (.int 1))) (.cst (.int 44497))) (.cst (.int 9973))) .nil)) (.cst (.int 2147483647)))) (.cons (.ret (.bin .mod (.bin .fdiv (.bin .mod (.blt .int (.cons (.bin .mul (.bin .ix (.bor 0) (.cst (.int 1))) (.bin .ix (.bor 0) (.cst (.int 1)))) .nil)) (.cst (.int 2147483399))) (.cst (.int 11))) (.bor 1))) .nil)))
theorem r__law_pick : F__law_pick = run B0 3 n__law_pick := by
  unfold F__law_pick
  rw [tl__law_pick]
  rfl
def l__law_chosen : T := (.cons (.ret (.bin .ix (.bor 1) (.call F__law_pick "_law_pick" (.cons (.var 0) (.cons (.blt .len (.cons (.bor 1) .nil)) .nil))))) .nil)
theorem tl__law_chosen : t__law_chosen = l__law_chosen := by kernel_rfl
def n__law_chosen : T := (.cons (.ret (.bin .ix (.bor 1) (.call F__law_pick "_law_pick" (.cons (.var 0) (.cons (.blt .len (.cons (.bor 1) .nil)) .nil))))) .nil)
theorem r__law_chosen : F__law_chosen = run B0 2 n__law_chosen := by
  unfold F__law_chosen
  rw [tl__law_chosen]
  rfl
def l__law_divisor : T := (.cons (.whl (.bin .ne (.bor 1) (.cst (.int 0))) (.cons (.unp (.tp [0, 1]) (.tup (.cons (.var 1) (.cons (.bin .mod (.bor 0) (.bor 1)) .nil)))) .nil)) (.cons (.ret (.var 0)) .nil))
theorem tl__law_divisor : t__law_divisor = l__law_divisor := by kernel_rfl
def n__law_divisor_1 : C := (.bin .ne (.bor 1) (.cst (.int 0)))
def n__law_divisor_2 : T := (.cons (.unp (.tp [0, 1]) (.tup (.cons (.var 1) (.cons (.bin .mod (.bor 0) (.bor 1)) .nil)))) .nil)
def n__law_divisor : T := (.cons (.whl n__law_divisor_1 n__law_divisor_2) (.cons (.ret (.var 0)) .nil))
theorem r__law_divisor : F__law_divisor = run B0 2 n__law_divisor := by
  unfold F__law_divisor
  rw [tl__law_divisor]
  rfl
def l__law_low : T := (.cons (.set 2 (.call F__law_divisor "_law_divisor" (.cons (.blt .abs (.cons (.bor 0) .nil)) (.cons (.var 1) .nil)))) (.cons (.ret (.tup (.cons (.bin .fdiv (.bor 0) (.bor 2)) (.cons (.bin .fdiv (.bor 1) (.bor 2)) .nil)))) .nil))
theorem tl__law_low : t__law_low = l__law_low := by kernel_rfl
def n__law_low : T := (.cons (.set 2 (.call F__law_divisor "_law_divisor" (.cons (.blt .abs (.cons (.bor 0) .nil)) (.cons (.var 1) .nil)))) (.cons (.ret (.tup (.cons (.bin .fdiv (.bor 0) (.bor 2)) (.cons (.bin .fdiv (.bor 1) (.bor 2)) .nil)))) .nil))
theorem r__law_low : F__law_low = run B0 3 n__law_low := by
  unfold F__law_low
  rw [tl__law_low]
  rfl
def l__law_lengths : T := (.cons (.seto 2 (.lst .nil)) (.cons (.for_ .val (.cons (.var 1) .nil) (.nm 3) (.cons (.set 4 (.bin .add (.cst (.int 1)) (.call F__law_pick "_law_pick" (.cons (.var 0) (.cons (.cst (.int 6)) .nil))))) (.cons (.app 2 (.call F__law_low "_law_low" (.cons (.call F__law_pick "_law_pick" (.cons (.var 0) (.cons (.bin .add (.bin .fdiv (.bin .mul (.bor 3) (.bor 4)) (.blt .len (.cons (.bor 1) .nil))) (.cst (.int 2))) .nil))) (.cons (.var 4) .nil)))) .nil))) (.cons (.ret (.blt .tuple (.cons (.bor 2) .nil))) .nil)))
theorem tl__law_lengths : t__law_lengths = l__law_lengths := by kernel_rfl
def n__law_lengths_1 : T := (.cons (.set 4 (.bin .add (.cst (.int 1)) (.call F__law_pick "_law_pick" (.cons (.var 0) (.cons (.cst (.int 6)) .nil))))) (.cons (.app 2 (.call F__law_low "_law_low" (.cons (.call F__law_pick "_law_pick" (.cons (.var 0) (.cons (.bin .add (.bin .fdiv (.bin .mul (.bor 3) (.bor 4)) (.blt .len (.cons (.bor 1) .nil))) (.cst (.int 2))) .nil))) (.cons (.var 4) .nil)))) .nil))
def n__law_lengths : T := (.cons (.seto 2 (.lst .nil)) (.cons (.for_ .val (.cons (.var 1) .nil) (.nm 3) n__law_lengths_1) (.cons (.ret (.blt .tuple (.cons (.bor 2) .nil))) .nil)))
theorem r__law_lengths : F__law_lengths = run B0 5 n__law_lengths := by
  unfold F__law_lengths
  rw [tl__law_lengths]
  rfl
def l__law_ticks : T := (.cons (.set 1 (.cst (.int 1))) (.cons (.for_ .val (.cons (.var 0) .nil) (.nm 2) (.cons (.set 1 (.bin .fdiv (.bin .mul (.bor 1) (.bin .ix (.bor 2) (.cst (.int 1)))) (.call F__law_divisor "_law_divisor" (.cons (.var 1) (.cons (.bin .ix (.bor 2) (.cst (.int 1))) .nil))))) .nil)) (.cons (.ret (.var 1)) .nil)))
theorem tl__law_ticks : t__law_ticks = l__law_ticks := by kernel_rfl
def n__law_ticks_1 : T := (.cons (.set 1 (.bin .fdiv (.bin .mul (.bor 1) (.bin .ix (.bor 2) (.cst (.int 1)))) (.call F__law_divisor "_law_divisor" (.cons (.var 1) (.cons (.bin .ix (.bor 2) (.cst (.int 1))) .nil))))) .nil)
def n__law_ticks : T := (.cons (.set 1 (.cst (.int 1))) (.cons (.for_ .val (.cons (.var 0) .nil) (.nm 2) n__law_ticks_1) (.cons (.ret (.var 1)) .nil)))
theorem r__law_ticks : F__law_ticks = run B0 3 n__law_ticks := by
  unfold F__law_ticks
  rw [tl__law_ticks]
  rfl
def l__law_answers : T := (.cons (.set 2 (.call F__law_ticks "_law_ticks" (.cons (.var 1) .nil))) (.cons (.set 3 (.lc [9] .val (.cons (.var 1) .nil) (.nm 9) .nil (.bin .mul (.bin .ix (.bor 9) (.cst (.int 0))) (.bin .fdiv (.bor 2) (.bin .ix (.bor 9) (.cst (.int 1))))))) (.cons (.seto 4 (.lc [10] .val (.cons (.var 3) .nil) (.nm 10) .nil (.ifx (.bin .eq (.bor 10) (.cst (.int 0))) (.tup (.cons (.cst (.int 0)) (.cons (.cst (.int 1)) .nil))) (.cst .non)))) (.cons (.seto 5 (.lc [10] .val (.cons (.var 3) .nil) (.nm 10) .nil (.cst (.int 0)))) (.cons (.for_ .rng (.cons (.bin .mul (.bin .ix (.bor 0) (.neg (.cst (.int 1)))) (.bor 2)) .nil) (.nm 6) (.cons (.for_ .rng (.cons (.blt .len (.cons (.bor 3) .nil)) .nil) (.nm 7) (.cons (.ite (.bin .eq (.bin .mod (.bor 6) (.bin .mul (.bin .ix (.bor 0) (.bor 7)) (.bor 2))) (.cst (.int 0))) (.cons (.seti 5 (.var 7) (.bin .add (.bin .ix (.bor 5) (.bor 7)) (.bin .ix (.bor 3) (.bor 7)))) .nil) .nil) .nil)) (.cons (.set 8 (.lc [7] .rng (.cons (.blt .len (.cons (.bor 3) .nil)) .nil) (.nm 7) (.cons (.bin .gt (.bin .ix (.bor 5) (.bor 7)) (.cst (.int 0))) .nil) (.var 7))) (.cons (.ite (.bin .ne (.bor 8) (.lst .nil)) (.cons (.seti 5 (.bin .ix (.bor 8) (.cst (.int 0))) (.bin .sub (.bin .ix (.bor 5) (.bin .ix (.bor 8) (.cst (.int 0)))) (.cst (.int 1)))) (.cons (.unp (.tp [7, 11]) (.tup (.cons (.bin .ix (.bor 8) (.cst (.int 0))) (.cons (.bin .add (.bor 6) (.cst (.int 1))) .nil)))) (.cons (.ite (.and_ (.bin .eq (.bin .ix (.bor 5) (.bor 7)) (.cst (.int 0))) (.and_ (.bin .is_ (.bin .ix (.bor 4) (.bor 7)) (.cst .non)) (.bin .le (.bor 11) (.bin .mul (.bin .ix (.bor 0) (.bor 7)) (.bor 2))))) (.cons (.seti 4 (.var 7) (.call F__law_low "_law_low" (.cons (.var 11) (.cons (.var 2) .nil)))) .nil) .nil) .nil))) .nil) .nil)))) (.cons (.ret (.blt .tuple (.cons (.bor 4) .nil))) .nil))))))
theorem tl__law_answers : t__law_answers = l__law_answers := by kernel_rfl
def n__law_answers_1 : C := (.and_ (.bin .eq (.bin .ix (.bor 5) (.bor 7)) (.cst (.int 0))) (.and_ (.bin .is_ (.bin .ix (.bor 4) (.bor 7)) (.cst .non)) (.bin .le (.bor 11) (.bin .mul (.bin .ix (.bor 0) (.bor 7)) (.bor 2)))))
def n__law_answers_2 : Cs := (.cons (.bin .gt (.bin .ix (.bor 5) (.bor 7)) (.cst (.int 0))) .nil)
def n__law_answers_3 : T := (.cons (.ite (.bin .eq (.bin .mod (.bor 6) (.bin .mul (.bin .ix (.bor 0) (.bor 7)) (.bor 2))) (.cst (.int 0))) (.cons (.seti 5 (.var 7) (.bin .add (.bin .ix (.bor 5) (.bor 7)) (.bin .ix (.bor 3) (.bor 7)))) .nil) .nil) .nil)
def n__law_answers_4 : T := (.cons (.for_ .rng (.cons (.blt .len (.cons (.bor 3) .nil)) .nil) (.nm 7) n__law_answers_3) (.cons (.set 8 (.lc [7] .rng (.cons (.blt .len (.cons (.bor 3) .nil)) .nil) (.nm 7) n__law_answers_2 (.var 7))) (.cons (.ite (.bin .ne (.bor 8) (.lst .nil)) (.cons (.seti 5 (.bin .ix (.bor 8) (.cst (.int 0))) (.bin .sub (.bin .ix (.bor 5) (.bin .ix (.bor 8) (.cst (.int 0)))) (.cst (.int 1)))) (.cons (.unp (.tp [7, 11]) (.tup (.cons (.bin .ix (.bor 8) (.cst (.int 0))) (.cons (.bin .add (.bor 6) (.cst (.int 1))) .nil)))) (.cons (.ite n__law_answers_1 (.cons (.seti 4 (.var 7) (.call F__law_low "_law_low" (.cons (.var 11) (.cons (.var 2) .nil)))) .nil) .nil) .nil))) .nil) .nil)))
def n__law_answers_5 : C := (.cst (.int 0))
def n__law_answers_6 : C := (.ifx (.bin .eq (.bor 10) (.cst (.int 0))) (.tup (.cons (.cst (.int 0)) (.cons (.cst (.int 1)) .nil))) (.cst .non))
def n__law_answers_7 : C := (.bin .mul (.bin .ix (.bor 9) (.cst (.int 0))) (.bin .fdiv (.bor 2) (.bin .ix (.bor 9) (.cst (.int 1)))))
def n__law_answers : T := (.cons (.set 2 (.call F__law_ticks "_law_ticks" (.cons (.var 1) .nil))) (.cons (.set 3 (.lc [9] .val (.cons (.var 1) .nil) (.nm 9) .nil n__law_answers_7)) (.cons (.seto 4 (.lc [10] .val (.cons (.var 3) .nil) (.nm 10) .nil n__law_answers_6)) (.cons (.seto 5 (.lc [10] .val (.cons (.var 3) .nil) (.nm 10) .nil n__law_answers_5)) (.cons (.for_ .rng (.cons (.bin .mul (.bin .ix (.bor 0) (.neg (.cst (.int 1)))) (.bor 2)) .nil) (.nm 6) n__law_answers_4) (.cons (.ret (.blt .tuple (.cons (.bor 4) .nil))) .nil))))))
theorem r__law_answers : F__law_answers = run B0 12 n__law_answers := by
  unfold F__law_answers
  rw [tl__law_answers]
  rfl
def l__law_in_time : T := (.cons (.ret (.bin .notin (.cst .non) (.call F__law_answers "_law_answers" (.cons (.var 0) (.cons (.var 1) .nil))))) .nil)
theorem tl__law_in_time : t__law_in_time = l__law_in_time := by kernel_rfl
def n__law_in_time : T := (.cons (.ret (.bin .notin (.cst .non) (.call F__law_answers "_law_answers" (.cons (.var 0) (.cons (.var 1) .nil))))) .nil)
theorem r__law_in_time : F__law_in_time = run B0 2 n__law_in_time := by
  unfold F__law_in_time
  rw [tl__law_in_time]
  rfl
def l__law_right : T := (.cons (.unp (.tp [7, 8]) (.tup (.cons (.call F__law_all_periods "_law_all_periods" (.cons (.var 1) (.cons (.var 2) .nil))) (.cons (.tup .nil) .nil)))) (.cons (.set 3 (.ifx (.bin .ne (.bor 7) (.lst .nil)) (.call F__law_chosen "_law_chosen" (.cons (.var 0) (.cons (.var 7) .nil))) (.rngv true (.cons (.cst (.int 1)) (.cons (.bin .add (.bor 1) (.cst (.int 1))) .nil))))) (.cons (.for_ .rng (.cons (.call F__law_pick "_law_pick" (.cons (.var 0) (.cons (.cst (.int 6)) .nil))) .nil) (.nm 4) (.cons (.set 9 (.call F__law_lengths "_law_lengths" (.cons (.var 0) (.cons (.var 3) .nil)))) (.cons (.set 10 (.call F__law_in_time "_law_in_time" (.cons (.var 3) (.cons (.var 9) .nil)))) (.cons (.set 8 (.bin .add (.bor 8) (.tup (.cons (.tup (.cons (.var 9) (.cons (.ifx (.bin .eq (.call F__law_pick "_law_pick" (.cons (.var 0) (.cons (.cst (.int 12)) .nil))) (.cst (.int 0))) (.not_ (.var 10)) (.var 10)) .nil))) .nil)))) .nil)))) (.cons (.seto 5 (.lst .nil)) (.cons (.for_ .val (.cons (.var 7) .nil) (.nm 6) (.cons (.ite (.bin .eq (.lc [9, 10] .val (.cons (.var 8) .nil) (.tp [9, 10]) (.cons (.bin .ne (.call F__law_in_time "_law_in_time" (.cons (.var 6) (.cons (.var 9) .nil))) (.bor 10)) .nil) (.cst (.int 1))) (.lst .nil)) (.cons (.app 5 (.var 6)) .nil) .nil) .nil)) (.cons (.ret (.bin .eq (.call F_periods_told "periods_told" (.cons (.var 1) (.cons (.var 2) (.cons (.var 8) .nil)))) (.bor 5))) .nil))))))
theorem tl__law_right : t__law_right = l__law_right := by kernel_rfl
def n__law_right_1 : Cs := (.cons (.bin .ne (.call F__law_in_time "_law_in_time" (.cons (.var 6) (.cons (.var 9) .nil))) (.bor 10)) .nil)
def n__law_right_2 : C := (.cst (.int 1))
def n__law_right_3 : T := (.cons (.ite (.bin .eq (.lc [9, 10] .val (.cons (.var 8) .nil) (.tp [9, 10]) n__law_right_1 n__law_right_2) (.lst .nil)) (.cons (.app 5 (.var 6)) .nil) .nil) .nil)
def n__law_right_4 : T := (.cons (.set 9 (.call F__law_lengths "_law_lengths" (.cons (.var 0) (.cons (.var 3) .nil)))) (.cons (.set 10 (.call F__law_in_time "_law_in_time" (.cons (.var 3) (.cons (.var 9) .nil)))) (.cons (.set 8 (.bin .add (.bor 8) (.tup (.cons (.tup (.cons (.var 9) (.cons (.ifx (.bin .eq (.call F__law_pick "_law_pick" (.cons (.var 0) (.cons (.cst (.int 12)) .nil))) (.cst (.int 0))) (.not_ (.var 10)) (.var 10)) .nil))) .nil)))) .nil)))
def n__law_right : T := (.cons (.unp (.tp [7, 8]) (.tup (.cons (.call F__law_all_periods "_law_all_periods" (.cons (.var 1) (.cons (.var 2) .nil))) (.cons (.tup .nil) .nil)))) (.cons (.set 3 (.ifx (.bin .ne (.bor 7) (.lst .nil)) (.call F__law_chosen "_law_chosen" (.cons (.var 0) (.cons (.var 7) .nil))) (.rngv true (.cons (.cst (.int 1)) (.cons (.bin .add (.bor 1) (.cst (.int 1))) .nil))))) (.cons (.for_ .rng (.cons (.call F__law_pick "_law_pick" (.cons (.var 0) (.cons (.cst (.int 6)) .nil))) .nil) (.nm 4) n__law_right_4) (.cons (.seto 5 (.lst .nil)) (.cons (.for_ .val (.cons (.var 7) .nil) (.nm 6) n__law_right_3) (.cons (.ret (.bin .eq (.call F_periods_told "periods_told" (.cons (.var 1) (.cons (.var 2) (.cons (.var 8) .nil)))) (.bor 5))) .nil))))))
theorem r__law_right : F__law_right = run B0 11 n__law_right := by
  unfold F__law_right
  rw [tl__law_right]
  rfl
def l_law : T := (.cons (.for_ .rng (.cons (.blt .max (.cons (.cst (.int 4)) (.cons (.blt .min (.cons (.cst (.int 9)) (.cons (.blt .len (.cons (.bor 0) .nil)) .nil))) .nil))) .nil) (.nm 1) (.cons (.set 2 (.call F__law_source "_law_source" (.cons (.var 0) (.cons (.var 1) .nil)))) (.cons (.for_ .rng (.cons (.cst (.int 3)) .nil) (.nm 3) (.cons (.ite (.not_ (.call F__law_right "_law_right" (.cons (.var 2) (.cons (.bin .add (.cst (.int 1)) (.call F__law_pick "_law_pick" (.cons (.var 2) (.cons (.cst (.int 3)) .nil)))) (.cons (.bin .add (.cst (.int 1)) (.call F__law_pick "_law_pick" (.cons (.var 2) (.cons (.cst (.int 6)) .nil)))) .nil))))) (.cons (.ret (.cst (.bl false))) .nil) .nil) .nil)) .nil))) (.cons (.ret (.and_ (.call F__law_written "_law_written" .nil) (.call F__law_refusals "_law_refusals" .nil))) .nil))
theorem tl_law : t_law = l_law := by kernel_rfl
def n_law_1 : C := (.and_ (.call F__law_written "_law_written" .nil) (.call F__law_refusals "_law_refusals" .nil))
def n_law_2 : T := (.cons (.ite (.not_ (.call F__law_right "_law_right" (.cons (.var 2) (.cons (.bin .add (.cst (.int 1)) (.call F__law_pick "_law_pick" (.cons (.var 2) (.cons (.cst (.int 3)) .nil)))) (.cons (.bin .add (.cst (.int 1)) (.call F__law_pick "_law_pick" (.cons (.var 2) (.cons (.cst (.int 6)) .nil)))) .nil))))) (.cons (.ret (.cst (.bl false))) .nil) .nil) .nil)
def n_law_3 : T := (.cons (.set 2 (.call F__law_source "_law_source" (.cons (.var 0) (.cons (.var 1) .nil)))) (.cons (.for_ .rng (.cons (.cst (.int 3)) .nil) (.nm 3) n_law_2) .nil))
def n_law : T := (.cons (.for_ .rng (.cons (.blt .max (.cons (.cst (.int 4)) (.cons (.blt .min (.cons (.cst (.int 9)) (.cons (.blt .len (.cons (.bor 0) .nil)) .nil))) .nil))) .nil) (.nm 1) n_law_3) (.cons (.ret n_law_1) .nil))
theorem r_law : F_law = run B0 4 n_law := by
  unfold F_law
  rw [tl_law]
  rfl
end Lw

end -- LtK51
section -- PlB
set_option maxHeartbeats 0
namespace Pl
open Ev Lw
theorem refusals (S : Sto) : F__law_refusals [] S = .ok (.bl true) S := by kernel_rfl
end Pl

end -- PlB
section -- PlC
set_option maxHeartbeats 0
namespace Pl
open Ev Lw
theorem told1 (S : Sto) : F_periods_told [.int 4, .int 4, .tup []] S = .ok (.lst [.tup [.int 1, .int 2, .int 3, .int 4]]) S := by kernel_rfl
theorem written (S : Sto) : F__law_written [] S = .ok (.bl true) S := by kernel_rfl
end Pl

end -- PlC
section -- PlD
namespace Pl
open Ev Lw
theorem run_to {A : Amb} {n : Nat} {b : T} {vs : List PV} {S S' : Sto} {v : PV} (h : exT A b (vs.map .val ++ List.replicate (n - vs.length) .no) S = .ok (.rt v) S') : run A n b vs S = .ok v S' := by
  unfold run; rw [h]
theorem repl_zero {α : Type} (x : α) : List.replicate 0 x = [] := rfl
def Sm60 (i : Int) : Prop := i.natAbs < 2 ^ 60
theorem mul_sm {i j : Int} (hi : Sm60 i) (hj : Sm60 j) : mulV (.int i) (.int j) = some (.int (i * j)) := by
  have h1 : i.natAbs.log2 < 1000 := by
    by_cases h : i.natAbs = 0
    · rw [h]; decide
    · exact (Nat.log2_lt h).2 (Nat.lt_of_lt_of_le hi (Nat.pow_le_pow_right (by decide) (by decide)))
  have h2 : j.natAbs.log2 < 1000 := by
    by_cases h : j.natAbs = 0
    · rw [h]; decide
    · exact (Nat.log2_lt h).2 (Nat.lt_of_lt_of_le hj (Nat.pow_le_pow_right (by decide) (by decide)))
  have : mulOk i j = true := by unfold mulOk; exact decide_eq_true (by omega)
  simp only [mulV, this, ↓reduceIte]
theorem atI_of {α : Type} {xs : List α} {i : Int} {n : Nat} {x : α} (hi : i = n) (h : xs[n]? = some x) : L2.atI xs i = some x := by
  obtain ⟨hn, _⟩ := List.getElem?_eq_some_iff.1 h
  unfold L2.atI L2.ixN
  subst hi
  rw [if_pos (by omega), if_pos (by omega)]
  simpa using h
theorem atI0 {α : Type} {x : α} {xs : List α} : L2.atI (x :: xs) 0 = some x := atI_of (n := 0) rfl rfl
theorem atI1 {α : Type} {x y : α} {xs : List α} : L2.atI (x :: y :: xs) 1 = some y := atI_of (n := 1) rfl rfl
theorem atI2 {α : Type} {x y z : α} {xs : List α} : L2.atI (x :: y :: z :: xs) 2 = some z := atI_of (n := 2) rfl rfl
theorem at_most_ok {a b c d : Int} {S : Sto} (ha : Sm60 a) (hb : Sm60 b) (hc : Sm60 c) (hd : Sm60 d) : F_at_most [.tup [.int a, .int b], .tup [.int c, .int d]] S = .ok (.bl (decide (a * d ≤ c * b))) S := by
  unfold F_at_most
  rw [tl_at_most]
  refine run_to ?_
  unfold l_at_most
  simp -implicitDefEqProofs only [exT, exS, ev, evs, bind_ok, to_ok, seq_nx, seq_rt, seq_ex, of_some, truth_bl, truthQ_bl, List.map_cons, List.map_nil, List.length_cons, List.length_nil, List.cons_append, List.nil_append, List.replicate_succ, List.replicate_zero, Nat.reduceAdd, Nat.reduceSub, Nat.zero_add, List.getElem?_cons_zero, List.getElem?_cons_succ, List.set_cons_zero, List.set_cons_succ, slVar, slBor, bop, ixV, seqOf, intOp, addV, blt, setL, bindT, bindQ, Option.map_some, ↓reduceIte]
  simp only [atI0, atI1, of_some, bind_ok, mul_sm ha hd, mul_sm hc hb, to_ok, seq_rt]
/-- whole numbers as the text computes with them -/
theorem whl_gcd {c : List Sl → Sto → R PV} {b : List Sl → Sto → Qr} {st : Nat → Nat → List Sl} {S : Sto}
    (hc : ∀ x y, c (st x y) S = .ok (.bl (!decide (y = 0))) S) (hb : ∀ x y, 0 < y → b (st x y) S = .ok (.nx (st y (x % y))) S) :
    ∀ {n x y : Nat}, y < n → whileM c b n (st x y) S = .ok (.nx (st (Nat.gcd x y) 0)) S
  | 0, _, _, h => by omega
  | n + 1, x, y, h => by
    unfold whileM
    rw [hc]
    simp only [to_ok, truthQ_bl]
    by_cases h0 : y = 0
    · subst h0
      simp
    · have hp : 0 < y := Nat.pos_of_ne_zero h0
      rw [if_pos (by simpa using h0), hb x y hp, seq_nx, whl_gcd hc hb (Nat.lt_of_lt_of_le (Nat.mod_lt x hp) (by omega)), Nat.gcd_comm x y, Nat.gcd_rec y x, Nat.gcd_comm]
theorem dataInt {i : Int} : data (.int i) = true := rfl
theorem eqInt {i j : Int} : eqV (.int i) (.int j) = some (decide (i = j)) := by
  unfold eqV
  rw [if_pos ⟨dataInt, dataInt⟩]
  simp only [eqB]
  rfl
theorem divisor_ok {x y : Nat} {S : Sto} (hy : y < 1000000) : F__law_divisor [.int x, .int y] S = .ok (.int (Nat.gcd x y)) S := by
  unfold F__law_divisor
  rw [tl__law_divisor]
  refine run_to ?_
  unfold l__law_divisor
  rw [exT, exS]
  simp only [List.map_cons, List.map_nil, List.length_cons, List.length_nil, List.cons_append, List.nil_append, List.replicate_succ, List.replicate_zero, Nat.reduceAdd, Nat.reduceSub, Nat.zero_add]
  rw [whl_gcd (st := fun x y => [.val (.int x), .val (.int y)]) (S := S) (n := fuel) (x := x) (y := y) ?_ ?_ (by unfold fuel; omega)]
  · simp -implicitDefEqProofs only [exT, exS, ev, evs, bind_ok, to_ok, seq_nx, seq_rt, seq_ex, of_some, truth_bl, truthQ_bl, List.map_cons, List.map_nil, List.length_cons, List.length_nil, List.cons_append, List.nil_append, List.replicate_succ, List.replicate_zero, Nat.reduceAdd, Nat.reduceSub, Nat.zero_add, List.getElem?_cons_zero, List.getElem?_cons_succ, List.set_cons_zero, List.set_cons_succ, slVar, slBor, bop, ixV, seqOf, intOp, addV, blt, setL, bindT, bindQ, Option.map_some, ↓reduceIte]
  · intro x y
    simp -implicitDefEqProofs only [exT, exS, ev, evs, bind_ok, to_ok, seq_nx, seq_rt, seq_ex, of_some, truth_bl, truthQ_bl, List.map_cons, List.map_nil, List.length_cons, List.length_nil, List.cons_append, List.nil_append, List.replicate_succ, List.replicate_zero, Nat.reduceAdd, Nat.reduceSub, Nat.zero_add, List.getElem?_cons_zero, List.getElem?_cons_succ, List.set_cons_zero, List.set_cons_succ, slVar, slBor, bop, ixV, seqOf, intOp, addV, blt, setL, bindT, bindQ, Option.map_some, ↓reduceIte, eqInt]
    congr 3
    simp
  · intro x y hy
    have h1 : (0 : Int) < y := by omega
    simp -implicitDefEqProofs only [exT, exS, ev, evs, bind_ok, to_ok, seq_nx, seq_rt, seq_ex, of_some, truth_bl, truthQ_bl, List.map_cons, List.map_nil, List.length_cons, List.length_nil, List.cons_append, List.nil_append, List.replicate_succ, List.replicate_zero, Nat.reduceAdd, Nat.reduceSub, Nat.zero_add, List.getElem?_cons_zero, List.getElem?_cons_succ, List.set_cons_zero, List.set_cons_succ, slVar, slBor, bop, ixV, seqOf, intOp, addV, blt, setL, bindT, bindQ, Option.map_some, ↓reduceIte, h1]
    simp
/-- w parts of T: the fraction in lowest terms -/
def fr (w T : Nat) : PV := .tup [.int (w / Nat.gcd w T : Nat), .int (T / Nat.gcd w T : Nat)]
theorem ratio_ok {x y : Nat} {S : Sto} (hx : x < 1000000000000) (hy : 0 < y) (hy2 : y < 1000000) : F_ratio [.int x, .int y] S = .ok (fr x y) S := by
  have hg : 0 < Nat.gcd x y := Nat.gcd_pos_of_pos_right _ hy
  have hg2 : Nat.gcd x y ≤ y := Nat.gcd_le_right _ hy
  unfold F_ratio
  rw [tl_ratio]
  refine run_to ?_
  unfold l_ratio
  rw [exT]
  simp only [List.map_cons, List.map_nil, List.length_cons, List.length_nil, List.cons_append, List.nil_append, List.replicate_succ, List.replicate_zero, Nat.reduceAdd, Nat.reduceSub, Nat.zero_add]
  simp -implicitDefEqProofs only [exT, exS, ev, evs, bind_ok, to_ok, seq_nx, seq_rt, seq_ex, of_some, truth_bl, truthQ_bl, List.map_cons, List.map_nil, List.length_cons, List.length_nil, List.cons_append, List.nil_append, List.replicate_succ, List.replicate_zero, Nat.reduceAdd, Nat.reduceSub, Nat.zero_add, List.getElem?_cons_zero, List.getElem?_cons_succ, List.set_cons_zero, List.set_cons_succ, slVar, slBor, bop, ixV, seqOf, intOp, addV, blt, setL, bindT, bindQ, Option.map_some, ↓reduceIte]
  have e1 : ¬ ((x : Int) < 0) := by omega
  have e2 : ¬ ((y : Int) < 0) := by omega
  have e3 : (0 : Int) < y := by omega
  simp only [e1, e2, e3, ↓reduceIte, decide_true, of_some, bind_ok, to_ok, seq_nx]
  rw [whl_gcd (st := fun a b => [.val (.int x), .val (.int y), .no, .val (.int a), .val (.int b)]) (S := S) (n := fuel) (x := x) (y := y) ?_ ?_ (by unfold fuel; omega)]
  · have e4 : divOk ((Nat.gcd x y : Nat) : Int) = true := by
      unfold divOk
      have : (Nat.gcd x y).log2 < 9000 := (Nat.log2_lt (by omega)).2 (Nat.lt_of_lt_of_le (m := 2 ^ 20) (by omega) (Nat.pow_le_pow_right (by decide) (by decide)))
      simp only [Int.natAbs_natCast, this, decide_true, Bool.and_true]
      exact decide_eq_true (by omega)
    have m1 : mulV (.int 1) (.int x) = some (.int x) := by rw [mul_sm (by unfold Sm60; decide) (by unfold Sm60; omega), Int.one_mul]
    have m2 : mulV (.int 1) (.int y) = some (.int y) := by rw [mul_sm (by unfold Sm60; decide) (by unfold Sm60; omega), Int.one_mul]
    simp -implicitDefEqProofs only [exT, exS, ev, evs, bind_ok, to_ok, seq_nx, seq_rt, seq_ex, of_some, truth_bl, truthQ_bl, List.map_cons, List.map_nil, List.length_cons, List.length_nil, List.cons_append, List.nil_append, List.replicate_succ, List.replicate_zero, Nat.reduceAdd, Nat.reduceSub, Nat.zero_add, List.getElem?_cons_zero, List.getElem?_cons_succ, List.set_cons_zero, List.set_cons_succ, slVar, slBor, bop, ixV, seqOf, intOp, addV, blt, setL, bindT, bindQ, Option.map_some, ↓reduceIte, e3, decide_true, e4, m1, m2, fr, Int.natCast_ediv]
  · intro x y
    simp -implicitDefEqProofs only [exT, exS, ev, evs, bind_ok, to_ok, seq_nx, seq_rt, seq_ex, of_some, truth_bl, truthQ_bl, List.map_cons, List.map_nil, List.length_cons, List.length_nil, List.cons_append, List.nil_append, List.replicate_succ, List.replicate_zero, Nat.reduceAdd, Nat.reduceSub, Nat.zero_add, List.getElem?_cons_zero, List.getElem?_cons_succ, List.set_cons_zero, List.set_cons_succ, slVar, slBor, bop, ixV, seqOf, intOp, addV, blt, setL, bindT, bindQ, Option.map_some, ↓reduceIte, eqInt]
    congr 3
    simp
  · intro x y hy
    have h1 : (0 : Int) < y := by omega
    simp -implicitDefEqProofs only [exT, exS, ev, evs, bind_ok, to_ok, seq_nx, seq_rt, seq_ex, of_some, truth_bl, truthQ_bl, List.map_cons, List.map_nil, List.length_cons, List.length_nil, List.cons_append, List.nil_append, List.replicate_succ, List.replicate_zero, Nat.reduceAdd, Nat.reduceSub, Nat.zero_add, List.getElem?_cons_zero, List.getElem?_cons_succ, List.set_cons_zero, List.set_cons_succ, slVar, slBor, bop, ixV, seqOf, intOp, addV, blt, setL, bindT, bindQ, Option.map_some, ↓reduceIte, h1]
    simp
theorem fr_top {w T : Nat} (h : 0 < T) : w / Nat.gcd w T ≤ w := Nat.div_le_self _ _
theorem fr_eq {a b c d : Nat} (hb : 0 < b) (hd : 0 < d) (h : a * d = c * b) : fr a b = fr c d := by
  have hg : 0 < Nat.gcd a b := Nat.gcd_pos_of_pos_right _ hb
  have hh : 0 < Nat.gcd c d := Nat.gcd_pos_of_pos_right _ hd
  have e : Nat.gcd a b * d = b * Nat.gcd c d := by
    rw [← Nat.gcd_mul_right, ← Nat.gcd_mul_left, h, Nat.mul_comm c b]
  have e2 : a * Nat.gcd c d = c * Nat.gcd a b := by
    apply Nat.eq_of_mul_eq_mul_right hd
    rw [Nat.mul_assoc, Nat.mul_comm (Nat.gcd c d) d, ← Nat.mul_assoc, h, Nat.mul_assoc, Nat.mul_assoc, e]
  have e3 : b * Nat.gcd c d = d * Nat.gcd a b := by rw [← e, Nat.mul_comm]
  have key : ∀ {p q g k : Nat}, 0 < g → 0 < k → g ∣ p → k ∣ q → p * k = q * g → p / g = q / k := by
    intro p q g k hg hk ⟨p', hp⟩ ⟨q', hq⟩ h
    subst hp hq
    rw [Nat.mul_div_cancel_left _ hg, Nat.mul_div_cancel_left _ hk]
    have : (g * k) * p' = (g * k) * q' := by
      rw [Nat.mul_right_comm, h, Nat.mul_comm k q', Nat.mul_assoc, Nat.mul_comm q', Nat.mul_comm k g]
    exact Nat.eq_of_mul_eq_mul_left (Nat.mul_pos hg hk) this
  unfold fr
  rw [key hg hh (Nat.gcd_dvd_left _ _) (Nat.gcd_dvd_left _ _) e2, key hg hh (Nat.gcd_dvd_right _ _) (Nat.gcd_dvd_right _ _) e3]
theorem fr_nat {w T : Nat} {S : Sto} : ∃ a b : Nat, fr w T = .tup [.int a, .int b] ∧ a ≤ w ∧ b ≤ T ∧ a * Nat.gcd w T = w ∧ b * Nat.gcd w T = T := ⟨w / Nat.gcd w T, T / Nat.gcd w T, rfl, Nat.div_le_self _ _, Nat.div_le_self _ _, Nat.div_mul_cancel (Nat.gcd_dvd_left _ _), Nat.div_mul_cancel (Nat.gcd_dvd_right _ _)⟩
end Pl

end -- PlD
section -- PlE
namespace Pl
open Ev Lw
theorem at_most_fr {w T v U : Nat} {S : Sto} (hT : 0 < T) (hU : 0 < U) (hw : w < 2 ^ 30) (hT2 : T < 2 ^ 30) (hv : v < 2 ^ 30) (hU2 : U < 2 ^ 30) : F_at_most [fr w T, fr v U] S = .ok (.bl (decide (w * U ≤ v * T))) S := by
  obtain ⟨a, b, e1, a1, b1, a2, b2⟩ := fr_nat (w := w) (T := T) (S := S)
  obtain ⟨c, d, e2, c1, d1, c2, d2⟩ := fr_nat (w := v) (T := U) (S := S)
  have hg : 0 < Nat.gcd w T := Nat.gcd_pos_of_pos_right _ hT
  have hh : 0 < Nat.gcd v U := Nat.gcd_pos_of_pos_right _ hU
  rw [e1, e2, at_most_ok (by unfold Sm60; omega) (by unfold Sm60; omega) (by unfold Sm60; omega) (by unfold Sm60; omega)]
  congr 2
  apply decide_eq_decide.2
  generalize Nat.gcd w T = g at *
  generalize Nat.gcd v U = h at *
  subst a2 b2 c2 d2
  have : a * g * (d * h) ≤ c * h * (b * g) ↔ a * d ≤ c * b := by
    rw [show a * g * (d * h) = (a * d) * (g * h) by ac_rfl, show c * h * (b * g) = (c * b) * (g * h) by ac_rfl]
    exact Nat.mul_le_mul_right_iff (Nat.mul_pos hg hh)
  rw [this]
  omega
theorem plus_fr {w T v : Nat} {S : Sto} (hT : 0 < T) (hw : w < 2 ^ 28) (hT2 : T < 900) (hv : v < 2 ^ 28) : F_plus [fr w T, fr v T] S = .ok (fr (w + v) T) S := by
  obtain ⟨a, b, e1, a1, b1, a2, b2⟩ := fr_nat (w := w) (T := T) (S := S)
  obtain ⟨c, d, e2, c1, d1, c2, d2⟩ := fr_nat (w := v) (T := T) (S := S)
  have hg : 0 < Nat.gcd w T := Nat.gcd_pos_of_pos_right _ hT
  have hh : 0 < Nat.gcd v T := Nat.gcd_pos_of_pos_right _ hT
  have hb : 0 < b := Nat.pos_of_ne_zero fun z => by subst z; omega
  have hd : 0 < d := Nat.pos_of_ne_zero fun z => by subst z; omega
  have p1 : a * d ≤ 2 ^ 28 * 900 := Nat.mul_le_mul (by omega) (by omega)
  have p2 : c * b ≤ 2 ^ 28 * 900 := Nat.mul_le_mul (by omega) (by omega)
  have p3 : b * d ≤ 900 * 900 := Nat.mul_le_mul (by omega) (by omega)
  unfold F_plus
  rw [tl_plus]
  refine run_to ?_
  unfold l_plus
  rw [e1, e2]
  simp only [List.map_cons, List.map_nil, List.length_cons, List.length_nil, List.cons_append, List.nil_append, List.replicate_succ, List.replicate_zero, Nat.reduceAdd, Nat.reduceSub, Nat.zero_add]
  simp -implicitDefEqProofs only [exT, exS, ev, evs, bind_ok, to_ok, seq_nx, seq_rt, seq_ex, of_some, truth_bl, truthQ_bl, List.map_cons, List.map_nil, List.length_cons, List.length_nil, List.cons_append, List.nil_append, List.replicate_succ, List.replicate_zero, Nat.reduceAdd, Nat.reduceSub, Nat.zero_add, List.getElem?_cons_zero, List.getElem?_cons_succ, List.set_cons_zero, List.set_cons_succ, slVar, slBor, bop, ixV, seqOf, intOp, addV, blt, setL, bindT, bindQ, Option.map_some, ↓reduceIte, atI0, atI1, mul_sm (i := a) (j := d) (by unfold Sm60; omega) (by unfold Sm60; omega), mul_sm (i := c) (j := b) (by unfold Sm60; omega) (by unfold Sm60; omega), mul_sm (i := b) (j := d) (by unfold Sm60; omega) (by unfold Sm60; omega)]
  rw [show ((a : Int) * d + c * b) = ((a * d + c * b : Nat) : Int) by push_cast; rfl, show ((b : Int) * d) = ((b * d : Nat) : Int) by push_cast; rfl, ratio_ok (by omega) (Nat.mul_pos hb hd) (by omega)]
  simp -implicitDefEqProofs only [exT, exS, ev, evs, bind_ok, to_ok, seq_nx, seq_rt, seq_ex, of_some, truth_bl, truthQ_bl, List.map_cons, List.map_nil, List.length_cons, List.length_nil, List.cons_append, List.nil_append, List.replicate_succ, List.replicate_zero, Nat.reduceAdd, Nat.reduceSub, Nat.zero_add, List.getElem?_cons_zero, List.getElem?_cons_succ, List.set_cons_zero, List.set_cons_succ, slVar, slBor, bop, ixV, seqOf, intOp, addV, blt, setL, bindT, bindQ, Option.map_some, ↓reduceIte]
  rw [fr_eq (c := w + v) (d := T) (Nat.mul_pos hb hd) hT]
  calc (a * d + c * b) * T = a * d * T + c * b * T := Nat.add_mul _ _ _
    _ = a * d * (b * Nat.gcd w T) + c * b * (d * Nat.gcd v T) := by rw [b2, d2]
    _ = (a * Nat.gcd w T) * (b * d) + (c * Nat.gcd v T) * (b * d) := by ac_rfl
    _ = (w + v) * (b * d) := by rw [a2, c2, Nat.add_mul]
theorem product_fr {w T k : Nat} {S : Sto} (hT : 0 < T) (hw : w < 2 ^ 19) (hT2 : T < 900) (hk : k < 2 ^ 19) : F_product [fr w T, .tup [.int k, .int 1]] S = .ok (fr (w * k) T) S := by
  obtain ⟨a, b, e1, a1, b1, a2, b2⟩ := fr_nat (w := w) (T := T) (S := S)
  have hb : 0 < b := Nat.pos_of_ne_zero fun z => by subst z; omega
  have p1 : a * k ≤ 2 ^ 19 * 2 ^ 19 := Nat.mul_le_mul (by omega) (by omega)
  unfold F_product
  rw [tl_product]
  refine run_to ?_
  unfold l_product
  rw [e1]
  simp only [List.map_cons, List.map_nil, List.length_cons, List.length_nil, List.cons_append, List.nil_append, List.replicate_succ, List.replicate_zero, Nat.reduceAdd, Nat.reduceSub, Nat.zero_add]
  simp -implicitDefEqProofs only [exT, exS, ev, evs, bind_ok, to_ok, seq_nx, seq_rt, seq_ex, of_some, truth_bl, truthQ_bl, List.map_cons, List.map_nil, List.length_cons, List.length_nil, List.cons_append, List.nil_append, List.replicate_succ, List.replicate_zero, Nat.reduceAdd, Nat.reduceSub, Nat.zero_add, List.getElem?_cons_zero, List.getElem?_cons_succ, List.set_cons_zero, List.set_cons_succ, slVar, slBor, bop, ixV, seqOf, intOp, addV, blt, setL, bindT, bindQ, Option.map_some, ↓reduceIte, atI0, atI1, mul_sm (i := a) (j := k) (by unfold Sm60; omega) (by unfold Sm60; omega), mul_sm (i := b) (j := 1) (by unfold Sm60; omega) (by unfold Sm60; decide), Int.mul_one]
  rw [show ((a : Int) * k) = ((a * k : Nat) : Int) by push_cast; rfl, ratio_ok (by omega) hb (by omega)]
  simp -implicitDefEqProofs only [exT, exS, ev, evs, bind_ok, to_ok, seq_nx, seq_rt, seq_ex, of_some, truth_bl, truthQ_bl, List.map_cons, List.map_nil, List.length_cons, List.length_nil, List.cons_append, List.nil_append, List.replicate_succ, List.replicate_zero, Nat.reduceAdd, Nat.reduceSub, Nat.zero_add, List.getElem?_cons_zero, List.getElem?_cons_succ, List.set_cons_zero, List.set_cons_succ, slVar, slBor, bop, ixV, seqOf, intOp, addV, blt, setL, bindT, bindQ, Option.map_some, ↓reduceIte]
  rw [fr_eq (c := w * k) (d := T) hb hT]
  calc a * k * T = a * k * (b * Nat.gcd w T) := by rw [b2]
    _ = (a * Nat.gcd w T) * k * b := by ac_rfl
    _ = w * k * b := by rw [a2]
def cdiv (x y : Nat) : Nat := (x + y - 1) / y
theorem cdiv_int {x y : Nat} (hy : 0 < y) : (0 : Int) - (0 - (x : Int)) / (y : Int) = (cdiv x y : Nat) := by
  unfold cdiv
  have h1 : (x : Int) + y - 1 = ((x + y - 1 : Nat) : Int) := by omega
  have h2 : (0 - (x : Int)) / (y : Int) = -(((x + y - 1) / y : Nat) : Int) := by
    apply Int.le_antisymm
    · apply Int.le_of_lt_add_one
      apply Int.ediv_lt_of_lt_mul (by omega)
      have := Nat.div_add_mod (x + y - 1) y
      have := Nat.mod_lt (x + y - 1) hy
      have e : (-(((x + y - 1) / y : Nat) : Int) + 1) * y = y - ((y * ((x + y - 1) / y) : Nat) : Int) := by
        push_cast; rw [Int.add_mul, Int.neg_mul, Int.one_mul, Int.mul_comm]; omega
      omega
    · apply Int.le_ediv_of_mul_le (by omega)
      have := Nat.div_add_mod (x + y - 1) y
      have := Nat.mod_lt (x + y - 1) hy
      have e : (-(((x + y - 1) / y : Nat) : Int)) * y = - ((y * ((x + y - 1) / y) : Nat) : Int) := by
        push_cast; rw [Int.neg_mul, Int.mul_comm]
      omega
  omega
theorem cdiv_le {x y n : Nat} (hy : 0 < y) : cdiv x y ≤ n ↔ x ≤ n * y := by
  unfold cdiv
  rw [← Nat.lt_succ_iff, Nat.div_lt_iff_lt_mul hy, Nat.succ_mul]
  omega
theorem cdiv_mul {x y g : Nat} (hy : 0 < y) (hg : 0 < g) : cdiv (x * g) (y * g) = cdiv x y := by
  have key : ∀ n, cdiv (x * g) (y * g) ≤ n ↔ cdiv x y ≤ n := fun n => by
    rw [cdiv_le (Nat.mul_pos hy hg), cdiv_le hy, ← Nat.mul_assoc]
    exact Nat.mul_le_mul_right_iff hg
  exact Nat.le_antisymm ((key _).2 (Nat.le_refl _)) ((key _).1 (Nat.le_refl _))
theorem divOk_nat {y : Nat} (h : 0 < y) (h2 : y < 2 ^ 60) : divOk (y : Int) = true := by
  unfold divOk
  have : y.log2 < 9000 := (Nat.log2_lt (by omega)).2 (Nat.lt_of_lt_of_le h2 (Nat.pow_le_pow_right (by decide) (by decide)))
  simp only [Int.natAbs_natCast, this, decide_true, Bool.and_true]
  exact decide_eq_true (by omega)
theorem often_fr {p w T : Nat} {S : Sto} (hp : 0 < p) (hT : 0 < T) (hp2 : p < 1000) (hT2 : T < 900) : F_often [.int p, fr w T] S = .ok (.int (cdiv w (p * T) : Nat)) S := by
  obtain ⟨a, b, e1, a1, b1, a2, b2⟩ := fr_nat (w := w) (T := T) (S := S)
  have hb : 0 < b := Nat.pos_of_ne_zero fun z => by subst z; omega
  have hg : 0 < Nat.gcd w T := Nat.gcd_pos_of_pos_right _ hT
  have hm : p * b ≤ 1000 * 900 := Nat.mul_le_mul (by omega) (by omega)
  unfold F_often
  rw [tl_often]
  refine run_to ?_
  unfold l_often
  rw [e1]
  simp only [List.map_cons, List.map_nil, List.length_cons, List.length_nil, List.cons_append, List.nil_append, List.replicate_succ, List.replicate_zero, Nat.reduceAdd, Nat.reduceSub, Nat.zero_add]
  simp -implicitDefEqProofs only [exT, exS, ev, evs, bind_ok, to_ok, seq_nx, seq_rt, seq_ex, of_some, truth_bl, truthQ_bl, List.map_cons, List.map_nil, List.length_cons, List.length_nil, List.cons_append, List.nil_append, List.replicate_succ, List.replicate_zero, Nat.reduceAdd, Nat.reduceSub, Nat.zero_add, List.getElem?_cons_zero, List.getElem?_cons_succ, List.set_cons_zero, List.set_cons_succ, slVar, slBor, bop, ixV, seqOf, intOp, addV, blt, setL, bindT, bindQ, Option.map_some, ↓reduceIte, atI0, atI1, mul_sm (i := p) (j := b) (by unfold Sm60; omega) (by unfold Sm60; omega)]
  rw [show ((p : Int) * b) = ((p * b : Nat) : Int) by push_cast; rfl, divOk_nat (Nat.mul_pos hp hb) (by omega)]
  simp -implicitDefEqProofs only [exT, exS, ev, evs, bind_ok, to_ok, seq_nx, seq_rt, seq_ex, of_some, truth_bl, truthQ_bl, List.map_cons, List.map_nil, List.length_cons, List.length_nil, List.cons_append, List.nil_append, List.replicate_succ, List.replicate_zero, Nat.reduceAdd, Nat.reduceSub, Nat.zero_add, List.getElem?_cons_zero, List.getElem?_cons_succ, List.set_cons_zero, List.set_cons_succ, slVar, slBor, bop, ixV, seqOf, intOp, addV, blt, setL, bindT, bindQ, Option.map_some, ↓reduceIte]
  rw [cdiv_int (Nat.mul_pos hp hb)]
  congr 4
  rw [← cdiv_mul (Nat.mul_pos hp hb) hg, a2, Nat.mul_assoc, b2]
def need (T t : Nat) : List Nat → List Nat → Nat
  | p :: ps, w :: ws => w * cdiv t (p * T) + need T t ps ws
  | _, _ => 0
def perP (ps : List Nat) : PV := .tup (ps.map fun (p : Nat) => .int (p : Int))
def lenP (T : Nat) (ws : List Nat) : PV := .tup (ws.map fun w => fr w T)
theorem need_loop {T t : Nat} {S : Sto} {f : PV → List Sl → Sto → Qr} {st : PV → Sl → Sl → List Sl} {Bd : Nat}
    (hf : ∀ p w acc s5 s6, 0 < p → p < 1000 → w < 4096 → acc + w * cdiv t (p * T) ≤ Bd → f (.tup [.int (p : Nat), fr w T]) (st (fr acc T) s5 s6) S = .ok (.nx (st (fr (acc + w * cdiv t (p * T)) T) (.val (.int (p : Nat))) (.val (fr w T)))) S) :
    ∀ {ps ws : List Nat} {acc : Nat} {s5 s6 : Sl}, (∀ p ∈ ps, 0 < p ∧ p < 1000) → (∀ w ∈ ws, w < 4096) → acc + need T t ps ws ≤ Bd →
      ∃ s5' s6', Ev.forM f (List.zipWith (fun x y => .tup [x, y]) (ps.map fun (p : Nat) => .int (p : Int)) (ws.map fun w => fr w T)) (st (fr acc T) s5 s6) S = .ok (.nx (st (fr (acc + need T t ps ws) T) s5' s6')) S
  | [], ws, acc, s5, s6, _, _, _ => by refine ⟨s5, s6, ?_⟩; simp [Ev.forM, need]
  | p :: ps, [], acc, s5, s6, _, _, _ => by refine ⟨s5, s6, ?_⟩; simp [Ev.forM, need]
  | p :: ps, w :: ws, acc, s5, s6, h1, h2, h3 => by
    simp only [need] at h3
    obtain ⟨s5', s6', e⟩ := need_loop hf (ps := ps) (ws := ws) (acc := acc + w * cdiv t (p * T)) (s5 := .val (.int (p : Nat))) (s6 := .val (fr w T)) (fun q hq => h1 q (List.mem_cons_of_mem _ hq)) (fun q hq => h2 q (List.mem_cons_of_mem _ hq)) (by omega)
    refine ⟨s5', s6', ?_⟩
    simp only [List.map_cons, List.zipWith_cons_cons, need]
    unfold Ev.forM
    rw [hf p w acc s5 s6 (h1 p List.mem_cons_self).1 (h1 p List.mem_cons_self).2 (h2 w List.mem_cons_self) (by omega), seq_nx, e, Nat.add_assoc]
theorem cut_take {xs : List PV} {n : Nat} : cutP xs none (some (n : Int)) = xs.take n := by
  unfold cutP
  rw [HT.sIx_none, HT.sIx_nat, List.drop_zero, Nat.sub_zero]
  exact (List.take_eq_take_min).symm
theorem seq_of {q : Qr} {k : List Sl → Sto → Qr} {r : Qr} {S : Sto} (P : List Sl → Prop) (h : ∃ ρ, P ρ ∧ q = .ok (.nx ρ) S) (h2 : ∀ ρ, P ρ → k ρ S = r) : q.seq k = r := by
  obtain ⟨ρ, h, e⟩ := h
  rw [e, seq_nx]
  exact h2 ρ h
theorem need_body {T t n : Nat} {S : Sto} {ps ws : List Nat} (hT : 0 < T) (hT2 : T < 900) (ht : t < 2 ^ 19) (p w acc : Nat) (s5 s6 : Sl) (hp : 0 < p) (hp2 : p < 1000) (hw : w < 4096) (hb : acc + w * cdiv t (p * T) ≤ 2 ^ 27) :
    (fun x ρ1 S2 => bindQ (.tp [5, 6]) x ρ1 fun ρ2 => exT B0 (.cons (.set 4 (.call F_plus "plus" (.cons (.var 4) (.cons (.call F_product "product" (.cons (.var 6) (.cons (.tup (.cons (.call F_often "often" (.cons (.var 5) (.cons (.var 3) .nil))) (.cons (.cst (.int 1)) .nil))) .nil))) .nil)))) .nil) ρ2 S2) (.tup [.int (p : Nat), fr w T]) [.val (perP ps), .val (lenP T ws), .val (.int n), .val (fr t T), .val (fr acc T), s5, s6] S
     = .ok (.nx [.val (perP ps), .val (lenP T ws), .val (.int n), .val (fr t T), .val (fr (acc + w * cdiv t (p * T)) T), .val (.int (p : Nat)), .val (fr w T)]) S := by
  have hc : cdiv t (p * T) < 2 ^ 19 := by
    refine Nat.lt_of_le_of_lt ?_ ht
    rw [cdiv_le (Nat.mul_pos hp hT)]
    exact Nat.le_mul_of_pos_right _ (Nat.mul_pos hp hT)
  simp -implicitDefEqProofs only [exT, exS, ev, evs, bind_ok, to_ok, seq_nx, seq_rt, seq_ex, of_some, truth_bl, truthQ_bl, List.map_cons, List.map_nil, List.length_cons, List.length_nil, List.cons_append, List.nil_append, List.replicate_succ, List.replicate_zero, Nat.reduceAdd, Nat.reduceSub, Nat.zero_add, List.getElem?_cons_zero, List.getElem?_cons_succ, List.set_cons_zero, List.set_cons_succ, slVar, slBor, bop, ixV, seqOf, intOp, addV, blt, setL, bindT, bindQ, Option.map_some, ↓reduceIte, if_pos]
  rw [often_fr hp hT hp2 hT2]
  simp -implicitDefEqProofs only [exT, exS, ev, evs, bind_ok, to_ok, seq_nx, seq_rt, seq_ex, of_some, truth_bl, truthQ_bl, List.map_cons, List.map_nil, List.length_cons, List.length_nil, List.cons_append, List.nil_append, List.replicate_succ, List.replicate_zero, Nat.reduceAdd, Nat.reduceSub, Nat.zero_add, List.getElem?_cons_zero, List.getElem?_cons_succ, List.set_cons_zero, List.set_cons_succ, slVar, slBor, bop, ixV, seqOf, intOp, addV, blt, setL, bindT, bindQ, Option.map_some, ↓reduceIte]
  rw [product_fr (k := cdiv t (p * T)) hT (by omega) hT2 hc]
  simp -implicitDefEqProofs only [exT, exS, ev, evs, bind_ok, to_ok, seq_nx, seq_rt, seq_ex, of_some, truth_bl, truthQ_bl, List.map_cons, List.map_nil, List.length_cons, List.length_nil, List.cons_append, List.nil_append, List.replicate_succ, List.replicate_zero, Nat.reduceAdd, Nat.reduceSub, Nat.zero_add, List.getElem?_cons_zero, List.getElem?_cons_succ, List.set_cons_zero, List.set_cons_succ, slVar, slBor, bop, ixV, seqOf, intOp, addV, blt, setL, bindT, bindQ, Option.map_some, ↓reduceIte]
  rw [plus_fr hT (by omega) hT2 (by omega)]
  simp -implicitDefEqProofs only [exT, exS, ev, evs, bind_ok, to_ok, seq_nx, seq_rt, seq_ex, of_some, truth_bl, truthQ_bl, List.map_cons, List.map_nil, List.length_cons, List.length_nil, List.cons_append, List.nil_append, List.replicate_succ, List.replicate_zero, Nat.reduceAdd, Nat.reduceSub, Nat.zero_add, List.getElem?_cons_zero, List.getElem?_cons_succ, List.set_cons_zero, List.set_cons_succ, slVar, slBor, bop, ixV, seqOf, intOp, addV, blt, setL, bindT, bindQ, Option.map_some, ↓reduceIte]
end Pl

end -- PlE
section -- PlF
namespace Pl
open Ev Lw
theorem need_at_ok {T t n : Nat} {S : Sto} {ps ws : List Nat} (hT : 0 < T) (hT2 : T < 900) (ht : t < 2 ^ 19) (h1 : ∀ p ∈ ps, 0 < p ∧ p < 1000) (h2 : ∀ w ∈ ws, w < 4096) (h3 : need T t (ps.take (n + 1)) ws < 2 ^ 27) : F_need_at [perP ps, lenP T ws, .int (n : Nat), fr t T] S = .ok (fr (need T t (ps.take (n + 1)) ws) T) S := by
  have hB := need_body (n := n) (S := S) (ps := ps) (ws := ws) hT hT2 ht
  unfold F_need_at
  rw [tl_need_at]
  refine run_to ?_
  unfold l_need_at
  generalize (Ev.T.cons (.set 4 (.call F_plus "plus" (.cons (.var 4) (.cons (.call F_product "product" (.cons (.var 6) (.cons (.tup (.cons (.call F_often "often" (.cons (.var 5) (.cons (.var 3) .nil))) (.cons (.cst (.int 1)) .nil))) .nil))) .nil)))) .nil) = B at hB ⊢
  simp only [List.map_cons, List.map_nil, List.length_cons, List.length_nil, List.cons_append, List.nil_append, List.replicate_succ, List.replicate_zero, Nat.reduceAdd, Nat.reduceSub, Nat.zero_add]
  simp -implicitDefEqProofs only [exT, exS, ev, evs, bind_ok, to_ok, seq_nx, seq_rt, seq_ex, of_some, truth_bl, truthQ_bl, List.map_cons, List.map_nil, List.length_cons, List.length_nil, List.cons_append, List.nil_append, List.replicate_succ, List.replicate_zero, Nat.reduceAdd, Nat.reduceSub, Nat.zero_add, List.getElem?_cons_zero, List.getElem?_cons_succ, List.set_cons_zero, List.set_cons_succ, slVar, slBor, bop, ixV, seqOf, intOp, addV, blt, setL, bindT, bindQ, Option.map_some, ↓reduceIte, perP, lenP, partK, partOf, slP]
  rw [show ((n : Int) + 1) = ((n + 1 : Nat) : Int) by push_cast; rfl, cut_take, ← List.map_take]
  simp -implicitDefEqProofs only [exT, exS, ev, evs, bind_ok, to_ok, seq_nx, seq_rt, seq_ex, of_some, truth_bl, truthQ_bl, List.map_cons, List.map_nil, List.length_cons, List.length_nil, List.cons_append, List.nil_append, List.replicate_succ, List.replicate_zero, Nat.reduceAdd, Nat.reduceSub, Nat.zero_add, List.getElem?_cons_zero, List.getElem?_cons_succ, List.set_cons_zero, List.set_cons_succ, slVar, slBor, bop, ixV, seqOf, intOp, addV, blt, setL, bindT, bindQ, Option.map_some, ↓reduceIte, items, zip2, zipV]
  have z : PV.tup [.int 0, .int 1] = fr 0 T := by
    unfold fr
    rw [Nat.gcd_zero_left, Nat.zero_div, Nat.div_self hT]
    rfl
  rw [z]
  refine seq_of (S := S) (P := fun ρ => ∃ s5 s6, ρ = [.val (perP ps), .val (lenP T ws), .val (.int n), .val (fr t T), .val (fr (0 + need T t (ps.take (n + 1)) ws) T), s5, s6]) ?_ ?_
  · have H := fun hf => need_loop (T := T) (t := t) (S := S) (Bd := 2 ^ 27) (st := fun v s5 s6 => [.val (perP ps), .val (lenP T ws), .val (.int n), .val (fr t T), .val v, s5, s6]) (f := fun x ρ1 S2 => bindQ (.tp [5, 6]) x ρ1 fun ρ2 => exT B0 B ρ2 S2) hf (ps := ps.take (n + 1)) (ws := ws) (acc := 0) (s5 := .no) (s6 := .no) (fun p hp => h1 p (List.mem_of_mem_take hp)) h2 (by omega)
    obtain ⟨a, b, e⟩ := H hB
    simp only [bindQ, bindT, perP, lenP] at e
    exact ⟨_, ⟨a, b, rfl⟩, e⟩
  · intro ρ ⟨s5, s6, e⟩
    subst e
    simp -implicitDefEqProofs only [exT, exS, ev, evs, bind_ok, to_ok, seq_nx, seq_rt, seq_ex, of_some, truth_bl, truthQ_bl, List.map_cons, List.map_nil, List.length_cons, List.length_nil, List.cons_append, List.nil_append, List.replicate_succ, List.replicate_zero, Nat.reduceAdd, Nat.reduceSub, Nat.zero_add, List.getElem?_cons_zero, List.getElem?_cons_succ, List.set_cons_zero, List.set_cons_succ, slVar, slBor, bop, ixV, seqOf, intOp, addV, blt, setL, bindT, bindQ, Option.map_some, ↓reduceIte]
end Pl

end -- PlF
section -- PlG
namespace Pl
open Ev Lw
theorem fr0 {T : Nat} (hT : 0 < T) : PV.tup [.int 0, .int 1] = fr 0 T := by
  unfold fr
  rw [Nat.gcd_zero_left, Nat.zero_div, Nat.div_self hT]
  rfl
theorem sum_loop {T : Nat} {S : Sto} {f : PV → List Sl → Sto → Qr} {st : PV → Sl → List Sl} {Bd : Nat}
    (hf : ∀ w acc s, w < 4096 → acc + w ≤ Bd → f (fr w T) (st (fr acc T) s) S = .ok (.nx (st (fr (acc + w) T) (.val (fr w T)))) S) :
    ∀ {ws : List Nat} {acc : Nat} {s : Sl}, (∀ w ∈ ws, w < 4096) → acc + ws.sum ≤ Bd →
      ∃ s', Ev.forM f (ws.map fun w => fr w T) (st (fr acc T) s) S = .ok (.nx (st (fr (acc + ws.sum) T) s')) S
  | [], acc, s, _, _ => ⟨s, rfl⟩
  | w :: ws, acc, s, h2, h3 => by
    simp only [List.sum_cons] at h3
    obtain ⟨s', e⟩ := sum_loop hf (ws := ws) (acc := acc + w) (s := .val (fr w T)) (fun q hq => h2 q (List.mem_cons_of_mem _ hq)) (by omega)
    refine ⟨s', ?_⟩
    simp only [List.map_cons, List.sum_cons]
    unfold Ev.forM
    rw [hf w acc s (h2 w List.mem_cons_self) (by omega), seq_nx, e, Nat.add_assoc]
theorem sum_body {T : Nat} {S : Sto} {ws : List Nat} (hT : 0 < T) (hT2 : T < 900) (w acc : Nat) (s : Sl) (hw : w < 4096) (hb : acc + w ≤ 2 ^ 27) :
    (fun x ρ1 S2 => bindQ (.nm 2) x ρ1 fun ρ2 => exT B0 (.cons (.set 1 (.call F_plus "plus" (.cons (.var 1) (.cons (.var 2) .nil)))) .nil) ρ2 S2) (fr w T) [.val (lenP T ws), .val (fr acc T), s] S
     = .ok (.nx [.val (lenP T ws), .val (fr (acc + w) T), .val (fr w T)]) S := by
  simp -implicitDefEqProofs only [exT, exS, ev, evs, bind_ok, to_ok, seq_nx, seq_rt, seq_ex, of_some, truth_bl, truthQ_bl, List.map_cons, List.map_nil, List.length_cons, List.length_nil, List.cons_append, List.nil_append, List.replicate_succ, List.replicate_zero, Nat.reduceAdd, Nat.reduceSub, Nat.zero_add, List.getElem?_cons_zero, List.getElem?_cons_succ, List.set_cons_zero, List.set_cons_succ, slVar, slBor, bop, ixV, seqOf, intOp, addV, blt, setL, bindT, bindQ, Option.map_some, ↓reduceIte]
  rw [plus_fr hT (by omega) hT2 (by omega)]
  simp -implicitDefEqProofs only [exT, exS, ev, evs, bind_ok, to_ok, seq_nx, seq_rt, seq_ex, of_some, truth_bl, truthQ_bl, List.map_cons, List.map_nil, List.length_cons, List.length_nil, List.cons_append, List.nil_append, List.replicate_succ, List.replicate_zero, Nat.reduceAdd, Nat.reduceSub, Nat.zero_add, List.getElem?_cons_zero, List.getElem?_cons_succ, List.set_cons_zero, List.set_cons_succ, slVar, slBor, bop, ixV, seqOf, intOp, addV, blt, setL, bindT, bindQ, Option.map_some, ↓reduceIte]
theorem sum_of_ok {T : Nat} {S : Sto} {ws : List Nat} (hT : 0 < T) (hT2 : T < 900) (h2 : ∀ w ∈ ws, w < 4096) (h3 : ws.sum < 2 ^ 27) : F_sum_of [lenP T ws] S = .ok (fr ws.sum T) S := by
  have hB := sum_body (S := S) (ws := ws) hT hT2
  unfold F_sum_of
  rw [tl_sum_of]
  refine run_to ?_
  unfold l_sum_of
  generalize (Ev.T.cons (.set 1 (.call F_plus "plus" (.cons (.var 1) (.cons (.var 2) .nil)))) .nil) = B at hB ⊢
  simp only [List.map_cons, List.map_nil, List.length_cons, List.length_nil, List.cons_append, List.nil_append, List.replicate_succ, List.replicate_zero, Nat.reduceAdd, Nat.reduceSub, Nat.zero_add]
  simp -implicitDefEqProofs only [exT, exS, ev, evs, bind_ok, to_ok, seq_nx, seq_rt, seq_ex, of_some, truth_bl, truthQ_bl, List.map_cons, List.map_nil, List.length_cons, List.length_nil, List.cons_append, List.nil_append, List.replicate_succ, List.replicate_zero, Nat.reduceAdd, Nat.reduceSub, Nat.zero_add, List.getElem?_cons_zero, List.getElem?_cons_succ, List.set_cons_zero, List.set_cons_succ, slVar, slBor, bop, ixV, seqOf, intOp, addV, blt, setL, bindT, bindQ, Option.map_some, ↓reduceIte, lenP, items, valV, frzOf]
  rw [fr0 hT]
  refine seq_of (S := S) (P := fun ρ => ∃ s, ρ = [.val (lenP T ws), .val (fr (0 + ws.sum) T), s]) ?_ ?_
  · obtain ⟨s, e⟩ := sum_loop (T := T) (S := S) (Bd := 2 ^ 27) (st := fun v s => [.val (lenP T ws), .val v, s]) (f := fun x ρ1 S2 => bindQ (.nm 2) x ρ1 fun ρ2 => exT B0 B ρ2 S2) hB (ws := ws) (acc := 0) (s := .no) h2 (by omega)
    simp only [bindQ, bindT, lenP] at e
    exact ⟨_, ⟨s, rfl⟩, e⟩
  · intro ρ ⟨s, e⟩
    subst e
    simp -implicitDefEqProofs only [exT, exS, ev, evs, bind_ok, to_ok, seq_nx, seq_rt, seq_ex, of_some, truth_bl, truthQ_bl, List.map_cons, List.map_nil, List.length_cons, List.length_nil, List.cons_append, List.nil_append, List.replicate_succ, List.replicate_zero, Nat.reduceAdd, Nat.reduceSub, Nat.zero_add, List.getElem?_cons_zero, List.getElem?_cons_succ, List.set_cons_zero, List.set_cons_succ, slVar, slBor, bop, ixV, seqOf, intOp, addV, blt, setL, bindT, bindQ, Option.map_some, ↓reduceIte]
end Pl

end -- PlG
section -- PlH
namespace Pl
theorem cdiv_mono {x y z : Nat} (h : x ≤ y) : cdiv x z ≤ cdiv y z := Nat.div_le_div_right (by omega)
theorem need_mono {T t t' : Nat} (h : t ≤ t') : ∀ {ps ws : List Nat}, need T t ps ws ≤ need T t' ps ws
  | [], _ => by simp [need]
  | _ :: _, [] => by simp [need]
  | p :: ps, w :: ws => by
    simp only [need]
    exact Nat.add_le_add (Nat.mul_le_mul (Nat.le_refl _) (cdiv_mono h)) (need_mono h)
/-- t is the least moment (after 0) that suffices -/
def Least (f : Nat → Nat) (t : Nat) : Prop := 0 < t ∧ f t ≤ t ∧ ∀ s, 0 < s → f s ≤ s → t ≤ s
/-- one step of the climb stays below -/
theorem climb {f : Nat → Nat} (hf : ∀ s t, s ≤ t → f s ≤ f t) {t m : Nat} (ht : 0 < t ∧ f t ≤ t) (hm : m ≤ t) : f m ≤ t := Nat.le_trans (hf m t hm) ht.2
/-- where the climb rests, it is least -/
theorem climb_end {f : Nat → Nat} {m : Nat} (hm : 0 < m) (h : f m ≤ m) (hb : ∀ s, 0 < s → f s ≤ s → m ≤ s) : Least f m := ⟨hm, h, hb⟩
theorem cdiv_one {t x : Nat} (ht : 0 < t) (h : t ≤ x) : cdiv t x = 1 := by
  have hx : 0 < x := by omega
  have h1 : cdiv t x ≤ 1 := by rw [cdiv_le hx]; omega
  have h2 : ¬ cdiv t x ≤ 0 := by rw [cdiv_le hx]; omega
  omega
end Pl

end -- PlH
section -- PlI
namespace Pl
open Ev Lw
/-- what the loop answers: the moment where it rests, or nothing when it passes the bound -/
def climbN (f : Nat → Nat) (B : Nat) : Nat → Nat → Option Nat
  | 0, _ => none
  | n + 1, m => if m ≤ B then (if f m ≤ m then some m else climbN f B n (f m)) else none
theorem climbN_some {f : Nat → Nat} {B : Nat} (hf : ∀ s t, s ≤ t → f s ≤ f t) : ∀ {n m : Nat}, 0 < m → (∀ s, 0 < s → f s ≤ s → m ≤ s) → B + 1 ≤ m + n →
    (∀ t, climbN f B n m = some t → Least f t ∧ t ≤ B) ∧ (climbN f B n m = none → ∀ t, 0 < t → f t ≤ t → B < t)
  | 0, m, hm, hl, hn => by
    refine ⟨fun t h => by simp [climbN] at h, fun _ t h1 h2 => ?_⟩
    have := hl t h1 h2
    omega
  | n + 1, m, hm, hl, hn => by
    unfold climbN
    by_cases h1 : m ≤ B
    · rw [if_pos h1]
      by_cases h2 : f m ≤ m
      · rw [if_pos h2]
        refine ⟨fun t h => ?_, fun h => by cases h⟩
        cases h
        exact ⟨⟨hm, h2, hl⟩, h1⟩
      · rw [if_neg h2]
        exact climbN_some hf (by omega) (fun s a b => Nat.le_trans (hf m s (hl s a b)) b) (by omega)
    · rw [if_neg h1]
      refine ⟨fun t h => (by cases h), fun _ t a b => ?_⟩
      have := hl t a b
      omega
theorem whl_climb {c : List Sl → Sto → R PV} {b : List Sl → Sto → Qr} {f : Nat → Nat} {B Z : Nat} {st : Nat → Sl → List Sl} {v : Nat → PV} {S : Sto}
    (hc : ∀ m s, m < Z → c (st m s) S = .ok (.bl (decide (m ≤ B))) S)
    (hb1 : ∀ m s, m < Z → m ≤ B → f m ≤ m → b (st m s) S = .ok (.rt (v m)) S)
    (hb2 : ∀ m s, m < Z → m ≤ B → ¬ f m ≤ m → ∃ s', b (st m s) S = .ok (.nx (st (f m) s')) S)
    (hZ : ∀ m, m ≤ B → f m < Z) : ∀ {n N m : Nat} {s : Sl}, n < N → B + 1 ≤ m + n → m < Z →
      ∃ ρ, whileM c b N (st m s) S = (match climbN f B n m with | some t => .ok (.rt (v t)) S | none => .ok (.nx ρ) S)
  | _, 0, _, _, h, _, _ => by omega
  | 0, N + 1, m, s, _, h, hm => by
    refine ⟨st m s, ?_⟩
    unfold whileM
    rw [hc m s hm, to_ok, truthQ_bl, decide_eq_false (by omega)]
    rfl
  | n + 1, N + 1, m, s, hn, h, hm => by
    unfold whileM climbN
    rw [hc m s hm, to_ok, truthQ_bl]
    by_cases h1 : m ≤ B
    · rw [decide_eq_true h1, if_pos rfl, if_pos h1]
      by_cases h2 : f m ≤ m
      · rw [if_pos h2, hb1 m s hm h1 h2, seq_rt]
        exact ⟨[], rfl⟩
      · rw [if_neg h2]
        obtain ⟨s', e⟩ := hb2 m s hm h1 h2
        rw [e, seq_nx]
        exact whl_climb hc hb1 hb2 hZ (by omega) (by omega) (hZ m h1)
    · rw [decide_eq_false h1, if_neg (by decide), if_neg h1]
      exact ⟨_, rfl⟩
end Pl

end -- PlI
section -- PlJ
namespace Pl
open Ev Lw
theorem atI_map {α : Type} {g : Nat → α} {ps : List Nat} {n : Nat} {p : Nat} (h : ps[n]? = some p) : L2.atI (ps.map g) (n : Int) = some (g p) :=
  atI_of rfl (by rw [List.getElem?_map, h]; rfl)
theorem one_fr {p : Nat} : PV.tup [.int (p : Nat), .int 1] = fr p 1 := by
  unfold fr
  rw [Nat.gcd_one_right, Nat.div_one, Nat.div_one]
  rfl
theorem at_most_p {t T p : Nat} {S : Sto} (hT : 0 < T) (ht : t < 2 ^ 30) (hT2 : T < 2 ^ 30) (hp : p < 2 ^ 30) : F_at_most [fr t T, .tup [.int (p : Nat), .int 1]] S = .ok (.bl (decide (t ≤ p * T))) S := by
  rw [one_fr, at_most_fr hT (by decide) ht hT2 hp (by decide), Nat.mul_one]
theorem at_most_t {t T p : Nat} {S : Sto} (hT : 0 < T) (ht : t < 2 ^ 30) (hT2 : T < 2 ^ 30) (hp : p < 2 ^ 30) : F_at_most [fr t T, fr p T] S = .ok (.bl (decide (t ≤ p))) S := by
  rw [at_most_fr hT hT ht hT2 hp hT2]
  congr 2
  exact decide_eq_decide.2 (Nat.mul_le_mul_right_iff hT)
theorem fr_zero {w T : Nat} (hT : 0 < T) : eqV (fr w T) (.tup [.int 0, .int 1]) = some (decide (w = 0)) := by
  have hd : data (fr w T) = true := rfl
  unfold eqV
  rw [if_pos ⟨hd, rfl⟩]
  congr 1
  have hg : 0 < Nat.gcd w T := Nat.gcd_pos_of_pos_right _ hT
  by_cases h : w = 0
  · subst h
    rw [← fr0 hT]
    decide
  · have hp : 0 < w / Nat.gcd w T := Nat.div_pos (Nat.le_of_dvd (Nat.pos_of_ne_zero h) (Nat.gcd_dvd_left _ _)) hg
    rw [decide_eq_false h]
    unfold fr
    simp only [eqB, eqBs]
    have : (((w / Nat.gcd w T : Nat) : Int) == 0) = false := by
      rw [beq_eq_false_iff_ne]; omega
    rw [this, Bool.false_and]
def ansP (T : Nat) : Option Nat → PV
  | some t => fr t T
  | none => .non
theorem answer_ok {T n p w : Nat} {S : Sto} {ps ws : List Nat} (hT : 0 < T) (hT2 : T < 900) (h1 : ∀ p ∈ ps, 0 < p ∧ p < 500) (h2 : ∀ w ∈ ws, w < 4096) (hp : ps[n]? = some p) (hw : ws[n]? = some w) (hs : (ws.take (n + 1)).sum < 2 ^ 27)
    (hb : ∀ m, m ≤ p * T → need T m (ps.take (n + 1)) ws < 2 ^ 27) :
    F_answer_of [perP ps, lenP T ws, .int (n : Nat)] S = .ok (if w = 0 then fr 0 T else ansP T (climbN (fun m => need T m (ps.take (n + 1)) ws) (p * T) (p * T + 1) (ws.take (n + 1)).sum)) S := by
  have hpm := h1 p (List.mem_of_getElem? hp)
  have hpT : p * T < 500 * 900 := Nat.mul_lt_mul'' hpm.2 hT2
  have hc : ∀ m s, m < 2 ^ 27 → ev B0 (.call F_at_most "at_most" (.cons (.var 3) (.cons (.tup (.cons (.bin .ix (.bor 0) (.bor 2)) (.cons (.cst (.int 1)) .nil))) .nil))) [.val (perP ps), .val (lenP T ws), .val (.int n), .val (fr m T), s] S = .ok (.bl (decide (m ≤ p * T))) S := fun m s hm => by
    simp -implicitDefEqProofs only [exT, exS, ev, evs, bind_ok, to_ok, seq_nx, seq_rt, seq_ex, of_some, truth_bl, truthQ_bl, List.map_cons, List.map_nil, List.length_cons, List.length_nil, List.cons_append, List.nil_append, List.replicate_succ, List.replicate_zero, Nat.reduceAdd, Nat.reduceSub, Nat.zero_add, List.getElem?_cons_zero, List.getElem?_cons_succ, List.set_cons_zero, List.set_cons_succ, slVar, slBor, bop, ixV, seqOf, intOp, addV, blt, setL, bindT, bindQ, Option.map_some, ↓reduceIte, perP]
    rw [atI_map hp]
    simp -implicitDefEqProofs only [exT, exS, ev, evs, bind_ok, to_ok, seq_nx, seq_rt, seq_ex, of_some, truth_bl, truthQ_bl, List.map_cons, List.map_nil, List.length_cons, List.length_nil, List.cons_append, List.nil_append, List.replicate_succ, List.replicate_zero, Nat.reduceAdd, Nat.reduceSub, Nat.zero_add, List.getElem?_cons_zero, List.getElem?_cons_succ, List.set_cons_zero, List.set_cons_succ, slVar, slBor, bop, ixV, seqOf, intOp, addV, blt, setL, bindT, bindQ, Option.map_some, ↓reduceIte]
    rw [at_most_p hT (by omega) (by omega) (by omega)]
  have hbd : ∀ m s, m ≤ p * T → exT B0 (.cons (.set 4 (.call F_need_at "need_at" (.cons (.var 0) (.cons (.var 1) (.cons (.var 2) (.cons (.var 3) .nil)))))) (.cons (.ite (.call F_at_most "at_most" (.cons (.var 4) (.cons (.var 3) .nil))) (.cons (.ret (.var 3)) .nil) .nil) (.cons (.set 3 (.var 4)) .nil))) [.val (perP ps), .val (lenP T ws), .val (.int n), .val (fr m T), s] S
      = (if need T m (ps.take (n + 1)) ws ≤ m then .ok (.rt (fr m T)) S else .ok (.nx [.val (perP ps), .val (lenP T ws), .val (.int n), .val (fr (need T m (ps.take (n + 1)) ws) T), .val (fr (need T m (ps.take (n + 1)) ws) T)]) S) := fun m s hm => by
    have := hb m hm
    simp -implicitDefEqProofs only [exT, exS, ev, evs, bind_ok, to_ok, seq_nx, seq_rt, seq_ex, of_some, truth_bl, truthQ_bl, List.map_cons, List.map_nil, List.length_cons, List.length_nil, List.cons_append, List.nil_append, List.replicate_succ, List.replicate_zero, Nat.reduceAdd, Nat.reduceSub, Nat.zero_add, List.getElem?_cons_zero, List.getElem?_cons_succ, List.set_cons_zero, List.set_cons_succ, slVar, slBor, bop, ixV, seqOf, intOp, addV, blt, setL, bindT, bindQ, Option.map_some, ↓reduceIte]
    rw [need_at_ok hT hT2 (by omega) (fun p hp => ⟨(h1 p hp).1, by have := (h1 p hp).2; omega⟩) h2 this]
    simp -implicitDefEqProofs only [exT, exS, ev, evs, bind_ok, to_ok, seq_nx, seq_rt, seq_ex, of_some, truth_bl, truthQ_bl, List.map_cons, List.map_nil, List.length_cons, List.length_nil, List.cons_append, List.nil_append, List.replicate_succ, List.replicate_zero, Nat.reduceAdd, Nat.reduceSub, Nat.zero_add, List.getElem?_cons_zero, List.getElem?_cons_succ, List.set_cons_zero, List.set_cons_succ, slVar, slBor, bop, ixV, seqOf, intOp, addV, blt, setL, bindT, bindQ, Option.map_some, ↓reduceIte]
    rw [at_most_t hT (by omega) (by omega) (by omega)]
    by_cases h : need T m (ps.take (n + 1)) ws ≤ m
    · simp -implicitDefEqProofs only [exT, exS, ev, evs, bind_ok, to_ok, seq_nx, seq_rt, seq_ex, of_some, truth_bl, truthQ_bl, List.map_cons, List.map_nil, List.length_cons, List.length_nil, List.cons_append, List.nil_append, List.replicate_succ, List.replicate_zero, Nat.reduceAdd, Nat.reduceSub, Nat.zero_add, List.getElem?_cons_zero, List.getElem?_cons_succ, List.set_cons_zero, List.set_cons_succ, slVar, slBor, bop, ixV, seqOf, intOp, addV, blt, setL, bindT, bindQ, Option.map_some, ↓reduceIte, h, decide_true]
    · simp -implicitDefEqProofs only [exT, exS, ev, evs, bind_ok, to_ok, seq_nx, seq_rt, seq_ex, of_some, truth_bl, truthQ_bl, List.map_cons, List.map_nil, List.length_cons, List.length_nil, List.cons_append, List.nil_append, List.replicate_succ, List.replicate_zero, Nat.reduceAdd, Nat.reduceSub, Nat.zero_add, List.getElem?_cons_zero, List.getElem?_cons_succ, List.set_cons_zero, List.set_cons_succ, slVar, slBor, bop, ixV, seqOf, intOp, addV, blt, setL, bindT, bindQ, Option.map_some, ↓reduceIte, h, decide_false, Bool.false_eq_true]
  unfold F_answer_of
  rw [tl_answer_of]
  refine run_to ?_
  unfold l_answer_of
  generalize (Ev.T.cons (.set 4 (.call F_need_at "need_at" (.cons (.var 0) (.cons (.var 1) (.cons (.var 2) (.cons (.var 3) .nil)))))) (.cons (.ite (.call F_at_most "at_most" (.cons (.var 4) (.cons (.var 3) .nil))) (.cons (.ret (.var 3)) .nil) .nil) (.cons (.set 3 (.var 4)) .nil))) = Bd at hbd ⊢
  generalize (C.call F_at_most "at_most" (.cons (.var 3) (.cons (.tup (.cons (.bin .ix (.bor 0) (.bor 2)) (.cons (.cst (.int 1)) .nil))) .nil))) = Cd at hc ⊢
  simp only [List.map_cons, List.map_nil, List.length_cons, List.length_nil, List.cons_append, List.nil_append, List.replicate_succ, List.replicate_zero, Nat.reduceAdd, Nat.reduceSub, Nat.zero_add]
  simp -implicitDefEqProofs only [exT, exS, ev, evs, bind_ok, to_ok, seq_nx, seq_rt, seq_ex, of_some, truth_bl, truthQ_bl, List.map_cons, List.map_nil, List.length_cons, List.length_nil, List.cons_append, List.nil_append, List.replicate_succ, List.replicate_zero, Nat.reduceAdd, Nat.reduceSub, Nat.zero_add, List.getElem?_cons_zero, List.getElem?_cons_succ, List.set_cons_zero, List.set_cons_succ, slVar, slBor, bop, ixV, seqOf, intOp, addV, blt, setL, bindT, bindQ, Option.map_some, ↓reduceIte, lenP]
  rw [atI_map hw]
  simp -implicitDefEqProofs only [exT, exS, ev, evs, bind_ok, to_ok, seq_nx, seq_rt, seq_ex, of_some, truth_bl, truthQ_bl, List.map_cons, List.map_nil, List.length_cons, List.length_nil, List.cons_append, List.nil_append, List.replicate_succ, List.replicate_zero, Nat.reduceAdd, Nat.reduceSub, Nat.zero_add, List.getElem?_cons_zero, List.getElem?_cons_succ, List.set_cons_zero, List.set_cons_succ, slVar, slBor, bop, ixV, seqOf, intOp, addV, blt, setL, bindT, bindQ, Option.map_some, ↓reduceIte]
  rw [fr_zero hT]
  by_cases h0 : w = 0
  · simp -implicitDefEqProofs only [exT, exS, ev, evs, bind_ok, to_ok, seq_nx, seq_rt, seq_ex, of_some, truth_bl, truthQ_bl, List.map_cons, List.map_nil, List.length_cons, List.length_nil, List.cons_append, List.nil_append, List.replicate_succ, List.replicate_zero, Nat.reduceAdd, Nat.reduceSub, Nat.zero_add, List.getElem?_cons_zero, List.getElem?_cons_succ, List.set_cons_zero, List.set_cons_succ, slVar, slBor, bop, ixV, seqOf, intOp, addV, blt, setL, bindT, bindQ, Option.map_some, ↓reduceIte, h0, decide_true, fr0 hT]
  · simp -implicitDefEqProofs only [exT, exS, ev, evs, bind_ok, to_ok, seq_nx, seq_rt, seq_ex, of_some, truth_bl, truthQ_bl, List.map_cons, List.map_nil, List.length_cons, List.length_nil, List.cons_append, List.nil_append, List.replicate_succ, List.replicate_zero, Nat.reduceAdd, Nat.reduceSub, Nat.zero_add, List.getElem?_cons_zero, List.getElem?_cons_succ, List.set_cons_zero, List.set_cons_succ, slVar, slBor, bop, ixV, seqOf, intOp, addV, blt, setL, bindT, bindQ, Option.map_some, ↓reduceIte, h0, decide_false, Bool.false_eq_true, partK, partOf, slP]
    rw [show ((n : Int) + 1) = ((n + 1 : Nat) : Int) by push_cast; rfl, cut_take, ← List.map_take]
    have e := sum_of_ok (S := S) (ws := ws.take (n + 1)) hT hT2 (fun w hw => h2 w (List.mem_of_mem_take hw)) hs
    unfold lenP at e
    rw [e]
    simp -implicitDefEqProofs only [exT, exS, ev, evs, bind_ok, to_ok, seq_nx, seq_rt, seq_ex, of_some, truth_bl, truthQ_bl, List.map_cons, List.map_nil, List.length_cons, List.length_nil, List.cons_append, List.nil_append, List.replicate_succ, List.replicate_zero, Nat.reduceAdd, Nat.reduceSub, Nat.zero_add, List.getElem?_cons_zero, List.getElem?_cons_succ, List.set_cons_zero, List.set_cons_succ, slVar, slBor, bop, ixV, seqOf, intOp, addV, blt, setL, bindT, bindQ, Option.map_some, ↓reduceIte]
    obtain ⟨ρ, e2⟩ := whl_climb (c := ev B0 Cd) (b := exT B0 Bd) (S := S) (B := p * T) (Z := 2 ^ 27) (f := fun m => need T m (ps.take (n + 1)) ws) (v := fun t => fr t T) (st := fun m s => [.val (perP ps), .val (lenP T ws), .val (.int n), .val (fr m T), s]) hc (fun m s _ h h2 => by rw [hbd m s h, if_pos h2]) (fun m s _ h h2 => ⟨.val (fr (need T m (ps.take (n + 1)) ws) T), by rw [hbd m s h, if_neg h2]⟩) hb (n := p * T + 1) (N := fuel) (m := (ws.take (n + 1)).sum) (s := .no) (by unfold fuel; omega) (by omega) hs
    unfold lenP at e2
    rw [e2]
    cases climbN (fun m => need T m (ps.take (n + 1)) ws) (p * T) (p * T + 1) (ws.take (n + 1)).sum with
    | some t => simp -implicitDefEqProofs only [exT, exS, ev, evs, bind_ok, to_ok, seq_nx, seq_rt, seq_ex, of_some, truth_bl, truthQ_bl, List.map_cons, List.map_nil, List.length_cons, List.length_nil, List.cons_append, List.nil_append, List.replicate_succ, List.replicate_zero, Nat.reduceAdd, Nat.reduceSub, Nat.zero_add, List.getElem?_cons_zero, List.getElem?_cons_succ, List.set_cons_zero, List.set_cons_succ, slVar, slBor, bop, ixV, seqOf, intOp, addV, blt, setL, bindT, bindQ, Option.map_some, ↓reduceIte, ansP]
    | none => simp -implicitDefEqProofs only [exT, exS, ev, evs, bind_ok, to_ok, seq_nx, seq_rt, seq_ex, of_some, truth_bl, truthQ_bl, List.map_cons, List.map_nil, List.length_cons, List.length_nil, List.cons_append, List.nil_append, List.replicate_succ, List.replicate_zero, Nat.reduceAdd, Nat.reduceSub, Nat.zero_add, List.getElem?_cons_zero, List.getElem?_cons_succ, List.set_cons_zero, List.set_cons_succ, slVar, slBor, bop, ixV, seqOf, intOp, addV, blt, setL, bindT, bindQ, Option.map_some, ↓reduceIte, ansP]
end Pl

end -- PlJ
section -- PlK
namespace Pl
open Ev Lw
def gD (ws : List Nat) (i : Nat) : Nat := ws[i]?.getD 0
/-- the answer of task n as plain numbers -/
def ansN (T : Nat) (ps ws : List Nat) (n : Nat) : Option Nat := if ws[n]?.getD 0 = 0 then some 0 else climbN (fun m => need T m (ps.take (n + 1)) ws) (ps[n]?.getD 0 * T) (ps[n]?.getD 0 * T + 1) (ws.take (n + 1)).sum
/-- what the tuples must be -/
structure Okt (T : Nat) (ps ws : List Nat) : Prop where
  T0 : 0 < T
  T1 : T < 900
  p : ∀ p ∈ ps, 0 < p ∧ p < 500
  w : ∀ w ∈ ws, w < 4096
  len : ws.length = ps.length
  sum : ∀ n, (ws.take (n + 1)).sum < 2 ^ 27
  need : ∀ n m, m ≤ gD ps n * T → need T m (ps.take (n + 1)) ws < 2 ^ 27
theorem blsOf_map {α : Type} {f : α → Bool} : ∀ {xs : List α}, blsOf (xs.map fun x => .bl (f x)) = some (xs.map f)
  | [] => rfl
  | x :: xs => by
    show (blsOf (xs.map fun x => .bl (f x))).map (f x :: ·) = _
    rw [blsOf_map]
    rfl
theorem isV_ans {T : Nat} {o : Option Nat} : isV (ansP T o) .non = some (!o.isSome) := by
  cases o <;> rfl
theorem ans_ok {T n : Nat} {ps ws : List Nat} {S : Sto} (K : Okt T ps ws) (hn : n < ps.length) : F_answer_of [perP ps, lenP T ws, .int (n : Nat)] S = .ok (ansP T (ansN T ps ws n)) S := by
  have hn2 : n < ws.length := by rw [K.len]; exact hn
  have hp : ps[n]? = some ps[n] := List.getElem?_eq_getElem hn
  have hw : ws[n]? = some ws[n] := List.getElem?_eq_getElem hn2
  have hb := K.p ps[n] (List.getElem_mem hn)
  rw [answer_ok K.T0 K.T1 K.p K.w hp hw (K.sum n) (fun m hm => K.need n m (by unfold gD; rw [hp]; exact hm))]
  unfold ansN
  rw [hp, hw]
  simp only [Option.getD_some]
  split <;> rfl
end Pl

end -- PlK
section -- PlL
namespace Pl
open Ev Lw
theorem rng_ok {n : Nat} (h : n < 100000) : items .rng [.int (n : Nat)] = some ((List.range n).map fun (i : Nat) => .int (i : Int)) := by
  have hr : rngOk (n : Int) = true := by
    unfold rngOk
    rw [decide_eq_true (by omega), decide_eq_true (by omega)]
    rfl
  show rngV [.int (n : Nat)] = _
  unfold rngV
  simp only [hr, ↓reduceIte, Int.toNat_natCast, Int.zero_add]
theorem lcM_all {f : PV → Sto → R (List PV)} {S : Sto} {g : Nat → PV} : ∀ {xs : List Nat}, (∀ x ∈ xs, f (.int (x : Nat)) S = .ok [g x] S) → lcM f (xs.map fun (i : Nat) => .int (i : Int)) S = .ok (xs.map g) S
  | [], _ => rfl
  | x :: xs, h => by
    rw [List.map_cons]
    unfold lcM
    rw [h x List.mem_cons_self]
    simp only [lcM_all fun y hy => h y (List.mem_cons_of_mem _ hy), List.map_cons, List.cons_append, List.nil_append]
theorem in_time_e {T : Nat} {ps ws : List Nat} {S : Sto} (K : Okt T ps ws) (n : Nat) (hn : n < ps.length) : ev B0 (.bin .isnot (.call F_answer_of "answer_of" (.cons (.var 0) (.cons (.var 1) (.cons (.var 2) .nil)))) (.cst .non)) [.val (perP ps), .val (lenP T ws), .val (.int n)] S = .ok (.bl (ansN T ps ws n).isSome) S := by
  simp -implicitDefEqProofs only [exT, exS, ev, evs, bind_ok, to_ok, seq_nx, seq_rt, seq_ex, of_some, truth_bl, truthQ_bl, List.map_cons, List.map_nil, List.length_cons, List.length_nil, List.cons_append, List.nil_append, List.replicate_succ, List.replicate_zero, Nat.reduceAdd, Nat.reduceSub, Nat.zero_add, List.getElem?_cons_zero, List.getElem?_cons_succ, List.set_cons_zero, List.set_cons_succ, slVar, slBor, bop, ixV, seqOf, intOp, addV, blt, setL, bindT, bindQ, Option.map_some, ↓reduceIte]
  rw [ans_ok K hn]
  simp -implicitDefEqProofs only [exT, exS, ev, evs, bind_ok, to_ok, seq_nx, seq_rt, seq_ex, of_some, truth_bl, truthQ_bl, List.map_cons, List.map_nil, List.length_cons, List.length_nil, List.cons_append, List.nil_append, List.replicate_succ, List.replicate_zero, Nat.reduceAdd, Nat.reduceSub, Nat.zero_add, List.getElem?_cons_zero, List.getElem?_cons_succ, List.set_cons_zero, List.set_cons_succ, slVar, slBor, bop, ixV, seqOf, intOp, addV, blt, setL, bindT, bindQ, Option.map_some, ↓reduceIte]
  rw [isV_ans]
  simp -implicitDefEqProofs only [exT, exS, ev, evs, bind_ok, to_ok, seq_nx, seq_rt, seq_ex, of_some, truth_bl, truthQ_bl, List.map_cons, List.map_nil, List.length_cons, List.length_nil, List.cons_append, List.nil_append, List.replicate_succ, List.replicate_zero, Nat.reduceAdd, Nat.reduceSub, Nat.zero_add, List.getElem?_cons_zero, List.getElem?_cons_succ, List.set_cons_zero, List.set_cons_succ, slVar, slBor, bop, ixV, seqOf, intOp, addV, blt, setL, bindT, bindQ, Option.map_some, ↓reduceIte, Bool.not_not]
theorem in_time_ok {T : Nat} {ps ws : List Nat} {S : Sto} (K : Okt T ps ws) (hl : ps.length < 1000) : F_in_time [perP ps, lenP T ws] S = .ok (.bl ((List.range ps.length).all fun n => (ansN T ps ws n).isSome)) S := by
  unfold F_in_time
  rw [tl_in_time]
  refine run_to ?_
  unfold l_in_time
  have hE := in_time_e (S := S) K
  generalize (C.bin .isnot (.call F_answer_of "answer_of" (.cons (.var 0) (.cons (.var 1) (.cons (.var 2) .nil)))) (.cst .non)) = E at hE ⊢
  have hP : seqOf S (perP ps) = some (ps.map fun (p : Nat) => .int (p : Int)) := rfl
  have hlen : Ev.blt .len S [perP ps] = some (.int (ps.length : Nat)) := by
    unfold perP
    simp only [Ev.blt, seqOf, Option.map_some, List.length_map]
  simp only [List.map_cons, List.map_nil, List.length_cons, List.length_nil, List.cons_append, List.nil_append, List.replicate_succ, List.replicate_zero, Nat.reduceAdd, Nat.reduceSub, Nat.zero_add]
  have hr := rng_ok (n := ps.length) (by omega)
  have hL := lcM_all (S := S) (f := fun x S2 => bindR (.nm 2) x (wipeS [.val (perP ps), .val (lenP T ws), .no] [2]) fun ρ' => condM (evs B0 .nil ρ' S2) fun S3 => oneR (ev B0 E ρ' S3)) (g := fun n => .bl (ansN T ps ws n).isSome) (xs := List.range ps.length) (fun n hn => by
    simp only [wipeS, List.set_cons_zero, List.set_cons_succ, bindR, bindT, evs, condM]
    rw [hE n (List.mem_range.1 hn)]
    rfl)
  have e1 : ev B0 (.lc [2] .rng (.cons (.blt .len (.cons (.bor 0) .nil)) .nil) (.nm 2) .nil E) [.val (perP ps), .val (lenP T ws), .no] S = .ok (.lst ((List.range ps.length).map fun n => .bl (ansN T ps ws n).isSome)) S := by
    have e0 : evs B0 (.cons (.blt .len (.cons (.bor 0) .nil)) .nil) [.val (perP ps), .val (lenP T ws), .no] S = .ok [.int (ps.length : Nat)] S := by
      simp only [evs, ev, List.getElem?_cons_zero, slBor, of_some, bind_ok, hlen]
    rw [ev, e0, bind_ok, hr]
    simp only [itemsR]
    rw [hL]
    have hq : ((List.range ps.length).map fun n => PV.bl (ansN T ps ws n).isSome).length ≤ lim := by
      rw [List.length_map, List.length_range]
      unfold lim
      omega
    simp only [listR, if_pos hq]
  rw [exT, exS, ev, evs, e1, bind_ok, evs, bind_ok, bind_ok]
  simp only [Ev.blt, blsOf_map, Option.map_some, of_some, to_ok, seq_rt, List.all_map]
  rfl
end Pl

end -- PlL
section -- PlM
namespace Pl
open Ev Lw
theorem low_ok {x y : Nat} {S : Sto} (hx : x < 1000000000000) (hy : 0 < y) (hy2 : y < 1000000) : F__law_low [.int x, .int y] S = .ok (fr x y) S := by
  have hg : 0 < Nat.gcd x y := Nat.gcd_pos_of_pos_right _ hy
  have hg2 : Nat.gcd x y ≤ y := Nat.gcd_le_right _ hy
  have e1 : ¬ ((x : Int) < 0) := by omega
  unfold F__law_low
  rw [tl__law_low]
  refine run_to ?_
  unfold l__law_low
  simp only [List.map_cons, List.map_nil, List.length_cons, List.length_nil, List.cons_append, List.nil_append, List.replicate_succ, List.replicate_zero, Nat.reduceAdd, Nat.reduceSub, Nat.zero_add]
  simp -implicitDefEqProofs only [exT, exS, ev, evs, bind_ok, to_ok, seq_nx, seq_rt, seq_ex, of_some, truth_bl, truthQ_bl, List.map_cons, List.map_nil, List.length_cons, List.length_nil, List.cons_append, List.nil_append, List.replicate_succ, List.replicate_zero, Nat.reduceAdd, Nat.reduceSub, Nat.zero_add, List.getElem?_cons_zero, List.getElem?_cons_succ, List.set_cons_zero, List.set_cons_succ, slVar, slBor, bop, ixV, seqOf, intOp, addV, blt, setL, bindT, bindQ, Option.map_some, ↓reduceIte, e1]
  rw [divisor_ok hy2]
  simp -implicitDefEqProofs only [exT, exS, ev, evs, bind_ok, to_ok, seq_nx, seq_rt, seq_ex, of_some, truth_bl, truthQ_bl, List.map_cons, List.map_nil, List.length_cons, List.length_nil, List.cons_append, List.nil_append, List.replicate_succ, List.replicate_zero, Nat.reduceAdd, Nat.reduceSub, Nat.zero_add, List.getElem?_cons_zero, List.getElem?_cons_succ, List.set_cons_zero, List.set_cons_succ, slVar, slBor, bop, ixV, seqOf, intOp, addV, blt, setL, bindT, bindQ, Option.map_some, ↓reduceIte, divOk_nat hg (by omega), fr, Int.natCast_ediv]
end Pl

end -- PlM
section -- PlN
namespace Pl
open Ev Lw
/-- the second of a pair in lowest terms -/
def den (w T : Nat) : Nat := T / Nat.gcd w T
theorem ticks_step {acc w T : Nat} {S : Sto} {L : PV} {s : Sl} (hT : 0 < T) (ha : acc < 1000000) (ha0 : 0 < acc) (hT2 : T < 1000) :
    (fun x ρ1 S2 => bindQ (.nm 2) x ρ1 fun ρ2 => exT B0 (.cons (.set 1 (.bin .fdiv (.bin .mul (.bor 1) (.bin .ix (.bor 2) (.cst (.int 1)))) (.call F__law_divisor "_law_divisor" (.cons (.var 1) (.cons (.bin .ix (.bor 2) (.cst (.int 1))) .nil))))) .nil) ρ2 S2) (fr w T) [.val L, .val (.int (acc : Nat)), s] S
     = .ok (.nx [.val L, .val (.int (Nat.lcm acc (den w T) : Nat)), .val (fr w T)]) S := by
  have hd : den w T ≤ T := Nat.div_le_self _ _
  have hg : 0 < Nat.gcd w T := Nat.gcd_pos_of_pos_right _ hT
  have hd0 : 0 < den w T := Nat.div_pos (Nat.le_of_dvd hT (Nat.gcd_dvd_right _ _)) hg
  have e : fr w T = .tup [.int (w / Nat.gcd w T : Nat), .int (den w T : Nat)] := rfl
  have hq : 0 < Nat.gcd acc (den w T) := Nat.gcd_pos_of_pos_right _ hd0
  have hq2 : Nat.gcd acc (den w T) ≤ acc := Nat.gcd_le_left _ ha0
  rw [e]
  simp -implicitDefEqProofs only [exT, exS, ev, evs, bind_ok, to_ok, seq_nx, seq_rt, seq_ex, of_some, truth_bl, truthQ_bl, List.map_cons, List.map_nil, List.length_cons, List.length_nil, List.cons_append, List.nil_append, List.replicate_succ, List.replicate_zero, Nat.reduceAdd, Nat.reduceSub, Nat.zero_add, List.getElem?_cons_zero, List.getElem?_cons_succ, List.set_cons_zero, List.set_cons_succ, slVar, slBor, bop, ixV, seqOf, intOp, addV, blt, setL, bindT, bindQ, Option.map_some, ↓reduceIte, atI1, mul_sm (i := acc) (j := den w T) (by unfold Sm60; omega) (by unfold Sm60; omega)]
  rw [divisor_ok (by omega)]
  simp -implicitDefEqProofs only [exT, exS, ev, evs, bind_ok, to_ok, seq_nx, seq_rt, seq_ex, of_some, truth_bl, truthQ_bl, List.map_cons, List.map_nil, List.length_cons, List.length_nil, List.cons_append, List.nil_append, List.replicate_succ, List.replicate_zero, Nat.reduceAdd, Nat.reduceSub, Nat.zero_add, List.getElem?_cons_zero, List.getElem?_cons_succ, List.set_cons_zero, List.set_cons_succ, slVar, slBor, bop, ixV, seqOf, intOp, addV, blt, setL, bindT, bindQ, Option.map_some, ↓reduceIte, divOk_nat hq (by omega)]
  congr 6
/-- lengths as they are picked: pairs -/
def rawP (qs : List (Nat × Nat)) : PV := .tup (qs.map fun q => fr q.1 q.2)
def tickN : Nat → List (Nat × Nat) → Nat
  | acc, [] => acc
  | acc, q :: qs => tickN (Nat.lcm acc (den q.1 q.2)) qs
theorem den_pos {w T : Nat} (hT : 0 < T) : 0 < den w T := Nat.div_pos (Nat.le_of_dvd hT (Nat.gcd_dvd_right _ _)) (Nat.gcd_pos_of_pos_right _ hT)
theorem ticks_loop {f : PV → List Sl → Sto → Qr} {L : PV} {S : Sto} {M : Nat} (hM : M < 1000000)
    (hf : ∀ w T acc s, 0 < T → acc < 1000000 → 0 < acc → T < 1000 → f (fr w T) [.val L, .val (.int (acc : Nat)), s] S = .ok (.nx [.val L, .val (.int (Nat.lcm acc (den w T) : Nat)), .val (fr w T)]) S) :
    ∀ {qs : List (Nat × Nat)} {acc : Nat} {s : Sl}, (∀ q ∈ qs, 0 < q.2 ∧ q.2 < 1000 ∧ den q.1 q.2 ∣ M) → 0 < acc → acc ∣ M → 0 < M →
      ∃ s', Ev.forM f (qs.map fun q => fr q.1 q.2) [.val L, .val (.int (acc : Nat)), s] S = .ok (.nx [.val L, .val (.int (tickN acc qs : Nat)), s']) S
  | [], acc, s, _, _, _, _ => ⟨s, rfl⟩
  | q :: qs, acc, s, h, h0, hd, hM0 => by
    have hq := h q List.mem_cons_self
    obtain ⟨s', e⟩ := ticks_loop hM hf (qs := qs) (acc := Nat.lcm acc (den q.1 q.2)) (s := .val (fr q.1 q.2)) (fun p hp => h p (List.mem_cons_of_mem _ hp)) (Nat.lcm_pos h0 (den_pos hq.1)) (Nat.lcm_dvd hd hq.2.2) hM0
    refine ⟨s', ?_⟩
    rw [List.map_cons]
    unfold Ev.forM
    rw [hf q.1 q.2 acc s hq.1 (Nat.lt_of_le_of_lt (Nat.le_of_dvd hM0 hd) hM) h0 hq.2.1, seq_nx, e]
    rfl
theorem ticks_ok {qs : List (Nat × Nat)} {S : Sto} {M : Nat} (hM : M < 1000000) (hM0 : 0 < M) (h : ∀ q ∈ qs, 0 < q.2 ∧ q.2 < 1000 ∧ den q.1 q.2 ∣ M) : F__law_ticks [rawP qs] S = .ok (.int (tickN 1 qs : Nat)) S := by
  have hB := fun (w T acc : Nat) (s : Sl) a b c d => ticks_step (acc := acc) (w := w) (T := T) (S := S) (L := rawP qs) (s := s) a b c d
  unfold F__law_ticks
  rw [tl__law_ticks]
  refine run_to ?_
  unfold l__law_ticks
  generalize (T.cons (.set 1 (.bin .fdiv (.bin .mul (.bor 1) (.bin .ix (.bor 2) (.cst (.int 1)))) (.call F__law_divisor "_law_divisor" (.cons (.var 1) (.cons (.bin .ix (.bor 2) (.cst (.int 1))) .nil))))) .nil) = B at hB ⊢
  simp only [List.map_cons, List.map_nil, List.length_cons, List.length_nil, List.cons_append, List.nil_append, List.replicate_succ, List.replicate_zero, Nat.reduceAdd, Nat.reduceSub, Nat.zero_add]
  simp -implicitDefEqProofs only [exT, exS, ev, evs, bind_ok, to_ok, seq_nx, seq_rt, seq_ex, of_some, truth_bl, truthQ_bl, List.map_cons, List.map_nil, List.length_cons, List.length_nil, List.cons_append, List.nil_append, List.replicate_succ, List.replicate_zero, Nat.reduceAdd, Nat.reduceSub, Nat.zero_add, List.getElem?_cons_zero, List.getElem?_cons_succ, List.set_cons_zero, List.set_cons_succ, slVar, slBor, bop, ixV, seqOf, intOp, addV, blt, setL, bindT, bindQ, Option.map_some, ↓reduceIte, rawP, items, valV, frzOf]
  refine seq_of (S := S) (P := fun ρ => ∃ s, ρ = [.val (rawP qs), .val (.int (tickN 1 qs : Nat)), s]) ?_ ?_
  · obtain ⟨s, e⟩ := ticks_loop (f := fun x ρ1 S2 => bindQ (.nm 2) x ρ1 fun ρ2 => exT B0 B ρ2 S2) (S := S) (L := rawP qs) hM hB (qs := qs) (acc := 1) (s := .no) h (by decide) (Nat.one_dvd _) hM0
    simp only [bindQ, bindT, rawP] at e
    exact ⟨_, ⟨s, rfl⟩, e⟩
  · intro ρ ⟨s, e⟩
    subst e
    simp -implicitDefEqProofs only [exT, exS, ev, evs, bind_ok, to_ok, seq_nx, seq_rt, seq_ex, of_some, truth_bl, truthQ_bl, List.map_cons, List.map_nil, List.length_cons, List.length_nil, List.cons_append, List.nil_append, List.replicate_succ, List.replicate_zero, Nat.reduceAdd, Nat.reduceSub, Nat.zero_add, List.getElem?_cons_zero, List.getElem?_cons_succ, List.set_cons_zero, List.set_cons_succ, slVar, slBor, bop, ixV, seqOf, intOp, addV, blt, setL, bindT, bindQ, Option.map_some, ↓reduceIte]
end Pl

end -- PlN
section -- PlO
namespace Pl
open Ev Lw
def num (w T : Nat) : Nat := w / Nat.gcd w T
def wrk (M : Nat) (q : Nat × Nat) : Nat := num q.1 q.2 * (M / den q.1 q.2)
theorem fr_wrk {M : Nat} {q : Nat × Nat} (h0 : 0 < q.2) (hM : 0 < M) (hd : den q.1 q.2 ∣ M) : fr q.1 q.2 = fr (wrk M q) M := by
  refine fr_eq h0 hM ?_
  have hg := Nat.gcd_dvd_left q.1 q.2
  have e1 : num q.1 q.2 * Nat.gcd q.1 q.2 = q.1 := Nat.div_mul_cancel (Nat.gcd_dvd_left _ _)
  have e2 : den q.1 q.2 * Nat.gcd q.1 q.2 = q.2 := Nat.div_mul_cancel (Nat.gcd_dvd_right _ _)
  have e3 : M / den q.1 q.2 * den q.1 q.2 = M := Nat.div_mul_cancel hd
  unfold wrk
  calc q.1 * M = (num q.1 q.2 * Nat.gcd q.1 q.2) * (M / den q.1 q.2 * den q.1 q.2) := by rw [e1, e3]
    _ = num q.1 q.2 * (M / den q.1 q.2) * (den q.1 q.2 * Nat.gcd q.1 q.2) := by ac_rfl
    _ = num q.1 q.2 * (M / den q.1 q.2) * q.2 := by rw [e2]
theorem raw_len {M : Nat} {qs : List (Nat × Nat)} (hM : 0 < M) (h : ∀ q ∈ qs, 0 < q.2 ∧ den q.1 q.2 ∣ M) : rawP qs = lenP M (qs.map (wrk M)) := by
  unfold rawP lenP
  rw [List.map_map]
  congr 1
  exact List.map_congr_left fun q hq => fr_wrk (h q hq).1 hM (h q hq).2
theorem tick_dvd : ∀ {qs : List (Nat × Nat)} {acc M : Nat}, acc ∣ M → (∀ q ∈ qs, den q.1 q.2 ∣ M) → tickN acc qs ∣ M
  | [], _, _, h, _ => h
  | q :: qs, acc, _, h, h2 => tick_dvd (qs := qs) (acc := Nat.lcm acc (den q.1 q.2)) (Nat.lcm_dvd h (h2 q List.mem_cons_self)) fun p hp => h2 p (List.mem_cons_of_mem _ hp)
theorem dvd_tick : ∀ {qs : List (Nat × Nat)} {acc : Nat}, acc ∣ tickN acc qs ∧ ∀ q ∈ qs, den q.1 q.2 ∣ tickN acc qs
  | [], _ => ⟨Nat.dvd_refl _, fun q h => by cases h⟩
  | q :: qs, acc => by
    have ⟨h1, h2⟩ := dvd_tick (qs := qs) (acc := Nat.lcm acc (den q.1 q.2))
    refine ⟨Nat.dvd_trans (Nat.dvd_lcm_left _ _) h1, fun p hp => ?_⟩
    cases hp with
    | head => exact Nat.dvd_trans (Nat.dvd_lcm_right _ _) h1
    | tail _ hp => exact h2 p hp
theorem tick_pos {qs : List (Nat × Nat)} {acc : Nat} (h0 : 0 < acc) (h : ∀ q ∈ qs, 0 < q.2) : 0 < tickN acc qs := by
  induction qs generalizing acc with
  | nil => exact h0
  | cons q qs ih => exact ih (Nat.lcm_pos h0 (den_pos (h q List.mem_cons_self))) fun p hp => h p (List.mem_cons_of_mem _ hp)
end Pl

end -- PlO
section -- PlQ
namespace Ev
theorem run_to {A : Amb} {n : Nat} {b : T} {vs : List PV} {S S' : Sto} {v : PV} (h : exT A b (vs.map .val ++ List.replicate (n - vs.length) .no) S = .ok (.rt v) S') : run A n b vs S = .ok v S' := by
  unfold run; rw [h]
theorem run_ex {A : Amb} {n : Nat} {b : T} {vs : List PV} {S : Sto} {v : PV} {Q : Sto → Prop} (h : ∃ S', exT A b (vs.map .val ++ List.replicate (n - vs.length) .no) S = .ok (.rt v) S' ∧ Q S') : ∃ S', run A n b vs S = .ok v S' ∧ Q S' := by
  obtain ⟨S', e, q⟩ := h
  exact ⟨S', run_to e, q⟩
theorem forM_inv {f : PV → List Sl → Sto → Qr} {I : Nat → List Sl → Sto → Prop} : ∀ {xs : List PV} {j : Nat} (hf : ∀ k x ρ S, xs[k]? = some x → I (j + k) ρ S → ∃ ρ' S', f x ρ S = .ok (.nx ρ') S' ∧ I (j + k + 1) ρ' S') {ρ : List Sl} {S : Sto}, I j ρ S → ∃ ρ' S', forM f xs ρ S = .ok (.nx ρ') S' ∧ I (j + xs.length) ρ' S'
  | [], j, _, ρ, S, h => ⟨ρ, S, rfl, h⟩
  | x :: xs, j, hf, ρ, S, h => by
    obtain ⟨ρ1, S1, e1, h1⟩ := hf 0 x ρ S rfl h
    obtain ⟨ρ2, S2, e2, h2⟩ := forM_inv (f := f) (I := I) (xs := xs) (j := j + 1) (fun k y ρ S hk hI => by
      have := hf (k + 1) y ρ S (by simpa using hk) (by rw [← Nat.add_assoc, Nat.add_right_comm]; exact hI)
      rw [← Nat.add_assoc, Nat.add_right_comm j k 1] at this
      exact this) h1
    refine ⟨ρ2, S2, ?_, ?_⟩
    · unfold forM
      rw [e1, seq_nx, e2]
    · rw [List.length_cons, Nat.add_comm xs.length 1, ← Nat.add_assoc]; exact h2
/-- a for-loop: I k holds after k turns -/
theorem for_ok {A : Amb} {k : IK} {src : Cs} {tg : Tg} {b : T} {vs xs : List PV} {ρ : List Sl} {S S1 : Sto} (I : Nat → List Sl → Sto → Prop) (hs : evs A src ρ S = .ok vs S1) (hi : items k vs = some xs) (h0 : I 0 ρ S1)
    (hf : ∀ k x ρ S, xs[k]? = some x → I k ρ S → ∃ ρ2 ρ' S', bindT tg x ρ = some ρ2 ∧ exT A b ρ2 S = .ok (.nx ρ') S' ∧ I (k + 1) ρ' S') :
    ∃ ρ' S', exS A (.for_ k src tg b) ρ S = .ok (.nx ρ') S' ∧ I xs.length ρ' S' := by
  rw [exS, hs]
  simp only [to_ok, hi]
  have := forM_inv (f := fun x ρ1 S2 => bindQ tg x ρ1 fun ρ2 => exT A b ρ2 S2) (I := I) (xs := xs) (j := 0) (fun k x ρ S hk hI => by
    obtain ⟨ρ2, ρ', S', e1, e2, h⟩ := hf k x ρ S hk (by rw [Nat.zero_add] at hI; exact hI)
    refine ⟨ρ', S', ?_, by rw [Nat.zero_add]; exact h⟩
    simp only [bindQ, e1, e2]) h0
  rw [Nat.zero_add] at this
  exact this
theorem exT_seq {A : Amb} {s : Sm} {r : T} {ρ ρ' : List Sl} {S S' : Sto} (h : exS A s ρ S = .ok (.nx ρ') S') : exT A (.cons s r) ρ S = exT A r ρ' S' := by
  rw [exT, h, seq_nx]
/-- a while-loop: I holds at each turn, μ falls -/
theorem whileM_inv {c : List Sl → Sto → R PV} {b : List Sl → Sto → Qr} {I : List Sl → Sto → Prop} {μ : List Sl → Nat} {Q : List Sl → Sto → Prop}
    (hc : ∀ ρ S, I ρ S → (c ρ S = .ok (.bl false) S ∧ Q ρ S) ∨ (c ρ S = .ok (.bl true) S ∧ ∃ ρ' S', b ρ S = .ok (.nx ρ') S' ∧ I ρ' S' ∧ μ ρ' < μ ρ)) :
    ∀ {n : Nat} {ρ : List Sl} {S : Sto}, μ ρ < n → I ρ S → ∃ ρ' S', whileM c b n ρ S = .ok (.nx ρ') S' ∧ Q ρ' S'
  | 0, _, _, h, _ => by omega
  | n + 1, ρ, S, h, hI => by
    unfold whileM
    rcases hc ρ S hI with ⟨e, q⟩ | ⟨e, ρ', S', e2, hI', hm⟩
    · exact ⟨ρ, S, by rw [e, to_ok, truthQ_bl]; rfl, q⟩
    · obtain ⟨ρ2, S2, e3, q⟩ := whileM_inv hc (n := n) (by omega) hI'
      exact ⟨ρ2, S2, by rw [e, to_ok, truthQ_bl, if_pos rfl, e2, seq_nx, e3], q⟩
theorem whl_ok {A : Amb} {c : C} {b : T} {ρ : List Sl} {S : Sto} (I : List Sl → Sto → Prop) (μ : List Sl → Nat) (Q : List Sl → Sto → Prop) (h0 : I ρ S) (hμ : μ ρ < fuel)
    (hc : ∀ ρ S, I ρ S → (ev A c ρ S = .ok (.bl false) S ∧ Q ρ S) ∨ (ev A c ρ S = .ok (.bl true) S ∧ ∃ ρ' S', exT A b ρ S = .ok (.nx ρ') S' ∧ I ρ' S' ∧ μ ρ' < μ ρ)) :
    ∃ ρ' S', exS A (.whl c b) ρ S = .ok (.nx ρ') S' ∧ Q ρ' S' := by
  rw [exS]
  exact whileM_inv hc hμ h0
theorem and_ok {A : Amb} {a b : C} {ρ : List Sl} {S : Sto} {c d : Bool} (ha : ev A a ρ S = .ok (.bl c) S) (hb : c = true → ev A b ρ S = .ok (.bl d) S) : ev A (.and_ a b) ρ S = .ok (.bl (c && d)) S := by
  rw [ev, ha, bind_ok, truth_bl]
  cases c with
  | false => rfl
  | true => rw [if_pos rfl, hb rfl, bind_ok, truth_bl, Bool.true_and]
theorem or_ok {A : Amb} {a b : C} {ρ : List Sl} {S : Sto} {c d : Bool} (ha : ev A a ρ S = .ok (.bl c) S) (hb : c = false → ev A b ρ S = .ok (.bl d) S) : ev A (.or_ a b) ρ S = .ok (.bl (c || d)) S := by
  rw [ev, ha, bind_ok, truth_bl]
  cases c with
  | true => rfl
  | false => rw [if_neg (by decide), hb rfl, bind_ok, truth_bl, Bool.false_or]
theorem ite_ok {A : Amb} {c : C} {a b : T} {ρ : List Sl} {S S' : Sto} {k : Bool} (h : ev A c ρ S = .ok (.bl k) S') : exS A (.ite c a b) ρ S = if k = true then exT A a ρ S' else exT A b ρ S' := by
  rw [exS, h, to_ok, truthQ_bl]
theorem dataInt {i : Int} : data (.int i) = true := rfl
theorem eqInt {i j : Int} : eqV (.int i) (.int j) = some (decide (i = j)) := by
  unfold eqV
  rw [if_pos ⟨dataInt, dataInt⟩]
  simp only [eqB]
  rfl
theorem eqNat {i j : Nat} : eqV (.int (i : Int)) (.int (j : Int)) = some (decide (i = j)) := by
  rw [eqInt]; congr 1; exact decide_eq_decide.2 Int.ofNat_inj
theorem eqNat0 {i : Nat} : eqV (.int (i : Int)) (.int 0) = some (decide (i = 0)) := eqNat (j := 0)
theorem dataNs_all {n : Nat} : ∀ {xs : List PV}, (∀ x ∈ xs, dataN n x = true) → dataNs n xs = true
  | [], _ => by unfold dataNs; rfl
  | x :: xs, h => by
    unfold dataNs
    rw [h x List.mem_cons_self, dataNs_all fun y hy => h y (List.mem_cons_of_mem _ hy)]
    rfl
theorem eqNil {xs : List PV} (h : ∀ x ∈ xs, dataN 59 x = true) : eqV (.lst xs) (.lst []) = some xs.isEmpty := by
  have hd : data (.lst xs) = true := by
    unfold data dataN
    exact dataNs_all h
  unfold eqV
  rw [if_pos ⟨hd, rfl⟩]
  cases xs with
  | nil => rfl
  | cons x xs => rfl
theorem lcM_flat {α : Type} {f : PV → Sto → R (List PV)} {enc : α → PV} {g : α → List PV} {S : Sto} : ∀ {ys : List α}, (∀ y ∈ ys, f (enc y) S = .ok (g y) S) → lcM f (ys.map enc) S = .ok (ys.flatMap g) S
  | [], _ => rfl
  | y :: ys, h => by
    rw [List.map_cons]
    unfold lcM
    rw [h y List.mem_cons_self]
    simp only [lcM_flat fun z hz => h z (List.mem_cons_of_mem _ hz), List.flatMap_cons]
theorem lc_flat {α : Type} {A : Amb} {own : List Nat} {k : IK} {src cnd : Cs} {tg : Tg} {elt : C} {ρ : List Sl} {S : Sto} {vs : List PV} (ys : List α) (enc : α → PV) (g : α → List PV) (hs : evs A src ρ S = .ok vs S) (hi : items k vs = some (ys.map enc))
    (hf : ∀ y ∈ ys, ∃ ρ', bindT tg (enc y) (wipeS ρ own) = some ρ' ∧ condM (evs A cnd ρ' S) (fun S3 => oneR (ev A elt ρ' S3)) = .ok (g y) S) (hl : (ys.flatMap g).length ≤ lim) :
    ev A (.lc own k src tg cnd elt) ρ S = .ok (.lst (ys.flatMap g)) S := by
  rw [ev, hs, bind_ok, hi]
  simp only [itemsR]
  rw [lcM_flat (g := g) fun y hy => by
    obtain ⟨ρ', e1, e2⟩ := hf y hy
    simp only [bindR, e1, e2]]
  simp only [listR, if_pos hl]
theorem flat_one {α β : Type} {h : α → β} : ∀ {ys : List α}, ys.flatMap (fun y => [h y]) = ys.map h
  | [] => rfl
  | y :: ys => by rw [List.flatMap_cons, flat_one, List.map_cons]; rfl
theorem flat_if {α β : Type} {p : α → Bool} {h : α → β} : ∀ {ys : List α}, ys.flatMap (fun y => if p y = true then [h y] else []) = (ys.filter p).map h
  | [] => rfl
  | y :: ys => by
    rw [List.flatMap_cons, flat_if]
    by_cases e : p y = true
    · rw [if_pos e, List.filter_cons_of_pos e]; rfl
    · rw [if_neg e, List.filter_cons_of_neg e]; rfl
theorem lc_map {α : Type} {A : Amb} {own : List Nat} {k : IK} {src : Cs} {tg : Tg} {elt : C} {ρ : List Sl} {S : Sto} {vs : List PV} (ys : List α) (enc h : α → PV) (hs : evs A src ρ S = .ok vs S) (hi : items k vs = some (ys.map enc))
    (hf : ∀ y ∈ ys, ∃ ρ', bindT tg (enc y) (wipeS ρ own) = some ρ' ∧ ev A elt ρ' S = .ok (h y) S) (hl : ys.length ≤ lim) :
    ev A (.lc own k src tg .nil elt) ρ S = .ok (.lst (ys.map h)) S := by
  rw [lc_flat ys enc (fun y => [h y]) hs hi (fun y hy => ?_) (by rw [flat_one, List.length_map]; exact hl), flat_one]
  obtain ⟨ρ', e1, e2⟩ := hf y hy
  exact ⟨ρ', e1, by simp only [evs, condM, e2, oneR]⟩
theorem lc_filter {α : Type} {A : Amb} {own : List Nat} {k : IK} {src cnd : Cs} {tg : Tg} {elt : C} {ρ : List Sl} {S : Sto} {vs : List PV} (ys : List α) (enc h : α → PV) (p : α → Bool) (hs : evs A src ρ S = .ok vs S) (hi : items k vs = some (ys.map enc))
    (hf : ∀ y ∈ ys, ∃ ρ', bindT tg (enc y) (wipeS ρ own) = some ρ' ∧ evs A cnd ρ' S = .ok [.bl (p y)] S ∧ (p y = true → ev A elt ρ' S = .ok (h y) S)) (hl : ys.length ≤ lim) :
    ev A (.lc own k src tg cnd elt) ρ S = .ok (.lst ((ys.filter p).map h)) S := by
  rw [lc_flat ys enc (fun y => if p y = true then [h y] else []) hs hi (fun y hy => ?_) (by rw [flat_if, List.length_map]; exact Nat.le_trans (List.length_filter_le _ _) hl), flat_if]
  obtain ⟨ρ', e1, e2, e3⟩ := hf y hy
  refine ⟨ρ', e1, ?_⟩
  rw [e2]
  cases hp : p y with
  | true => simp only [condM, e3 hp, oneR]; rfl
  | false => rfl
abbrev natI (n : Nat) : PV := .int (n : Int)
theorem rngI {n : Nat} (h : n < 1000000000000) : items .rng [.int (n : Nat)] = some ((List.range n).map natI) := by
  have hr : rngOk (n : Int) = true := by
    unfold rngOk
    rw [decide_eq_true (by omega), decide_eq_true (by omega)]
    rfl
  show rngV [.int (n : Nat)] = _
  unfold rngV
  simp only [hr, ↓reduceIte, Int.toNat_natCast, Int.zero_add]
theorem rngI2 {a b : Nat} (h : a < 1000000000000) (h2 : b < 1000000000000) : items .rng [.int (a : Nat), .int (b : Nat)] = some ((List.range (b - a)).map fun i => natI (a + i)) := by
  have hr : ∀ n : Nat, n < 1000000000000 → rngOk (n : Int) = true := fun n h => by
    unfold rngOk
    rw [decide_eq_true (by omega), decide_eq_true (by omega)]
    rfl
  show rngV [.int (a : Nat), .int (b : Nat)] = _
  unfold rngV
  simp only [hr a h, hr b h2, and_self, ↓reduceIte]
  rw [show ((b : Int) - a).toNat = b - a by omega]
  simp only [natI, Int.natCast_add]
theorem rng_get {n k : Nat} {x : PV} (h : ((List.range n).map natI)[k]? = some x) : k < n ∧ x = natI k := by
  rw [List.getElem?_map] at h
  obtain ⟨i, h1, h2⟩ := Option.map_eq_some_iff.1 h
  obtain ⟨h3, h4⟩ := List.getElem?_eq_some_iff.1 h1
  rw [List.length_range] at h3
  rw [List.getElem_range] at h4
  subst h4
  exact ⟨h3, h2.symm⟩
theorem map_get {α : Type} {enc : α → PV} {ys : List α} {k : Nat} {x : PV} (h : (ys.map enc)[k]? = some x) : ∃ y, ys[k]? = some y ∧ x = enc y := by
  rw [List.getElem?_map] at h
  obtain ⟨i, h1, h2⟩ := Option.map_eq_some_iff.1 h
  exact ⟨i, h1, h2.symm⟩
theorem atI_nat {α : Type} {xs : List α} {n : Nat} {x : α} (h : xs[n]? = some x) : L2.atI xs (n : Int) = some x := by
  obtain ⟨hn, _⟩ := List.getElem?_eq_some_iff.1 h
  unfold L2.atI L2.ixN
  rw [if_pos (by omega), if_pos (by omega)]
  simpa using h
theorem atI_0 {α : Type} {x : α} {xs : List α} : L2.atI (x :: xs) 0 = some x := atI_nat (n := 0) rfl
theorem atI_1 {α : Type} {x y : α} {xs : List α} : L2.atI (x :: y :: xs) 1 = some y := atI_nat (n := 1) rfl
theorem atI_last {α : Type} {xs : List α} {n : Nat} {x : α} (hl : xs.length = n + 1) (h : xs[n]? = some x) : L2.atI xs (-1) = some x := by
  unfold L2.atI L2.ixN
  rw [if_neg (by omega), if_pos (by omega)]
  simp only [Option.bind]
  rw [show (-1 + (xs.length : Int)).toNat = n by omega]
  exact h
theorem ixN_nat {n b : Nat} (h : b < n) : L2.ixN n (b : Int) = some b := by
  unfold L2.ixN
  rw [if_pos (by omega), if_pos (by omega), Int.toNat_natCast]
def upd {α : Type} (g : Nat → α) (b : Nat) (v : α) : Nat → α := fun i => if i = b then v else g i
theorem upd_eq {α : Type} {g : Nat → α} {b : Nat} {v : α} : upd g b v b = v := if_pos rfl
theorem upd_ne {α : Type} {g : Nat → α} {b i : Nat} {v : α} (h : i ≠ b) : upd g b v i = g i := if_neg h
theorem set_upd {α β : Type} {m b : Nat} {g : Nat → α} {enc : α → β} {v : α} (h : b < m) : ((List.range m).map fun i => enc (g i)).set b (enc v) = (List.range m).map fun i => enc (upd g b v i) := by
  apply List.ext_getElem?
  intro i
  rw [List.getElem?_set, List.getElem?_map, List.getElem?_map, List.length_map, List.length_range]
  by_cases e : b = i
  · subst e
    rw [if_pos rfl, if_pos h, List.getElem?_range h]
    simp only [Option.map_some, upd_eq]
  · rw [if_neg e]
    by_cases hi : i < m
    · rw [List.getElem?_range hi]
      simp only [Option.map_some]
      rw [upd_ne (Ne.symm e)]
    · rw [List.getElem?_eq_none (by rw [List.length_range]; omega)]
      rfl
theorem range_at {α : Type} {m b : Nat} {g : Nat → α} (h : b < m) : L2.atI ((List.range m).map g) (b : Int) = some (g b) :=
  atI_nat (by rw [List.getElem?_map, List.getElem?_range h]; rfl)
theorem list_range {α β : Type} (f : α → β) (d : α) (ws : List α) : ws.map f = (List.range ws.length).map fun i => f (ws[i]?.getD d) := by
  apply List.ext_getElem?
  intro i
  rw [List.getElem?_map, List.getElem?_map]
  by_cases hi : i < ws.length
  · rw [List.getElem?_range hi, List.getElem?_eq_getElem hi]
    simp only [Option.map_some]
    rw [List.getElem?_eq_getElem hi]
    rfl
  · rw [List.getElem?_eq_none (by omega), List.getElem?_eq_none (by rw [List.length_range]; omega)]
    rfl
theorem range_congr {α : Type} {m : Nat} {g h : Nat → α} (e : ∀ i, i < m → g i = h i) : (List.range m).map g = (List.range m).map h :=
  List.map_congr_left fun i hi => e i (List.mem_range.1 hi)
theorem leN {a b : Nat} : decide ((a : Int) ≤ (b : Int)) = decide (a ≤ b) := decide_eq_decide.2 Int.ofNat_le
theorem ltN {a b : Nat} : decide ((a : Int) < (b : Int)) = decide (a < b) := decide_eq_decide.2 Int.ofNat_lt
theorem lt0N {b : Nat} : decide ((0 : Int) < (b : Int)) = decide (0 < b) := decide_eq_decide.2 (by omega)
theorem mulI {i j : Int} (hi : i.natAbs < 2 ^ 4000) (hj : j.natAbs < 2 ^ 4000) : mulV (.int i) (.int j) = some (.int (i * j)) := by
  have h1 : ∀ i : Int, i.natAbs < 2 ^ 4000 → i.natAbs.log2 < 4001 := fun i hi => by
    by_cases h : i.natAbs = 0
    · rw [h]; decide
    · exact Nat.lt_succ_of_lt ((Nat.log2_lt h).2 hi)
  have := h1 i hi
  have := h1 j hj
  have : mulOk i j = true := by unfold mulOk; exact decide_eq_true (by omega)
  simp only [mulV, this, ↓reduceIte]
theorem two4000 {a k : Nat} (h : a < 2 ^ k) (hk : k ≤ 4000) : a < 2 ^ 4000 := Nat.lt_of_lt_of_le h (Nat.pow_le_pow_right (by decide) hk)
theorem mulN {a b : Nat} (ha : a < 2 ^ 60) (hb : b < 2 ^ 60) : mulV (.int (a : Nat)) (.int (b : Nat)) = some (.int ((a * b : Nat) : Int)) := by
  rw [mulI (by rw [Int.natAbs_natCast]; exact two4000 ha (by decide)) (by rw [Int.natAbs_natCast]; exact two4000 hb (by decide)), Int.natCast_mul]
theorem divOkI {y : Nat} (h : 0 < y) (h2 : y < 2 ^ 8000) : divOk (y : Int) = true := by
  unfold divOk
  have : y.log2 < 9000 := Nat.lt_of_lt_of_le ((Nat.log2_lt (by omega)).2 h2) (by decide)
  simp only [Int.natAbs_natCast, this, decide_true, Bool.and_true]
  exact decide_eq_true (by omega)
theorem divOkN {y : Nat} (h : 0 < y) (h2 : y < 2 ^ 60) : divOk (y : Int) = true := divOkI h (Nat.lt_of_lt_of_le h2 (Nat.pow_le_pow_right (by decide) (by decide)))
theorem slVar_v {v : PV} : slVar (some (.val v)) = some v := rfl
theorem slBor_v {v : PV} : slBor (some (.val v)) = some v := rfl
theorem slBor_o {xs : List PV} : slBor (some (.opn xs)) = some (.lst xs) := rfl
theorem isBox_o {xs : List PV} : isBox (some (.opn xs)) = true := rfl
theorem isBox_c {k : Nat} : isBox (some (.val (.cell k))) = true := rfl
theorem isOpn_o {xs : List PV} : isOpn (some (.opn xs)) = true := rfl
theorem setIx_o {xs : List PV} {i n : Nat} {v : PV} {j : Int} {ρ : List Sl} {S : Sto} (h : L2.ixN xs.length j = some n) : setIxQ (some (.opn xs)) i v (.int j) ρ S = .ok (.nx (ρ.set i (.opn (xs.set n v)))) S := by
  simp only [setIxQ, h]
theorem setIx_c {xs : List PV} {i n k : Nat} {v : PV} {j : Int} {ρ : List Sl} {S : Sto} (h0 : lstAt S k = some xs) (h : L2.ixN xs.length j = some n) : setIxQ (some (.val (.cell k))) i v (.int j) ρ S = .ok (.nx ρ) (S.set k (.lst (xs.set n v))) := by
  simp only [setIxQ, h0, h]
theorem app_o {xs : List PV} {i : Nat} {v : PV} {ρ : List Sl} {S : Sto} (h : xs.length < lim) : appQ (some (.opn xs)) i v ρ S = .ok (.nx (ρ.set i (.opn (xs ++ [v])))) S := by
  simp only [appQ, h, ↓reduceIte]
theorem seto_l {i : Nat} {xs : List PV} {ρ : List Sl} {S : Sto} : setoQ i (.lst xs) ρ S = .ok (.nx (ρ.set i (.opn xs))) S := rfl
theorem opnTo_o {xs : List PV} {i : Nat} {ρ : List Sl} : opnTo (some (.opn xs)) ρ i = ρ.set i (.val (.lst xs)) := rfl
theorem opnTo_v {v : PV} {i : Nat} {ρ : List Sl} : opnTo (some (.val v)) ρ i = ρ := rfl
theorem addV_i {i j : Int} : addV (.int i) (.int j) = some (.int (i + j)) := rfl
theorem addV_t {xs ys : List PV} (h : xs.length + ys.length ≤ lim) : addV (.tup xs) (.tup ys) = some (.tup (xs ++ ys)) := by
  simp only [addV, h, ↓reduceIte]
theorem addV_l {xs ys : List PV} (h : xs.length + ys.length ≤ lim) : addV (.lst xs) (.lst ys) = some (.lst (xs ++ ys)) := by
  simp only [addV, h, ↓reduceIte]
theorem intOp_i {f : Int → Int → Option PV} {i j : Int} : intOp f (.int i) (.int j) = f i j := rfl
theorem ixV_t {S : Sto} {xs : List PV} {i : Int} : ixV S (.tup xs) (.int i) = L2.atI xs i := rfl
theorem ixV_l {S : Sto} {xs : List PV} {i : Int} : ixV S (.lst xs) (.int i) = L2.atI xs i := rfl
theorem ixV_s {S : Sto} {xs : List Int} {i : Int} : ixV S (.scr xs) (.int i) = L2.atI (xs.map .int) i := rfl
theorem ixV_c {S : Sto} {k : Nat} {xs : List PV} {i : Int} (h : lstAt S k = some xs) : ixV S (.cell k) (.int i) = L2.atI xs i := by
  simp only [ixV, seqOf, h]
theorem len_t {S : Sto} {xs : List PV} : blt .len S [.tup xs] = some (.int (xs.length : Nat)) := rfl
theorem len_l {S : Sto} {xs : List PV} : blt .len S [.lst xs] = some (.int (xs.length : Nat)) := rfl
theorem len_s {S : Sto} {xs : List Int} : blt .len S [.scr xs] = some (.int (xs.length : Nat)) := by
  simp only [blt, seqOf, Option.map_some, List.length_map]
theorem blt_int {S : Sto} {i : Int} : blt .int S [.int i] = some (.int i) := rfl
theorem blt_abs {S : Sto} {i : Int} : blt .abs S [.int i] = some (.int (if i < 0 then -i else i)) := rfl
theorem blt_tl {S : Sto} {xs : List PV} : blt .tuple S [.lst xs] = some (.tup xs) := rfl
theorem blt_tt {S : Sto} {xs : List PV} : blt .tuple S [.tup xs] = some (.tup xs) := rfl
theorem blt_ll {S : Sto} {xs : List PV} : blt .list S [.lst xs] = some (.lst xs) := rfl
theorem blt_lt {S : Sto} {xs : List PV} : blt .list S [.tup xs] = some (.lst xs) := rfl
theorem blt_max {S : Sto} {i j : Int} : blt .max S [.int i, .int j] = some (.int (if j > i then j else i)) := rfl
theorem blt_min {S : Sto} {i j : Int} : blt .min S [.int i, .int j] = some (.int (if j < i then j else i)) := rfl
theorem isi_tt {xs : List PV} : isiN "tuple" (.tup xs) = some true := rfl
theorem isi_ii {i : Int} : isiN "int" (.int i) = some true := rfl
theorem isi_bi {i : Int} : isiN "bool" (.int i) = some false := rfl
theorem isi_bb {b : Bool} : isiN "bool" (.bl b) = some true := rfl
theorem bindQ_nm {i : Nat} {v : PV} {ρ : List Sl} {f : List Sl → Qr} : bindQ (.nm i) v ρ f = f (ρ.set i (.val v)) := rfl
theorem bindT_nm {i : Nat} {v : PV} {ρ : List Sl} : bindT (.nm i) v ρ = some (ρ.set i (.val v)) := rfl
theorem bindQ_tp {is : List Nat} {vs : List PV} {ρ : List Sl} {f : List Sl → Qr} (h : vs.length = is.length) : bindQ (.tp is) (.tup vs) ρ f = f (setL is vs ρ) := by
  simp only [bindQ, bindT, h, ↓reduceIte]
theorem partOf_n : partOf [] = some none := rfl
theorem partOf_i {i : Int} : partOf [.int i] = some (some i) := rfl
theorem partK_n {f : Option Int → R PV} : partK [] f = f none := rfl
theorem partK_i {i : Int} {f : Option Int → R PV} : partK [.int i] f = f (some i) := rfl
theorem slP_t {S : Sto} {xs : List PV} {l h : Option Int} : slP S (.tup xs) l h = some (.tup (cutP xs l h)) := rfl
theorem slP_l {S : Sto} {xs : List PV} {l h : Option Int} : slP S (.lst xs) l h = some (.lst (cutP xs l h)) := rfl
end Ev

end -- PlQ
section -- PlP
namespace Pl
open Ev
/-- the first moment up to t that suffices -/
def fnd (f : Nat → Nat) : Nat → Option Nat
  | 0 => none
  | t + 1 => match fnd f t with
    | some s => some s
    | none => if f (t + 1) ≤ t + 1 then some (t + 1) else none
theorem fnd_none {f : Nat → Nat} : ∀ {t : Nat}, fnd f t = none ↔ ∀ s, 0 < s → s ≤ t → s < f s
  | 0 => ⟨fun _ s h1 h2 => absurd h2 (by omega), fun _ => rfl⟩
  | t + 1 => by
    unfold fnd
    cases e : fnd f t with
    | some s =>
      refine ⟨fun h => (by cases h), fun h => ?_⟩
      have := (fnd_none (f := f) (t := t)).2 fun s h1 h2 => h s h1 (by omega)
      rw [e] at this; cases this
    | none =>
      have h0 := (fnd_none (f := f) (t := t)).1 e
      refine ⟨fun h s h1 h2 => ?_, fun h => ?_⟩
      · by_cases hs : s = t + 1
        · subst hs
          by_cases h3 : f (t + 1) ≤ t + 1
          · simp [h3] at h
          · omega
        · exact h0 s h1 (by omega)
      · have := h (t + 1) (by omega) (by omega)
        simp only [if_neg (show ¬ f (t + 1) ≤ t + 1 by omega)]
theorem fnd_some {f : Nat → Nat} : ∀ {t s : Nat}, fnd f t = some s → 0 < s ∧ s ≤ t ∧ f s ≤ s ∧ ∀ u, 0 < u → f u ≤ u → s ≤ u
  | 0, s, h => by cases h
  | t + 1, s, h => by
    unfold fnd at h
    cases e : fnd f t with
    | some s' =>
      rw [e] at h
      cases h
      have ⟨a, b, c, d⟩ := fnd_some e
      exact ⟨a, by omega, c, d⟩
    | none =>
      rw [e] at h
      have h0 := (fnd_none (f := f) (t := t)).1 e
      by_cases h3 : f (t + 1) ≤ t + 1
      · simp only [if_pos h3] at h
        cases h
        refine ⟨by omega, by omega, h3, fun u hu hu2 => ?_⟩
        by_cases h4 : u ≤ t
        · have := h0 u hu h4; omega
        · omega
      · simp only [if_neg h3] at h
        cases h
/-- the climb finds it -/
theorem climb_fnd {f : Nat → Nat} {B m : Nat} (hf : ∀ s t, s ≤ t → f s ≤ f t) (hm : 0 < m) (hl : ∀ s, 0 < s → f s ≤ s → m ≤ s) : climbN f B (B + 1) m = fnd f B := by
  have ⟨h1, h2⟩ := climbN_some (B := B) hf (n := B + 1) hm hl (by omega)
  cases e : climbN f B (B + 1) m with
  | some t =>
    have ⟨⟨a, b, c⟩, d⟩ := h1 t e
    cases e2 : fnd f B with
    | none => have := (fnd_none (f := f)).1 e2 t a d; omega
    | some s =>
      have ⟨a2, b2, c2, d2⟩ := fnd_some e2
      have := c s a2 c2
      have := d2 t a b
      congr 1
      omega
  | none =>
    symm
    rw [fnd_none]
    intro s a b
    by_cases h3 : f s ≤ s
    · have := h2 e s a h3; omega
    · omega
def sumTo (g : Nat → Nat) : Nat → Nat
  | 0 => g 0
  | n + 1 => sumTo g n + g (n + 1)
theorem sumTo_le {g : Nat → Nat} : ∀ {n i : Nat}, i ≤ n → g i ≤ sumTo g n
  | 0, i, h => by have : i = 0 := by omega
                  subst this; exact Nat.le_refl _
  | n + 1, i, h => by
    unfold sumTo
    by_cases e : i = n + 1
    · subst e; omega
    · have := sumTo_le (g := g) (n := n) (i := i) (by omega); omega
theorem sumTo_congr {g h : Nat → Nat} : ∀ {n : Nat}, (∀ i, i ≤ n → g i = h i) → sumTo g n = sumTo h n
  | 0, e => e 0 (by omega)
  | n + 1, e => by
    unfold sumTo
    rw [sumTo_congr fun i hi => e i (by omega), e (n + 1) (by omega)]
theorem sumTo_zero {g : Nat → Nat} {n : Nat} (h : ∀ i, i ≤ n → g i = 0) : sumTo g n = 0 := by
  induction n with
  | zero => exact h 0 (by omega)
  | succ n ih => unfold sumTo; rw [ih fun i hi => h i (by omega), h (n + 1) (by omega)]
theorem sumTo_add {g h : Nat → Nat} : ∀ {n : Nat}, sumTo (fun i => g i + h i) n = sumTo g n + sumTo h n
  | 0 => rfl
  | n + 1 => by unfold sumTo; rw [sumTo_add]; omega
/-- two places hold at most the sum -/
theorem sumTo_two {g : Nat → Nat} : ∀ {n i j : Nat}, i ≤ n → j ≤ n → i ≠ j → g i + g j ≤ sumTo g n
  | 0, i, j, _, _, _ => by omega
  | n + 1, i, j, h1, h2, h3 => by
    unfold sumTo
    by_cases e : i = n + 1
    · subst e; have := sumTo_le (g := g) (n := n) (i := j) (by omega); omega
    · by_cases e2 : j = n + 1
      · subst e2; have := sumTo_le (g := g) (n := n) (i := i) (by omega); omega
      · have := sumTo_two (g := g) (n := n) (i := i) (j := j) (by omega) (by omega) h3; omega
theorem sumTo_dec {g : Nat → Nat} {b : Nat} (hb : 0 < g b) : ∀ {n : Nat}, sumTo (upd g b (g b - 1)) n + (if b ≤ n then 1 else 0) = sumTo g n
  | 0 => by
    unfold sumTo upd
    by_cases e : b = 0
    · subst e; simp; omega
    · rw [if_neg (by omega), if_neg (by omega)]; rfl
  | n + 1 => by
    have := sumTo_dec hb (n := n)
    unfold sumTo
    by_cases e : b = n + 1
    · subst e
      rw [if_neg (by omega)] at this
      have e2 : upd g (n + 1) (g (n + 1) - 1) (n + 1) = g (n + 1) - 1 := by unfold upd; rw [if_pos rfl]
      rw [e2, if_pos (by omega)]
      omega
    · have e2 : upd g b (g b - 1) (n + 1) = g (n + 1) := by unfold upd; rw [if_neg (by omega)]
      rw [e2]
      by_cases h : b ≤ n
      · rw [if_pos h] at this; rw [if_pos (by omega)]; omega
      · rw [if_neg h] at this; rw [if_neg (by omega)]; omega
theorem cdiv_succ {t x : Nat} (hx : 0 < x) : cdiv (t + 1) x = cdiv t x + (if t % x = 0 then 1 else 0) := by
  have e1 : cdiv (t + 1) x = t / x + 1 := by
    unfold cdiv
    rw [show t + 1 + x - 1 = t + x by omega, Nat.add_div_right _ hx]
  have h := Nat.div_add_mod t x
  rw [e1]
  by_cases h0 : t % x = 0
  · rw [if_pos h0]
    congr 1
    apply Nat.le_antisymm
    · have : ¬ cdiv t x < t / x := fun hh => by
        have := (cdiv_le (x := t) (n := cdiv t x) hx).1 (Nat.le_refl _)
        have h2 : (cdiv t x + 1) * x ≤ t / x * x := Nat.mul_le_mul_right _ hh
        rw [Nat.succ_mul] at h2
        have h3 := Nat.div_mul_le_self t x
        omega
      omega
    · rw [cdiv_le hx]
      rw [Nat.mul_comm]; omega
  · rw [if_neg h0, Nat.add_zero]
    apply Nat.le_antisymm
    · have : ¬ cdiv t x ≤ t / x := fun hh => by
        have := (cdiv_le (x := t) (n := t / x) hx).1 hh
        rw [Nat.mul_comm] at this; omega
      omega
    · rw [Nat.add_zero, cdiv_le hx, Nat.succ_mul, Nat.mul_comm (t / x)]
      have := Nat.mod_lt t hx
      omega
section sim
variable (P W : Nat → Nat)
def needA (n t : Nat) : Nat := sumTo (fun i => W i * cdiv t (P i)) n
def arr (t : Nat) (r : Nat → Nat) : Nat → Nat := fun i => r i + (if t % P i = 0 then W i else 0)
def busyN (m : Nat) (r : Nat → Nat) : List Nat := (List.range m).filter fun i => decide (0 < r i)
def stepN (m t : Nat) (rf : (Nat → Nat) × (Nat → Option Nat)) : (Nat → Nat) × (Nat → Option Nat) :=
  match busyN m (arr P W t rf.1) with
  | [] => (arr P W t rf.1, rf.2)
  | b :: _ => (upd (arr P W t rf.1) b (arr P W t rf.1 b - 1), if arr P W t rf.1 b - 1 = 0 ∧ rf.2 b = none ∧ t + 1 ≤ P b then upd rf.2 b (some (t + 1)) else rf.2)
structure Inv (m t : Nat) (r : Nat → Nat) (f : Nat → Option Nat) : Prop where
  z : ∀ n, n < m → W n = 0 → r n = 0 ∧ f n = some 0
  a1 : ∀ n, n < m → needA P W n t ≤ sumTo r n + t
  a2 : ∀ n, n < m → fnd (needA P W n) t = none → 0 < W n → needA P W n t = sumTo r n + t
  d : ∀ n, n < m → 0 < W n → fnd (needA P W n) t = none → 0 < t → 0 < r n
  c : ∀ n, n < m → 0 < W n → f n = fnd (needA P W n) (min t (P n))
end sim
variable {P W : Nat → Nat}
theorem busy_nil {m : Nat} {r : Nat → Nat} (h : busyN m r = []) : ∀ i, i < m → r i = 0 := fun i hi => by
  have := List.filter_eq_nil_iff.1 h i (List.mem_range.2 hi)
  simpa using this
theorem busy_cons_aux {r : Nat → Nat} : ∀ {m k : Nat} {b : Nat} {bs : List Nat}, (List.range' k m).filter (fun i => decide (0 < r i)) = b :: bs → k ≤ b ∧ b < k + m ∧ 0 < r b ∧ ∀ i, k ≤ i → i < b → r i = 0
  | 0, k, b, bs, h => by cases h
  | m + 1, k, b, bs, h => by
    rw [List.range'_succ] at h
    by_cases hk : 0 < r k
    · rw [List.filter_cons_of_pos (by simpa using hk)] at h
      cases h
      exact ⟨Nat.le_refl _, by omega, hk, fun i h1 h2 => by omega⟩
    · rw [List.filter_cons_of_neg (by simpa using hk)] at h
      have ⟨a, b', c, d⟩ := busy_cons_aux h
      refine ⟨by omega, by omega, c, fun i h1 h2 => ?_⟩
      by_cases e : i = k
      · subst e; omega
      · exact d i (by omega) h2
theorem busy_cons {m : Nat} {r : Nat → Nat} {b : Nat} {bs : List Nat} (h : busyN m r = b :: bs) : b < m ∧ 0 < r b ∧ ∀ i, i < b → r i = 0 := by
  unfold busyN at h
  rw [List.range_eq_range'] at h
  have ⟨_, b', c, d⟩ := busy_cons_aux h
  exact ⟨by omega, c, fun i hi => d i (by omega) hi⟩
theorem arr_sum {r : Nat → Nat} {n t : Nat} (hP : ∀ i, i ≤ n → 0 < P i) : sumTo (arr P W t r) n + needA P W n t = sumTo r n + needA P W n (t + 1) := by
  unfold needA arr
  rw [sumTo_add]
  have : sumTo (fun i => W i * cdiv (t + 1) (P i)) n = sumTo (fun i => W i * cdiv t (P i)) n + sumTo (fun i => if t % P i = 0 then W i else 0) n := by
    rw [← sumTo_add]
    apply sumTo_congr
    intro i hi
    rw [cdiv_succ (hP i hi), Nat.mul_add]
    congr 1
    by_cases h : t % P i = 0
    · rw [if_pos h, if_pos h, Nat.mul_one]
    · rw [if_neg h, if_neg h, Nat.mul_zero]
  omega
theorem inv_zero {m : Nat} {f : Nat → Option Nat} (hf : ∀ n, n < m → f n = if W n = 0 then some 0 else none) (hP : ∀ i, i < m → 0 < P i) : Inv P W m 0 (fun _ => 0) f where
  z n hn h := ⟨rfl, by rw [hf n hn, if_pos h]⟩
  a1 n hn := by
    have : needA P W n 0 = 0 := sumTo_zero fun i hi => by
      have := hP i (by omega)
      have : cdiv 0 (P i) = 0 := by unfold cdiv; exact Nat.div_eq_of_lt (by omega)
      rw [this, Nat.mul_zero]
    omega
  a2 n hn _ _ := by
    have : needA P W n 0 = 0 := sumTo_zero fun i hi => by
      have := hP i (by omega)
      have : cdiv 0 (P i) = 0 := by unfold cdiv; exact Nat.div_eq_of_lt (by omega)
      rw [this, Nat.mul_zero]
    rw [this]
    exact (sumTo_zero fun _ _ => rfl).symm
  d n hn _ _ h := by omega
  c n hn h := by rw [hf n hn, if_neg (by omega), Nat.zero_min]; rfl
theorem fnd_mono {f : Nat → Nat} {t s : Nat} (h : fnd f t = some s) : ∀ u, t ≤ u → fnd f u = some s := fun u hu => by
  induction u with
  | zero => have : t = 0 := by omega
            subst this; exact h
  | succ u ih =>
    by_cases e : t = u + 1
    · subst e; exact h
    · have := ih (by omega)
      unfold fnd; rw [this]
theorem fnd_back {f : Nat → Nat} {t u : Nat} (h : fnd f t = none) (hu : u ≤ t) : fnd f u = none := by
  rw [fnd_none] at h ⊢
  exact fun s a b => h s a (by omega)
theorem inv_step {m t : Nat} {r : Nat → Nat} {f : Nat → Option Nat} (hP : ∀ i, i < m → 0 < P i) (I : Inv P W m t r f) : Inv P W m (t + 1) (stepN P W m t (r, f)).1 (stepN P W m t (r, f)).2 := by
  have hsum : ∀ n, n < m → sumTo (arr P W t r) n + needA P W n t = sumTo r n + needA P W n (t + 1) := fun n hn => arr_sum fun i hi => hP i (by omega)
  have hz : ∀ n, n < m → W n = 0 → arr P W t r n = 0 := fun n hn h => by
    unfold arr; rw [(I.z n hn h).1, h]; split <;> rfl
  have hnn : ∀ n, fnd (needA P W n) (t + 1) = none → fnd (needA P W n) t = none := fun n h => fnd_back h (by omega)
  have hgt : ∀ n, fnd (needA P W n) (t + 1) = none → t + 1 < needA P W n (t + 1) := fun n h => (fnd_none.1 h) (t + 1) (by omega) (by omega)
  have harr : ∀ n, n < m → 0 < W n → fnd (needA P W n) t = none → 0 < arr P W t r n := fun n hn hw h => by
    unfold arr
    by_cases h0 : t = 0
    · subst h0; rw [Nat.zero_mod, if_pos rfl]; omega
    · have := I.d n hn hw h (by omega); omega
  unfold stepN
  dsimp only
  cases e : busyN m (arr P W t r) with
  | nil =>
    have hb := busy_nil e
    have hs0 : ∀ n, n < m → sumTo (arr P W t r) n = 0 := fun n hn => sumTo_zero fun i hi => hb i (by omega)
    have hno : ∀ n, n < m → 0 < W n → fnd (needA P W n) t ≠ none := fun n hn hw h => by
      have := harr n hn hw h
      have := hb n hn; omega
    refine ⟨fun n hn h => ⟨hz n hn h, (I.z n hn h).2⟩, fun n hn => ?_, fun n hn h hw => absurd (hnn n h) (hno n hn hw), fun n hn hw h => absurd (hnn n h) (hno n hn hw), fun n hn hw => ?_⟩
    · have := hsum n hn
      have := I.a1 n hn
      show _ ≤ sumTo (arr P W t r) n + _
      omega
    · show f n = _
      rw [I.c n hn hw]
      cases e2 : fnd (needA P W n) t with
      | none => exact absurd e2 (hno n hn hw)
      | some s =>
        by_cases h : t + 1 ≤ P n
        · rw [Nat.min_eq_left h, Nat.min_eq_left (by omega), e2, fnd_mono e2 (t + 1) (by omega)]
        · rw [show min t (P n) = P n by omega, show min (t + 1) (P n) = P n by omega]
  | cons b bs =>
    obtain ⟨hbm, hb0, hbl⟩ := busy_cons e
    have hdec : ∀ n, sumTo (upd (arr P W t r) b (arr P W t r b - 1)) n + (if b ≤ n then 1 else 0) = sumTo (arr P W t r) n := fun n => sumTo_dec hb0
    have hlow : ∀ n, n < b → sumTo (arr P W t r) n = 0 := fun n hn => sumTo_zero fun i hi => hbl i (by omega)
    have hWb : 0 < W b := Nat.pos_of_ne_zero fun h => by have := hz b hbm h; omega
    have hub : upd (arr P W t r) b (arr P W t r b - 1) b = arr P W t r b - 1 := by unfold upd; rw [if_pos rfl]
    have hun : ∀ n, n ≠ b → upd (arr P W t r) b (arr P W t r b - 1) n = arr P W t r n := fun n h => by unfold upd; rw [if_neg h]
    -- the sum through b falls to 0 exactly if its rest does
    have hsb : sumTo (arr P W t r) b = arr P W t r b := by
      cases b with
      | zero => rfl
      | succ b => unfold sumTo; rw [hlow b (by omega), Nat.zero_add]
    refine ⟨fun n hn h => ?_, fun n hn => ?_, fun n hn h hw => ?_, fun n hn hw h _ => ?_, fun n hn hw => ?_⟩
    · have hnb : n ≠ b := fun e => by subst e; omega
      refine ⟨by show upd (arr P W t r) b (arr P W t r b - 1) n = 0; rw [hun n hnb]; exact hz n hn h, ?_⟩
      show (if _ then upd f b (some (t + 1)) else f) n = _
      split
      · unfold upd; rw [if_neg hnb]; exact (I.z n hn h).2
      · exact (I.z n hn h).2
    · have h1 := hsum n hn
      have h2 := I.a1 n hn
      have h3 := hdec n
      show _ ≤ sumTo (upd (arr P W t r) b (arr P W t r b - 1)) n + _
      split at h3
      · omega
      · rename_i hbn
        have := hlow n (by omega)
        omega
    · have h1 := hsum n hn
      have h2 := I.a2 n hn (hnn n h) hw
      have h3 := hdec n
      have h4 := hgt n h
      show _ = sumTo (upd (arr P W t r) b (arr P W t r b - 1)) n + _
      split at h3
      · omega
      · rename_i hbn
        have := hlow n (by omega)
        omega
    · show 0 < upd (arr P W t r) b (arr P W t r b - 1) n
      by_cases hnb : n = b
      · subst hnb
        rw [hub]
        have h1 := hsum n hn
        have h2 := I.a2 n hn (hnn n h) hw
        have h4 := hgt n h
        omega
      · rw [hun n hnb]
        exact harr n hn hw (hnn n h)
    · show (if _ then upd f b (some (t + 1)) else f) n = _
      have hc := I.c n hn hw
      cases e2 : fnd (needA P W n) t with
      | some s =>
        have ⟨s1, s2, s3, s4⟩ := fnd_some e2
        have e3 : fnd (needA P W n) (min (t + 1) (P n)) = f n := by
          rw [hc]
          by_cases h : t + 1 ≤ P n
          · rw [Nat.min_eq_left h, Nat.min_eq_left (by omega), e2, fnd_mono e2 (t + 1) (by omega)]
          · rw [show min t (P n) = P n by omega, show min (t + 1) (P n) = P n by omega]
        rw [e3]
        split
        · rename_i h
          obtain ⟨h1, h2, h3⟩ := h
          by_cases hnb : n = b
          · subst hnb
            exfalso
            rw [show min t (P n) = t by omega, e2] at hc
            have h2' : f n = none := h2
            rw [h2'] at hc
            cases hc
          · unfold upd; rw [if_neg hnb]
        · rfl
      | none =>
        have ha := harr n hn hw e2
        have h1 := hsum n hn
        have h2 := I.a2 n hn e2 hw
        have h3 := hdec n
        have hb' : b ≤ n := by
          refine Nat.le_of_not_lt fun h => ?_
          have := hbl n h; omega
        rw [if_pos hb'] at h3
        have hfn : f n = none := by
          rw [hc]; exact fnd_back e2 (by omega)
        by_cases h4 : needA P W n (t + 1) ≤ t + 1
        · have hnb : n = b := by
            refine Decidable.byContradiction fun h => ?_
            have := sumTo_two (g := arr P W t r) (n := n) (i := n) (j := b) (by omega) hb' h
            omega
          subst hnb
          by_cases h5 : t + 1 ≤ P n
          · rw [if_pos ⟨by omega, hfn, h5⟩, Nat.min_eq_left h5]
            unfold upd fnd
            rw [if_pos rfl, e2]
            simp only [if_pos h4]
          · rw [if_neg (fun h => h5 h.2.2), hfn, show min (t + 1) (P n) = P n by omega]
            exact (fnd_back e2 (by omega)).symm
        · have e5 : fnd (needA P W n) (t + 1) = none := by
            unfold fnd; rw [e2]; simp only [if_neg h4]
          rw [fnd_back e5 (show min (t + 1) (P n) ≤ t + 1 by omega)]
          split
          · rename_i h
            by_cases hnb : n = b
            · subst hnb
              exfalso
              have := h.1
              omega
            · unfold upd; rw [if_neg hnb]; exact hfn
          · exact hfn
/-- after k ticks -/
def simN (P W : Nat → Nat) (m : Nat) (f : Nat → Option Nat) : Nat → (Nat → Nat) × (Nat → Option Nat)
  | 0 => (fun _ => 0, f)
  | t + 1 => stepN P W m t (simN P W m f t)
theorem inv_sim {m : Nat} {f : Nat → Option Nat} (hf : ∀ n, n < m → f n = if W n = 0 then some 0 else none) (hP : ∀ i, i < m → 0 < P i) : ∀ t, Inv P W m t (simN P W m f t).1 (simN P W m f t).2
  | 0 => inv_zero hf hP
  | t + 1 => inv_step hP (inv_sim hf hP t)
/-- what the ticks find -/
theorem sim_end {m t : Nat} {f : Nat → Option Nat} (hf : ∀ n, n < m → f n = if W n = 0 then some 0 else none) (hP : ∀ i, i < m → 0 < P i) (ht : ∀ i, i < m → P i ≤ t) : ∀ n, n < m → (simN P W m f t).2 n = if W n = 0 then some 0 else fnd (needA P W n) (P n) := fun n hn => by
  have I := inv_sim hf hP t
  by_cases h : W n = 0
  · rw [if_pos h]; exact (I.z n hn h).2
  · rw [if_neg h, I.c n hn (by omega), Nat.min_eq_right (ht n hn)]
end Pl

end -- PlP
section -- PlR
namespace Pl
open Ev Lw
def lstN (m : Nat) (r : Nat → Nat) : List PV := (List.range m).map fun i => .int ((r i : Nat) : Int)
def lstO (T m : Nat) (f : Nat → Option Nat) : List PV := (List.range m).map fun i => ansP T (f i)
theorem lstN_len {m : Nat} {r : Nat → Nat} : (lstN m r).length = m := by unfold lstN; rw [List.length_map, List.length_range]
theorem lstO_len {T m : Nat} {r : Nat → Option Nat} : (lstO T m r).length = m := by unfold lstO; rw [List.length_map, List.length_range]
theorem lstN_at {m b : Nat} {r : Nat → Nat} (h : b < m) : L2.atI (lstN m r) (b : Int) = some (.int ((r b : Nat) : Int)) := range_at (g := fun i => PV.int ((r i : Nat) : Int)) h
theorem lstO_at {T m b : Nat} {r : Nat → Option Nat} (h : b < m) : L2.atI (lstO T m r) (b : Int) = some (ansP T (r b)) := range_at (g := fun i => ansP T (r i)) h
theorem lstN_set {m b v : Nat} {r : Nat → Nat} (h : b < m) : (lstN m r).set b (.int ((v : Nat) : Int)) = lstN m (upd r b v) := set_upd (enc := fun x : Nat => PV.int (x : Int)) h
theorem lstO_set {T m b : Nat} {v : Option Nat} {r : Nat → Option Nat} (h : b < m) : (lstO T m r).set b (ansP T v) = lstO T m (upd r b v) := set_upd (enc := ansP T) h
theorem lstN_congr {m : Nat} {g h : Nat → Nat} (e : ∀ i, i < m → g i = h i) : lstN m g = lstN m h := range_congr fun i hi => by rw [e i hi]
theorem perP_at {ps : List Nat} {i : Nat} (h : i < ps.length) : L2.atI (ps.map fun (p : Nat) => PV.int (p : Int)) (i : Int) = some (.int (gD ps i : Nat)) := by
  rw [list_range (fun p : Nat => PV.int (p : Int)) 0]
  exact range_at (g := fun i => PV.int ((ps[i]?.getD 0 : Nat) : Int)) h
def stA (ps : List Nat) (qs : List (Nat × Nat)) (T m : Nat) (W r : Nat → Nat) (f : Nat → Option Nat) (s6 s7 s8 s11 : Sl) : List Sl :=
  [.val (perP ps), .val (rawP qs), .val (.int (T : Nat)), .val (.lst (lstN m W)), .opn (lstO T m f), .opn (lstN m r), s6, s7, s8, .no, .no, s11]
theorem stA_congr {ps : List Nat} {qs : List (Nat × Nat)} {T m : Nat} {W r r' : Nat → Nat} {f : Nat → Option Nat} {s6 s7 s8 s11 : Sl} (h : ∀ i, i < m → r i = r' i) : stA ps qs T m W r f s6 s7 s8 s11 = stA ps qs T m W r' f s6 s7 s8 s11 := by
  unfold stA; rw [lstN_congr h]
section
variable {ps : List Nat} {qs : List (Nat × Nat)} {T m : Nat} {W : Nat → Nat} {S : Sto}
theorem arr_ok {r : Nat → Nat} {f : Nat → Option Nat} {t i : Nat} {s8 s11 : Sl} (hm : m = ps.length) (hi : i < m) (hp : 0 < gD ps i) (hp2 : gD ps i < 1000) (hT : 0 < T) (hT2 : T < 1000000) :
    exT B0 n__law_answers_3 (stA ps qs T m W r f (.val (.int (t : Nat))) (.val (.int (i : Nat))) s8 s11) S = .ok (.nx (stA ps qs T m W (upd r i (r i + if t % (gD ps i * T) = 0 then W i else 0)) f (.val (.int (t : Nat))) (.val (.int (i : Nat))) s8 s11)) S := by
  have hpT : 0 < gD ps i * T := Nat.mul_pos hp hT
  have hpT2 : gD ps i * T < 1000 * 1000000 := Nat.mul_lt_mul'' hp2 hT2
  have hpos : (0 : Int) < ((gD ps i * T : Nat) : Int) := by omega
  unfold n__law_answers_3 stA
  simp -implicitDefEqProofs only [exT, exS, ev, evs, bind_ok, to_ok, seq_nx, seq_rt, seq_ex, of_some, truth_bl, truthQ_bl, List.map_cons, List.map_nil, List.length_cons, List.length_nil, List.cons_append, List.nil_append, List.replicate_succ, List.replicate_zero, Nat.reduceAdd, Nat.reduceSub, Nat.zero_add, List.getElem?_cons_zero, List.getElem?_cons_succ, List.set_cons_zero, List.set_cons_succ, slVar, slBor, bop, ixV, seqOf, intOp, addV, blt, setL, bindT, bindQ, Option.map_some, ↓reduceIte, perP, perP_at (hm ▸ hi), mulN (a := gD ps i) (b := T) (by omega) (by omega), hpos]
  rw [← Int.natCast_emod, eqNat0]
  by_cases h : t % (gD ps i * T) = 0
  · simp -implicitDefEqProofs only [exT, exS, ev, evs, bind_ok, to_ok, seq_nx, seq_rt, seq_ex, of_some, truth_bl, truthQ_bl, List.map_cons, List.map_nil, List.length_cons, List.length_nil, List.cons_append, List.nil_append, List.replicate_succ, List.replicate_zero, Nat.reduceAdd, Nat.reduceSub, Nat.zero_add, List.getElem?_cons_zero, List.getElem?_cons_succ, List.set_cons_zero, List.set_cons_succ, slVar, slBor, bop, ixV, seqOf, intOp, addV, blt, setL, bindT, bindQ, Option.map_some, ↓reduceIte, h, decide_true, isBox, setIxQ, lstN_at hi, lstN_len, ixN_nat hi]
    rw [← Int.natCast_add, lstN_set hi]
  · simp -implicitDefEqProofs only [exT, exS, ev, evs, bind_ok, to_ok, seq_nx, seq_rt, seq_ex, of_some, truth_bl, truthQ_bl, List.map_cons, List.map_nil, List.length_cons, List.length_nil, List.cons_append, List.nil_append, List.replicate_succ, List.replicate_zero, Nat.reduceAdd, Nat.reduceSub, Nat.zero_add, List.getElem?_cons_zero, List.getElem?_cons_succ, List.set_cons_zero, List.set_cons_succ, slVar, slBor, bop, ixV, seqOf, intOp, addV, blt, setL, bindT, bindQ, Option.map_some, ↓reduceIte, h, decide_false, Bool.false_eq_true, Nat.add_zero]
    rw [lstN_congr (g := upd r i (r i)) (h := r) fun j hj => by
      unfold upd
      split
      · rename_i e; rw [e]
      · rfl]
theorem low_fr {x y : Nat} (hx : x < 1000000000000) (hy : 0 < y) (hy2 : y < 1000000) : F__law_low [.int x, .int y] S = .ok (ansP y (some x)) S := low_ok hx hy hy2
theorem busy_ok {r : Nat → Nat} {f : Nat → Option Nat} {t : Nat} {s7 s8 s11 : Sl} (hm : m < 1000) :
    ev B0 (.lc [7] .rng (.cons (.blt .len (.cons (.bor 3) .nil)) .nil) (.nm 7) n__law_answers_2 (.var 7)) (stA ps qs T m W r f (.val (.int (t : Nat))) s7 s8 s11) S = .ok (.lst ((busyN m r).map natI)) S := by
  refine lc_filter (vs := [.int (m : Nat)]) (List.range m) natI natI (fun i => decide (0 < r i)) ?_ (rngI (by omega)) (fun i hi => ?_) (by rw [List.length_range]; unfold lim; omega)
  · unfold stA
    simp -implicitDefEqProofs only [exT, exS, ev, evs, bind_ok, to_ok, seq_nx, seq_rt, seq_ex, of_some, truth_bl, truthQ_bl, List.map_cons, List.map_nil, List.length_cons, List.length_nil, List.cons_append, List.nil_append, List.replicate_succ, List.replicate_zero, Nat.reduceAdd, Nat.reduceSub, Nat.zero_add, List.getElem?_cons_zero, List.getElem?_cons_succ, List.set_cons_zero, List.set_cons_succ, slVar, slBor, bop, ixV, seqOf, intOp, addV, blt, setL, bindT, bindQ, Option.map_some, ↓reduceIte, lstN_len]
  · have hi := List.mem_range.1 hi
    refine ⟨_, rfl, ?_, fun _ => ?_⟩
    · unfold n__law_answers_2 stA
      simp -implicitDefEqProofs only [exT, exS, ev, evs, bind_ok, to_ok, seq_nx, seq_rt, seq_ex, of_some, truth_bl, truthQ_bl, List.map_cons, List.map_nil, List.length_cons, List.length_nil, List.cons_append, List.nil_append, List.replicate_succ, List.replicate_zero, Nat.reduceAdd, Nat.reduceSub, Nat.zero_add, List.getElem?_cons_zero, List.getElem?_cons_succ, List.set_cons_zero, List.set_cons_succ, slVar, slBor, bop, ixV, seqOf, intOp, addV, blt, setL, bindT, bindQ, Option.map_some, ↓reduceIte, wipeS, natI, lstN_at hi, lt0N]
    · unfold stA
      simp -implicitDefEqProofs only [exT, exS, ev, evs, bind_ok, to_ok, seq_nx, seq_rt, seq_ex, of_some, truth_bl, truthQ_bl, List.map_cons, List.map_nil, List.length_cons, List.length_nil, List.cons_append, List.nil_append, List.replicate_succ, List.replicate_zero, Nat.reduceAdd, Nat.reduceSub, Nat.zero_add, List.getElem?_cons_zero, List.getElem?_cons_succ, List.set_cons_zero, List.set_cons_succ, slVar, slBor, bop, ixV, seqOf, intOp, addV, blt, setL, bindT, bindQ, Option.map_some, ↓reduceIte, wipeS]
theorem tick_ok {r : Nat → Nat} {f : Nat → Option Nat} {t : Nat} {s7 s8 s11 : Sl} (hm : m = ps.length) (hm2 : m < 1000) (hp : ∀ i, i < m → 0 < gD ps i ∧ gD ps i < 1000) (hT : 0 < T) (hT2 : T < 1000000) (ht : t < 100000000000) :
    ∃ s7' s8' s11', exT B0 n__law_answers_4 (stA ps qs T m W r f (.val (.int (t : Nat))) s7 s8 s11) S = .ok (.nx (stA ps qs T m W (stepN (fun i => gD ps i * T) W m t (r, f)).1 (stepN (fun i => gD ps i * T) W m t (r, f)).2 (.val (.int (t : Nat))) s7' s8' s11')) S := by
  obtain ⟨ρ1, S1, e1, hS, s7', h1⟩ := for_ok (A := B0) (k := .rng) (src := .cons (.blt .len (.cons (.bor 3) .nil)) .nil) (tg := .nm 7) (b := n__law_answers_3) (vs := [.int (m : Nat)]) (xs := (List.range m).map natI) (ρ := stA ps qs T m W r f (.val (.int (t : Nat))) s7 s8 s11) (S := S) (S1 := S)
    (fun k ρ S' => S' = S ∧ ∃ s7, ρ = stA ps qs T m W (fun j => if j < k then arr (fun i => gD ps i * T) W t r j else r j) f (.val (.int (t : Nat))) s7 s8 s11)
    (by unfold stA; simp -implicitDefEqProofs only [exT, exS, ev, evs, bind_ok, to_ok, seq_nx, seq_rt, seq_ex, of_some, truth_bl, truthQ_bl, List.map_cons, List.map_nil, List.length_cons, List.length_nil, List.cons_append, List.nil_append, List.replicate_succ, List.replicate_zero, Nat.reduceAdd, Nat.reduceSub, Nat.zero_add, List.getElem?_cons_zero, List.getElem?_cons_succ, List.set_cons_zero, List.set_cons_succ, slVar, slBor, bop, ixV, seqOf, intOp, addV, blt, setL, bindT, bindQ, Option.map_some, ↓reduceIte, lstN_len]) (rngI (by omega)) ⟨rfl, s7, by simp only [Nat.not_lt_zero, ↓reduceIte]⟩ (fun k x ρ S' hk hI => by
      obtain ⟨hS, s7, hρ⟩ := hI
      obtain ⟨hkm, hx⟩ := rng_get hk
      subst hS hx hρ
      refine ⟨_, _, _, rfl, arr_ok (f := f) (t := t) (i := k) (s8 := s8) (s11 := s11) hm hkm (hp k hkm).1 (hp k hkm).2 hT hT2, rfl, .val (.int (k : Nat)), ?_⟩
      refine stA_congr fun j hj => ?_
      unfold upd arr
      by_cases e : j = k
      · subst e
        simp
      · by_cases e2 : j < k
        · simp [e, e2, show j < k + 1 by omega]
        · simp [e, e2, show ¬ j < k + 1 by omega])
  subst hS h1
  rw [List.length_map, List.length_range] at e1
  have e0 : stA ps qs T m W (fun j => if j < m then arr (fun i => gD ps i * T) W t r j else r j) f (.val (.int (t : Nat))) s7' s8 s11 = stA ps qs T m W (arr (fun i => gD ps i * T) W t r) f (.val (.int (t : Nat))) s7' s8 s11 := by
    exact stA_congr fun j hj => if_pos hj
  rw [e0] at e1
  have e2 : exS B0 (.set 8 (.lc [7] .rng (.cons (.blt .len (.cons (.bor 3) .nil)) .nil) (.nm 7) n__law_answers_2 (.var 7))) (stA ps qs T m W (arr (fun i => gD ps i * T) W t r) f (.val (.int (t : Nat))) s7' s8 s11) S1 = .ok (.nx (stA ps qs T m W (arr (fun i => gD ps i * T) W t r) f (.val (.int (t : Nat))) s7' (.val (.lst ((busyN m (arr (fun i => gD ps i * T) W t r)).map natI))) s11)) S1 := by
    rw [exS, busy_ok hm2]
    simp only [to_ok]
    rfl
  unfold n__law_answers_4
  rw [exT_seq e1, exT_seq e2]
  unfold stepN
  dsimp only
  generalize arr (fun i => gD ps i * T) W t r = r' at *
  have e3 : ∀ s7 s11, ev B0 (.bin .ne (.bor 8) (.lst .nil)) (stA ps qs T m W r' f (.val (.int (t : Nat))) s7 (.val (.lst ((busyN m r').map natI))) s11) S1 = .ok (.bl (!((busyN m r').map natI).isEmpty)) S1 := fun s7 s11 => by
    unfold stA
    simp -implicitDefEqProofs only [exT, exS, ev, evs, bind_ok, to_ok, seq_nx, seq_rt, seq_ex, of_some, truth_bl, truthQ_bl, List.map_cons, List.map_nil, List.length_cons, List.length_nil, List.cons_append, List.nil_append, List.replicate_succ, List.replicate_zero, Nat.reduceAdd, Nat.reduceSub, Nat.zero_add, List.getElem?_cons_zero, List.getElem?_cons_succ, List.set_cons_zero, List.set_cons_succ, slVar, slBor, bop, ixV, seqOf, intOp, addV, blt, setL, bindT, bindQ, Option.map_some, ↓reduceIte]
    rw [eqNil (fun x hx => by obtain ⟨n, _, e⟩ := List.mem_map.1 hx; subst e; rfl)]
    simp -implicitDefEqProofs only [exT, exS, ev, evs, bind_ok, to_ok, seq_nx, seq_rt, seq_ex, of_some, truth_bl, truthQ_bl, List.map_cons, List.map_nil, List.length_cons, List.length_nil, List.cons_append, List.nil_append, List.replicate_succ, List.replicate_zero, Nat.reduceAdd, Nat.reduceSub, Nat.zero_add, List.getElem?_cons_zero, List.getElem?_cons_succ, List.set_cons_zero, List.set_cons_succ, slVar, slBor, bop, ixV, seqOf, intOp, addV, blt, setL, bindT, bindQ, Option.map_some, ↓reduceIte]
  rw [exT, ite_ok (e3 _ _)]
  cases hb : busyN m r' with
  | nil =>
    simp only [List.map_nil, List.isEmpty_nil, Bool.not_true, Bool.false_eq_true, ↓reduceIte, exT, seq_nx]
    exact ⟨_, _, _, rfl⟩
  | cons b bs =>
    obtain ⟨hbm, hb0, _⟩ := busy_cons hb
    simp only [List.map_cons, List.isEmpty_cons, Bool.not_false, ↓reduceIte]
    have e4 : exS B0 (.seti 5 (.bin .ix (.bor 8) (.cst (.int 0))) (.bin .sub (.bin .ix (.bor 5) (.bin .ix (.bor 8) (.cst (.int 0)))) (.cst (.int 1)))) (stA ps qs T m W r' f (.val (.int (t : Nat))) s7' (.val (.lst (natI b :: bs.map natI))) s11) S1
        = .ok (.nx (stA ps qs T m W (upd r' b (r' b - 1)) f (.val (.int (t : Nat))) s7' (.val (.lst (natI b :: bs.map natI))) s11)) S1 := by
      unfold stA
      simp -implicitDefEqProofs only [exT, exS, ev, evs, bind_ok, to_ok, seq_nx, seq_rt, seq_ex, of_some, truth_bl, truthQ_bl, List.map_cons, List.map_nil, List.length_cons, List.length_nil, List.cons_append, List.nil_append, List.replicate_succ, List.replicate_zero, Nat.reduceAdd, Nat.reduceSub, Nat.zero_add, List.getElem?_cons_zero, List.getElem?_cons_succ, List.set_cons_zero, List.set_cons_succ, slVar, slBor, bop, ixV, seqOf, intOp, addV, blt, setL, bindT, bindQ, Option.map_some, ↓reduceIte, atI_0, natI, lstN_at hbm, isBox, setIxQ, lstN_len, ixN_nat hbm]
      rw [show ((r' b : Nat) : Int) - 1 = ((r' b - 1 : Nat) : Int) by omega, lstN_set hbm]
    have e5 : exS B0 (.unp (.tp [7, 11]) (.tup (.cons (.bin .ix (.bor 8) (.cst (.int 0))) (.cons (.bin .add (.bor 6) (.cst (.int 1))) .nil)))) (stA ps qs T m W (upd r' b (r' b - 1)) f (.val (.int (t : Nat))) s7' (.val (.lst (natI b :: bs.map natI))) s11) S1
        = .ok (.nx (stA ps qs T m W (upd r' b (r' b - 1)) f (.val (.int (t : Nat))) (.val (.int (b : Nat))) (.val (.lst (natI b :: bs.map natI))) (.val (.int ((t + 1 : Nat) : Int))))) S1 := by
      unfold stA
      simp -implicitDefEqProofs only [exT, exS, ev, evs, bind_ok, to_ok, seq_nx, seq_rt, seq_ex, of_some, truth_bl, truthQ_bl, List.map_cons, List.map_nil, List.length_cons, List.length_nil, List.cons_append, List.nil_append, List.replicate_succ, List.replicate_zero, Nat.reduceAdd, Nat.reduceSub, Nat.zero_add, List.getElem?_cons_zero, List.getElem?_cons_succ, List.set_cons_zero, List.set_cons_succ, slVar, slBor, bop, ixV, seqOf, intOp, addV, blt, setL, bindT, bindQ, Option.map_some, ↓reduceIte, atI_0, natI]
      rw [Int.natCast_add]
      rfl
    have e6 : ev B0 n__law_answers_1 (stA ps qs T m W (upd r' b (r' b - 1)) f (.val (.int (t : Nat))) (.val (.int (b : Nat))) (.val (.lst (natI b :: bs.map natI))) (.val (.int ((t + 1 : Nat) : Int)))) S1
        = .ok (.bl (decide (r' b - 1 = 0) && ((!(f b).isSome) && decide (t + 1 ≤ gD ps b * T)))) S1 := by
      unfold n__law_answers_1 stA
      refine and_ok ?_ fun _ => and_ok ?_ fun _ => ?_
      · simp -implicitDefEqProofs only [exT, exS, ev, evs, bind_ok, to_ok, seq_nx, seq_rt, seq_ex, of_some, truth_bl, truthQ_bl, List.map_cons, List.map_nil, List.length_cons, List.length_nil, List.cons_append, List.nil_append, List.replicate_succ, List.replicate_zero, Nat.reduceAdd, Nat.reduceSub, Nat.zero_add, List.getElem?_cons_zero, List.getElem?_cons_succ, List.set_cons_zero, List.set_cons_succ, slVar, slBor, bop, ixV, seqOf, intOp, addV, blt, setL, bindT, bindQ, Option.map_some, ↓reduceIte, lstN_at hbm, upd_eq, eqNat0]
      · simp -implicitDefEqProofs only [exT, exS, ev, evs, bind_ok, to_ok, seq_nx, seq_rt, seq_ex, of_some, truth_bl, truthQ_bl, List.map_cons, List.map_nil, List.length_cons, List.length_nil, List.cons_append, List.nil_append, List.replicate_succ, List.replicate_zero, Nat.reduceAdd, Nat.reduceSub, Nat.zero_add, List.getElem?_cons_zero, List.getElem?_cons_succ, List.set_cons_zero, List.set_cons_succ, slVar, slBor, bop, ixV, seqOf, intOp, addV, blt, setL, bindT, bindQ, Option.map_some, ↓reduceIte, lstO_at hbm, isV_ans]
      · simp -implicitDefEqProofs only [exT, exS, ev, evs, bind_ok, to_ok, seq_nx, seq_rt, seq_ex, of_some, truth_bl, truthQ_bl, List.map_cons, List.map_nil, List.length_cons, List.length_nil, List.cons_append, List.nil_append, List.replicate_succ, List.replicate_zero, Nat.reduceAdd, Nat.reduceSub, Nat.zero_add, List.getElem?_cons_zero, List.getElem?_cons_succ, List.set_cons_zero, List.set_cons_succ, slVar, slBor, bop, ixV, seqOf, intOp, addV, blt, setL, bindT, bindQ, Option.map_some, ↓reduceIte, perP, perP_at (hm ▸ hbm), mulN (a := gD ps b) (b := T) (by have := (hp b hbm).2; omega) (by omega), leN]
    rw [exT_seq e4, exT_seq e5, exT, ite_ok e6]
    by_cases h : r' b - 1 = 0 ∧ f b = none ∧ t + 1 ≤ gD ps b * T
    · rw [if_pos h]
      obtain ⟨h1, h2, h3⟩ := h
      rw [h2, decide_eq_true h1, decide_eq_true h3]
      have e7 : exS B0 (.seti 4 (.var 7) (.call F__law_low "_law_low" (.cons (.var 11) (.cons (.var 2) .nil)))) (stA ps qs T m W (upd r' b (r' b - 1)) f (.val (.int (t : Nat))) (.val (.int (b : Nat))) (.val (.lst (natI b :: bs.map natI))) (.val (.int ((t + 1 : Nat) : Int)))) S1
          = .ok (.nx (stA ps qs T m W (upd r' b (r' b - 1)) (upd f b (some (t + 1))) (.val (.int (t : Nat))) (.val (.int (b : Nat))) (.val (.lst (natI b :: bs.map natI))) (.val (.int ((t + 1 : Nat) : Int))))) S1 := by
        unfold stA
        simp -implicitDefEqProofs only [exT, exS, ev, evs, bind_ok, to_ok, seq_nx, seq_rt, seq_ex, of_some, truth_bl, truthQ_bl, List.map_cons, List.map_nil, List.length_cons, List.length_nil, List.cons_append, List.nil_append, List.replicate_succ, List.replicate_zero, Nat.reduceAdd, Nat.reduceSub, Nat.zero_add, List.getElem?_cons_zero, List.getElem?_cons_succ, List.set_cons_zero, List.set_cons_succ, slVar, slBor, bop, ixV, seqOf, intOp, addV, blt, setL, bindT, bindQ, Option.map_some, ↓reduceIte]
        rw [low_fr (by omega) hT hT2]
        simp -implicitDefEqProofs only [exT, exS, ev, evs, bind_ok, to_ok, seq_nx, seq_rt, seq_ex, of_some, truth_bl, truthQ_bl, List.map_cons, List.map_nil, List.length_cons, List.length_nil, List.cons_append, List.nil_append, List.replicate_succ, List.replicate_zero, Nat.reduceAdd, Nat.reduceSub, Nat.zero_add, List.getElem?_cons_zero, List.getElem?_cons_succ, List.set_cons_zero, List.set_cons_succ, slVar, slBor, bop, ixV, seqOf, intOp, addV, blt, setL, bindT, bindQ, Option.map_some, ↓reduceIte, isBox, setIxQ, lstO_len, ixN_nat hbm, lstO_set hbm]
      simp only [Option.isSome_none, Bool.not_false, Bool.and_true, ↓reduceIte]
      rw [exT_seq e7, exT, seq_nx, exT]
      exact ⟨_, _, _, rfl⟩
    · rw [if_neg h, if_neg (by
        intro h'
        simp only [Bool.and_eq_true, decide_eq_true_eq, Bool.not_eq_true', Option.isSome_eq_false_iff, Option.isNone_iff_eq_none] at h'
        exact h h')]
      simp only [exT, seq_nx]
      exact ⟨_, _, _, rfl⟩
end
end Pl

end -- PlR
section -- PlS
namespace Pl
open Ev Lw
/-- what the ticks find for task i -/
def tickA (T : Nat) (ps ws : List Nat) (i : Nat) : Option Nat := if gD ws i = 0 then some 0 else fnd (needA (fun i => gD ps i * T) (gD ws) i) (gD ps i * T)
structure Okq (T : Nat) (ps : List Nat) (qs : List (Nat × Nat)) : Prop where
  T0 : 0 < T
  T1 : T < 1000000
  eT : tickN 1 qs = T
  len : qs.length = ps.length
  len0 : 0 < ps.length
  len1 : ps.length < 1000
  p : ∀ i, i < ps.length → 0 < gD ps i ∧ gD ps i < 1000
  up : ∀ i, i < ps.length → gD ps i ≤ gD ps (ps.length - 1)
  q : ∀ q ∈ qs, 0 < q.2 ∧ q.2 < 1000 ∧ q.1 < 2 ^ 60
theorem num_le {w T : Nat} : num w T ≤ w := Nat.div_le_self _ _
theorem law_answers_ok {T : Nat} {ps : List Nat} {qs : List (Nat × Nat)} {S : Sto} (K : Okq T ps qs) : F__law_answers [perP ps, rawP qs] S = .ok (.tup (lstO T ps.length (tickA T ps (qs.map (wrk T))))) S := by
  have hdv := fun q hq => (dvd_tick (qs := qs) (acc := 1)).2 q hq
  rw [K.eT] at hdv
  have hT0 := K.T0
  have hT1 := K.T1
  have hl1 := K.len1
  have hl0 := K.len0
  generalize hm : ps.length = m at *
  have eq : qs.length = m := K.len.trans hm
  have eW : (qs.map fun q => PV.int ((wrk T q : Nat) : Int)) = lstN m (gD (qs.map (wrk T))) := by
    have := list_range (fun w : Nat => PV.int (w : Int)) 0 (qs.map (wrk T))
    rw [List.map_map, List.length_map, eq] at this
    exact this
  generalize hW : gD (qs.map (wrk T)) = W at eW
  have et : F__law_ticks [rawP qs] S = .ok (.int (T : Nat)) S := by
    rw [← K.eT]
    exact ticks_ok (M := T) (by omega) hT0 fun q hq => ⟨(K.q q hq).1, (K.q q hq).2.1, hdv q hq⟩
  rw [r__law_answers]
  refine run_to ?_
  unfold n__law_answers
  simp only [List.map_cons, List.map_nil, List.length_cons, List.length_nil, List.cons_append, List.nil_append, List.replicate_succ, List.replicate_zero, Nat.reduceAdd, Nat.reduceSub, Nat.zero_add]
  -- ticks
  rw [exT_seq (ρ' := [.val (perP ps), .val (rawP qs), .val (.int (T : Nat)), .no, .no, .no, .no, .no, .no, .no, .no, .no]) (S' := S) (by
    simp -implicitDefEqProofs only [exT, exS, ev, evs, bind_ok, to_ok, seq_nx, seq_rt, seq_ex, of_some, truth_bl, truthQ_bl, List.map_cons, List.map_nil, List.length_cons, List.length_nil, List.cons_append, List.nil_append, List.replicate_succ, List.replicate_zero, Nat.reduceAdd, Nat.reduceSub, Nat.zero_add, List.getElem?_cons_zero, List.getElem?_cons_succ, List.set_cons_zero, List.set_cons_succ, slVar, slBor, bop, ixV, seqOf, intOp, addV, blt, setL, bindT, bindQ, Option.map_some, ↓reduceIte]
    rw [et]
    simp -implicitDefEqProofs only [exT, exS, ev, evs, bind_ok, to_ok, seq_nx, seq_rt, seq_ex, of_some, truth_bl, truthQ_bl, List.map_cons, List.map_nil, List.length_cons, List.length_nil, List.cons_append, List.nil_append, List.replicate_succ, List.replicate_zero, Nat.reduceAdd, Nat.reduceSub, Nat.zero_add, List.getElem?_cons_zero, List.getElem?_cons_succ, List.set_cons_zero, List.set_cons_succ, slVar, slBor, bop, ixV, seqOf, intOp, addV, blt, setL, bindT, bindQ, Option.map_some, ↓reduceIte])]
  -- works
  rw [exT_seq (ρ' := [.val (perP ps), .val (rawP qs), .val (.int (T : Nat)), .val (.lst (lstN m W)), .no, .no, .no, .no, .no, .no, .no, .no]) (S' := S) (by
    rw [exS, lc_map (S := S) (vs := [rawP qs]) qs (fun q => fr q.1 q.2) (fun q => .int ((wrk T q : Nat) : Int)) (by simp -implicitDefEqProofs only [exT, exS, ev, evs, bind_ok, to_ok, seq_nx, seq_rt, seq_ex, of_some, truth_bl, truthQ_bl, List.map_cons, List.map_nil, List.length_cons, List.length_nil, List.cons_append, List.nil_append, List.replicate_succ, List.replicate_zero, Nat.reduceAdd, Nat.reduceSub, Nat.zero_add, List.getElem?_cons_zero, List.getElem?_cons_succ, List.set_cons_zero, List.set_cons_succ, slVar, slBor, bop, ixV, seqOf, intOp, addV, blt, setL, bindT, bindQ, Option.map_some, ↓reduceIte]) (by rfl) (fun q hq => ⟨_, rfl, by
        have hq2 := K.q q hq
        have hd := den_pos (w := q.1) hq2.1
        have hd2 : den q.1 q.2 ≤ q.2 := Nat.div_le_self _ _
        have e : fr q.1 q.2 = .tup [.int (num q.1 q.2 : Nat), .int (den q.1 q.2 : Nat)] := rfl
        have hn : num q.1 q.2 ≤ q.1 := num_le
        have hx : T / den q.1 q.2 ≤ T := Nat.div_le_self _ _
        unfold n__law_answers_7
        rw [e]
        simp -implicitDefEqProofs only [exT, exS, ev, evs, bind_ok, to_ok, seq_nx, seq_rt, seq_ex, of_some, truth_bl, truthQ_bl, List.map_cons, List.map_nil, List.length_cons, List.length_nil, List.cons_append, List.nil_append, List.replicate_succ, List.replicate_zero, Nat.reduceAdd, Nat.reduceSub, Nat.zero_add, List.getElem?_cons_zero, List.getElem?_cons_succ, List.set_cons_zero, List.set_cons_succ, slVar, slBor, bop, ixV, seqOf, intOp, addV, blt, setL, bindT, bindQ, Option.map_some, ↓reduceIte, wipeS, atI_0, atI_1, divOkN hd (by omega)]
        rw [← Int.natCast_ediv, mulN (by omega) (by omega)]
        simp -implicitDefEqProofs only [exT, exS, ev, evs, bind_ok, to_ok, seq_nx, seq_rt, seq_ex, of_some, truth_bl, truthQ_bl, List.map_cons, List.map_nil, List.length_cons, List.length_nil, List.cons_append, List.nil_append, List.replicate_succ, List.replicate_zero, Nat.reduceAdd, Nat.reduceSub, Nat.zero_add, List.getElem?_cons_zero, List.getElem?_cons_succ, List.set_cons_zero, List.set_cons_succ, slVar, slBor, bop, ixV, seqOf, intOp, addV, blt, setL, bindT, bindQ, Option.map_some, ↓reduceIte]
        rfl⟩) (by rw [eq]; unfold lim; omega)]
    simp only [to_ok, eW]
    rfl)]
  -- found
  rw [exT_seq (ρ' := [.val (perP ps), .val (rawP qs), .val (.int (T : Nat)), .val (.lst (lstN m W)), .opn (lstO T m fun i => if W i = 0 then some 0 else none), .no, .no, .no, .no, .no, .no, .no]) (S' := S) (by
    rw [exS, lc_map (S := S) (vs := [.lst (lstN m W)]) (List.range m) (fun i => .int ((W i : Nat) : Int)) (fun i => ansP T (if W i = 0 then some 0 else none)) (by simp -implicitDefEqProofs only [exT, exS, ev, evs, bind_ok, to_ok, seq_nx, seq_rt, seq_ex, of_some, truth_bl, truthQ_bl, List.map_cons, List.map_nil, List.length_cons, List.length_nil, List.cons_append, List.nil_append, List.replicate_succ, List.replicate_zero, Nat.reduceAdd, Nat.reduceSub, Nat.zero_add, List.getElem?_cons_zero, List.getElem?_cons_succ, List.set_cons_zero, List.set_cons_succ, slVar, slBor, bop, ixV, seqOf, intOp, addV, blt, setL, bindT, bindQ, Option.map_some, ↓reduceIte]) (by rfl) (fun i hi => ⟨_, rfl, by
        unfold n__law_answers_6
        by_cases h : W i = 0
        · simp -implicitDefEqProofs only [exT, exS, ev, evs, bind_ok, to_ok, seq_nx, seq_rt, seq_ex, of_some, truth_bl, truthQ_bl, List.map_cons, List.map_nil, List.length_cons, List.length_nil, List.cons_append, List.nil_append, List.replicate_succ, List.replicate_zero, Nat.reduceAdd, Nat.reduceSub, Nat.zero_add, List.getElem?_cons_zero, List.getElem?_cons_succ, List.set_cons_zero, List.set_cons_succ, slVar, slBor, bop, ixV, seqOf, intOp, addV, blt, setL, bindT, bindQ, Option.map_some, ↓reduceIte, wipeS, eqNat0, h, decide_true]
          show R.ok (PV.tup [PV.int 0, PV.int 1]) S = R.ok (fr 0 T) S
          rw [fr0 hT0]
        · simp -implicitDefEqProofs only [exT, exS, ev, evs, bind_ok, to_ok, seq_nx, seq_rt, seq_ex, of_some, truth_bl, truthQ_bl, List.map_cons, List.map_nil, List.length_cons, List.length_nil, List.cons_append, List.nil_append, List.replicate_succ, List.replicate_zero, Nat.reduceAdd, Nat.reduceSub, Nat.zero_add, List.getElem?_cons_zero, List.getElem?_cons_succ, List.set_cons_zero, List.set_cons_succ, slVar, slBor, bop, ixV, seqOf, intOp, addV, blt, setL, bindT, bindQ, Option.map_some, ↓reduceIte, wipeS, eqNat0, h, decide_false, Bool.false_eq_true]
          rfl⟩) (by rw [List.length_range]; unfold lim; omega)]
    simp only [to_ok, setoQ]
    rfl)]
  -- rests
  rw [exT_seq (ρ' := stA ps qs T m W (simN (fun i => gD ps i * T) W m (fun i => if W i = 0 then some 0 else none) 0).1 (simN (fun i => gD ps i * T) W m (fun i => if W i = 0 then some 0 else none) 0).2 .no .no .no .no) (S' := S) (by
    rw [exS, lc_map (S := S) (vs := [.lst (lstN m W)]) (List.range m) (fun i => .int ((W i : Nat) : Int)) (fun i => .int ((0 : Nat) : Int)) (by simp -implicitDefEqProofs only [exT, exS, ev, evs, bind_ok, to_ok, seq_nx, seq_rt, seq_ex, of_some, truth_bl, truthQ_bl, List.map_cons, List.map_nil, List.length_cons, List.length_nil, List.cons_append, List.nil_append, List.replicate_succ, List.replicate_zero, Nat.reduceAdd, Nat.reduceSub, Nat.zero_add, List.getElem?_cons_zero, List.getElem?_cons_succ, List.set_cons_zero, List.set_cons_succ, slVar, slBor, bop, ixV, seqOf, intOp, addV, blt, setL, bindT, bindQ, Option.map_some, ↓reduceIte]) (by rfl) (fun i hi => ⟨_, rfl, by
        unfold n__law_answers_5
        simp -implicitDefEqProofs only [exT, exS, ev, evs, bind_ok, to_ok, seq_nx, seq_rt, seq_ex, of_some, truth_bl, truthQ_bl, List.map_cons, List.map_nil, List.length_cons, List.length_nil, List.cons_append, List.nil_append, List.replicate_succ, List.replicate_zero, Nat.reduceAdd, Nat.reduceSub, Nat.zero_add, List.getElem?_cons_zero, List.getElem?_cons_succ, List.set_cons_zero, List.set_cons_succ, slVar, slBor, bop, ixV, seqOf, intOp, addV, blt, setL, bindT, bindQ, Option.map_some, ↓reduceIte]
        rfl⟩) (by rw [List.length_range]; unfold lim; omega)]
    simp only [to_ok, setoQ]
    rfl)]
  -- the ticks
  have hlast := K.p (m - 1) (by omega)
  have hB : gD ps (m - 1) * T < 1000 * 1000000 := Nat.mul_lt_mul'' hlast.2 hT1
  obtain ⟨ρ1, S1, e1, hS, s6, s7, s8, s11, h1⟩ := for_ok (A := B0) (k := .rng) (src := .cons (.bin .mul (.bin .ix (.bor 0) (.neg (.cst (.int 1)))) (.bor 2)) .nil) (tg := .nm 6) (b := n__law_answers_4) (vs := [.int ((gD ps (m - 1) * T : Nat) : Int)]) (xs := (List.range (gD ps (m - 1) * T)).map natI) (ρ := stA ps qs T m W (simN (fun i => gD ps i * T) W m (fun i => if W i = 0 then some 0 else none) 0).1 (simN (fun i => gD ps i * T) W m (fun i => if W i = 0 then some 0 else none) 0).2 .no .no .no .no) (S := S) (S1 := S)
    (fun k ρ S' => S' = S ∧ ∃ s6 s7 s8 s11, ρ = stA ps qs T m W (simN (fun i => gD ps i * T) W m (fun i => if W i = 0 then some 0 else none) k).1 (simN (fun i => gD ps i * T) W m (fun i => if W i = 0 then some 0 else none) k).2 s6 s7 s8 s11)
    (by
      unfold stA
      have ea : L2.atI (ps.map fun (p : Nat) => PV.int (p : Int)) (-1) = some (.int ((gD ps (m - 1) : Nat) : Int)) := by
        rw [list_range (fun p : Nat => PV.int (p : Int)) 0, hm]
        exact atI_last (n := m - 1) (by rw [List.length_map, List.length_range]; omega) (by rw [List.getElem?_map, List.getElem?_range (by omega)]; rfl)
      simp -implicitDefEqProofs only [exT, exS, ev, evs, bind_ok, to_ok, seq_nx, seq_rt, seq_ex, of_some, truth_bl, truthQ_bl, List.map_cons, List.map_nil, List.length_cons, List.length_nil, List.cons_append, List.nil_append, List.replicate_succ, List.replicate_zero, Nat.reduceAdd, Nat.reduceSub, Nat.zero_add, List.getElem?_cons_zero, List.getElem?_cons_succ, List.set_cons_zero, List.set_cons_succ, slVar, slBor, bop, ixV, seqOf, intOp, addV, blt, setL, bindT, bindQ, Option.map_some, ↓reduceIte, perP, ea, mulN (a := gD ps (m - 1)) (b := T) (by omega) (by omega)]) (rngI (by omega)) ⟨rfl, _, _, _, _, rfl⟩ (fun k x ρ S' hk hI => by
      obtain ⟨hS, s6, s7, s8, s11, hρ⟩ := hI
      obtain ⟨hk, hx⟩ := rng_get hk
      subst hS hx hρ
      obtain ⟨s7', s8', s11', e⟩ := tick_ok (ps := ps) (qs := qs) (T := T) (m := m) (W := W) (S := S') (r := (simN (fun i => gD ps i * T) W m (fun i => if W i = 0 then some 0 else none) k).1) (f := (simN (fun i => gD ps i * T) W m (fun i => if W i = 0 then some 0 else none) k).2) (t := k) (s7 := s7) (s8 := s8) (s11 := s11) hm.symm hl1 (fun i hi => K.p i (hm ▸ hi)) hT0 hT1 (by omega)
      exact ⟨_, _, _, rfl, e, rfl, _, _, _, _, rfl⟩)
  subst hS h1
  rw [exT_seq e1]
  rw [List.length_map, List.length_range]
  unfold stA
  simp -implicitDefEqProofs only [exT, exS, ev, evs, bind_ok, to_ok, seq_nx, seq_rt, seq_ex, of_some, truth_bl, truthQ_bl, List.map_cons, List.map_nil, List.length_cons, List.length_nil, List.cons_append, List.nil_append, List.replicate_succ, List.replicate_zero, Nat.reduceAdd, Nat.reduceSub, Nat.zero_add, List.getElem?_cons_zero, List.getElem?_cons_succ, List.set_cons_zero, List.set_cons_succ, slVar, slBor, bop, ixV, seqOf, intOp, addV, blt, setL, bindT, bindQ, Option.map_some, ↓reduceIte]
  congr 3
  refine range_congr fun i hi => ?_
  rw [sim_end (fun n _ => rfl) (fun i hi => Nat.mul_pos (K.p i (hm ▸ hi)).1 hT0) (fun i hi => Nat.mul_le_mul_right _ (hm ▸ K.up i (hm ▸ hi))) i hi, ← hW]
  rfl
end Pl

end -- PlS
section -- PlT
namespace Pl
open Ev Lw
theorem sumTo_front {g : Nat → Nat} : ∀ {n : Nat}, sumTo g (n + 1) = g 0 + sumTo (fun i => g (i + 1)) n
  | 0 => rfl
  | n + 1 => by
    have := sumTo_front (g := g) (n := n)
    unfold sumTo at this ⊢
    rw [Nat.add_right_comm] at *
    unfold sumTo
    omega
theorem gD_succ {w : Nat} {ws : List Nat} {i : Nat} : gD (w :: ws) (i + 1) = gD ws i := by
  unfold gD; rw [List.getElem?_cons_succ]
theorem gD_zero {w : Nat} {ws : List Nat} : gD (w :: ws) 0 = w := rfl
theorem need_A {T t : Nat} : ∀ {n : Nat} {ps ws : List Nat}, n < ps.length → ps.length = ws.length → need T t (ps.take (n + 1)) ws = needA (fun i => gD ps i * T) (gD ws) n t
  | _, [], _, h, _ => by cases h
  | _, _ :: _, [], _, h => by cases h
  | 0, p :: ps, w :: ws, _, _ => by
    rw [List.take_succ_cons, List.take_zero]
    simp only [need, Nat.add_zero]
    rfl
  | n + 1, p :: ps, w :: ws, h, h2 => by
    rw [List.take_succ_cons]
    simp only [need]
    rw [need_A (n := n) (by simpa using h) (by simpa using h2)]
    unfold needA
    rw [sumTo_front]
    simp only [gD_succ, gD_zero]
theorem sum_take : ∀ {n : Nat} {ws : List Nat}, n < ws.length → (ws.take (n + 1)).sum = sumTo (gD ws) n
  | _, [], h => by cases h
  | 0, w :: ws, _ => by
    rw [List.take_succ_cons, List.take_zero, List.sum_cons]; rfl
  | n + 1, w :: ws, h => by
    rw [List.take_succ_cons, List.sum_cons, sum_take (n := n) (by simpa using h), sumTo_front]
    simp only [gD_succ, gD_zero]
theorem needA_mono {P W : Nat → Nat} {n s t : Nat} (h : s ≤ t) : needA P W n s ≤ needA P W n t := by
  unfold needA
  induction n with
  | zero => exact Nat.mul_le_mul_left _ (cdiv_mono h)
  | succ n ih => exact Nat.add_le_add ih (Nat.mul_le_mul_left _ (cdiv_mono h))
theorem sum_needA {P W : Nat → Nat} {n s : Nat} (hs : 0 < s) (hP : ∀ i, i ≤ n → 0 < P i) : sumTo W n ≤ needA P W n s := by
  have h1 : ∀ i, i ≤ n → 1 ≤ cdiv s (P i) := fun i hi => by
    refine Nat.le_of_not_lt fun h => ?_
    have := (cdiv_le (x := s) (n := 0) (hP i hi)).1 (by omega)
    omega
  unfold needA
  clear hP
  induction n with
  | zero => exact Nat.le_mul_of_pos_right _ (h1 0 (by omega))
  | succ n ih => exact Nat.add_le_add (ih fun i hi => h1 i (by omega)) (Nat.le_mul_of_pos_right _ (h1 (n + 1) (by omega)))
theorem ans_tick {T : Nat} {ps ws : List Nat} {n : Nat} (hT : 0 < T) (hp : ∀ i, i < ps.length → 0 < gD ps i) (hl : ps.length = ws.length) (hn : n < ps.length) : ansN T ps ws n = tickA T ps ws n := by
  show (if gD ws n = 0 then _ else climbN _ (gD ps n * T) (gD ps n * T + 1) _) = _
  unfold tickA
  by_cases h : gD ws n = 0
  · rw [if_pos h, if_pos h]
  · rw [if_neg h, if_neg h]
    have e : (fun m => need T m (ps.take (n + 1)) ws) = needA (fun i => gD ps i * T) (gD ws) n := funext fun t => need_A hn hl
    rw [e, sum_take (by omega)]
    have hs : 0 < sumTo (gD ws) n := Nat.lt_of_lt_of_le (Nat.pos_of_ne_zero h) (sumTo_le (Nat.le_refl n))
    exact climb_fnd (fun s t h => needA_mono h) hs fun s h1 h2 => Nat.le_trans (sum_needA h1 fun i hi => Nat.mul_pos (hp i (by omega)) hT) h2
/-- in time: both defs -/
theorem eqNon {v : PV} (h : dataN 60 v = true) : data v = true := h
theorem lstO_data {T m : Nat} {f : Nat → Option Nat} : (lstO T m f).all data = true := by
  unfold lstO
  rw [List.all_eq_true]
  intro x hx
  obtain ⟨i, _, e⟩ := List.mem_map.1 hx
  subst e
  cases f i <;> rfl
theorem law_in_time_ok {T : Nat} {ps : List Nat} {qs : List (Nat × Nat)} {S : Sto} (K : Okq T ps qs) : F__law_in_time [perP ps, rawP qs] S = .ok (.bl ((List.range ps.length).all fun n => (tickA T ps (qs.map (wrk T)) n).isSome)) S := by
  rw [r__law_in_time]
  refine run_to ?_
  unfold n__law_in_time
  simp only [List.map_cons, List.map_nil, List.length_cons, List.length_nil, List.cons_append, List.nil_append, List.replicate_succ, List.replicate_zero, Nat.reduceAdd, Nat.reduceSub, Nat.zero_add]
  simp -implicitDefEqProofs only [exT, exS, ev, evs, bind_ok, to_ok, seq_nx, seq_rt, seq_ex, of_some, truth_bl, truthQ_bl, List.map_cons, List.map_nil, List.length_cons, List.length_nil, List.cons_append, List.nil_append, List.replicate_succ, List.replicate_zero, Nat.reduceAdd, Nat.reduceSub, Nat.zero_add, List.getElem?_cons_zero, List.getElem?_cons_succ, List.set_cons_zero, List.set_cons_succ, slVar, slBor, bop, ixV, seqOf, intOp, addV, blt, setL, bindT, bindQ, Option.map_some, ↓reduceIte]
  rw [law_answers_ok K]
  have e : inV S .non (.tup (lstO T ps.length (tickA T ps (qs.map (wrk T))))) = some ((lstO T ps.length (tickA T ps (qs.map (wrk T)))).any fun y => eqB y .non) := by
    show (if data PV.non = true ∧ _ then _ else none) = _
    rw [if_pos ⟨rfl, lstO_data⟩]
  simp -implicitDefEqProofs only [exT, exS, ev, evs, bind_ok, to_ok, seq_nx, seq_rt, seq_ex, of_some, truth_bl, truthQ_bl, List.map_cons, List.map_nil, List.length_cons, List.length_nil, List.cons_append, List.nil_append, List.replicate_succ, List.replicate_zero, Nat.reduceAdd, Nat.reduceSub, Nat.zero_add, List.getElem?_cons_zero, List.getElem?_cons_succ, List.set_cons_zero, List.set_cons_succ, slVar, slBor, bop, ixV, seqOf, intOp, addV, blt, setL, bindT, bindQ, Option.map_some, ↓reduceIte, e]
  congr 3
  unfold lstO
  rw [List.any_map]
  generalize List.range ps.length = l
  induction l with
  | nil => rfl
  | cons x l ih =>
    rw [List.any_cons, List.all_cons, Bool.not_or, ih]
    congr 1
    simp only [Function.comp]
    cases tickA T ps (qs.map (wrk T)) x <;> rfl
end Pl

end -- PlT
section -- PlU
namespace Pl
open Ev Lw
/-- a source: two numbers -/
def SrcC (a b : Nat) : Cell := .lst [.int (a : Nat), .int (b : Nat)]
structure Src (S : Sto) (c : Nat) : Prop where
  ex : ∃ a b : Nat, S[c]? = some (SrcC a b) ∧ b < 2 ^ 33
theorem lstAt_of {S : Sto} {c : Nat} {xs : List PV} (h : S[c]? = some (.lst xs)) : lstAt S c = some xs := by
  unfold lstAt; rw [h]
theorem set_get {S : Sto} {c : Nat} {x y : Cell} (h : S[c]? = some x) : (S.set c y)[c]? = some y := by
  obtain ⟨hn, _⟩ := List.getElem?_eq_some_iff.1 h
  rw [List.getElem?_set, if_pos rfl, if_pos hn]
theorem pick_ok {S : Sto} {c n : Nat} (h : Src S c) (hn : 0 < n) (hn2 : n < 2 ^ 60) : ∃ r a b : Nat, r < n ∧ b < 2 ^ 33 ∧ F__law_pick [.cell c, .int (n : Nat)] S = .ok (.int (r : Nat)) (S.set c (SrcC a b)) ∧ Src (S.set c (SrcC a b)) c := by
  obtain ⟨a, b, e, hb⟩ := h.ex
  have el := lstAt_of e
  have hn0 : (0 : Int) < n := by omega
  by_cases ha : 0 < a
  · have ha0 : (0 : Int) < a := by omega
    refine ⟨a % n, a / n, b, Nat.mod_lt _ hn, hb, ?_, ⟨a / n, b, set_get e, hb⟩⟩
    rw [r__law_pick]
    refine run_to ?_
    unfold n__law_pick
    simp only [List.map_cons, List.map_nil, List.length_cons, List.length_nil, List.cons_append, List.nil_append, List.replicate_succ, List.replicate_zero, Nat.reduceAdd, Nat.reduceSub, Nat.zero_add]
    have i0 : L2.ixN 2 (0 : Int) = some 0 := rfl
    simp -implicitDefEqProofs only [exT, exS, ev, evs, bind_ok, to_ok, seq_nx, seq_rt, seq_ex, of_some, truth_bl, truthQ_bl, List.map_cons, List.map_nil, List.length_cons, List.length_nil, List.cons_append, List.nil_append, List.replicate_succ, List.replicate_zero, Nat.reduceAdd, Nat.reduceSub, Nat.zero_add, List.getElem?_cons_zero, List.getElem?_cons_succ, List.set_cons_zero, List.set_cons_succ, bop, setL, Option.map_some, ↓reduceIte, slVar_v, slBor_v, slBor_o, isBox_o, isBox_c, isOpn_o, setIx_o, setIx_c, app_o, seto_l, opnTo_o, opnTo_v, addV_i, addV_t, addV_l, intOp_i, ixV_t, ixV_l, ixV_s, ixV_c, len_t, len_l, len_s, blt_int, blt_abs, blt_tl, blt_tt, blt_ll, blt_lt, blt_max, blt_min, isi_tt, isi_ii, isi_bi, isi_bb, bindQ_nm, bindT_nm, bindQ_tp, partK_n, partK_i, slP_t, slP_l, wipeS, Bool.false_eq_true, el, atI_0, atI_1, ha0, hn0, decide_true, divOkN hn hn2, i0, ixV_c el, setIx_c el i0]
    rw [← Int.natCast_emod, ← Int.natCast_ediv]
    rfl
  · have ha0 : ¬ (0 : Int) < a := by omega
    have hb1 : b * 44497 < 2 ^ 33 * 44497 := Nat.mul_lt_mul_of_pos_right hb (by decide)
    have hb2 : (b * 44497 + 9973) % 2147483647 < 2147483647 := Nat.mod_lt _ (by decide)
    generalize hB : (b * 44497 + 9973) % 2147483647 = B at hb2
    have hB2 : B * B < 2147483647 * 2147483647 := Nat.mul_lt_mul'' hb2 hb2
    refine ⟨B * B % 2147483399 / 11 % n, a, B, Nat.mod_lt _ hn, by omega, ?_, ⟨a, B, set_get e, by omega⟩⟩
    have m1 : mulV (.int (b : Nat)) (.int 44497) = some (.int ((b * 44497 : Nat) : Int)) := mulN (b := 44497) (by omega) (by decide)
    have el2 : lstAt (S.set c (SrcC a B)) c = some [.int (a : Nat), .int (B : Nat)] := lstAt_of (set_get e)
    rw [r__law_pick]
    refine run_to ?_
    unfold n__law_pick
    simp only [List.map_cons, List.map_nil, List.length_cons, List.length_nil, List.cons_append, List.nil_append, List.replicate_succ, List.replicate_zero, Nat.reduceAdd, Nat.reduceSub, Nat.zero_add]
    have i1 : L2.ixN 2 (1 : Int) = some 1 := rfl
    have hbe : (((b * 44497 : Nat) : Int) + 9973) % 2147483647 = (B : Int) := by omega
    have hd : divOk 11 = true := by decide
    simp -implicitDefEqProofs only [exT, exS, ev, evs, bind_ok, to_ok, seq_nx, seq_rt, seq_ex, of_some, truth_bl, truthQ_bl, List.map_cons, List.map_nil, List.length_cons, List.length_nil, List.cons_append, List.nil_append, List.replicate_succ, List.replicate_zero, Nat.reduceAdd, Nat.reduceSub, Nat.zero_add, List.getElem?_cons_zero, List.getElem?_cons_succ, List.set_cons_zero, List.set_cons_succ, bop, setL, Option.map_some, ↓reduceIte, slVar_v, slBor_v, slBor_o, isBox_o, isBox_c, isOpn_o, setIx_o, setIx_c, app_o, seto_l, opnTo_o, opnTo_v, addV_i, addV_t, addV_l, intOp_i, ixV_t, ixV_l, ixV_s, ixV_c, len_t, len_l, len_s, blt_int, blt_abs, blt_tl, blt_tt, blt_ll, blt_lt, blt_max, blt_min, isi_tt, isi_ii, isi_bi, isi_bb, bindQ_nm, bindT_nm, bindQ_tp, partK_n, partK_i, slP_t, slP_l, wipeS, Bool.false_eq_true, atI_0, atI_1, ha0, decide_false, i1, ixV_c el, m1, show (0 : Int) < 2147483647 by decide, hbe, setIx_c el i1]
    rw [show Cell.lst [PV.int (a : Int), PV.int (B : Int)] = SrcC a B from rfl]
    simp -implicitDefEqProofs only [exT, exS, ev, evs, bind_ok, to_ok, seq_nx, seq_rt, seq_ex, of_some, truth_bl, truthQ_bl, List.map_cons, List.map_nil, List.length_cons, List.length_nil, List.cons_append, List.nil_append, List.replicate_succ, List.replicate_zero, Nat.reduceAdd, Nat.reduceSub, Nat.zero_add, List.getElem?_cons_zero, List.getElem?_cons_succ, List.set_cons_zero, List.set_cons_succ, bop, setL, Option.map_some, ↓reduceIte, slVar_v, slBor_v, slBor_o, isBox_o, isBox_c, isOpn_o, setIx_o, setIx_c, app_o, seto_l, opnTo_o, opnTo_v, addV_i, addV_t, addV_l, intOp_i, ixV_t, ixV_l, ixV_s, ixV_c, len_t, len_l, len_s, blt_int, blt_abs, blt_tl, blt_tt, blt_ll, blt_lt, blt_max, blt_min, isi_tt, isi_ii, isi_bi, isi_bb, bindQ_nm, bindT_nm, bindQ_tp, partK_n, partK_i, slP_t, slP_l, wipeS, Bool.false_eq_true, ixV_c el2, atI_1, mulN (a := B) (b := B) (by omega) (by omega), show (0 : Int) < 2147483399 by decide, hd, hn0]
    rfl
theorem chosen_ok {S : Sto} {c : Nat} {v : PV} {xs : List PV} (h : Src S c) (hv : ∀ S, seqOf S v = some xs) (hs : ∀ z, v ≠ .str z) (h0 : 0 < xs.length) (h1 : xs.length < 2 ^ 60) : ∃ x a b : Nat, ∃ y, xs[x]? = some y ∧ b < 2 ^ 33 ∧ F__law_chosen [.cell c, v] S = .ok y (S.set c (SrcC a b)) ∧ Src (S.set c (SrcC a b)) c := by
  obtain ⟨r, a, b, hr, hb, e, h'⟩ := pick_ok h h0 h1
  have hx : xs[r]? = some xs[r] := List.getElem?_eq_getElem hr
  refine ⟨r, a, b, xs[r], hx, hb, ?_, h'⟩
  have e1 : Ev.blt .len S [v] = some (.int (xs.length : Nat)) := by
    cases v with
    | str z => exact absurd rfl (hs z)
    | _ => simp only [Ev.blt, hv, Option.map_some]
  have e2 : ∀ S' : Sto, ixV S' v (.int (r : Nat)) = some xs[r] := fun S' => by
    cases v with
    | str z => exact absurd rfl (hs z)
    | _ => simp only [ixV, hv, atI_nat hx]
  rw [r__law_chosen]
  refine run_to ?_
  unfold n__law_chosen
  simp only [List.map_cons, List.map_nil, List.length_cons, List.length_nil, List.cons_append, List.nil_append, List.replicate_succ, List.replicate_zero, Nat.reduceAdd, Nat.reduceSub, Nat.zero_add]
  simp only [exT, exS, ev, evs, bind_ok, to_ok, seq_rt, of_some, List.getElem?_cons_zero, List.getElem?_cons_succ, slVar, slBor, e1]
  rw [e]
  simp only [bind_ok, bop, e2, of_some, to_ok, seq_rt]
theorem source_ok {S : Sto} {ns : List Int} {k : Nat} (hk : k < 1000) (hb : ∀ z ∈ ns, z.natAbs.log2 < 2000000) : ∃ a b : Nat, b < 2 ^ 33 ∧ F__law_source [.scr ns, .int (k : Nat)] S = .ok (.cell S.length) (S ++ [SrcC a b]) := by
  -- the number
  have key : ∀ number : Int, number.natAbs.log2 < 2000000 → ∃ a b : Nat, b < 2 ^ 33 ∧ exT B0 (.cons (.set 3 (.bin .mod (.bin .add (.bin .add (.bin .mul (.bor 2) (.cst (.int 16807))) (.bin .mul (.cst (.int 60919)) (.bor 1))) (.cst (.int 31))) (.cst (.int 2147481173)))) (.cons (.set 3 (.bin .add (.bin .add (.bin .mod (.bin .mul (.bor 3) (.bor 3)) (.cst (.int 2147481151))) (.bin .mul (.cst (.int 2)) (.bor 1))) (.cst (.int 5)))) (.cons (.ret (.newc (.cons (.ifx (.bin .ge (.bor 2) (.bin .pow (.cst (.int 10)) (.cst (.int 18)))) (.var 2) (.cst (.int 0))) (.cons (.var 3) .nil)))) .nil))) [.val (.scr ns), .val (.int (k : Nat)), .val (.int number), .no] S = .ok (.rt (.cell S.length)) (S ++ [SrcC a b]) := by
    intro number hl
    have m1 : mulV (.int number) (.int 16807) = some (.int (number * 16807)) := by
      have : mulOk number 16807 = true := by
        unfold mulOk
        refine decide_eq_true ?_
        have : (16807 : Int).natAbs.log2 = 14 := by decide
        omega
      simp only [mulV, this, ↓reduceIte]
    have m2 : mulV (.int 60919) (.int (k : Nat)) = some (.int ((60919 * k : Nat) : Int)) := mulN (a := 60919) (by decide) (by omega)
    have m3 : mulV (.int 2) (.int (k : Nat)) = some (.int ((2 * k : Nat) : Int)) := mulN (a := 2) (by decide) (by omega)
    have hs0 := Int.emod_nonneg (number * 16807 + ((60919 * k : Nat) : Int) + 31) (show (2147481173 : Int) ≠ 0 by decide)
    have hs1 := Int.emod_lt_of_pos (number * 16807 + ((60919 * k : Nat) : Int) + 31) (show (0 : Int) < 2147481173 by decide)
    generalize hst : (number * 16807 + ((60919 * k : Nat) : Int) + 31) % 2147481173 = st at hs0 hs1
    obtain ⟨s, rfl⟩ := Int.eq_ofNat_of_zero_le hs0
    have hs2 : s * s % 2147481151 < 2147481151 := Nat.mod_lt _ (by decide)
    refine ⟨if number ≥ 1000000000000000000 then number.toNat else 0, s * s % 2147481151 + 2 * k + 5, by omega, ?_⟩
    have hp : (10 : Int) ^ (18 : Int).toNat = 1000000000000000000 := by decide
    simp -implicitDefEqProofs only [exT, exS, ev, evs, bind_ok, to_ok, seq_nx, seq_rt, seq_ex, of_some, truth_bl, truthQ_bl, List.map_cons, List.map_nil, List.length_cons, List.length_nil, List.cons_append, List.nil_append, List.replicate_succ, List.replicate_zero, Nat.reduceAdd, Nat.reduceSub, Nat.zero_add, List.getElem?_cons_zero, List.getElem?_cons_succ, List.set_cons_zero, List.set_cons_succ, slVar, slBor, bop, ixV, seqOf, intOp, addV, blt, setL, bindT, bindQ, Option.map_some, ↓reduceIte, m1, m2, show (0 : Int) < 2147481173 by decide, hst, mulN (a := s) (b := s) (by omega) (by omega), show (0 : Int) < 2147481151 by decide, m3, show (0 : Int) ≤ 18 ∧ (18 : Int) ≤ 1000 ∧ (10 : Int).natAbs < 1000 by decide, and_self, hp]
    rw [show ((s * s : Nat) : Int) % 2147481151 + ((2 * k : Nat) : Int) + 5 = ((s * s % 2147481151 + 2 * k + 5 : Nat) : Int) by omega]
    by_cases hge : number ≥ 1000000000000000000
    · rw [if_pos hge, decide_eq_true hge]
      simp -implicitDefEqProofs only [exT, exS, ev, evs, bind_ok, to_ok, seq_nx, seq_rt, seq_ex, of_some, truth_bl, truthQ_bl, List.map_cons, List.map_nil, List.length_cons, List.length_nil, List.cons_append, List.nil_append, List.replicate_succ, List.replicate_zero, Nat.reduceAdd, Nat.reduceSub, Nat.zero_add, List.getElem?_cons_zero, List.getElem?_cons_succ, List.set_cons_zero, List.set_cons_succ, slVar, slBor, bop, ixV, seqOf, intOp, addV, blt, setL, bindT, bindQ, Option.map_some, ↓reduceIte, SrcC]
      rw [Int.toNat_of_nonneg (by omega)]
    · rw [if_neg hge, decide_eq_false hge]
      simp -implicitDefEqProofs only [exT, exS, ev, evs, bind_ok, to_ok, seq_nx, seq_rt, seq_ex, of_some, truth_bl, truthQ_bl, List.map_cons, List.map_nil, List.length_cons, List.length_nil, List.cons_append, List.nil_append, List.replicate_succ, List.replicate_zero, Nat.reduceAdd, Nat.reduceSub, Nat.zero_add, List.getElem?_cons_zero, List.getElem?_cons_succ, List.set_cons_zero, List.set_cons_succ, slVar, slBor, bop, ixV, seqOf, intOp, addV, blt, setL, bindT, bindQ, Option.map_some, ↓reduceIte, SrcC, Bool.false_eq_true]
      rfl
  by_cases hl : k < ns.length
  · have hx : (ns.map PV.int)[k]? = some (.int ns[k]) := by rw [List.getElem?_map, List.getElem?_eq_getElem hl]; rfl
    obtain ⟨a, b, h1, h2⟩ := key ns[k] (hb _ (List.getElem_mem hl))
    refine ⟨a, b, h1, ?_⟩
    rw [r__law_source]
    refine run_to ?_
    unfold n__law_source
    simp only [List.map_cons, List.map_nil, List.length_cons, List.length_nil, List.cons_append, List.nil_append, List.replicate_succ, List.replicate_zero, Nat.reduceAdd, Nat.reduceSub, Nat.zero_add]
    generalize (Ev.T.cons (.set 3 (.bin .mod (.bin .add (.bin .add (.bin .mul (.bor 2) (.cst (.int 16807))) (.bin .mul (.cst (.int 60919)) (.bor 1))) (.cst (.int 31))) (.cst (.int 2147481173)))) (.cons (.set 3 (.bin .add (.bin .add (.bin .mod (.bin .mul (.bor 3) (.bor 3)) (.cst (.int 2147481151))) (.bin .mul (.cst (.int 2)) (.bor 1))) (.cst (.int 5)))) (.cons (.ret (.newc (.cons (.ifx (.bin .ge (.bor 2) (.bin .pow (.cst (.int 10)) (.cst (.int 18)))) (.var 2) (.cst (.int 0))) (.cons (.var 3) .nil)))) .nil))) = R at h2 ⊢
    simp -implicitDefEqProofs only [exT, exS, ev, evs, bind_ok, to_ok, seq_nx, seq_rt, seq_ex, of_some, truth_bl, truthQ_bl, List.map_cons, List.map_nil, List.length_cons, List.length_nil, List.cons_append, List.nil_append, List.replicate_succ, List.replicate_zero, Nat.reduceAdd, Nat.reduceSub, Nat.zero_add, List.getElem?_cons_zero, List.getElem?_cons_succ, List.set_cons_zero, List.set_cons_succ, slVar, slBor, bop, ixV, seqOf, intOp, addV, blt, setL, bindT, bindQ, Option.map_some, ↓reduceIte, List.length_map, show ((k : Int) < (ns.length : Int)) by omega, decide_true, atI_nat hx]
    exact h2
  · obtain ⟨a, b, h1, h2⟩ := key 0 (by decide)
    refine ⟨a, b, h1, ?_⟩
    rw [r__law_source]
    refine run_to ?_
    unfold n__law_source
    simp only [List.map_cons, List.map_nil, List.length_cons, List.length_nil, List.cons_append, List.nil_append, List.replicate_succ, List.replicate_zero, Nat.reduceAdd, Nat.reduceSub, Nat.zero_add]
    generalize (Ev.T.cons (.set 3 (.bin .mod (.bin .add (.bin .add (.bin .mul (.bor 2) (.cst (.int 16807))) (.bin .mul (.cst (.int 60919)) (.bor 1))) (.cst (.int 31))) (.cst (.int 2147481173)))) (.cons (.set 3 (.bin .add (.bin .add (.bin .mod (.bin .mul (.bor 3) (.bor 3)) (.cst (.int 2147481151))) (.bin .mul (.cst (.int 2)) (.bor 1))) (.cst (.int 5)))) (.cons (.ret (.newc (.cons (.ifx (.bin .ge (.bor 2) (.bin .pow (.cst (.int 10)) (.cst (.int 18)))) (.var 2) (.cst (.int 0))) (.cons (.var 3) .nil)))) .nil))) = R at h2 ⊢
    simp -implicitDefEqProofs only [exT, exS, ev, evs, bind_ok, to_ok, seq_nx, seq_rt, seq_ex, of_some, truth_bl, truthQ_bl, List.map_cons, List.map_nil, List.length_cons, List.length_nil, List.cons_append, List.nil_append, List.replicate_succ, List.replicate_zero, Nat.reduceAdd, Nat.reduceSub, Nat.zero_add, List.getElem?_cons_zero, List.getElem?_cons_succ, List.set_cons_zero, List.set_cons_succ, slVar, slBor, bop, ixV, seqOf, intOp, addV, blt, setL, bindT, bindQ, Option.map_some, ↓reduceIte, List.length_map, show ¬ ((k : Int) < (ns.length : Int)) by omega, decide_false, Bool.false_eq_true]
    exact h2
end Pl

end -- PlU
section -- PlV
namespace Pl
open Ev Lw
/-- what is changed: the source alone -/
def Only (c : Nat) (S S' : Sto) : Prop := S'.length = S.length ∧ ∀ j, j ≠ c → S'[j]? = S[j]?
theorem Only.refl {c : Nat} {S : Sto} : Only c S S := ⟨rfl, fun _ _ => rfl⟩
theorem Only.set {c : Nat} {S S' : Sto} {x : Cell} (h : Only c S S') : Only c S (S'.set c x) :=
  ⟨by rw [List.length_set]; exact h.1, fun j hj => by rw [List.getElem?_set, if_neg (Ne.symm hj)]; exact h.2 j hj⟩
theorem Only.trans {c : Nat} {S S' S'' : Sto} (h : Only c S S') (h2 : Only c S' S'') : Only c S S'' :=
  ⟨h2.1.trans h.1, fun j hj => (h2.2 j hj).trans (h.2 j hj)⟩
/-- a drawn length of a period p among n -/
def Drawn (n p : Nat) (q : Nat × Nat) : Prop := 0 < q.2 ∧ q.2 ≤ 6 ∧ q.1 ≤ p * q.2 / n + 1
theorem lengths_body {S : Sto} {c k p n : Nat} {L : PV} {ps : List Nat} {qs : List (Nat × Nat)} {s4 : Sl} (hS : Src S c) (hn : ps.length = n) (hn0 : 0 < n) (hn1 : n < 1000) (hp : p < 1000) (hq : qs.length < 1000) :
    ∃ q s4' S', exT B0 n__law_lengths_1 [.val (.cell c), .val (perP ps), .opn (qs.map fun q => fr q.1 q.2), .val (.int (p : Nat)), s4] S = .ok (.nx [.val (.cell c), .val (perP ps), .opn ((qs ++ [q]).map fun q => fr q.1 q.2), .val (.int (p : Nat)), s4']) S' ∧ Only c S S' ∧ Src S' c ∧ Drawn n p q := by
  obtain ⟨r, a, b, hr, hb, e1, h1⟩ := pick_ok (n := 6) hS (by decide) (by decide)
  have hpr : p * (1 + r) < 1000 * 7 := Nat.mul_lt_mul'' hp (by omega)
  have hdv : p * (1 + r) / n ≤ p * (1 + r) := Nat.div_le_self _ _
  have hD : ∃ D, p * (1 + r) / n = D := ⟨_, rfl⟩
  obtain ⟨D, hD⟩ := hD
  rw [hD] at hdv
  obtain ⟨r2, a2, b2, hr2, hb2, e2, h2⟩ := pick_ok (n := D + 2) h1 (by omega) (by omega)
  refine ⟨(r2, 1 + r), .val (.int ((1 + r : Nat) : Int)), _, ?_, Only.refl.set.set, h2, ⟨by show 0 < 1 + r; omega, by show 1 + r ≤ 6; omega, by show r2 ≤ p * (1 + r) / n + 1; omega⟩⟩
  unfold n__law_lengths_1
  have hlen : ∀ S : Sto, Ev.blt .len S [perP ps] = some (.int (n : Nat)) := fun S => by
    unfold perP
    simp only [Ev.blt, seqOf, Option.map_some, List.length_map, hn]
  have e1' : F__law_pick [.cell c, .int 6] S = _ := e1
  simp only [exT, exS, ev, evs, bind_ok, to_ok, seq_nx, of_some, List.getElem?_cons_zero, List.getElem?_cons_succ, slVar, slBor, e1', bop, addV, List.set_cons_zero, List.set_cons_succ]
  rw [show (1 : Int) + (r : Int) = ((1 + r : Nat) : Int) by omega]
  simp only [exT, exS, ev, evs, bind_ok, to_ok, seq_nx, of_some, List.getElem?_cons_zero, List.getElem?_cons_succ, slVar, slBor, bop, addV, List.set_cons_zero, List.set_cons_succ, isOpn, ↓reduceIte, hlen, mulN (a := p) (b := 1 + r) (by omega) (by omega), intOp, divOkN (y := n) hn0 (by omega)]
  rw [← Int.natCast_ediv, hD, show ((D : Nat) : Int) + 2 = ((D + 2 : Nat) : Int) by omega, e2]
  simp only [bind_ok]
  rw [low_ok (by omega) (by omega) (by omega)]
  have hlim : (List.map (fun q : Nat × Nat => fr q.1 q.2) qs).length < lim := by rw [List.length_map]; unfold lim; omega
  simp only [bind_ok, to_ok, appQ, hlim, ↓reduceIte, seq_nx, List.set_cons_zero, List.set_cons_succ, List.map_append, List.map_cons, List.map_nil]
theorem lengths_ok {S : Sto} {c n : Nat} {ps : List Nat} (hS : Src S c) (hn : ps.length = n) (hn0 : 0 < n) (hn1 : n < 1000) (hp : ∀ p ∈ ps, p < 1000) :
    ∃ qs S', F__law_lengths [.cell c, perP ps] S = .ok (rawP qs) S' ∧ Only c S S' ∧ Src S' c ∧ qs.length = n ∧ ∀ (i : Nat) (q : Nat × Nat), qs[i]? = some q → Drawn n (gD ps i) q := by
  rw [r__law_lengths]
  have key : ∃ S', (∃ qs, exT B0 n__law_lengths [.val (.cell c), .val (perP ps), .no, .no, .no] S = .ok (.rt (rawP qs)) S' ∧ Only c S S' ∧ Src S' c ∧ qs.length = n ∧ ∀ (i : Nat) (q : Nat × Nat), qs[i]? = some q → Drawn n (gD ps i) q) := by
    unfold n__law_lengths
    rw [exT_seq (ρ' := [.val (.cell c), .val (perP ps), .opn [], .no, .no]) (S' := S) (by simp only [exS, ev, evs, bind_ok, to_ok, setoQ, List.set_cons_zero, List.set_cons_succ])]
    obtain ⟨ρ1, S1, e1, hO, hS1, qs, s3, s4, hl, hq, hρ⟩ := for_ok (A := B0) (k := .val) (src := .cons (.var 1) .nil) (tg := .nm 3) (b := n__law_lengths_1) (vs := [perP ps]) (xs := ps.map fun (p : Nat) => PV.int (p : Int)) (ρ := [.val (.cell c), .val (perP ps), .opn [], .no, .no]) (S := S) (S1 := S)
      (fun k ρ S' => Only c S S' ∧ Src S' c ∧ ∃ qs s3 s4, qs.length = k ∧ (∀ (i : Nat) (q : Nat × Nat), qs[i]? = some q → Drawn n (gD ps i) q) ∧ ρ = [.val (.cell c), .val (perP ps), .opn (qs.map fun q => fr q.1 q.2), s3, s4])
      (by simp -implicitDefEqProofs only [exT, exS, ev, evs, bind_ok, to_ok, seq_nx, seq_rt, seq_ex, of_some, truth_bl, truthQ_bl, List.map_cons, List.map_nil, List.length_cons, List.length_nil, List.cons_append, List.nil_append, List.replicate_succ, List.replicate_zero, Nat.reduceAdd, Nat.reduceSub, Nat.zero_add, List.getElem?_cons_zero, List.getElem?_cons_succ, List.set_cons_zero, List.set_cons_succ, slVar, slBor, bop, ixV, seqOf, intOp, addV, blt, setL, bindT, bindQ, Option.map_some, ↓reduceIte]) (by rfl) ⟨Only.refl, hS, [], .no, .no, rfl, fun i q h => by simp at h, rfl⟩ (fun k x ρ S' hk hI => by
        obtain ⟨hO, hS', qs, s3, s4, hl, hq, hρ⟩ := hI
        obtain ⟨p, hkp, hx⟩ := map_get hk
        subst hρ hx
        have hkn := (List.getElem?_eq_some_iff.1 hkp).1
        obtain ⟨q, s4', S'', e, hO2, hS2, hd⟩ := lengths_body (S := S') (c := c) (k := k) (p := p) (n := n) (L := .non) (ps := ps) (qs := qs) (s4 := s4) hS' hn hn0 hn1 (hp p (List.mem_of_getElem? hkp)) (by omega)
        refine ⟨_, _, S'', rfl, e, hO.trans hO2, hS2, qs ++ [q], .val (.int (p : Nat)), s4', by rw [List.length_append, hl]; rfl, fun i q' hi => ?_, rfl⟩
        by_cases h : i < qs.length
        · rw [List.getElem?_append_left h] at hi
          exact hq i q' hi
        · have hi2 : i = k := by
            have := (List.getElem?_eq_some_iff.1 hi).1
            rw [List.length_append] at this
            simp at this
            omega
          subst hi2
          rw [← hl, List.getElem?_concat_length] at hi
          cases hi
          unfold gD
          rw [hkp]
          exact hd)
    subst hρ
    rw [List.length_map] at hl
    refine ⟨S1, qs, ?_, hO, hS1, by omega, hq⟩
    rw [exT_seq e1]
    simp -implicitDefEqProofs only [exT, exS, ev, evs, bind_ok, to_ok, seq_nx, seq_rt, seq_ex, of_some, truth_bl, truthQ_bl, List.map_cons, List.map_nil, List.length_cons, List.length_nil, List.cons_append, List.nil_append, List.replicate_succ, List.replicate_zero, Nat.reduceAdd, Nat.reduceSub, Nat.zero_add, List.getElem?_cons_zero, List.getElem?_cons_succ, List.set_cons_zero, List.set_cons_succ, slVar, slBor, bop, ixV, seqOf, intOp, addV, blt, setL, bindT, bindQ, Option.map_some, ↓reduceIte]
    rfl
  obtain ⟨S', qs, e, r⟩ := key
  exact ⟨qs, S', run_to e, r⟩
end Pl

end -- PlV
section -- PlW
namespace Pl
open Ev Lw
theorem run_nx {A : Amb} {n : Nat} {b : T} {vs : List PV} {S S' : Sto} {ρ : List Sl} (h : exT A b (vs.map .val ++ List.replicate (n - vs.length) .no) S = .ok (.nx ρ) S') : run A n b vs S = .ok .non S' := by
  unfold run; rw [h]
theorem is_int_ok {i a b : Int} {S : Sto} : F_is_int [.int i, .int a, .int b] S = .ok (.bl (decide (a ≤ i) && decide (i ≤ b))) S := by
  rw [r_is_int]
  refine run_to ?_
  unfold n_is_int
  simp only [List.map_cons, List.map_nil, List.length_cons, List.length_nil, List.cons_append, List.nil_append, List.replicate_succ, List.replicate_zero, Nat.reduceAdd, Nat.reduceSub, Nat.zero_add]
  have e : ev B0 n_is_int_1 [.val (.int i), .val (.int a), .val (.int b)] S = .ok (.bl (true && (true && (decide (a ≤ i) && decide (i ≤ b))))) S := by
    unfold n_is_int_1
    refine and_ok (by simp -implicitDefEqProofs only [exT, exS, ev, evs, bind_ok, to_ok, seq_nx, seq_rt, seq_ex, of_some, truth_bl, truthQ_bl, List.map_cons, List.map_nil, List.length_cons, List.length_nil, List.cons_append, List.nil_append, List.replicate_succ, List.replicate_zero, Nat.reduceAdd, Nat.reduceSub, Nat.zero_add, List.getElem?_cons_zero, List.getElem?_cons_succ, List.set_cons_zero, List.set_cons_succ, slVar, slBor, bop, ixV, seqOf, intOp, addV, blt, setL, bindT, bindQ, Option.map_some, ↓reduceIte, isiN, tyN]; rfl) fun _ => and_ok (by simp -implicitDefEqProofs only [exT, exS, ev, evs, bind_ok, to_ok, seq_nx, seq_rt, seq_ex, of_some, truth_bl, truthQ_bl, List.map_cons, List.map_nil, List.length_cons, List.length_nil, List.cons_append, List.nil_append, List.replicate_succ, List.replicate_zero, Nat.reduceAdd, Nat.reduceSub, Nat.zero_add, List.getElem?_cons_zero, List.getElem?_cons_succ, List.set_cons_zero, List.set_cons_succ, slVar, slBor, bop, ixV, seqOf, intOp, addV, blt, setL, bindT, bindQ, Option.map_some, ↓reduceIte, isiN, tyN]; rfl) fun _ => ?_
    by_cases h : a ≤ i
    · simp -implicitDefEqProofs only [exT, exS, ev, evs, bind_ok, to_ok, seq_nx, seq_rt, seq_ex, of_some, truth_bl, truthQ_bl, List.map_cons, List.map_nil, List.length_cons, List.length_nil, List.cons_append, List.nil_append, List.replicate_succ, List.replicate_zero, Nat.reduceAdd, Nat.reduceSub, Nat.zero_add, List.getElem?_cons_zero, List.getElem?_cons_succ, List.set_cons_zero, List.set_cons_succ, slVar, slBor, bop, ixV, seqOf, intOp, addV, blt, setL, bindT, bindQ, Option.map_some, ↓reduceIte, h, decide_true, Bool.true_and]
    · simp -implicitDefEqProofs only [exT, exS, ev, evs, bind_ok, to_ok, seq_nx, seq_rt, seq_ex, of_some, truth_bl, truthQ_bl, List.map_cons, List.map_nil, List.length_cons, List.length_nil, List.cons_append, List.nil_append, List.replicate_succ, List.replicate_zero, Nat.reduceAdd, Nat.reduceSub, Nat.zero_add, List.getElem?_cons_zero, List.getElem?_cons_succ, List.set_cons_zero, List.set_cons_succ, slVar, slBor, bop, ixV, seqOf, intOp, addV, blt, setL, bindT, bindQ, Option.map_some, ↓reduceIte, h, decide_false, Bool.false_eq_true, Bool.false_and]
  rw [exT, exS, e]
  rfl
/-- == of a value with itself -/
theorem eqBs_refl {xs : List PV} (h : ∀ x ∈ xs, eqB x x = true) : eqBs xs xs = true := by
  induction xs with
  | nil => unfold eqBs; rfl
  | cons x xs ih =>
    unfold eqBs
    rw [h x List.mem_cons_self, ih fun y hy => h y (List.mem_cons_of_mem _ hy)]
    rfl
theorem eqB_int {i : Int} : eqB (.int i) (.int i) = true := by
  simp only [eqB, beq_self_eq_true]
theorem eqB_fr {w T : Nat} : eqB (fr w T) (fr w T) = true := by
  unfold fr
  simp only [eqB, eqBs, beq_self_eq_true, Bool.and_self]
theorem eqV_fr {w T : Nat} : eqV (fr w T) (fr w T) = some true := by
  unfold eqV
  rw [if_pos ⟨rfl, rfl⟩, eqB_fr]
theorem frac_ok {w T : Nat} {S : Sto} (hT : 0 < T) (hT2 : T < 1000000) (hw : w < 1000000000000) : F_is_fraction [fr w T, .int 1000000000000000000000000000000] S = .ok (.bl true) S := by
  obtain ⟨a, b, e, a1, b1, a2, b2⟩ := fr_nat (w := w) (T := T) (S := S)
  have hg : 0 < Nat.gcd w T := Nat.gcd_pos_of_pos_right _ hT
  have hb : 0 < b := Nat.pos_of_ne_zero fun z => by subst z; omega
  have er : F_ratio [.int a, .int b] S = .ok (fr w T) S := by
    rw [ratio_ok (by omega) hb (by omega)]
    congr 1
    refine fr_eq hb hT ?_
    generalize hg : Nat.gcd w T = g at *
    rw [← a2, ← b2]
    ac_rfl
  have eq := eqV_fr (w := w) (T := T)
  rw [r_is_fraction]
  refine run_to ?_
  unfold n_is_fraction
  rw [e] at er eq ⊢
  simp only [List.map_cons, List.map_nil, List.length_cons, List.length_nil, List.cons_append, List.nil_append, List.replicate_succ, List.replicate_zero, Nat.reduceAdd, Nat.reduceSub, Nat.zero_add]
  have e2 : ev B0 n_is_fraction_2 [.val (.tup [.int a, .int b]), .val (.int 1000000000000000000000000000000)] S = .ok (.bl (false || false)) S := by
    unfold n_is_fraction_2
    refine or_ok (by simp -implicitDefEqProofs only [exT, exS, ev, evs, bind_ok, to_ok, seq_nx, seq_rt, seq_ex, of_some, truth_bl, truthQ_bl, List.map_cons, List.map_nil, List.length_cons, List.length_nil, List.cons_append, List.nil_append, List.replicate_succ, List.replicate_zero, Nat.reduceAdd, Nat.reduceSub, Nat.zero_add, List.getElem?_cons_zero, List.getElem?_cons_succ, List.set_cons_zero, List.set_cons_succ, slVar, slBor, bop, ixV, seqOf, intOp, addV, blt, setL, bindT, bindQ, Option.map_some, ↓reduceIte, isiN, tyN]; rfl) fun _ => ?_
    simp -implicitDefEqProofs only [exT, exS, ev, evs, bind_ok, to_ok, seq_nx, seq_rt, seq_ex, of_some, truth_bl, truthQ_bl, List.map_cons, List.map_nil, List.length_cons, List.length_nil, List.cons_append, List.nil_append, List.replicate_succ, List.replicate_zero, Nat.reduceAdd, Nat.reduceSub, Nat.zero_add, List.getElem?_cons_zero, List.getElem?_cons_succ, List.set_cons_zero, List.set_cons_succ, slVar, slBor, bop, ixV, seqOf, intOp, addV, blt, setL, bindT, bindQ, Option.map_some, ↓reduceIte, eqInt]
    rfl
  have e1 : ev B0 n_is_fraction_1 [.val (.tup [.int a, .int b]), .val (.int 1000000000000000000000000000000)] S = .ok (.bl (false || false)) S := by
    unfold n_is_fraction_1
    refine or_ok ?_ fun _ => ?_
    · simp -implicitDefEqProofs only [exT, exS, ev, evs, bind_ok, to_ok, seq_nx, seq_rt, seq_ex, of_some, truth_bl, truthQ_bl, List.map_cons, List.map_nil, List.length_cons, List.length_nil, List.cons_append, List.nil_append, List.replicate_succ, List.replicate_zero, Nat.reduceAdd, Nat.reduceSub, Nat.zero_add, List.getElem?_cons_zero, List.getElem?_cons_succ, List.set_cons_zero, List.set_cons_succ, slVar, slBor, bop, ixV, seqOf, intOp, addV, blt, setL, bindT, bindQ, Option.map_some, ↓reduceIte, atI_0, is_int_ok, show (0 : Int) ≤ a by omega, show (a : Int) ≤ 1000000000000000000000000000000 by omega, decide_true, Bool.and_self, Bool.not_true]
    · simp -implicitDefEqProofs only [exT, exS, ev, evs, bind_ok, to_ok, seq_nx, seq_rt, seq_ex, of_some, truth_bl, truthQ_bl, List.map_cons, List.map_nil, List.length_cons, List.length_nil, List.cons_append, List.nil_append, List.replicate_succ, List.replicate_zero, Nat.reduceAdd, Nat.reduceSub, Nat.zero_add, List.getElem?_cons_zero, List.getElem?_cons_succ, List.set_cons_zero, List.set_cons_succ, slVar, slBor, bop, ixV, seqOf, intOp, addV, blt, setL, bindT, bindQ, Option.map_some, ↓reduceIte, atI_1, is_int_ok, show (1 : Int) ≤ b by omega, show (b : Int) ≤ 1000000000000000000000000000000 by omega, decide_true, Bool.and_self, Bool.not_true]
  rw [exT, ite_ok e2, if_neg (by decide), exT, seq_nx, exT, ite_ok e1, if_neg (by decide), exT, seq_nx]
  simp -implicitDefEqProofs only [exT, exS, ev, evs, bind_ok, to_ok, seq_nx, seq_rt, seq_ex, of_some, truth_bl, truthQ_bl, List.map_cons, List.map_nil, List.length_cons, List.length_nil, List.cons_append, List.nil_append, List.replicate_succ, List.replicate_zero, Nat.reduceAdd, Nat.reduceSub, Nat.zero_add, List.getElem?_cons_zero, List.getElem?_cons_succ, List.set_cons_zero, List.set_cons_succ, slVar, slBor, bop, ixV, seqOf, intOp, addV, blt, setL, bindT, bindQ, Option.map_some, ↓reduceIte, atI_0, atI_1, er, eq]
theorem some_lengths_ok {qs : List (Nat × Nat)} {n : Nat} {S : Sto} (hn : qs.length = n) (hn2 : n < 1000) (h : ∀ q ∈ qs, 0 < q.2 ∧ q.2 < 1000 ∧ q.1 < 1000000) : F_are_some_lengths [.int (n : Nat), rawP qs] S = .ok (.bl true) S := by
  rw [r_are_some_lengths]
  refine run_to ?_
  unfold n_are_some_lengths
  simp only [List.map_cons, List.map_nil, List.length_cons, List.length_nil, List.cons_append, List.nil_append, List.replicate_succ, List.replicate_zero, Nat.reduceAdd, Nat.reduceSub, Nat.zero_add]
  have e2 : ev B0 n_are_some_lengths_2 [.val (.int (n : Nat)), .val (rawP qs), .no] S = .ok (.bl (false || false)) S := by
    unfold n_are_some_lengths_2 rawP
    refine or_ok (by simp -implicitDefEqProofs only [exT, exS, ev, evs, bind_ok, to_ok, seq_nx, seq_rt, seq_ex, of_some, truth_bl, truthQ_bl, List.map_cons, List.map_nil, List.length_cons, List.length_nil, List.cons_append, List.nil_append, List.replicate_succ, List.replicate_zero, Nat.reduceAdd, Nat.reduceSub, Nat.zero_add, List.getElem?_cons_zero, List.getElem?_cons_succ, List.set_cons_zero, List.set_cons_succ, slVar, slBor, bop, ixV, seqOf, intOp, addV, blt, setL, bindT, bindQ, Option.map_some, ↓reduceIte, isiN, tyN]; rfl) fun _ => ?_
    simp -implicitDefEqProofs only [exT, exS, ev, evs, bind_ok, to_ok, seq_nx, seq_rt, seq_ex, of_some, truth_bl, truthQ_bl, List.map_cons, List.map_nil, List.length_cons, List.length_nil, List.cons_append, List.nil_append, List.replicate_succ, List.replicate_zero, Nat.reduceAdd, Nat.reduceSub, Nat.zero_add, List.getElem?_cons_zero, List.getElem?_cons_succ, List.set_cons_zero, List.set_cons_succ, slVar, slBor, bop, ixV, seqOf, intOp, addV, blt, setL, bindT, bindQ, Option.map_some, ↓reduceIte, eqNat, List.length_map, hn, decide_true]
    rfl
  rw [exT, ite_ok e2, if_neg (by decide), exT, seq_nx]
  have e3 : ev B0 (.lc [2] .val (.cons (.var 1) .nil) (.nm 2) .nil n_are_some_lengths_1) [.val (.int (n : Nat)), .val (rawP qs), .no] S = .ok (.lst (qs.map fun q => .bl true)) S :=
    lc_map (vs := [rawP qs]) qs (fun q => fr q.1 q.2) (fun q => .bl true) (by simp -implicitDefEqProofs only [exT, exS, ev, evs, bind_ok, to_ok, seq_nx, seq_rt, seq_ex, of_some, truth_bl, truthQ_bl, List.map_cons, List.map_nil, List.length_cons, List.length_nil, List.cons_append, List.nil_append, List.replicate_succ, List.replicate_zero, Nat.reduceAdd, Nat.reduceSub, Nat.zero_add, List.getElem?_cons_zero, List.getElem?_cons_succ, List.set_cons_zero, List.set_cons_succ, slVar, slBor, bop, ixV, seqOf, intOp, addV, blt, setL, bindT, bindQ, Option.map_some, ↓reduceIte]) (by rfl) (fun q hq => ⟨_, rfl, by
      have := h q hq
      unfold n_are_some_lengths_1
      simp -implicitDefEqProofs only [exT, exS, ev, evs, bind_ok, to_ok, seq_nx, seq_rt, seq_ex, of_some, truth_bl, truthQ_bl, List.map_cons, List.map_nil, List.length_cons, List.length_nil, List.cons_append, List.nil_append, List.replicate_succ, List.replicate_zero, Nat.reduceAdd, Nat.reduceSub, Nat.zero_add, List.getElem?_cons_zero, List.getElem?_cons_succ, List.set_cons_zero, List.set_cons_succ, slVar, slBor, bop, ixV, seqOf, intOp, addV, blt, setL, bindT, bindQ, Option.map_some, ↓reduceIte, wipeS]
      rw [frac_ok (by omega) (by omega) (by omega)]⟩) (by unfold lim; omega)
  rw [exT, exS, ev, evs, e3, bind_ok, evs, bind_ok, bind_ok]
  simp only [Ev.blt, blsOf_map (f := fun _ : Nat × Nat => true), Option.map_some, of_some, to_ok, seq_rt]
  congr 3
  rw [List.all_map, List.all_eq_true]
  intro x _
  rfl
/-- a fact: lengths, and whether they are in time -/
def factP (f : List (Nat × Nat) × Bool) : PV := .tup [rawP f.1, .bl f.2]
def factsP (fs : List (List (Nat × Nat) × Bool)) : PV := .tup (fs.map factP)
def FactOk (n : Nat) (f : List (Nat × Nat) × Bool) : Prop := f.1.length = n ∧ ∀ q ∈ f.1, 0 < q.2 ∧ q.2 ≤ 6 ∧ q.1 ≤ 37
theorem facts_ok {n : Nat} {fs : List (List (Nat × Nat) × Bool)} {S : Sto} (hn : n < 1000) (hf : fs.length ≤ 5) (h : ∀ f ∈ fs, FactOk n f) : F_are_facts [.int (n : Nat), factsP fs] S = .ok (.bl true) S := by
  rw [r_are_facts]
  refine run_to ?_
  unfold n_are_facts
  simp only [List.map_cons, List.map_nil, List.length_cons, List.length_nil, List.cons_append, List.nil_append, List.replicate_succ, List.replicate_zero, Nat.reduceAdd, Nat.reduceSub, Nat.zero_add]
  have e2 : ev B0 n_are_facts_3 [.val (.int (n : Nat)), .val (factsP fs), .no] S = .ok (.bl (false || false)) S := by
    unfold n_are_facts_3 factsP
    refine or_ok (by simp -implicitDefEqProofs only [exT, exS, ev, evs, bind_ok, to_ok, seq_nx, seq_rt, seq_ex, of_some, truth_bl, truthQ_bl, List.map_cons, List.map_nil, List.length_cons, List.length_nil, List.cons_append, List.nil_append, List.replicate_succ, List.replicate_zero, Nat.reduceAdd, Nat.reduceSub, Nat.zero_add, List.getElem?_cons_zero, List.getElem?_cons_succ, List.set_cons_zero, List.set_cons_succ, slVar, slBor, bop, ixV, seqOf, intOp, addV, blt, setL, bindT, bindQ, Option.map_some, ↓reduceIte, isiN, tyN]; rfl) fun _ => ?_
    simp -implicitDefEqProofs only [exT, exS, ev, evs, bind_ok, to_ok, seq_nx, seq_rt, seq_ex, of_some, truth_bl, truthQ_bl, List.map_cons, List.map_nil, List.length_cons, List.length_nil, List.cons_append, List.nil_append, List.replicate_succ, List.replicate_zero, Nat.reduceAdd, Nat.reduceSub, Nat.zero_add, List.getElem?_cons_zero, List.getElem?_cons_succ, List.set_cons_zero, List.set_cons_succ, slVar, slBor, bop, ixV, seqOf, intOp, addV, blt, setL, bindT, bindQ, Option.map_some, ↓reduceIte, List.length_map, show ¬ ((5 : Int) < (fs.length : Nat)) by omega, decide_false]
  rw [exT, ite_ok e2, if_neg (by decide), exT, seq_nx]
  obtain ⟨ρ1, S1, e1, hS, s2, hρ⟩ := for_ok (A := B0) (k := .val) (src := .cons (.var 1) .nil) (tg := .nm 2) (b := n_are_facts_2) (vs := [factsP fs]) (xs := fs.map factP) (ρ := [.val (.int (n : Nat)), .val (factsP fs), .no]) (S := S) (S1 := S)
    (fun k ρ S' => S' = S ∧ ∃ s2, ρ = [.val (.int (n : Nat)), .val (factsP fs), s2]) (by simp -implicitDefEqProofs only [exT, exS, ev, evs, bind_ok, to_ok, seq_nx, seq_rt, seq_ex, of_some, truth_bl, truthQ_bl, List.map_cons, List.map_nil, List.length_cons, List.length_nil, List.cons_append, List.nil_append, List.replicate_succ, List.replicate_zero, Nat.reduceAdd, Nat.reduceSub, Nat.zero_add, List.getElem?_cons_zero, List.getElem?_cons_succ, List.set_cons_zero, List.set_cons_succ, slVar, slBor, bop, ixV, seqOf, intOp, addV, blt, setL, bindT, bindQ, Option.map_some, ↓reduceIte]) (by rfl) ⟨rfl, _, rfl⟩ (fun k x ρ S' hk hI => by
      obtain ⟨hS, s2, hρ⟩ := hI
      obtain ⟨f, hkf, hx⟩ := map_get hk
      subst hS hρ hx
      have hf := h f (List.mem_of_getElem? hkf)
      refine ⟨[.val (.int (n : Nat)), .val (factsP fs), .val (factP f)], _, _, rfl, ?_, rfl, .val (factP f), rfl⟩
      unfold n_are_facts_2
      have e1 : ev B0 n_are_facts_1 [.val (.int (n : Nat)), .val (factsP fs), .val (factP f)] S' = .ok (.bl (false || (false || false))) S' := by
        unfold n_are_facts_1 factP
        refine or_ok (by simp -implicitDefEqProofs only [exT, exS, ev, evs, bind_ok, to_ok, seq_nx, seq_rt, seq_ex, of_some, truth_bl, truthQ_bl, List.map_cons, List.map_nil, List.length_cons, List.length_nil, List.cons_append, List.nil_append, List.replicate_succ, List.replicate_zero, Nat.reduceAdd, Nat.reduceSub, Nat.zero_add, List.getElem?_cons_zero, List.getElem?_cons_succ, List.set_cons_zero, List.set_cons_succ, slVar, slBor, bop, ixV, seqOf, intOp, addV, blt, setL, bindT, bindQ, Option.map_some, ↓reduceIte, isiN, tyN]; rfl) fun _ => or_ok ?_ fun _ => ?_
        · simp -implicitDefEqProofs only [exT, exS, ev, evs, bind_ok, to_ok, seq_nx, seq_rt, seq_ex, of_some, truth_bl, truthQ_bl, List.map_cons, List.map_nil, List.length_cons, List.length_nil, List.cons_append, List.nil_append, List.replicate_succ, List.replicate_zero, Nat.reduceAdd, Nat.reduceSub, Nat.zero_add, List.getElem?_cons_zero, List.getElem?_cons_succ, List.set_cons_zero, List.set_cons_succ, slVar, slBor, bop, ixV, seqOf, intOp, addV, blt, setL, bindT, bindQ, Option.map_some, ↓reduceIte, eqInt]
          rfl
        · simp -implicitDefEqProofs only [exT, exS, ev, evs, bind_ok, to_ok, seq_nx, seq_rt, seq_ex, of_some, truth_bl, truthQ_bl, List.map_cons, List.map_nil, List.length_cons, List.length_nil, List.cons_append, List.nil_append, List.replicate_succ, List.replicate_zero, Nat.reduceAdd, Nat.reduceSub, Nat.zero_add, List.getElem?_cons_zero, List.getElem?_cons_succ, List.set_cons_zero, List.set_cons_succ, slVar, slBor, bop, ixV, seqOf, intOp, addV, blt, setL, bindT, bindQ, Option.map_some, ↓reduceIte, atI_1, isiN, tyN]
          rfl
      have e2 : ev B0 (.not_ (.call F_are_some_lengths "are_some_lengths" (.cons (.var 0) (.cons (.bin .ix (.bor 2) (.cst (.int 0))) .nil)))) [.val (.int (n : Nat)), .val (factsP fs), .val (factP f)] S' = .ok (.bl false) S' := by
        unfold factP
        simp -implicitDefEqProofs only [exT, exS, ev, evs, bind_ok, to_ok, seq_nx, seq_rt, seq_ex, of_some, truth_bl, truthQ_bl, List.map_cons, List.map_nil, List.length_cons, List.length_nil, List.cons_append, List.nil_append, List.replicate_succ, List.replicate_zero, Nat.reduceAdd, Nat.reduceSub, Nat.zero_add, List.getElem?_cons_zero, List.getElem?_cons_succ, List.set_cons_zero, List.set_cons_succ, slVar, slBor, bop, ixV, seqOf, intOp, addV, blt, setL, bindT, bindQ, Option.map_some, ↓reduceIte, atI_0]
        rw [some_lengths_ok hf.1 hn fun q hq => by have := hf.2 q hq; omega]
        simp -implicitDefEqProofs only [exT, exS, ev, evs, bind_ok, to_ok, seq_nx, seq_rt, seq_ex, of_some, truth_bl, truthQ_bl, List.map_cons, List.map_nil, List.length_cons, List.length_nil, List.cons_append, List.nil_append, List.replicate_succ, List.replicate_zero, Nat.reduceAdd, Nat.reduceSub, Nat.zero_add, List.getElem?_cons_zero, List.getElem?_cons_succ, List.set_cons_zero, List.set_cons_succ, slVar, slBor, bop, ixV, seqOf, intOp, addV, blt, setL, bindT, bindQ, Option.map_some, ↓reduceIte, Bool.not_true]
      rw [exT, ite_ok e1, if_neg (by decide), exT, seq_nx, exT, ite_ok e2, if_neg (by decide), exT, seq_nx, exT])
  subst hS hρ
  rw [exT_seq e1]
  simp -implicitDefEqProofs only [exT, exS, ev, evs, bind_ok, to_ok, seq_nx, seq_rt, seq_ex, of_some, truth_bl, truthQ_bl, List.map_cons, List.map_nil, List.length_cons, List.length_nil, List.cons_append, List.nil_append, List.replicate_succ, List.replicate_zero, Nat.reduceAdd, Nat.reduceSub, Nat.zero_add, List.getElem?_cons_zero, List.getElem?_cons_succ, List.set_cons_zero, List.set_cons_succ, slVar, slBor, bop, ixV, seqOf, intOp, addV, blt, setL, bindT, bindQ, Option.map_some, ↓reduceIte]
theorem need_number_ok {i a b : Int} {S : Sto} (h1 : a ≤ i) (h2 : i ≤ b) : F_need_number [.int i, .int a, .int b] S = .ok .non S := by
  rw [r_need_number]
  refine run_nx (ρ := [.val (.int i), .val (.int a), .val (.int b)]) ?_
  unfold n_need_number
  simp only [List.map_cons, List.map_nil, List.length_cons, List.length_nil, List.cons_append, List.nil_append, List.replicate_succ, List.replicate_zero, Nat.reduceAdd, Nat.reduceSub, Nat.zero_add]
  simp -implicitDefEqProofs only [exT, exS, ev, evs, bind_ok, to_ok, seq_nx, seq_rt, seq_ex, of_some, truth_bl, truthQ_bl, List.map_cons, List.map_nil, List.length_cons, List.length_nil, List.cons_append, List.nil_append, List.replicate_succ, List.replicate_zero, Nat.reduceAdd, Nat.reduceSub, Nat.zero_add, List.getElem?_cons_zero, List.getElem?_cons_succ, List.set_cons_zero, List.set_cons_succ, slVar, slBor, bop, ixV, seqOf, intOp, addV, blt, setL, bindT, bindQ, Option.map_some, ↓reduceIte, is_int_ok, h1, h2, decide_true, Bool.and_self, Bool.not_true, Bool.false_eq_true]
end Pl

end -- PlW
section -- PlX
set_option maxHeartbeats 0
namespace Pl
open Ev Lw
def rowStep (n : Nat) (rs : List (List Nat)) : List (List Nat) := rs.flatMap fun r => ((List.range n).filter fun i => decide (r.getLast?.getD 0 < i + 1)).map fun i => r ++ [i + 1]
def rowsN : Nat → Nat → List (List Nat)
  | 0, _ => [[]]
  | m + 1, n => rowStep n (rowsN m n)
def rowOk (m n : Nat) (ps : List Nat) : Bool := ps.length == m && (List.range m).all fun i => decide (0 < gD ps i ∧ gD ps i ≤ n ∧ gD ps i ≤ gD ps (m - 1))
theorem lrows_1_1 (S : Sto) : F__law_all_periods [.int ((1 : Nat) : Int), .int ((1 : Nat) : Int)] S = .ok (.lst ((rowsN 1 1).map perP)) S := by kernel_rfl
theorem prows_1_1 (S : Sto) : F_all_periods [.int ((1 : Nat) : Int), .int ((1 : Nat) : Int)] S = .ok (.lst ((rowsN 1 1).map perP)) S := by kernel_rfl
theorem lrows_1_2 (S : Sto) : F__law_all_periods [.int ((1 : Nat) : Int), .int ((2 : Nat) : Int)] S = .ok (.lst ((rowsN 1 2).map perP)) S := by kernel_rfl
theorem prows_1_2 (S : Sto) : F_all_periods [.int ((1 : Nat) : Int), .int ((2 : Nat) : Int)] S = .ok (.lst ((rowsN 1 2).map perP)) S := by kernel_rfl
theorem lrows_1_3 (S : Sto) : F__law_all_periods [.int ((1 : Nat) : Int), .int ((3 : Nat) : Int)] S = .ok (.lst ((rowsN 1 3).map perP)) S := by kernel_rfl
theorem prows_1_3 (S : Sto) : F_all_periods [.int ((1 : Nat) : Int), .int ((3 : Nat) : Int)] S = .ok (.lst ((rowsN 1 3).map perP)) S := by kernel_rfl
theorem lrows_1_4 (S : Sto) : F__law_all_periods [.int ((1 : Nat) : Int), .int ((4 : Nat) : Int)] S = .ok (.lst ((rowsN 1 4).map perP)) S := by kernel_rfl
theorem prows_1_4 (S : Sto) : F_all_periods [.int ((1 : Nat) : Int), .int ((4 : Nat) : Int)] S = .ok (.lst ((rowsN 1 4).map perP)) S := by kernel_rfl
theorem lrows_1_5 (S : Sto) : F__law_all_periods [.int ((1 : Nat) : Int), .int ((5 : Nat) : Int)] S = .ok (.lst ((rowsN 1 5).map perP)) S := by kernel_rfl
theorem prows_1_5 (S : Sto) : F_all_periods [.int ((1 : Nat) : Int), .int ((5 : Nat) : Int)] S = .ok (.lst ((rowsN 1 5).map perP)) S := by kernel_rfl
theorem lrows_1_6 (S : Sto) : F__law_all_periods [.int ((1 : Nat) : Int), .int ((6 : Nat) : Int)] S = .ok (.lst ((rowsN 1 6).map perP)) S := by kernel_rfl
theorem prows_1_6 (S : Sto) : F_all_periods [.int ((1 : Nat) : Int), .int ((6 : Nat) : Int)] S = .ok (.lst ((rowsN 1 6).map perP)) S := by kernel_rfl
theorem lrows_2_1 (S : Sto) : F__law_all_periods [.int ((2 : Nat) : Int), .int ((1 : Nat) : Int)] S = .ok (.lst ((rowsN 2 1).map perP)) S := by kernel_rfl
theorem prows_2_1 (S : Sto) : F_all_periods [.int ((2 : Nat) : Int), .int ((1 : Nat) : Int)] S = .ok (.lst ((rowsN 2 1).map perP)) S := by kernel_rfl
theorem lrows_2_2 (S : Sto) : F__law_all_periods [.int ((2 : Nat) : Int), .int ((2 : Nat) : Int)] S = .ok (.lst ((rowsN 2 2).map perP)) S := by kernel_rfl
theorem prows_2_2 (S : Sto) : F_all_periods [.int ((2 : Nat) : Int), .int ((2 : Nat) : Int)] S = .ok (.lst ((rowsN 2 2).map perP)) S := by kernel_rfl
theorem lrows_2_3 (S : Sto) : F__law_all_periods [.int ((2 : Nat) : Int), .int ((3 : Nat) : Int)] S = .ok (.lst ((rowsN 2 3).map perP)) S := by kernel_rfl
theorem prows_2_3 (S : Sto) : F_all_periods [.int ((2 : Nat) : Int), .int ((3 : Nat) : Int)] S = .ok (.lst ((rowsN 2 3).map perP)) S := by kernel_rfl
theorem lrows_2_4 (S : Sto) : F__law_all_periods [.int ((2 : Nat) : Int), .int ((4 : Nat) : Int)] S = .ok (.lst ((rowsN 2 4).map perP)) S := by kernel_rfl
theorem prows_2_4 (S : Sto) : F_all_periods [.int ((2 : Nat) : Int), .int ((4 : Nat) : Int)] S = .ok (.lst ((rowsN 2 4).map perP)) S := by kernel_rfl
theorem lrows_2_5 (S : Sto) : F__law_all_periods [.int ((2 : Nat) : Int), .int ((5 : Nat) : Int)] S = .ok (.lst ((rowsN 2 5).map perP)) S := by kernel_rfl
theorem prows_2_5 (S : Sto) : F_all_periods [.int ((2 : Nat) : Int), .int ((5 : Nat) : Int)] S = .ok (.lst ((rowsN 2 5).map perP)) S := by kernel_rfl
theorem lrows_2_6 (S : Sto) : F__law_all_periods [.int ((2 : Nat) : Int), .int ((6 : Nat) : Int)] S = .ok (.lst ((rowsN 2 6).map perP)) S := by kernel_rfl
theorem prows_2_6 (S : Sto) : F_all_periods [.int ((2 : Nat) : Int), .int ((6 : Nat) : Int)] S = .ok (.lst ((rowsN 2 6).map perP)) S := by kernel_rfl
theorem lrows_3_1 (S : Sto) : F__law_all_periods [.int ((3 : Nat) : Int), .int ((1 : Nat) : Int)] S = .ok (.lst ((rowsN 3 1).map perP)) S := by kernel_rfl
theorem prows_3_1 (S : Sto) : F_all_periods [.int ((3 : Nat) : Int), .int ((1 : Nat) : Int)] S = .ok (.lst ((rowsN 3 1).map perP)) S := by kernel_rfl
theorem lrows_3_2 (S : Sto) : F__law_all_periods [.int ((3 : Nat) : Int), .int ((2 : Nat) : Int)] S = .ok (.lst ((rowsN 3 2).map perP)) S := by kernel_rfl
theorem prows_3_2 (S : Sto) : F_all_periods [.int ((3 : Nat) : Int), .int ((2 : Nat) : Int)] S = .ok (.lst ((rowsN 3 2).map perP)) S := by kernel_rfl
theorem lrows_3_3 (S : Sto) : F__law_all_periods [.int ((3 : Nat) : Int), .int ((3 : Nat) : Int)] S = .ok (.lst ((rowsN 3 3).map perP)) S := by kernel_rfl
theorem prows_3_3 (S : Sto) : F_all_periods [.int ((3 : Nat) : Int), .int ((3 : Nat) : Int)] S = .ok (.lst ((rowsN 3 3).map perP)) S := by kernel_rfl
theorem lrows_3_4 (S : Sto) : F__law_all_periods [.int ((3 : Nat) : Int), .int ((4 : Nat) : Int)] S = .ok (.lst ((rowsN 3 4).map perP)) S := by kernel_rfl
theorem prows_3_4 (S : Sto) : F_all_periods [.int ((3 : Nat) : Int), .int ((4 : Nat) : Int)] S = .ok (.lst ((rowsN 3 4).map perP)) S := by kernel_rfl
theorem lrows_3_5 (S : Sto) : F__law_all_periods [.int ((3 : Nat) : Int), .int ((5 : Nat) : Int)] S = .ok (.lst ((rowsN 3 5).map perP)) S := by kernel_rfl
theorem prows_3_5 (S : Sto) : F_all_periods [.int ((3 : Nat) : Int), .int ((5 : Nat) : Int)] S = .ok (.lst ((rowsN 3 5).map perP)) S := by kernel_rfl
theorem lrows_3_6 (S : Sto) : F__law_all_periods [.int ((3 : Nat) : Int), .int ((6 : Nat) : Int)] S = .ok (.lst ((rowsN 3 6).map perP)) S := by kernel_rfl
theorem prows_3_6 (S : Sto) : F_all_periods [.int ((3 : Nat) : Int), .int ((6 : Nat) : Int)] S = .ok (.lst ((rowsN 3 6).map perP)) S := by kernel_rfl
theorem lrows : ∀ {m n : Nat}, 1 ≤ m → m ≤ 3 → 1 ≤ n → n ≤ 6 → ∀ S, F__law_all_periods [.int (m : Nat), .int (n : Nat)] S = .ok (.lst ((rowsN m n).map perP)) S
  | 1, 1, _, _, _, _ => lrows_1_1
  | 1, 2, _, _, _, _ => lrows_1_2
  | 1, 3, _, _, _, _ => lrows_1_3
  | 1, 4, _, _, _, _ => lrows_1_4
  | 1, 5, _, _, _, _ => lrows_1_5
  | 1, 6, _, _, _, _ => lrows_1_6
  | 2, 1, _, _, _, _ => lrows_2_1
  | 2, 2, _, _, _, _ => lrows_2_2
  | 2, 3, _, _, _, _ => lrows_2_3
  | 2, 4, _, _, _, _ => lrows_2_4
  | 2, 5, _, _, _, _ => lrows_2_5
  | 2, 6, _, _, _, _ => lrows_2_6
  | 3, 1, _, _, _, _ => lrows_3_1
  | 3, 2, _, _, _, _ => lrows_3_2
  | 3, 3, _, _, _, _ => lrows_3_3
  | 3, 4, _, _, _, _ => lrows_3_4
  | 3, 5, _, _, _, _ => lrows_3_5
  | 3, 6, _, _, _, _ => lrows_3_6
  | 0, _, h, _, _, _ => absurd h (by decide)
  | _, 0, _, _, h, _ => absurd h (by decide)
  | m + 4, _, _, h, _, _ => absurd h (by omega)
  | _, n + 7, _, _, _, h => absurd h (by omega)
theorem prows : ∀ {m n : Nat}, 1 ≤ m → m ≤ 3 → 1 ≤ n → n ≤ 6 → ∀ S, F_all_periods [.int (m : Nat), .int (n : Nat)] S = .ok (.lst ((rowsN m n).map perP)) S
  | 1, 1, _, _, _, _ => prows_1_1
  | 1, 2, _, _, _, _ => prows_1_2
  | 1, 3, _, _, _, _ => prows_1_3
  | 1, 4, _, _, _, _ => prows_1_4
  | 1, 5, _, _, _, _ => prows_1_5
  | 1, 6, _, _, _, _ => prows_1_6
  | 2, 1, _, _, _, _ => prows_2_1
  | 2, 2, _, _, _, _ => prows_2_2
  | 2, 3, _, _, _, _ => prows_2_3
  | 2, 4, _, _, _, _ => prows_2_4
  | 2, 5, _, _, _, _ => prows_2_5
  | 2, 6, _, _, _, _ => prows_2_6
  | 3, 1, _, _, _, _ => prows_3_1
  | 3, 2, _, _, _, _ => prows_3_2
  | 3, 3, _, _, _, _ => prows_3_3
  | 3, 4, _, _, _, _ => prows_3_4
  | 3, 5, _, _, _, _ => prows_3_5
  | 3, 6, _, _, _, _ => prows_3_6
  | 0, _, h, _, _, _ => absurd h (by decide)
  | _, 0, _, _, h, _ => absurd h (by decide)
  | m + 4, _, _, h, _, _ => absurd h (by omega)
  | _, n + 7, _, _, _, h => absurd h (by omega)
theorem rows_ok : ∀ m, m < 4 → ∀ n, n < 7 → 1 ≤ m → ((rowsN m n).all (rowOk m n) && decide ((rowsN m n).length < 1000)) = true := by decide +kernel
end Pl

end -- PlX
section -- PlY
namespace Pl
open Ev Lw
/-- in time, as plain numbers -/
def inT (ps : List Nat) (qs : List (Nat × Nat)) : Bool := (List.range ps.length).all fun n => (tickA (tickN 1 qs) ps (qs.map (wrk (tickN 1 qs))) n).isSome
structure RowP (m : Nat) (ps : List Nat) : Prop where
  m1 : 1 ≤ m
  m3 : m ≤ 3
  len : ps.length = m
  p : ∀ i, i < m → 0 < gD ps i ∧ gD ps i ≤ 6 ∧ gD ps i ≤ gD ps (m - 1)
theorem rowP_of {m n : Nat} {ps : List Nat} (h1 : 1 ≤ m) (h2 : m ≤ 3) (h3 : n ≤ 6) (h : rowOk m n ps = true) : RowP m ps := by
  unfold rowOk at h
  rw [Bool.and_eq_true, List.all_eq_true, beq_iff_eq] at h
  refine ⟨h1, h2, h.1, fun i hi => ?_⟩
  have := of_decide_eq_true (h.2 i (List.mem_range.2 hi))
  omega
theorem den_dvd {w T : Nat} : den w T ∣ T := Nat.div_dvd_of_dvd (Nat.gcd_dvd_right _ _)
theorem six_dvd {x : Nat} (h0 : 0 < x) (h : x ≤ 6) : x ∣ 60 := by
  match x, h0, h with
  | 1, _, _ => decide
  | 2, _, _ => decide
  | 3, _, _ => decide
  | 4, _, _ => decide
  | 5, _, _ => decide
  | 6, _, _ => decide
  | n + 7, _, h => omega
theorem mem_gD {ps : List Nat} {p : Nat} (h : p ∈ ps) : ∃ i, i < ps.length ∧ gD ps i = p := by
  obtain ⟨i, hi, e⟩ := List.getElem_of_mem h
  exact ⟨i, hi, by unfold gD; rw [List.getElem?_eq_getElem hi]; exact e⟩
section
variable {m : Nat} {ps : List Nat} {qs : List (Nat × Nat)} {g : Bool}
theorem tick60 (F : FactOk m (qs, g)) : 0 < tickN 1 qs ∧ tickN 1 qs ≤ 60 ∧ ∀ q ∈ qs, den q.1 q.2 ∣ tickN 1 qs := by
  refine ⟨tick_pos (by decide) fun q hq => (F.2 q hq).1, Nat.le_of_dvd (by decide) (tick_dvd (Nat.one_dvd _) fun q hq => Nat.dvd_trans den_dvd (six_dvd (F.2 q hq).1 (F.2 q hq).2.1)), dvd_tick.2⟩
theorem okq (R : RowP m ps) (F : FactOk m (qs, g)) : Okq (tickN 1 qs) ps qs := by
  have ⟨t0, t1, _⟩ := tick60 F
  have hl := R.len
  have := R.m1
  have := R.m3
  refine ⟨t0, by omega, rfl, F.1.trans hl.symm, by omega, by omega, fun i hi => ?_, fun i hi => ?_, fun q hq => ?_⟩
  · have := R.p i (by omega)
    omega
  · have := R.p i (by omega)
    rw [hl]; exact this.2.2
  · have := F.2 q hq
    exact ⟨this.1, by omega, Nat.lt_of_le_of_lt this.2.2 (by decide)⟩
theorem wrk_le {q : Nat × Nat} {T : Nat} (hq : q.1 ≤ 37) (hT : T ≤ 60) : wrk T q ≤ 2220 := by
  unfold wrk
  exact Nat.mul_le_mul (Nat.le_trans num_le hq) (Nat.le_trans (Nat.div_le_self _ _) hT)
theorem sum_le {B : Nat} : ∀ {ws : List Nat}, (∀ w ∈ ws, w ≤ B) → ws.sum ≤ ws.length * B
  | [], _ => by simp
  | w :: ws, h => by
    have := sum_le (B := B) (ws := ws) fun x hx => h x (List.mem_cons_of_mem _ hx)
    have := h w List.mem_cons_self
    rw [List.sum_cons, List.length_cons, Nat.succ_mul]
    omega
theorem cdiv_le_self {t x : Nat} (hx : 0 < x) : cdiv t x ≤ t := by
  rw [cdiv_le hx]
  exact Nat.le_mul_of_pos_right _ hx
theorem need_le {B T t : Nat} (hT : 0 < T) : ∀ {ps ws : List Nat}, (∀ p ∈ ps, 0 < p) → (∀ w ∈ ws, w ≤ B) → need T t ps ws ≤ ws.length * (B * t)
  | [], _, _, _ => by simp [need]
  | _ :: _, [], _, _ => by simp [need]
  | p :: ps, w :: ws, h1, h2 => by
    have a := need_le (B := B) (T := T) (t := t) hT (ps := ps) (ws := ws) (fun x hx => h1 x (List.mem_cons_of_mem _ hx)) fun x hx => h2 x (List.mem_cons_of_mem _ hx)
    have b := Nat.mul_le_mul (h2 w List.mem_cons_self) (cdiv_le_self (t := t) (Nat.mul_pos (h1 p List.mem_cons_self) hT))
    simp only [need]
    rw [List.length_cons, Nat.succ_mul]
    omega
theorem okt (R : RowP m ps) (F : FactOk m (qs, g)) : Okt (tickN 1 qs) ps (qs.map (wrk (tickN 1 qs))) := by
  have ⟨t0, t1, _⟩ := tick60 F
  have hl := R.len
  have := R.m3
  have hp : ∀ p ∈ ps, 0 < p ∧ p ≤ 6 := fun p hp => by
    obtain ⟨i, hi, e⟩ := mem_gD hp
    subst e
    have := R.p i (by omega)
    omega
  have hw : ∀ w ∈ qs.map (wrk (tickN 1 qs)), w ≤ 2220 := fun w hw => by
    obtain ⟨q, hq, e⟩ := List.mem_map.1 hw
    subst e
    exact wrk_le (F.2 q hq).2.2 t1
  have hwl : (qs.map (wrk (tickN 1 qs))).length = m := by rw [List.length_map]; exact F.1
  refine ⟨t0, by omega, fun p h => by have := hp p h; omega, fun w h => by have := hw w h; omega, hwl.trans hl.symm, fun n => ?_, fun n t ht => ?_⟩
  · have a := sum_le (B := 2220) (ws := (qs.map (wrk (tickN 1 qs))).take (n + 1)) fun w h => hw w (List.mem_of_mem_take h)
    have b : ((qs.map (wrk (tickN 1 qs))).take (n + 1)).length ≤ 3 := by rw [List.length_take]; omega
    have c := Nat.mul_le_mul_right 2220 b
    omega
  · have hg : gD ps n ≤ 6 := by
      by_cases hn : n < m
      · exact (R.p n hn).2.1
      · unfold gD
        rw [List.getElem?_eq_none (by omega)]
        exact Nat.zero_le _
    have ht2 : t ≤ 360 := Nat.le_trans ht (Nat.mul_le_mul hg t1)
    have a := need_le (B := 2220) (T := tickN 1 qs) (t := t) t0 (ps := ps.take (n + 1)) (ws := qs.map (wrk (tickN 1 qs))) (fun p h => (hp p (List.mem_of_mem_take h)).1) hw
    have b : (qs.map (wrk (tickN 1 qs))).length * (2220 * t) ≤ 3 * (2220 * 360) := Nat.mul_le_mul (by omega) (Nat.mul_le_mul_left _ ht2)
    omega
theorem lawT_ok {S : Sto} (R : RowP m ps) (F : FactOk m (qs, g)) : F__law_in_time [perP ps, rawP qs] S = .ok (.bl (inT ps qs)) S := law_in_time_ok (okq R F)
theorem all_congr {α : Type} {l : List α} {p q : α → Bool} (h : ∀ x ∈ l, p x = q x) : l.all p = l.all q := by
  induction l with
  | nil => rfl
  | cons x l ih => rw [List.all_cons, List.all_cons, h x List.mem_cons_self, ih fun y hy => h y (List.mem_cons_of_mem _ hy)]
theorem progT_ok {S : Sto} (R : RowP m ps) (F : FactOk m (qs, g)) : F_in_time [perP ps, rawP qs] S = .ok (.bl (inT ps qs)) S := by
  have ⟨t0, t1, t2⟩ := tick60 F
  have hl := R.len
  have := R.m3
  rw [raw_len t0 fun q hq => ⟨(F.2 q hq).1, t2 q hq⟩, in_time_ok (okt R F) (by omega)]
  unfold inT
  congr 2
  refine all_congr fun n hn => ?_
  have hn := List.mem_range.1 hn
  rw [ans_tick t0 (fun i hi => (R.p i (by omega)).1) (by rw [List.length_map, F.1]; exact hl) hn]
end
/-- rows that agree with facts -/
def agree (fs : List (List (Nat × Nat) × Bool)) (ps : List Nat) : Bool := fs.all fun f => inT ps f.1 == f.2
theorem eqBl {a b : Bool} : eqV (.bl a) (.bl b) = some (a == b) := by cases a <;> cases b <;> rfl
theorem rows_in {m n : Nat} (h1 : 1 ≤ m) (h2 : m ≤ 3) (h3 : n ≤ 6) : (∀ ps ∈ rowsN m n, RowP m ps) ∧ (rowsN m n).length < 1000 := by
  have h := rows_ok m (by omega) n (by omega) h1
  rw [Bool.and_eq_true, List.all_eq_true] at h
  exact ⟨fun ps hp => rowP_of h1 h2 h3 (h.1 ps hp), of_decide_eq_true h.2⟩
end Pl

end -- PlY
section -- PlZ
namespace Pl
open Ev Lw
theorem told_in {m n : Nat} {fs : List (List (Nat × Nat) × Bool)} {S : Sto} {ps : List Nat} (R : RowP m ps) (hf : fs.length ≤ 5) (hF : ∀ f ∈ fs, FactOk m f) : ev B0 (.lc [4, 5] .val (.cons (.var 2) .nil) (.tp [4, 5]) .nil n_periods_told_1) [.val (.int (m : Nat)), .val (.int (n : Nat)), .val (factsP fs), .val (perP ps), .no, .no] S = .ok (.lst (fs.map fun f => .bl (inT ps f.1 == f.2))) S := by
  refine lc_map (vs := [factsP fs]) fs factP (fun f => .bl (inT ps f.1 == f.2)) ?_ ?_ (fun f hf => ⟨[.val (.int (m : Nat)), .val (.int (n : Nat)), .val (factsP fs), .val (perP ps), .val (rawP f.1), .val (.bl f.2)], rfl, ?_⟩) ?_
  · simp -implicitDefEqProofs only [exT, exS, ev, evs, bind_ok, to_ok, seq_nx, seq_rt, seq_ex, of_some, truth_bl, truthQ_bl, List.map_cons, List.map_nil, List.length_cons, List.length_nil, List.cons_append, List.nil_append, List.replicate_succ, List.replicate_zero, Nat.reduceAdd, Nat.reduceSub, Nat.zero_add, List.getElem?_cons_zero, List.getElem?_cons_succ, List.set_cons_zero, List.set_cons_succ, bop, setL, Option.map_some, ↓reduceIte, slVar_v, slBor_v, slBor_o, isBox_o, isBox_c, isOpn_o, setIx_o, setIx_c, app_o, seto_l, opnTo_o, opnTo_v, addV_i, addV_t, addV_l, intOp_i, ixV_t, ixV_l, ixV_s, ixV_c, len_t, len_l, len_s, blt_int, blt_abs, blt_tl, blt_tt, blt_ll, blt_lt, blt_max, blt_min, isi_tt, isi_ii, isi_bi, isi_bb, bindQ_nm, bindT_nm, bindQ_tp, partK_n, partK_i, slP_t, slP_l, wipeS, Bool.false_eq_true]
  · rfl
  · unfold n_periods_told_1
    simp -implicitDefEqProofs only [exT, exS, ev, evs, bind_ok, to_ok, seq_nx, seq_rt, seq_ex, of_some, truth_bl, truthQ_bl, List.map_cons, List.map_nil, List.length_cons, List.length_nil, List.cons_append, List.nil_append, List.replicate_succ, List.replicate_zero, Nat.reduceAdd, Nat.reduceSub, Nat.zero_add, List.getElem?_cons_zero, List.getElem?_cons_succ, List.set_cons_zero, List.set_cons_succ, bop, setL, Option.map_some, ↓reduceIte, slVar_v, slBor_v, slBor_o, isBox_o, isBox_c, isOpn_o, setIx_o, setIx_c, app_o, seto_l, opnTo_o, opnTo_v, addV_i, addV_t, addV_l, intOp_i, ixV_t, ixV_l, ixV_s, ixV_c, len_t, len_l, len_s, blt_int, blt_abs, blt_tl, blt_tt, blt_ll, blt_lt, blt_max, blt_min, isi_tt, isi_ii, isi_bi, isi_bb, bindQ_nm, bindT_nm, bindQ_tp, partK_n, partK_i, slP_t, slP_l, wipeS, Bool.false_eq_true]
    rw [progT_ok (g := f.2) R (hF f hf)]
    simp -implicitDefEqProofs only [exT, exS, ev, evs, bind_ok, to_ok, seq_nx, seq_rt, seq_ex, of_some, truth_bl, truthQ_bl, List.map_cons, List.map_nil, List.length_cons, List.length_nil, List.cons_append, List.nil_append, List.replicate_succ, List.replicate_zero, Nat.reduceAdd, Nat.reduceSub, Nat.zero_add, List.getElem?_cons_zero, List.getElem?_cons_succ, List.set_cons_zero, List.set_cons_succ, bop, setL, Option.map_some, ↓reduceIte, slVar_v, slBor_v, slBor_o, isBox_o, isBox_c, isOpn_o, setIx_o, setIx_c, app_o, seto_l, opnTo_o, opnTo_v, addV_i, addV_t, addV_l, intOp_i, ixV_t, ixV_l, ixV_s, ixV_c, len_t, len_l, len_s, blt_int, blt_abs, blt_tl, blt_tt, blt_ll, blt_lt, blt_max, blt_min, isi_tt, isi_ii, isi_bi, isi_bb, bindQ_nm, bindT_nm, bindQ_tp, partK_n, partK_i, slP_t, slP_l, wipeS, Bool.false_eq_true, eqBl]
  · unfold lim; omega
theorem told_cond {m n : Nat} {fs : List (List (Nat × Nat) × Bool)} {S : Sto} {ps : List Nat} (R : RowP m ps) (hf : fs.length ≤ 5) (hF : ∀ f ∈ fs, FactOk m f) : evs B0 n_periods_told_2 [.val (.int (m : Nat)), .val (.int (n : Nat)), .val (factsP fs), .val (perP ps), .no, .no] S = .ok [.bl (agree fs ps)] S := by
  unfold n_periods_told_2
  rw [evs, ev, evs, told_in R hf hF, bind_ok, evs, bind_ok, bind_ok]
  simp only [Ev.blt, blsOf_map, Option.map_some, of_some, bind_ok, evs]
  rw [List.all_map]
  rfl
theorem told_rows {m n : Nat} {fs : List (List (Nat × Nat) × Bool)} {S : Sto} (h1 : 1 ≤ m) (h2 : m ≤ 3) (h3 : 1 ≤ n) (h4 : n ≤ 6) (hf : fs.length ≤ 5) (hF : ∀ f ∈ fs, FactOk m f) : ev B0 (.lc [3] .val (.cons (.call F_all_periods "all_periods" (.cons (.var 0) (.cons (.var 1) .nil))) .nil) (.nm 3) n_periods_told_2 (.var 3)) [.val (.int (m : Nat)), .val (.int (n : Nat)), .val (factsP fs), .no, .no, .no] S = .ok (.lst (((rowsN m n).filter (agree fs)).map perP)) S := by
  obtain ⟨hr, hrl⟩ := rows_in h1 h2 h4
  have e4 := prows h1 h2 h3 h4 S
  generalize rowsN m n = rs at *
  refine lc_filter (vs := [.lst (rs.map perP)]) rs perP perP (agree fs) ?_ ?_ (fun ps hp => ⟨[.val (.int (m : Nat)), .val (.int (n : Nat)), .val (factsP fs), .val (perP ps), .no, .no], rfl, told_cond (hr ps hp) hf hF, fun _ => ?_⟩) ?_
  · simp -implicitDefEqProofs only [exT, exS, ev, evs, bind_ok, to_ok, seq_nx, seq_rt, seq_ex, of_some, truth_bl, truthQ_bl, List.map_cons, List.map_nil, List.length_cons, List.length_nil, List.cons_append, List.nil_append, List.replicate_succ, List.replicate_zero, Nat.reduceAdd, Nat.reduceSub, Nat.zero_add, List.getElem?_cons_zero, List.getElem?_cons_succ, List.set_cons_zero, List.set_cons_succ, bop, setL, Option.map_some, ↓reduceIte, slVar_v, slBor_v, slBor_o, isBox_o, isBox_c, isOpn_o, setIx_o, setIx_c, app_o, seto_l, opnTo_o, opnTo_v, addV_i, addV_t, addV_l, intOp_i, ixV_t, ixV_l, ixV_s, ixV_c, len_t, len_l, len_s, blt_int, blt_abs, blt_tl, blt_tt, blt_ll, blt_lt, blt_max, blt_min, isi_tt, isi_ii, isi_bi, isi_bb, bindQ_nm, bindT_nm, bindQ_tp, partK_n, partK_i, slP_t, slP_l, wipeS, Bool.false_eq_true, e4]
  · rfl
  · simp -implicitDefEqProofs only [exT, exS, ev, evs, bind_ok, to_ok, seq_nx, seq_rt, seq_ex, of_some, truth_bl, truthQ_bl, List.map_cons, List.map_nil, List.length_cons, List.length_nil, List.cons_append, List.nil_append, List.replicate_succ, List.replicate_zero, Nat.reduceAdd, Nat.reduceSub, Nat.zero_add, List.getElem?_cons_zero, List.getElem?_cons_succ, List.set_cons_zero, List.set_cons_succ, bop, setL, Option.map_some, ↓reduceIte, slVar_v, slBor_v, slBor_o, isBox_o, isBox_c, isOpn_o, setIx_o, setIx_c, app_o, seto_l, opnTo_o, opnTo_v, addV_i, addV_t, addV_l, intOp_i, ixV_t, ixV_l, ixV_s, ixV_c, len_t, len_l, len_s, blt_int, blt_abs, blt_tl, blt_tt, blt_ll, blt_lt, blt_max, blt_min, isi_tt, isi_ii, isi_bi, isi_bb, bindQ_nm, bindT_nm, bindQ_tp, partK_n, partK_i, slP_t, slP_l, wipeS, Bool.false_eq_true]
  · unfold lim; omega
theorem told_ok {m n : Nat} {fs : List (List (Nat × Nat) × Bool)} {S : Sto} (h1 : 1 ≤ m) (h2 : m ≤ 3) (h3 : 1 ≤ n) (h4 : n ≤ 6) (hf : fs.length ≤ 5) (hF : ∀ f ∈ fs, FactOk m f) : F_periods_told [.int (m : Nat), .int (n : Nat), factsP fs] S = .ok (.lst (((rowsN m n).filter (agree fs)).map perP)) S := by
  rw [r_periods_told]
  refine run_to ?_
  unfold n_periods_told
  simp only [List.map_cons, List.map_nil, List.length_cons, List.length_nil, List.cons_append, List.nil_append, List.replicate_succ, List.replicate_zero, Nat.reduceAdd, Nat.reduceSub, Nat.zero_add]
  have e1 : F_need_number [.int (m : Nat), .int 1, .int 4] S = .ok .non S := need_number_ok (by omega) (by omega)
  have e2 : F_need_number [.int (n : Nat), .int 1, .int 8] S = .ok .non S := need_number_ok (by omega) (by omega)
  have e3 := facts_ok (n := m) (fs := fs) (S := S) (by omega) hf hF
  have e5 := told_rows (S := S) h1 h2 h3 h4 hf hF
  generalize C.lc [3] .val (.cons (.call F_all_periods "all_periods" (.cons (.var 0) (.cons (.var 1) .nil))) .nil) (.nm 3) n_periods_told_2 (.var 3) = E at e5 ⊢
  simp -implicitDefEqProofs only [exT, exS, ev, evs, bind_ok, to_ok, seq_nx, seq_rt, seq_ex, of_some, truth_bl, truthQ_bl, List.map_cons, List.map_nil, List.length_cons, List.length_nil, List.cons_append, List.nil_append, List.replicate_succ, List.replicate_zero, Nat.reduceAdd, Nat.reduceSub, Nat.zero_add, List.getElem?_cons_zero, List.getElem?_cons_succ, List.set_cons_zero, List.set_cons_succ, bop, setL, Option.map_some, ↓reduceIte, slVar_v, slBor_v, slBor_o, isBox_o, isBox_c, isOpn_o, setIx_o, setIx_c, app_o, seto_l, opnTo_o, opnTo_v, addV_i, addV_t, addV_l, intOp_i, ixV_t, ixV_l, ixV_s, ixV_c, len_t, len_l, len_s, blt_int, blt_abs, blt_tl, blt_tt, blt_ll, blt_lt, blt_max, blt_min, isi_tt, isi_ii, isi_bi, isi_bb, bindQ_nm, bindT_nm, bindQ_tp, partK_n, partK_i, slP_t, slP_l, wipeS, Bool.false_eq_true, e1, e2, e3, e5, Bool.not_true]
def stR (c m n : Nat) (some : PV) (rs : List (List Nat)) (fs : List (List (Nat × Nat) × Bool)) (s4 s5 s6 s9 s10 : Sl) : List Sl :=
  [.val (.cell c), .val (.int (m : Nat)), .val (.int (n : Nat)), .val some, s4, s5, s6, .val (.lst (rs.map perP)), .val (factsP fs), s9, s10]
theorem fact_body {c m n : Nat} {ps : List Nat} {rs : List (List Nat)} {fs : List (List (Nat × Nat) × Bool)} {s4 s9 s10 : Sl} {S : Sto} (hS : Src S c) (R : RowP m ps) (hf : fs.length < 1000) :
    ∃ f S' s9' s10', exT B0 n__law_right_4 (stR c m n (perP ps) rs fs s4 .no .no s9 s10) S = .ok (.nx (stR c m n (perP ps) rs (fs ++ [f]) s4 .no .no s9' s10')) S' ∧ Only c S S' ∧ Src S' c ∧ FactOk m f := by
  have h1 := R.m1
  have h3 := R.m3
  obtain ⟨qs, S1, e1, hO, hS1, hl, hq⟩ := lengths_ok (S := S) (c := c) (n := m) (ps := ps) hS R.len (by omega) (by omega) (fun p hp => by
    obtain ⟨i, hi, e⟩ := mem_gD hp
    have := R.p i (by rw [← R.len]; exact hi)
    omega)
  obtain ⟨r, a, b, hr, hb, e2, hS2⟩ := pick_ok (n := 12) hS1 (by decide) (by decide)
  have hF : ∀ g, FactOk m (qs, g) := fun g => ⟨hl, fun q hq2 => by
    obtain ⟨i, hi, e⟩ := List.getElem_of_mem hq2
    have hd := hq i q (by rw [List.getElem?_eq_getElem hi, e])
    refine ⟨hd.1, hd.2.1, ?_⟩
    have hi2 : i < m := Nat.lt_of_lt_of_eq hi hl
    have hg := (R.p i hi2).2.1
    have h4 : gD ps i * q.2 / m ≤ gD ps i * q.2 := Nat.div_le_self _ _
    have h5 : gD ps i * q.2 ≤ 6 * 6 := Nat.mul_le_mul hg hd.2.1
    have h6 := hd.2.2
    omega⟩
  have e3 := lawT_ok (S := S1) (ps := ps) (qs := qs) (g := true) R (hF true)
  have e2' : F__law_pick [.cell c, .int 12] S1 = _ := e2
  refine ⟨(qs, if r = 0 then !(inT ps qs) else inT ps qs), S1.set c (SrcC a b), .val (rawP qs), .val (.bl (inT ps qs)), ?_, hO.set, hS2, hF _⟩
  unfold n__law_right_4 stR
  have hlim : (fs.map factP).length + 1 ≤ lim := by rw [List.length_map]; unfold lim; omega
  simp -implicitDefEqProofs only [exT, exS, ev, evs, bind_ok, to_ok, seq_nx, of_some, truth_bl, List.getElem?_cons_zero, List.getElem?_cons_succ, List.set_cons_zero, List.set_cons_succ, slVar_v, slBor_v, bop, e1, e3, e2', eqNat0, Option.map_some]
  have key : ∀ (f : List (Nat × Nat) × Bool), addV (factsP fs) (.tup [factP f]) = some (factsP (fs ++ [f])) := fun f => by
    unfold factsP
    rw [addV_t (by simpa using hlim), List.map_append]
    rfl
  by_cases h : r = 0
  · have k2 := key (qs, !(inT ps qs))
    unfold factP at k2
    simp -implicitDefEqProofs only [h, decide_true, ↓reduceIte, bind_ok, to_ok, truth_bl, k2, of_some, seq_nx, List.set_cons_zero, List.set_cons_succ]
  · have k2 := key (qs, inT ps qs)
    unfold factP at k2
    simp -implicitDefEqProofs only [h, decide_false, Bool.false_eq_true, ↓reduceIte, bind_ok, to_ok, truth_bl, k2, of_some, seq_nx, List.set_cons_zero, List.set_cons_succ]
theorem due_cond {c m n : Nat} {some : PV} {ps : List Nat} {rs : List (List Nat)} {fs : List (List (Nat × Nat) × Bool)} {s4 s5 s9 s10 : Sl} {S : Sto} (R : RowP m ps) (hF : ∀ f ∈ fs, FactOk m f) (hf : fs.length < 1000) :
    ev B0 (.bin .eq (.lc [9, 10] .val (.cons (.var 8) .nil) (.tp [9, 10]) n__law_right_1 n__law_right_2) (.lst .nil)) (stR c m n some rs fs s4 s5 (.val (perP ps)) s9 s10) S = .ok (.bl (agree fs ps)) S := by
  have e : ev B0 (.lc [9, 10] .val (.cons (.var 8) .nil) (.tp [9, 10]) n__law_right_1 n__law_right_2) (stR c m n some rs fs s4 s5 (.val (perP ps)) s9 s10) S = .ok (.lst ((fs.filter fun f => !(inT ps f.1 == f.2)).map fun _ => .int 1)) S := by
    refine lc_filter (vs := [factsP fs]) fs factP (fun _ => .int 1) (fun f => !(inT ps f.1 == f.2)) ?_ ?_ (fun f hf => ⟨stR c m n some rs fs s4 s5 (.val (perP ps)) (.val (rawP f.1)) (.val (.bl f.2)), rfl, ?_, fun _ => ?_⟩) ?_
    · unfold stR
      simp -implicitDefEqProofs only [exT, exS, ev, evs, bind_ok, to_ok, seq_nx, seq_rt, seq_ex, of_some, truth_bl, truthQ_bl, List.map_cons, List.map_nil, List.length_cons, List.length_nil, List.cons_append, List.nil_append, List.replicate_succ, List.replicate_zero, Nat.reduceAdd, Nat.reduceSub, Nat.zero_add, List.getElem?_cons_zero, List.getElem?_cons_succ, List.set_cons_zero, List.set_cons_succ, bop, setL, Option.map_some, ↓reduceIte, slVar_v, slBor_v, slBor_o, isBox_o, isBox_c, isOpn_o, setIx_o, setIx_c, app_o, seto_l, opnTo_o, opnTo_v, addV_i, addV_t, addV_l, intOp_i, ixV_t, ixV_l, ixV_s, ixV_c, len_t, len_l, len_s, blt_int, blt_abs, blt_tl, blt_tt, blt_ll, blt_lt, blt_max, blt_min, isi_tt, isi_ii, isi_bi, isi_bb, bindQ_nm, bindT_nm, bindQ_tp, partK_n, partK_i, slP_t, slP_l, wipeS, Bool.false_eq_true]
    · rfl
    · unfold n__law_right_1 stR
      simp -implicitDefEqProofs only [exT, exS, ev, evs, bind_ok, to_ok, seq_nx, seq_rt, seq_ex, of_some, truth_bl, truthQ_bl, List.map_cons, List.map_nil, List.length_cons, List.length_nil, List.cons_append, List.nil_append, List.replicate_succ, List.replicate_zero, Nat.reduceAdd, Nat.reduceSub, Nat.zero_add, List.getElem?_cons_zero, List.getElem?_cons_succ, List.set_cons_zero, List.set_cons_succ, bop, setL, Option.map_some, ↓reduceIte, slVar_v, slBor_v, slBor_o, isBox_o, isBox_c, isOpn_o, setIx_o, setIx_c, app_o, seto_l, opnTo_o, opnTo_v, addV_i, addV_t, addV_l, intOp_i, ixV_t, ixV_l, ixV_s, ixV_c, len_t, len_l, len_s, blt_int, blt_abs, blt_tl, blt_tt, blt_ll, blt_lt, blt_max, blt_min, isi_tt, isi_ii, isi_bi, isi_bb, bindQ_nm, bindT_nm, bindQ_tp, partK_n, partK_i, slP_t, slP_l, wipeS, Bool.false_eq_true]
      rw [lawT_ok (g := f.2) R (hF f hf)]
      simp -implicitDefEqProofs only [exT, exS, ev, evs, bind_ok, to_ok, seq_nx, seq_rt, seq_ex, of_some, truth_bl, truthQ_bl, List.map_cons, List.map_nil, List.length_cons, List.length_nil, List.cons_append, List.nil_append, List.replicate_succ, List.replicate_zero, Nat.reduceAdd, Nat.reduceSub, Nat.zero_add, List.getElem?_cons_zero, List.getElem?_cons_succ, List.set_cons_zero, List.set_cons_succ, bop, setL, Option.map_some, ↓reduceIte, slVar_v, slBor_v, slBor_o, isBox_o, isBox_c, isOpn_o, setIx_o, setIx_c, app_o, seto_l, opnTo_o, opnTo_v, addV_i, addV_t, addV_l, intOp_i, ixV_t, ixV_l, ixV_s, ixV_c, len_t, len_l, len_s, blt_int, blt_abs, blt_tl, blt_tt, blt_ll, blt_lt, blt_max, blt_min, isi_tt, isi_ii, isi_bi, isi_bb, bindQ_nm, bindT_nm, bindQ_tp, partK_n, partK_i, slP_t, slP_l, wipeS, Bool.false_eq_true, eqBl]
    · unfold n__law_right_2
      simp -implicitDefEqProofs only [exT, exS, ev, evs, bind_ok, to_ok, seq_nx, seq_rt, seq_ex, of_some, truth_bl, truthQ_bl, List.map_cons, List.map_nil, List.length_cons, List.length_nil, List.cons_append, List.nil_append, List.replicate_succ, List.replicate_zero, Nat.reduceAdd, Nat.reduceSub, Nat.zero_add, List.getElem?_cons_zero, List.getElem?_cons_succ, List.set_cons_zero, List.set_cons_succ, bop, setL, Option.map_some, ↓reduceIte, slVar_v, slBor_v, slBor_o, isBox_o, isBox_c, isOpn_o, setIx_o, setIx_c, app_o, seto_l, opnTo_o, opnTo_v, addV_i, addV_t, addV_l, intOp_i, ixV_t, ixV_l, ixV_s, ixV_c, len_t, len_l, len_s, blt_int, blt_abs, blt_tl, blt_tt, blt_ll, blt_lt, blt_max, blt_min, isi_tt, isi_ii, isi_bi, isi_bb, bindQ_nm, bindT_nm, bindQ_tp, partK_n, partK_i, slP_t, slP_l, wipeS, Bool.false_eq_true]
    · unfold lim; omega
  generalize C.lc [9, 10] .val (.cons (.var 8) .nil) (.tp [9, 10]) n__law_right_1 n__law_right_2 = E at e ⊢
  simp -implicitDefEqProofs only [exT, exS, ev, evs, bind_ok, to_ok, seq_nx, seq_rt, seq_ex, of_some, truth_bl, truthQ_bl, List.map_cons, List.map_nil, List.length_cons, List.length_nil, List.cons_append, List.nil_append, List.replicate_succ, List.replicate_zero, Nat.reduceAdd, Nat.reduceSub, Nat.zero_add, List.getElem?_cons_zero, List.getElem?_cons_succ, List.set_cons_zero, List.set_cons_succ, bop, setL, Option.map_some, ↓reduceIte, slVar_v, slBor_v, slBor_o, isBox_o, isBox_c, isOpn_o, setIx_o, setIx_c, app_o, seto_l, opnTo_o, opnTo_v, addV_i, addV_t, addV_l, intOp_i, ixV_t, ixV_l, ixV_s, ixV_c, len_t, len_l, len_s, blt_int, blt_abs, blt_tl, blt_tt, blt_ll, blt_lt, blt_max, blt_min, isi_tt, isi_ii, isi_bi, isi_bb, bindQ_nm, bindT_nm, bindQ_tp, partK_n, partK_i, slP_t, slP_l, wipeS, Bool.false_eq_true, e]
  rw [eqNil (fun x hx => by obtain ⟨_, _, e⟩ := List.mem_map.1 hx; subst e; rfl)]
  simp -implicitDefEqProofs only [exT, exS, ev, evs, bind_ok, to_ok, seq_nx, seq_rt, seq_ex, of_some, truth_bl, truthQ_bl, List.map_cons, List.map_nil, List.length_cons, List.length_nil, List.cons_append, List.nil_append, List.replicate_succ, List.replicate_zero, Nat.reduceAdd, Nat.reduceSub, Nat.zero_add, List.getElem?_cons_zero, List.getElem?_cons_succ, List.set_cons_zero, List.set_cons_succ, bop, setL, Option.map_some, ↓reduceIte, slVar_v, slBor_v, slBor_o, isBox_o, isBox_c, isOpn_o, setIx_o, setIx_c, app_o, seto_l, opnTo_o, opnTo_v, addV_i, addV_t, addV_l, intOp_i, ixV_t, ixV_l, ixV_s, ixV_c, len_t, len_l, len_s, blt_int, blt_abs, blt_tl, blt_tt, blt_ll, blt_lt, blt_max, blt_min, isi_tt, isi_ii, isi_bi, isi_bb, bindQ_nm, bindT_nm, bindQ_tp, partK_n, partK_i, slP_t, slP_l, wipeS, Bool.false_eq_true]
  congr 2
  unfold agree
  generalize fs = l
  induction l with
  | nil => rfl
  | cons f l ih =>
    rw [List.all_cons]
    by_cases h : (inT ps f.1 == f.2) = true
    · rw [List.filter_cons_of_neg (by rw [h]; decide), ih, h, Bool.true_and]
    · rw [List.filter_cons_of_pos (by simpa using h)]
      simp only [Bool.not_eq_true] at h
      rw [h]
      rfl
end Pl

end -- PlZ
section -- QlA
namespace Pl
open Ev Lw
theorem eqV_rows {rs : List (List Nat)} : eqV (.lst (rs.map perP)) (.lst (rs.map perP)) = some true := by
  have hi : ∀ ps : List Nat, dataN 59 (perP ps) = true := fun ps => by
    unfold perP dataN
    exact dataNs_all fun x hx => by obtain ⟨_, _, e⟩ := List.mem_map.1 hx; subst e; rfl
  have hd : data (.lst (rs.map perP)) = true := by
    unfold data dataN
    exact dataNs_all fun x hx => by obtain ⟨_, _, e⟩ := List.mem_map.1 hx; subst e; exact hi _
  unfold eqV
  rw [if_pos ⟨hd, hd⟩]
  simp only [eqB]
  rw [eqBs_refl fun x hx => by
    obtain ⟨ps, _, e⟩ := List.mem_map.1 hx
    subst e
    unfold perP
    simp only [eqB]
    exact eqBs_refl fun y hy => by obtain ⟨_, _, e⟩ := List.mem_map.1 hy; subst e; exact eqB_int]
theorem range_row {m : Nat} (h1 : 1 ≤ m) (h2 : m ≤ 3) : ∃ ps, rngT true [.int 1, .int ((m : Int) + 1)] = some (perP ps) ∧ RowP m ps := by
  match m, h1, h2 with
  | 1, _, _ => exact ⟨[1], by rfl, rowP_of (n := 6) (by decide) (by decide) (by decide) (by decide)⟩
  | 2, _, _ => exact ⟨[1, 2], by rfl, rowP_of (n := 6) (by decide) (by decide) (by decide) (by decide)⟩
  | 3, _, _ => exact ⟨[1, 2, 3], by rfl, rowP_of (n := 6) (by decide) (by decide) (by decide) (by decide)⟩
  | n + 4, _, h => omega
/-- drawn periods -/
theorem some_ok {c m n : Nat} {S : Sto} (hS : Src S c) (h1 : 1 ≤ m) (h2 : m ≤ 3) (h4 : n ≤ 6) :
    ∃ ps S', exS B0 (.set 3 (.ifx (.bin .ne (.bor 7) (.lst .nil)) (.call F__law_chosen "_law_chosen" (.cons (.var 0) (.cons (.var 7) .nil))) (.rngv true (.cons (.cst (.int 1)) (.cons (.bin .add (.bor 1) (.cst (.int 1))) .nil))))) [.val (.cell c), .val (.int (m : Nat)), .val (.int (n : Nat)), .no, .no, .no, .no, .val (.lst ((rowsN m n).map perP)), .val (factsP []), .no, .no] S
      = .ok (.nx (stR c m n (perP ps) (rowsN m n) [] .no .no .no .no .no)) S' ∧ Only c S S' ∧ Src S' c ∧ RowP m ps := by
  obtain ⟨hr, hrl⟩ := rows_in h1 h2 h4
  generalize rowsN m n = rs at *
  have hne : eqV (.lst (rs.map perP)) (.lst []) = some (rs.map perP).isEmpty := eqNil fun x hx => by
    obtain ⟨_, _, e⟩ := List.mem_map.1 hx
    subst e
    unfold perP dataN
    exact dataNs_all fun x hx => by obtain ⟨_, _, e⟩ := List.mem_map.1 hx; subst e; rfl
  cases hrs : rs with
  | nil =>
    obtain ⟨ps, e, R⟩ := range_row h1 h2
    refine ⟨ps, S, ?_, Only.refl, hS, R⟩
    subst hrs
    simp only [List.map_nil, List.isEmpty_nil] at hne
    unfold stR
    simp -implicitDefEqProofs only [exS, ev, evs, bind_ok, to_ok, of_some, truth_bl, List.getElem?_cons_zero, List.getElem?_cons_succ, List.set_cons_zero, List.set_cons_succ, slBor_v, slVar_v, bop, hne, Option.map_some, List.map_nil, List.isEmpty_nil, Bool.not_true, Bool.false_eq_true, ↓reduceIte, addV_i, e]
  | cons r0 rs' =>
    rw [← hrs]
    have hl : 0 < (rs.map perP).length := by rw [hrs, List.length_map, List.length_cons]; omega
    obtain ⟨x, a, b, y, hx, hb, e, hS'⟩ := chosen_ok (v := .lst (rs.map perP)) (xs := rs.map perP) hS (fun S => rfl) (fun z h => by cases h) hl (by rw [List.length_map]; omega)
    obtain ⟨ps, hps, rfl⟩ := map_get hx
    refine ⟨ps, S.set c (SrcC a b), ?_, Only.refl.set, hS', hr ps (List.mem_of_getElem? hps)⟩
    have he : (rs.map perP).isEmpty = false := by rw [hrs]; rfl
    unfold stR
    simp -implicitDefEqProofs only [exS, ev, evs, bind_ok, to_ok, of_some, truth_bl, List.getElem?_cons_zero, List.getElem?_cons_succ, List.set_cons_zero, List.set_cons_succ, slBor_v, slVar_v, bop, hne, Option.map_some, he, Bool.not_false, ↓reduceIte, e]
theorem right_ok {c m n : Nat} {S : Sto} (hS : Src S c) (h1 : 1 ≤ m) (h2 : m ≤ 3) (h3 : 1 ≤ n) (h4 : n ≤ 6) : ∃ S', F__law_right [.cell c, .int (m : Nat), .int (n : Nat)] S = .ok (.bl true) S' ∧ (Only c S S' ∧ Src S' c) := by
  obtain ⟨hr, hrl⟩ := rows_in h1 h2 h4
  rw [r__law_right]
  refine run_ex ?_
  unfold n__law_right
  simp only [List.map_cons, List.map_nil, List.length_cons, List.length_nil, List.cons_append, List.nil_append, List.replicate_succ, List.replicate_zero, Nat.reduceAdd, Nat.reduceSub, Nat.zero_add]
  have e1 : exS B0 (.unp (.tp [7, 8]) (.tup (.cons (.call F__law_all_periods "_law_all_periods" (.cons (.var 1) (.cons (.var 2) .nil))) (.cons (.tup .nil) .nil)))) [.val (.cell c), .val (.int (m : Nat)), .val (.int (n : Nat)), .no, .no, .no, .no, .no, .no, .no, .no] S = .ok (.nx [.val (.cell c), .val (.int (m : Nat)), .val (.int (n : Nat)), .no, .no, .no, .no, .val (.lst ((rowsN m n).map perP)), .val (factsP []), .no, .no]) S := by
    have := lrows h1 h2 h3 h4 S
    simp -implicitDefEqProofs only [exT, exS, ev, evs, bind_ok, to_ok, seq_nx, seq_rt, seq_ex, of_some, truth_bl, truthQ_bl, List.map_cons, List.map_nil, List.length_cons, List.length_nil, List.cons_append, List.nil_append, List.replicate_succ, List.replicate_zero, Nat.reduceAdd, Nat.reduceSub, Nat.zero_add, List.getElem?_cons_zero, List.getElem?_cons_succ, List.set_cons_zero, List.set_cons_succ, bop, setL, Option.map_some, ↓reduceIte, slVar_v, slBor_v, slBor_o, isBox_o, isBox_c, isOpn_o, setIx_o, setIx_c, app_o, seto_l, opnTo_o, opnTo_v, addV_i, addV_t, addV_l, intOp_i, ixV_t, ixV_l, ixV_s, ixV_c, len_t, len_l, len_s, blt_int, blt_abs, blt_tl, blt_tt, blt_ll, blt_lt, blt_max, blt_min, isi_tt, isi_ii, isi_bi, isi_bb, bindQ_nm, bindT_nm, bindQ_tp, partK_n, partK_i, slP_t, slP_l, wipeS, Bool.false_eq_true, this]
    rfl
  obtain ⟨ps, S2, e2, hO2, hS2, R⟩ := some_ok (n := n) hS h1 h2 h4
  rw [exT_seq e1, exT_seq e2]
  obtain ⟨r, a, b, hr3, hb3, e3, hS3⟩ := pick_ok (n := 6) hS2 (by decide) (by decide)
  have e3' : F__law_pick [.cell c, .int 6] S2 = _ := e3
  generalize hrs : rowsN m n = rs at *
  obtain ⟨ρ4, S4, e4, hO4, hS4, fs, s4, s9, s10, hfl, hF, hρ⟩ := for_ok (A := B0) (k := .rng) (src := .cons (.call F__law_pick "_law_pick" (.cons (.var 0) (.cons (.cst (.int 6)) .nil))) .nil) (tg := .nm 4) (b := n__law_right_4) (vs := [.int (r : Nat)]) (xs := (List.range r).map natI) (ρ := stR c m n (perP ps) rs [] .no .no .no .no .no) (S := S2) (S1 := S2.set c (SrcC a b))
    (fun k ρ S' => Only c S S' ∧ Src S' c ∧ ∃ fs s4 s9 s10, fs.length = k ∧ (∀ f ∈ fs, FactOk m f) ∧ ρ = stR c m n (perP ps) rs fs s4 .no .no s9 s10)
    (by
      unfold stR
      simp -implicitDefEqProofs only [exT, exS, ev, evs, bind_ok, to_ok, seq_nx, seq_rt, seq_ex, of_some, truth_bl, truthQ_bl, List.map_cons, List.map_nil, List.length_cons, List.length_nil, List.cons_append, List.nil_append, List.replicate_succ, List.replicate_zero, Nat.reduceAdd, Nat.reduceSub, Nat.zero_add, List.getElem?_cons_zero, List.getElem?_cons_succ, List.set_cons_zero, List.set_cons_succ, bop, setL, Option.map_some, ↓reduceIte, slVar_v, slBor_v, slBor_o, isBox_o, isBox_c, isOpn_o, setIx_o, setIx_c, app_o, seto_l, opnTo_o, opnTo_v, addV_i, addV_t, addV_l, intOp_i, ixV_t, ixV_l, ixV_s, ixV_c, len_t, len_l, len_s, blt_int, blt_abs, blt_tl, blt_tt, blt_ll, blt_lt, blt_max, blt_min, isi_tt, isi_ii, isi_bi, isi_bb, bindQ_nm, bindT_nm, bindQ_tp, partK_n, partK_i, slP_t, slP_l, wipeS, Bool.false_eq_true, e3']) (rngI (by omega)) ⟨hO2.set, hS3, [], .no, .no, .no, rfl, fun f hf => (by cases hf), rfl⟩ (fun k x ρ S' hk hI => by
      obtain ⟨hO, hS', fs, s4, s9, s10, hfl, hF, hρ⟩ := hI
      obtain ⟨hkr, hx⟩ := rng_get hk
      subst hρ hx
      obtain ⟨f, S'', s9', s10', e, hO'', hS'', hf⟩ := fact_body (c := c) (m := m) (n := n) (ps := ps) (rs := rs) (fs := fs) (s4 := .val (natI k)) (s9 := s9) (s10 := s10) hS' R (by omega)
      refine ⟨_, _, S'', rfl, e, hO.trans hO'', hS'', fs ++ [f], .val (natI k), s9', s10', by rw [List.length_append, hfl]; rfl, fun g hg => ?_, rfl⟩
      rcases List.mem_append.1 hg with h | h
      · exact hF g h
      · rw [List.mem_singleton] at h; subst h; exact hf)
  subst hρ
  rw [List.length_map, List.length_range] at hfl
  rw [exT_seq e4]
  have e5 : exS B0 (.seto 5 (.lst .nil)) (stR c m n (perP ps) rs fs s4 .no .no s9 s10) S4 = .ok (.nx (stR c m n (perP ps) rs fs s4 (.opn (((rs.take 0).filter (agree fs)).map perP)) .no s9 s10)) S4 := by
    unfold stR
    simp -implicitDefEqProofs only [exT, exS, ev, evs, bind_ok, to_ok, seq_nx, seq_rt, seq_ex, of_some, truth_bl, truthQ_bl, List.map_cons, List.map_nil, List.length_cons, List.length_nil, List.cons_append, List.nil_append, List.replicate_succ, List.replicate_zero, Nat.reduceAdd, Nat.reduceSub, Nat.zero_add, List.getElem?_cons_zero, List.getElem?_cons_succ, List.set_cons_zero, List.set_cons_succ, bop, setL, Option.map_some, ↓reduceIte, slVar_v, slBor_v, slBor_o, isBox_o, isBox_c, isOpn_o, setIx_o, setIx_c, app_o, seto_l, opnTo_o, opnTo_v, addV_i, addV_t, addV_l, intOp_i, ixV_t, ixV_l, ixV_s, ixV_c, len_t, len_l, len_s, blt_int, blt_abs, blt_tl, blt_tt, blt_ll, blt_lt, blt_max, blt_min, isi_tt, isi_ii, isi_bi, isi_bb, bindQ_nm, bindT_nm, bindQ_tp, partK_n, partK_i, slP_t, slP_l, wipeS, Bool.false_eq_true]
    rfl
  rw [exT_seq e5]
  obtain ⟨ρ6, S6, e6, hS6, s6, hρ⟩ := for_ok (A := B0) (k := .val) (src := .cons (.var 7) .nil) (tg := .nm 6) (b := n__law_right_3) (vs := [.lst (rs.map perP)]) (xs := rs.map perP) (ρ := stR c m n (perP ps) rs fs s4 (.opn (((rs.take 0).filter (agree fs)).map perP)) .no s9 s10) (S := S4) (S1 := S4)
    (fun k ρ S' => S' = S4 ∧ ∃ s6, ρ = stR c m n (perP ps) rs fs s4 (.opn (((rs.take k).filter (agree fs)).map perP)) s6 s9 s10)
    (by
      unfold stR
      simp -implicitDefEqProofs only [exT, exS, ev, evs, bind_ok, to_ok, seq_nx, seq_rt, seq_ex, of_some, truth_bl, truthQ_bl, List.map_cons, List.map_nil, List.length_cons, List.length_nil, List.cons_append, List.nil_append, List.replicate_succ, List.replicate_zero, Nat.reduceAdd, Nat.reduceSub, Nat.zero_add, List.getElem?_cons_zero, List.getElem?_cons_succ, List.set_cons_zero, List.set_cons_succ, bop, setL, Option.map_some, ↓reduceIte, slVar_v, slBor_v, slBor_o, isBox_o, isBox_c, isOpn_o, setIx_o, setIx_c, app_o, seto_l, opnTo_o, opnTo_v, addV_i, addV_t, addV_l, intOp_i, ixV_t, ixV_l, ixV_s, ixV_c, len_t, len_l, len_s, blt_int, blt_abs, blt_tl, blt_tt, blt_ll, blt_lt, blt_max, blt_min, isi_tt, isi_ii, isi_bi, isi_bb, bindQ_nm, bindT_nm, bindQ_tp, partK_n, partK_i, slP_t, slP_l, wipeS, Bool.false_eq_true]) (by rfl) ⟨rfl, .no, rfl⟩ (fun k x ρ S' hk hI => by
      obtain ⟨hS6, s6, hρ⟩ := hI
      obtain ⟨row, hkr, hx⟩ := map_get hk
      subst hS6 hρ hx
      have hmem := List.mem_of_getElem? hkr
      have hk2 := (List.getElem?_eq_some_iff.1 hkr).1
      have ht : rs.take (k + 1) = rs.take k ++ [row] := by
        rw [List.take_add_one, hkr]; rfl
      refine ⟨stR c m n (perP ps) rs fs s4 (.opn (((rs.take k).filter (agree fs)).map perP)) (.val (perP row)) s9 s10, stR c m n (perP ps) rs fs s4 (.opn (((rs.take (k + 1)).filter (agree fs)).map perP)) (.val (perP row)) s9 s10, S', rfl, ?_, rfl, _, rfl⟩
      unfold n__law_right_3
      rw [exT, ite_ok (due_cond (hr row hmem) hF (by omega)), ht, List.filter_append, List.map_append]
      have hlim : (((rs.take k).filter (agree fs)).map perP).length < lim := by
        rw [List.length_map]
        have := List.length_filter_le (agree fs) (rs.take k)
        rw [List.length_take] at this
        unfold lim
        omega
      by_cases h : agree fs row = true
      · rw [if_pos h, List.filter_cons_of_pos h]
        unfold stR
        simp -implicitDefEqProofs only [exT, exS, ev, evs, bind_ok, to_ok, of_some, seq_nx, List.getElem?_cons_zero, List.getElem?_cons_succ, List.set_cons_zero, List.set_cons_succ, slBor_v, slVar_v, isOpn_o, ↓reduceIte, app_o hlim, List.filter_nil, List.map_cons, List.map_nil]
      · rw [if_neg h, List.filter_cons_of_neg h]
        unfold stR
        simp -implicitDefEqProofs only [exT, seq_nx, List.filter_nil, List.map_nil, List.append_nil])
  subst hS6 hρ
  rw [List.length_map, List.take_length] at e6
  rw [exT_seq e6]
  have e7 := told_ok (S := S6) (fs := fs) h1 h2 h3 h4 (by omega) hF
  rw [hrs] at e7
  refine ⟨S6, ?_, hO4, hS4⟩
  unfold stR
  simp -implicitDefEqProofs only [exT, exS, ev, evs, bind_ok, to_ok, seq_nx, seq_rt, seq_ex, of_some, truth_bl, truthQ_bl, List.map_cons, List.map_nil, List.length_cons, List.length_nil, List.cons_append, List.nil_append, List.replicate_succ, List.replicate_zero, Nat.reduceAdd, Nat.reduceSub, Nat.zero_add, List.getElem?_cons_zero, List.getElem?_cons_succ, List.set_cons_zero, List.set_cons_succ, bop, setL, Option.map_some, ↓reduceIte, slVar_v, slBor_v, slBor_o, isBox_o, isBox_c, isOpn_o, setIx_o, setIx_c, app_o, seto_l, opnTo_o, opnTo_v, addV_i, addV_t, addV_l, intOp_i, ixV_t, ixV_l, ixV_s, ixV_c, len_t, len_l, len_s, blt_int, blt_abs, blt_tl, blt_tt, blt_ll, blt_lt, blt_max, blt_min, isi_tt, isi_ii, isi_bi, isi_bb, bindQ_nm, bindT_nm, bindQ_tp, partK_n, partK_i, slP_t, slP_l, wipeS, Bool.false_eq_true, e7, eqV_rows]
theorem turn_ok {c : Nat} {ns : PV} {k : Nat} {s3 : Sl} {S : Sto} (hS : Src S c) : ∃ S', exT B0 n_law_2 [.val ns, .val (.int (k : Nat)), .val (.cell c), s3] S = .ok (.nx [.val ns, .val (.int (k : Nat)), .val (.cell c), s3]) S' ∧ Src S' c := by
  obtain ⟨r, a, b, hr, hb, e1, hS1⟩ := pick_ok (n := 3) hS (by decide) (by decide)
  obtain ⟨r2, a2, b2, hr2, hb2, e2, hS2⟩ := pick_ok (n := 6) hS1 (by decide) (by decide)
  obtain ⟨S3, e3, _, hS3⟩ := right_ok (m := 1 + r) (n := 1 + r2) hS2 (by omega) (by omega) (by omega) (by omega)
  have e1' : F__law_pick [.cell c, .int 3] S = _ := e1
  have e2' : F__law_pick [.cell c, .int 6] (S.set c (SrcC a b)) = _ := e2
  refine ⟨S3, ?_, hS3⟩
  unfold n_law_2
  simp -implicitDefEqProofs only [exT, exS, ev, evs, bind_ok, to_ok, seq_nx, seq_rt, seq_ex, of_some, truth_bl, truthQ_bl, List.map_cons, List.map_nil, List.length_cons, List.length_nil, List.cons_append, List.nil_append, List.replicate_succ, List.replicate_zero, Nat.reduceAdd, Nat.reduceSub, Nat.zero_add, List.getElem?_cons_zero, List.getElem?_cons_succ, List.set_cons_zero, List.set_cons_succ, bop, setL, Option.map_some, ↓reduceIte, slVar_v, slBor_v, slBor_o, isBox_o, isBox_c, isOpn_o, setIx_o, setIx_c, app_o, seto_l, opnTo_o, opnTo_v, addV_i, addV_t, addV_l, intOp_i, ixV_t, ixV_l, ixV_s, ixV_c, len_t, len_l, len_s, blt_int, blt_abs, blt_tl, blt_tt, blt_ll, blt_lt, blt_max, blt_min, isi_tt, isi_ii, isi_bi, isi_bb, bindQ_nm, bindT_nm, bindQ_tp, partK_n, partK_i, slP_t, slP_l, wipeS, Bool.false_eq_true, e1', e2']
  rw [show (1 : Int) + (r : Int) = ((1 + r : Nat) : Int) by omega, show (1 : Int) + (r2 : Int) = ((1 + r2 : Nat) : Int) by omega, e3]
  simp -implicitDefEqProofs only [exT, exS, ev, evs, bind_ok, to_ok, seq_nx, seq_rt, seq_ex, of_some, truth_bl, truthQ_bl, List.map_cons, List.map_nil, List.length_cons, List.length_nil, List.cons_append, List.nil_append, List.replicate_succ, List.replicate_zero, Nat.reduceAdd, Nat.reduceSub, Nat.zero_add, List.getElem?_cons_zero, List.getElem?_cons_succ, List.set_cons_zero, List.set_cons_succ, bop, setL, Option.map_some, ↓reduceIte, slVar_v, slBor_v, slBor_o, isBox_o, isBox_c, isOpn_o, setIx_o, setIx_c, app_o, seto_l, opnTo_o, opnTo_v, addV_i, addV_t, addV_l, intOp_i, ixV_t, ixV_l, ixV_s, ixV_c, len_t, len_l, len_s, blt_int, blt_abs, blt_tl, blt_tt, blt_ll, blt_lt, blt_max, blt_min, isi_tt, isi_ii, isi_bi, isi_bb, bindQ_nm, bindT_nm, bindQ_tp, partK_n, partK_i, slP_t, slP_l, wipeS, Bool.false_eq_true, Bool.not_true]
theorem cell_ok {ns : List Int} {k : Nat} {s2 s3 : Sl} {S : Sto} (hk : k < 1000) (hb : ∀ z ∈ ns, z.natAbs.log2 < 2000000) : ∃ S' s2' s3', exT B0 n_law_3 [.val (.scr ns), .val (.int (k : Nat)), s2, s3] S = .ok (.nx [.val (.scr ns), .val (.int (k : Nat)), s2', s3']) S' := by
  obtain ⟨a, b, hb, e1⟩ := source_ok (S := S) (ns := ns) (k := k) hk hb
  have hS : Src (S ++ [SrcC a b]) S.length := ⟨a, b, List.getElem?_concat_length, hb⟩
  have e2 : exS B0 (.set 2 (.call F__law_source "_law_source" (.cons (.var 0) (.cons (.var 1) .nil)))) [.val (.scr ns), .val (.int (k : Nat)), s2, s3] S = .ok (.nx [.val (.scr ns), .val (.int (k : Nat)), .val (.cell S.length), s3]) (S ++ [SrcC a b]) := by
    simp -implicitDefEqProofs only [exT, exS, ev, evs, bind_ok, to_ok, seq_nx, seq_rt, seq_ex, of_some, truth_bl, truthQ_bl, List.map_cons, List.map_nil, List.length_cons, List.length_nil, List.cons_append, List.nil_append, List.replicate_succ, List.replicate_zero, Nat.reduceAdd, Nat.reduceSub, Nat.zero_add, List.getElem?_cons_zero, List.getElem?_cons_succ, List.set_cons_zero, List.set_cons_succ, bop, setL, Option.map_some, ↓reduceIte, slVar_v, slBor_v, slBor_o, isBox_o, isBox_c, isOpn_o, setIx_o, setIx_c, app_o, seto_l, opnTo_o, opnTo_v, addV_i, addV_t, addV_l, intOp_i, ixV_t, ixV_l, ixV_s, ixV_c, len_t, len_l, len_s, blt_int, blt_abs, blt_tl, blt_tt, blt_ll, blt_lt, blt_max, blt_min, isi_tt, isi_ii, isi_bi, isi_bb, bindQ_nm, bindT_nm, bindQ_tp, partK_n, partK_i, slP_t, slP_l, wipeS, Bool.false_eq_true, e1]
  unfold n_law_3
  rw [exT_seq e2]
  obtain ⟨ρ3, S3, e3, hS3, s3', hρ⟩ := for_ok (A := B0) (k := .rng) (src := .cons (.cst (.int 3)) .nil) (tg := .nm 3) (b := n_law_2) (vs := [.int (3 : Nat)]) (xs := (List.range 3).map natI) (ρ := [.val (.scr ns), .val (.int (k : Nat)), .val (.cell S.length), s3]) (S := S ++ [SrcC a b]) (S1 := S ++ [SrcC a b])
    (fun _ ρ S' => Src S' S.length ∧ ∃ s3, ρ = [.val (.scr ns), .val (.int (k : Nat)), .val (.cell S.length), s3])
    (by
      simp -implicitDefEqProofs only [exT, exS, ev, evs, bind_ok, to_ok, seq_nx, seq_rt, seq_ex, of_some, truth_bl, truthQ_bl, List.map_cons, List.map_nil, List.length_cons, List.length_nil, List.cons_append, List.nil_append, List.replicate_succ, List.replicate_zero, Nat.reduceAdd, Nat.reduceSub, Nat.zero_add, List.getElem?_cons_zero, List.getElem?_cons_succ, List.set_cons_zero, List.set_cons_succ, bop, setL, Option.map_some, ↓reduceIte, slVar_v, slBor_v, slBor_o, isBox_o, isBox_c, isOpn_o, setIx_o, setIx_c, app_o, seto_l, opnTo_o, opnTo_v, addV_i, addV_t, addV_l, intOp_i, ixV_t, ixV_l, ixV_s, ixV_c, len_t, len_l, len_s, blt_int, blt_abs, blt_tl, blt_tt, blt_ll, blt_lt, blt_max, blt_min, isi_tt, isi_ii, isi_bi, isi_bb, bindQ_nm, bindT_nm, bindQ_tp, partK_n, partK_i, slP_t, slP_l, wipeS, Bool.false_eq_true]
      rfl) (rngI (by decide)) ⟨hS, _, rfl⟩ (fun j x ρ S' hj hI => by
      obtain ⟨hS', s3, hρ⟩ := hI
      subst hρ
      obtain ⟨S'', e, hS''⟩ := turn_ok (ns := .scr ns) (k := k) (s3 := .val x) hS'
      exact ⟨_, _, _, rfl, e, hS'', _, rfl⟩)
  subst hρ
  rw [exT_seq e3, exT]
  exact ⟨_, _, _, rfl⟩
theorem law_ok {ns : List Int} (hl : ns.length ≤ 63) (hb : ∀ z ∈ ns, z.natAbs.log2 < 2000000) : ∃ S', F_law [.scr ns] [] = .ok (.bl true) S' := by
  rw [r_law]
  have key : ∃ S', exT B0 n_law ([PV.scr ns].map .val ++ List.replicate (4 - [PV.scr ns].length) .no) [] = .ok (.rt (.bl true)) S' ∧ True := by
    unfold n_law
    simp only [List.map_cons, List.map_nil, List.length_cons, List.length_nil, List.cons_append, List.nil_append, List.replicate_succ, List.replicate_zero, Nat.reduceAdd, Nat.reduceSub, Nat.zero_add]
    obtain ⟨n, hn, e0⟩ : ∃ n : Nat, n < 1000 ∧ evs B0 (.cons (.blt .max (.cons (.cst (.int 4)) (.cons (.blt .min (.cons (.cst (.int 9)) (.cons (.blt .len (.cons (.bor 0) .nil)) .nil))) .nil))) .nil) [.val (.scr ns), .no, .no, .no] [] = .ok [.int (n : Nat)] [] := by
      refine ⟨max 4 (min 9 ns.length), by omega, ?_⟩
      simp -implicitDefEqProofs only [exT, exS, ev, evs, bind_ok, to_ok, seq_nx, seq_rt, seq_ex, of_some, truth_bl, truthQ_bl, List.map_cons, List.map_nil, List.length_cons, List.length_nil, List.cons_append, List.nil_append, List.replicate_succ, List.replicate_zero, Nat.reduceAdd, Nat.reduceSub, Nat.zero_add, List.getElem?_cons_zero, List.getElem?_cons_succ, List.set_cons_zero, List.set_cons_succ, bop, setL, Option.map_some, ↓reduceIte, slVar_v, slBor_v, slBor_o, isBox_o, isBox_c, isOpn_o, setIx_o, setIx_c, app_o, seto_l, opnTo_o, opnTo_v, addV_i, addV_t, addV_l, intOp_i, ixV_t, ixV_l, ixV_s, ixV_c, len_t, len_l, len_s, blt_int, blt_abs, blt_tl, blt_tt, blt_ll, blt_lt, blt_max, blt_min, isi_tt, isi_ii, isi_bi, isi_bb, bindQ_nm, bindT_nm, bindQ_tp, partK_n, partK_i, slP_t, slP_l, wipeS, Bool.false_eq_true]
      congr 3
      split <;> split <;> omega
    obtain ⟨ρ3, S3, e3, s1, s2, s3, hρ⟩ := for_ok (A := B0) (k := .rng) (src := .cons (.blt .max (.cons (.cst (.int 4)) (.cons (.blt .min (.cons (.cst (.int 9)) (.cons (.blt .len (.cons (.bor 0) .nil)) .nil))) .nil))) .nil) (tg := .nm 1) (b := n_law_3) (vs := [.int (n : Nat)]) (xs := (List.range n).map natI) (ρ := [.val (.scr ns), .no, .no, .no]) (S := []) (S1 := [])
      (fun _ ρ S' => ∃ s1 s2 s3, ρ = [.val (.scr ns), s1, s2, s3]) e0 (rngI (by omega)) ⟨_, _, _, rfl⟩ (fun j x ρ S' hj hI => by
        obtain ⟨s1, s2, s3, hρ⟩ := hI
        obtain ⟨hjn, hx⟩ := rng_get hj
        subst hρ hx
        obtain ⟨S'', s2', s3', e⟩ := cell_ok (ns := ns) (k := j) (s2 := s2) (s3 := s3) (S := S') (by omega) hb
        exact ⟨_, _, _, rfl, e, _, _, _, rfl⟩)
    subst hρ
    rw [exT_seq e3]
    have e4 : ev B0 n_law_1 [.val (.scr ns), s1, s2, s3] S3 = .ok (.bl (true && true)) S3 := by
      unfold n_law_1
      refine and_ok ?_ fun _ => ?_
      · simp -implicitDefEqProofs only [exT, exS, ev, evs, bind_ok, to_ok, seq_nx, seq_rt, seq_ex, of_some, truth_bl, truthQ_bl, List.map_cons, List.map_nil, List.length_cons, List.length_nil, List.cons_append, List.nil_append, List.replicate_succ, List.replicate_zero, Nat.reduceAdd, Nat.reduceSub, Nat.zero_add, List.getElem?_cons_zero, List.getElem?_cons_succ, List.set_cons_zero, List.set_cons_succ, bop, setL, Option.map_some, ↓reduceIte, slVar_v, slBor_v, slBor_o, isBox_o, isBox_c, isOpn_o, setIx_o, setIx_c, app_o, seto_l, opnTo_o, opnTo_v, addV_i, addV_t, addV_l, intOp_i, ixV_t, ixV_l, ixV_s, ixV_c, len_t, len_l, len_s, blt_int, blt_abs, blt_tl, blt_tt, blt_ll, blt_lt, blt_max, blt_min, isi_tt, isi_ii, isi_bi, isi_bb, bindQ_nm, bindT_nm, bindQ_tp, partK_n, partK_i, slP_t, slP_l, wipeS, Bool.false_eq_true, written S3]
      · simp -implicitDefEqProofs only [exT, exS, ev, evs, bind_ok, to_ok, seq_nx, seq_rt, seq_ex, of_some, truth_bl, truthQ_bl, List.map_cons, List.map_nil, List.length_cons, List.length_nil, List.cons_append, List.nil_append, List.replicate_succ, List.replicate_zero, Nat.reduceAdd, Nat.reduceSub, Nat.zero_add, List.getElem?_cons_zero, List.getElem?_cons_succ, List.set_cons_zero, List.set_cons_succ, bop, setL, Option.map_some, ↓reduceIte, slVar_v, slBor_v, slBor_o, isBox_o, isBox_c, isOpn_o, setIx_o, setIx_c, app_o, seto_l, opnTo_o, opnTo_v, addV_i, addV_t, addV_l, intOp_i, ixV_t, ixV_l, ixV_s, ixV_c, len_t, len_l, len_s, blt_int, blt_abs, blt_tl, blt_tt, blt_ll, blt_lt, blt_max, blt_min, isi_tt, isi_ii, isi_bi, isi_bb, bindQ_nm, bindT_nm, bindQ_tp, partK_n, partK_i, slP_t, slP_l, wipeS, Bool.false_eq_true, refusals S3]
    refine ⟨S3, ?_, trivial⟩
    rw [exT, exS, e4]
    rfl
  obtain ⟨S', e, _⟩ := run_ex key
  exact ⟨S', e⟩
end Pl

end -- QlA
section -- EndK51
namespace Pl
theorem bits_of {z : Int} (h : PySem.Builtin.Int.intBits z ≤ 1048576) : z.natAbs.log2 < 2000000 := by
  unfold PySem.Builtin.Int.intBits at h
  split at h
  · rename_i e
    have e2 : z = 0 := eq_of_beq e
    rw [e2]; decide
  · omega
end Pl
theorem PySem.Challenge.cw_sureshares_k51_whole_periods_told_back_holds : PySem.Challenge.rw_sureshares_k51_whole_periods_told_back.Holds :=
  Ch.row_holds fun ns hl hb => Pl.law_ok hl fun z hz => Pl.bits_of (hb z hz)

end -- EndK51
