import PyProof.Rows.All
import Wide.All
import OpenK.AllK
import Wide.FinOn
import HandS.ForMost
import KE.LtData
import HandS.Exc
import HandS.Flow
import HandS.Evl
import HandS.Text
import HandS.Walk
import HandS.CallSlots
import HandS.Defaults
import HandS.IsInst
import HandS.ExcOwn
import HandS.HeadHook2
import HandS.ExcValue
import HandS.Lambda
import HandS.TupAny
import HandS.Deep
import KE.KExcSuper
import KE.KExcMake
import HandS.ExcSuper
import KE.KExcIs
import HandS.ExcField
import HandS.RaiseMore
import HandS.Ends
import HandS.HeadEnd
import HandS.FStr
import HandS.Style
import HandS.EndTab
import KE.KStateDown
import HandS.More
import HandS.Words
import HandS.WordsExc
import HandS.Head0
import HandS.Head1
import HandS.Head2
import PySem.Challenge.RW_allticked_k03_whole_formulas_compared
set_option Elab.async false
set_option linter.all false
set_option maxRecDepth 100000
set_option maxHeartbeats 0
set_option autoImplicit false
/-! A small language over plain data, its evaluator. Frozen data are trees (D); what may still be changed stands in a store (Mu). -/
namespace At
open PySem

inductive D where
  | non | bl (b : Bool) | int (i : Int) | str (x : List Nat) | lst (xs : List D) | tup (xs : List D) | dic (kvs : List (D × D)) | obj (c : Nat) (fs : List (Nat × D)) | scr (ns : List Int)

inductive U where
  | v (d : D) | p (k : Nat)

inductive M where
  | lst (us : List U) | obj (c : Nat) (fs : List (Nat × U)) | fz (d : D)

abbrev Mu := List M
abbrev Ro := List (Option U)

inductive P where
  | ok (d : D) | ex (c : Nat) (fs : List (Nat × D)) | no

inductive R (α : Type) where
  | ok (a : α) (m : Mu) | ex (c : Nat) (fs : List (Nat × D)) (m : Mu) | no

def R.bnd {α β : Type} (r : R α) (f : α → Mu → R β) : R β := match r with
  | .ok a m => f a m
  | .ex c fs m => .ex c fs m
  | .no => .no

def Res {α : Type} (o : Option α) (m : Mu) : R α := match o with
  | some a => .ok a m
  | none => .no

/-! ### data -/
def lim : Nat := 1000000

mutual
def plain : D → Bool
  | .lst xs => plains xs
  | .tup xs => plains xs
  | .dic _ => false
  | .obj _ _ => false
  | .scr _ => false
  | _ => true
def plains : List D → Bool
  | [] => true
  | d :: ds => plain d && plains ds
end

mutual
def eqD : D → D → Bool
  | .non, .non => true
  | .bl a, .bl b => a == b
  | .bl a, .int j => (if a then 1 else 0) == j
  | .int i, .bl b => i == (if b then 1 else 0)
  | .int i, .int j => i == j
  | .str x, .str y => x == y
  | .lst xs, .lst ys => eqDs xs ys
  | .tup xs, .tup ys => eqDs xs ys
  | _, _ => false
def eqDs : List D → List D → Bool
  | [], [] => true
  | x :: xs, y :: ys => eqD x y && eqDs xs ys
  | _, _ => false
end

mutual
def deep : D → Nat
  | .lst xs => deeps xs + 1
  | .tup xs => deeps xs + 1
  | _ => 0
def deeps : List D → Nat
  | [] => 0
  | d :: ds => max (deep d) (deeps ds)
end

/-- data that == may be asked of -/
def askable (d : D) : Bool := plain d && decide (deep d ≤ 60)

/-- what is seen of a value -/
def plainU : List U → Option (List D)
  | [] => some []
  | .v d :: us => (plainU us).map (d :: ·)
  | .p _ :: _ => none
def plainF : List (Nat × U) → Option (List (Nat × D))
  | [] => some []
  | (f, .v d) :: us => (plainF us).map ((f, d) :: ·)
  | (_, .p _) :: _ => none
def seeM : M → Option D
  | .lst us => (plainU us).map D.lst
  | .obj c fs => (plainF fs).map (D.obj c)
  | .fz d => some d
def see (m : Mu) : U → Option D
  | .v d => some d
  | .p k => match m[k]? with
    | some x => seeM x
    | none => none
def sees (m : Mu) : List U → Option (List D)
  | [] => some []
  | u :: us => match see m u with
    | some d => (sees m us).map (d :: ·)
    | none => none

/-! ### operations -/
inductive Op where
  | add | sub | mul | fdiv | mod | pow
inductive Cm where
  | eq | ne | lt | le | gt | ge | in_ | nin
inductive Un where
  | len | int | str | tuple | list | all | any | sum | neg | isN | notN

def op2 : Op → D → D → Option D
  | .add, .int a, .int b => some (.int (a + b))
  | .add, .str x, .str y => if x.length + y.length ≤ lim then some (.str (x ++ y)) else none
  | .add, .lst x, .lst y => if x.length + y.length ≤ lim then some (.lst (x ++ y)) else none
  | .add, .tup x, .tup y => if x.length + y.length ≤ lim then some (.tup (x ++ y)) else none
  | .sub, .int a, .int b => some (.int (a - b))
  | .mul, .int a, .int b => if a.natAbs < 2 ^ 60 ∨ b.natAbs < 2 ^ 60 then some (.int (a * b)) else none
  | .mul, .lst x, .int k => if k.natAbs ≤ lim ∧ x.length * k.toNat ≤ lim then some (.lst (List.replicate k.toNat x).flatten) else none
  | .fdiv, .int a, .int b => if b ≠ 0 ∧ b.natAbs < 1073741824 then some (.int (a.fdiv b)) else none
  | .mod, .int a, .int b => if b ≠ 0 then some (.int (a.fmod b)) else none
  | .pow, .int a, .int b => if 0 ≤ b ∧ b ≤ 1000000 ∧ a.natAbs < 2 ^ 60 then some (.int (a ^ b.toNat)) else none
  | _, _, _ => none

mutual
def toPy : D → PyData
  | .non => .none
  | .bl b => .bool b
  | .int i => .int i
  | .str x => .str ⟨x.toArray⟩
  | .lst xs => .list (toPys xs)
  | .tup xs => .tuple (toPys xs)
  | _ => .dict []
def toPys : List D → List PyData
  | [] => []
  | d :: ds => toPy d :: toPys ds
end
/-- x < y, for data of one shape -/
def ltD (x y : D) : Option Bool := if (askable x && (askable y && PySem.W.alike (toPy x) (toPy y))) = true then some (PySem.W.dataLt (toPy x) (toPy y)) else none
/-- x in xs: the items, each == x -/
def inD (x : D) (xs : List D) : Bool := xs.any fun y => eqD y x
def cmp2 : Cm → D → D → Option Bool
  | .eq, x, y => if askable x && askable y then some (eqD x y) else none
  | .ne, x, y => if askable x && askable y then some (!eqD x y) else none
  | .lt, .int a, .int b => some (decide (a < b))
  | .lt, .tup x, .tup y => ltD (.tup x) (.tup y)
  | .lt, .lst x, .lst y => ltD (.lst x) (.lst y)
  | .lt, .str x, .str y => ltD (.str x) (.str y)
  | .le, .int a, .int b => some (decide (a ≤ b))
  | .gt, .int a, .int b => some (decide (b < a))
  | .ge, .int a, .int b => some (decide (b ≤ a))
  | .in_, .str [c], .str y => some (decide (c ∈ y))
  | .nin, .str [c], .str y => some (!decide (c ∈ y))
  | .in_, x, .lst ys => if askable x && askable (.lst ys) then some (inD x ys) else none
  | .nin, x, .lst ys => if askable x && askable (.lst ys) then some (!inD x ys) else none
  | .in_, x, .tup ys => if askable x && askable (.tup ys) then some (inD x ys) else none
  | .nin, x, .tup ys => if askable x && askable (.tup ys) then some (!inD x ys) else none
  | _, _, _ => none

def bools : List D → Option (List Bool)
  | [] => some []
  | .bl b :: r => (bools r).map (b :: ·)
  | _ :: _ => none
def intsD : List D → Option (List Int)
  | [] => some []
  | .int b :: r => (intsD r).map (b :: ·)
  | _ :: _ => none
/-- the digits of a number, as Python writes it -/
def digits (i : Int) : List Nat := (PySem.Str.ofString (toString i)).cps.toList
def un1 : Un → D → Option D
  | .len, .str x => some (.int x.length)
  | .len, .lst x => some (.int x.length)
  | .len, .tup x => some (.int x.length)
  | .len, .scr x => some (.int x.length)
  | .int, .int i => some (.int i)
  | .int, .bl b => some (.int (if b then 1 else 0))
  | .str, .int i => if i.natAbs < 2 ^ 100 ∧ (digits i).length ≤ lim ∧ (digits i).all (· < 0x110000) = true then some (.str (digits i)) else none
  | .str, .str x => some (.str x)
  | .tuple, .lst x => some (.tup x)
  | .tuple, .tup x => some (.tup x)
  | .list, .lst x => some (.lst x)
  | .list, .tup x => some (.lst x)
  | .all, .lst x => (bools x).map fun bs => .bl (bs.all id)
  | .any, .lst x => (bools x).map fun bs => .bl (bs.any id)
  | .sum, .lst x => (intsD x).map fun bs => .int bs.sum
  | .neg, .int i => some (.int (-i))
  | .isN, x => some (.bl (match x with | .non => true | _ => false))
  | .notN, x => some (.bl (match x with | .non => false | _ => true))
  | _, _ => none

def atD {α : Type} (xs : List α) (i : Int) : Option α := L2.atI xs i
def idx2 : D → D → Option D
  | .lst xs, .int i => atD xs i
  | .tup xs, .int i => atD xs i
  | .str x, .int i => (atD x i).map fun c => .str [c]
  | .scr x, .int i => (atD x i).map fun c => .int c
  | _, _ => none
def cutD {α : Type} (xs : List α) (lo hi : Option Int) : List α := (xs.drop (HT.sIx xs.length 0 lo)).take (HT.sIx xs.length xs.length hi - HT.sIx xs.length 0 lo)
def slc2 : D → Option Int → Option Int → Option D
  | .lst xs, lo, hi => some (.lst (cutD xs lo hi))
  | .tup xs, lo, hi => some (.tup (cutD xs lo hi))
  | .str xs, lo, hi => some (.str (cutD xs lo hi))
  | _, _, _ => none

/-! ### the language -/
inductive Tg where
  | nm (i : Nat) | tp (a : Tg) | nil | cons (a r : Tg)

inductive E where
  | var (i : Nat) | cst (d : D) | nil | cons (a r : E)
  | op (o : Op) (a b : E) | cmp (c : Cm) (a b : E) | chain (c c' : Cm) (a b z : E) | un (o : Un) (a : E)
  | and_ (a b : E) | or_ (a b : E) | not_ (a : E) | ifx (t a b : E)
  | tup (a : E) | lst (a : E) | new (a : E) | frz (a : E)
  | idx (a i : E) | slc (a lo hi : E) | opt (a : E)
  | call (f : Nat) (a : E) | callm (f : Nat) (a : E) | calln (f : Nat) (a : E) | make (c : Nat) (a : E) | meth (g : Nat) (a r : E) | attr (a : E) (f : Nat)
  | isi (a : E) (t : List Nat) | count (a b : E) | pop0 (a : E) | pop (a : E) | join (s a : E) | fst (a : E) | rev (a : E) | eqo (g : Nat) (a b : E)
  | lc (vs : List Nat) (t : Tg) (it c e : E)
  | seq (a : E) | enum (a : E) | rng (a : E) | rng2 (a b : E) | zip (a b : E)
  | exf (f : Nat) | hdl (c : Nat) (h r : E) | lamt (hs e : E)

inductive S where
  | skip | seq (s t : S) | asg (t : Tg) (e : E) | par (i j : Nat) (a b : E) | exp (e : E)
  | app (a e : E) | ext (a e : E) | setI (a i e : E) | setF (a : E) (f : Nat) (e : E)
  | ret (e : E) | retN | ifs (t : E) (s u : S) | for_ (t : Tg) (it : E) (s : S) | whl (t : E) (s : S) | brk | ctn
  | rai (c : Nat) (a : E) | tryR (s : S) (c i : Nat) (h : E)

structure CE where
  /-- the defs: values and the store in, a value and the store out -/
  fm : Nat → List U → Mu → R U
  /-- classes: a new object -/
  mkr : Nat → List D → P
  /-- a class's methods -/
  mt : Nat → Nat → Option Nat
  isa : Nat → Nat → Option Bool
  fld : Nat → Nat → Bool
/-- a def that takes data and gives data -/
def pureP (r : R U) : P := match r with
  | .ok u m => match see m u with
    | some d => .ok d
    | none => .no
  | .ex c fs _ => .ex c fs
  | .no => .no
/-- a def that takes data and gives a new list -/
def newP (r : R U) : Option (R (List D)) := match r with
  | .ok (.p k) m => match m[k]? with
    | some (.lst us) => (plainU us).map fun ds => .ok ds []
    | _ => none
  | .ex c fs _ => some (.ex c fs [])
  | _ => none
def CE.fn (C : CE) (i : Nat) (ds : List D) : P := pureP (C.fm i (ds.map U.v) [])
/-- a new object of a class by its __init__ f -/
def mkP (f : List U → Mu → R U) (c : Nat) (ds : List D) : P := match f (.p 0 :: ds.map U.v) [.obj c []] with
  | .ok (.v .non) m => match see m (.p 0) with
    | some (.obj c' fs) => .ok (.obj c' fs)
    | _ => .no
  | .ex c fs _ => .ex c fs
  | _ => .no

/-- the kind of a datum; own classes behind 20 -/
def kindD : D → Option Nat
  | .non => some 0 | .bl _ => some 1 | .int _ => some 2 | .str _ => some 3 | .lst _ => some 4 | .tup _ => some 5 | .obj c _ => some (20 + c) | _ => none
def isiK (C : CE) (k : Nat) : List Nat → Option Bool
  | [] => some false
  | t :: r => match C.isa k t with
    | some true => some true
    | some false => isiK C k r
    | none => none
def isiD (C : CE) (ts : List Nat) (d : D) : Option Bool := match kindD d with
  | some k => isiK C k ts
  | none => none

mutual
def bindT : Tg → U → Ro → Option Ro
  | .nm i, u, ρ => some (ρ.set i (some u))
  | .tp a, .v (.tup ds), ρ => bindTs a ds ρ
  | _, _, _ => none
def bindTs : Tg → List D → Ro → Option Ro
  | .nil, [], ρ => some ρ
  | .cons a r, d :: ds, ρ => match bindT a (.v d) ρ with
    | some ρ' => bindTs r ds ρ'
    | none => none
  | _, _, _ => none
end
def wipeR (ρ : Ro) : List Nat → Ro
  | [] => ρ
  | v :: vs => (wipeR ρ vs).set v none

def fromP (m : Mu) : P → R U
  | .ok d => .ok (.v d) m
  | .ex c fs => .ex c fs m
  | .no => .no
def frzU (m : Mu) : U → R U
  | .v d => .ok (.v d) m
  | .p k => match m[k]? with
    | some x => match seeM x with
      | some d => .ok (.v d) (m.set k (.fz d))
      | none => .no
    | none => .no
/-- the items of a comprehension; no error leaves it -/
def lcL (f : U → Mu → R (Option D)) : List U → Mu → R (List D)
  | [], m => .ok [] m
  | u :: us, m => match f u m with
    | .ok o m1 => match lcL f us m1 with
      | .ok ds m2 => .ok (match o with | some d => d :: ds | none => ds) m2
      | _ => .no
    | _ => .no
def numbered : Nat → List D → List D
  | _, [] => []
  | n, d :: ds => .tup [.int n, d] :: numbered (n + 1) ds
def itemsD : D → Option (List D)
  | .lst xs => some xs
  | .tup xs => some xs
  | .str xs => some (xs.map fun c => .str [c])
  | _ => none
def rangeD (lo : Int) : Nat → List D
  | 0 => []
  | n + 1 => .int lo :: rangeD (lo + 1) n
def joinS (s : List Nat) : List (List Nat) → List Nat
  | [] => []
  | [x] => x
  | x :: y :: r => x ++ s ++ joinS s (y :: r)
def texts : List D → Option (List (List Nat))
  | [] => some []
  | .str x :: r => (texts r).map (x :: ·)
  | _ :: _ => none

def joinD (t : List Nat) : D → Option D
  | .lst xs => (texts xs).bind fun ts => if (ts.map List.length).sum + ts.length * t.length ≤ lim then some (.str (joinS t ts)) else none
  | _ => none
def revD : D → Option D
  | .lst xs => some (.lst xs.reverse)
  | _ => none
/-- the place of a list in the store -/
def lstAt (m : Mu) : U → Option Nat
  | .p k => match m[k]? with
    | some (.lst _) => some k
    | _ => none
  | _ => none
def fE : Option D → E
  | some d => .cst d
  | none => .nil
/-- an error's fields put into a handler's value -/
def sbE (fs : List (Nat × D)) : E → E
  | .exf f => fE (fs.lookup f)
  | .tup a => .tup (sbE fs a)
  | .cons a r => .cons (sbE fs a) (sbE fs r)
  | e => e
mutual
/-- what a handler returns, by the error's fields -/
def hvE (fs : List (Nat × D)) : E → Option D
  | .cst d => some d
  | .exf f => fs.lookup f
  | .tup a => (hvL fs a).bind fun ds => if ds.length ≤ lim then some (.tup ds) else none
  | _ => none
def hvL (fs : List (Nat × D)) : E → Option (List D)
  | .nil => some []
  | .cons a r => match hvE fs a, hvL fs r with
    | some d, some ds => some (d :: ds)
    | _, _ => none
  | _ => none
end
/-- the first handler of an error's class -/
def pickH (C : CE) (c : Nat) : E → Option E
  | .hdl k h r => match C.isa (20 + c) (20 + k) with
    | some true => some h
    | some false => pickH C c r
    | none => none
  | _ => none
mutual
def ev (C : CE) : E → Ro → Mu → R U
  | .var i, ρ, m => match ρ[i]? with
    | some (some u) => .ok u m
    | _ => .no
  | .cst d, _, m => .ok (.v d) m
  | .op o a b, ρ, m => (ev C a ρ m).bnd fun x m => (ev C b ρ m).bnd fun y m => match see m x, see m y with
    | some d, some e => Res ((op2 o d e).map U.v) m
    | _, _ => .no
  | .cmp c a b, ρ, m => (ev C a ρ m).bnd fun x m => (ev C b ρ m).bnd fun y m => match see m x, see m y with
    | some d, some e => Res (((cmp2 c d e).map D.bl).map U.v) m
    | _, _ => .no
  | .chain c c' a b z, ρ, m => (ev C a ρ m).bnd fun x m => (ev C b ρ m).bnd fun y m => match see m x, see m y with
    | some d, some e => match cmp2 c d e with
      | some true => (ev C z ρ m).bnd fun w m => match see m y, see m w with
        | some e, some g => Res (((cmp2 c' e g).map D.bl).map U.v) m
        | _, _ => .no
      | some false => .ok (.v (.bl false)) m
      | none => .no
    | _, _ => .no
  | .un o a, ρ, m => (ev C a ρ m).bnd fun x m => match see m x with
    | some d => Res ((un1 o d).map U.v) m
    | none => .no
  | .and_ a b, ρ, m => (ev C a ρ m).bnd fun x m => match x with
    | .v (.bl true) => ev C b ρ m
    | .v (.bl false) => .ok (.v (.bl false)) m
    | _ => .no
  | .or_ a b, ρ, m => (ev C a ρ m).bnd fun x m => match x with
    | .v (.bl true) => .ok (.v (.bl true)) m
    | .v (.bl false) => ev C b ρ m
    | _ => .no
  | .not_ a, ρ, m => (ev C a ρ m).bnd fun x m => match x with
    | .v (.bl b) => .ok (.v (.bl !b)) m
    | _ => .no
  | .ifx t a b, ρ, m => (ev C t ρ m).bnd fun x m => match x with
    | .v (.bl true) => ev C a ρ m
    | .v (.bl false) => ev C b ρ m
    | _ => .no
  | .tup a, ρ, m => (evs C a ρ m).bnd fun us m => match plainU us with
    | some ds => if ds.length ≤ lim then .ok (.v (.tup ds)) m else .no
    | none => .no
  | .lst a, ρ, m => (evs C a ρ m).bnd fun us m => match plainU us with
    | some ds => if ds.length ≤ lim then .ok (.v (.lst ds)) m else .no
    | none => .no
  | .new a, ρ, m => (evs C a ρ m).bnd fun us m => if us.length ≤ lim then .ok (.p m.length) (m ++ [.lst us]) else .no
  | .frz a, ρ, m => (ev C a ρ m).bnd fun x m => frzU m x
  | .idx a i, ρ, m => (ev C a ρ m).bnd fun x m => (ev C i ρ m).bnd fun y m => match see m x, see m y with
    | some d, some e => Res ((idx2 d e).map U.v) m
    | _, _ => .no
  | .slc a lo hi, ρ, m => (ev C a ρ m).bnd fun x m => (evo C lo ρ m).bnd fun i m => (evo C hi ρ m).bnd fun j m => match see m x with
    | some d => Res ((slc2 d i j).map U.v) m
    | none => .no
  | .call f a, ρ, m => (evs C a ρ m).bnd fun us m => match plainU us with
    | some ds => fromP m (C.fn f ds)
    | none => .no
  | .callm f a, ρ, m => (evs C a ρ m).bnd fun us m => C.fm f us m
  | .calln f a, ρ, m => (evs C a ρ m).bnd fun us m => match plainU us with
    | some ds => match newP (C.fm f (ds.map U.v) []) with
      | some (.ok xs _) => .ok (.p m.length) (m ++ [.lst (xs.map U.v)])
      | some (.ex c fs _) => .ex c fs m
      | _ => .no
    | none => .no
  | .make c a, ρ, m => (evs C a ρ m).bnd fun us m => match plainU us with
    | some ds => fromP m (C.mkr c ds)
    | none => .no
  | .meth g a r, ρ, m => (ev C a ρ m).bnd fun x m => match x with
    | .v (.obj c fs) => match C.mt c g with
      | some f => (evs C r ρ m).bnd fun us m => match plainU us with
        | some ds => fromP m (C.fn f (.obj c fs :: ds))
        | none => .no
      | none => .no
    | _ => .no
  | .attr a f, ρ, m => (ev C a ρ m).bnd fun x m => match see m x with
    | some (.obj c fs) => if C.fld c f = true then Res ((fs.lookup f).map U.v) m else .no
    | _ => .no
  | .isi a t, ρ, m => (ev C a ρ m).bnd fun x m => match see m x with
    | some d => Res (((isiD C t d).map D.bl).map U.v) m
    | none => .no
  | .count a b, ρ, m => (ev C a ρ m).bnd fun x m => match x with
    | .v (.lst xs) => (ev C b ρ m).bnd fun y m => match y with
      | .v e => if askable (.lst xs) && askable e then .ok (.v (.int (xs.countP fun y => eqD y e : Nat))) m else .no
      | .p _ => .no
    | _ => .no
  | .pop0 a, ρ, m => (ev C a ρ m).bnd fun x m => match lstAt m x with
    | some k => match m[k]? with
      | some (.lst us) => match us with
        | u :: r => .ok u (m.set k (.lst r))
        | [] => .no
      | _ => .no
    | none => .no
  | .pop a, ρ, m => (ev C a ρ m).bnd fun x m => match lstAt m x with
    | some k => match m[k]? with
      | some (.lst us) => match us.getLast? with
        | some u => .ok u (m.set k (.lst us.dropLast))
        | none => .no
      | _ => .no
    | none => .no
  | .join s a, ρ, m => (ev C s ρ m).bnd fun x m => match x with
    | .v (.str t) => (ev C a ρ m).bnd fun y m => match see m y with
      | some d => Res ((joinD t d).map U.v) m
      | none => .no
    | _ => .no
  | .fst a, ρ, m => (evj C a [] ρ m).bnd fun l m => .ok (.v (.str l)) m
  | .eqo g a b, ρ, m => (ev C a ρ m).bnd fun x m => (ev C b ρ m).bnd fun y m => match x with
    | .v (.obj c fs) => match y with
      | .v d => match C.mt c g with
        | some f => match kindD d with
          | some k => match C.isa k (20 + c) with
            | some _ => fromP m (C.fn f [.obj c fs, d])
            | none => .no
          | none => .no
        | none => .no
      | .p _ => .no
    | _ => .no
  | .rev a, ρ, m => (ev C a ρ m).bnd fun x m => match see m x with
    | some d => Res ((revD d).map U.v) m
    | none => .no
  | .lamt hs e, ρ, m => match ev C e ρ m with
    | .ok u m' => .ok u m'
    | .ex c fs m' => match pickH C c hs with
      | some h => Res ((hvE fs h).map U.v) m'
      | none => .no
    | .no => .no
  | .lc vs t it c e, ρ, m => (evi C it ρ m).bnd fun ds m => (lcL (fun u m => match bindT t u (wipeR ρ vs) with
      | some ρ' => (ev C c ρ' m).bnd fun b m => match b with
        | .v (.bl true) => (ev C e ρ' m).bnd fun z m => match z with
          | .v d => .ok (some d) m
          | .p _ => .no
        | .v (.bl false) => .ok none m
        | _ => .no
      | none => .no) (ds.map U.v) m).bnd fun xs m => .ok (.v (.lst xs)) m
  | _, _, _ => .no
def evs (C : CE) : E → Ro → Mu → R (List U)
  | .nil, _, m => .ok [] m
  | .cons a r, ρ, m => (ev C a ρ m).bnd fun u m => (evs C r ρ m).bnd fun us m => .ok (u :: us) m
  | _, _, _ => .no
def evo (C : CE) : E → Ro → Mu → R (Option Int)
  | .nil, _, m => .ok none m
  | .opt a, ρ, m => (ev C a ρ m).bnd fun u m => match u with
    | .v (.int i) => .ok (some i) m
    | _ => .no
  | _, _, _ => .no
def evj (C : CE) : E → List Nat → Ro → Mu → R (List Nat)
  | .nil, acc, _, m => .ok acc m
  | .cons a r, acc, ρ, m => (ev C a ρ m).bnd fun u m => match u with
    | .v (.str x) => if (acc ++ x).length ≤ lim then evj C r (acc ++ x) ρ m else .no
    | _ => .no
  | _, _, _, _ => .no
def evi (C : CE) : E → Ro → Mu → R (List D)
  | .enum a, ρ, m => (ev C a ρ m).bnd fun u m => match u with
    | .v d => match d with
      | .lst xs => .ok (numbered 0 xs) m
      | _ => .no
    | _ => .no
  | .rng a, ρ, m => (ev C a ρ m).bnd fun u m => match u with
    | .v (.int i) => if i.natAbs ≤ lim then .ok (rangeD 0 i.toNat) m else .no
    | _ => .no
  | .rng2 a b, ρ, m => (ev C a ρ m).bnd fun u m => (ev C b ρ m).bnd fun w m => match u, w with
    | .v (.int i), .v (.int j) => if i.natAbs ≤ lim ∧ j.natAbs ≤ lim then .ok (rangeD i (j - i).toNat) m else .no
    | _, _ => .no
  | .zip a b, ρ, m => (ev C a ρ m).bnd fun u m => (ev C b ρ m).bnd fun w m => match u, w with
    | .v (.lst xs), .v (.lst ys) => .ok ((xs.zip ys).map fun q => .tup [q.1, q.2]) m
    | _, _ => .no
  | .seq a, ρ, m => (ev C a ρ m).bnd fun u m => match u with
    | .v d => Res (itemsD d) m
    | _ => .no
  | _, _, _ => .no
end

/-! ### statements -/
inductive O where
  | nx (ρ : Ro) (m : Mu) | rt (u : U) (m : Mu) | bk (ρ : Ro) (m : Mu) | ct (ρ : Ro) (m : Mu) | ex (c : Nat) (fs : List (Nat × D)) (ρ : Ro) (m : Mu) | no

def R.out {α : Type} (r : R α) (ρ : Ro) (f : α → Mu → O) : O := match r with
  | .ok a m => f a m
  | .ex c fs m => .ex c fs ρ m
  | .no => .no
def O.seq (o : O) (f : Ro → Mu → O) : O := match o with
  | .nx ρ m => f ρ m
  | o => o
def forL (f : D → Ro → Mu → O) : List D → Ro → Mu → O
  | [], ρ, m => .nx ρ m
  | d :: ds, ρ, m => match f d ρ m with
    | .nx ρ' m' => forL f ds ρ' m'
    | .ct ρ' m' => forL f ds ρ' m'
    | .bk ρ' m' => .nx ρ' m'
    | o => o
def whlL (t : Ro → Mu → R U) (f : Ro → Mu → O) : Nat → Ro → Mu → O
  | 0, _, _ => .no
  | n + 1, ρ, m => match t ρ m with
    | .ok u m => match u with
      | .v (.bl true) => match f ρ m with
        | .nx ρ' m' => whlL t f n ρ' m'
        | .ct ρ' m' => whlL t f n ρ' m'
        | .bk ρ' m' => .nx ρ' m'
        | o => o
      | .v (.bl false) => .nx ρ m
      | _ => .no
    | .ex c fs m => .ex c fs ρ m
    | .no => .no
def putF (fs : List (Nat × U)) (f : Nat) (u : U) : List (Nat × U) := match fs with
  | [] => [(f, u)]
  | (g, w) :: r => if g = f then (g, u) :: r else (g, w) :: putF r f u
/-- the turns of a while at most -/
def turns : Nat := 1000000

def xs (C : CE) : S → Ro → Mu → O
  | .skip, ρ, m => .nx ρ m
  | .seq s t, ρ, m => (xs C s ρ m).seq fun ρ m => xs C t ρ m
  | .asg t e, ρ, m => (ev C e ρ m).out ρ fun u m => match bindT t u ρ with
    | some ρ' => .nx ρ' m
    | none => .no
  | .par i j a b, ρ, m => (ev C a ρ m).out ρ fun u m => (ev C b ρ m).out ρ fun w m => .nx ((ρ.set i (some u)).set j (some w)) m
  | .exp e, ρ, m => (ev C e ρ m).out ρ fun _ m => .nx ρ m
  | .app a e, ρ, m => (ev C a ρ m).out ρ fun u m => match lstAt m u with
    | some k => (ev C e ρ m).out ρ fun w m => match m[k]? with
      | some (.lst us) => if us.length < lim then .nx ρ (m.set k (.lst (us ++ [w]))) else .no
      | _ => .no
    | none => .no
  | .ext a e, ρ, m => (ev C a ρ m).out ρ fun u m => match lstAt m u with
    | some k => (ev C e ρ m).out ρ fun w m => match m[k]?, see m w with
      | some (.lst us), some (.lst ds) => if us.length + ds.length ≤ lim then .nx ρ (m.set k (.lst (us ++ ds.map U.v))) else .no
      | _, _ => .no
    | none => .no
  | .setI a i e, ρ, m => (ev C e ρ m).out ρ fun w m => (ev C a ρ m).out ρ fun u m => (ev C i ρ m).out ρ fun j m => match u, j with
    | .p k, .v (.int i) => match m[k]? with
      | some (.lst us) => match L2.ixN us.length i with
        | some n => .nx ρ (m.set k (.lst (us.set n w)))
        | none => .no
      | _ => .no
    | _, _ => .no
  | .setF a f e, ρ, m => (ev C e ρ m).out ρ fun w m => (ev C a ρ m).out ρ fun u m => match u with
    | .p k => match m[k]? with
      | some (.obj c fs) => if C.fld c f = true ∧ fs.length < 100 then .nx ρ (m.set k (.obj c (putF fs f w))) else .no
      | _ => .no
    | _ => .no
  | .ret e, ρ, m => (ev C e ρ m).out ρ fun u m => .rt u m
  | .retN, _, m => .rt (.v .non) m
  | .ifs t s u, ρ, m => (ev C t ρ m).out ρ fun x m => match x with
    | .v (.bl true) => xs C s ρ m
    | .v (.bl false) => xs C u ρ m
    | _ => .no
  | .for_ t it s, ρ, m => (evi C it ρ m).out ρ fun ds m => forL (fun d ρ m => match bindT t (.v d) ρ with
      | some ρ' => xs C s ρ' m
      | none => .no) ds ρ m
  | .whl t s, ρ, m => whlL (fun ρ m => ev C t ρ m) (fun ρ m => xs C s ρ m) turns ρ m
  | .brk, ρ, m => .bk ρ m
  | .ctn, ρ, m => .ct ρ m
  | .rai c a, ρ, m => (evs C a ρ m).out ρ fun us m => match plainU us with
    | some ds => match C.mkr c ds with
      | .ok (.obj c' fs) => .ex c' fs ρ m
      | _ => .no
    | none => .no
  | .tryR s c i h, ρ, m => match xs C s ρ m with
    | .ex c' fs ρ' m' => match C.isa (20 + c') (20 + c) with
      | some true => match ev C (sbE fs h) (ρ'.set i none) m' with
        | .ok u m => .rt u m
        | _ => .no
      | some false => .ex c' fs ρ' m'
      | none => .no
    | o => o

/-- the body of a def: its slots, its parameters -/
structure Fn where
  ar : Nat
  slots : Nat
  body : S
def startU (n : Nat) (us : List U) : Ro := us.map some ++ List.replicate (n - us.length) none
def outR (o : O) : R U := match o with
  | .nx _ m => .ok (.v .non) m
  | .rt u m => .ok u m
  | .ex c fs _ m => .ex c fs m
  | _ => .no
def Fn.run (C : CE) (f : Fn) (us : List U) (m : Mu) : R U := if us.length = f.ar then outR (xs C f.body (startU f.slots us) m) else .no
end At

/-! What a value of the heap stands for. -/
namespace At
open PySem L2 Evl
abbrev Fg := PySem.W.Frag

/-- names of classes and of fields -/
structure Tb where
  cn : Nat → Str
  fn : Nat → Str
  /-- an error's class -/
  ix : Nat → Bool
  /-- methods' names -/
  mn : Nat → Str := fun _ => ""
  /-- the tables of code objects -/
  tabs : List (Addr × Str) := []
def cl (K : Fg) (T : Tb) (c : Nat) : Addr := He.ga K (T.cn c)

/-- an exception that is held as a value: its object, its own dict at d -/
def XO (cls : Value) (d : Addr) (a : Addr) : HO := .ext fun h => ∃ (oe : Obj) (vs : Array Value), h.get? a = some oe ∧ Zc cls (some d) oe ∧ oe.data = .fields vs ∧ vs[1]? = some .none ∧ vs[2]? = some .none ∧ 4 < vs.size

mutual
inductive Rp (K : Fg) (T : Tb) (B : Hp) : V → D → Prop
  | non : Rp K T B .non .non
  | bl (b : Bool) : Rp K T B (.bl b) (.bl b)
  | int (i : Int) : Rp K T B (.int i) (.int i)
  | str (x : Str) : x.length ≤ lim → PyData.strOk x = true → Rp K T B (.str x) (.str x.cps.toList)
  | scr {a : Addr} {ns : List Int} : SqL K B a (ns.map V.int) → Rp K T B (.ref a) (.scr ns)
  | lst {a : Addr} {xs : List V} {ds : List D} : B a = some (.lst xs) → xs.length ≤ lim → Rps K T B xs ds → Rp K T B (.ref a) (.lst ds)
  | tup {a : Addr} {xs : List V} {ds : List D} : SqT K B a xs → xs.length ≤ lim → Rps K T B xs ds → Rp K T B (.ref a) (.tup ds)
  | obj {a dx : Addr} {c : Nat} {fv : List (Str × V)} {fs : List (Nat × D)} : T.ix c = false → B a = some (.ins (cl K T c) dx fv) → B dx = some (.own a) → Rpf K T B fv fs → Rp K T B (.ref a) (.obj c fs)
  | exc {a dx : Addr} {c : Nat} {fv : List (Str × V)} {fs : List (Nat × D)} : T.ix c = true → B a = some (XO (.ref (cl K T c)) dx a) → B dx = some (.xd fv) → Rpf K T B fv fs → Rp K T B (.ref a) (.obj c fs)
  | ex0 {a : Addr} {c : Nat} : T.ix c = true → B a = some (ExO (.ref (cl K T c)) a) → Rp K T B (.ref a) (.obj c [])
inductive Rps (K : Fg) (T : Tb) (B : Hp) : List V → List D → Prop
  | nil : Rps K T B [] []
  | cons {v : V} {vs : List V} {d : D} {ds : List D} : Rp K T B v d → Rps K T B vs ds → Rps K T B (v :: vs) (d :: ds)
inductive Rpf (K : Fg) (T : Tb) (B : Hp) : List (Str × V) → List (Nat × D) → Prop
  | nil : Rpf K T B [] []
  | cons {f : Nat} {v : V} {vs : List (Str × V)} {d : D} {ds : List (Nat × D)} : Rp K T B v d → Rpf K T B vs ds → Rpf K T B ((T.fn f, v) :: vs) ((f, d) :: ds)
end

section
variable {K : Fg} {T : Tb} {B B' : Hp}
mutual
theorem Rp.mono (e : Ex B B') : ∀ {d : D} {v : V}, Rp K T B v d → Rp K T B' v d
  | _, _, .non => .non
  | _, _, .bl b => .bl b
  | _, _, .int i => .int i
  | _, _, .str x h o => .str x h o
  | _, _, .scr h => .scr (ex_l e h)
  | _, _, .lst h z r => .lst (e _ _ h) z (Rps.mono e r)
  | _, _, .tup h z r => .tup (ex_t e h) z (Rps.mono e r)
  | _, _, .obj i h g r => .obj i (e _ _ h) (e _ _ g) (Rpf.mono e r)
  | _, _, .exc i h g r => .exc i (e _ _ h) (e _ _ g) (Rpf.mono e r)
  | _, _, .ex0 i h => .ex0 i (e _ _ h)
theorem Rps.mono (e : Ex B B') : ∀ {ds : List D} {vs : List V}, Rps K T B vs ds → Rps K T B' vs ds
  | _, _, .nil => .nil
  | _, _, .cons r q => .cons (Rp.mono e r) (Rps.mono e q)
theorem Rpf.mono (e : Ex B B') : ∀ {ds : List (Nat × D)} {vs : List (Str × V)}, Rpf K T B vs ds → Rpf K T B' vs ds
  | _, _, .nil => .nil
  | _, _, .cons r q => .cons (Rp.mono e r) (Rpf.mono e q)
end
theorem Rps.len : ∀ {vs : List V} {ds : List D}, Rps K T B vs ds → vs.length = ds.length
  | _, _, .nil => rfl
  | _, _, .cons _ q => by rw [List.length_cons, List.length_cons, Rps.len q]
theorem Rps.get : ∀ {vs : List V} {ds : List D} {i : Nat} {d : D}, Rps K T B vs ds → ds[i]? = some d → ∃ v, vs[i]? = some v ∧ Rp K T B v d
  | _, _, _, _, .nil, e => by simp at e
  | _, _, 0, _, .cons r _, e => by simp at e; subst e; exact ⟨_, rfl, r⟩
  | _, _, i + 1, _, .cons _ q, e => by
    obtain ⟨v, h1, h2⟩ := Rps.get (i := i) q (by simpa using e)
    exact ⟨v, by simpa using h1, h2⟩
theorem Rps.app : ∀ {vs ws : List V} {ds es : List D}, Rps K T B vs ds → Rps K T B ws es → Rps K T B (vs ++ ws) (ds ++ es)
  | _, _, _, _, .nil, q => q
  | _, _, _, _, .cons r t, q => .cons r (Rps.app t q)
theorem Rps.take : ∀ {vs : List V} {ds : List D} (n : Nat), Rps K T B vs ds → Rps K T B (vs.take n) (ds.take n)
  | _, _, 0, _ => .nil
  | _, _, _ + 1, .nil => .nil
  | _, _, n + 1, .cons r q => .cons r (Rps.take n q)
theorem Rps.drop : ∀ {vs : List V} {ds : List D} (n : Nat), Rps K T B vs ds → Rps K T B (vs.drop n) (ds.drop n)
  | _, _, 0, r => r
  | _, _, _ + 1, .nil => .nil
  | _, _, n + 1, .cons _ q => Rps.drop n q
theorem Rps.set {v : V} {d : D} (r : Rp K T B v d) : ∀ {vs : List V} {ds : List D} (n : Nat), Rps K T B vs ds → Rps K T B (vs.set n v) (ds.set n d)
  | _, _, _, .nil => .nil
  | _, _, 0, .cons _ q => .cons r q
  | _, _, n + 1, .cons x q => .cons x (Rps.set r n q)
end

/-! ### values that may point into the store -/
def Ru (K : Fg) (T : Tb) (n : Nat) (π : Nat → Addr) (B : Hp) : V → U → Prop
  | v, .v d => Rp K T B v d
  | v, .p k => k < n ∧ v = .ref (π k)
abbrev Rus (K : Fg) (T : Tb) (n : Nat) (π : Nat → Addr) (B : Hp) : List V → List U → Prop := Paired (Ru K T n π B)
abbrev Ruf (K : Fg) (T : Tb) (n : Nat) (π : Nat → Addr) (B : Hp) : List (Str × V) → List (Nat × U) → Prop := Paired fun p q => p.1 = T.fn q.1 ∧ Ru K T n π B p.2 q.2

def Cell (K : Fg) (T : Tb) (n : Nat) (π : Nat → Addr) (B H : Hp) (a : Addr) : M → Prop
  | .lst us => B a = none ∧ ∃ xs, H a = some (.lst xs) ∧ xs.length ≤ lim ∧ Rus K T n π B xs us
  | .obj c fs => B a = none ∧ T.ix c = false ∧ ∃ dx fv, H a = some (.ins (cl K T c) dx fv) ∧ H dx = some (.own a) ∧ Ruf K T n π B fv fs
  | .fz d => Rp K T B (.ref a) d

structure Sto (K : Fg) (T : Tb) (π : Nat → Addr) (B H : Hp) (m : Mu) : Prop where
  ex : Ex B H
  inj : ∀ i j, i < m.length → j < m.length → π i = π j → i = j
  dom : ∀ k, k < m.length → ∃ o, H (π k) = some o ∧ (∀ y, o ≠ .own y) ∧ ∀ ps, o ≠ .tbl ps
  cell : ∀ k x, m[k]? = some x → Cell K T m.length π B H (π k) x
  tb : LamX.Tabs T.tabs H
  nt : ∀ a ps, B a ≠ some (.tbl ps)

structure Step (K : Fg) (T : Tb) (π : Nat → Addr) (B H : Hp) (m : Mu) (π' : Nat → Addr) (B' H' : Hp) (m' : Mu) : Prop where
  st : Sto K T π' B' H' m'
  pi : ∀ k, k < m.length → π' k = π k
  len : m.length ≤ m'.length
  ex : Ex B B'
  keep : ∀ a o, H a = some o → (∀ ps, o ≠ .tbl ps) → (∀ k, k < m.length → a ≠ π k) → H' a = some o
  new : ∀ k, m.length ≤ k → k < m'.length → ∀ o, H (π' k) = some o → ∃ ps, o = .tbl ps
  noab : ∀ a o, H a = some o → (∀ ps, o ≠ .tbl ps) → (∀ k, k < m.length → a ≠ π k) → (∀ y, o ≠ .own y) → B' a = B a

section
variable {K : Fg} {T : Tb} {n n' : Nat} {π π' π2 : Nat → Addr} {B B' B2 H H' H2 : Hp} {m m' m2 : Mu} {v : V} {u : U}
theorem Ru.mono (hn : n ≤ n') (hp : ∀ k, k < n → π' k = π k) (e : Ex B B') (r : Ru K T n π B v u) : Ru K T n' π' B' v u := by
  cases u with
  | v d => exact Rp.mono e r
  | p k =>
    obtain ⟨h1, h2⟩ := r
    exact ⟨Nat.lt_of_lt_of_le h1 hn, by rw [h2, hp k h1]⟩
theorem Rus.mono (hn : n ≤ n') (hp : ∀ k, k < n → π' k = π k) (e : Ex B B') {vs : List V} {us : List U} (r : Rus K T n π B vs us) : Rus K T n' π' B' vs us := L2.Paired.mapP r fun _ _ q => Ru.mono hn hp e q
theorem Ruf.mono (hn : n ≤ n') (hp : ∀ k, k < n → π' k = π k) (e : Ex B B') {vs : List (Str × V)} {us : List (Nat × U)} (r : Ruf K T n π B vs us) : Ruf K T n' π' B' vs us := L2.Paired.mapP r fun _ _ q => ⟨q.1, Ru.mono hn hp e q.2⟩
theorem Step.ru (s : Step K T π B H m π' B' H' m') (r : Ru K T m.length π B v u) : Ru K T m'.length π' B' v u := Ru.mono s.len s.pi s.ex r
theorem Step.refl (s : Sto K T π B H m) : Step K T π B H m π B H m := ⟨s, fun _ _ => rfl, Nat.le_refl _, Ex.refl B, fun _ _ h _ _ => h, fun k h1 h2 => absurd h2 (Nat.not_lt.mpr h1), fun _ _ _ _ _ _ => rfl⟩
theorem tblDec (o : HO) : (∃ ps, o = .tbl ps) ∨ ∀ ps, o ≠ .tbl ps := by
  cases o <;> first | exact .inl ⟨_, rfl⟩ | exact .inr fun _ z => nomatch z
theorem Step.trans (s : Step K T π B H m π' B' H' m') (t : Step K T π' B' H' m' π2 B2 H2 m2) : Step K T π B H m π2 B2 H2 m2 := by
  have out : ∀ a o, H a = some o → (∀ ps, o ≠ .tbl ps) → (∀ k, k < m.length → a ≠ π k) → ∀ k, k < m'.length → a ≠ π' k := fun a o h ht hk k hk' e => by
    by_cases c : k < m.length
    · rw [s.pi k c] at e
      exact hk k c e
    · rw [e] at h
      obtain ⟨ps, z⟩ := s.new k (Nat.le_of_not_lt c) hk' o h
      exact ht ps z
  refine ⟨t.st, fun k hk => by rw [t.pi k (Nat.lt_of_lt_of_le hk s.len), s.pi k hk], Nat.le_trans s.len t.len, s.ex.trans t.ex, fun a o h ht hk => t.keep a o (s.keep a o h ht hk) ht (out a o h ht hk), fun k h1 h2 o e => ?_, fun a o h ht hk ho => ?_⟩
  · by_cases c : k < m'.length
    · rw [t.pi k c] at e
      exact s.new k h1 c o e
    · rcases tblDec o with z | ht
      · exact z
      · by_cases d : ∃ j, j < m.length ∧ π2 k = π j
        · obtain ⟨j, hj, ej⟩ := d
          have hj' : j < m'.length := Nat.lt_of_lt_of_le hj s.len
          have e3 : π2 k = π2 j := by rw [ej, t.pi j hj', s.pi j hj]
          have := t.st.inj k j h2 (Nat.lt_of_lt_of_le hj' t.len) e3
          omega
        · have hk : ∀ j, j < m.length → π2 k ≠ π j := fun j hj z => d ⟨j, hj, z⟩
          exact t.new k (Nat.le_of_not_lt c) h2 o (s.keep _ _ e ht hk)
  · rw [t.noab a o (s.keep a o h ht hk) ht (out a o h ht hk) ho]
    exact s.noab a o h ht hk ho
end
end At

/-! Readings by the evaluator; expressions. -/
namespace At
open PySem L2 Evl
abbrev Jt := L2.St → Hp → Prop

structure Slots (K : Fg) (T : Tb) (n : Nat) (π : Nat → Addr) (B : Hp) (σ : L2.St) (ρ : Ro) : Prop where
  len : σ.length = ρ.length
  at_ : ∀ (i : Nat) (u : U), ρ[i]? = some (some u) → ∃ v, σ[i]? = some (some v) ∧ Ru K T n π B v u

structure Bs (K : Fg) (T : Tb) (J : Jt) (π : Nat → Addr) (B H : Hp) (m : Mu) (σ : L2.St) (ρ : Ro) : Prop where
  st : Sto K T π B H m
  sl : Slots K T m.length π B σ ρ
  j : J σ B

def Mono (J : Jt) : Prop := ∀ σ B B', Ex B B' → J σ B → J σ B'
def J0 : Jt := fun _ _ => True
theorem mono0 : Mono J0 := fun _ _ _ _ h => h

abbrev Rel (α β : Type) := Nat → (Nat → Addr) → Hp → β → α → Prop

def Want {α β : Type} (rel : Rel α β) (K : Fg) (T : Tb) (W : WX) (σ : L2.St) (π : Nat → Addr) (B H : Hp) (m : Mu) (r : R α) (Q : β → Hp → Prop) : Prop := match r with
  | .ok a m' => ∀ b H' π' B', Step K T π B H m π' B' H' m' → rel m'.length π' B' b a → Q b H'
  | .ex c fs m' => ∀ x xs H' π' B', Step K T π B H m π' B' H' m' → B' x = some (.xd xs) → Rpf K T B' xs fs → W (.ref (cl K T c)) (some x) σ H'
  | .no => False

section
variable {K : Fg} {T : Tb} {C : CE} {W : WX} {J : Jt} {σ : L2.St} {ρ : Ro} {π π' : Nat → Addr} {B B' H H' : Hp} {m m' : Mu} {α β γ δ : Type}

theorem Slots.step (s : Step K T π B H m π' B' H' m') (h : Slots K T m.length π B σ ρ) : Slots K T m'.length π' B' σ ρ :=
  ⟨h.len, fun i u e => let ⟨v, h1, h2⟩ := h.at_ i u e; ⟨v, h1, s.ru h2⟩⟩
theorem Bs.step (hJ : Mono J) (b : Bs K T J π B H m σ ρ) (s : Step K T π B H m π' B' H' m') : Bs K T J π' B' H' m' σ ρ := ⟨s.st, b.sl.step s, hJ _ _ _ s.ex b.j⟩
theorem Want.rebase {rel : Rel α β} {r : R α} {Q : β → Hp → Prop} (w : Want rel K T W σ π B H m r Q) (s : Step K T π B H m π' B' H' m') : Want rel K T W σ π' B' H' m' r Q := by
  cases r with
  | ok a m2 => exact fun b H2 π2 B2 t q => w b H2 π2 B2 (s.trans t) q
  | ex c fs m2 => exact fun x xs H2 π2 B2 t q1 q2 => w x xs H2 π2 B2 (s.trans t) q1 q2
  | no => exact w
theorem Want.imp {rel : Rel α β} {r : R α} {Q Q' : β → Hp → Prop} (w : Want rel K T W σ π B H m r Q) (h : ∀ b H', Q b H' → Q' b H') : Want rel K T W σ π B H m r Q' := by
  cases r with
  | ok a m2 => exact fun b H2 π2 B2 t q => h _ _ (w b H2 π2 B2 t q)
  | ex c fs m2 => exact w
  | no => exact w
/-- a first part, then the rest -/
theorem Want.bnd {rel : Rel α β} {rel2 : Rel γ δ} {r : R α} {f : α → Mu → R γ} {Q : δ → Hp → Prop} {G : β → Hp → Prop} (w : Want rel2 K T W σ π B H m (r.bnd f) Q)
    (k : ∀ b H1 π1 B1 m1 a, Step K T π B H m π1 B1 H1 m1 → rel m1.length π1 B1 b a → Want rel2 K T W σ π1 B1 H1 m1 (f a m1) Q → G b H1) : Want rel K T W σ π B H m r G := by
  cases r with
  | ok a m1 => exact fun b H1 π1 B1 s q => k b H1 π1 B1 m1 a s q (Want.rebase (show Want rel2 K T W σ π B H m (f a m1) Q from w) s)
  | ex c fs m2 => exact w
  | no => exact w

def RU (K : Fg) (T : Tb) : Rel U V := fun n π B v u => Ru K T n π B v u
def RUs (K : Fg) (T : Tb) : Rel (List U) (List V) := fun n π B v u => Rus K T n π B v u

def tE (K : Fg) (T : Tb) (C : CE) (W : WX) (J : Jt) (e : E) : TE := fun σ H Q => ∃ π B m ρ, Bs K T J π B H m σ ρ ∧ Want (RU K T) K T W σ π B H m (ev C e ρ m) Q
def tEs (K : Fg) (T : Tb) (C : CE) (W : WX) (J : Jt) (e : E) : TA := fun σ H Q => ∃ π B m ρ, Bs K T J π B H m σ ρ ∧ Want (RUs K T) K T W σ π B H m (evs C e ρ m) Q

theorem tE_bnd (hJ : Mono J) {rel : Rel γ δ} {e : E} {f : U → Mu → R γ} {Q : δ → Hp → Prop} {G : V → Hp → Prop} (b : Bs K T J π B H m σ ρ) (w : Want rel K T W σ π B H m ((ev C e ρ m).bnd f) Q)
    (k : ∀ v H1 π1 B1 m1 u, Step K T π B H m π1 B1 H1 m1 → Bs K T J π1 B1 H1 m1 σ ρ → Ru K T m1.length π1 B1 v u → Want rel K T W σ π1 B1 H1 m1 (f u m1) Q → G v H1) : tE K T C W J e σ H G :=
  ⟨π, B, m, ρ, b, w.bnd fun v H1 π1 B1 m1 u s q w1 => k v H1 π1 B1 m1 u s (b.step hJ s) q w1⟩
theorem tEs_bnd (hJ : Mono J) {rel : Rel γ δ} {e : E} {f : List U → Mu → R γ} {Q : δ → Hp → Prop} {G : List V → Hp → Prop} (b : Bs K T J π B H m σ ρ) (w : Want rel K T W σ π B H m ((evs C e ρ m).bnd f) Q)
    (k : ∀ v H1 π1 B1 m1 u, Step K T π B H m π1 B1 H1 m1 → Bs K T J π1 B1 H1 m1 σ ρ → Rus K T m1.length π1 B1 v u → Want rel K T W σ π1 B1 H1 m1 (f u m1) Q → G v H1) : tEs K T C W J e σ H G :=
  ⟨π, B, m, ρ, b, w.bnd fun v H1 π1 B1 m1 u s q w1 => k v H1 π1 B1 m1 u s (b.step hJ s) q w1⟩

/-! ### new frozen things -/
structure New (T : Tb) (B H B' H' : Hp) : Prop where
  ex : Ex B B'
  exH : ∀ a o, H a = some o → (∀ ps, o ≠ .tbl ps) → H' a = some o
  sub : Ex B' H'
  noab : ∀ a o, H a = some o → (∀ ps, o ≠ .tbl ps) → (∀ y, o ≠ .own y) → B' a = B a
  tb : LamX.Tabs T.tabs H → LamX.Tabs T.tabs H'
  nt : (∀ a ps, B a ≠ some (.tbl ps)) → ∀ a ps, B' a ≠ some (.tbl ps)
theorem New.refl (h : Ex B H) : New T B H B H := ⟨Ex.refl _, fun _ _ h _ => h, h, fun _ _ _ _ _ => rfl, fun h => h, fun h => h⟩
theorem nt_upd {p : Addr} {o : HO} (h : ∀ a ps, B a ≠ some (.tbl ps)) (ho : ∀ ps, o ≠ .tbl ps) : ∀ a ps, upd B p o a ≠ some (.tbl ps) := fun a ps e => by
  by_cases c : a = p
  · subst c
    rw [upd_same] at e
    exact ho ps (Option.some.inj e)
  · rw [upd_ne c] at e
    exact h a ps e
theorem New.one (h : Ex B H) {p : Addr} {o : HO} (hp : H p = none) (ho : ∀ ps, o ≠ .tbl ps := by intro _ z; cases z) : New T B H (upd B p o) (upd H p o) where
  ex := Ex.new (fresh_back h hp)
  exH := fun a u e _ => Ex.new hp a u e
  sub := fun a u e => by
    by_cases c : a = p
    · subst c
      rw [upd_same] at e ⊢
      exact e
    · rw [upd_ne c] at e ⊢
      exact h a u e
  noab := fun a u e _ _ => upd_ne (ne_of_none e hp)
  tb := fun t => t.ext (Ex.new hp)
  nt := fun h => nt_upd h ho
theorem Sto.new (s : Sto K T π B H m) (w : New T B H B' H') : Sto K T π B' H' m where
  ex := w.sub
  inj := s.inj
  dom := fun k hk => by
    obtain ⟨o, h, n, ht⟩ := s.dom k hk
    exact ⟨o, w.exH _ _ h ht, n, ht⟩
  cell := fun k x e => by
    have h := s.cell k x e
    cases x with
    | lst us =>
      obtain ⟨h1, xs, h2, h3, h4⟩ := h
      exact ⟨(w.noab _ _ h2 (fun _ z => nomatch z) fun _ z => nomatch z).trans h1, xs, w.exH _ _ h2 (fun _ z => nomatch z), h3, Rus.mono (Nat.le_refl _) (fun _ _ => rfl) w.ex h4⟩
    | obj c fs =>
      obtain ⟨h1, hi, dx, fv, h2, h3, h4⟩ := h
      exact ⟨(w.noab _ _ h2 (fun _ z => nomatch z) fun _ z => nomatch z).trans h1, hi, dx, fv, w.exH _ _ h2 (fun _ z => nomatch z), w.exH _ _ h3 (fun _ z => nomatch z), Ruf.mono (Nat.le_refl _) (fun _ _ => rfl) w.ex h4⟩
    | fz d => exact Rp.mono w.ex h
  tb := w.tb s.tb
  nt := w.nt s.nt
theorem New.step (s : Sto K T π B H m) (w : New T B H B' H') : Step K T π B H m π B' H' m :=
  ⟨s.new w, fun _ _ => rfl, Nat.le_refl _, w.ex, fun a o h ht _ => w.exH a o h ht, fun k h1 h2 => absurd h2 (Nat.not_lt.mpr h1), fun a o h ht _ hn => w.noab a o h ht hn⟩

/-! ### what is seen -/
/-- shallow in H, the parts in B -/
inductive Rq (K : Fg) (T : Tb) (B H : Hp) : V → D → Prop
  | non : Rq K T B H .non .non
  | bl (b : Bool) : Rq K T B H (.bl b) (.bl b)
  | int (i : Int) : Rq K T B H (.int i) (.int i)
  | str (x : Str) : x.length ≤ lim → PyData.strOk x = true → Rq K T B H (.str x) (.str x.cps.toList)
  | scr {a : Addr} {ns : List Int} : SqL K H a (ns.map V.int) → Rq K T B H (.ref a) (.scr ns)
  | lst {a : Addr} {xs : List V} {ds : List D} : H a = some (.lst xs) → xs.length ≤ lim → Rps K T B xs ds → Rq K T B H (.ref a) (.lst ds)
  | tup {a : Addr} {xs : List V} {ds : List D} : SqT K B a xs → xs.length ≤ lim → Rps K T B xs ds → Rq K T B H (.ref a) (.tup ds)
  | obj {a dx : Addr} {c : Nat} {fv : List (Str × V)} {fs : List (Nat × D)} : T.ix c = false → H a = some (.ins (cl K T c) dx fv) → H dx = some (.own a) → Rpf K T B fv fs → Rq K T B H (.ref a) (.obj c fs)
  | exc {a dx : Addr} {c : Nat} {fv : List (Str × V)} {fs : List (Nat × D)} : T.ix c = true → H a = some (XO (.ref (cl K T c)) dx a) → H dx = some (.xd fv) → Rpf K T B fv fs → Rq K T B H (.ref a) (.obj c fs)
  | ex0 {a : Addr} {c : Nat} : T.ix c = true → H a = some (ExO (.ref (cl K T c)) a) → Rq K T B H (.ref a) (.obj c [])
theorem Rp.rq {v : V} {d : D} (e : Ex B H) (h : Rp K T B v d) : Rq K T B H v d := by
  cases h with
  | non => exact .non
  | bl b => exact .bl b
  | int i => exact .int i
  | str x h o => exact .str x h o
  | scr h => exact .scr (ex_l e h)
  | lst h z r => exact .lst (e _ _ h) z r
  | tup h z r => exact .tup h z r
  | obj i h g r => exact .obj i (e _ _ h) (e _ _ g) r
  | exc i h g r => exact .exc i (e _ _ h) (e _ _ g) r
  | ex0 i h => exact .ex0 i (e _ _ h)
theorem Rq.rp {v : V} {d : D} (e : Ex B H) (h : Rq K T B H v d) : Rp K T H v d := by
  cases h with
  | non => exact .non
  | bl b => exact .bl b
  | int i => exact .int i
  | str x h o => exact .str x h o
  | scr h => exact .scr h
  | lst h z r => exact .lst h z (r.mono e)
  | tup h z r => exact .tup (ex_t e h) z (r.mono e)
  | obj i h g r => exact .obj i h g (r.mono e)
  | exc i h g r => exact .exc i h g (r.mono e)
  | ex0 i h => exact .ex0 i h
theorem plainU_ok {n : Nat} : ∀ {xs : List V} {us : List U} {ds : List D}, Rus K T n π B xs us → plainU us = some ds → Rps K T B xs ds
  | _, _, _, .nil, e => by cases e; exact .nil
  | _, _, _, .cons (a := v) (b := u) r q, e => by
    cases u with
    | v d =>
      unfold plainU at e
      obtain ⟨r', e1, e2⟩ := Option.map_eq_some_iff.mp e
      subst e2
      exact .cons r (plainU_ok q e1)
    | p k => cases e
theorem plainF_ok {n : Nat} : ∀ {xs : List (Str × V)} {us : List (Nat × U)} {ds : List (Nat × D)}, Ruf K T n π B xs us → plainF us = some ds → Rpf K T B xs ds
  | _, _, _, .nil, e => by cases e; exact .nil
  | _, _, _, .cons (a := ⟨x, v⟩) (b := ⟨f, u⟩) r q, e => by
    obtain ⟨r1, r2⟩ := r
    dsimp only at r1 r2
    subst r1
    cases u with
    | v d =>
      unfold plainF at e
      obtain ⟨r', e1, e2⟩ := Option.map_eq_some_iff.mp e
      subst e2
      exact .cons r2 (plainF_ok q e1)
    | p k => cases e
theorem see_ok {v : V} {u : U} {d : D} (s : Sto K T π B H m) (r : Ru K T m.length π B v u) (e : see m u = some d) : Rq K T B H v d := by
  cases u with
  | v d' =>
    cases e
    exact Rp.rq s.ex r
  | p k =>
    obtain ⟨hk, rfl⟩ := r
    replace e : (match m[k]? with | some x => seeM x | none => none) = some d := e
    cases q : m[k]? with
    | none =>
      rw [q] at e
      cases e
    | some x =>
      rw [q] at e
      have c := s.cell k x q
      have e' : seeM x = some d := e
      cases x with
      | lst us =>
        obtain ⟨_, xs, h2, h3, h4⟩ := c
        obtain ⟨ds, e1, e2⟩ := Option.map_eq_some_iff.mp e'
        subst e2
        exact .lst h2 h3 (plainU_ok h4 e1)
      | obj c' fs =>
        obtain ⟨_, hi, dx, fv, h2, h3, h4⟩ := c
        obtain ⟨ds, e1, e2⟩ := Option.map_eq_some_iff.mp e'
        subst e2
        exact .obj hi h2 h3 (plainF_ok h4 e1)
      | fz d' =>
        cases e'
        exact Rp.rq s.ex c
end

/-! ### operations by what they do to data -/
def Sem2 (K : Fg) (T : Tb) (r : R2) (f : D → D → Option D) : Prop := ∀ (B H : Hp) (x y : V) (d1 d2 d : D) (Q : VK), Ex B H → Rq K T B H x d1 → Rq K T B H y d2 → f d1 d2 = some d →
  (∀ v H' B', New T B H B' H' → Rp K T B' v d → Q v H') → r x y H Q
def Sem1 (K : Fg) (T : Tb) (r : V → Hp → VK → Prop) (f : D → Option D) : Prop := ∀ (B H : Hp) (x : V) (d1 d : D) (Q : VK), Ex B H → Rq K T B H x d1 → f d1 = some d →
  (∀ v H' B', New T B H B' H' → Rp K T B' v d → Q v H') → r x H Q
def SemL (K : Fg) (T : Tb) (r : List V → Hp → VK → Prop) (f : D → Option D) : Prop := ∀ (B H : Hp) (x : V) (d1 d : D) (Q : VK), Ex B H → Rq K T B H x d1 → f d1 = some d →
  (∀ v H' B', New T B H B' H' → Rp K T B' v d → Q v H') → r [x] H Q

section
variable {X : Cx} {T : Tb} {C : CE} {W : WX} {J : Jt} {a b e z : Expr} {a' b' e' z' : E} {pos : Pos}
abbrev PD (X : Cx) (T : Tb) (C : CE) (W : WX) (J : Jt) (e : Expr) (e' : E) : Prop := PE X e (tE X.K T C W J e')
abbrev PDs (X : Cx) (T : Tb) (C : CE) (W : WX) (J : Jt) (es : List Expr) (e' : E) : Prop := PA X es (tEs X.K T C W J e')

theorem PE.weak {t u : TE} (h : PE X e t) (k : ∀ σ H Q, u σ H Q → t σ H Q) : PE X e u := ⟨fun pins s σ H Q I q => h.run pins s σ H Q I (k σ H Q q)⟩
theorem PT.weak {t u : TT} (h : PT X e t) (k : ∀ σ H Q, u σ H Q → t σ H Q) : PT X e u := ⟨fun pins s σ H Q I q => h.run pins s σ H Q I (k σ H Q q)⟩
theorem PA.weak {es : List Expr} {t u : TA} (h : PA X es t) (k : ∀ σ H Q, u σ H Q → t σ H Q) : PA X es u := ⟨fun pos pins s σ H Q I q => h.run pos pins s σ H Q I (k σ H Q q)⟩

theorem want_ok {K : Fg} {σ : L2.St} {π : Nat → Addr} {B H : Hp} {m : Mu} {u : U} {Q : VK} {v : V} (w : Want (RU K T) K T W σ π B H m (.ok u m) Q) (s : Sto K T π B H m) (r : Ru K T m.length π B v u) : Q v H := w v H π B (Step.refl s) r

theorem pd_var (i : Nat) {x : Str} {pos : Pos} (hN : X.N[i]? = some x := by rfl) (hv : Vis X.env.scope x := by first | exact Or.inl rfl | exact Or.inr (Or.inl rfl) | exact Or.inr (Or.inr rfl)) (hd : (x == ("__debug__" : Str)) = false := by decide)
    (hcd : (x == ("__classdict__" : Str)) = false := by decide) : PD X T C W J (.Name x pos) (.var i) := by
  refine PE.weak (pv i hN hv hd hcd) fun σ H Q h => ?_
  obtain ⟨π, B, m, ρ, b, w⟩ := h
  show ∃ v, σ[i]? = some (some v) ∧ Q v H
  unfold ev at w
  cases e : ρ[i]? with
  | none =>
    rw [e] at w
    exact w.elim
  | some o =>
    cases o with
    | none =>
      rw [e] at w
      exact w.elim
    | some u =>
      rw [e] at w
      obtain ⟨v, h1, h2⟩ := b.sl.at_ i u e
      exact ⟨v, h1, want_ok w b.st h2⟩
theorem pd_cst {v : V} {d : D} (h : PE X e (tC v)) (r : ∀ B, Rp X.K T B v d) : PD X T C W J e (.cst d) := by
  refine PE.weak h fun σ H Q h => ?_
  obtain ⟨π, B, m, ρ, b, w⟩ := h
  unfold ev at w
  exact want_ok w b.st (r B)
theorem pd_int {i j pos} : PD X T C W J (.Constant (.int i) j pos) (.cst (.int i)) := pd_cst pe_int fun _ => .int i
theorem pd_bl {i j pos} : PD X T C W J (.Constant (.bool i) j pos) (.cst (.bl i)) := pd_cst pe_bl fun _ => .bl i
theorem pd_non {j pos} : PD X T C W J (.Constant .none j pos) (.cst .non) := pd_cst pe_non fun _ => .non
theorem pd_str {x : Str} {l : List Nat} {j pos} (hl : x.cps.toList = l := by rfl) (hz : (decide (l.length ≤ lim) && l.all (· < 0x110000)) = true := by decide) : PD X T C W J (.Constant (.str x) j pos) (.cst (.str l)) := by
  subst hl
  obtain ⟨h1, h2⟩ := Bool.and_eq_true_iff.mp hz
  refine pd_cst pe_str fun _ => .str x (of_decide_eq_true h1) ?_
  unfold PyData.strOk
  rw [← Array.all_toList]
  exact h2

/-- two operands -/
theorem pd_two {op : E} {t : TE → TE → TE} {r : R2} {f : D → D → Option D} (hJ : Mono J) (ht : ∀ ta tb σ H Q, (ta σ H fun x H1 => tb σ H1 fun y H2 => r x y H2 Q) → t ta tb σ H Q) (hs : Sem2 X.K T r f)
    (hev : ∀ ρ m, ev C op ρ m = (ev C a' ρ m).bnd fun x m => (ev C b' ρ m).bnd fun y m => match see m x, see m y with
      | some d, some e => Res ((f d e).map U.v) m
      | _, _ => .no) (σ : L2.St) (H : Hp) (Q : VK) (h : tE X.K T C W J op σ H Q) : t (tE X.K T C W J a') (tE X.K T C W J b') σ H Q := by
  obtain ⟨π, B, m, ρ, b, w⟩ := h
  rw [hev] at w
  refine ht _ _ _ _ _ (tE_bnd hJ b w fun x H1 π1 B1 m1 u1 s1 b1 r1 w1 => tE_bnd hJ b1 w1 fun y H2 π2 B2 m2 u2 s2 b2 r2 w2 => ?_)
  cases e1 : see m2 u1 with
  | none =>
    rw [e1] at w2
    exact w2.elim
  | some d1 =>
    rw [e1] at w2
    cases e2 : see m2 u2 with
    | none =>
      rw [e2] at w2
      exact w2.elim
    | some d2 =>
      rw [e2] at w2
      dsimp only at w2
      cases e3 : f d1 d2 with
      | none =>
        rw [e3] at w2
        exact w2.elim
      | some d =>
        rw [e3] at w2
        exact hs B2 H2 x y d1 d2 d Q b2.st.ex (see_ok b2.st (s2.ru r1) e1) (see_ok b2.st r2 e2) e3 fun v H' B' nw rv => w2 v H' π2 B' (nw.step b2.st) rv
theorem pd_one {op : E} {t : TE → TE} {r : V → Hp → VK → Prop} {f : D → Option D} (hJ : Mono J) (ht : ∀ ta σ H Q, (ta σ H fun x H1 => r x H1 Q) → t ta σ H Q) (hs : Sem1 X.K T r f)
    (hev : ∀ ρ m, ev C op ρ m = (ev C a' ρ m).bnd fun x m => match see m x with
      | some d => Res ((f d).map U.v) m
      | none => .no) (σ : L2.St) (H : Hp) (Q : VK) (h : tE X.K T C W J op σ H Q) : t (tE X.K T C W J a') σ H Q := by
  obtain ⟨π, B, m, ρ, b, w⟩ := h
  rw [hev] at w
  refine ht _ _ _ _ (tE_bnd hJ b w fun x H1 π1 B1 m1 u1 s1 b1 r1 w1 => ?_)
  cases e1 : see m1 u1 with
  | none =>
    rw [e1] at w1
    exact w1.elim
  | some d1 =>
    rw [e1] at w1
    dsimp only at w1
    cases e3 : f d1 with
    | none =>
      rw [e3] at w1
      exact w1.elim
    | some d =>
      rw [e3] at w1
      exact hs B1 H1 x d1 d Q b1.st.ex (see_ok b1.st r1 e1) e3 fun v H' B' nw rv => w1 v H' π1 B' (nw.step b1.st) rv
end
end At

/-! Operators and comparisons. -/
namespace At
open PySem L2 Evl

theorem OpR.or {X : Cx} {f : Value → Value → Sem Value} {r q : R2} (h1 : OpR X f r) (h2 : OpR X f q) : OpR X f (fun x y H Q => r x y H Q ∨ q x y H Q) :=
  fun pins s σ H x y v u Q I rx ry h => h.elim (fun z => h1 pins s σ H x y v u Q I rx ry z) fun z => h2 pins s σ H x y v u Q I rx ry z
theorem CallR.or {X : Cx} {f : Value} {r q : List V → Hp → VK → Prop} (h1 : CallR X f r) (h2 : CallR X f q) : CallR X f (fun x H Q => r x H Q ∨ q x H Q) :=
  fun pins s σ H xs us Q I rx h => h.elim (fun z => h1 pins s σ H xs us Q I rx z) fun z => h2 pins s σ H xs us Q I rx z

theorem lim_size {n : Nat} (h : n ≤ lim) : n ≤ sizeLine := Nat.le_trans h (by decide)
theorem lim_lt {n : Nat} (h : n < lim) : n < sizeLine := Nat.lt_of_lt_of_le h (by decide)

section
variable {K : Fg} {T : Tb} {B H : Hp}
theorem Rp.text {z : Str} {l : List Nat} (e : z.cps.toList = l) (h : l.length ≤ lim) (o : l.all (· < 0x110000) = true) : Rp K T B (.str z) (.str l) := by
  subst e
  refine .str z h ?_
  unfold PyData.strOk
  rw [← Array.all_toList]
  exact o
theorem strOk_list {x : Str} (o : PyData.strOk x = true) : x.cps.toList.all (· < 0x110000) = true := by
  unfold PyData.strOk at o
  rw [← Array.all_toList] at o
  exact o
theorem len_list (x : Str) : x.cps.toList.length = x.length := Array.length_toList
theorem app_list (x y : Str) : (x ++ y).cps.toList = x.cps.toList ++ y.cps.toList := by
  show (x.cps ++ y.cps).toList = _
  rw [Array.toList_append]

def rAddD (K : Fg) : R2 := fun x y H Q => (((rI0 fun i j => .int (i + j)) x y H Q ∨ (∃ i j, x = .str i ∧ y = .str j ∧ i.length + j.length ≤ sizeLine ∧ Q (.str (i ++ j)) H)) ∨ rCat x y H Q) ∨ rCatA K x y H Q
theorem opr_add {X : Cx} : OpR X (binaryOp .Add) (rAddD X.K) := OpR.or (OpR.or (OpR.or op_add op_add_str) op_cat) op_catA
theorem sem_add : Sem2 K T (rAddD K) (op2 .add) := by
  intro B H x y d1 d2 d Q e r1 r2 hf k
  cases r1 with
  | int i =>
    cases r2 with
    | int j =>
      cases hf
      exact .inl (.inl (.inl ⟨i, j, rfl, rfl, k _ _ _ (New.refl e) (.int _)⟩))
    | _ => cases hf
  | str x h1 o1 =>
    cases r2 with
    | str y h2 o2 =>
      have hf' : (if x.cps.toList.length + y.cps.toList.length ≤ lim then some (D.str (x.cps.toList ++ y.cps.toList)) else none) = some d := hf
      by_cases c : x.cps.toList.length + y.cps.toList.length ≤ lim
      · rw [if_pos c] at hf'
        cases hf'
        rw [len_list, len_list] at c
        refine .inl (.inl (.inr ⟨x, y, rfl, rfl, lim_size c, k _ _ _ (New.refl e) (Rp.text (app_list x y) ?_ ?_)⟩))
        · rw [List.length_append, len_list, len_list]
          exact c
        · rw [List.all_append, strOk_list o1, strOk_list o2]
          rfl
      · rw [if_neg c] at hf'
        cases hf'
    | _ => cases hf
  | lst h1 z1 q1 =>
    cases r2 with
    | lst h2 z2 q2 =>
      rename_i a xs ds b ys es
      have hf' : (if ds.length + es.length ≤ lim then some (D.lst (ds ++ es)) else none) = some d := hf
      by_cases c : ds.length + es.length ≤ lim
      · rw [if_pos c] at hf'
        cases hf'
        rw [← q1.len, ← q2.len] at c
        refine .inl (.inr ⟨a, b, xs, ys, rfl, rfl, h1, h2, lim_size c, fun p hp => k _ _ _ (New.one (T := T) e hp) (.lst upd_same ?_ ((q1.app q2).mono (New.one (T := T) e hp).ex))⟩)
        rw [List.length_append]
        exact c
      · rw [if_neg c] at hf'
        cases hf'
    | _ => cases hf
  | tup h1 z1 q1 =>
    cases r2 with
    | tup h2 z2 q2 =>
      rename_i a xs ds b ys es
      have hf' : (if ds.length + es.length ≤ lim then some (D.tup (ds ++ es)) else none) = some d := hf
      by_cases c : ds.length + es.length ≤ lim
      · rw [if_pos c] at hf'
        cases hf'
        rw [← q1.len, ← q2.len] at c
        refine .inr ⟨a, b, xs, ys, rfl, rfl, ex_t e h1, ex_t e h2, lim_size c, fun z => ?_, fun _ z => ?_, fun _ _ p hp => k _ _ _ (New.one (T := T) e hp) (.tup (SqT.of upd_same) (by rw [List.length_append]; exact c) ((q1.app q2).mono (New.one (T := T) e hp).ex))⟩
        · subst z
          cases q1
          exact k _ _ _ (New.refl e) (.tup h2 z2 q2)
        · subst z
          cases q2
          rw [List.append_nil] at k
          exact k _ _ _ (New.refl e) (.tup h1 z1 q1)
      · rw [if_neg c] at hf'
        cases hf'
    | _ => cases hf
  | _ => cases hf

theorem sem_int {g : Int → Int → V} {c : Int → Int → Prop} {f : D → D → Option D} (hg : ∀ i j d, f (.int i) (.int j) = some d → c i j ∧ ∀ B, Rp K T B (g i j) d) (hn : ∀ x y d, f x y = some d → ∃ i j, x = .int i ∧ y = .int j) : Sem2 K T (rI c g) f := by
  intro B H x y d1 d2 d Q e r1 r2 hf k
  obtain ⟨i, j, rfl, rfl⟩ := hn _ _ _ hf
  cases r1
  cases r2
  obtain ⟨h1, h2⟩ := hg i j d hf
  exact ⟨i, j, rfl, rfl, h1, k _ _ _ (New.refl e) (h2 B)⟩
theorem sem_int0 {g : Int → Int → V} {f : D → D → Option D} (hg : ∀ i j d, f (.int i) (.int j) = some d → ∀ B, Rp K T B (g i j) d) (hn : ∀ x y d, f x y = some d → ∃ i j, x = .int i ∧ y = .int j) : Sem2 K T (rI0 g) f := by
  intro B H x y d1 d2 d Q e r1 r2 hf k
  obtain ⟨i, j, rfl, rfl⟩ := hn _ _ _ hf
  cases r1
  cases r2
  exact ⟨i, j, rfl, rfl, k _ _ _ (New.refl e) (hg i j d hf B)⟩
theorem sem_sub : Sem2 K T (rI0 fun i j => .int (i - j)) (op2 .sub) := sem_int0 (fun i j d h B => by cases h; exact .int _) fun x y d h => by
  cases x <;> cases y <;> first | exact ⟨_, _, rfl, rfl⟩ | cases h
theorem sem_fdiv : Sem2 K T (rI CDivN fun i j => .int (i.fdiv j)) (op2 .fdiv) := sem_int (fun i j d h => by
  have h' : (if j ≠ 0 ∧ j.natAbs < 1073741824 then some (D.int (i.fdiv j)) else none) = some d := h
  by_cases c : j ≠ 0 ∧ j.natAbs < 1073741824
  · rw [if_pos c] at h'
    cases h'
    exact ⟨c, fun B => .int _⟩
  · rw [if_neg c] at h'
    cases h') fun x y d h => by
  cases x <;> cases y <;> first | exact ⟨_, _, rfl, rfl⟩ | cases h
theorem sem_mod : Sem2 K T (rI (fun _ j => j ≠ 0) fun i j => .int (i.fmod j)) (op2 .mod) := sem_int (fun i j d h => by
  have h' : (if j ≠ 0 then some (D.int (i.fmod j)) else none) = some d := h
  by_cases c : j ≠ 0
  · rw [if_pos c] at h'
    cases h'
    exact ⟨c, fun B => .int _⟩
  · rw [if_neg c] at h'
    cases h') fun x y d h => by
  cases x <;> cases y <;> first | exact ⟨_, _, rfl, rfl⟩ | cases h
theorem sem_pow : Sem2 K T (rI CPow fun i j => .int (i ^ j.toNat)) (op2 .pow) := sem_int (fun i j d h => by
  have h' : (if 0 ≤ j ∧ j ≤ 1000000 ∧ i.natAbs < 2 ^ 60 then some (D.int (i ^ j.toNat)) else none) = some d := h
  by_cases c : 0 ≤ j ∧ j ≤ 1000000 ∧ i.natAbs < 2 ^ 60
  · rw [if_pos c] at h'
    cases h'
    exact ⟨⟨c.1, c.2.1, Nat.lt_trans c.2.2 (by decide)⟩, fun B => .int _⟩
  · rw [if_neg c] at h'
    cases h') fun x y d h => by
  cases x <;> cases y <;> first | exact ⟨_, _, rfl, rfl⟩ | cases h
def rMulD : R2 := fun x y H Q => (rI CMul fun i j => .int (i * j)) x y H Q ∨ rRep x y H Q
theorem opr_mul {X : Cx} : OpR X (binaryOp .Mult) rMulD := OpR.or op_mul op_rep
theorem sem_mul : Sem2 K T rMulD (op2 .mul) := by
  intro B H x y d1 d2 d Q e r1 r2 hf k
  cases r1 with
  | int i =>
    cases r2 with
    | int j =>
      have h' : (if i.natAbs < 2 ^ 60 ∨ j.natAbs < 2 ^ 60 then some (D.int (i * j)) else none) = some d := hf
      by_cases c : i.natAbs < 2 ^ 60 ∨ j.natAbs < 2 ^ 60
      · rw [if_pos c] at h'
        cases h'
        refine .inl ⟨i, j, rfl, rfl, ?_, k _ _ _ (New.refl e) (.int _)⟩
        rcases c with c | c
        · exact .inl ⟨by omega, by omega⟩
        · exact .inr ⟨by omega, by omega⟩
      · rw [if_neg c] at h'
        cases h'
    | _ => cases hf
  | lst h1 z1 q1 =>
    cases r2 with
    | int j =>
      rename_i a xs ds
      have h' : (if j.natAbs ≤ lim ∧ ds.length * j.toNat ≤ lim then some (D.lst (List.replicate j.toNat ds).flatten) else none) = some d := hf
      by_cases c : j.natAbs ≤ lim ∧ ds.length * j.toNat ≤ lim
      · rw [if_pos c] at h'
        cases h'
        rw [← q1.len] at c
        have cl : j.natAbs ≤ 1000000 := c.1
        refine .inr ⟨a, j, xs, rfl, rfl, h1, by omega, by omega, lim_size c.2, fun p hp => k _ _ _ (New.one (T := T) e hp) (.lst upd_same ?_ (Rps.mono (New.one (T := T) e hp).ex ?_))⟩
        · rw [List.length_flatten]
          simp only [List.map_replicate, List.sum_replicate_nat]
          rw [Nat.mul_comm]
          exact c.2
        · have rep : ∀ n : Nat, Rps K T B (List.replicate n xs).flatten (List.replicate n ds).flatten := by
            intro n
            induction n with
            | zero => exact .nil
            | succ n ih =>
              rw [List.replicate_succ, List.replicate_succ, List.flatten_cons, List.flatten_cons]
              exact q1.app ih
          exact rep _
      · rw [if_neg c] at h'
        cases h'
    | _ => cases hf
  | _ => cases hf
end
section
variable {X : Cx} {T : Tb} {C : CE} {W : WX} {J : Jt} {a b : Expr} {a' b' : E} {pos : Pos}
theorem pd_bin {op : Operator} {o : Op} {r : R2} (ho : OpR X (binaryOp op) r) (hs : Sem2 X.K T r (op2 o)) (hJ : Mono J) (ha : PD X T C W J a a') (hb : PD X T C W J b b') : PD X T C W J (.BinOp a op b pos) (.op o a' b') :=
  PE.weak (pe_op ho ha hb) (pd_two (t := tOp r) hJ (fun _ _ _ _ _ h => h) hs fun ρ m => by rw [ev] <;> rfl)
theorem pd_add (hJ : Mono J) (ha : PD X T C W J a a') (hb : PD X T C W J b b') : PD X T C W J (.BinOp a .Add b pos) (.op .add a' b') := pd_bin opr_add sem_add hJ ha hb
theorem pd_sub (hJ : Mono J) (ha : PD X T C W J a a') (hb : PD X T C W J b b') : PD X T C W J (.BinOp a .Sub b pos) (.op .sub a' b') := pd_bin op_sub sem_sub hJ ha hb
theorem pd_mul (hJ : Mono J) (ha : PD X T C W J a a') (hb : PD X T C W J b b') : PD X T C W J (.BinOp a .Mult b pos) (.op .mul a' b') := pd_bin opr_mul sem_mul hJ ha hb
theorem pd_fdiv (hJ : Mono J) (ha : PD X T C W J a a') (hb : PD X T C W J b b') : PD X T C W J (.BinOp a .FloorDiv b pos) (.op .fdiv a' b') := pd_bin op_fdivN sem_fdiv hJ ha hb
theorem pd_mod (hJ : Mono J) (ha : PD X T C W J a a') (hb : PD X T C W J b b') : PD X T C W J (.BinOp a .Mod b pos) (.op .mod a' b') := pd_bin op_modN sem_mod hJ ha hb
theorem pd_pow (hJ : Mono J) (ha : PD X T C W J a a') (hb : PD X T C W J b b') : PD X T C W J (.BinOp a .Pow b pos) (.op .pow a' b') := pd_bin op_pow sem_pow hJ ha hb
end
end At

/-! Comparisons, tests. -/
namespace At
open PySem L2 Evl

section
variable {K : Fg} {T : Tb} {B H : Hp}
mutual
theorem dp_of : ∀ {d : D} {v : V}, plain d = true → Rp K T B v d → Dp K B v (toPy d) ∧ (toPy d).canLay0 = true ∧ (toPy d).depth = deep d
  | .non, _, _, .non => ⟨.non, rfl, rfl⟩
  | .bl b, _, _, .bl _ => ⟨.bl b, rfl, rfl⟩
  | .int i, _, _, .int _ => ⟨.int i, rfl, rfl⟩
  | .str _, _, _, .str x _ o => by
    have e : toPy (.str x.cps.toList) = .str x := by
      show PyData.str ⟨x.cps.toList.toArray⟩ = _
      rw [Array.toArray_toList]
    rw [e]
    exact ⟨.str x, o, rfl⟩
  | .lst ds, _, h, .lst hh _ r => by
    obtain ⟨h1, h2, h3⟩ := dps_of (show plains ds = true from h) r
    refine ⟨.lst (SqL.of hh) h1, ?_, ?_⟩
    · show PyData.canLayAll0 (toPys ds) = true
      exact h2
    · show PyData.depthAll (toPys ds) + 1 = deeps ds + 1
      rw [h3]
  | .tup ds, _, h, .tup hh _ r => by
    obtain ⟨h1, h2, h3⟩ := dps_of (show plains ds = true from h) r
    refine ⟨.tup hh h1, ?_, ?_⟩
    · show PyData.canLayAll0 (toPys ds) = true
      exact h2
    · show PyData.depthAll (toPys ds) + 1 = deeps ds + 1
      rw [h3]
theorem dps_of : ∀ {ds : List D} {vs : List V}, plains ds = true → Rps K T B vs ds → DpAll K B vs (toPys ds) ∧ PyData.canLayAll0 (toPys ds) = true ∧ PyData.depthAll (toPys ds) = deeps ds
  | [], _, _, .nil => ⟨.nil, rfl, rfl⟩
  | d :: ds, _, h, .cons r q => by
    obtain ⟨p1, p2⟩ := Bool.and_eq_true_iff.mp (show (plain d && plains ds) = true from h)
    obtain ⟨h1, h2, h3⟩ := dp_of p1 r
    obtain ⟨g1, g2, g3⟩ := dps_of p2 q
    refine ⟨.cons h1 g1, ?_, ?_⟩
    · show ((toPy d).canLay0 && PyData.canLayAll0 (toPys ds)) = true
      rw [h2, g2]
      rfl
    · show max (toPy d).depth (PyData.depthAll (toPys ds)) = max (deep d) (deeps ds)
      rw [h3, g3]
end
theorem str_beq (x y : List Nat) : ((⟨x.toArray⟩ : Str) == ⟨y.toArray⟩) = (x == y) := by
  by_cases e : x = y
  · subst e
    simp
  · have h : ¬ (⟨x.toArray⟩ : Str) = ⟨y.toArray⟩ := fun q => e (by injection q with q; simpa using congrArg Array.toList q)
    rw [beq_eq_false_iff_ne.mpr h, beq_eq_false_iff_ne.mpr e]
mutual
theorem eqv_of : ∀ (d e : D), plain d = true → plain e = true → PyData.eqv (toPy d) (toPy e) = eqD d e
  | .non, e, _, h => by cases e <;> first | rfl | cases h
  | .bl b, e, _, h => by cases e <;> first | rfl | cases h
  | .int b, e, _, h => by cases e <;> first | rfl | cases h
  | .str x, e, _, h => by
    cases e with
    | str y => exact str_beq x y
    | _ => first | rfl | cases h
  | .lst xs, e, h1, h => by
    cases e with
    | lst ys => exact eqvs_of xs ys h1 h
    | _ => first | rfl | cases h
  | .tup xs, e, h1, h => by
    cases e with
    | tup ys => exact eqvs_of xs ys h1 h
    | _ => first | rfl | cases h
  | .dic _, _, h, _ => by cases h
  | .obj _ _, _, h, _ => by cases h
  | .scr _, _, h, _ => by cases h
theorem eqvs_of : ∀ (d e : List D), plains d = true → plains e = true → PyData.eqvAll (toPys d) (toPys e) = eqDs d e
  | [], [], _, _ => rfl
  | [], _ :: _, _, _ => rfl
  | _ :: _, [], _, _ => rfl
  | d :: ds, e :: es, h1, h2 => by
    obtain ⟨p1, p2⟩ := Bool.and_eq_true_iff.mp (show (plain d && plains ds) = true from h1)
    obtain ⟨q1, q2⟩ := Bool.and_eq_true_iff.mp (show (plain e && plains es) = true from h2)
    show (PyData.eqv (toPy d) (toPy e) && PyData.eqvAll (toPys ds) (toPys es)) = (eqD d e && eqDs ds es)
    rw [eqv_of d e p1 q1, eqvs_of ds es p2 q2]
end
theorem ask_of {d : D} {v : V} (e : Ex B H) (a : askable d = true) (r : Rq K T B H v d) : Dp K H v (toPy d) ∧ SeqAt.shaped (toPy d) = true := by
  obtain ⟨a1, a2⟩ := Bool.and_eq_true_iff.mp a
  obtain ⟨h1, h2, h3⟩ := dp_of a1 (r.rp e)
  refine ⟨h1, ?_⟩
  unfold SeqAt.shaped
  rw [h2, h3]
  have := of_decide_eq_true a2
  exact decide_eq_true (Nat.le_trans this (by decide))
theorem ask_if {x y : D} {b : Bool} {d : D} (h : ((if (askable x && askable y) = true then some b else none).map D.bl) = some d) : askable x = true ∧ askable y = true ∧ d = .bl b := by
  by_cases c : (askable x && askable y) = true
  · rw [if_pos c] at h
    cases h
    obtain ⟨h1, h2⟩ := Bool.and_eq_true_iff.mp c
    exact ⟨h1, h2, rfl⟩
  · rw [if_neg c] at h
    cases h
def cmpD (c : Cm) (x y : D) : Option D := (cmp2 c x y).map D.bl
theorem sem_eq : Sem2 K T (rEqD K) (cmpD .eq) := by
  intro B H x y d1 d2 d Q e r1 r2 hf k
  obtain ⟨a1, a2, rfl⟩ := ask_if (x := d1) (y := d2) hf
  obtain ⟨p1, s1⟩ := ask_of e a1 r1
  obtain ⟨p2, s2⟩ := ask_of e a2 r2
  refine ⟨_, _, p1, p2, s1, s2, ?_⟩
  rw [eqv_of _ _ (Bool.and_eq_true_iff.mp a1).1 (Bool.and_eq_true_iff.mp a2).1]
  exact k _ _ _ (New.refl e) (.bl _)
theorem sem_ne : Sem2 K T (rNeD K) (cmpD .ne) := by
  intro B H x y d1 d2 d Q e r1 r2 hf k
  obtain ⟨a1, a2, rfl⟩ := ask_if (x := d1) (y := d2) hf
  obtain ⟨p1, s1⟩ := ask_of e a1 r1
  obtain ⟨p2, s2⟩ := ask_of e a2 r2
  refine ⟨_, _, p1, p2, s1, s2, ?_⟩
  rw [eqv_of _ _ (Bool.and_eq_true_iff.mp a1).1 (Bool.and_eq_true_iff.mp a2).1]
  exact k _ _ _ (New.refl e) (.bl _)
def rLtD (K : PySem.W.Frag) : R2 := fun x y H Q => ∃ d e, Dp K H x d ∧ Dp K H y e ∧ SeqAt.shaped d = true ∧ SeqAt.shaped e = true ∧ PySem.W.alike d e = true ∧ d ≠ .none ∧ Q (.bl (PySem.W.dataLt d e)) H
theorem op_ltD {X : Cx} (hu : X.A.units + 65 < cLine) : OpR X (compareOp .Lt) (rLtD X.K) := by
  intro pins s σ H x y v u Q I rx ry h
  obtain ⟨d, e, hd, he, sd, se, al, ne, q⟩ := h
  obtain ⟨as, r1⟩ := Dp.reads I d x v hd rx
  obtain ⟨bs, r2⟩ := Dp.reads I e y u he ry
  refine PySem.W.rcLt_alike d e X.A s v u as bs r1 r2 al ne ?_ X.prog X.w X.xe _ ⟨.bl _, H, I, rfl, q⟩
  have hdp : d.depth ≤ 64 := by
    unfold SeqAt.shaped at sd
    obtain ⟨_, z⟩ := Bool.and_eq_true_iff.mp sd
    exact of_decide_eq_true z
  have := Nat.min_le_left d.depth e.depth
  omega
theorem sem_lt : Sem2 K T (fun x y H Q => rI0 (fun i j => .bl (decide (i < j))) x y H Q ∨ rLtD K x y H Q) (cmpD .lt) := by
  intro B H x y d1 d2 d Q e r1 r2 hf k
  have gen : ∀ x y d1 d2, Rq K T B H x d1 → Rq K T B H y d2 → (ltD d1 d2).map D.bl = some d → d1 ≠ .non → rLtD K x y H Q := fun x y d1 d2 r1 r2 hf hn => by
    unfold ltD at hf
    by_cases c : (askable d1 && (askable d2 && PySem.W.alike (toPy d1) (toPy d2))) = true
    · rw [if_pos c] at hf
      cases hf
      obtain ⟨a1, c⟩ := Bool.and_eq_true_iff.mp c
      obtain ⟨a2, al⟩ := Bool.and_eq_true_iff.mp c
      obtain ⟨p1, s1⟩ := ask_of e a1 r1
      obtain ⟨p2, s2⟩ := ask_of e a2 r2
      refine ⟨_, _, p1, p2, s1, s2, al, fun z => ?_, k _ _ _ (New.refl e) (.bl _)⟩
      cases d1 <;> first | exact hn rfl | cases z
    · rw [if_neg c] at hf
      cases hf
  cases d1 with
  | int i =>
    cases d2 with
    | int j =>
      cases r1
      cases r2
      cases hf
      exact .inl ⟨i, j, rfl, rfl, k _ _ _ (New.refl e) (.bl _)⟩
    | _ => cases hf
  | tup xs =>
    cases d2 with
    | tup ys => exact .inr (gen _ _ _ _ r1 r2 hf fun z => nomatch z)
    | _ => cases hf
  | lst xs =>
    cases d2 with
    | lst ys => exact .inr (gen _ _ _ _ r1 r2 hf fun z => nomatch z)
    | _ => cases hf
  | str xs =>
    cases d2 with
    | str ys => exact .inr (gen _ _ _ _ r1 r2 hf fun z => nomatch z)
    | _ => cases hf
  | _ => cases hf
theorem sem_le : Sem2 K T (rI0 fun i j => .bl (decide (i ≤ j))) (cmpD .le) := sem_int0 (fun i j d h B => by cases h; exact .bl _) fun x y d h => by
  cases x <;> cases y <;> first | exact ⟨_, _, rfl, rfl⟩ | cases h
theorem sem_gt : Sem2 K T (rI0 fun i j => .bl (decide (j < i))) (cmpD .gt) := sem_int0 (fun i j d h B => by cases h; exact .bl _) fun x y d h => by
  cases x <;> cases y <;> first | exact ⟨_, _, rfl, rfl⟩ | cases h
theorem sem_ge : Sem2 K T (rI0 fun i j => .bl (decide (j ≤ i))) (cmpD .ge) := sem_int0 (fun i j d h B => by cases h; exact .bl _) fun x y d h => by
  cases x <;> cases y <;> first | exact ⟨_, _, rfl, rfl⟩ | cases h

/-! ### in -/
theorem any_of (x : D) (hx : plain x = true) : ∀ ys : List D, plains ys = true → ((toPys ys).any fun z => PyData.eqv z (toPy x)) = inD x ys
  | [], _ => rfl
  | y :: ys, h => by
    obtain ⟨p1, p2⟩ := Bool.and_eq_true_iff.mp (show (plain y && plains ys) = true from h)
    show (PyData.eqv (toPy y) (toPy x) || (toPys ys).any fun z => PyData.eqv z (toPy x)) = (eqD y x || inD x ys)
    rw [eqv_of y x p1 hx, any_of x hx ys p2]
def rInT (K : PySem.W.Frag) (neg : Bool) : R2 := fun x y H Q => ∃ d ds, Dp K H x d ∧ Dp K H y (.tuple ds) ∧ SeqAt.shaped d = true ∧ SeqAt.shaped (.tuple ds) = true ∧ Q (.bl (if neg then !(ds.any fun z => PyData.eqv z d) else ds.any fun z => PyData.eqv z d)) H
theorem op_inT {X : Cx} (hu : X.A.units + 65 < cLine) : OpR X (compareOp .In) (rInT X.K false) := by
  intro pins s σ H x y v u Q I rx ry h
  obtain ⟨d, ds, hd, he, sd, se, q⟩ := h
  obtain ⟨as, r1⟩ := Dp.reads I d x v hd rx
  obtain ⟨bs, r2⟩ := Dp.reads I (.tuple ds) y u he ry
  exact SeqAt.in_tuple_reads r2 r1 (SeqAt.canLay_of_shaped se) (SeqAt.canLay_of_shaped sd) (PyProof.Rows.room_in_shaped sd hu) ⟨.bl _, H, I, rfl, q⟩
theorem op_notInT {X : Cx} (hu : X.A.units + 65 < cLine) : OpR X (compareOp .NotIn) (rInT X.K true) := by
  intro pins s σ H x y v u Q I rx ry h
  obtain ⟨d, ds, hd, he, sd, se, q⟩ := h
  obtain ⟨as, r1⟩ := Dp.reads I d x v hd rx
  obtain ⟨bs, r2⟩ := Dp.reads I (.tuple ds) y u he ry
  exact SeqAt.notIn_tuple_reads r2 r1 (SeqAt.canLay_of_shaped se) (SeqAt.canLay_of_shaped sd) (PyProof.Rows.room_in_shaped sd hu) ⟨.bl _, H, I, rfl, q⟩

def rInA (K : Fg) : R2 := fun x y H Q => ((∃ (c : Nat) (z : Str), x = .str ⟨#[c]⟩ ∧ y = .str z ∧ Q (.bl (decide (c ∈ z.cps.toList))) H) ∨ rInD K x y H Q) ∨ rInT K false x y H Q
def rNinA (K : Fg) : R2 := fun x y H Q => ((∃ (c : Nat) (z : Str), x = .str ⟨#[c]⟩ ∧ y = .str z ∧ Q (.bl (!decide (c ∈ z.cps.toList))) H) ∨ rNotInD K x y H Q) ∨ rInT K true x y H Q
theorem one_sign {x : Str} {c : Nat} (h : x.cps.toList = [c]) : x = ⟨#[c]⟩ := by
  obtain ⟨a⟩ := x
  have : a = [c].toArray := by
    rw [← h]
  subst this
  rfl
theorem sem_in : Sem2 K T (rInA K) (cmpD .in_) := by
  intro B H x y d1 d2 d Q e r1 r2 hf k
  cases d2 with
  | str t =>
    cases r1 with
    | str x h o =>
      cases r2 with
      | str y h2 o2 =>
        match hx : x.cps.toList, hf with
        | [c], hf =>
          cases hf
          exact .inl (.inl ⟨c, y, by rw [one_sign hx], rfl, k _ _ _ (New.refl e) (.bl _)⟩)
        | [], hf => cases hf
        | _ :: _ :: _, hf => cases hf
    | _ => cases hf
  | lst ys =>
    have hf' : ((if (askable d1 && askable (.lst ys)) = true then some (inD d1 ys) else none).map D.bl) = some d := by
      cases d1 with
      | str t => match t, hf with
        | [], hf => exact hf
        | [_], hf => exact hf
        | _ :: _ :: _, hf => exact hf
      | _ => exact hf
    obtain ⟨a1, a2, rfl⟩ := ask_if hf'
    obtain ⟨p1, s1⟩ := ask_of e a1 r1
    obtain ⟨p2, s2⟩ := ask_of e a2 r2
    refine .inl (.inr ⟨_, _, p1, p2, s1, s2, ?_⟩)
    rw [any_of d1 (Bool.and_eq_true_iff.mp a1).1 ys (Bool.and_eq_true_iff.mp a2).1]
    exact k _ _ _ (New.refl e) (.bl _)
  | tup ys =>
    have hf' : ((if (askable d1 && askable (.tup ys)) = true then some (inD d1 ys) else none).map D.bl) = some d := by
      cases d1 with
      | str t => match t, hf with
        | [], hf => exact hf
        | [_], hf => exact hf
        | _ :: _ :: _, hf => exact hf
      | _ => exact hf
    obtain ⟨a1, a2, rfl⟩ := ask_if hf'
    obtain ⟨p1, s1⟩ := ask_of e a1 r1
    obtain ⟨p2, s2⟩ := ask_of e a2 r2
    refine .inr ⟨_, _, p1, p2, s1, s2, ?_⟩
    rw [if_neg Bool.false_ne_true, any_of d1 (Bool.and_eq_true_iff.mp a1).1 ys (Bool.and_eq_true_iff.mp a2).1]
    exact k _ _ _ (New.refl e) (.bl _)
  | _ => cases d1 with
    | str t => match t, hf with
      | [], hf => cases hf
      | [_], hf => cases hf
      | _ :: _ :: _, hf => cases hf
    | _ => cases hf
theorem sem_nin : Sem2 K T (rNinA K) (cmpD .nin) := by
  intro B H x y d1 d2 d Q e r1 r2 hf k
  cases d2 with
  | str t =>
    cases r1 with
    | str x h o =>
      cases r2 with
      | str y h2 o2 =>
        match hx : x.cps.toList, hf with
        | [c], hf =>
          cases hf
          exact .inl (.inl ⟨c, y, by rw [one_sign hx], rfl, k _ _ _ (New.refl e) (.bl _)⟩)
        | [], hf => cases hf
        | _ :: _ :: _, hf => cases hf
    | _ => cases hf
  | lst ys =>
    have hf' : ((if (askable d1 && askable (.lst ys)) = true then some (!inD d1 ys) else none).map D.bl) = some d := by
      cases d1 with
      | str t => match t, hf with
        | [], hf => exact hf
        | [_], hf => exact hf
        | _ :: _ :: _, hf => exact hf
      | _ => exact hf
    obtain ⟨a1, a2, rfl⟩ := ask_if hf'
    obtain ⟨p1, s1⟩ := ask_of e a1 r1
    obtain ⟨p2, s2⟩ := ask_of e a2 r2
    refine .inl (.inr ⟨_, _, p1, p2, s1, s2, ?_⟩)
    rw [any_of d1 (Bool.and_eq_true_iff.mp a1).1 ys (Bool.and_eq_true_iff.mp a2).1]
    exact k _ _ _ (New.refl e) (.bl _)
  | tup ys =>
    have hf' : ((if (askable d1 && askable (.tup ys)) = true then some (!inD d1 ys) else none).map D.bl) = some d := by
      cases d1 with
      | str t => match t, hf with
        | [], hf => exact hf
        | [_], hf => exact hf
        | _ :: _ :: _, hf => exact hf
      | _ => exact hf
    obtain ⟨a1, a2, rfl⟩ := ask_if hf'
    obtain ⟨p1, s1⟩ := ask_of e a1 r1
    obtain ⟨p2, s2⟩ := ask_of e a2 r2
    refine .inr ⟨_, _, p1, p2, s1, s2, ?_⟩
    rw [if_pos rfl, any_of d1 (Bool.and_eq_true_iff.mp a1).1 ys (Bool.and_eq_true_iff.mp a2).1]
    exact k _ _ _ (New.refl e) (.bl _)
  | _ => cases d1 with
    | str t => match t, hf with
      | [], hf => cases hf
      | [_], hf => cases hf
      | _ :: _ :: _, hf => cases hf
    | _ => cases hf
theorem sem_isN : Sem1 K T (fun x H Q => Q (.bl (decide (x = .non))) H) (un1 .isN) := by
  intro B H x d1 d Q e r1 hf k
  cases r1 <;> (cases hf; exact k _ _ _ (New.refl e) (.bl _))
theorem sem_notN : Sem1 K T (fun x H Q => Q (.bl (!decide (x = .non))) H) (un1 .notN) := by
  intro B H x d1 d Q e r1 hf k
  cases r1 <;> (cases hf; exact k _ _ _ (New.refl e) (.bl _))
end

/-! ### the comparisons' rules -/
/-- op is c's -/
structure Cmp (X : Cx) (T : Tb) (op : CmpOp) (c : Cm) : Prop where
  to : ∃ r : R2, OpR X (compareOp op) r ∧ Sem2 X.K T r (cmpD c)
section
variable {X : Cx} {T : Tb} {C : CE} {W : WX} {J : Jt} {a b e : Expr} {a' b' e' : E} {pos : Pos} {k : Nat}
def tT (K : Fg) (T : Tb) (C : CE) (W : WX) (J : Jt) (e : E) : TT := fun σ H Q => tE K T C W J e σ H fun v H' => ∃ k, v = .bl k ∧ Q k H'
abbrev PDt (X : Cx) (T : Tb) (C : CE) (W : WX) (J : Jt) (e : Expr) (e' : E) : Prop := PT X e (tT X.K T C W J e')
theorem u64 (hr : Room k X.A) : X.A.units + 64 < cLine := hr.units
theorem u65 (hr : Room k X.A) : X.A.units + 65 < cLine := by have := hr.un; omega
theorem cm_eq (hr : Room k X.A) : Cmp X T .Eq .eq := ⟨_, op_eqD (u64 hr), sem_eq⟩
theorem cm_ne (hr : Room k X.A) : Cmp X T .NotEq .ne := ⟨_, op_neD (u64 hr), sem_ne⟩
theorem cm_lt (hr : Room k X.A) : Cmp X T .Lt .lt := ⟨_, OpR.or op_lt (op_ltD (u65 hr)), sem_lt⟩
theorem cm_le : Cmp X T .LtE .le := ⟨_, op_le, sem_le⟩
theorem cm_gt : Cmp X T .Gt .gt := ⟨_, op_gt, sem_gt⟩
theorem cm_ge : Cmp X T .GtE .ge := ⟨_, op_ge, sem_ge⟩
theorem cm_in (hr : Room k X.A) : Cmp X T .In .in_ := ⟨_, OpR.or (OpR.or op_in_sign (op_inD (u65 hr))) (op_inT (u65 hr)), sem_in⟩
theorem cm_nin (hr : Room k X.A) : Cmp X T .NotIn .nin := ⟨_, OpR.or (OpR.or op_notIn_sign (op_notInD (u65 hr))) (op_notInT (u65 hr)), sem_nin⟩
theorem ev_cmp (C : CE) (c : Cm) (a b : E) (ρ : Ro) (m : Mu) : ev C (.cmp c a b) ρ m = (ev C a ρ m).bnd fun x m => (ev C b ρ m).bnd fun y m => match see m x, see m y with
    | some d, some e => Res ((cmpD c d e).map U.v) m
    | _, _ => .no := by rw [ev] <;> rfl
theorem pd_cmp {op : CmpOp} {c : Cm} (hc : Cmp X T op c) (hJ : Mono J) (ha : PD X T C W J a a') (hb : PD X T C W J b b') (hm : behindInMarks op b = false) : PD X T C W J (.Compare a [op] [b] pos) (.cmp c a' b') := by
  obtain ⟨r, h1, h2⟩ := hc.to
  exact PE.weak (pe_cmpR h1 ha hb hm) (pd_two (t := tOp r) hJ (fun _ _ _ _ _ h => h) h2 fun ρ m => ev_cmp C c a' b' ρ m)
theorem pt_cmp' {op : CmpOp} {c : Cm} (hc : Cmp X T op c) (hJ : Mono J) (ha : PD X T C W J a a') (hb : PD X T C W J b b') (hm : behindInMarks op b = false) : PDt X T C W J (.Compare a [op] [b] pos) (.cmp c a' b') := by
  obtain ⟨r, h1, h2⟩ := hc.to
  exact PT.weak (pt_cmpR h1 ha hb hm) fun σ H Q h => pd_two (t := tOp r) hJ (fun _ _ _ _ _ h => h) h2 (fun ρ m => ev_cmp C c a' b' ρ m) σ H _ h
theorem ev_un (C : CE) (o : Un) (a : E) (ρ : Ro) (m : Mu) : ev C (.un o a) ρ m = (ev C a ρ m).bnd fun x m => match see m x with
    | some d => Res ((un1 o d).map U.v) m
    | none => .no := by rw [ev] <;> rfl
theorem pd_isN {j pos'} (hJ : Mono J) (ha : PD X T C W J a a') : PD X T C W J (.Compare a [.Is] [.Constant .none j pos'] pos) (.un .isN a') :=
  PE.weak (pe_cmp (pc_isN ha)) (pd_one (t := tIsN) hJ (fun _ _ _ _ h => h) sem_isN fun ρ m => ev_un C .isN a' ρ m)
theorem pd_notN {j pos'} (hJ : Mono J) (ha : PD X T C W J a a') : PD X T C W J (.Compare a [.IsNot] [.Constant .none j pos'] pos) (.un .notN a') :=
  PE.weak (pe_cmp (pc_notN ha)) (pd_one (t := tNotN) hJ (fun _ _ _ _ h => h) sem_notN fun ρ m => ev_un C .notN a' ρ m)
theorem pt_isN {j pos'} (hJ : Mono J) (ha : PD X T C W J a a') : PDt X T C W J (.Compare a [.Is] [.Constant .none j pos'] pos) (.un .isN a') :=
  PT.weak (pt_cmp (pc_isN ha)) fun σ H Q h => pd_one (t := tIsN) hJ (fun _ _ _ _ h => h) sem_isN (fun ρ m => ev_un C .isN a' ρ m) σ H _ h
theorem pt_notN {j pos'} (hJ : Mono J) (ha : PD X T C W J a a') : PDt X T C W J (.Compare a [.IsNot] [.Constant .none j pos'] pos) (.un .notN a') :=
  PT.weak (pt_cmp (pc_notN ha)) fun σ H Q h => pd_one (t := tNotN) hJ (fun _ _ _ _ h => h) sem_notN (fun ρ m => ev_un C .notN a' ρ m) σ H _ h

/-! ### and, or, not, if .. else -/
theorem bl_of {K : Fg} {n : Nat} {π : Nat → Addr} {B : Hp} {v : V} {b : Bool} (r : Ru K T n π B v (.v (.bl b))) : v = .bl b := by
  cases r
  rfl
theorem pt_val' (h : PD X T C W J e e') (he : ∀ whole, isTrue e X.env whole = (do let v ← whole; standAt e.pos; holding [v] (truthy v)) := by intro _; rfl) : PDt X T C W J e e' :=
  PT.weak (pt_val h he) fun σ H Q q => q
/-- what a bool does -/
theorem bool_bnd {e : E} {γ : Type} {δ : Type} {rel : Rel γ δ} {K : Fg} {π : Nat → Addr} {B H : Hp} {m : Mu} {σ : L2.St} {ρ : Ro} {f : U → Mu → R γ} {g : Bool → Mu → R γ} {Q : δ → Hp → Prop} {G : Bool → Hp → Prop} (hJ : Mono J)
    (b : Bs K T J π B H m σ ρ) (w : Want rel K T W σ π B H m ((ev C e ρ m).bnd f) Q) (hf : ∀ u m, (∃ c, u = .v (.bl c) ∧ f u m = g c m) ∨ f u m = .no)
    (k : ∀ c H1 π1 B1 m1, Bs K T J π1 B1 H1 m1 σ ρ → Want rel K T W σ π1 B1 H1 m1 (g c m1) Q → G c H1) : tE K T C W J e σ H fun v H' => ∃ k, v = .bl k ∧ G k H' :=
  tE_bnd hJ b w fun v H1 π1 B1 m1 u s1 b1 r1 w1 => by
    rcases hf u m1 with ⟨c, rfl, h2⟩ | h2
    · rw [h2] at w1
      exact ⟨c, bl_of r1, k c H1 π1 B1 m1 b1 w1⟩
    · rw [h2] at w1
      exact w1.elim
theorem ifs_cases {γ : Type} (p q : Mu → R γ) (u : U) (m : Mu) : (∃ c, u = .v (.bl c) ∧ (match u with
    | .v (.bl true) => p m
    | .v (.bl false) => q m
    | _ => .no) = (match c with | true => p m | false => q m)) ∨ (match u with
    | .v (.bl true) => p m
    | .v (.bl false) => q m
    | _ => (R.no : R γ)) = .no := by
  cases u with
  | p k => exact .inr rfl
  | v d => cases d with
    | bl b => cases b <;> exact .inl ⟨_, rfl, rfl⟩
    | _ => exact .inr rfl
theorem not_cases (u : U) (m : Mu) : (∃ c, u = .v (.bl c) ∧ (match u with
    | .v (.bl b) => R.ok (U.v (.bl !b)) m
    | _ => .no) = R.ok (U.v (.bl !c)) m) ∨ (match u with
    | .v (.bl b) => R.ok (U.v (.bl !b)) m
    | _ => .no) = .no := by
  cases u with
  | p k => exact .inr rfl
  | v d => cases d with
    | bl b => exact .inl ⟨_, rfl, rfl⟩
    | _ => exact .inr rfl
theorem pd_not (hJ : Mono J) (ha : PD X T C W J a a') : PD X T C W J (.UnaryOp .Not a pos) (.not_ a') := by
  refine PE.weak (pe_not ha) fun σ H Q h => ?_
  obtain ⟨π, B, m, ρ, b, w⟩ := h
  rw [ev] at w
  exact bool_bnd (g := fun c m => R.ok (U.v (.bl !c)) m) hJ b w not_cases fun c H1 π1 B1 m1 b1 w1 => want_ok w1 b1.st (.bl _)
theorem ptw_not (hJ : Mono J) (ha : PDt X T C W J a a') : PDt X T C W J (.UnaryOp .Not a pos) (.not_ a') := by
  refine PT.weak (pt_not ha) fun σ H Q h => ?_
  obtain ⟨π, B, m, ρ, b, w⟩ := h
  rw [ev] at w
  refine bool_bnd (g := fun c m => R.ok (U.v (.bl !c)) m) hJ b w not_cases fun c H1 π1 B1 m1 b1 w1 => ?_
  obtain ⟨k, e, q⟩ := want_ok w1 b1.st (.bl _)
  cases e
  exact q
theorem pd_and {rest : List Expr} (hJ : Mono J) (ha : PD X T C W J a a') (hb : PD X T C W J (.BoolOp .And (b :: rest) pos) b') : PD X T C W J (.BoolOp .And (a :: b :: rest) pos) (.and_ a' b') := by
  refine PE.weak (pe_and ha hb) fun σ H Q h => ?_
  obtain ⟨π, B, m, ρ, b, w⟩ := h
  rw [ev] at w
  refine bool_bnd (g := fun c m => match c with | true => ev C b' ρ m | false => R.ok (U.v (.bl false)) m) hJ b w (ifs_cases _ _) fun c H1 π1 B1 m1 b1 w1 => ?_
  cases c with
  | true => exact iteT ⟨π1, B1, m1, ρ, b1, w1⟩
  | false => exact iteF (want_ok w1 b1.st (.bl _))
theorem pd_or {rest : List Expr} (hJ : Mono J) (ha : PD X T C W J a a') (hb : PD X T C W J (.BoolOp .Or (b :: rest) pos) b') : PD X T C W J (.BoolOp .Or (a :: b :: rest) pos) (.or_ a' b') := by
  refine PE.weak (pe_or ha hb) fun σ H Q h => ?_
  obtain ⟨π, B, m, ρ, b, w⟩ := h
  rw [ev] at w
  refine bool_bnd (g := fun c m => match c with | true => R.ok (U.v (.bl true)) m | false => ev C b' ρ m) hJ b w (ifs_cases _ _) fun c H1 π1 B1 m1 b1 w1 => ?_
  cases c with
  | true => exact iteT (want_ok w1 b1.st (.bl _))
  | false => exact iteF ⟨π1, B1, m1, ρ, b1, w1⟩
theorem pd_one1 {op} (h : PD X T C W J a a') : PD X T C W J (.BoolOp op [a] pos) a' := pe_one h
/-- in tests -/
abbrev PDw (X : Cx) (T : Tb) (C : CE) (W : WX) (J : Jt) (e : Expr) (e' : E) : Prop := PW X e (tT X.K T C W J e')
theorem PW.weak {t u : TT} (h : PW X e t) (k : ∀ σ H Q, u σ H Q → t σ H Q) : PW X e u := ⟨fun whole pins s σ H Q I q => h.run whole pins s σ H Q I (k σ H Q q)⟩
theorem ptw_and {rest : List Expr} (hJ : Mono J) (ha : PDt X T C W J a a') (hb : PDw X T C W J (.BoolOp .And (b :: rest) pos) b') : PDw X T C W J (.BoolOp .And (a :: b :: rest) pos) (.and_ a' b') := by
  refine PW.weak (pw_and ha hb) fun σ H Q h => ?_
  obtain ⟨π, B, m, ρ, b, w⟩ := h
  rw [ev] at w
  refine bool_bnd (g := fun c m => match c with | true => ev C b' ρ m | false => R.ok (U.v (.bl false)) m) hJ b w (ifs_cases _ _) fun c H1 π1 B1 m1 b1 w1 => ?_
  cases c with
  | true => exact iteT ⟨π1, B1, m1, ρ, b1, w1⟩
  | false =>
    obtain ⟨k, e, q⟩ := want_ok w1 b1.st (.bl _)
    cases e
    exact iteF q
theorem ptw_or {rest : List Expr} (hJ : Mono J) (ha : PDt X T C W J a a') (hb : PDw X T C W J (.BoolOp .Or (b :: rest) pos) b') : PDw X T C W J (.BoolOp .Or (a :: b :: rest) pos) (.or_ a' b') := by
  refine PW.weak (pw_or ha hb) fun σ H Q h => ?_
  obtain ⟨π, B, m, ρ, b, w⟩ := h
  rw [ev] at w
  refine bool_bnd (g := fun c m => match c with | true => R.ok (U.v (.bl true)) m | false => ev C b' ρ m) hJ b w (ifs_cases _ _) fun c H1 π1 B1 m1 b1 w1 => ?_
  cases c with
  | true =>
    obtain ⟨k, e, q⟩ := want_ok w1 b1.st (.bl _)
    cases e
    exact iteT q
  | false => exact iteF ⟨π1, B1, m1, ρ, b1, w1⟩
theorem ptw_and1 (ha : PDt X T C W J a a') : PDw X T C W J (.BoolOp .And [a] pos) a' := pw_and1 ha
theorem ptw_or1 (ha : PDt X T C W J a a') : PDw X T C W J (.BoolOp .Or [a] pos) a' := pw_or1 ha
theorem pd_ifx {c : Expr} {c' : E} (hJ : Mono J) (hc : PDt X T C W J c c') (ha : PD X T C W J a a') (hb : PD X T C W J b b') : PD X T C W J (.IfExp c a b pos) (.ifx c' a' b') := by
  refine PE.weak (pe_ifExp hc ha hb) fun σ H Q h => ?_
  obtain ⟨π, B, m, ρ, b, w⟩ := h
  rw [ev] at w
  refine bool_bnd (g := fun c m => match c with | true => ev C a' ρ m | false => ev C b' ρ m) hJ b w (ifs_cases _ _) fun c H1 π1 B1 m1 b1 w1 => ?_
  cases c with
  | true => exact iteT ⟨π1, B1, m1, ρ, b1, w1⟩
  | false => exact iteF ⟨π1, B1, m1, ρ, b1, w1⟩
end
end At

/-! Displays, the store, subscripts, built-in functions. -/
namespace At
open PySem L2 Evl

theorem tabS_upd {H : Hp} {P a : Addr} {q : Str} {o : HO} (t : LamX.TabS H P q) (hP : a ≠ P) (ha : ∀ φ, H a ≠ some (.ext φ)) : LamX.TabS (upd H a o) P q := by
  obtain ⟨ps, h1, h2, h3⟩ := t
  refine ⟨ps, by rw [upd_ne (Ne.symm hP)]; exact h1, h2, fun pos cv hc => ?_⟩
  obtain ⟨c, e1, e2⟩ := h3 pos cv hc
  have : c ≠ a := fun z => ha _ (by rw [← z]; exact e2)
  exact ⟨c, e1, by rw [upd_ne this]; exact e2⟩
theorem tabs_upd {T : Tb} {H : Hp} {a : Addr} {o : HO} (t : LamX.Tabs T.tabs H) (h1 : ∀ ps, H a ≠ some (.tbl ps)) (h2 : ∀ φ, H a ≠ some (.ext φ)) : LamX.Tabs T.tabs (L2.upd H a o) := fun p hp => tabS_upd (t p hp) (fun z => by
  obtain ⟨ps, h, _⟩ := t p hp
  rw [← z] at h
  exact h1 ps h) h2
section
variable {K : Fg} {T : Tb} {π π' : Nat → Addr} {B B' H H' : Hp} {m m' : Mu}
/-- a new thing of the store -/
theorem Step.push {x : M} {o : HO} (s : Sto K T π B H m) {p : Addr} (hp : H p = none) (ho : ∀ y, o ≠ .own y) (hot : ∀ ps, o ≠ .tbl ps)
    (hc : Cell K T (m ++ [x]).length (fun k => if k = m.length then p else π k) B (upd H p o) p x) :
    Step K T π B H m (fun k => if k = m.length then p else π k) B (upd H p o) (m ++ [x]) := by
  have ln : (m ++ [x]).length = m.length + 1 := by simp
  have old : ∀ k, k < m.length → (fun k => if k = m.length then p else π k) k = π k := fun k hk => if_neg (Nat.ne_of_lt hk)
  have hpk : ∀ k, k < m.length → p ≠ π k := fun k hk z => by
    obtain ⟨o, h, _⟩ := s.dom k hk
    rw [← z, hp] at h
    cases h
  have ex : Ex B (upd H p o) := fun a u e => by
    rw [upd_ne (ne_of_none (s.ex a u e) hp)]
    exact s.ex a u e
  refine ⟨⟨ex, fun i j hi hj e => ?_, fun k hk => ?_, fun k y e => ?_, s.tb.ext (Ex.new hp), s.nt⟩, old, by rw [ln]; exact Nat.le_succ _, Ex.refl B, fun a u h _ _ => ?_, fun k h1 h2 u e => ?_, fun _ _ _ _ _ _ => rfl⟩
  · rw [ln] at hi hj
    by_cases ci : i = m.length
    · by_cases cj : j = m.length
      · rw [ci, cj]
      · rw [if_pos ci, if_neg cj] at e
        exact absurd e (hpk j (by omega))
    · by_cases cj : j = m.length
      · rw [if_neg ci, if_pos cj] at e
        exact absurd e.symm (hpk i (by omega))
      · rw [if_neg ci, if_neg cj] at e
        exact s.inj i j (by omega) (by omega) e
  · rw [ln] at hk
    by_cases c : k = m.length
    · rw [if_pos c]
      exact ⟨o, upd_same, ho, hot⟩
    · rw [if_neg c]
      obtain ⟨u, h, n⟩ := s.dom k (by omega)
      exact ⟨u, by rw [upd_ne (Ne.symm (hpk k (by omega)))]; exact h, n⟩
  · by_cases c : k < m.length
    · rw [List.getElem?_append_left c] at e
      have h := s.cell k y e
      have hl : m.length ≤ (m ++ [x]).length := by rw [ln]; exact Nat.le_succ _
      show Cell K T _ _ B _ ((fun k => if k = m.length then p else π k) k) y
      rw [old k c]
      cases y with
      | lst us =>
        obtain ⟨h1, xs, h2, h3, h4⟩ := h
        exact ⟨h1, xs, by rw [upd_ne (Ne.symm (hpk k c))]; exact h2, h3, Rus.mono hl old (Ex.refl B) h4⟩
      | obj c' fs =>
        obtain ⟨h1, hi, dx, fv, h2, h3, h4⟩ := h
        exact ⟨h1, hi, dx, fv, by rw [upd_ne (Ne.symm (hpk k c))]; exact h2, by rw [upd_ne (ne_of_none h3 hp)]; exact h3, Ruf.mono hl old (Ex.refl B) h4⟩
      | fz d => exact h
    · have hk : k = m.length := by
        have := (List.getElem?_eq_some_iff.mp e).1
        rw [ln] at this
        omega
      subst hk
      rw [List.getElem?_append_right (Nat.le_refl _), Nat.sub_self] at e
      cases e
      show Cell K T _ _ B _ ((fun k => if k = m.length then p else π k) m.length) x
      dsimp only
      rw [if_pos rfl]
      exact hc
  · rw [upd_ne (ne_of_none h hp)]
    exact h
  · have hk : k = m.length := by
      rw [ln] at h2
      omega
    rw [if_pos hk, hp] at e
    cases e
theorem Step.alloc {xs : List V} {us : List U} (s : Sto K T π B H m) {p : Addr} (hp : H p = none) (hz : xs.length ≤ lim) (r : Rus K T m.length π B xs us) :
    Step K T π B H m (fun k => if k = m.length then p else π k) B (upd H p (.lst xs)) (m ++ [.lst us]) :=
  Step.push s hp (fun _ z => nomatch z) (fun _ z => nomatch z) ⟨fresh_back s.ex hp, xs, upd_same, hz, Rus.mono (by simp) (fun k hk => if_neg (Nat.ne_of_lt hk)) (Ex.refl B) r⟩
/-- a thing of the store is changed -/
theorem Step.put {k : Nat} {x : M} {o o0 : HO} (s : Sto K T π B H m) (hk : k < m.length) (hB : B (π k) = none) (h0 : H (π k) = some o0) (hx : ∀ φ, o0 ≠ .ext φ) (ht : ∀ ps, o0 ≠ .tbl ps) (ho : ∀ y, o ≠ .own y) (hot : ∀ ps, o ≠ .tbl ps) (hc : Cell K T (m.set k x).length π B (upd H (π k) o) (π k) x) : Step K T π B H m π B (upd H (π k) o) (m.set k x) := by
  have ln : (m.set k x).length = m.length := List.length_set
  have ex : Ex B (upd H (π k) o) := fun a u e => by
    have : a ≠ π k := fun z => by rw [z, hB] at e; cases e
    rw [upd_ne this]
    exact s.ex a u e
  refine ⟨⟨ex, fun i j hi hj e => ?_, fun j hj => ?_, fun j y e => ?_, tabs_upd s.tb (fun ps z => ht ps (by rw [h0] at z; exact Option.some.inj z)) (fun φ z => hx φ (by rw [h0] at z; exact Option.some.inj z)), s.nt⟩, fun _ _ => rfl, by rw [ln]; exact Nat.le_refl _, Ex.refl B, fun a u h _ hn => ?_, fun j h1 h2 => ?_, fun _ _ _ _ _ _ => rfl⟩
  · rw [ln] at hi hj
    exact s.inj i j hi hj e
  · rw [ln] at hj
    by_cases c : π j = π k
    · rw [c]
      exact ⟨o, upd_same, ho, hot⟩
    · obtain ⟨u, h, n⟩ := s.dom j hj
      exact ⟨u, by rw [upd_ne c]; exact h, n⟩
  · by_cases c : j = k
    · subst c
      rw [List.getElem?_set_self hk] at e
      cases e
      exact hc
    · rw [List.getElem?_set_ne (Ne.symm c)] at e
      have hj : j < m.length := (List.getElem?_eq_some_iff.mp e).1
      have ne : π j ≠ π k := fun z => c (s.inj j k hj hk z)
      have h := s.cell j y e
      rw [ln]
      cases y with
      | lst us =>
        obtain ⟨h1, xs, h2, h3, h4⟩ := h
        exact ⟨h1, xs, by rw [upd_ne ne]; exact h2, h3, h4⟩
      | obj c' fs =>
        obtain ⟨h1, hi, dx, fv, h2, h3, h4⟩ := h
        have hd : dx ≠ π k := fun z => by
          obtain ⟨u, hu, n, _⟩ := s.dom k hk
          rw [← z, h3] at hu
          cases hu
          exact n _ rfl
        exact ⟨h1, hi, dx, fv, by rw [upd_ne ne]; exact h2, by rw [upd_ne hd]; exact h3, h4⟩
      | fz d => exact h
  · rw [upd_ne (hn k hk)]
    exact h
  · rw [ln] at h2
    omega
/-- a thing of the store stays as it is from now on -/
theorem Step.freeze {k : Nat} {x : M} {d : D} (s : Sto K T π B H m) (hx : m[k]? = some x) (hd : seeM x = some d) : ∃ B', Step K T π B H m π B' H (m.set k (.fz d)) ∧ Rp K T B' (.ref (π k)) d := by
  have hk : k < m.length := (List.getElem?_eq_some_iff.mp hx).1
  have ln : (m.set k (M.fz d)).length = m.length := List.length_set
  have h := s.cell k x hx
  have fin : ∀ B', Ex B B' → Ex B' H → Rp K T B' (.ref (π k)) d → (∀ j, j < m.length → j ≠ k → B' (π j) = B (π j)) → (∀ a o, H a = some o → (∀ k, k < m.length → a ≠ π k) → (∀ y, o ≠ .own y) → B' a = B a) → (∀ a ps, B' a ≠ some (.tbl ps)) → ∃ B', Step K T π B H m π B' H (m.set k (.fz d)) ∧ Rp K T B' (.ref (π k)) d := by
    intro B' e1 e2 r hj hn nt
    refine ⟨B', ⟨⟨e2, fun i j hi hj e => ?_, fun j hj => ?_, fun j y e => ?_, s.tb, nt⟩, fun _ _ => rfl, by rw [ln]; exact Nat.le_refl _, e1, fun a u h _ _ => h, fun j h1 h2 => ?_, fun a o h _ => hn a o h⟩, r⟩
    · rw [ln] at hi hj
      exact s.inj i j hi hj e
    · rw [ln] at hj
      exact s.dom j hj
    · by_cases c : j = k
      · subst c
        rw [List.getElem?_set_self hk] at e
        cases e
        exact r
      · rw [List.getElem?_set_ne (Ne.symm c)] at e
        have hj' : j < m.length := (List.getElem?_eq_some_iff.mp e).1
        have h := s.cell j y e
        rw [ln]
        cases y with
        | lst us =>
          obtain ⟨h1, xs, h2, h3, h4⟩ := h
          exact ⟨(hj j hj' c).trans h1, xs, h2, h3, Rus.mono (Nat.le_refl _) (fun _ _ => rfl) e1 h4⟩
        | obj c' fs =>
          obtain ⟨h1, hi, dx, fv, h2, h3, h4⟩ := h
          exact ⟨(hj j hj' c).trans h1, hi, dx, fv, h2, h3, Ruf.mono (Nat.le_refl _) (fun _ _ => rfl) e1 h4⟩
        | fz d => exact Rp.mono e1 h
    · rw [ln] at h2
      omega
  cases x with
  | lst us =>
    obtain ⟨h1, xs, h2, h3, h4⟩ := h
    obtain ⟨ds, q1, q2⟩ := Option.map_eq_some_iff.mp hd
    subst q2
    have e1 : Ex B (upd B (π k) (.lst xs)) := Ex.new h1
    refine fin (upd B (π k) (.lst xs)) e1 (fun a u e => ?_) (.lst upd_same h3 ((plainU_ok h4 q1).mono e1)) (fun j hj c => upd_ne fun z => c (s.inj j k hj hk z)) (fun a o _ hn _ => upd_ne (hn k hk)) (nt_upd s.nt fun _ z => nomatch z)
    by_cases c : a = π k
    · subst c
      rw [upd_same] at e
      rw [h2]
      exact e
    · rw [upd_ne c] at e
      exact s.ex a u e
  | obj c' fs =>
    obtain ⟨h1, hi, dx, fv, h2, h3, h4⟩ := h
    obtain ⟨ds, q1, q2⟩ := Option.map_eq_some_iff.mp hd
    subst q2
    have hdk : dx ≠ π k := fun z => by rw [z, h2] at h3; cases h3
    have e1 : Ex B (upd (upd B (π k) (.ins (cl K T c') dx fv)) dx (.own (π k))) := fun a u e => by
      by_cases c : a = dx
      · subst c
        have := s.ex _ _ e
        rw [h3] at this
        rw [upd_same]
        exact this
      · rw [upd_ne c]
        exact Ex.new h1 a u e
    refine fin _ e1 (fun a u e => ?_) (.obj hi (by rw [upd_ne (Ne.symm hdk)]; exact upd_same) upd_same ((plainF_ok h4 q1).mono e1)) (fun j hj c => ?_) (fun a o ha hn ho => ?_) (nt_upd (nt_upd s.nt fun _ z => nomatch z) fun _ z => nomatch z)
    · by_cases c : a = dx
      · subst c
        rw [upd_same] at e
        rw [h3]
        exact e
      · rw [upd_ne c] at e
        by_cases c2 : a = π k
        · subst c2
          rw [upd_same] at e
          rw [h2]
          exact e
        · rw [upd_ne c2] at e
          exact s.ex a u e
    · have nd : π j ≠ dx := fun z => by
        obtain ⟨u, hu, n, _⟩ := s.dom j hj
        rw [z, h3] at hu
        cases hu
        exact n _ rfl
      rw [upd_ne nd, upd_ne fun z => c (s.inj j k hj hk z)]
    · have : a ≠ dx := fun z => by
        rw [z, h3] at ha
        cases ha
        exact ho _ rfl
      rw [upd_ne this, upd_ne (hn k hk)]
  | fz d' =>
    cases hd
    exact fin B (Ex.refl B) s.ex h (fun _ _ _ => rfl) (fun _ _ _ _ _ => rfl) s.nt
end
end At

/-! Displays, subscripts, built-in functions. -/
namespace At
open PySem L2 Evl

section
variable {X : Cx} {T : Tb} {C : CE} {W : WX} {J : Jt} {a b e : Expr} {a' b' e' : E} {es : List Expr} {es' : E} {pos : Pos}
theorem pds_nil : PDs X T C W J [] .nil := PA.weak pa_nil fun σ H Q h => by
  obtain ⟨π, B, m, ρ, b, w⟩ := h
  rw [evs] at w
  exact w [] H π B (Step.refl b.st) .nil
theorem pds_cons (hJ : Mono J) (ha : PD X T C W J a a') (hr : PDs X T C W J es es') (hs : starEach (a :: es) X.env = (false, eval a X.env) :: starEach es X.env := by rfl) : PDs X T C W J (a :: es) (.cons a' es') :=
  PA.weak (pa_cons ha hr hs) fun σ H Q h => by
    obtain ⟨π, B, m, ρ, b, w⟩ := h
    rw [evs] at w
    exact tE_bnd hJ b w fun x H1 π1 B1 m1 u1 s1 b1 r1 w1 => tEs_bnd hJ b1 w1 fun xs H2 π2 B2 m2 us s2 b2 r2 w2 => w2 (x :: xs) H2 π2 B2 (Step.refl b2.st) (.cons (s2.ru r1) r2)

theorem rus_len {K : Fg} {n : Nat} {π : Nat → Addr} {B : Hp} {xs : List V} {us : List U} (r : Rus K T n π B xs us) : xs.length = us.length := Paired.length r
theorem plainU_len : ∀ {us : List U} {ds : List D}, plainU us = some ds → us.length = ds.length
  | [], _, e => by cases e; rfl
  | .v d :: us, _, e => by
    obtain ⟨r, h1, h2⟩ := Option.map_eq_some_iff.mp (show (plainU us).map (d :: ·) = _ from e)
    subst h2
    rw [List.length_cons, List.length_cons, plainU_len h1]
  | .p k :: us, _, e => by cases e

theorem pd_tup {x1} (hJ : Mono J) (h : PDs X T C W J es es') : PD X T C W J (.Tuple es x1 pos) (.tup es') := by
  refine PE.weak (pe_tup h) fun σ H Q h => ?_
  obtain ⟨π, B, m, ρ, b, w⟩ := h
  rw [ev] at w
  refine tEs_bnd hJ b w fun xs H1 π1 B1 m1 us s1 b1 r1 w1 => ?_
  cases e : plainU us with
  | none =>
    rw [e] at w1
    exact w1.elim
  | some ds =>
    rw [e] at w1
    dsimp only at w1
    have rp := plainU_ok r1 e
    by_cases c : ds.length ≤ lim
    · rw [if_pos c] at w1
      rw [← rp.len] at c
      refine ⟨lim_size c, fun p hp => w1 _ _ π1 _ ((New.one (T := T) b1.st.ex hp).step b1.st) (.tup (SqT.of upd_same) c (rp.mono (New.one (T := T) b1.st.ex hp).ex))⟩
    · rw [if_neg c] at w1
      exact w1.elim
theorem pd_lst (hJ : Mono J) (h : PDs X T C W J es es') : PD X T C W J (.List es pos) (.lst es') := by
  refine PE.weak (pe_lst h) fun σ H Q h => ?_
  obtain ⟨π, B, m, ρ, b, w⟩ := h
  rw [ev] at w
  refine tEs_bnd hJ b w fun xs H1 π1 B1 m1 us s1 b1 r1 w1 => ?_
  cases e : plainU us with
  | none =>
    rw [e] at w1
    exact w1.elim
  | some ds =>
    rw [e] at w1
    dsimp only at w1
    have rp := plainU_ok r1 e
    by_cases c : ds.length ≤ lim
    · rw [if_pos c] at w1
      rw [← rp.len] at c
      refine ⟨lim_size c, fun p hp => w1 _ _ π1 _ ((New.one (T := T) b1.st.ex hp).step b1.st) (.lst upd_same c (rp.mono (New.one (T := T) b1.st.ex hp).ex))⟩
    · rw [if_neg c] at w1
      exact w1.elim
/-- a list that will be changed -/
theorem pd_new (hJ : Mono J) (h : PDs X T C W J es es') : PD X T C W J (.List es pos) (.new es') := by
  refine PE.weak (pe_lst h) fun σ H Q h => ?_
  obtain ⟨π, B, m, ρ, b, w⟩ := h
  rw [ev] at w
  refine tEs_bnd hJ b w fun xs H1 π1 B1 m1 us s1 b1 r1 w1 => ?_
  by_cases c : us.length ≤ lim
  · rw [if_pos c] at w1
    rw [← rus_len r1] at c
    refine ⟨lim_size c, fun p hp => w1 _ _ _ _ (Step.alloc b1.st hp c r1) ⟨by simp, ?_⟩⟩
    show V.ref p = V.ref (if m1.length = m1.length then p else π1 m1.length)
    rw [if_pos rfl]
  · rw [if_neg c] at w1
    exact w1.elim
/-- no word of Python's: the list is no more changed -/
theorem pd_frz (hJ : Mono J) (h : PD X T C W J e e') : PD X T C W J e (.frz e') := by
  refine PE.weak h fun σ H Q h => ?_
  obtain ⟨π, B, m, ρ, b, w⟩ := h
  rw [ev] at w
  refine tE_bnd hJ b w fun x H1 π1 B1 m1 u s1 b1 r1 w1 => ?_
  cases u with
  | v d => exact want_ok w1 b1.st r1
  | p k =>
    obtain ⟨hk, rfl⟩ := r1
    have w2 : Want (RU X.K T) X.K T W σ π1 B1 H1 m1 (match m1[k]? with
      | some x => match seeM x with
        | some d => .ok (.v d) (m1.set k (.fz d))
        | none => .no
      | none => .no) Q := w1
    cases hx : m1[k]? with
    | none =>
      rw [hx] at w2
      exact w2.elim
    | some x =>
      rw [hx] at w2
      dsimp only at w2
      cases hd : seeM x with
      | none =>
        rw [hd] at w2
        exact w2.elim
      | some d =>
        rw [hd] at w2
        obtain ⟨B', st, rp⟩ := Step.freeze b1.st hx hd
        exact w2 _ H1 π1 B' st rp

/-! ### subscripts -/
theorem rps_at {K : Fg} {B : Hp} {xs : List V} {ds : List D} {i : Int} {d : D} (r : Rps K T B xs ds) (h : atD ds i = some d) : ∃ v, atI xs i = some v ∧ Rp K T B v d := by
  unfold atD atI at h
  rw [← r.len] at h
  unfold atI
  cases q : ixN xs.length i with
  | none =>
    rw [q] at h
    cases h
  | some j =>
    rw [q] at h
    exact r.get h
theorem sem_idx {K : Fg} : Sem2 K T (rIx K) idx2 := by
  intro B H x y d1 d2 d Q e r1 r2 hf k
  cases r1 with
  | lst h z q =>
    cases r2 with
    | int i =>
      obtain ⟨v, h1, h2⟩ := rps_at q hf
      exact .inl ⟨_, _, i, v, rfl, rfl, SqL.of h, h1, k _ _ _ (New.refl e) h2⟩
    | _ => cases hf
  | tup h z q =>
    cases r2 with
    | int i =>
      obtain ⟨v, h1, h2⟩ := rps_at q hf
      exact .inr (.inl ⟨_, _, i, v, rfl, rfl, ex_t e h, h1, k _ _ _ (New.refl e) h2⟩)
    | _ => cases hf
  | str x h o =>
    cases r2 with
    | int i =>
      obtain ⟨c, h1, h2⟩ := Option.map_eq_some_iff.mp (show (atD x.cps.toList i).map (fun c => D.str [c]) = some d from hf)
      subst h2
      have hm : c ∈ x.cps.toList := by
        obtain ⟨j, _, hj, _⟩ := atI_get (show atI x.cps.toList i = some c from h1)
        exact List.mem_of_getElem? hj
      refine .inr (.inr ⟨x, i, c, rfl, rfl, lim_size h, h1, k _ _ _ (New.refl e) (Rp.text rfl (by show 1 ≤ lim; decide) ?_)⟩)
      have := List.all_eq_true.mp (strOk_list o) c hm
      show (decide (c < 0x110000) && true) = true
      rw [this]
      rfl
    | _ => cases hf
  | scr h =>
    cases r2 with
    | int i =>
      rename_i a ns
      obtain ⟨c, h1, h2⟩ := Option.map_eq_some_iff.mp (show (atD ns i).map (fun c => D.int c) = some d from hf)
      subst h2
      have h3 : atI (ns.map V.int) i = some (V.int c) := by
        unfold atD atI at h1
        unfold atI
        rw [List.length_map]
        cases q : ixN ns.length i with
        | none =>
          rw [q] at h1
          cases h1
        | some j =>
          rw [q] at h1
          have h1' : ns[j]? = some c := h1
          show (ns.map V.int)[j]? = some (V.int c)
          rw [List.getElem?_map, h1']
          rfl
      exact .inl ⟨_, _, i, _, rfl, rfl, h, h3, k _ _ _ (New.refl e) (.int c)⟩
    | _ => cases hf
  | _ => cases hf
theorem pd_idx (hJ : Mono J) (ha : PD X T C W J a a') (hb : PD X T C W J b b') (hs : PlainIx b := by intro _ _; rfl) : PD X T C W J (.Subscript a b pos) (.idx a' b') :=
  PE.weak (pe_ix ix_seq ha hb hs) (pd_two (t := tOp (rIx X.K)) hJ (fun _ _ _ _ _ h => h) sem_idx fun ρ m => by rw [ev] <;> rfl)

theorem rps_cut {K : Fg} {B : Hp} {xs : List V} {ds : List D} (r : Rps K T B xs ds) (lo hi : Option Int) : Rps K T B (cutV xs lo hi) (cutD ds lo hi) := by
  unfold cutV cutD
  rw [← r.len]
  exact (r.drop _).take _
theorem cut_len {α : Type} (xs : List α) (lo hi : Option Int) : (cutD xs lo hi).length ≤ xs.length := by
  unfold cutD
  rw [List.length_take, List.length_drop]
  omega
def rSlc (K : Fg) : V → Option Int → Option Int → Hp → VK → Prop := fun x lo hi H Q => (rSlL K x lo hi H Q ∨ rSlA K x lo hi H Q) ∨ rSlS x lo hi H Q
theorem sl_all : SlR X (rSlc X.K) := SlR.or (SlR.or sl_list sl_tupA) sl_str
theorem sem_slc {K : Fg} {B H : Hp} {x : V} {d1 d : D} {lo hi : Option Int} {Q : VK} (e : Ex B H) (r1 : Rq K T B H x d1) (hf : slc2 d1 lo hi = some d) (k : ∀ v H' B', New T B H B' H' → Rp K T B' v d → Q v H') : rSlc K x lo hi H Q := by
  cases r1 with
  | lst h z q =>
    cases hf
    refine .inl (.inl ⟨_, _, rfl, SqL.of h, fun p hp => k _ _ _ (New.one (T := T) e hp) (.lst upd_same ?_ ((rps_cut q lo hi).mono (New.one (T := T) e hp).ex))⟩)
    rw [(rps_cut q lo hi).len]
    exact Nat.le_trans (cut_len _ _ _) (by rw [← q.len]; exact z)
  | tup h z q =>
    rename_i a xs ds
    cases hf
    have hz : (cutV xs lo hi).length ≤ lim := by
      rw [(rps_cut q lo hi).len]
      exact Nat.le_trans (cut_len _ _ _) (by rw [← q.len]; exact z)
    refine .inl (.inr ⟨_, _, rfl, ex_t e h, fun w => ?_, fun _ p hp => k _ _ _ (New.one (T := T) e hp) (.tup (SqT.of upd_same) hz ((rps_cut q lo hi).mono (New.one (T := T) e hp).ex))⟩)
    have : cutD ds lo hi = ds := by
      unfold cutD
      rw [← q.len, w.1, w.2, List.drop_zero, Nat.sub_zero, q.len, List.take_length]
    rw [this] at k
    exact k _ _ _ (New.refl e) (.tup h z q)
  | str x h o =>
    cases hf
    refine .inr ⟨x, rfl, lim_size h, k _ _ _ (New.refl e) (Rp.text ?_ (Nat.le_trans (cut_len _ _ _) (by rw [len_list]; exact h)) ?_)⟩
    · show (((x.cps.toList.drop (HT.sIx x.length 0 lo)).take (HT.sIx x.length x.length hi - HT.sIx x.length 0 lo)).toArray).toList = _
      rw [List.toList_toArray]
      unfold cutD
      rw [len_list]
    · refine List.all_eq_true.mpr fun c hc => List.all_eq_true.mp (strOk_list o) c ?_
      exact List.mem_of_mem_drop (List.mem_of_mem_take hc)
  | _ => cases hf

/-- a part of a slice -/
def PDo (X : Cx) (T : Tb) (C : CE) (W : WX) (J : Jt) (e : Option Expr) (e' : E) : Prop := ∃ t, PO X e t ∧ ∀ (γ δ : Type) (rel : Rel γ δ) (f : Option Int → Mu → R γ) (Q : δ → Hp → Prop) (G : Option Int → Hp → Prop) (σ : L2.St) (H : Hp) (π : Nat → Addr) (B : Hp) (m : Mu) (ρ : Ro),
  Bs X.K T J π B H m σ ρ → Want rel X.K T W σ π B H m ((evo C e' ρ m).bnd f) Q → (∀ o H1 π1 B1 m1, Step X.K T π B H m π1 B1 H1 m1 → Bs X.K T J π1 B1 H1 m1 σ ρ → Want rel X.K T W σ π1 B1 H1 m1 (f o m1) Q → G o H1) → t σ H G
theorem po_no : PDo X T C W J none .nil := ⟨_, po_none, fun γ δ rel f Q G σ H π B m ρ b w k => by
  rw [evo] at w
  exact k none H π B m (Step.refl b.st) b w⟩
theorem bnd_assoc {α β γ : Type} (r : R α) (f : α → Mu → R β) (g : β → Mu → R γ) : (r.bnd f).bnd g = r.bnd fun a m => (f a m).bnd g := by
  cases r <;> rfl
theorem po_at (hJ : Mono J) (h : PD X T C W J e e') : PDo X T C W J (some e) (.opt e') := ⟨_, po_some h, fun γ δ rel f Q G σ H π B m ρ b w k => by
  rw [evo, bnd_assoc] at w
  refine tE_bnd hJ b w fun x H1 π1 B1 m1 u s1 b1 r1 w1 => ?_
  cases u with
  | p j => exact w1.elim
  | v d =>
    cases d with
    | int i =>
      cases r1
      exact ⟨i, rfl, k (some i) H1 π1 B1 m1 s1 b1 w1⟩
    | _ => exact w1.elim⟩
theorem pd_slc {lo hi : Option Expr} {lo' hi' : E} {p2 : Pos} (hJ : Mono J) (ha : PD X T C W J a a') (hl : PDo X T C W J lo lo') (hh : PDo X T C W J hi hi') : PD X T C W J (.Subscript a (.Slice lo hi none p2) pos) (.slc a' lo' hi') := by
  obtain ⟨tl, pl, kl⟩ := hl
  obtain ⟨th, ph, kh⟩ := hh
  refine PE.weak (pe_slice sl_all ha pl ph) fun σ H Q h => ?_
  obtain ⟨π, B, m, ρ, b, w⟩ := h
  rw [ev] at w
  refine tE_bnd hJ b w fun x H1 π1 B1 m1 u s1 b1 r1 w1 => kl _ _ _ _ _ _ σ H1 π1 B1 m1 ρ b1 w1 fun i H2 π2 B2 m2 s2 b2 w2 => kh _ _ _ _ _ _ σ H2 π2 B2 m2 ρ b2 w2 fun j H3 π3 B3 m3 s3 b3 w3 => ?_
  cases e1 : see m3 u with
  | none =>
    rw [e1] at w3
    exact w3.elim
  | some d1 =>
    rw [e1] at w3
    dsimp only at w3
    cases e3 : slc2 d1 i j with
    | none =>
      rw [e3] at w3
      exact w3.elim
    | some d =>
      rw [e3] at w3
      exact sem_slc b3.st.ex (see_ok b3.st (s3.ru (s2.ru r1)) e1) e3 fun v H' B' nw rv => w3 v H' π3 B' (nw.step b3.st) rv

/-! ### built-in functions of one argument -/
theorem pd_fun1 {x : Str} {p : Pos} {o : Un} {r : List V → Hp → VK → Prop} (hJ : Mono J) (hs : SemL X.K T r (un1 o)) (hp : ∀ t, PA X [a] t → PE X (.Call (.Name x p) [a] [] pos) (tCB r t)) (ha : PD X T C W J a a') (hst : starEach [a] X.env = (false, eval a X.env) :: starEach [] X.env := by rfl) :
    PD X T C W J (.Call (.Name x p) [a] [] pos) (.un o a') := by
  refine PE.weak (hp _ (pa_cons ha pa_nil hst)) fun σ H Q h => ?_
  exact pd_one (X := X) (t := fun ta σ H Q => ta σ H fun x H1 => r [x] H1 Q) (r := fun x H Q => r [x] H Q) hJ (fun _ _ _ _ h => h) (fun B H x d1 d Q e r1 hf k => hs B H x d1 d Q e r1 hf k) (fun ρ m => ev_un C o a' ρ m) σ H Q h
theorem pt_fun1 {x : Str} {p : Pos} {o : Un} (h : PD X T C W J (.Call (.Name x p) [a] [] pos) (.un o a')) : PDt X T C W J (.Call (.Name x p) [a] [] pos) (.un o a') := pt_val' h

theorem sem_len {K : Fg} : SemL K T (fun xs H Q => ∃ x n, xs = [x] ∧ LenV K x H n ∧ Q (.int n) H) (un1 .len) := by
  intro B H x d1 d Q e r1 hf k
  cases r1 with
  | str x h o =>
    cases hf
    refine ⟨_, x.length, rfl, ⟨lim_size h, rfl⟩, ?_⟩
    rw [len_list] at k
    exact k _ _ _ (New.refl e) (.int _)
  | lst h z q =>
    cases hf
    rename_i a xs ds
    refine ⟨_, xs.length, rfl, .inl ⟨_, SqL.of h, rfl⟩, ?_⟩
    rw [q.len]
    exact k _ _ _ (New.refl e) (.int _)
  | tup h z q =>
    cases hf
    rename_i a xs ds
    refine ⟨_, xs.length, rfl, .inr ⟨_, ex_t e h, rfl⟩, ?_⟩
    rw [q.len]
    exact k _ _ _ (New.refl e) (.int _)
  | scr h =>
    cases hf
    rename_i a ns
    refine ⟨_, (ns.map V.int).length, rfl, .inl ⟨_, h, rfl⟩, ?_⟩
    rw [List.length_map]
    exact k _ _ _ (New.refl e) (.int _)
  | _ => cases hf
theorem sem_int' {K : Fg} : SemL K T (fun xs H Q => (∃ i, xs = [.int i] ∧ Q (.int i) H) ∨ ∃ k, xs = [.bl k] ∧ Q (.int (if k then 1 else 0)) H) (un1 .int) := by
  intro B H x d1 d Q e r1 hf k
  cases r1 with
  | int i =>
    cases hf
    exact .inl ⟨i, rfl, k _ _ _ (New.refl e) (.int _)⟩
  | bl i =>
    cases hf
    exact .inr ⟨i, rfl, k _ _ _ (New.refl e) (.int _)⟩
  | _ => cases hf
theorem log_lt {n : Nat} (h : n < 2 ^ 100) : n.log2 < 1920 := by
  by_cases c : n = 0
  · subst c
    decide
  · exact Nat.lt_trans ((Nat.log2_lt c).mpr h) (by decide)
theorem sem_str {K : Fg} : SemL K T (fun xs H Q => ∃ i, xs = [.int i] ∧ i.natAbs.log2 < 1920 ∧ Q (.str (toString i)) H) (fun d => match d with | .int i => un1 .str (.int i) | _ => none) := by
  intro B H x d1 d Q e r1 hf k
  cases r1 with
  | int i =>
    have hf' : (if i.natAbs < 2 ^ 100 ∧ (digits i).length ≤ lim ∧ (digits i).all (· < 0x110000) = true then some (D.str (digits i)) else none) = some d := hf
    by_cases c : i.natAbs < 2 ^ 100 ∧ (digits i).length ≤ lim ∧ (digits i).all (· < 0x110000) = true
    · rw [if_pos c] at hf'
      cases hf'
      exact ⟨i, rfl, log_lt c.1, k _ _ _ (New.refl e) (Rp.text rfl c.2.1 c.2.2)⟩
    · rw [if_neg c] at hf'
      cases hf'
  | _ => cases hf
theorem sem_tuple {K : Fg} : SemL K T (fun xs H Q => ∃ p ys, xs = [.ref p] ∧ ((SqL K H p ys ∧ ∀ l, H l = none → Q (.ref l) (upd H l (.tup ys))) ∨ (SqT K H p ys ∧ Q (.ref p) H))) (un1 .tuple) := by
  intro B H x d1 d Q e r1 hf k
  cases r1 with
  | lst h z q =>
    cases hf
    exact ⟨_, _, rfl, .inl ⟨SqL.of h, fun p hp => k _ _ _ (New.one (T := T) e hp) (.tup (SqT.of upd_same) z (q.mono (New.one (T := T) e hp).ex))⟩⟩
  | tup h z q =>
    cases hf
    exact ⟨_, _, rfl, .inr ⟨ex_t e h, k _ _ _ (New.refl e) (.tup h z q)⟩⟩
  | _ => cases hf
theorem sem_list {K : Fg} : SemL K T (fun xs H Q => ∃ p ys, xs = [.ref p] ∧ (SqL K H p ys ∨ SqT K H p ys) ∧ ∀ l, H l = none → Q (.ref l) (upd H l (.lst ys))) (un1 .list) := by
  intro B H x d1 d Q e r1 hf k
  cases r1 with
  | lst h z q =>
    cases hf
    exact ⟨_, _, rfl, .inl (SqL.of h), fun p hp => k _ _ _ (New.one (T := T) e hp) (.lst upd_same z (q.mono (New.one (T := T) e hp).ex))⟩
  | tup h z q =>
    cases hf
    exact ⟨_, _, rfl, .inr (ex_t e h), fun p hp => k _ _ _ (New.one (T := T) e hp) (.lst upd_same z (q.mono (New.one (T := T) e hp).ex))⟩
  | _ => cases hf
theorem bools_rel {K : Fg} {B : Hp} : ∀ {xs : List V} {ds : List D} {bs : List Bool}, Rps K T B xs ds → bools ds = some bs → xs = bs.map V.bl
  | _, _, _, .nil, e => by cases e; rfl
  | _, _, _, .cons (d := d) r q, e => by
    cases d with
    | bl b =>
      cases r
      obtain ⟨r', h1, h2⟩ := Option.map_eq_some_iff.mp (show (bools _).map (b :: ·) = some _ from e)
      subst h2
      rw [List.map_cons, bools_rel q h1]
    | _ => cases e
theorem ints_rel {K : Fg} {B : Hp} : ∀ {xs : List V} {ds : List D} {bs : List Int}, Rps K T B xs ds → intsD ds = some bs → xs = bs.map V.int
  | _, _, _, .nil, e => by cases e; rfl
  | _, _, _, .cons (d := d) r q, e => by
    cases d with
    | int b =>
      cases r
      obtain ⟨r', h1, h2⟩ := Option.map_eq_some_iff.mp (show (intsD _).map (b :: ·) = some _ from e)
      subst h2
      rw [List.map_cons, ints_rel q h1]
    | _ => cases e
theorem sem_all {K : Fg} : SemL K T (rAll K) (un1 .all) := by
  intro B H x d1 d Q e r1 hf k
  cases r1 with
  | lst h z q =>
    rename_i a xs ds
    obtain ⟨bs, h1, h2⟩ := Option.map_eq_some_iff.mp (show (bools ds).map (fun bs => D.bl (bs.all id)) = some d from hf)
    subst h2
    have := bools_rel q h1
    subst this
    exact ⟨_, bs, rfl, SqL.of h, k _ _ _ (New.refl e) (.bl _)⟩
  | _ => cases hf
theorem sem_any {K : Fg} : SemL K T (rAny K) (un1 .any) := by
  intro B H x d1 d Q e r1 hf k
  cases r1 with
  | lst h z q =>
    rename_i a xs ds
    obtain ⟨bs, h1, h2⟩ := Option.map_eq_some_iff.mp (show (bools ds).map (fun bs => D.bl (bs.any id)) = some d from hf)
    subst h2
    have := bools_rel q h1
    subst this
    exact ⟨_, bs, rfl, SqL.of h, k _ _ _ (New.refl e) (.bl _)⟩
  | _ => cases hf
theorem sem_sum {K : Fg} : SemL K T (rSum K) (un1 .sum) := by
  intro B H x d1 d Q e r1 hf k
  cases r1 with
  | lst h z q =>
    rename_i a xs ds
    obtain ⟨bs, h1, h2⟩ := Option.map_eq_some_iff.mp (show (intsD ds).map (fun bs => D.int bs.sum) = some d from hf)
    subst h2
    have := ints_rel q h1
    subst this
    exact ⟨_, bs, rfl, SqL.of h, k _ _ _ (New.refl e) (.int _)⟩
  | _ => cases hf
theorem pd_len {p : Pos} (hJ : Mono J) (hg : Gl X "len") (hm : X.mg "len" = none) (ha : PD X T C W J a a') (hst : starEach [a] X.env = (false, eval a X.env) :: starEach [] X.env := by rfl) : PD X T C W J (.Call (.Name "len" p) [a] [] pos) (.un .len a') :=
  pd_fun1 hJ sem_len (fun t ht => pe_callB call_len hg hm PySem.boot_len ht (he := hst)) ha hst
theorem pd_int1 {p : Pos} (hJ : Mono J) (hg : Gl X "int") (hm : X.mg "int" = none) (ha : PD X T C W J a a') (hst : starEach [a] X.env = (false, eval a X.env) :: starEach [] X.env := by rfl) : PD X T C W J (.Call (.Name "int" p) [a] [] pos) (.un .int a') :=
  pd_fun1 hJ sem_int' (fun t ht => pe_callTy call_int1 hg hm (by decide +kernel) ht (he := hst)) ha hst
theorem pd_tuple {p : Pos} (hJ : Mono J) (hg : Gl X "tuple") (hm : X.mg "tuple" = none) (ha : PD X T C W J a a') (hst : starEach [a] X.env = (false, eval a X.env) :: starEach [] X.env := by rfl) : PD X T C W J (.Call (.Name "tuple" p) [a] [] pos) (.un .tuple a') :=
  pd_fun1 hJ sem_tuple (fun t ht => pe_callTy call_tuple_of hg hm (by decide +kernel) ht (he := hst)) ha hst
theorem pd_list {p : Pos} (hJ : Mono J) (hg : Gl X "list") (hm : X.mg "list" = none) (ha : PD X T C W J a a') (hst : starEach [a] X.env = (false, eval a X.env) :: starEach [] X.env := by rfl) : PD X T C W J (.Call (.Name "list" p) [a] [] pos) (.un .list a') :=
  pd_fun1 hJ sem_list (fun t ht => pe_callTy call_list_of hg hm (by decide +kernel) ht (he := hst)) ha hst
theorem pd_all {p : Pos} (hJ : Mono J) (hc : X.calm = true) (hg : Gl X "all") (hm : X.mg "all" = none) (ha : PD X T C W J a a') (hst : starEach [a] X.env = (false, eval a X.env) :: starEach [] X.env := by rfl) : PD X T C W J (.Call (.Name "all" p) [a] [] pos) (.un .all a') :=
  pd_fun1 hJ sem_all (fun t ht => pe_callB (cr_all hc) hg hm (by decide +kernel) ht (he := hst)) ha hst
theorem pd_any {p : Pos} (hJ : Mono J) (hc : X.calm = true) (hg : Gl X "any") (hm : X.mg "any" = none) (ha : PD X T C W J a a') (hst : starEach [a] X.env = (false, eval a X.env) :: starEach [] X.env := by rfl) : PD X T C W J (.Call (.Name "any" p) [a] [] pos) (.un .any a') :=
  pd_fun1 hJ sem_any (fun t ht => pe_callB (cr_any hc) hg hm (by decide +kernel) ht (he := hst)) ha hst
theorem pd_sum {p : Pos} (hJ : Mono J) (hc : X.calm = true) (hg : Gl X "sum") (hm : X.mg "sum" = none) (ha : PD X T C W J a a') (hst : starEach [a] X.env = (false, eval a X.env) :: starEach [] X.env := by rfl) : PD X T C W J (.Call (.Name "sum" p) [a] [] pos) (.un .sum a') :=
  pd_fun1 hJ sem_sum (fun t ht => pe_callB (cr_sum hc) hg hm (by decide +kernel) ht (he := hst)) ha hst
end
end At

/-! Statements, loops, comprehensions. -/
namespace At
open PySem L2 Evl

def WantS (K : Fg) (T : Tb) (W : WX) (π : Nat → Addr) (B H : Hp) (m : Mu) (o : O) (D : Ends) : Prop := match o with
  | .nx ρ' m' => ∀ σ' H' π' B', Step K T π B H m π' B' H' m' → Slots K T m'.length π' B' σ' ρ' → D.nx σ' H'
  | .bk ρ' m' => ∀ σ' H' π' B', Step K T π B H m π' B' H' m' → Slots K T m'.length π' B' σ' ρ' → D.bk σ' H'
  | .ct ρ' m' => ∀ σ' H' π' B', Step K T π B H m π' B' H' m' → Slots K T m'.length π' B' σ' ρ' → D.ct σ' H'
  | .rt u m' => ∀ v H' π' B', Step K T π B H m π' B' H' m' → Ru K T m'.length π' B' v u → D.rt v H'
  | .ex c fs ρ' m' => ∀ σ' x xs H' π' B', Step K T π B H m π' B' H' m' → Slots K T m'.length π' B' σ' ρ' → B' x = some (.xd xs) → Rpf K T B' xs fs → W (.ref (cl K T c)) (some x) σ' H'
  | .no => False

section
variable {K : Fg} {T : Tb} {C : CE} {W : WX} {σ : L2.St} {ρ : Ro} {π π' : Nat → Addr} {B B' H H' : Hp} {m m' : Mu} {α β : Type}
theorem WantS.rebase {o : O} {D : Ends} (w : WantS K T W π B H m o D) (s : Step K T π B H m π' B' H' m') : WantS K T W π' B' H' m' o D := by
  cases o with
  | nx ρ2 m2 => exact fun σ2 H2 π2 B2 t q => w σ2 H2 π2 B2 (s.trans t) q
  | bk ρ2 m2 => exact fun σ2 H2 π2 B2 t q => w σ2 H2 π2 B2 (s.trans t) q
  | ct ρ2 m2 => exact fun σ2 H2 π2 B2 t q => w σ2 H2 π2 B2 (s.trans t) q
  | rt u m2 => exact fun σ2 H2 π2 B2 t q => w σ2 H2 π2 B2 (s.trans t) q
  | ex c fs ρ2 m2 => exact fun σ2 x xs H2 π2 B2 t q => w σ2 x xs H2 π2 B2 (s.trans t) q
  | no => exact w
/-- an expression, then the rest of a statement -/
theorem WantS.out {rel : Rel α β} {r : R α} {f : α → Mu → O} {D : Ends} {G : β → Hp → Prop} (w : WantS K T W π B H m (r.out ρ f) D) (sl : Slots K T m.length π B σ ρ)
    (k : ∀ b H1 π1 B1 m1 a, Step K T π B H m π1 B1 H1 m1 → rel m1.length π1 B1 b a → WantS K T W π1 B1 H1 m1 (f a m1) D → G b H1) : Want rel K T W σ π B H m r G := by
  cases r with
  | ok a m1 => exact fun b H1 π1 B1 s q => k b H1 π1 B1 m1 a s q (WantS.rebase (show WantS K T W π B H m (f a m1) D from w) s)
  | ex c fs m2 => exact fun x xs H' π' B' s q1 q2 => (show WantS K T W π B H m (.ex c fs ρ m2) D from w) σ x xs H' π' B' s (sl.step s) q1 q2
  | no => exact w
def tS (K : Fg) (T : Tb) (C : CE) (W : WX) (s : S) : TS := fun D σ H => ∃ π B m ρ, Bs K T J0 π B H m σ ρ ∧ WantS K T W π B H m (xs C s ρ m) D
theorem tE_out {e : E} {f : U → Mu → O} {D : Ends} {G : V → Hp → Prop} (b : Bs K T J0 π B H m σ ρ) (w : WantS K T W π B H m ((ev C e ρ m).out ρ f) D)
    (k : ∀ v H1 π1 B1 m1 u, Step K T π B H m π1 B1 H1 m1 → Bs K T J0 π1 B1 H1 m1 σ ρ → Ru K T m1.length π1 B1 v u → WantS K T W π1 B1 H1 m1 (f u m1) D → G v H1) : tE K T C W J0 e σ H G :=
  ⟨π, B, m, ρ, b, w.out b.sl fun v H1 π1 B1 m1 u s q w1 => k v H1 π1 B1 m1 u s (b.step mono0 s) q w1⟩

theorem Slots.set {n : Nat} {v : V} {u : U} (h : Slots K T n π B σ ρ) (i : Nat) (r : Ru K T n π B v u) : Slots K T n π B (σ.set i (some v)) (ρ.set i (some u)) := by
  refine ⟨by rw [List.length_set, List.length_set, h.len], fun j w e => ?_⟩
  by_cases c : i = j
  · subst c
    by_cases hi : i < ρ.length
    · rw [List.getElem?_set_self hi] at e
      cases e
      exact ⟨v, by rw [List.getElem?_set_self (by rw [h.len]; exact hi)], r⟩
    · rw [List.getElem?_eq_none (by rw [List.length_set]; omega)] at e
      cases e
  · rw [List.getElem?_set_ne c] at e
    obtain ⟨w', h1, h2⟩ := h.at_ j w e
    exact ⟨w', by rw [List.getElem?_set_ne c]; exact h1, h2⟩
theorem Slots.drop {n : Nat} (h : Slots K T n π B σ ρ) (i : Nat) : Slots K T n π B (σ.set i none) (ρ.set i none) := by
  refine ⟨by rw [List.length_set, List.length_set, h.len], fun j w e => ?_⟩
  by_cases c : i = j
  · subst c
    by_cases hi : i < ρ.length
    · rw [List.getElem?_set_self hi] at e
      cases e
    · rw [List.getElem?_eq_none (by rw [List.length_set]; omega)] at e
      cases e
  · rw [List.getElem?_set_ne c] at e
    obtain ⟨w', h1, h2⟩ := h.at_ j w e
    exact ⟨w', by rw [List.getElem?_set_ne c]; exact h1, h2⟩
theorem Slots.wipe {n : Nat} (h : Slots K T n π B σ ρ) : ∀ vs : List Nat, Slots K T n π B (L2.wipe σ vs) (wipeR ρ vs)
  | [] => h
  | v :: vs => Slots.drop (Slots.wipe h vs) v
end

/-! ### targets -/
/-- the slots of a target -/
def slotsT : Tg → List Nat
  | .nm i => [i]
  | .tp a => slotsT a
  | .nil => []
  | .cons a r => slotsT a ++ slotsT r
def Off (l : List Nat) (σ σ' : L2.St) : Prop := ∀ vs : List Nat, (∀ i, i ∈ l → i ∈ vs) → L2.wipe σ' vs = L2.wipe σ vs
theorem wipe_get (σ : L2.St) (i : Nat) : ∀ vs : List Nat, (L2.wipe σ vs)[i]? = if i ∈ vs then (σ[i]?).map (fun _ => none) else σ[i]?
  | [] => by simp [L2.wipe]
  | v :: vs => by
    unfold L2.wipe
    by_cases c : v = i
    · subst c
      rw [if_pos List.mem_cons_self]
      by_cases h : v < (L2.wipe σ vs).length
      · rw [List.getElem?_set_self h]
        rw [wipe_length] at h
        rw [List.getElem?_eq_getElem h]
        rfl
      · rw [List.getElem?_eq_none (by rw [List.length_set]; omega)]
        rw [wipe_length] at h
        rw [List.getElem?_eq_none (by omega)]
        rfl
    · rw [List.getElem?_set_ne c, wipe_get σ i vs]
      by_cases h : i ∈ vs
      · rw [if_pos h, if_pos (List.mem_cons_of_mem _ h)]
      · rw [if_neg h, if_neg (by simp only [List.mem_cons, not_or]; exact ⟨fun e => c e.symm, h⟩)]
theorem Off.refl (l : List Nat) (σ : L2.St) : Off l σ σ := fun _ _ => rfl
theorem Off.trans {l l' : List Nat} {σ σ1 σ2 : L2.St} (a : Off l σ σ1) (b : Off l' σ1 σ2) : Off (l ++ l') σ σ2 := fun vs h =>
  (b vs fun i hi => h i (List.mem_append_right _ hi)).trans (a vs fun i hi => h i (List.mem_append_left _ hi))
theorem Off.set (σ : L2.St) (i : Nat) (x : Option V) : Off [i] σ (σ.set i x) := fun vs h => by
  refine List.ext_getElem? fun j => ?_
  rw [wipe_get, wipe_get]
  by_cases c : j ∈ vs
  · rw [if_pos c, if_pos c]
    by_cases e : i = j
    · subst e
      by_cases hi : i < σ.length
      · rw [List.getElem?_set_self hi, List.getElem?_eq_getElem hi]
        rfl
      · rw [List.getElem?_eq_none (by rw [List.length_set]; omega), List.getElem?_eq_none (by omega)]
    · rw [List.getElem?_set_ne e]
  · rw [if_neg c, if_neg c]
    have : i ≠ j := fun e => c (e ▸ h i (by simp))
    rw [List.getElem?_set_ne this]
theorem wipe_wipe (σ : L2.St) (vs : List Nat) : L2.wipe (L2.wipe σ vs) vs = L2.wipe σ vs := by
  refine List.ext_getElem? fun j => ?_
  rw [wipe_get, wipe_get]
  by_cases c : j ∈ vs
  · rw [if_pos c, if_pos c]
    cases σ[j]? <;> rfl
  · rw [if_neg c]
def TgOk (K : Fg) (T : Tb) (g : TG) (t : Tg) : Prop := ∀ (n : Nat) (π : Nat → Addr) (B H : Hp) (σ : L2.St) (ρ ρ' : Ro) (v : V) (u : U) (Q : L2.St → Hp → Prop), Ex B H → Slots K T n π B σ ρ → Ru K T n π B v u → bindT t u ρ = some ρ' → (∀ σ', Slots K T n π B σ' ρ' → Off (slotsT t) σ σ' → Q σ' H) → g v σ H Q
def TgsOk (K : Fg) (T : Tb) (g : TGs) (t : Tg) : Prop := ∀ (n : Nat) (π : Nat → Addr) (B H : Hp) (σ : L2.St) (ρ ρ' : Ro) (vs : List V) (ds : List D) (Q : L2.St → Hp → Prop), Ex B H → Slots K T n π B σ ρ → Rps K T B vs ds → bindTs t ds ρ = some ρ' → (∀ σ', Slots K T n π B σ' ρ' → Off (slotsT t) σ σ' → Q σ' H) → g vs σ H Q
def tgLen : Tg → Option Nat
  | .nil => some 0
  | .cons _ r => (tgLen r).map (· + 1)
  | _ => none
mutual
def gOf (K : Fg) : Tg → TG
  | .nm i => gName i
  | .tp a => gTup K ((tgLen a).getD 0) (gsOf K a)
  | .nil => fun _ _ _ _ => False
  | .cons _ _ => fun _ _ _ _ => False
def gsOf (K : Fg) : Tg → TGs
  | .nil => gNil
  | .cons a r => gCons (gOf K a) (gsOf K r)
  | .nm _ => fun _ _ _ _ => False
  | .tp _ => fun _ _ _ _ => False
end
theorem tgLen_ok : ∀ {t : Tg} {ds : List D} {ρ ρ' : Ro}, bindTs t ds ρ = some ρ' → tgLen t = some ds.length
  | .nil, [], _, _, _ => rfl
  | .nil, d :: ds, ρ, ρ', e => by cases (show (none : Option Ro) = some ρ' from e)
  | .cons a r, [], _, ρ', e => by cases (show (none : Option Ro) = some ρ' from e)
  | .cons a r, d :: ds, ρ, ρ', e => by
    have e' : (match bindT a (.v d) ρ with
      | some ρ1 => bindTs r ds ρ1
      | none => none) = some ρ' := e
    cases hd : bindT a (.v d) ρ with
    | none =>
      rw [hd] at e'
      cases e'
    | some ρ1 =>
      rw [hd] at e'
      show (tgLen r).map (· + 1) = _
      rw [tgLen_ok e']
      rfl
  | .nm _, ds, ρ, ρ', e => by
    cases ds <;> cases (show (none : Option Ro) = some ρ' from e)
  | .tp _, ds, ρ, ρ', e => by
    cases ds <;> cases (show (none : Option Ro) = some ρ' from e)
mutual
theorem gOf_ok (K : Fg) (T : Tb) : ∀ t : Tg, TgOk K T (gOf K t) t
  | .nm i => fun n π B H σ ρ ρ' v u Q e h r hb k => by
    rw [bindT] at hb
    cases hb
    exact k _ (h.set i r) (Off.set σ i _)
  | .tp a => fun n π B H σ ρ ρ' v u Q e h r hb k => by
    cases u with
    | p j => cases (show (none : Option Ro) = some ρ' from hb)
    | v d =>
      cases d with
      | tup ds =>
        have hb' : bindTs a ds ρ = some ρ' := hb
        cases r with
        | tup hh z q => exact ⟨_, _, rfl, ex_t e hh, by rw [tgLen_ok hb']; exact q.len, gsOf_ok K T a n π B H σ ρ ρ' _ _ Q e h q hb' k⟩
      | _ => cases (show (none : Option Ro) = some ρ' from hb)
  | .nil => fun n π B H σ ρ ρ' v u Q e h r hb k => by
    cases u <;> cases (show (none : Option Ro) = some ρ' from hb)
  | .cons a r => fun n π B H σ ρ ρ' v u Q e h r hb k => by
    cases u <;> cases (show (none : Option Ro) = some ρ' from hb)
theorem gsOf_ok (K : Fg) (T : Tb) : ∀ t : Tg, TgsOk K T (gsOf K t) t
  | .nil => fun n π B H σ ρ ρ' vs ds Q e h r hb k => by
    cases r with
    | nil =>
      cases hb
      exact ⟨rfl, k _ h (Off.refl _ _)⟩
    | cons r q => cases (show (none : Option Ro) = some ρ' from hb)
  | .cons t' r' => fun n π B H σ ρ ρ' vs ds Q e h r hb kk => by
    cases r with
    | nil => cases (show (none : Option Ro) = some ρ' from hb)
    | cons r q =>
      rename_i v vs d ds
      have hb' : (match bindT t' (.v d) ρ with
        | some ρ1 => bindTs r' ds ρ1
        | none => none) = some ρ' := hb
      cases hd : bindT t' (.v d) ρ with
      | none =>
        rw [hd] at hb'
        cases hb'
      | some ρ1 =>
        rw [hd] at hb'
        exact ⟨v, vs, rfl, gOf_ok K T t' n π B H σ ρ ρ1 v (.v d) _ e h r hd fun σ' h' o1 => gsOf_ok K T r' n π B H σ' ρ1 ρ' vs ds Q e h' q hb' fun σ2 h2 o2 => kk σ2 h2 (o1.trans o2)⟩
  | .nm _ => fun n π B H σ ρ ρ' vs ds Q e h r hb k => by
    cases ds <;> cases (show (none : Option Ro) = some ρ' from hb)
  | .tp _ => fun n π B H σ ρ ρ' vs ds Q e h r hb k => by
    cases ds <;> cases (show (none : Option Ro) = some ρ' from hb)
end
abbrev PGd (X : Cx) (tg : Expr) (t : Tg) : Prop := PG X tg (gOf X.K t)
abbrev PGsd (X : Cx) (tgs : List Expr) (t : Tg) : Prop := PGs X tgs (gsOf X.K t)

section
variable {X : Cx} {T : Tb} {C : CE} {W : WX} {J : Jt} {a b e : Expr} {a' b' e' : E} {es : List Expr} {es' : E} {pos : Pos} {st : Stmt} {sts : List Stmt} {s t : S} {tg : Expr} {t' r' : Tg}
theorem pgd_nm (i : Nat) {x : Str} {p : Pos} (hN : X.N.Nodup) (hi : X.N[i]? = some x := by rfl) (hx : Loc X.env.scope x := by first | exact Or.inl rfl | exact Or.inr rfl) (hf : X.fn x = true ∨ X.env.scope.names.lookup x = some .local := by first | exact .inl rfl | exact .inr rfl | assumption) : PGd X (.Name x p) (.nm i) := pg_name hN hi hx hf
theorem pgsd_nil : PGsd X [] .nil := pgs_nil
theorem pgsd_cons {es : List Expr} (h1 : PGd X e t') (h2 : PGsd X es r') (hst : (assignEach (e :: es) X.env).map (·.2) = assign e X.env :: (assignEach es X.env).map (·.2) := by rfl) : PGsd X (e :: es) (.cons t' r') := pgs_cons h1 h2 hst
theorem pgd_tup {es : List Expr} {k : Nat} {p : Pos} (hc : X.calm = true) (h : PGsd X es t') (hn : (assignEach es X.env).length = (tgLen t').getD 0 := by rfl) (hst : (assignEach es X.env).findIdx? (·.1) = none := by rfl) : PGd X (.Tuple es k p) (.tp t') := pg_tup hc h hn hst

/-! ### simple statements -/
abbrev PSd (X : Cx) (T : Tb) (C : CE) (W : WX) (st : Stmt) (s : S) : Prop := PS X st (tS X.K T C W s)
abbrev PSsd (X : Cx) (T : Tb) (C : CE) (W : WX) (sts : List Stmt) (s : S) : Prop := PSs X sts (tS X.K T C W s)
theorem PS.weak {t u : TS} (h : PS X st t) (k : ∀ D σ H, u D σ H → t D σ H) : PS X st u := ⟨fun pins s σ H D I q => h.run pins s σ H D I (k D σ H q)⟩
theorem PSs.weak {t u : TS} (h : PSs X sts t) (k : ∀ D σ H, u D σ H → t D σ H) : PSs X sts u := ⟨fun pins s σ H D I q => h.run pins s σ H D I (k D σ H q)⟩
theorem sd_nil : PSsd X T C W [] .skip := PSs.weak pss_nil fun D σ H h => by
  obtain ⟨π, B, m, ρ, b, w⟩ := h
  exact w σ H π B (Step.refl b.st) b.sl
theorem sd_one (h : PSd X T C W st s) : PSsd X T C W [st] s := pss_one h
theorem sd_cons (h1 : PSd X T C W st s) (h2 : PSsd X T C W sts t) : PSsd X T C W (st :: sts) (.seq s t) := PSs.weak (pss_cons h1 h2) fun D σ H h => by
  obtain ⟨π, B, m, ρ, b, w⟩ := h
  refine ⟨π, B, m, ρ, b, ?_⟩
  have w' : WantS X.K T W π B H m ((xs C s ρ m).seq fun ρ m => xs C t ρ m) D := w
  cases hx : xs C s ρ m with
  | nx ρ1 m1 =>
    rw [hx] at w'
    exact fun σ1 H1 π1 B1 s1 sl1 => ⟨π1, B1, m1, ρ1, ⟨s1.st, sl1, trivial⟩, WantS.rebase (show WantS X.K T W π B H m (xs C t ρ1 m1) D from w') s1⟩
  | rt u m1 =>
    rw [hx] at w'
    exact w'
  | bk ρ1 m1 =>
    rw [hx] at w'
    exact w'
  | ct ρ1 m1 =>
    rw [hx] at w'
    exact w'
  | ex c fs ρ1 m1 =>
    rw [hx] at w'
    exact w'
  | no =>
    rw [hx] at w'
    exact w'
theorem sd_pass : PSd X T C W (.Pass pos) .skip := PS.weak ps_pass fun D σ H h => by
  obtain ⟨π, B, m, ρ, b, w⟩ := h
  exact w σ H π B (Step.refl b.st) b.sl
theorem sd_brk : PSd X T C W (.Break pos) .brk := PS.weak ps_break fun D σ H h => by
  obtain ⟨π, B, m, ρ, b, w⟩ := h
  exact w σ H π B (Step.refl b.st) b.sl
theorem sd_ctn : PSd X T C W (.Continue pos) .ctn := PS.weak ps_continue fun D σ H h => by
  obtain ⟨π, B, m, ρ, b, w⟩ := h
  exact w σ H π B (Step.refl b.st) b.sl
theorem sd_ret (h : PD X T C W J0 e e') : PSd X T C W (.Return (some e) pos) (.ret e') := PS.weak (ps_ret h) fun D σ H h => by
  obtain ⟨π, B, m, ρ, b, w⟩ := h
  exact tE_out b w fun v H1 π1 B1 m1 u s1 b1 r1 w1 => w1 v H1 π1 B1 (Step.refl b1.st) r1
theorem sd_retN : PSd X T C W (.Return none pos) .retN := PS.weak ps_retN fun D σ H h => by
  obtain ⟨π, B, m, ρ, b, w⟩ := h
  exact w .non H π B (Step.refl b.st) .non
theorem sd_exp (h : PD X T C W J0 e e') (hs : swapsWith e none pos.line X.env = pure false := by rfl) : PSd X T C W (.Expr e pos) (.exp e') := PS.weak (ps_expr h hs) fun D σ H h => by
  obtain ⟨π, B, m, ρ, b, w⟩ := h
  exact tE_out b w fun v H1 π1 B1 m1 u s1 b1 r1 w1 => w1 σ H1 π1 B1 (Step.refl b1.st) b1.sl
theorem sd_doc {x j p p'} : PSd X T C W (.Expr (.Constant (.str x) j p) p') .skip := PS.weak ps_doc fun D σ H h => by
  obtain ⟨π, B, m, ρ, b, w⟩ := h
  exact w σ H π B (Step.refl b.st) b.sl
/-- what an assignment wants of its reading -/
theorem asg_read {te : TE} {g : TG} (hg : TgOk X.K T g t') (D : Ends) (σ : L2.St) (H : Hp) (h : tS X.K T C W (.asg t' e') D σ H) (k : ∀ Q, tE X.K T C W J0 e' σ H Q → te σ H Q) : tAsg te g D σ H := by
  obtain ⟨π, B, m, ρ, b, w⟩ := h
  refine k _ (tE_out b w fun v H1 π1 B1 m1 u s1 b1 r1 w1 => ?_)
  cases hb : bindT t' u ρ with
  | none =>
    rw [hb] at w1
    exact w1.elim
  | some ρ1 =>
    rw [hb] at w1
    exact hg _ _ _ _ _ _ _ _ _ _ b1.st.ex b1.sl r1 hb fun σ' h' _ => w1 σ' H1 π1 B1 (Step.refl b1.st) h'
theorem sd_asg (h : PD X T C W J0 e e') (hg : PGd X tg t') (hs : swapsWithSole [tg] e pos.line X.env = pure false := by rfl) (hw : swappedStores [tg] e X.env = pure none := by rfl) (h1 : (assignEach [tg] X.env).map (·.2) = [assign tg X.env] := by rfl) : PSd X T C W (.Assign [tg] e pos) (.asg t' e') := by
  exact PS.weak (ps_asg h hg hs hw h1) fun D σ H h => asg_read (gOf_ok X.K T t') D σ H h fun Q q => q
theorem sd_par (i j : Nat) {x y : Str} {px py pt : Pos} {kt k2 : Nat} {pt2 : Pos} (hc : X.calm = true) (hN : X.N.Nodup) (ha : PD X T C W J0 a a') (hb : PD X T C W J0 b b') (hij : i ≠ j := by decide) (hi : X.N[i]? = some x := by rfl) (hj : X.N[j]? = some y := by rfl)
    (hx : X.env.scope.names.lookup x = some .local := by rfl) (hy : X.env.scope.names.lookup y = some .local := by rfl)
    (hw : swappedStores [.Tuple [.Name x px, .Name y py] kt pt] (.Tuple [a, b] k2 pt2) X.env = pure (some [x, y]) := by rfl)
    (hs : swapsWithSole [.Tuple [.Name x px, .Name y py] kt pt] (.Tuple [a, b] k2 pt2) pos.line X.env = pure false := by rfl) (h1 : starEach [a, b] X.env = (false, eval a X.env) :: starEach [b] X.env := by rfl) (h2 : starEach [b] X.env = (false, eval b X.env) :: starEach [] X.env := by rfl) :
    PSd X T C W (.Assign [.Tuple [.Name x px, .Name y py] kt pt] (.Tuple [a, b] k2 pt2) pos) (.par i j a' b') := by
  refine PS.weak (ps_par hc hN hi hj hij hx hy (pa_cons ha (pa_cons hb pa_nil h2) h1) hw hs) fun D σ H h => ?_
  obtain ⟨π, B, m, ρ, b, w⟩ := h
  refine tE_out b w fun v H1 π1 B1 m1 u s1 b1 r1 w1 => tE_out b1 w1 fun v2 H2 π2 B2 m2 u2 s2 b2 r2 w2 => ?_
  exact ⟨v, v2, rfl, w2 _ H2 π2 B2 (Step.refl b2.st) ((b2.sl.set i (s2.ru r1)).set j r2)⟩
theorem sd_if {c : Expr} {c' : E} {sa sb : List Stmt} (hc : PDt X T C W J0 c c') (ha : PSsd X T C W sa s) (hb : PSsd X T C W sb t) : PSd X T C W (.If c sa sb pos) (.ifs c' s t) := PS.weak (ps_if hc ha hb) fun D σ H h => by
  obtain ⟨π, B, m, ρ, b, w⟩ := h
  refine tE_out b w fun v H1 π1 B1 m1 u s1 b1 r1 w1 => ?_
  cases u with
  | p j => exact w1.elim
  | v d =>
    cases d with
    | bl x =>
      refine ⟨x, bl_of r1, ?_⟩
      cases x with
      | true => exact iteT ⟨π1, B1, m1, ρ, b1, w1⟩
      | false => exact iteF ⟨π1, B1, m1, ρ, b1, w1⟩
    | _ => exact w1.elim

/-! ### loops -/
structure ItOk (K : Fg) (T : Tb) (J : It) (ds : List D) (B : Hp) : Prop where
  len : ds.length ≤ lim
  walk : Walk J ds.length (fun H => Ex B H) (fun i H x H' => ∀ B1, Ex B B1 → Ex B1 H → ∃ B2 d, ds[i]? = some d ∧ New T B1 H B2 H' ∧ Rp K T B2 x d)
def RI (K : Fg) (T : Tb) : Rel (List D) It := fun _ _ B J ds => ItOk K T J ds B
def tI (K : Fg) (T : Tb) (C : CE) (W : WX) (J : Jt) (e : E) : TI := fun σ H Q => ∃ π B m ρ, Bs K T J π B H m σ ρ ∧ Want (RI K T) K T W σ π B H m (evi C e ρ m) Q
abbrev PDi (X : Cx) (T : Tb) (C : CE) (W : WX) (J : Jt) (tg e : Expr) (e' : E) : Prop := PI X tg e (tI X.K T C W J e')
theorem PI.weak {t u : TI} (h : PI X tg e t) (k : ∀ σ H Q, u σ H Q → t σ H Q) : PI X tg e u := ⟨fun pins s σ H Q I q => h.run pins s σ H Q I (k σ H Q q)⟩
theorem PI.or {t u : TI} (h : PI X tg e t) (k : PI X tg e u) : PI X tg e (fun σ H R => t σ H R ∨ u σ H R) := ⟨fun pins s σ H Q I q => q.elim (fun z => h.run pins s σ H Q I z) fun z => k.run pins s σ H Q I z⟩

/-- a for over what is walked -/
theorem sd_for {it : Expr} {it' : E} {body : List Stmt} (hp : PassesOwn (model X.prog X.w) X.A X.env X.xe) (hc : X.calm = true) (hi : PDi X T C W J0 tg it it') (hg : PGd X tg t') (hb : PSsd X T C W body s) (hs : ∀ x, foldedSetIterable it X.env x = pure x := by intro _; rfl) :
    PSd X T C W (.For tg it body [] pos) (.for_ t' it' s) := by
  have kg := gOf_ok X.K T t'
  refine PS.weak (ps_for hp hc hi hg hb hs) fun D σ H h => ?_
  obtain ⟨π, B, m, ρ, b, w⟩ := h
  have w' : WantS X.K T W π B H m ((evi C it' ρ m).out ρ fun ds m => forL (fun d ρ m => match bindT t' (.v d) ρ with
      | some ρ' => xs C s ρ' m
      | none => .no) ds ρ m) D := w
  refine ⟨π, B, m, ρ, b, w'.out b.sl fun J H1 π1 B1 m1 ds s1 ok w1 => ?_⟩
  refine for_it ok.walk (fun i σ' H' => ∃ π2 B2 m2 ρ2, Ex B1 B2 ∧ Bs X.K T J0 π2 B2 H' m2 σ' ρ2 ∧ WantS X.K T W π2 B2 H' m2 (forL (fun d ρ m => match bindT t' (.v d) ρ with
      | some ρ' => xs C s ρ' m
      | none => .no) (ds.drop i) ρ2 m2) D) ⟨π1, B1, m1, ρ, Ex.refl B1, b.step mono0 s1, by rw [List.drop_zero]; exact w1⟩ (fun i σ' H' _ ⟨π2, B2, m2, ρ2, e2, b2, _⟩ => e2.trans b2.st.ex) ?_ ?_
  · rintro i x σ' H2 H3 hi ⟨π2, B2, m2, ρ2, e2, b2, w2⟩ y
    obtain ⟨B3, d, hd, nw, rp⟩ := y B2 e2 b2.st.ex
    have sN := nw.step b2.st
    have b3 : Bs X.K T J0 π2 B3 H3 m2 σ' ρ2 := b2.step mono0 sN
    have hdrop : ds.drop i = d :: ds.drop (i + 1) := by
      have := List.drop_eq_getElem_cons hi
      rw [this]
      have e3 := (List.getElem?_eq_some_iff.mp hd).2
      rw [e3]
    rw [hdrop] at w2
    have w3 := WantS.rebase w2 sN
    have w4 : WantS X.K T W π2 B3 H3 m2 (match (match bindT t' (.v d) ρ2 with
      | some ρ' => xs C s ρ' m2
      | none => O.no) with
      | .nx ρ' m' => forL (fun d ρ m => match bindT t' (.v d) ρ with
        | some ρ' => xs C s ρ' m
        | none => .no) (ds.drop (i + 1)) ρ' m'
      | .ct ρ' m' => forL (fun d ρ m => match bindT t' (.v d) ρ with
        | some ρ' => xs C s ρ' m
        | none => .no) (ds.drop (i + 1)) ρ' m'
      | .bk ρ' m' => .nx ρ' m'
      | o => o) D := w3
    cases hbd : bindT t' (.v d) ρ2 with
    | none =>
      rw [hbd] at w4
      exact w4.elim
    | some ρ3 =>
      rw [hbd] at w4
      refine kg m2.length π2 B3 H3 σ' ρ2 ρ3 x (.v d) _ b3.st.ex b3.sl rp hbd fun σ3 sl3 _ => ⟨π2, B3, m2, ρ3, ⟨b3.st, sl3, trivial⟩, ?_⟩
      dsimp only at w4
      cases hx : xs C s ρ3 m2 with
      | nx ρ4 m4 =>
        rw [hx] at w4
        exact fun σ4 H4 π4 B4 s4 sl4 => ⟨π4, B4, m4, ρ4, (e2.trans nw.ex).trans s4.ex, ⟨s4.st, sl4, trivial⟩, WantS.rebase w4 s4⟩
      | ct ρ4 m4 =>
        rw [hx] at w4
        exact fun σ4 H4 π4 B4 s4 sl4 => ⟨π4, B4, m4, ρ4, (e2.trans nw.ex).trans s4.ex, ⟨s4.st, sl4, trivial⟩, WantS.rebase w4 s4⟩
      | bk ρ4 m4 =>
        rw [hx] at w4
        exact w4
      | rt u m4 =>
        rw [hx] at w4
        exact w4
      | ex c fs ρ4 m4 =>
        rw [hx] at w4
        exact w4
      | no =>
        rw [hx] at w4
        exact w4
  · rintro σ' H2 ⟨π2, B2, m2, ρ2, e2, b2, w2⟩
    rw [List.drop_length] at w2
    exact w2 σ' H2 π2 B2 (Step.refl b2.st) b2.sl
/-- a while -/
theorem sd_while {c : Expr} {c' : E} {body : List Stmt} (hp : PassesOwn (model X.prog X.w) X.A X.env X.xe) (hc : PDt X T C W J0 c c') (hb : PSsd X T C W body s) : PSd X T C W (.While c body [] pos) (.whl c' s) := by
  refine PS.weak (ps_while hp hc hb) fun D σ H h => ?_
  obtain ⟨π, B, m, ρ, b, w⟩ := h
  refine ⟨fun n σ' H' => ∃ π2 B2 m2 ρ2, Bs X.K T J0 π2 B2 H' m2 σ' ρ2 ∧ WantS X.K T W π2 B2 H' m2 (whlL (fun ρ m => ev C c' ρ m) (fun ρ m => xs C s ρ m) n ρ2 m2) D, ⟨turns, π, B, m, ρ, b, w⟩, ?_⟩
  rintro n σ' H' ⟨π2, B2, m2, ρ2, b2, w2⟩
  cases n with
  | zero => exact w2.elim
  | succ n =>
    have w3 : WantS X.K T W π2 B2 H' m2 ((ev C c' ρ2 m2).out ρ2 fun u m => match u with
      | .v (.bl true) => match xs C s ρ2 m with
        | .nx ρ' m' => whlL (fun ρ m => ev C c' ρ m) (fun ρ m => xs C s ρ m) n ρ' m'
        | .ct ρ' m' => whlL (fun ρ m => ev C c' ρ m) (fun ρ m => xs C s ρ m) n ρ' m'
        | .bk ρ' m' => .nx ρ' m'
        | o => o
      | .v (.bl false) => .nx ρ2 m
      | _ => .no) D := by
      have e : whlL (fun ρ m => ev C c' ρ m) (fun ρ m => xs C s ρ m) (n + 1) ρ2 m2 = _ := rfl
      rw [whlL] at w2
      cases hx : ev C c' ρ2 m2 <;> (rw [hx] at w2; exact w2)
    refine tE_out b2 w3 fun v H1 π1 B1 m1 u s1 b1 r1 w1 => ?_
    cases u with
    | p j => exact w1.elim
    | v d =>
      cases d with
      | bl x =>
        refine ⟨x, bl_of r1, ?_⟩
        cases x with
        | false => exact iteF (w1 σ' H1 π1 B1 (Step.refl b1.st) b1.sl)
        | true =>
          refine iteT ⟨fun σ4 H4 => ∃ π2 B2 m2 ρ2, Bs X.K T J0 π2 B2 H4 m2 σ4 ρ2 ∧ WantS X.K T W π2 B2 H4 m2 (whlL (fun ρ m => ev C c' ρ m) (fun ρ m => xs C s ρ m) n ρ2 m2) D, fun σ4 H4 h4 => ⟨n, Nat.lt_succ_self n, h4⟩, π1, B1, m1, ρ2, b1, ?_⟩
          dsimp only at w1
          cases hx : xs C s ρ2 m1 with
          | nx ρ4 m4 =>
            rw [hx] at w1
            exact fun σ4 H4 π4 B4 s4 sl4 => ⟨π4, B4, m4, ρ4, ⟨s4.st, sl4, trivial⟩, WantS.rebase w1 s4⟩
          | ct ρ4 m4 =>
            rw [hx] at w1
            exact fun σ4 H4 π4 B4 s4 sl4 => ⟨π4, B4, m4, ρ4, ⟨s4.st, sl4, trivial⟩, WantS.rebase w1 s4⟩
          | bk ρ4 m4 =>
            rw [hx] at w1
            exact w1
          | rt u m4 =>
            rw [hx] at w1
            exact w1
          | ex c fs ρ4 m4 =>
            rw [hx] at w1
            exact w1
          | no =>
            rw [hx] at w1
            exact w1
      | _ => exact w1.elim
end
end At

/-! What is walked; comprehensions. -/
namespace At
open PySem L2 Evl

section
variable {K : Fg} {T : Tb} {B : Hp}
theorem Rps.back : ∀ {vs : List V} {ds : List D} {i : Nat} {v : V}, Rps K T B vs ds → vs[i]? = some v → ∃ d, ds[i]? = some d ∧ Rp K T B v d
  | _, _, _, _, .nil, e => by simp at e
  | _, _, 0, _, .cons r _, e => by simp at e; subst e; exact ⟨_, rfl, r⟩
  | _, _, i + 1, _, .cons _ q, e => by
    obtain ⟨v, h1, h2⟩ := Rps.back (i := i) q (by simpa using e)
    exact ⟨v, by simpa using h1, h2⟩
theorem it_list {a : Addr} {xs : List V} {ds : List D} (h : B a = some (.lst xs)) (z : xs.length ≤ lim) (r : Rps K T B xs ds) : ItOk K T (Itl K a) ds B := by
  refine ⟨by rw [← r.len]; exact z, ?_⟩
  rw [← r.len]
  refine (walk_list (K := K) (a := a) (xs := xs)).mono (fun H e => SqL.of (e _ _ h)) fun i H x H' hi e y B1 e1 e2 => ?_
  obtain ⟨rfl, hx⟩ := y
  obtain ⟨d, h1, h2⟩ := r.back hx
  exact ⟨B1, d, h1, New.refl e2, h2.mono e1⟩
theorem it_tup {a : Addr} {xs : List V} {ds : List D} (h : SqT K B a xs) (z : xs.length ≤ lim) (r : Rps K T B xs ds) : ItOk K T (Itt K a) ds B := by
  refine ⟨by rw [← r.len]; exact z, ?_⟩
  rw [← r.len]
  refine (walk_tup (K := K) (a := a) (xs := xs)).mono (fun H e => ex_t e h) fun i H x H' hi e y B1 e1 e2 => ?_
  obtain ⟨rfl, hx⟩ := y
  obtain ⟨d, h1, h2⟩ := r.back hx
  exact ⟨B1, d, h1, New.refl e2, h2.mono e1⟩
theorem it_str {z : Str} (h : z.length ≤ lim) (o : PyData.strOk z = true) : ItOk K T (Its z) (z.cps.toList.map fun c => D.str [c]) B := by
  have ln : (z.cps.toList.map fun c => D.str [c]).length = z.cps.size := by rw [List.length_map, Array.length_toList]
  refine ⟨by rw [ln]; exact h, ?_⟩
  rw [ln]
  refine (walk_str (z := z)).mono (fun H e => trivial) fun i H x H' hi e y B1 e1 e2 => ?_
  obtain ⟨rfl, c, hc, rfl⟩ := y
  have hl : z.cps.toList[i]? = some c := by rw [Array.getElem?_toList]; exact hc
  refine ⟨B1, .str [c], by rw [List.getElem?_map, hl]; rfl, New.refl e2, Rp.text rfl (by show 1 ≤ lim; decide) ?_⟩
  have := List.all_eq_true.mp (strOk_list o) c (List.mem_of_getElem? hl)
  show (decide (c < 0x110000) && true) = true
  rw [this]
  rfl
theorem numbered_get : ∀ (ds : List D) (n i : Nat) (d : D), ds[i]? = some d → (numbered n ds)[i]? = some (.tup [.int ((n + i : Nat) : Int), d])
  | [], _, _, _, e => by simp at e
  | d :: ds, n, 0, _, e => by
    simp at e
    subst e
    rfl
  | _ :: ds, n, i + 1, d, e => by
    have := numbered_get ds (n + 1) i d (by simpa using e)
    show (numbered (n + 1) ds)[i]? = _
    rw [this, show n + 1 + i = n + (i + 1) by omega]
theorem numbered_len : ∀ (ds : List D) (n : Nat), (numbered n ds).length = ds.length
  | [], _ => rfl
  | _ :: ds, n => by
    show (numbered (n + 1) ds).length + 1 = ds.length + 1
    rw [numbered_len]
theorem it_enum {a : Addr} {xs : List V} {ds : List D} (h : B a = some (.lst xs)) (z : xs.length ≤ lim) (r : Rps K T B xs ds) : ItOk K T (Ite K a) (numbered 0 ds) B := by
  refine ⟨by rw [numbered_len, ← r.len]; exact z, ?_⟩
  rw [numbered_len, ← r.len]
  refine (walk_enum (K := K) (a := a) (xs := xs)).mono (fun H e => SqL.of (e _ _ h)) fun i H x H' hi e y B1 e1 e2 => ?_
  obtain ⟨t, x1, x2, rfl, ht, rfl, q1, q2⟩ := y
  cases q1
  obtain ⟨d, h1, h2⟩ := r.back q2
  refine ⟨upd B1 t (.tup [.int (i : Nat), x2]), _, numbered_get ds 0 i d h1, New.one e2 ht, .tup (SqT.of upd_same) (by show 2 ≤ lim; decide) ?_⟩
  rw [Nat.zero_add]
  exact .cons (.int _) (.cons (h2.mono (e1.trans (New.one (T := T) e2 ht).ex)) .nil)
theorem rangeD_get : ∀ (n : Nat) (lo : Int) (i : Nat), i < n → (rangeD lo n)[i]? = some (.int (lo + i))
  | 0, _, _, h => by omega
  | n + 1, lo, 0, _ => by
    show some (D.int lo) = _
    simp
  | n + 1, lo, i + 1, h => by
    show (rangeD (lo + 1) n)[i]? = _
    rw [rangeD_get n (lo + 1) i (by omega)]
    congr 2
    omega
theorem rangeD_len : ∀ (n : Nat) (lo : Int), (rangeD lo n).length = n
  | 0, _ => rfl
  | n + 1, lo => by
    show (rangeD (lo + 1) n).length + 1 = n + 1
    rw [rangeD_len]
theorem it_rng {lo : Int} {n : Nat} (h : n ≤ lim) : ItOk K T (Itr lo n) (rangeD lo n) B := by
  refine ⟨by rw [rangeD_len]; exact h, ?_⟩
  rw [rangeD_len]
  refine (walk_range (lo := lo) (n := n)).mono (fun H e => trivial) fun i H x H' hi e y B1 e1 e2 => ?_
  obtain ⟨rfl, rfl⟩ := y
  exact ⟨B1, _, rangeD_get n lo i hi, New.refl e2, .int _⟩
theorem it_zip {a b : Addr} {xs ys : List V} {ds es : List D} (h : B a = some (.lst xs)) (z : xs.length ≤ lim) (r : Rps K T B xs ds) (h' : B b = some (.lst ys)) (r' : Rps K T B ys es) : ItOk K T (Itz K a b) ((ds.zip es).map fun q => .tup [q.1, q.2]) B := by
  have ln : ((ds.zip es).map fun q => D.tup [q.1, q.2]).length = min xs.length ys.length := by rw [List.length_map, List.length_zip, r.len, r'.len]
  refine ⟨by rw [ln]; exact Nat.le_trans (Nat.min_le_left _ _) z, ?_⟩
  rw [ln]
  refine (walk_zip (K := K) (a := a) (b := b) (xs := xs) (ys := ys) rfl).mono (fun H e => ⟨SqL.of (e _ _ h), SqL.of (e _ _ h')⟩) fun i H x H' hi e y B1 e1 e2 => ?_
  obtain ⟨t, x1, x2, rfl, ht, rfl, q1, q2⟩ := y
  obtain ⟨d, h1, h2⟩ := r.back q1
  obtain ⟨d', g1, g2⟩ := r'.back q2
  refine ⟨upd B1 t (.tup [x1, x2]), .tup [d, d'], ?_, New.one e2 ht, .tup (SqT.of upd_same) (by show 2 ≤ lim; decide) (.cons (h2.mono (e1.trans (New.one (T := T) e2 ht).ex)) (.cons (g2.mono (e1.trans (New.one (T := T) e2 ht).ex)) .nil))⟩
  rw [List.getElem?_map, List.getElem?_zip_eq_some (z := (d, d')) |>.mpr ⟨h1, g1⟩]
  rfl
end
section
variable {X : Cx} {T : Tb} {C : CE} {W : WX} {J : Jt} {a b e : Expr} {a' b' e' : E} {es : List Expr} {es' : E} {pos : Pos} {tg : Expr} {t' : Tg}
theorem pi_seq (hJ : Mono J) (h : PD X T C W J e e') : PDi X T C W J tg e (.seq e') := by
  refine PI.weak (PI.or (PI.or (pi_list h) (pi_tup h)) (pi_str h)) fun σ H R q => ?_
  obtain ⟨π, B, m, ρ, b, w⟩ := q
  rw [evi] at w
  have key : ∀ d m1, ev C e' ρ m = .ok (.v d) m1 → ∀ (G : V → Hp → Prop), (∀ v H1 π1 B1 m1 u, Step X.K T π B H m π1 B1 H1 m1 → Bs X.K T J π1 B1 H1 m1 σ ρ → Ru X.K T m1.length π1 B1 v u → u = .v d → Want (RI X.K T) X.K T W σ π1 B1 H1 m1 (Res (itemsD d) m1) R → G v H1) → tE X.K T C W J e' σ H G := fun d m1 hx G k => by
    rw [hx] at w
    refine ⟨π, B, m, ρ, b, ?_⟩
    rw [hx]
    exact fun v H1 π1 B1 s1 r1 => k v H1 π1 B1 m1 _ s1 (b.step hJ s1) r1 rfl (Want.rebase (show Want (RI X.K T) X.K T W σ π B H m (Res (itemsD d) m1) R from w) s1)
  cases hx : ev C e' ρ m with
  | ok u m1 =>
    cases u with
    | p k =>
      rw [hx] at w
      exact w.elim
    | v d =>
      cases d with
      | lst ds =>
        refine .inl (.inl (key _ _ hx _ fun v H1 π1 B1 m2 u s1 b1 r1 hu w1 => ?_))
        subst hu
        cases r1 with
        | lst h z r => exact ⟨_, rfl, ⟨_, SqL.of (b1.st.ex _ _ h)⟩, w1 _ H1 π1 B1 (Step.refl b1.st) (it_list h z r)⟩
      | tup ds =>
        refine .inl (.inr (key _ _ hx _ fun v H1 π1 B1 m2 u s1 b1 r1 hu w1 => ?_))
        subst hu
        cases r1 with
        | tup h z r => exact ⟨_, rfl, ⟨_, ex_t b1.st.ex h⟩, w1 _ H1 π1 B1 (Step.refl b1.st) (it_tup h z r)⟩
      | str l =>
        refine .inr (key _ _ hx _ fun v H1 π1 B1 m2 u s1 b1 r1 hu w1 => ?_)
        subst hu
        cases r1 with
        | str x h o => exact ⟨x, rfl, w1 _ H1 π1 B1 (Step.refl b1.st) (it_str h o)⟩
      | _ =>
        rw [hx] at w
        exact w.elim
  | ex c fs m1 =>
    rw [hx] at w
    refine .inl (.inl ⟨π, B, m, ρ, b, ?_⟩)
    rw [hx]
    exact w
  | no =>
    rw [hx] at w
    exact w.elim
theorem pi_enumerate {elts : List Expr} {kk : Nat} {p tpos : Pos} (hJ : Mono J) (hg : Gl X "enumerate") (hm : X.mg "enumerate" = none) (h : PD X T C W J e e') (hs : starEach [e] X.env = [(false, eval e X.env)] := by rfl) (hs2 : starEach [e] X.env = (false, eval e X.env) :: starEach [] X.env := by rfl) :
    PDi X T C W J (.Tuple elts kk tpos) (.Call (.Name "enumerate" p) [e] [] pos) (.enum e') := by
  refine PI.weak (pi_enum hg hm (pa_cons h pa_nil hs2) hs) fun σ H R q => ?_
  obtain ⟨π, B, m, ρ, b, w⟩ := q
  rw [evi] at w
  refine tE_bnd hJ b w fun v H1 π1 B1 m1 u s1 b1 r1 w1 => ?_
  cases u with
  | p k => exact w1.elim
  | v d =>
    cases d with
    | lst ds =>
      cases r1 with
      | lst h z r => exact ⟨_, _, rfl, SqL.of (b1.st.ex _ _ h), w1 _ H1 π1 B1 (Step.refl b1.st) (it_enum h z r)⟩
    | _ => exact w1.elim
theorem pi_rng {p : Pos} (hJ : Mono J) (hg : Gl X "range") (hm : X.mg "range" = none) (h : PD X T C W J e e') (hs : starEach [e] X.env = [(false, eval e X.env)] := by rfl) (hs2 : starEach [e] X.env = (false, eval e X.env) :: starEach [] X.env := by rfl) :
    PDi X T C W J tg (.Call (.Name "range" p) [e] [] pos) (.rng e') := by
  refine PI.weak (pi_range1 hg hm (pa_cons h pa_nil hs2) hs) fun σ H R q => ?_
  obtain ⟨π, B, m, ρ, b, w⟩ := q
  rw [evi] at w
  refine tE_bnd hJ b w fun v H1 π1 B1 m1 u s1 b1 r1 w1 => ?_
  cases u with
  | p k => exact w1.elim
  | v d =>
    cases d with
    | int i =>
      cases r1
      have w2 : Want (RI X.K T) X.K T W σ π1 B1 H1 m1 (if i.natAbs ≤ lim then .ok (rangeD 0 i.toNat) m1 else .no) R := w1
      by_cases c : i.natAbs ≤ lim
      · rw [if_pos c] at w2
        have c' : i.natAbs ≤ 1000000 := c
        exact ⟨i, rfl, by omega, by omega, w2 _ H1 π1 B1 (Step.refl b1.st) (it_rng (show i.toNat ≤ 1000000 by omega))⟩
      · rw [if_neg c] at w2
        exact w2.elim
    | _ => exact w1.elim

/-! ### comprehensions -/
theorem Sto.off {K : Fg} {π : Nat → Addr} {B H : Hp} {m : Mu} {p : Addr} {o : HO} (s : Sto K T π B H m) (hB : B p = none) (hk : ∀ k, k < m.length → π k ≠ p) (ho : ∀ y, H p ≠ some (.own y)) (hx : ∀ φ, H p ≠ some (.ext φ)) (ht : ∀ ps, H p ≠ some (.tbl ps)) (hot : ∀ ps, o ≠ .tbl ps) : Sto K T π B (upd H p o) m where
  tb := tabs_upd s.tb ht hx
  nt := s.nt
  ex := fun a u e => by
    have : a ≠ p := fun z => by rw [z, hB] at e; cases e
    rw [upd_ne this]
    exact s.ex a u e
  inj := s.inj
  dom := fun k h => let ⟨u, h1, h2⟩ := s.dom k h; ⟨u, by rw [upd_ne (hk k h)]; exact h1, h2⟩
  cell := fun k x e => by
    have hl : k < m.length := (List.getElem?_eq_some_iff.mp e).1
    have h := s.cell k x e
    cases x with
    | lst us =>
      obtain ⟨h1, xs, h2, h3, h4⟩ := h
      exact ⟨h1, xs, by rw [upd_ne (hk k hl)]; exact h2, h3, h4⟩
    | obj c fs =>
      obtain ⟨h1, hi, dx, fv, h2, h3, h4⟩ := h
      exact ⟨h1, hi, dx, fv, by rw [upd_ne (hk k hl)]; exact h2, by rw [upd_ne (fun z => ho _ (by rw [← z]; exact h3))]; exact h3, h4⟩
    | fz d => exact h
theorem Step.off {K : Fg} {π π' : Nat → Addr} {B B' H H' : Hp} {m m' : Mu} {p : Addr} {o : HO} (s : Step K T π B H m π' B' H' m') (h0 : H p = none) (hB : B' p = none) (hk : ∀ k, k < m'.length → π' k ≠ p) (ho : ∀ y, H' p ≠ some (.own y)) (hx : ∀ φ, H' p ≠ some (.ext φ)) (ht : ∀ ps, H' p ≠ some (.tbl ps)) (hot : ∀ ps, o ≠ .tbl ps) : Step K T π B H m π' B' (upd H' p o) m' :=
  ⟨s.st.off hB hk ho hx ht hot, s.pi, s.len, s.ex, fun a u h hu hn => by rw [upd_ne (ne_of_none h h0)]; exact s.keep a u h hu hn, s.new, s.noab⟩
theorem Step.absorb {K : Fg} {π π' : Nat → Addr} {B B' H H' : Hp} {m m' : Mu} {p : Addr} {o : HO} (s : Step K T π B H m π' B' H' m') (h0 : H p = none) (hH : H' p = some o) (hB : B' p = none) (hk : ∀ k, k < m'.length → π' k ≠ p) (hot : ∀ ps, o ≠ .tbl ps) : Step K T π B H m π' (upd B' p o) H' m' where
  st := {
    ex := fun a u e => by
      by_cases c : a = p
      · subst c
        rw [upd_same] at e
        rw [hH]
        exact e
      · rw [upd_ne c] at e
        exact s.st.ex a u e
    inj := s.st.inj
    dom := s.st.dom
    cell := fun k x e => by
      have hl : k < m'.length := (List.getElem?_eq_some_iff.mp e).1
      have h := s.st.cell k x e
      cases x with
      | lst us =>
        obtain ⟨h1, xs, h2, h3, h4⟩ := h
        exact ⟨(upd_ne (hk k hl)).trans h1, xs, h2, h3, Rus.mono (Nat.le_refl _) (fun _ _ => rfl) (Ex.new hB) h4⟩
      | obj c fs =>
        obtain ⟨h1, hi, dx, fv, h2, h3, h4⟩ := h
        exact ⟨(upd_ne (hk k hl)).trans h1, hi, dx, fv, h2, h3, Ruf.mono (Nat.le_refl _) (fun _ _ => rfl) (Ex.new hB) h4⟩
      | fz d => exact Rp.mono (Ex.new hB) h
    tb := s.st.tb
    nt := nt_upd s.st.nt hot }
  pi := s.pi
  len := s.len
  ex := s.ex.trans (Ex.new hB)
  keep := s.keep
  new := s.new
  noab := fun a u h ht hn ho => (upd_ne (ne_of_none h h0)).trans (s.noab a u h ht hn ho)
/-- the wish inside: no error leaves -/
def WF : WX := fun _ _ _ _ => False
/-- one turn of a comprehension -/
def lcStep (C : CE) (vs : List Nat) (t : Tg) (c e : E) (ρ : Ro) : U → Mu → R (Option D) := fun u m => match bindT t u (wipeR ρ vs) with
  | some ρ' => (ev C c ρ' m).bnd fun b m => match b with
    | .v (.bl true) => (ev C e ρ' m).bnd fun z m => match z with
      | .v d => .ok (some d) m
      | .p _ => .no
    | .v (.bl false) => .ok none m
    | _ => .no
  | none => .no
theorem ev_lc (C : CE) (vs : List Nat) (t : Tg) (it c e : E) (ρ : Ro) (m : Mu) : ev C (.lc vs t it c e) ρ m = (evi C it ρ m).bnd fun ds m => (lcL (lcStep C vs t c e ρ) (ds.map U.v) m).bnd fun xs m => .ok (.v (.lst xs)) m := by
  rw [ev]
  rfl
theorem lcL_ok {f : U → Mu → R (Option D)} : ∀ {us : List U} {m : Mu}, (∃ ds m', lcL f us m = .ok ds m') ∨ lcL f us m = .no
  | [], m => .inl ⟨_, _, rfl⟩
  | u :: us, m => by
    unfold lcL
    cases f u m with
    | ok o m1 =>
      dsimp only
      rcases lcL_ok (f := f) (us := us) (m := m1) with ⟨ds, m2, h⟩ | h
      · rw [h]
        exact .inl ⟨_, _, rfl⟩
      · rw [h]
        exact .inr rfl
    | ex c fs m1 => exact .inr rfl
    | no => exact .inr rfl
theorem lcL_cons {f : U → Mu → R (Option D)} {u : U} {us : List U} {m m' : Mu} {ds : List D} (h : lcL f (u :: us) m = .ok ds m') : ∃ o m1 r, f u m = .ok o m1 ∧ lcL f us m1 = .ok r m' ∧ ds = o.toList ++ r := by
  unfold lcL at h
  cases hf : f u m with
  | ok o m1 =>
    rw [hf] at h
    dsimp only at h
    cases hr : lcL f us m1 with
    | ok r m2 =>
      rw [hr] at h
      dsimp only at h
      cases o with
      | none =>
        cases h
        exact ⟨none, m1, r, rfl, hr, rfl⟩
      | some d =>
        cases h
        exact ⟨some d, m1, r, rfl, hr, rfl⟩
    | ex c fs m2 =>
      rw [hr] at h
      cases h
    | no =>
      rw [hr] at h
      cases h
  | ex c fs m2 =>
    rw [hf] at h
    cases h
  | no =>
    rw [hf] at h
    cases h
theorem lc_read {vs : List Nat} {c' it' : E} {tt : TT} (hJ : Mono J) (hv : ∀ i, i ∈ slotsT t' → i ∈ vs) (ht : ∀ σ H Q, tT X.K T C WF J0 c' σ H Q → tt σ H Q) (σ : L2.St) (H : Hp) (Q : VK) (h : tE X.K T C W J (.lc vs t' it' c' e') σ H Q) :
    tLc (tI X.K T C W J it') (gOf X.K t') tt (tE X.K T C WF J0 e') vs σ H Q := by
  obtain ⟨π, B, m, ρ, b, w⟩ := h
  rw [ev_lc] at w
  refine ⟨π, B, m, ρ, b, w.bnd fun I H1 π1 B1 m1 ds s1 ok w1 => fun L hL => ?_⟩
  have sl1 := b.sl.step s1
  have st1 := s1.st
  rcases lcL_ok (f := lcStep C vs t' c' e' ρ) (us := ds.map U.v) (m := m1) with ⟨all, mE, hall⟩ | hno
  case inr =>
    rw [hno] at w1
    exact w1.elim
  rw [hall] at w1
  have hBL : B1 L = none := fresh_back st1.ex hL
  have hkL : ∀ k, k < m1.length → π1 k ≠ L := fun k hk z => by
    obtain ⟨o, ho, _⟩ := st1.dom k hk
    rw [z, hL] at ho
    cases ho
  refine lc_it ok.walk (fun i H' => ∃ π2 B2 m2 acc dacc rest, Step X.K T π1 B1 H1 m1 π2 B2 H' m2 ∧ H' L = some (.lst acc) ∧ B2 L = none ∧ (∀ k, k < m2.length → π2 k ≠ L) ∧ Rps X.K T B2 acc dacc ∧ acc.length ≤ i ∧
      lcL (lcStep C vs t' c' e' ρ) ((ds.drop i).map U.v) m2 = .ok rest mE ∧ all = dacc ++ rest) ?_ (fun i H' _ ⟨π2, B2, m2, acc, dacc, rest, s2, _⟩ => s2.ex.trans s2.st.ex) ?_ ?_
  · refine ⟨π1, B1, m1, [], [], all, (Step.refl st1).off hL hBL hkL (fun y z => by rw [hL] at z; cases z) (fun y z => by rw [hL] at z; cases z) (fun y z => by rw [hL] at z; cases z) (fun _ z => nomatch z), upd_same, hBL, hkL, .nil, Nat.le_refl _, ?_, rfl⟩
    rw [List.drop_zero]
    exact hall
  · rintro i x H2 H3 hi ⟨π2, B2, m2, acc, dacc, rest, s2, hA, hB, hk, ra, la, hl, ea⟩ y
    obtain ⟨B3, d, hd, nw, rp⟩ := y B2 s2.ex s2.st.ex
    have hdrop : ds.drop i = d :: ds.drop (i + 1) := by
      have := List.drop_eq_getElem_cons hi
      rw [this, (List.getElem?_eq_some_iff.mp hd).2]
    rw [hdrop, List.map_cons] at hl
    obtain ⟨o, m4, r, hf, hr, er⟩ := lcL_cons hl
    have sN := nw.step s2.st
    have s3 := s2.trans sN
    have sl3 := sl1.step s3
    have hA3 : H3 L = some (.lst acc) := nw.exH _ _ hA (fun _ z => nomatch z)
    have hB3 : B3 L = none := (nw.noab L _ hA (fun _ z => nomatch z) fun _ z => nomatch z).trans hB
    have ra3 := ra.mono nw.ex
    unfold lcStep at hf
    cases hb : bindT t' (.v d) (wipeR ρ vs) with
    | none =>
      rw [hb] at hf
      cases hf
    | some ρ' =>
      rw [hb] at hf
      dsimp only at hf
      refine gOf_ok X.K T t' _ _ _ _ _ _ _ _ _ _ s3.st.ex (sl3.wipe vs) (show Ru X.K T m2.length π2 B3 x (.v d) from rp) hb fun σ2 sl4 off => ⟨(off vs hv).trans (wipe_wipe σ vs), ht _ _ _ ?_⟩
      have b4 : Bs X.K T J0 π2 B3 H3 m2 σ2 ρ' := ⟨s3.st, sl4, trivial⟩
      refine ⟨π2, B3, m2, ρ', b4, ?_⟩
      cases hc : ev C c' ρ' m2 with
      | ex c fs m5 =>
        rw [hc] at hf
        cases hf
      | no =>
        rw [hc] at hf
        cases hf
      | ok u m5 =>
        rw [hc] at hf
        intro v H5 π5 B5 s5 r5
        have s5' := s3.trans s5
        have hA5 : H5 L = some (.lst acc) := s5.keep L _ hA3 (fun _ z => nomatch z) fun k hk' z => hk k hk' z.symm
        have hB5 : B5 L = none := (s5.noab L _ hA3 (fun _ z => nomatch z) (fun k hk' z => hk k hk' z.symm) fun _ z => nomatch z).trans hB3
        have hk5 : ∀ k, k < m5.length → π5 k ≠ L := fun k hk' z => by
          by_cases cc : k < m2.length
          · rw [s5.pi k cc] at z
            exact hk k cc z
          · obtain ⟨_, q⟩ := s5.new k (Nat.le_of_not_lt cc) hk' _ (by rw [z]; exact hA3)
            cases q
        have ra5 := ra3.mono s5.ex
        have hf' : (match u with
          | .v (.bl true) => (ev C e' ρ' m5).bnd fun z m => match z with
            | .v d => .ok (some d) m
            | .p _ => .no
          | .v (.bl false) => .ok none m5
          | _ => .no) = .ok o m4 := hf
        cases u with
        | p k => cases hf'
        | v dd =>
          cases dd with
          | bl bb =>
            refine ⟨bb, bl_of r5, ?_⟩
            cases bb with
            | false =>
              cases hf'
              refine iteF ⟨π5, B5, m4, acc, dacc, r, s5', hA5, hB5, hk5, ra5, Nat.le_succ_of_le la, hr, ?_⟩
              rw [ea, er]
              rfl
            | true =>
              refine iteT ⟨π5, B5, m5, ρ', b4.step mono0 s5, ?_⟩
              cases hz : ev C e' ρ' m5 with
              | ex c fs m6 =>
                have hf2 : ((ev C e' ρ' m5).bnd fun z m => match z with
                  | .v d => R.ok (some d) m
                  | .p _ => .no) = .ok o m4 := hf'
                rw [hz] at hf2
                cases hf2
              | no =>
                have hf2 : ((ev C e' ρ' m5).bnd fun z m => match z with
                  | .v d => R.ok (some d) m
                  | .p _ => .no) = .ok o m4 := hf'
                rw [hz] at hf2
                cases hf2
              | ok z m6 =>
                have hf2 : ((ev C e' ρ' m5).bnd fun z m => match z with
                  | .v d => R.ok (some d) m
                  | .p _ => .no) = .ok o m4 := hf'
                rw [hz] at hf2
                intro y6 H6 π6 B6 s6 r6
                cases z with
                | p k => cases hf2
                | v dz =>
                  cases hf2
                  have s6' := s5'.trans s6
                  have hA6 : H6 L = some (.lst acc) := s6.keep L _ hA5 (fun _ z => nomatch z) fun k hk' z => hk5 k hk' z.symm
                  have hB6 : B6 L = none := (s6.noab L _ hA5 (fun _ z => nomatch z) (fun k hk' z => hk5 k hk' z.symm) fun _ z => nomatch z).trans hB5
                  have hk6 : ∀ k, k < m4.length → π6 k ≠ L := fun k hk' z => by
                    by_cases cc : k < m5.length
                    · rw [s6.pi k cc] at z
                      exact hk5 k cc z
                    · obtain ⟨_, q⟩ := s6.new k (Nat.le_of_not_lt cc) hk' _ (by rw [z]; exact hA5)
                      cases q
                  refine ⟨acc, hA6, lim_lt (Nat.lt_of_le_of_lt la (Nat.lt_of_lt_of_le hi ok.len)), π6, B6, m4, acc ++ [y6], dacc ++ [dz], r, s6'.off hL hB6 hk6 (fun y z => by rw [hA6] at z; cases z) (fun y z => by rw [hA6] at z; cases z) (fun y z => by rw [hA6] at z; cases z) (fun _ z => nomatch z), upd_same, hB6, hk6, (ra5.mono s6.ex).app (.cons r6 .nil), ?_, hr, ?_⟩
                  · rw [List.length_append]
                    exact Nat.succ_le_succ la
                  · rw [ea, er, List.append_assoc]
                    rfl
          | _ => cases hf'
  · rintro H2 ⟨π2, B2, m2, acc, dacc, rest, s2, hA, hB, hk, ra, la, hl, ea⟩
    rw [List.drop_length] at hl
    cases hl
    rw [List.append_nil] at ea
    subst ea
    exact w1 _ H2 π2 _ (s2.absorb hL hA hB hk (fun _ z => nomatch z)) (.lst upd_same (Nat.le_trans la ok.len) (ra.mono (Ex.new hB)))

theorem yes_read (σ : L2.St) (H : Hp) (Q : Bool → Hp → Prop) (h : tT X.K T C WF J0 (.cst (.bl true)) σ H Q) : tYes σ H Q := by
  obtain ⟨π, B, m, ρ, b, w⟩ := h
  rw [ev] at w
  obtain ⟨k, e, q⟩ := want_ok w b.st (.bl true)
  cases e
  exact q
/-- what is asked in a comprehension's block -/
abbrev Blk (X : Cx) (scope : Scope) (p : Cx → Prop) : Prop := ∀ (s : Shared) (H : Hp) (D : Addr) (cl : List (Str × Addr)) (fp : List Addr), p (X.blk s H scope (compEnvC scope cl D X.env) fp)
theorem pd_lc0 (own : List (Str × Nat)) {elt tg it : Expr} {it' : E} {scope : Scope} (hJ : Mono J) (hc : X.calm = true) (hN : X.N.Nodup) (hi : PDi X T C W J tg it it') (ok : BlkOk X.N X.env.scope scope own) (hg : Blk X scope fun Y => PGd Y tg t') (he : Blk X scope fun Y => PD Y T C WF J0 elt e')
    (hv : ∀ i, i ∈ slotsT t' → i ∈ own.map (·.2) := by decide) (hs : ∀ x, foldedSetIterable it X.env x = pure x := by intro _; rfl) : PD X T C W J (.ListComp elt [⟨tg, it, [], 0⟩] scope pos) (.lc (own.map (·.2)) t' it' (.cst (.bl true)) e') :=
  PE.weak (pe_lc (tt := tYes) hc hN hi ok hg (fun _ _ _ _ _ => pts_nil) he hs) fun σ H Q h => lc_read hJ hv yes_read σ H Q h
theorem pd_lc1 (own : List (Str × Nat)) {elt tg it c : Expr} {it' c' : E} {scope : Scope} (hJ : Mono J) (hc : X.calm = true) (hN : X.N.Nodup) (hi : PDi X T C W J tg it it') (ok : BlkOk X.N X.env.scope scope own) (hg : Blk X scope fun Y => PGd Y tg t') (ht : Blk X scope fun Y => PDt Y T C WF J0 c c') (he : Blk X scope fun Y => PD Y T C WF J0 elt e')
    (hv : ∀ i, i ∈ slotsT t' → i ∈ own.map (·.2) := by decide) (hs : ∀ x, foldedSetIterable it X.env x = pure x := by intro _; rfl) : PD X T C W J (.ListComp elt [⟨tg, it, [c], 0⟩] scope pos) (.lc (own.map (·.2)) t' it' c' e') :=
  PE.weak (pe_lc hc hN hi ok hg (fun s H D cl fp => pts_one (ht s H D cl fp)) he hs) fun σ H Q h => lc_read hJ hv (fun _ _ _ q => q) σ H Q h
theorem sd_lc0 (i : Nat) (own : List (Str × Nat)) {y : Str} {py spos : Pos} {elt tg it : Expr} {it' : E} {scope : Scope} (hc : X.calm = true) (hN : X.N.Nodup) (hsw : swapsWith (.ListComp elt [⟨tg, it, [], 0⟩] scope pos) (some (.Name y py)) spos.line X.env = pure true) (hi : PDi X T C W J0 tg it it') (ok : BlkOk X.N X.env.scope scope own) (hg : Blk X scope fun Y => PGd Y tg t') (he : Blk X scope fun Y => PD Y T C WF J0 elt e')
    (hv : ∀ i, i ∈ slotsT t' → i ∈ own.map (·.2) := by decide) (hy : X.N[i]? = some y := by rfl) (hyl : X.env.scope.names.lookup y = some .local := by rfl) (hs : ∀ x, foldedSetIterable it X.env x = pure x := by intro _; rfl) : PSd X T C W (.Assign [.Name y py] (.ListComp elt [⟨tg, it, [], 0⟩] scope pos) spos) (.asg (.nm i) (.lc (own.map (·.2)) t' it' (.cst (.bl true)) e')) :=
  PS.weak (ps_setLc (tt := tYes) hc hN hy hyl hsw hi ok hg (fun _ _ _ _ _ => pts_nil) he hs) fun D σ H h => asg_read (gOf_ok X.K T (.nm i)) D σ H h fun Q q => lc_read mono0 hv yes_read σ H Q q
theorem sd_lc1 (i : Nat) (own : List (Str × Nat)) {y : Str} {py spos : Pos} {elt tg it c : Expr} {it' c' : E} {scope : Scope} (hc : X.calm = true) (hN : X.N.Nodup) (hsw : swapsWith (.ListComp elt [⟨tg, it, [c], 0⟩] scope pos) (some (.Name y py)) spos.line X.env = pure true) (hi : PDi X T C W J0 tg it it') (ok : BlkOk X.N X.env.scope scope own) (hg : Blk X scope fun Y => PGd Y tg t') (ht : Blk X scope fun Y => PDt Y T C WF J0 c c') (he : Blk X scope fun Y => PD Y T C WF J0 elt e')
    (hv : ∀ i, i ∈ slotsT t' → i ∈ own.map (·.2) := by decide) (hy : X.N[i]? = some y := by rfl) (hyl : X.env.scope.names.lookup y = some .local := by rfl) (hs : ∀ x, foldedSetIterable it X.env x = pure x := by intro _; rfl) : PSd X T C W (.Assign [.Name y py] (.ListComp elt [⟨tg, it, [c], 0⟩] scope pos) spos) (.asg (.nm i) (.lc (own.map (·.2)) t' it' c' e')) :=
  PS.weak (ps_setLc hc hN hy hyl hsw hi ok hg (fun s H D cl fp => pts_one (ht s H D cl fp)) he hs) fun D σ H h => asg_read (gOf_ok X.K T (.nm i)) D σ H h fun Q q => lc_read mono0 hv (fun _ _ _ q => q) σ H Q q
end
end At

/-! Defs and their calls; lists that are changed. -/
namespace At
open PySem L2 Evl
open PySem.Calls PyProof.Rows

/-- the wish of a def's body -/
abbrev WD (E : XK) : WX := fun cls d _ H => E cls d H
/-- a def: values and the store in, a value (or an error) and the store out -/
def spM (K : Fg) (T : Tb) (F : List U → Mu → R U) : Sp := fun vs H Q E => ∃ π B m us, Sto K T π B H m ∧ Rus K T m.length π B vs us ∧ Want (RU K T) K T (WD E) [] π B H m (F us m) Q

section
variable {K : Fg} {T : Tb} {C : CE}
theorem sto_nil {π : Nat → Addr} {B H : Hp} (e : Ex B H) (t : LamX.Tabs T.tabs H) (nt : ∀ a ps, B a ≠ some (.tbl ps)) : Sto K T π B H [] := ⟨e, fun i j hi => absurd hi (by simp), fun k hk => absurd hk (by simp), fun k x e => by simp at e, t, nt⟩
theorem New.of_step {π π' : Nat → Addr} {B H B' H' : Hp} {m' : Mu} (s : Step K T π B H [] π' B' H' m') : New T B H B' H' :=
  ⟨s.ex, fun a o h ht => s.keep a o h ht fun k hk => absurd hk (by simp), s.st.ex, fun a o h ht hn => s.noab a o h ht (fun k hk => absurd hk (by simp)) hn, fun _ => s.st.tb, fun _ => s.st.nt⟩
theorem rus_get {n : Nat} {π : Nat → Addr} {B : Hp} : ∀ {vs : List V} {us : List U} {i : Nat} {u : U}, Rus K T n π B vs us → us[i]? = some u → ∃ v, vs[i]? = some v ∧ Ru K T n π B v u
  | _, _, _, _, .nil, e => by simp at e
  | _, _, 0, _, .cons r _, e => by simp at e; subst e; exact ⟨_, rfl, r⟩
  | _, _, i + 1, _, .cons _ q, e => by
    obtain ⟨v, h1, h2⟩ := rus_get (i := i) q (by simpa using e)
    exact ⟨v, by simpa using h1, h2⟩
theorem start_slots {N : List Str} {vs : List V} {us : List U} {B : Hp} {n k : Nat} {π : Nat → Addr} (r : Rus K T k π B vs us) (hN : N.length = n) : Slots K T k π B (L2.start N vs) (startU n us) := by
  have hl := rus_len r
  refine ⟨?_, fun i u e => ?_⟩
  · unfold L2.start startU
    rw [List.length_append, List.length_append, List.length_map, List.length_map, List.length_replicate, List.length_replicate, hN, hl]
  · unfold startU at e
    by_cases c : i < us.length
    · rw [List.getElem?_append_left (by rw [List.length_map]; exact c), List.getElem?_map] at e
      cases hd : us[i]? with
      | none =>
        rw [hd] at e
        cases e
      | some d =>
        rw [hd] at e
        cases e
        obtain ⟨v, h1, h2⟩ := rus_get r hd
        refine ⟨v, ?_, h2⟩
        unfold L2.start
        rw [List.getElem?_append_left (by rw [List.length_map, hl]; exact c), List.getElem?_map, h1]
        rfl
    · rw [List.getElem?_append_right (by rw [List.length_map]; omega), List.getElem?_replicate] at e
      split at e <;> cases e
theorem run_read {N : List Str} {f : Fn} {vs : List V} {H : Hp} {Q : VK} {E : XK} (hN : N.length = f.slots) {π : Nat → Addr} {B : Hp} {m : Mu} {us : List U} (st : Sto K T π B H m) (r : Rus K T m.length π B vs us) (ha : us.length = f.ar) (w : Want (RU K T) K T (WD E) [] π B H m (f.run C us m) Q) :
    tS K T C (WD E) f.body { nx := fun _ H' => Q .non H', rt := Q } (L2.start N vs) H := by
  refine ⟨π, B, m, startU f.slots us, ⟨st, start_slots r hN, trivial⟩, ?_⟩
  unfold Fn.run at w
  rw [if_pos ha] at w
  cases hx : xs C f.body (startU f.slots us) m with
  | nx ρ m =>
    rw [hx] at w
    exact fun σ' H' π' B' s _ => w .non H' π' B' s .non
  | rt u m =>
    rw [hx] at w
    exact fun v H' π' B' s r => w v H' π' B' s r
  | bk ρ m =>
    rw [hx] at w
    exact w.elim
  | ct ρ m =>
    rw [hx] at w
    exact w.elim
  | ex c fs ρ m =>
    rw [hx] at w
    exact fun σ' x xs H' π' B' s _ q1 q2 => w x xs H' π' B' s q1 q2
  | no =>
    rw [hx] at w
    exact w.elim
theorem run_ar {W : WX} {σ : L2.St} {π : Nat → Addr} {B H : Hp} {m : Mu} {g : Fn} {us : List U} {Q : VK} (w : Want (RU K T) K T W σ π B H m (g.run C us m) Q) : us.length = g.ar := by
  unfold Fn.run at w
  by_cases c : us.length = g.ar
  · exact c
  · rw [if_neg c] at w
    exact w.elim
/-- the code object of a function -/
def codeAt (K : Fg) (f : Addr) : Value := match K.lookup f with
  | some ⟨_, _, .func fd, _⟩ => fd.code
  | _ => .none
/-- A DEF BY ITS BODY -/
theorem fn_okM {P : Program} {w : World} {mg : Str → Option Value} {base : Heap} {x qual : Str} {params : Arguments} {body : List Stmt} {scope : Scope} {dvs : List V} {kws : List (Str × V)} {f : Addr} {fd : FuncData} {N ps : List Str} {k : Nat} {g : Fn} (F : FunD K x qual params body scope dvs kws f fd) (S : FnScope N ps scope) (hN : N.length = g.slots) (hps : ps.length = g.ar)
    (hb : ∀ (cdv : Value) (A : Around) (outer : List Env) (s : Shared) (H : Hp) (E : XK), Room k (A.deeper (envOfC qual scope s.heap.objs.size f cdv)) → codeAt K f = cdv → PSsd (cxOf (L2.CX P w) P w K mg base N qual scope f cdv A outer s H E) T C (WD E) body g.body) :
    FnOk P w K mg base (L2.CX P w) (k + 1) f fd ps (spM K T (g.run C)) := by
  obtain ⟨oc, od, dV, kV, doc, pm, an, cdv, ct, osl, rfl, lk, hcd, _, _⟩ := F.ex
  refine fn_of lk hcd S (fun vs H Q E h => ?_) fun A outer s H vs Q E hr h => ⟨_, hb cdv A outer s H E hr (by unfold codeAt; rw [lk]), ?_⟩
  · obtain ⟨π, B, m, us, st, r, w⟩ := h
    rw [rus_len r, hps]
    exact run_ar w
  · obtain ⟨π, B, m, us, st, r, w⟩ := h
    exact run_read hN st r (run_ar w) w
/-- nothing is promised -/
theorem fn_no {P : Program} {w : World} {mg : Str → Option Value} {base : Heap} {f : Addr} {fd : FuncData} {ps : List Str} {k : Nat} : FnOk P w K mg base (L2.CX P w) k f fd ps (spM K T fun _ _ => .no) :=
  ⟨fun vs H Q E ⟨_, _, _, _, _, _, w⟩ => w.elim, fun A outer s H args us vs Q E _ _ _ _ ⟨_, _, _, _, _, _, w⟩ => w.elim⟩
end

/-- what is known of a def that is called: it stands under the name x -/
structure DefOk (P : Program) (w : World) (K : Fg) (mg : Str → Option Value) (base : Heap) (T : Tb) (k : Nat) (x : Str) (F : List U → Mu → R U) : Prop where
  to : ∃ (f : Addr) (fd : FuncData) (ps : List Str), mg x = some (.ref f) ∧ PySem.W.keepIn K (.ref f) = true ∧ Binds K fd ps [] ∧ FnOk P w K mg base (L2.CX P w) k f fd ps (spM K T F)
theorem DefOk.mono {P : Program} {w : World} {K : Fg} {mg : Str → Option Value} {base : Heap} {T : Tb} {j k : Nat} {x : Str} {F : List U → Mu → R U} (h : DefOk P w K mg base T j x F) (hk : j ≤ k) : DefOk P w K mg base T k x F := by
  obtain ⟨f, fd, ps, h1, h2, h3, h4⟩ := h.to
  exact ⟨f, fd, ps, h1, h2, h3, h4.mono hk⟩
theorem rus_of {K : Fg} {T : Tb} {n : Nat} {π : Nat → Addr} {B : Hp} : ∀ {xs : List V} {ds : List D}, Rps K T B xs ds → Rus K T n π B xs (ds.map U.v)
  | _, _, .nil => .nil
  | _, _, .cons r q => .cons r (rus_of q)
section
variable {X : Cx} {T : Tb} {C : CE} {W : WX} {J : Jt} {a b e : Expr} {a' b' e' : E} {es : List Expr} {es' : E} {pos : Pos}
theorem want_wd {K : Fg} {σ : L2.St} {H : Hp} {π : Nat → Addr} {B : Hp} {m : Mu} {r : R U} {Q : VK} (w : Want (RU K T) K T W σ π B H m r Q) : Want (RU K T) K T (WD (WE W σ)) [] π B H m r Q := by
  cases r with
  | ok u m' => exact w
  | ex c fs m' => exact w
  | no => exact w
/-- data in, data out: the callee's own store is empty -/
theorem call_read {i : Nat} {K : Fg} {σ : L2.St} {H : Hp} {π : Nat → Addr} {B : Hp} {m : Mu} {us : List U} {vs : List V} {Q : VK} (st : Sto K T π B H m) (r : Rus K T m.length π B vs us)
    (w : Want (RU K T) K T W σ π B H m (match plainU us with | some ds => fromP m (C.fn i ds) | none => .no) Q) : spM K T (C.fm i) vs H Q (WE W σ) := by
  cases e : plainU us with
  | none =>
    rw [e] at w
    exact w.elim
  | some ds =>
    rw [e] at w
    dsimp only at w
    refine ⟨π, B, [], ds.map U.v, sto_nil st.ex st.tb st.nt, rus_of (plainU_ok r e), ?_⟩
    unfold CE.fn at w
    cases hp : C.fm i (ds.map U.v) [] with
    | ok u m' =>
      rw [hp] at w
      dsimp only [pureP] at w
      cases hs : see m' u with
      | none =>
        rw [hs] at w
        exact w.elim
      | some d =>
        rw [hs] at w
        cases u with
        | v d' =>
          cases hs
          exact fun v H' π' B' s rp => w v H' π B' ((New.of_step s).step st) rp
        | p k =>
          intro v H' π' B' s rp
          obtain ⟨_, rfl⟩ := rp
          have hs' : (match m'[k]? with | some x => seeM x | none => none) = some d := hs
          cases h0 : m'[k]? with
          | none =>
            rw [h0] at hs'
            cases hs'
          | some z =>
            rw [h0] at hs'
            obtain ⟨B3, s3, r3⟩ := Step.freeze s.st h0 hs'
            exact w _ H' π B3 ((New.of_step (s.trans s3)).step st) r3
    | ex c fs m' =>
      rw [hp] at w
      exact fun x xs H' π' B' s q1 q2 => w x xs H' π B' ((New.of_step s).step st) q1 q2
    | no =>
      rw [hp] at w
      exact w.elim
/-- data in, a new list out -/
theorem calln_read {i : Nat} {K : Fg} {σ : L2.St} {H : Hp} {π : Nat → Addr} {B : Hp} {m : Mu} {us : List U} {vs : List V} {Q : VK} (st : Sto K T π B H m) (r : Rus K T m.length π B vs us)
    (w : Want (RU K T) K T W σ π B H m (match plainU us with
      | some ds => match newP (C.fm i (ds.map U.v) []) with
        | some (.ok xs _) => .ok (.p m.length) (m ++ [.lst (xs.map U.v)])
        | some (.ex c fs _) => .ex c fs m
        | _ => .no
      | none => .no) Q) : spM K T (C.fm i) vs H Q (WE W σ) := by
  cases e : plainU us with
  | none =>
    rw [e] at w
    exact w.elim
  | some ds =>
    rw [e] at w
    dsimp only at w
    refine ⟨π, B, [], ds.map U.v, sto_nil st.ex st.tb st.nt, rus_of (plainU_ok r e), ?_⟩
    cases hp : C.fm i (ds.map U.v) [] with
    | ok u m' =>
      rw [hp] at w
      cases u with
      | v d => exact w.elim
      | p k =>
        dsimp only [newP] at w
        cases h0 : m'[k]? with
        | none =>
          rw [h0] at w
          exact w.elim
        | some z =>
          rw [h0] at w
          cases z with
          | lst ws =>
            dsimp only at w
            cases hq : plainU ws with
            | none =>
              rw [hq] at w
              exact w.elim
            | some xs =>
              rw [hq] at w
              intro v H' π' B' s rp
              obtain ⟨hk, rfl⟩ := rp
              obtain ⟨c1, ys, c2, c3, c4⟩ := s.st.cell k _ h0
              have nw := New.of_step s
              have st' := st.new nw
              have hn : ∀ j, j < m.length → π j ≠ π' k := fun j hj z => by
                obtain ⟨o, g1, g2, g3⟩ := st.dom j hj
                rw [z] at g1
                obtain ⟨ps, g4⟩ := s.new k (Nat.zero_le _) hk o g1
                exact g3 ps g4
              refine w (.ref (π' k)) H' (fun j => if j = m.length then π' k else π j) B' ?_ ⟨by simp, congrArg V.ref (if_pos rfl).symm⟩
              have ln : (m ++ [M.lst (xs.map U.v)]).length = m.length + 1 := by simp
              have old : ∀ j, j < m.length → (fun j => if j = m.length then π' k else π j) j = π j := fun j hj => if_neg (Nat.ne_of_lt hj)
              refine ⟨⟨st'.ex, fun a b ha hb eq => ?_, fun j hj => ?_, fun j y ey => ?_, st'.tb, st'.nt⟩, old, by rw [ln]; exact Nat.le_succ _, nw.ex, fun a o ha ht _ => nw.exH a o ha ht, fun j j1 j2 o ho => ?_, fun a o ha ht _ hy => nw.noab a o ha ht hy⟩
              · rw [ln] at ha hb
                by_cases ca : a = m.length
                · by_cases cb : b = m.length
                  · rw [ca, cb]
                  · rw [if_pos ca, if_neg cb] at eq
                    exact absurd eq.symm (hn b (by omega))
                · by_cases cb : b = m.length
                  · rw [if_neg ca, if_pos cb] at eq
                    exact absurd eq (hn a (by omega))
                  · rw [if_neg ca, if_neg cb] at eq
                    exact st.inj a b (by omega) (by omega) eq
              · rw [ln] at hj
                by_cases cj : j = m.length
                · rw [if_pos cj]
                  exact ⟨_, c2, (fun _ z => nomatch z), fun _ z => nomatch z⟩
                · rw [if_neg cj]
                  exact st'.dom j (by omega)
              · by_cases cj : j < m.length
                · rw [List.getElem?_append_left cj] at ey
                  have hc := st'.cell j y ey
                  have hl : m.length ≤ (m ++ [M.lst (xs.map U.v)]).length := by rw [ln]; exact Nat.le_succ _
                  show Cell K T _ _ B' _ ((fun j => if j = m.length then π' k else π j) j) y
                  rw [old j cj]
                  cases y with
                  | lst us =>
                    obtain ⟨h1, xs, h2, h3, h4⟩ := hc
                    exact ⟨h1, xs, h2, h3, Rus.mono hl old (Ex.refl B') h4⟩
                  | obj c' fs =>
                    obtain ⟨h1, hi, dx, fv, h2, h3, h4⟩ := hc
                    exact ⟨h1, hi, dx, fv, h2, h3, Ruf.mono hl old (Ex.refl B') h4⟩
                  | fz d => exact hc
                · have hj : j = m.length := by
                    have := (List.getElem?_eq_some_iff.mp ey).1
                    rw [ln] at this
                    omega
                  subst hj
                  rw [List.getElem?_append_right (Nat.le_refl _), Nat.sub_self] at ey
                  cases ey
                  show Cell K T _ _ B' _ ((fun j => if j = m.length then π' k else π j) m.length) _
                  dsimp only
                  rw [if_pos rfl]
                  exact ⟨c1, ys, c2, c3, rus_of (plainU_ok c4 hq)⟩
              · have hj : j = m.length := by
                  rw [ln] at j2
                  omega
                rw [if_pos hj] at ho
                exact s.new k (Nat.zero_le _) hk o ho
          | _ => exact w.elim
    | ex c fs m' =>
      rw [hp] at w
      exact fun x xs H' π' B' s q1 q2 => w x xs H' π B' ((New.of_step s).step st) q1 q2
    | no =>
      rw [hp] at w
      exact w.elim
theorem pd_call {k i : Nat} {x : Str} {p : Pos} (hJ : Mono J) (tk : Takes X W) (hr : Room k X.A) (F : DefOk X.prog X.w X.K X.mg X.base T k x (C.fm i)) (hg : Gl X x) (ha : PDs X T C W J (e :: es) es')
    (hdb : (x == ("__debug__" : Str)) = false := by decide) (he : starEach (e :: es) X.env = (false, eval e X.env) :: starEach es X.env := by rfl) (hpl : (backTo pos (starEach es X.env)).any (·.1) = false := by rfl) :
    PD X T C W J (.Call (.Name x p) (e :: es) [] pos) (.call i es') := by
  obtain ⟨f, fd, ps, hm, hk, hb, F⟩ := F.to
  refine PE.weak (pe_callSD (dvs := []) (ds := []) F hr hg hm hk hb .nil (fun σ => passAt tk σ) ha hdb he hpl) fun σ H Q h => ?_
  obtain ⟨π, B, m, ρ, b, w⟩ := h
  rw [ev] at w
  refine tEs_bnd hJ b w fun vs H1 π1 B1 m1 us s1 b1 r1 w1 => ?_
  rw [List.append_nil]
  exact call_read b1.st r1 w1
theorem pd_calln {k i : Nat} {x : Str} {p : Pos} (hJ : Mono J) (tk : Takes X W) (hr : Room k X.A) (F : DefOk X.prog X.w X.K X.mg X.base T k x (C.fm i)) (hg : Gl X x) (ha : PDs X T C W J (e :: es) es')
    (hdb : (x == ("__debug__" : Str)) = false := by decide) (he : starEach (e :: es) X.env = (false, eval e X.env) :: starEach es X.env := by rfl) (hpl : (backTo pos (starEach es X.env)).any (·.1) = false := by rfl) :
    PD X T C W J (.Call (.Name x p) (e :: es) [] pos) (.calln i es') := by
  obtain ⟨f, fd, ps, hm, hk, hb, F⟩ := F.to
  refine PE.weak (pe_callSD (dvs := []) (ds := []) F hr hg hm hk hb .nil (fun σ => passAt tk σ) ha hdb he hpl) fun σ H Q h => ?_
  obtain ⟨π, B, m, ρ, b, w⟩ := h
  rw [ev] at w
  refine tEs_bnd hJ b w fun vs H1 π1 B1 m1 us s1 b1 r1 w1 => ?_
  rw [List.append_nil]
  exact calln_read b1.st r1 w1
theorem pd_callm {k i : Nat} {x : Str} {p : Pos} (hJ : Mono J) (tk : Takes X W) (hr : Room k X.A) (F : DefOk X.prog X.w X.K X.mg X.base T k x (C.fm i)) (hg : Gl X x) (ha : PDs X T C W J (e :: es) es')
    (hdb : (x == ("__debug__" : Str)) = false := by decide) (he : starEach (e :: es) X.env = (false, eval e X.env) :: starEach es X.env := by rfl) (hpl : (backTo pos (starEach es X.env)).any (·.1) = false := by rfl) :
    PD X T C W J (.Call (.Name x p) (e :: es) [] pos) (.callm i es') := by
  obtain ⟨f, fd, ps, hm, hk, hb, F⟩ := F.to
  refine PE.weak (pe_callSD (dvs := []) (ds := []) F hr hg hm hk hb .nil (fun σ => passAt tk σ) ha hdb he hpl) fun σ H Q h => ?_
  obtain ⟨π, B, m, ρ, b, w⟩ := h
  rw [ev] at w
  refine tEs_bnd hJ b w fun vs H1 π1 B1 m1 us s1 b1 r1 w1 => ?_
  rw [List.append_nil]
  exact ⟨π1, B1, m1, us, b1.st, r1, want_wd w1⟩
theorem pd_call0 {k i : Nat} {x : Str} {p : Pos} (hJ : Mono J) (tk : Takes X W) (hr : Room k X.A) (F : DefOk X.prog X.w X.K X.mg X.base T k x (C.fm i)) (hg : Gl X x) (hdb : (x == ("__debug__" : Str)) = false := by decide) : PD X T C W J (.Call (.Name x p) [] [] pos) (.call i .nil) := by
  obtain ⟨f, fd, ps, hm, hk, hb, F⟩ := F.to
  refine ⟨fun pins s σ H Q I h => ?_⟩
  obtain ⟨π, B, m, ρ, b, w⟩ := h
  rw [ev, evs] at w
  refine wpAny_Call_Name_kw (ld_glob I hg hm ?_ hdb)
  refine PySem.W.callWith_K0 I.kIn hk (run_fnSD (E := WE W) (dvs := []) (ds := []) (us := []) F hr hb .nil (passAt tk σ) I .nil ?_)
  exact call_read (us := []) b.st .nil w

/-! ### lists that are changed -/
theorem lstAt_ok {m : Mu} {u : U} {k : Nat} (h : lstAt m u = some k) : u = .p k ∧ ∃ us, m[k]? = some (.lst us) := by
  cases u with
  | v d => cases h
  | p j =>
    have h' : (match m[j]? with | some (.lst _) => some j | _ => none) = some k := h
    cases hm : m[j]? with
    | none =>
      rw [hm] at h'
      cases h'
    | some x =>
      rw [hm] at h'
      cases x with
      | lst us =>
        cases h'
        exact ⟨rfl, us, hm⟩
      | _ => cases h'
theorem rus_app {K : Fg} {n : Nat} {π : Nat → Addr} {B : Hp} : ∀ {xs ys : List V} {us ws : List U}, Rus K T n π B xs us → Rus K T n π B ys ws → Rus K T n π B (xs ++ ys) (us ++ ws)
  | _, _, _, _, .nil, q => q
  | _, _, _, _, .cons r t, q => .cons r (rus_app t q)
theorem rus_set {K : Fg} {n : Nat} {π : Nat → Addr} {B : Hp} {x : V} {u : U} (r : Ru K T n π B x u) : ∀ {xs : List V} {us : List U} (i : Nat), Rus K T n π B xs us → Rus K T n π B (xs.set i x) (us.set i u)
  | _, _, _, .nil => .nil
  | _, _, 0, .cons _ t => .cons r t
  | _, _, i + 1, .cons q t => .cons q (rus_set r i t)
theorem sd_app {apos cpos p : Pos} (ha : PD X T C W J0 a a') (he : PD X T C W J0 e e') (hbase : attributeBase a "append" X.env (eval a X.env) = eval a X.env := by rfl)
    (hfew : ((backTo cpos (starEach [e] X.env)).all (fun x => !x.1) && (backToKw cpos (keywordEach [] X.env)).all (fun x => x.1.isSome)
      && decide ([e].length + ([] : List Keyword).length + (if ([] : List Keyword).isEmpty then 0 else 1) < 30)) = true := by rfl)
    (hline : (apos.endLine == cpos.line) = true := by rfl) (hs : starEach [e] X.env = (false, eval e X.env) :: starEach [] X.env := by rfl) (hsw : swapsWith (.Call (.Attribute a "append" apos) [e] [] cpos) none p.line X.env = pure false := by rfl) :
    PSd X T C W (.Expr (.Call (.Attribute a "append" apos) [e] [] cpos) p) (.app a' e') := by
  refine PS.weak (ps_expr (pe_bm PySem.F.plainAttrs_list PySem.F.slot_list_append PySem.F.type_list_append mt_append ha (pa_cons he pa_nil hs) hbase hfew hline hs) hsw) fun D σ H h => ?_
  obtain ⟨π, B, m, ρ, b, w⟩ := h
  refine tE_out b w fun v H1 π1 B1 m1 u s1 b1 r1 w1 => ?_
  obtain ⟨k, hk, hu, us1, hm1⟩ : ∃ k, lstAt m1 u = some k ∧ u = .p k ∧ ∃ us, m1[k]? = some (.lst us) := by
    cases hl : lstAt m1 u with
    | none =>
      rw [hl] at w1
      exact w1.elim
    | some k => exact ⟨k, rfl, lstAt_ok hl⟩
  rw [hk] at w1
  subst hu
  obtain ⟨hk1, rfl⟩ := r1
  obtain ⟨_, xs1, g1, _⟩ := b1.st.cell k _ hm1
  refine ⟨.inl ⟨rfl, xs1, SqL.of g1⟩, tE_out b1 w1 fun y H2 π2 B2 m2 w s2 b2 r2 w2 => ?_⟩
  cases hm2 : m2[k]? with
  | none =>
    rw [hm2] at w2
    exact w2.elim
  | some x =>
    rw [hm2] at w2
    cases x with
    | lst us =>
      dsimp only at w2
      by_cases c : us.length < lim
      · rw [if_pos c] at w2
        have hk2 : k < m2.length := (List.getElem?_eq_some_iff.mp hm2).1
        obtain ⟨h1, xs, h2, h3, h4⟩ := b2.st.cell k _ hm2
        have hx : xs.length < lim := by rw [rus_len h4]; exact c
        refine ⟨π2 k, xs, y, by rw [s2.pi k hk1], rfl, h2, lim_lt hx, w2 σ _ π2 B2 (Step.put b2.st hk2 h1 h2 (fun _ z => nomatch z) (fun _ z => nomatch z) (fun _ z => nomatch z) (fun _ z => nomatch z) ⟨h1, xs ++ [y], upd_same, ?_, ?_⟩) ?_⟩
        · rw [List.length_append]
          exact hx
        · rw [List.length_set]
          exact rus_app h4 (.cons r2 .nil)
        · rw [List.length_set]
          exact b2.sl
      · rw [if_neg c] at w2
        exact w2.elim
    | _ => exact w2.elim

theorem sd_ext {apos cpos p : Pos} (ha : PD X T C W J0 a a') (he : PD X T C W J0 e e') (hbase : attributeBase a "extend" X.env (eval a X.env) = eval a X.env := by rfl)
    (hfew : ((backTo cpos (starEach [e] X.env)).all (fun x => !x.1) && (backToKw cpos (keywordEach [] X.env)).all (fun x => x.1.isSome)
      && decide ([e].length + ([] : List Keyword).length + (if ([] : List Keyword).isEmpty then 0 else 1) < 30)) = true := by rfl)
    (hline : (apos.endLine == cpos.line) = true := by rfl) (hs : starEach [e] X.env = (false, eval e X.env) :: starEach [] X.env := by rfl) (hsw : swapsWith (.Call (.Attribute a "extend" apos) [e] [] cpos) none p.line X.env = pure false := by rfl) :
    PSd X T C W (.Expr (.Call (.Attribute a "extend" apos) [e] [] cpos) p) (.ext a' e') := by
  refine PS.weak (ps_expr (pe_bm PySem.F.plainAttrs_list PySem.F.slot_list_extend PySem.F.type_list_extend mt_extend ha (pa_cons he pa_nil hs) hbase hfew hline hs) hsw) fun D σ H h => ?_
  obtain ⟨π, B, m, ρ, b, w⟩ := h
  refine tE_out b w fun v H1 π1 B1 m1 u s1 b1 r1 w1 => ?_
  obtain ⟨k, hk, hu, us1, hm1⟩ : ∃ k, lstAt m1 u = some k ∧ u = .p k ∧ ∃ us, m1[k]? = some (.lst us) := by
    cases hl : lstAt m1 u with
    | none =>
      rw [hl] at w1
      exact w1.elim
    | some k => exact ⟨k, rfl, lstAt_ok hl⟩
  rw [hk] at w1
  subst hu
  obtain ⟨hk1, rfl⟩ := r1
  obtain ⟨_, xs1, g1, _⟩ := b1.st.cell k _ hm1
  refine ⟨.inl ⟨rfl, xs1, SqL.of g1⟩, tE_out b1 w1 fun y H2 π2 B2 m2 w s2 b2 r2 w2 => ?_⟩
  cases hm2 : m2[k]? with
  | none =>
    rw [hm2] at w2
    exact w2.elim
  | some x =>
    rw [hm2] at w2
    cases x with
    | lst us =>
      cases hse : see m2 w with
      | none =>
        rw [hse] at w2
        exact w2.elim
      | some dd =>
        rw [hse] at w2
        cases dd with
        | lst ds =>
          dsimp only at w2
          by_cases c : us.length + ds.length ≤ lim
          · rw [if_pos c] at w2
            have hk2 : k < m2.length := (List.getElem?_eq_some_iff.mp hm2).1
            obtain ⟨h1, xs, h2, h3, h4⟩ := b2.st.cell k _ hm2
            have rq := see_ok b2.st r2 hse
            cases rq with
            | lst g z q =>
              rename_i a2 ys
              have hx : xs.length + ys.length ≤ lim := by rw [rus_len h4, q.len]; exact c
              refine ⟨π2 k, a2, xs, ys, by rw [s2.pi k hk1], rfl, h2, g, lim_size hx, w2 σ _ π2 B2 (Step.put b2.st hk2 h1 h2 (fun _ z => nomatch z) (fun _ z => nomatch z) (fun _ z => nomatch z) (fun _ z => nomatch z) ⟨h1, xs ++ ys, upd_same, ?_, ?_⟩) ?_⟩
              · rw [List.length_append]
                exact hx
              · rw [List.length_set]
                exact rus_app h4 (rus_of q)
              · rw [List.length_set]
                exact b2.sl
          · rw [if_neg c] at w2
            exact w2.elim
        | _ => exact w2.elim
    | _ => exact w2.elim
theorem sd_setI {i : Expr} {i' : E} {tpos : Pos} (ha : PD X T C W J0 a a') (hi : PD X T C W J0 i i') (he : PD X T C W J0 e e') (hg : PG X (.Subscript a i tpos) (gSub (tE X.K T C W J0 a') (tE X.K T C W J0 i') rSetL)) (hs : swapsWithSole [.Subscript a i tpos] e pos.line X.env = pure false := by rfl) (hw : swappedStores [.Subscript a i tpos] e X.env = pure none := by rfl)
    (h1 : (assignEach [.Subscript a i tpos] X.env).map (·.2) = [assign (.Subscript a i tpos) X.env] := by rfl) : PSd X T C W (.Assign [.Subscript a i tpos] e pos) (.setI a' i' e') := by
  refine PS.weak (ps_asg he hg hs hw h1) fun D σ H h => ?_
  obtain ⟨π, B, m, ρ, b, w⟩ := h
  refine tE_out b w fun y H1 π1 B1 m1 wv s1 b1 r1 w1 => tE_out b1 w1 fun v H2 π2 B2 m2 u s2 b2 r2 w2 => tE_out b2 w2 fun vi H3 π3 B3 m3 j s3 b3 r3 w3 => ?_
  cases u with
  | v d => exact w3.elim
  | p k =>
    cases j with
    | p j => exact w3.elim
    | v dj =>
      cases dj with
      | int n =>
        dsimp only at w3
        cases hm : m3[k]? with
        | none =>
          rw [hm] at w3
          exact w3.elim
        | some x =>
          rw [hm] at w3
          cases x with
          | lst us =>
            dsimp only at w3
            obtain ⟨hk2, rfl⟩ := r2
            have hk3 : k < m3.length := (List.getElem?_eq_some_iff.mp hm).1
            obtain ⟨g1, xs, g2, g3, g4⟩ := b3.st.cell k _ hm
            cases hn : ixN us.length n with
            | none =>
              rw [hn] at w3
              exact w3.elim
            | some q =>
              rw [hn] at w3
              cases r3
              rw [← rus_len g4] at hn
              refine ⟨π3 k, xs, n, q, by rw [s3.pi k hk2], rfl, g2, hn, w3 σ _ π3 B3 (Step.put b3.st hk3 g1 g2 (fun _ z => nomatch z) (fun _ z => nomatch z) (fun _ z => nomatch z) (fun _ z => nomatch z) ⟨g1, xs.set q y, upd_same, ?_, ?_⟩) ?_⟩
              · rw [List.length_set]
                exact g3
              · rw [List.length_set]
                exact rus_set (s3.ru (s2.ru r1)) q g4
              · rw [List.length_set]
                exact b3.sl
          | _ => exact w3.elim
      | _ => exact w3.elim
end
end At

/-! Errors of the package: made by super().__init__(text), then their fields. -/
namespace At
open PySem L2 Evl
open PySem.W PySem.Calls PyProof.Rows PySem.HandSPX

/-- what the written part tells of an error's class at C, of its __init__ at fI (its cell at cc, its code at cda) -/
structure XCls (prog : Program) (K : Frag) (C fI cc cda : Addr) : Prop where
  cls : ∃ nm q N bs bm sn sub ab col dd k0 k1 k2 k3 k5, K.lookup C = some (excClassObj nm q C N bs bm true sn sub ab col dd k0 k1 k2 k3 k5 "ValueError.__new__") ∧ refsVE bm = true
  sup : ks_superIn K C C "__init__" = some (some (.builtin "ValueError.__init__"))
  sa : findIn K (.ref C) "__setattr__" = some (some (.builtin "object.__setattr__"))
  iC : findIn K (.ref C) "__init__" = some (some (.ref fI))
  tC : typeIn K (.ref fI) = some (.type "function")
  veC : subIn K (.ref C) (.type "ValueError") = some true
  hdC : hasDictIn K C = true
  selfC : mroIn K C (.ref C) = some true
  stat : nsIn K cStatics "thirdparty.any" = some none
  cell : ∃ cl cld csl, K.lookup cc = some ⟨cl, cld, .cell (some (.ref C)), csl⟩
  code : ∃ ccl cdd vs ccs file tf, K.lookup cda = some ⟨ccl, cdd, .fields vs, ccs⟩ ∧ vs[2]? = some (.str file tf) ∧ ((prog.main.file : Str) == file) = true
  top : (prog.main.scope.names.lookup ("super" : Str)).isSome = false

/-- the names of such an __init__ -/
structure XSc (scope : Scope) (me : Str) (ps : List Str) : Prop where
  kind : scope.kind = .function
  co : scope.isCoroutine = false
  gen : scope.isGenerator = false
  nocell : ∀ x ∈ scope.names, x.2 ≠ .cell
  sup : scope.names.lookup ("super" : Str) = some .globalImplicit
  cls : scope.names.lookup ("__class__" : Str) = some .free
  par : ∀ x ∈ me :: ps, scope.names.lookup x = some .local

section
variable {prog : Program} {w : World} {A : Around} {E : Value → Shared → Prop} {R : Result → Shared → Prop} {s : Shared} {K : Frag} {C fI cc cda : Addr} {qual : Str} {scope : Scope} {L : Addr}

/-- super().__init__(text) -/
theorem super_stmt {body : List Stmt} {p0 p1 p2 p3 p4 p5 : Pos} {msg : Str} {kk : Nat} {m mg mb : Str → Option Value} {x t0 : Addr} {fd : FuncData} {oc : Value} {od : Option Addr} {osl : Array (Option Value)} {ar : Arg} {me : Str} {ps : List Str} {pl : Sem Bool} {Q : Flow → Shared → Prop} (T : XCls prog K C fI cc cda) (S : XSc scope me ps) (X : K.In s.heap)
    (hn : s.heap.Ns L m) (hG : s.heap.Ns mainGlobals mg) (hsup : mg "super" = none) (hB : s.heap.Ns builtinsNs mb) (hBs : mb "super" = bootBuiltins "super") (hf : K.lookup fI = some ⟨oc, od, .func fd, osl⟩) (hp : (fd.params.posonlyargs ++ fd.params.args).head? = some ar) (har : ar.arg = me)
    (hv : m me = some (.ref x)) (hx : s.heap.get? x = some (excO C t0)) (hLx : L ≠ x)
    (he : eval (.Call (.Attribute (.Call (.Name "super" p0) [] [] p1) "__init__" p2) [.Constant (.str msg) kk p3] [] p4) (ksEnv qual scope L fI (.ref cda) cc) = (do
      let ov ← attributeBase (.Call (.Name "super" p0) [] [] p1) "__init__" (ksEnv qual scope L fI (.ref cda) cc) (eval (.Call (.Name "super" p0) [] [] p1) (ksEnv qual scope L fI (.ref cda) cc))
      standAt p2.atName
      let (f, first) ← holding [ov] (getMethod ov "__init__" pl)
      callWith p4 f first (backTo p4 (starEach [.Constant (.str msg) kk p3] (ksEnv qual scope L fI (.ref cda) cc))) []))
    (h : ∀ h' tk t1, (∀ b o, b ≠ x → s.heap.get? b = some o → h'.get? b = some o) → h'.get? x = some (excO C t1) → Q .next { s with heap := h', toks := tk }) :
    _root_.PySem.wpAt (model prog w) A (.func body (ksEnv qual scope L fI (.ref cda) cc)) (exec (.Expr (.Call (.Attribute (.Call (.Name "super" p0) [] [] p1) "__init__" p2) [.Constant (.str msg) kk p3] [] p4) p5) (ksEnv qual scope L fI (.ref cda) cc)) Q E s := by
  obtain ⟨nm, q, N, bs, bm, sn, sub, ab, col, dd, k0, k1, k2, k3, k5, hC, hbm⟩ := T.cls
  obtain ⟨cl, cld, csl, hcell⟩ := T.cell
  obtain ⟨ccl, cdd, vs, ccs, file, tf, hcode, hvs, hfile⟩ := T.code
  have hcl : clsIn K C = some { name := nm, bases := bs, mro := .ref C :: bm, ns := N, qualname := q, hasDict := true, slotNames := sn, subclasses := sub, abstract := ab, collection := col, hasDel := false } := by unfold clsIn; rw [hC] <;> rfl
  have hsu : alongIn K "__init__" ((Value.ref C :: bm).dropWhile (· != .ref C) |>.drop 1) = some (some (.builtin "ValueError.__init__")) := by
    have := T.sup
    unfold ks_superIn at this
    rw [hcl] at this
    exact this
  obtain ⟨hh, g, d, t, os⟩ := s
  have IA : InstAt hh x (excO C t0) C none := ⟨hx, rfl, rfl, trivial⟩
  have kself : (ksEnv qual scope L fI (.ref cda) cc).kindOf ar.arg = some .local := by
    rw [har]
    exact S.par me List.mem_cons_self
  have kd : (ksEnv qual scope L fI (.ref cda) cc).scope.kind = .function := S.kind
  refine ks_wpAt_Expr_any (ks_wpAt_MethodCall (pl := pl) ?_ he) (by simp [interactive, S.kind]) (by first | rfl | (unfold swapsWith; rfl))
  refine ks_wpAt_super_base (env := ksEnv qual scope L fI (.ref cda) cc) S.sup S.cls (by decide) rfl (X _ _ hf) rfl hp rfl (X _ _ hcode) rfl hvs hfile T.top ?_
  refine ks_loadName_global kd S.sup (loadGlobal_builtin (env := ksEnv qual scope L fI (.ref cda) cc) hG hsup hB (hBs.trans (by decide +kernel)) ⟨rfl, ?_⟩)
  refine wpAny_loadName_free kd S.cls rfl ⟨_, X _ _ hcell, rfl⟩ ?_
  refine wpAny_loadName_local kd kself hn (by rw [har]; exact hv) ?_
  refine ks_wpAny_isType_cls (X _ _ hC) rfl ⟨rfl, ?_⟩
  refine ks_wpAny_call_super (X _ _ hC) rfl hx rfl (fun c z => by cases z) (looks_mroIn X T.selfC) (fun h1 e1 k1' => ?_)
  have X1 : K.In h1 := X.keeps k1'
  have hx1 := k1' _ _ hx
  have IA1 : InstAt h1 x (excO C t0) C none := ⟨hx1, rfl, rfl, trivial⟩
  refine kxs_getMethod kxs_ValueError (l₀ := Value.ref C :: bm) e1 (looks_opaque X1 T.stat) (fun A Q E s k z => wpAny_bind ((looks_clsIn X1 hcl) A _ E s k (wpAny_pure z))) rfl X1 hsu (IA1.type.andThen (looks_subIn X1 T.veC)) (ks_ne X1 IA1 hcl) (by decide) ?_
  have up : ∀ b o, h1.get? b = some o → (h1.push (kxs_mw "ValueError.__init__" x)).get? b = some o := fun b o z => Heap.get?_push_of_some _ z
  have hx2 := up _ _ hx1
  have hu : (h1.push (kxs_mw "ValueError.__init__" x)).get? h1.objs.size = some (kxs_mw "ValueError.__init__" x) := Heap.get?_push_at rfl rfl
  refine kxs_callWith (i := "ValueError.__init__") (x := x) (by rfl) (Calls.evalArgs_plain ?_)
  show wpAny _ _ (spliced ((false, eval (.Constant (.str msg) kk p3) (ksEnv qual scope L fI (.ref cda) cc)) :: backTo p4 (starEach [] (ksEnv qual scope L fI (.ref cda) cc)))) _ _ _
  refine Calls.spliced_cons (Calls.Constant_str (Calls.spliced_nil ⟨hu, ?_⟩))
  refine wpAny_call (codeAny_of_tree ?_)
  show wpAny _ A.in1 (callAny (.ref h1.objs.size) ⟨[.str msg _], []⟩) _ _ _
  simp only [callAny]
  refine wpAny_bind (wpAny_load hu ?_)
  refine W.KFB.if_so (show (Value.type "method-wrapper" == Value.type "method" || Value.type "method-wrapper" == Value.type "builtin_function_or_method" || Value.type "method-wrapper" == Value.type "method-wrapper") = true by decide) ?_
  refine wpAny_bind (check_bound_init F.excBase_ValueError.toExcCallFacts (up _ _ (X1 _ _ hC)) hx2 rfl ?_)
  refine wpAny_bind (wpAny_pure (wpAny_pure ?_))
  refine ⟨plainId_quiet F.excBase_ValueError.init.plain _, codeAny_builtin F.excBase_ValueError.initEntry ?_⟩
  refine exc_init_tree (cls := .ref C) (t0 := t0) (dv := none) (c2 := .none) (c3 := .none) (b4 := .bool false) hx2 (by show 1 ≤ sizeLine; decide) fun h3 k3 e3 _ => ?_
  exact h h3 _ _ (fun b o hb z => k3 b o hb (up _ _ (k1' _ _ z))) e3

/-- a further field: the error has its own dict already -/
theorem osa_more {hp : Heap} {g : Array GenState} {d : Drawn} {t : Nat} {os : OsState} {name : Str} {tk : Tok} {v : Value} {x dx : Addr} {fv : Array Value} {cd : ClassData} {m0 : Str → Option Value} {nl : List Str} (X : K.In hp) (hx : hp.get? x = some { cls := .ref C, dict := some dx, data := .fields fv }) (hns : hp.Ns1 dx m0) (hw : Within m0 nl) (hz : nl.length ≤ 1000)
    (hcd : clsIn K C = some cd) (hm : refsVE cd.mro = true) (hh : cd.hasDict = true) (ha : findIn K (.ref C) name = some none)
    (hq : ∀ h' tk', (∀ b o, b ≠ dx → hp.get? b = some o → h'.get? b = some o) → h'.Ns1 dx (fun y => if y = name then some v else m0 y) → R (.ok (.ret .none)) ⟨h', g, d, tk', os⟩) :
    codeAny (model prog w) A (.call (.builtin "object.__setattr__") ⟨[.ref x, .str name tk, v], []⟩) R ⟨hp, g, d, t, os⟩ := by
  obtain ⟨oD, esD, epD, hoD, hdD, _⟩ := hns.count hw
  have I : InstAt hp x { cls := .ref C, dict := some dx, data := .fields fv } C (some oD) := ⟨hx, rfl, rfl, hoD⟩
  have SF := F.store_object
  have hob : cd.mro.contains (.type "object") = true := (refsVE_contains "object" _ hm).trans (by decide +kernel)
  have sub : Looks (model prog w) hp (isInstance (.ref x) (.type "object")) true := I.type.andThen (looks_mroIn X (by
    unfold mroIn
    rw [hcd, Option.bind_some, if_neg (by rw [refsVE_ne hm]; decide), hob]))
  refine codeAny_call_builtin SF.slot.plain SF.entry ?_
  refine @check_slot (model prog w) _ _ ⟨hp, g, d, t, os⟩ "object.__setattr__" "object" "__setattr__" (.ref x) [.str name tk, v] [] _ SF.kind SF.split sub (SF.args (.ref x) (.str name tk) v) ?_
  have hmr : Looks (model prog w) hp (mroOf (.ref C)) cd.mro := (looks_clsIn X hcd).andThen .now
  have hst : Looks (model prog w) hp (Builtin.ObjectAttr.storeTaker? none) none := .now
  have hcls : Looks (model prog w) hp (classData C) cd := looks_clsIn X hcd
  rw [osa_eq, refuse_eq]
  refine wpAny_bind (wpAny_bind (I.type.at (wpAny_bind (hmr.at ?_))))
  rw [refsVE_pass _ _ hm]
  refine wpAny_pure (wpAny_bind (I.type.at (wpAny_bind ((looks_findIn X ha).at (wpAny_bind (hst.at ?_))))))
  show wpAny _ _ (Builtin.ObjectAttr.storeInOwnDict (.ref x) (.ref C) (.str name tk) name v false) _ _ _
  obtain ⟨nm, bs, mro, ns, qn, hd, sn, sb, ab, col, del⟩ := cd
  dsimp only at hh
  subst hh
  unfold Builtin.ObjectAttr.storeInOwnDict Builtin.ObjectAttr.ownDictForStores
  repeat (first | with_reducible refine ESX.store_in_old hns hw hz ?_ | with_reducible refine wpAny_loadPart_at hx ?_ | with_reducible refine hcls.at ?_ | wp_step)
  intro h' tk' hn' hs
  exact hq h' tk' (fun b o hb ho => (hs.2 b hb).trans ho) hn'
/-- the fields' stores -/
def storeS (me : Str) : List (Str × Str × Pos × Pos × Pos × Pos) → List Stmt
  | [] => []
  | (f, p, a, b, c, d) :: r => .Assign [.Attribute (.Name me a) f b] (.Name p c) d :: storeS me r
/-- what the fields hold, the last store first -/
def heldF (m0 : Str → Option Value) (m : Str → Option Value) : List (Str × Str × Pos × Pos × Pos × Pos) → (Str → Option Value)
  | [] => m0
  | (f, p, _, _, _, _) :: r => heldF (fun y => if y = f then m p else m0 y) m r
theorem stores_more {m : Str → Option Value} {x : Addr} {fv : Array Value} {me : Str} {ps : List Str} {env : Env} (T : XCls prog K C fI cc cda) (S : XSc scope me ps) (hsc : env.scope = scope) (hloc : env.locals = L) (hv : m me = some (.ref x)) : ∀ (l : List (Str × Str × Pos × Pos × Pos × Pos)) (s : Shared) (dx : Addr) (m0 : Str → Option Value) (nl : List Str) {Q : Flow → Shared → Prop}, K.In s.heap → s.heap.Ns L m → s.heap.get? x = some { cls := .ref C, dict := some dx, data := .fields fv } → s.heap.Ns1 dx m0 → Within m0 nl → nl.length + l.length ≤ 1000 →
    (∀ q ∈ l, q.2.1 ∈ ps ∧ (∃ u, m q.2.1 = some u) ∧ findIn K (.ref C) q.1 = some none ∧ (q.2.1 == ("__debug__" : Str)) = false) → (me == ("__debug__" : Str)) = false → L ≠ dx → K.lookup dx = none → x ≠ dx →
    (∀ h' tk, (∀ b o, b ≠ dx → s.heap.get? b = some o → h'.get? b = some o) → h'.Ns1 dx (heldF m0 m l) → Q .next { s with heap := h', toks := tk }) →
    wpAny (model prog w) A (execs (storeS me l) env) Q E s
  | [], s, dx, m0, nl, Q, _, _, _, hns, _, _, _, _, _, _, _, h => by
    refine wpAny_execs_nil ?_
    have := h s.heap s.toks (fun _ _ _ z => z) hns
    exact this
  | (f, p, a, b, c, d) :: r, s, dx, m0, nl, Q, X, hn, hx, hns, hw, hz, hl, hd, hLd, hKd, hxd, h => by
    obtain ⟨hp, ⟨u, hu⟩, hno, hpd⟩ := hl (f, p, a, b, c, d) List.mem_cons_self
    dsimp only at hp hu hno hpd
    obtain ⟨nm, q, N, bs, bm, sn, sub, ab, col, dd, k0, k1, k2, k3, k5, hC, hbm⟩ := T.cls
    have hcl : clsIn K C = some { name := nm, bases := bs, mro := .ref C :: bm, ns := N, qualname := q, hasDict := true, slotNames := sn, subclasses := sub, abstract := ab, collection := col, hasDel := false } := by unfold clsIn; rw [hC] <;> rfl
    have kp : env.kindOf p = some .local := by
      unfold Env.kindOf
      rw [hsc]
      exact S.par p (List.mem_cons_of_mem _ hp)
    have km : env.kindOf me = some .local := by
      unfold Env.kindOf
      rw [hsc]
      exact S.par me List.mem_cons_self
    have kd : env.scope.kind = .function := by rw [hsc]; exact S.kind
    rw [← hloc] at hn
    obtain ⟨hh, g, dr, t, os⟩ := s
    obtain ⟨oD, esD, epD, hoD, _⟩ := id hns
    refine wpAny_execs_cons (plainObj_wpAny_Assign_Attribute ?_)
    refine ESX.ldL hn hu (ESX.ldL hn hv ?_ kd km hd) kd kp hpd
    refine set_plain X (ox := { cls := .ref C, dict := some dx, data := .fields fv }) (od := some oD) ⟨hx, rfl, rfl, hoD⟩ T.sa ?_
    refine osa_more X hx hns hw (by rw [List.length_cons] at hz; omega) hcl (show refsVE (.ref C :: bm) = true from hbm) rfl hno (fun h' tk' kk hn' => ?_)
    refine stores_more T S hsc hloc hv r ⟨h', g, dr, tk', os⟩ dx _ (f :: nl) (fun b o e => kk b o (fun z => by rw [z, hKd] at e; cases e) (X b o e)) ?_ (kk _ _ hxd hx) hn' (Within.cons f u hw) (by rw [List.length_cons] at hz ⊢; omega) (fun q hq => hl q (List.mem_cons_of_mem _ hq)) hd hLd hKd hxd fun h'' tk'' k2 n2 => ?_
    · obtain ⟨oL, es, ep, hoL, rr⟩ := hn
      rw [hloc] at hoL
      exact ⟨oL, es, ep, kk _ _ hLd hoL, rr⟩
    · refine h h'' tk'' (fun b o hb z => k2 b o hb (kk b o hb z)) ?_
      show h''.Ns1 dx (heldF (fun y => if y = f then m p else m0 y) m r)
      rw [hu]
      exact n2

/-- what is left behind an error's making -/
structure XMade (h h' : Heap) (x C : Addr) (d : Option Addr) (mf : Str → Option Value) : Prop where
  keep : ∀ b o, b ≠ x → h.get? b = some o → h'.get? b = some o
  obj : ∃ t1, h'.get? x = some { cls := .ref C, dict := d, data := .fields #[.ref t1, .none, .none, .none, .bool false, .none] }
  dd : ∀ dx, d = some dx → h.objs.size ≤ dx ∧ dx ≠ x ∧ h'.Ns1 dx mf
/-- the text of an __init__: super().__init__(msg), then the stores -/
structure XIni (prog : Program) (K : Frag) (fI cc cda : Addr) (me : Str) (ps : List Str) (l : List (Str × Str × Pos × Pos × Pos × Pos)) : Prop where
  fn : ∃ (qual : Str) (params : Arguments) (scope : Scope) (oc : Value) (od : Option Addr) (osl : Array (Option Value)) (kV doc pm ct : Value) (an : Option Addr) (p0 p1 p2 p3 p4 p5 : Pos) (msg : Str) (kk : Nat) (ar : Arg),
    K.lookup fI = some ⟨oc, od, .func (ksFn "__init__" qual params (.Expr (.Call (.Attribute (.Call (.Name "super" p0) [] [] p1) "__init__" p2) [.Constant (.str msg) kk p3] [] p4) p5 :: storeS me l) scope .none kV doc pm an (.ref cda) ct cc), osl⟩ ∧ codeIn K (.ref cda) qual = true ∧ XSc scope me ps ∧
      (params.posonlyargs ++ params.args).head? = some ar ∧ ar.arg = me ∧ (∀ (s : Shared) (us : List Value), us.length = ps.length + 1 → BindsTo s (ksFn "__init__" qual params (.Expr (.Call (.Attribute (.Call (.Name "super" p0) [] [] p1) "__init__" p2) [.Constant (.str msg) kk p3] [] p4) p5 :: storeS me l) scope .none kV doc pm an (.ref cda) ct cc) ⟨us, []⟩ ((me :: ps).zip us)) ∧
      ∀ L, ∃ pl : Sem Bool, eval (.Call (.Attribute (.Call (.Name "super" p0) [] [] p1) "__init__" p2) [.Constant (.str msg) kk p3] [] p4) (ksEnv qual scope L fI (.ref cda) cc) = (do
        let ov ← attributeBase (.Call (.Name "super" p0) [] [] p1) "__init__" (ksEnv qual scope L fI (.ref cda) cc) (eval (.Call (.Name "super" p0) [] [] p1) (ksEnv qual scope L fI (.ref cda) cc))
        standAt p2.atName
        let (f, first) ← holding [ov] (getMethod ov "__init__" pl)
        callWith p4 f first (backTo p4 (starEach [.Constant (.str msg) kk p3] (ksEnv qual scope L fI (.ref cda) cc))) [])
  fld : ∀ q ∈ l, q.2.1 ∈ ps ∧ (q.2.1 == ("__debug__" : Str)) = false
  me0 : (me == ("__debug__" : Str)) = false
  nd : (me :: ps).Nodup
  few : l.length ≤ 100
theorem lookup_zip {α : Type} : ∀ {N : List Str} {us : List α} {i : Nat} {x : Str} {u : α}, N.Nodup → N[i]? = some x → us[i]? = some u → (N.zip us).reverse.lookup x = some u := by
  intro N
  induction N with
  | nil =>
    intro us i x u _ h
    simp at h
  | cons n N ih =>
    intro us i x u nd h1 h2
    cases us with
    | nil => simp at h2
    | cons v us =>
      rw [List.zip_cons_cons, List.reverse_cons, List.lookup_append]
      cases i with
      | zero =>
        simp at h1 h2
        subst h1 h2
        have : (N.zip us).reverse.lookup n = none := by
          rw [List.lookup_eq_none_iff]
          intro p hp
          have := (List.of_mem_zip (List.mem_reverse.mp hp)).1
          have hn := (List.nodup_cons.mp nd).1
          have ne : n ≠ p.1 := fun z => hn (z ▸ this)
          simpa using ne
        rw [this]
        simp [List.lookup]
      | succ i =>
        rw [ih (List.nodup_cons.mp nd).2 (by simpa using h1) (by simpa using h2)]
        rfl
theorem xc_init {me : Str} {ps : List Str} {l : List (Str × Str × Pos × Pos × Pos × Pos)} {mg mb : Str → Option Value} {x t0 : Addr} {us : List Value} (T : XCls prog K C fI cc cda) (Y : XIni prog K fI cc cda me ps l) (X : K.In s.heap) (hlim : s.heap.NoLimit) (hG : s.heap.Ns mainGlobals mg) (hsup : mg "super" = none) (hB : s.heap.Ns builtinsNs mb) (hBs : mb "super" = bootBuiltins "super")
    (hno : ∀ q ∈ l, findIn K (.ref C) q.1 = some none) (hx : s.heap.get? x = some (excO C t0)) (hKx : K.lookup x = none) (hroom : A.depth < recursionLimit) (hl : us.length = ps.length)
    (hq : ∀ h' tk d, XMade s.heap h' x C d (heldF (fun _ => none) (fun y => ((me :: ps).zip (.ref x :: us)).reverse.lookup y) l) → (d = none ↔ l = []) → R (.ok (.ret .none)) { s with heap := h', toks := tk }) :
    codeAny (model prog w) A (.call (.ref fI) ⟨.ref x :: us, []⟩) R s := by
  obtain ⟨qual, params, scope, oc, od, osl, kV, doc, pm, ct, an, p0, p1, p2, p3, p4, p5, msg, kk, ar, hf, hcd, S, har1, har2, hbind, hev⟩ := Y.fn
  obtain ⟨pl, he⟩ := hev s.heap.objs.size
  have zl : (.ref x :: us : List Value).length = ps.length + 1 := by rw [List.length_cons, hl]
  have look : ∀ i y u, (me :: ps)[i]? = some y → (.ref x :: us : List Value)[i]? = some u → ((me :: ps).zip (.ref x :: us)).reverse.lookup y = some u := fun i y u h1 h2 => lookup_zip Y.nd h1 h2
  refine ks_codeAny_call_defAt (body := .Expr (.Call (.Attribute (.Call (.Name "super" p0) [] [] p1) "__init__" p2) [.Constant (.str msg) kk p3] [] p4) p5 :: storeS me l) (binds := (me :: ps).zip (.ref x :: us)) hroom (X _ _ hf) rfl hlim (codeRec_of X hcd) rfl (hbind s _ zl) S.nocell (fun y hy => S.par y.1 (List.of_mem_zip hy).1) (fun h0 hns k0 => ?_) S.co S.gen S.kind
  have X0 : K.In h0 := X.keeps k0
  have hx0 := k0 _ _ hx
  have hLx : s.heap.objs.size ≠ x := Nat.ne_of_gt (Heap.lt_size hx)
  refine ks_wpAt_execs_cons (super_stmt (s := { s with heap := h0, toks := s.toks + ((me :: ps).zip (.ref x :: us)).length }) T S X0 hns (hG.keeps k0) hsup (hB.keeps k0) hBs hf har1 har2 (look 0 me _ rfl rfl) hx0 hLx he fun h1 tk1 t1 k1 e1 => ?_)
  refine wpAt_of_wpAny ?_
  have k01 : ∀ b o, b ≠ x → s.heap.get? b = some o → h1.get? b = some o := fun b o hb z => k1 b o hb (k0 b o z)
  have X1 : K.In h1 := fun b o e => k1 b o (fun z => by rw [z, hKx] at e; cases e) (X0 b o e)
  have ns1 : h1.Ns s.heap.objs.size (fun y => ((me :: ps).zip (.ref x :: us)).reverse.lookup y) := by
    obtain ⟨o, es, ep, ho, r⟩ := hns
    exact ⟨o, es, ep, k1 _ _ hLx ho, r⟩
  have val : ∀ q ∈ l, ∃ u, ((me :: ps).zip (.ref x :: us)).reverse.lookup q.2.1 = some u := fun q hq' => by
    obtain ⟨i, hi⟩ := List.mem_iff_getElem?.mp (List.mem_cons_of_mem me (Y.fld q hq').1)
    have hlt : i < (.ref x :: us : List Value).length := by
      have := (List.getElem?_eq_some_iff.mp hi).1
      rw [zl]
      simpa using this
    exact ⟨_, look i _ _ hi (List.getElem?_eq_getElem hlt)⟩
  cases l with
  | nil =>
    refine wpAny_execs_nil ?_
    exact hq h1 tk1 none ⟨k01, ⟨t1, e1⟩, fun dx z => by cases z⟩ ⟨fun _ => rfl, fun _ => rfl⟩
  | cons q r =>
    obtain ⟨f, p, a, b, c, d⟩ := q
    obtain ⟨hp, hpd⟩ := Y.fld (f, p, a, b, c, d) List.mem_cons_self
    obtain ⟨u, hu⟩ := val (f, p, a, b, c, d) List.mem_cons_self
    dsimp only at hp hpd hu
    obtain ⟨nm, q, N, bs, bm, sn, sub, ab, col, dd, k0', k1', k2, k3, k5, hC, hbm⟩ := T.cls
    have hcl : clsIn K C = some { name := nm, bases := bs, mro := .ref C :: bm, ns := N, qualname := q, hasDict := true, slotNames := sn, subclasses := sub, abstract := ab, collection := col, hasDel := false } := by unfold clsIn; rw [hC] <;> rfl
    obtain ⟨hh, g, dr, t, os⟩ := s
    refine wpAny_execs_cons (plainObj_wpAny_Assign_Attribute ?_)
    refine ESX.ldL (env := ksEnv qual scope hh.objs.size fI (.ref cda) cc) ns1 hu (ESX.ldL (env := ksEnv qual scope hh.objs.size fI (.ref cda) cc) ns1 (look 0 me _ rfl rfl) ?_ S.kind (S.par me List.mem_cons_self) Y.me0) S.kind (S.par p (List.mem_cons_of_mem _ hp)) hpd
    refine set_plain X1 (ox := excO C t1) (od := none) ⟨e1, rfl, rfl, trivial⟩ T.sa ?_
    refine exc_osa X1 e1 hcl (show refsVE (.ref C :: bm) = true from hbm) rfl (hno (f, p, a, b, c, d) List.mem_cons_self) (fun h2 tk2 dx kk2 dn dne hx2 hn2 => ?_)
    have hs1 : hh.objs.size < h1.objs.size := ns1.lt
    have dn' : h1.objs.size ≤ dx := dn
    have hlt : hh.objs.size < dx := Nat.lt_of_lt_of_le hs1 dn'
    have hLd : hh.objs.size ≠ dx := Nat.ne_of_lt hlt
    refine stores_more (L := hh.objs.size) (env := ksEnv qual scope hh.objs.size fI (.ref cda) cc) (m := fun y => ((me :: ps).zip (.ref x :: us)).reverse.lookup y) T S rfl rfl (look 0 me _ rfl rfl) r ⟨h2, g, dr, tk2, os⟩ dx _ [f] (fun b o e => kk2 b o (fun z => by rw [z, hKx] at e; cases e) (X1 b o e)) ?_ hx2 hn2 (Within.cons f u Within.nil) (by have := Y.few; rw [List.length_cons] at this; simp only [List.length_cons, List.length_nil]; omega)
      (fun q hq' => ⟨(Y.fld q (List.mem_cons_of_mem _ hq')).1, val q (List.mem_cons_of_mem _ hq'), hno q (List.mem_cons_of_mem _ hq'), (Y.fld q (List.mem_cons_of_mem _ hq')).2⟩) Y.me0 hLd ?_ (Ne.symm dne) fun h3 tk3 kk3 hn3 => ?_
    · obtain ⟨o, es, ep, ho, rr⟩ := ns1
      exact ⟨o, es, ep, kk2 _ _ hLx ho, rr⟩
    · cases e : K.lookup dx with
      | none => rfl
      | some o =>
        exact absurd (Nat.lt_of_lt_of_le (Heap.lt_size (X1 _ _ e)) dn') (Nat.lt_irrefl _)
    · refine hq h3 tk3 (some dx) ⟨fun b o hb z => kk3 b o (fun y => ?_) (kk2 b o hb (k01 b o hb z)), ⟨t1, kk3 _ _ (Ne.symm dne) hx2⟩, fun dx' z => ?_⟩ ⟨(fun z => nomatch z), (fun z => nomatch z)⟩
      · have := Heap.lt_size z
        rw [y] at this
        exact absurd (Nat.lt_trans this hlt) (Nat.lt_irrefl _)
      · cases z
        refine ⟨Nat.le_of_lt hlt, dne, ?_⟩
        show h3.Ns1 dx (heldF (fun y => if y = f then ((me :: ps).zip (.ref x :: us)).reverse.lookup p else none) _ r)
        rw [hu]
        exact hn3
end
end At

/-! Errors in expressions: made, raised, their fields, their kinds. -/
namespace At
open PySem L2 Evl
open PySem.W PySem.Calls PyProof.Rows PySem.HandSPX

section
variable {prog : Program} {w : World} {A : Around} {E : Value → Shared → Prop} {R : Result → Shared → Prop} {s : Shared} {K : Frag} {C fI cc cda : Addr}
theorem xc_made {me : Str} {ps : List Str} {l : List (Str × Str × Pos × Pos × Pos × Pos)} {mg mb : Str → Option Value} {us : List Value} (T : XCls prog K C fI cc cda) (Y : XIni prog K fI cc cda me ps l) (X : K.In s.heap) (hlim : s.heap.NoLimit) (hG : s.heap.Ns mainGlobals mg) (hsup : mg "super" = none) (hB : s.heap.Ns builtinsNs mb) (hBs : mb "super" = bootBuiltins "super")
    (hno : ∀ q ∈ l, findIn K (.ref C) q.1 = some none) (hroom : A.depth + 1 < recursionLimit) (hl : us.length = ps.length) (hz : us.length ≤ sizeLine)
    (hq : ∀ h' tk x d, s.heap.objs.size < x → (∀ b o, s.heap.get? b = some o → h'.get? b = some o) → (∃ t1, h'.get? x = some { cls := .ref C, dict := d, data := .fields #[.ref t1, .none, .none, .none, .bool false, .none] }) →
      (∀ dx, d = some dx → s.heap.objs.size ≤ dx ∧ dx ≠ x ∧ h'.Ns1 dx (heldF (fun _ => none) (fun y => ((me :: ps).zip (.ref x :: us)).reverse.lookup y) l)) → (d = none ↔ l = []) → R (.ok (.ret (.ref x))) { s with heap := h', toks := tk }) :
    codeAny (model prog w) A (.call (.ref C) ⟨us, []⟩) R s := by
  obtain ⟨nm, q, N, bs, bm, sn, sub, ab, col, dd, k0, k1, k2, k3, k5, hC, hbm⟩ := T.cls
  obtain ⟨hp, g, dr, tk, os⟩ := s
  have up : ∀ b o, hp.get? b = some o → ((hp.push (kdv_tup us)).push (excO C hp.objs.size)).get? b = some o := fun b o e => Heap.get?_push_of_some _ (Heap.get?_push_of_some _ e)
  have hget : ((hp.push (kdv_tup us)).push (excO C hp.objs.size)).get? (hp.objs.size + 1) = some (excO C hp.objs.size) := by heap_get
  have hnx : K.lookup (hp.objs.size + 1) = none := by
    cases e : K.lookup (hp.objs.size + 1) with
    | none => rfl
    | some o =>
      have z : hp.get? (hp.objs.size + 1) = some o := X _ _ e
      exact absurd (Nat.lt_of_succ_lt (Heap.lt_size z)) (Nat.lt_irrefl _)
  refine call_own F.excBase_ValueError (fun X => refsVE_contains X bm hbm) (X _ _ hC) (looks_findIn X T.iC) (fun self => bind_fn X self T.tC) hz ?_
  refine xc_init (s := ⟨(hp.push (kdv_tup us)).push (excO C hp.objs.size), g, dr, tk, os⟩) T Y (X.keeps up) (hlim.keeps up) (hG.keeps up) hsup (hB.keeps up) hBs hno hget hnx (by show A.depth + 1 < recursionLimit; exact hroom) hl fun h' tk' d M hd => ?_
  have sz : ((hp.push (kdv_tup us)).push (excO C hp.objs.size)).objs.size = hp.objs.size + 1 + 1 := by rw [Heap.size_push, Heap.size_push]
  refine ⟨rfl, hq h' tk' (hp.objs.size + 1) d (Nat.lt_succ_self _) (fun b o e => M.keep b o (Nat.ne_of_lt (Nat.lt_succ_of_lt (Heap.lt_size e))) (up b o e)) M.obj (fun dx z => ?_) hd⟩
  obtain ⟨h1, h2, h3⟩ := M.dd dx z
  have h1' : hp.objs.size + 1 + 1 ≤ dx := by
    rw [← sz]
    exact h1
  exact ⟨Nat.le_trans (Nat.le_trans (Nat.le_succ _) (Nat.le_succ _)) h1', h2, h3⟩
end

/-- the fields and the parameters of an error go side by side -/
structure XFld (l : List (Str × Str × Pos × Pos × Pos × Pos)) (ps fs : List Str) : Prop where
  par : l.map (·.2.1) = ps
  fld : l.map (·.1) = fs
  nd : fs.Nodup
theorem held_out {m0 m : Str → Option Value} {f : Str} : ∀ (l : List (Str × Str × Pos × Pos × Pos × Pos)), f ∉ l.map (·.1) → heldF m0 m l f = m0 f := by
  intro l
  induction l generalizing m0 with
  | nil => intro _; rfl
  | cons q r ih =>
    obtain ⟨g, p, a, b, c, d⟩ := q
    intro h
    simp only [List.map_cons, List.mem_cons, not_or] at h
    show heldF (fun y => if y = g then m p else m0 y) m r f = m0 f
    rw [ih h.2, if_neg h.1]
theorem held_rel {m : Str → Option Value} : ∀ (l : List (Str × Str × Pos × Pos × Pos × Pos)) (m0 : Str → Option Value) (vs : List V) (us : List Value) (pre : List (Str × V)), (l.map (·.1)).Nodup → Vals vs us → l.length = vs.length → (∀ (i : Nat) (q : Str × Str × Pos × Pos × Pos × Pos) (u : Value), l[i]? = some q → us[i]? = some u → m q.2.1 = some u) →
    (∀ f, f ∉ l.map (·.1) → RelO (pre.lookup f) (m0 f)) → (∀ f ∈ l.map (·.1), pre.lookup f = none) → ∀ f, RelO (((l.map (·.1)).zip vs ++ pre).lookup f) (heldF m0 m l f) := by
  intro l
  induction l with
  | nil =>
    intro m0 vs us pre _ _ hl _ h0 _ f
    cases vs with
    | nil => exact h0 f (by simp)
    | cons _ _ => cases hl
  | cons q r ih =>
    obtain ⟨g, p, a, b, c, d⟩ := q
    intro m0 vs us pre nd rv hl hm h0 h1 f
    cases rv with
    | nil => cases hl
    | cons rv rs =>
      rename_i v u vs us
      simp only [List.map_cons, List.nodup_cons] at nd
      have hp : m p = some u := hm 0 _ u rfl rfl
      have e1 : heldF m0 m ((g, p, a, b, c, d) :: r) = heldF (fun y => if y = g then m p else m0 y) m r := rfl
      rw [e1]
      by_cases hf : f = g
      · subst hf
        rw [held_out r nd.1, if_pos rfl, hp]
        show RelO (((f, v) :: (((r.map (·.1)).zip vs) ++ pre)).lookup f) (some u)
        simp only [List.lookup, beq_self_eq_true]
        exact rv
      · have hn : ((f == g) : Bool) = false := by simpa using hf
        show RelO (((g, v) :: (((r.map (·.1)).zip vs) ++ pre)).lookup f) _
        simp only [List.lookup, hn]
        have key := ih (fun y => if y = g then none else m0 y) vs us pre nd.2 rs (by simpa using hl) (fun i q u h2 h3 => hm (i + 1) q u (by simpa using h2) (by simpa using h3)) (fun f' hf' => ?_) (fun f' hf' => h1 f' (by simp only [List.map_cons, List.mem_cons]; exact .inr hf')) f
        · have e2 : heldF (fun y => if y = g then none else m0 y) m r f = heldF (fun y => if y = g then m p else m0 y) m r f := by
            by_cases hr : f ∈ r.map (·.1)
            · have same : ∀ (r : List (Str × Str × Pos × Pos × Pos × Pos)) (a b : Str → Option Value), a f = b f → heldF a m r f = heldF b m r f := by
                intro r
                induction r with
                | nil => intro a b h; exact h
                | cons q r ih2 =>
                  obtain ⟨g', p', a', b', c', d'⟩ := q
                  intro a b h
                  refine ih2 _ _ ?_
                  show (if f = g' then m p' else a f) = (if f = g' then m p' else b f)
                  rw [h]
              refine same r _ _ ?_
              show (if f = g then none else m0 f) = (if f = g then m p else m0 f)
              rw [if_neg hf, if_neg hf]
            · rw [held_out r hr, held_out r hr, if_neg hf, if_neg hf]
          rw [← e2]
          exact key
        · by_cases hg : f' = g
          · subst hg
            rw [if_pos rfl, h1 f' (by simp)]
            trivial
          · rw [if_neg hg]
            exact h0 f' (by simp only [List.map_cons, List.mem_cons, not_or]; exact ⟨hg, hf'⟩)

/-- an error's class as the text has it -/
structure XOk (prog : Program) (K : Frag) (mg : Str → Option Value) (x : Str) (C : Addr) (ps fs : List Str) : Prop where
  gC : mg x = some (.ref C)
  sup : mg "super" = none
  kC : keepIn K (.ref C) = true
  exC : subIn K (.ref C) (.type "BaseException") = some true
  tyC : typeIn K (.ref C) = some (.type "type")
  few : ps.length ≤ 100
  to : ∃ fI cc cda me l, XCls prog K C fI cc cda ∧ XIni prog K fI cc cda me ps l ∧ XFld l ps fs ∧ ∀ f ∈ fs, findIn K (.ref C) f = some none
section
variable {X : Cx} {pins : List (Addr × Obj)} {σ : L2.St} {H : Hp} {s : Shared} {x : Str} {C : Addr} {ps fs : List Str}
/-- the call of the class, by values -/
theorem xmake_run {vs : List V} {us : List Value} {Q : Value → Shared → Prop} {k : Nat} (Z : XOk X.prog X.K X.mg x C ps fs) (hr : Room k X.A) (I : Inv X pins σ H s) (rv : Vals vs us) (hl : vs.length = ps.length)
    (hq : ∀ h' tk a d, s.heap.objs.size < a → (∀ b o, s.heap.get? b = some o → h'.get? b = some o) → (∃ t1, h'.get? a = some { cls := .ref C, dict := d, data := .fields #[.ref t1, .none, .none, .none, .bool false, .none] }) →
      (∀ dx, d = some dx → s.heap.objs.size ≤ dx ∧ dx ≠ a ∧ ∃ mA, h'.Ns1 dx mA ∧ ∀ f, RelO ((fs.zip vs).lookup f) (mA f)) → (d = none ↔ fs = []) → Q (.ref a) { s with heap := h', toks := tk }) :
    wpAny (model X.prog X.w) X.A (call (.ref C) us) Q X.xe s := by
  obtain ⟨fI, cc, cda, me, l, T, Y, Fd, hno⟩ := Z.to
  obtain ⟨mb, h1, h2⟩ := I.mod.blt
  have hlu : us.length = ps.length := by rw [← rv.length]; exact hl
  have hll : l.length = vs.length := by rw [hl, ← Fd.par, List.length_map]
  have hroom := hr.dp
  refine wpAny_call (xc_made (mg := X.mg) (mb := mb) T Y I.kIn I.nolimit (I.mod.glob.keeps I.bk) Z.sup (h1.keeps I.bk) (h2 _ (by decide)) (fun q hq' => hno q.1 (by rw [← Fd.fld]; exact List.mem_map_of_mem hq')) (by omega) hlu (by have := Z.few; rw [hlu]; exact Nat.le_trans this (by decide)) fun h' tk a d ha k ho hd he => ?_)
  refine hq h' tk a d ha k ho (fun dx z => ?_) ?_
  · obtain ⟨g1, g2, g3⟩ := hd dx z
    refine ⟨g1, g2, _, g3, fun f => ?_⟩
    have key := held_rel (m := fun y => ((me :: ps).zip (.ref a :: us)).reverse.lookup y) l (fun _ => none) vs us [] (by rw [Fd.fld]; exact Fd.nd) rv hll (fun i q u hi hu => ?_) (fun f _ => trivial) (fun f _ => rfl) f
    · rw [List.append_nil, Fd.fld] at key
      exact key
    · refine lookup_zip (i := i + 1) Y.nd ?_ (by simpa using hu)
      show ps[i]? = some q.2.1
      rw [← Fd.par, List.getElem?_map, hi]
      rfl
  · rw [he, ← Fd.fld]
    cases l <;> simp
/-- an error made as a value -/
def tXMk (C : Addr) (ps fs : List Str) (t : TA) : TE := fun σ H Q => t σ H fun vs H1 => vs.length = ps.length ∧
  (fs = [] → ∀ a, H1 a = none → Q (.ref a) (upd H1 a (ExO (.ref C) a))) ∧ (fs ≠ [] → ∀ a d, H1 a = none → H1 d = none → d ≠ a → Q (.ref a) (upd (upd H1 d (.xd (fs.zip vs))) a (XO (.ref C) d a)))
theorem xval_end {vs : List V} {us : List Value} {Q : VK} {k : Nat} (Z : XOk X.prog X.K X.mg x C ps fs) (hr : Room k X.A) (I : Inv X pins σ H s) (rv : Vals vs us) (hl : vs.length = ps.length)
    (q0 : fs = [] → ∀ a, H a = none → Q (.ref a) (upd H a (ExO (.ref C) a))) (q1 : fs ≠ [] → ∀ a d, H a = none → H d = none → d ≠ a → Q (.ref a) (upd (upd H d (.xd (fs.zip vs))) a (XO (.ref C) d a))) : wpAny (model X.prog X.w) X.A (call (.ref C) us) (EP X pins σ Q) X.xe s := by
  refine xmake_run Z hr I rv hl fun h' tk a d ha k ⟨t1, ho⟩ hd he => ?_
  have hna : H a = none := I.hok.fresh (Nat.le_of_lt ha)
  cases d with
  | none =>
    have hfs : fs = [] := he.mp rfl
    have ok : ObjOk X.prog X.w (upd H a (ExO (.ref C) a)) h' a (ExO (.ref C) a) := exO_ok ho ⟨rfl, rfl⟩ rfl rfl rfl (show 4 < 6 by decide)
    exact ⟨.ref a, _, I.laid (t' := tk) k (Nat.le_of_lt ha) ok, rfl, q0 hfs a hna⟩
  | some dx =>
    obtain ⟨g1, g2, mA, g3, g4⟩ := hd dx rfl
    have hfs : fs ≠ [] := fun z => by
      have := he.mpr z
      cases this
    have hnd : H dx = none := I.hok.fresh g1
    have ok1 : ObjOk X.prog X.w (upd H dx (.xd (fs.zip vs))) h' dx (.xd (fs.zip vs)) := ⟨mA, g3, g4⟩
    have hne : ∀ b o, s.heap.get? b = some o → b ≠ dx ∧ b ≠ a := fun b o e => ⟨fun z => by
      have := Heap.lt_size e
      rw [z] at this
      exact absurd (Nat.lt_of_lt_of_le this g1) (Nat.lt_irrefl _), fun z => by
      have := Heap.lt_size e
      rw [z] at this
      exact absurd (Nat.lt_trans this ha) (Nat.lt_irrefl _)⟩
    have h1 : ∀ b o, H b = some o → upd (upd H dx (.xd (fs.zip vs))) a (XO (.ref C) dx a) b = H b := fun b o e => by
      rw [upd_ne (ne_of_none e hna), upd_ne (ne_of_none e hnd)]
    have k1 := I.hok.laid k g1 ok1
    have hna1 : upd H dx (.xd (fs.zip vs)) a = none := by rw [upd_ne (Ne.symm g2), hna]
    have ok2 : ObjOk X.prog X.w (upd (upd H dx (.xd (fs.zip vs))) a (XO (.ref C) dx a)) h' a (XO (.ref C) dx a) := ⟨⟨_, _, ho, ⟨rfl, rfl⟩, rfl, rfl, rfl, show 4 < 6 by decide⟩, ⟨_, ho⟩, fun _ _ ⟨o, v, q, r⟩ k => ⟨o, v, k o q, r⟩⟩
    have k2 := k1.laidN (fun _ _ e => e) hna1 ok2
    refine ⟨.ref a, _, I.un (t' := tk) ?_ k2, rfl, q1 hfs a dx hna hnd g2⟩
    refine ⟨fun b u q _ _ _ => k b u q, fun b u q _ _ _ => ⟨u.slots, k b u q⟩, fun b u q n _ => ?_, fun b u q _ => ⟨u, k b u q⟩, fun b xs q => by rw [h1 _ _ q]; exact q, fun b u xs q => by rw [h1 _ _ q]; exact q, fun b ps q => ⟨#[], by rw [h1 _ _ q, q]; simp⟩⟩
    rw [upd_ne (hne b u q).2, upd_ne (hne b u q).1]
    exact n
end
end At

/-! Errors in expressions: made as values, their fields, their kinds. -/
namespace At
open PySem L2 Evl
open PySem.W PySem.Calls PyProof.Rows

def xmk (i : Nat) (fl : List Nat) (ds : List D) : P := if ds.length = fl.length then .ok (.obj i (fl.zip ds)) else .no
theorem rpf_zip {K : Fg} {T : Tb} {B : Hp} : ∀ {fl : List Nat} {vs : List V} {ds : List D}, Rps K T B vs ds → Rpf K T B ((fl.map T.fn).zip vs) (fl.zip ds)
  | [], _, _, _ => by simpa using Rpf.nil
  | _ :: _, _, _, .nil => by simpa using Rpf.nil
  | f :: fl, _, _, .cons r q => by
    rw [List.map_cons, List.zip_cons_cons, List.zip_cons_cons]
    exact .cons r (rpf_zip q)
theorem XOk.lens {prog : Program} {K : Frag} {mg : Str → Option Value} {x : Str} {C : Addr} {ps fs : List Str} (Z : XOk prog K mg x C ps fs) : ps.length = fs.length := by
  obtain ⟨_, _, _, _, l, _, _, Fd, _⟩ := Z.to
  rw [← Fd.par, ← Fd.fld, List.length_map, List.length_map]
/-- what is asked behind the arguments -/
def XEnd (C : Addr) (ps fs : List Str) (vs : List V) (H1 : Hp) (Q : VK) : Prop := vs.length = ps.length ∧
  (fs = [] → ∀ a, H1 a = none → Q (.ref a) (upd H1 a (ExO (.ref C) a))) ∧ (fs ≠ [] → ∀ a d, H1 a = none → H1 d = none → d ≠ a → Q (.ref a) (upd (upd H1 d (.xd (fs.zip vs))) a (XO (.ref C) d a)))

section
variable {X : Cx} {T : Tb} {C : CE} {W : WX} {J : Jt} {a b e : Expr} {a' b' e' : E} {es : List Expr} {es' : E} {pos : Pos}
theorem xread {i : Nat} {fl : List Nat} {x : Str} {ps fs : List Str} {σ : L2.St} {H : Hp} {π : Nat → Addr} {B : Hp} {m : Mu} {us : List U} {vs : List V} {Q : VK} (Z : XOk X.prog X.K X.mg x (cl X.K T i) ps fs) (hix : T.ix i = true) (hf : fl.map T.fn = fs) (hmk : C.mkr i = xmk i fl)
    (st : Sto X.K T π B H m) (r : Rus X.K T m.length π B vs us) (w : Want (RU X.K T) X.K T W σ π B H m (match plainU us with | some ds => fromP m (C.mkr i ds) | none => .no) Q) : XEnd (cl X.K T i) ps fs vs H Q := by
  cases e : plainU us with
  | none =>
    rw [e] at w
    exact w.elim
  | some ds =>
    rw [e] at w
    dsimp only at w
    rw [hmk] at w
    unfold xmk at w
    have rs := plainU_ok r e
    by_cases c : ds.length = fl.length
    · rw [if_pos c] at w
      have hl := Z.lens
      refine ⟨by rw [rs.len, c, hl, ← hf, List.length_map], fun h0 a ha => ?_, fun h0 a d ha hd ne => ?_⟩
      · have hfl : fl = [] := by
          rw [h0] at hf
          simpa using hf
        subst hfl
        have nw := New.one (T := T) st.ex (p := a) (o := ExO (.ref (cl X.K T i)) a) ha
        exact w (.ref a) _ π _ (nw.step st) (.ex0 hix upd_same)
      · have nw := New.one (T := T) st.ex (p := d) (o := .xd (fs.zip vs)) hd
        have s1 := nw.step st
        have ha1 : upd H d (.xd (fs.zip vs)) a = none := by rw [upd_ne (Ne.symm ne), ha]
        have nw2 := New.one (T := T) s1.st.ex (p := a) (o := XO (.ref (cl X.K T i)) d a) ha1
        have s2 := nw2.step s1.st
        refine w (.ref a) _ π _ (s1.trans s2) (.exc hix upd_same (by rw [upd_ne ne]; exact upd_same) ?_)
        subst hf
        exact rpf_zip (rs.mono (nw.ex.trans nw2.ex))
    · rw [if_neg c] at w
      exact w.elim
theorem pd_makeX {k i : Nat} {fl : List Nat} {x : Str} {ps fs : List Str} {p : Pos} (hJ : Mono J) (Z : XOk X.prog X.K X.mg x (cl X.K T i) ps fs) (hix : T.ix i = true) (hf : fl.map T.fn = fs) (hmk : C.mkr i = xmk i fl) (hr : Room k X.A) (hg : Gl X x) (ha : PDs X T C W J (e :: es) es')
    (hdb : (x == ("__debug__" : Str)) = false := by decide) (he : starEach (e :: es) X.env = (false, eval e X.env) :: starEach es X.env := by rfl) (hpl : (backTo pos (starEach es X.env)).any (·.1) = false := by rfl) :
    PD X T C W J (.Call (.Name x p) (e :: es) [] pos) (.make i es') := by
  refine ⟨fun pins s σ H Q I h => ?_⟩
  obtain ⟨π, B, m, ρ, b, w⟩ := h
  rw [ev] at w
  refine wpAny_Call_Name_kw (ld_glob I hg Z.gC ?_ hdb)
  refine PySem.W.callWith_K (h₀ := X.base) I.ok.mod.kin Z.kC (thn (ha.run pos pins s σ H (fun vs H1 => XEnd (cl X.K T i) ps fs vs H1 Q) I (tEs_bnd hJ b w fun vs H1 π1 B1 m1 us s1 b1 r1 w1 => xread Z hix hf hmk b1.st r1 w1)) fun us s1 ⟨vs, H1, I1, r, q⟩ => ⟨I1.kIn, ?_⟩) he hpl
  exact xval_end Z hr I1 r q.1 q.2.1 q.2.2
theorem pd_makeX0 {k i : Nat} {fl : List Nat} {x : Str} {ps fs : List Str} {p : Pos} (hJ : Mono J) (Z : XOk X.prog X.K X.mg x (cl X.K T i) ps fs) (hix : T.ix i = true) (hf : fl.map T.fn = fs) (hmk : C.mkr i = xmk i fl) (hr : Room k X.A) (hg : Gl X x)
    (hdb : (x == ("__debug__" : Str)) = false := by decide) :
    PD X T C W J (.Call (.Name x p) [] [] pos) (.make i .nil) := by
  refine ⟨fun pins s σ H Q I h => ?_⟩
  obtain ⟨π, B, m, ρ, b, w⟩ := h
  rw [ev, evs] at w
  refine wpAny_Call_Name_kw (ld_glob I hg Z.gC ?_ hdb)
  have q := xread (us := []) Z hix hf hmk b.st .nil w
  exact PySem.W.callWith_K0 I.kIn Z.kC (xval_end Z hr I .nil q.1 q.2.1 q.2.2)

/-! ### fields -/
/-- the field f of the class's objects may be read -/
structure AtOk (K : Fg) (T : Tb) (c f : Nat) : Prop where
  no : findIn K (.ref (cl K T c)) (T.fn f) = some none
  inj : ∀ g, T.fn g = T.fn f → g = f
  xc : T.ix c = true → XfC K (cl K T c)
  ic : T.ix c = false → Cls K (cl K T c)
theorem rpf_look {K : Fg} {T : Tb} {B : Hp} {f : Nat} (inj : ∀ g, T.fn g = T.fn f → g = f) {d : D} : ∀ {fv : List (Str × V)} {fs : List (Nat × D)}, Rpf K T B fv fs → fs.lookup f = some d → ∃ v, fv.lookup (T.fn f) = some v ∧ Rp K T B v d
  | _, _, .nil, h => by cases h
  | _, _, .cons (f := g) r q, h => by
    rw [List.lookup_cons] at h ⊢
    by_cases c : f = g
    · subst c
      simp only [beq_self_eq_true] at h ⊢
      cases h
      exact ⟨_, rfl, r⟩
    · have h1 : (f == g) = false := by simpa using c
      have h2 : (T.fn f == T.fn g) = false := by
        rw [beq_eq_false_iff_ne]
        exact fun z => c (inj _ z.symm).symm
      rw [h1] at h
      rw [h2]
      exact rpf_look inj q h
theorem pd_attr {f : Nat} {n : Str} (hJ : Mono J) (hA : ∀ c, C.fld c f = true → AtOk X.K T c f) (he : PD X T C W J e e') (hn : T.fn f = n := by rfl) (hb : attributeBase e n X.env (eval e X.env) = eval e X.env := by rfl) : PD X T C W J (.Attribute e n pos) (.attr e' f) := by
  subst hn
  refine ⟨fun pins s σ H Q I h => ?_⟩
  obtain ⟨π, B, m, ρ, b, w⟩ := h
  rw [ev] at w
  refine attr_of hb (thn (he.run pins s σ H (fun v H1 => ∃ (c : Nat) (fs : List (Nat × D)) (d : D) (B1 : Hp), Ex B1 H1 ∧ Rq X.K T B1 H1 v (.obj c fs) ∧ C.fld c f = true ∧ fs.lookup f = some d ∧ ∀ u, Rp X.K T B1 u d → Q u H1) I (tE_bnd hJ b w fun v H1 π1 B1 m1 u s1 b1 r1 w1 => ?_)) fun u s1 hh => ?_)
  · cases hs : see m1 u with
    | none =>
      rw [hs] at w1
      exact w1.elim
    | some d0 =>
      rw [hs] at w1
      cases d0 with
      | obj c fs =>
        dsimp only at w1
        by_cases hc : C.fld c f = true
        · rw [if_pos hc] at w1
          cases hl : fs.lookup f with
          | none =>
            rw [hl] at w1
            exact w1.elim
          | some d =>
            rw [hl] at w1
            exact ⟨c, fs, d, B1, b1.st.ex, see_ok b1.st r1 hs, hc, hl, fun u ru => w1 u H1 π1 B1 (Step.refl b1.st) ru⟩
        · rw [if_neg hc] at w1
          exact w1.elim
      | _ => exact w1.elim
  · obtain ⟨v, H1, I1, rv, c, fs, d, B1, eB, rq, hc, hl, q⟩ := hh
    have A := hA c hc
    cases rq with
    | @obj a dx c fv fs hi h1 h2 r =>
      cases (show u = Value.ref a from rv)
      obtain ⟨v, l1, l2⟩ := rpf_look A.inj r hl
      exact getattr_ok I1 h1 (A.ic hi) A.no l1 fun u' s' I' ru => ⟨v, H1, I', ru, q v l2⟩
    | @exc a dx c fv fs hi h1 h2 r =>
      cases (show u = Value.ref a from rv)
      obtain ⟨v, l1, l2⟩ := rpf_look A.inj r hl
      have T1 := A.xc hi
      obtain ⟨⟨oe, vs, ho, hz, hd, _⟩, _, _⟩ := I1.hok a _ h1
      obtain ⟨mA, hns, hr⟩ := (show ObjOk X.prog X.w H1 s1.heap dx (.xd fv) from I1.hok dx _ h2)
      obtain ⟨od, hod, hlk⟩ := lookIn_ns hns
      obtain ⟨u1, hu, ru⟩ := RelO.some_of (v := v) (o := mA (T.fn f)) (by rw [← l1]; exact hr (T.fn f))
      have J1 : PySem.W.InstAt s1.heap a oe (cl X.K T c) (some od) := ⟨ho, hz.1, by unfold PySem.W.notCls; rw [hd] <;> rfl, by rw [hz.2]; exact hod⟩
      exact HandSPX.exc_get I1.kIn J1 T1.ga T1.gg T1.exC (PySem.W.findObj_own T1.hdC A.no rfl (by rw [hlk, hu])) (handed_of ru) ⟨v, H1, I1.tok _, ru, q v l2⟩
    | ex0 hi h1 => cases hl

/-! ### kinds -/
/-- an error's class, for isinstance -/
structure XiC (K : Fg) (C : Addr) : Prop where
  cls : (clsIn K C).isSome = true
  ga : findIn K (.ref C) "__getattribute__" = some (some (.builtin "BaseException.__getattribute__"))
  gg : findIn K (.ref C) "__getattr__" = some none
  ex : subIn K (.ref C) (.type "BaseException") = some true
  ac : findIn K (.ref C) "__class__" = some (some (.builtin "object.__class__"))
  gn : specialIn K (.builtin "object.__class__") "__get__" = some (some (.builtin "getset_descriptor.__get__"))
  tk : takesIn K (.builtin "object.__class__") = some true
  om : mroIn K C (.type "object") = some true
structure OiC (K : Fg) (C : Addr) : Prop where
  cl : Cls K C
  ac : findIn K (.ref C) "__class__" = some (some (.builtin "object.__class__"))
  gn : specialIn K (.builtin "object.__class__") "__get__" = some (some (.builtin "getset_descriptor.__get__"))
  tk : takesIn K (.builtin "object.__class__") = some true
  om : mroIn K C (.type "object") = some true
def kindN : List String := ["NoneType", "bool", "int", "str", "list", "tuple", "LookupError", "TypeError", "ArithmeticError", "ValueError", "KeyError", "Exception", "dict"]
def kindV (K : Fg) (T : Tb) (k : Nat) : Value := if k < 20 then .type (kindN[k]?.getD "object") else .ref (cl K T (k - 20))
def kindX (K : Fg) (T : Tb) (k : Nat) : V := if k < 20 then .ty (kindN[k]?.getD "object") else .ref (cl K T (k - 20))
theorem kind_cls {K : Fg} {T : Tb} {k : Nat} : ClsV (kindX K T k) (kindV K T k) := by
  unfold kindX kindV
  split
  · exact .ty _
  · exact .own _
/-- what the table of kinds says is so -/
structure IsF (K : Fg) (T : Tb) (C : CE) : Prop where
  one : ∀ k j b, C.isa k j = some b → kitOne K (kindV K T k) (kindV K T j) = some b
  xc : ∀ c j b, C.isa (20 + c) j = some b → T.ix c = true → XiC K (cl K T c)
  ic : ∀ c j b, C.isa (20 + c) j = some b → T.ix c = false → OiC K (cl K T c)
theorem IsF.any {K : Fg} {T : Tb} {C : CE} (F : IsF K T C) {k : Nat} : ∀ {ts : List Nat} {b : Bool}, isiK C k ts = some b → kitAny K (kindV K T k) (ts.map (kindV K T)) = some b
  | [], b, h => by
    cases h
    rfl
  | t :: r, b, h => by
    unfold isiK at h
    cases e : C.isa k t with
    | none =>
      rw [e] at h
      cases h
    | some c =>
      rw [e] at h
      have h1 := F.one k t c e
      cases c with
      | true =>
        cases h
        exact kitAny_cons h1 (fun z => nomatch z) fun _ => rfl
      | false => exact kitAny_cons h1 (fun _ => F.any h) fun z => nomatch z
/-- what isinstance asks of a value -/
def KtO (X : Cx) (H : Hp) (x : V) (t : Value) : Prop := ∀ (pins : List (Addr × Obj)) (s : Shared) (σ : L2.St) (u : Value), Inv X pins σ H s → RelV x u → ∃ P : Heap → Prop, KitX X.K u t P ∧ P s.heap ∧ u ≠ .builtin "__main__.__loader__#opaque"
theorem kt_ty {H : Hp} {x : V} {t : Value} (h : TyX X.K H x t) : KtO X H x t := fun _ _ _ _ I r => kit_of I r h
theorem kt_rq {B H : Hp} {x : V} {d : D} {k : Nat} (hk : kindD d = some k) (eB : Ex B H) (r : Rq X.K T B H x d) (hx : ∀ c, k = 20 + c → T.ix c = true → XiC X.K (cl X.K T c)) (hi : ∀ c, k = 20 + c → T.ix c = false → OiC X.K (cl X.K T c)) : KtO X H x (kindV X.K T k) := by
  have hcv : ∀ c, kindV X.K T (20 + c) = .ref (cl X.K T c) := fun c => by
    unfold kindV
    rw [if_neg (by omega)]
    congr 2
    omega
  cases r with
  | non => cases hk; exact kt_ty (.base .non)
  | bl b => cases hk; exact kt_ty (.base (.bl b))
  | int i => cases hk; exact kt_ty (.base (.int i))
  | str x h o => cases hk; exact kt_ty (.base (.str x))
  | scr h => cases hk
  | lst h z r => cases hk; exact kt_ty (.base (.lst h))
  | tup h z r =>
    cases hk
    have h' := ex_t eB h
    rcases h' with (h' | ⟨o, h'⟩) | ⟨o, its, n, h1, h2, _⟩
    · exact kt_ty (.base (.tup h'))
    · exact kt_ty (.fTuple h')
    · exact kt_ty (.kTuple h1 h2)
  | @obj a dx c fv fs ih h1 h2 r =>
    cases hk
    have F := hi c rfl ih
    rw [hcv]
    exact kt_ty (.base (.ins h1 F.cl F.ac F.gn F.tk F.om))
  | @exc a dx c fv fs ih h1 h2 r =>
    cases hk
    have F := hx c rfl ih
    rw [hcv]
    intro pins s σ u I ru
    cases (show u = Value.ref a from ru)
    obtain ⟨⟨oe, vs, ho, hz, hd, _⟩, _, _⟩ := I.hok a _ h1
    obtain ⟨mA, hns, hr⟩ := (show ObjOk X.prog X.w H s.heap dx (.xd fv) from I.hok dx _ h2)
    obtain ⟨od, hod, hlk⟩ := lookIn_ns hns
    have J1 : PySem.W.InstAt s.heap a oe (cl X.K T c) (some od) := ⟨ho, hz.1, by unfold PySem.W.notCls; rw [hd] <;> rfl, by rw [hz.2]; exact hod⟩
    exact ⟨_, kitx_exc F.cls F.ga F.gg F.ex F.ac F.gn F.tk F.om, J1, fun z => nomatch z⟩
  | @ex0 a c ih h1 =>
    cases hk
    have F := hx c rfl ih
    rw [hcv]
    intro pins s σ u I ru
    cases (show u = Value.ref a from ru)
    obtain ⟨⟨oe, vs, ho, hz, hd, _⟩, _, _⟩ := I.hok a _ h1
    have J1 : PySem.W.InstAt s.heap a oe (cl X.K T c) none := ⟨ho, hz.1, by unfold PySem.W.notCls; rw [hd] <;> rfl, by rw [hz.2]; trivial⟩
    exact ⟨_, kitx_exc F.cls F.ga F.gg F.ex F.ac F.gn F.tk F.om, J1, fun z => nomatch z⟩
/-- isinstance(x, c) -/
def rI1 (X : Cx) : List V → Hp → VK → Prop := fun xs H Q => ∃ (x c : V) (t u : Value) (b : Bool), xs = [x, c] ∧ ClsV c u ∧ KtO X H x t ∧ kitOne X.K t u = some b ∧ Q (.bl b) H
theorem call_i1 : CallR X (.builtin "isinstance") (rI1 X) := by
  intro pins s σ H xs us Q I r h
  obtain ⟨x, c, t, u, b, rfl, k, ty, e, q⟩ := h
  obtain ⟨u1, u2, rfl, r1, r2⟩ := vals2 r
  have e2 := k.eq r2
  subst e2
  obtain ⟨P, Z, p, hx⟩ := ty pins s σ u1 I r1
  exact PySem.W.kia_one Z I.kIn p e hx fun tk => ⟨.bl b, H, I.tok tk, rfl, q⟩
/-- isinstance(x, (c, ..)), a tuple just laid -/
def rIM (X : Cx) : List V → Hp → VK → Prop := fun xs H Q => ∃ (x : V) (tp : Addr) (cs : List V) (t : Value) (us : List Value) (b : Bool), xs = [x, .ref tp] ∧ H tp = some (.tup cs) ∧ Paired ClsV cs us ∧ KtO X H x t ∧ kitAny X.K t us = some b ∧ Q (.bl b) H
theorem call_im : CallR X (.builtin "isinstance") (rIM X) := by
  intro pins s σ H xs us Q I r h
  obtain ⟨x, tp, cs, t, ws, b, rfl, hT, k, ty, e, q⟩ := h
  obtain ⟨u1, u2, rfl, r1, r2⟩ := vals2 r
  cases (show u2 = Value.ref tp from r2)
  obtain ⟨P, Z, p, hx⟩ := ty pins s σ u1 I r1
  obtain ⟨_, its, rv, o, h1, h2, n, h3⟩ := (show ObjOk X.prog X.w H s.heap tp (.tup cs) from I.hok tp _ hT)
  have e3 := ClsV.all k rv
  subst e3
  obtain ⟨oc, od, dt, sl⟩ := o
  simp only at h2 h3
  subst h2 h3
  exact PySem.W.kia_tup Z I.kIn p h1 e hx fun tk => ⟨.bl b, H, I.tok tk, rfl, q⟩
/-- the classes' names -/
structure PCl (X : Cx) (T : Tb) (e : Expr) (k : Nat) : Prop where
  pe : PE X e (tC (kindX X.K T k))
theorem pd_isi {k : Nat} {p : Pos} (hJ : Mono J) (F : IsF X.K T C) (hg : Gl X "isinstance") (hm : X.mg "isinstance" = none) (ha : PD X T C W J a a') (hc : PCl X T b k) (hst : starEach [a, b] X.env = (false, eval a X.env) :: starEach [b] X.env := by rfl) (hst2 : starEach [b] X.env = (false, eval b X.env) :: starEach [] X.env := by rfl) (hpl : (backTo pos (starEach [b] X.env)).any (·.1) = false := by rfl) :
    PD X T C W J (.Call (.Name "isinstance" p) [a, b] [] pos) (.isi a' [k]) := by
  refine PE.weak (pe_callB call_i1 hg hm (by decide +kernel) (pa_cons ha (pa_cons hc.pe pa_nil hst2) hst) (he := hst) (hpl := hpl)) fun σ H Q h => ?_
  obtain ⟨π, B, m, ρ, bb, w⟩ := h
  rw [ev] at w
  refine tE_bnd hJ bb w fun v H1 π1 B1 m1 u s1 b1 r1 w1 => ?_
  cases hs : see m1 u with
  | none =>
    rw [hs] at w1
    exact w1.elim
  | some d =>
    rw [hs] at w1
    dsimp only at w1
    unfold isiD at w1
    cases hk : kindD d with
    | none =>
      rw [hk] at w1
      exact w1.elim
    | some kd =>
      rw [hk] at w1
      dsimp only at w1
      unfold isiK at w1
      cases hi : C.isa kd k with
      | none =>
        rw [hi] at w1
        exact w1.elim
      | some r =>
        rw [hi] at w1
        have hq : Q (.bl r) H1 := by
          cases r with
          | true => exact w1 _ _ _ _ (Step.refl b1.st) (.bl true)
          | false => exact w1 _ _ _ _ (Step.refl b1.st) (.bl false)
        exact ⟨v, kindX X.K T k, _, _, r, rfl, kind_cls, kt_rq hk b1.st.ex (see_ok b1.st r1 hs) (fun c z h => F.xc c k r (z ▸ hi) h) (fun c z h => F.ic c k r (z ▸ hi) h), F.one kd k r hi, hq⟩
end
end At

/-! Tuples of kinds, list.count, str. -/
namespace At
open PySem L2 Evl
open PySem.W PySem.Calls PyProof.Rows

section
variable {X : Cx} {T : Tb} {C : CE} {W : WX} {J : Jt} {a b e : Expr} {a' b' e' : E} {es : List Expr} {es' : E} {pos : Pos}
/-- the names of some classes, in a tuple -/
structure PCls (X : Cx) (T : Tb) (es : List Expr) (ks : List Nat) : Prop where
  pa : PA X es (fun σ H Q => Q (ks.map (kindX X.K T)) H)
theorem pcls_nil : PCls X T [] [] := ⟨PA.weak pa_nil fun _ _ _ h => h⟩
theorem pcls_cons {k : Nat} {ks : List Nat} (h : PCl X T e k) (r : PCls X T es ks) (hst : starEach (e :: es) X.env = (false, eval e X.env) :: starEach es X.env := by rfl) : PCls X T (e :: es) (k :: ks) :=
  ⟨PA.weak (pa_cons h.pe r.pa hst) fun _ _ _ h => h⟩
theorem paired_kinds {K : Fg} : ∀ ks : List Nat, Paired ClsV (ks.map (kindX K T)) (ks.map (kindV K T))
  | [] => .nil
  | _ :: ks => .cons kind_cls (paired_kinds ks)
theorem pcl_own {x : Str} {c : Nat} {p : Pos} (hg : Gl X x) (hm : X.mg x = some (.ref (cl X.K T c))) (hd : (x == ("__debug__" : Str)) = false := by decide) : PCl X T (.Name x p) (20 + c) := by
  refine ⟨?_⟩
  have e : kindX X.K T (20 + c) = .ref (cl X.K T c) := by
    unfold kindX
    rw [if_neg (by omega)]
    congr 2
    omega
  rw [e]
  exact pe_glob hg hm rfl hd
theorem pcl_blt {x : Str} {k : Nat} {n : String} {p : Pos} (hg : Gl X x) (hm : X.mg x = none) (hv : bootBuiltins x = some (.type n)) (hk : k < 20 ∧ kindN[k]?.getD "object" = n := by decide) (hn : x ≠ "__name__" := by decide) (hd : (x == ("__debug__" : Str)) = false := by decide) : PCl X T (.Name x p) k := by
  refine ⟨?_⟩
  have e : kindX X.K T k = .ty n := by
    unfold kindX
    rw [if_pos hk.1, hk.2]
  rw [e]
  exact pe_bltn hg hm hv rfl hn hd
theorem Rq.up {K : Fg} {B H H' : Hp} {v : V} {d : D} (e : Ex H H') (r : Rq K T B H v d) : Rq K T B H' v d := by
  cases r with
  | non => exact .non
  | bl b => exact .bl b
  | int i => exact .int i
  | str x h o => exact .str x h o
  | scr h => exact .scr (ex_l e h)
  | lst h z r => exact .lst (e _ _ h) z r
  | tup h z r => exact .tup h z r
  | obj i h g r => exact .obj i (e _ _ h) (e _ _ g) r
  | exc i h g r => exact .exc i (e _ _ h) (e _ _ g) r
  | ex0 i h => exact .ex0 i (e _ _ h)
theorem isa_some {k j : Nat} {ks : List Nat} {r : Bool} (hj : ks.head? = some j) (h : isiK C k ks = some r) : ∃ b, C.isa k j = some b := by
  cases ks with
  | nil => cases hj
  | cons t ts =>
    cases hj
    unfold isiK at h
    cases e : C.isa k j with
    | none =>
      rw [e] at h
      cases h
    | some b => exact ⟨b, rfl⟩
theorem pd_isiM {ks : List Nat} {p tp : Pos} {x1} (hJ : Mono J) (F : IsF X.K T C) (hg : Gl X "isinstance") (hm : X.mg "isinstance" = none) (ha : PD X T C W J a a') (hc : PCls X T es ks) (hj : ks.head?.isSome = true := by rfl) (hlen : ks.length ≤ 100 := by decide) (hst : starEach [a, .Tuple es x1 tp] X.env = (false, eval a X.env) :: starEach [.Tuple es x1 tp] X.env := by rfl) (hst2 : starEach [.Tuple es x1 tp] X.env = (false, eval (.Tuple es x1 tp) X.env) :: starEach [] X.env := by rfl) (hpl : (backTo pos (starEach [.Tuple es x1 tp] X.env)).any (·.1) = false := by rfl) :
    PD X T C W J (.Call (.Name "isinstance" p) [a, .Tuple es x1 tp] [] pos) (.isi a' ks) := by
  refine PE.weak (pe_callB call_im hg hm (by decide +kernel) (pa_cons ha (pa_cons (pe_tup hc.pa) pa_nil hst2) hst) (he := hst) (hpl := hpl)) fun σ H Q h => ?_
  obtain ⟨π, B, m, ρ, bb, w⟩ := h
  rw [ev] at w
  refine tE_bnd hJ bb w fun v H1 π1 B1 m1 u s1 b1 r1 w1 => ?_
  cases hs : see m1 u with
  | none =>
    rw [hs] at w1
    exact w1.elim
  | some d =>
    rw [hs] at w1
    dsimp only at w1
    unfold isiD at w1
    cases hk : kindD d with
    | none =>
      rw [hk] at w1
      exact w1.elim
    | some kd =>
      rw [hk] at w1
      dsimp only at w1
      cases hi : isiK C kd ks with
      | none =>
        rw [hi] at w1
        exact w1.elim
      | some r =>
        rw [hi] at w1
        have hcs : ∀ j, (∃ b, C.isa kd j = some b) → (∀ c, kd = 20 + c → T.ix c = true → XiC X.K (cl X.K T c)) ∧ (∀ c, kd = 20 + c → T.ix c = false → OiC X.K (cl X.K T c)) := fun j ⟨b, hb⟩ => ⟨fun c z h => F.xc c j b (z ▸ hb) h, fun c z h => F.ic c j b (z ▸ hb) h⟩
        obtain ⟨j, hj'⟩ := Option.isSome_iff_exists.mp hj
        obtain ⟨hx1, hi1⟩ := hcs j (isa_some hj' hi)
        refine ⟨by rw [List.length_map]; exact Nat.le_trans hlen (by decide), fun l hl => ?_⟩
        have nw := New.one (T := T) b1.st.ex (p := l) (o := .tup (ks.map (kindX X.K T))) hl
        exact ⟨v, l, _, _, _, r, rfl, upd_same, paired_kinds ks, kt_rq hk (b1.st.ex.trans (Ex.new hl)) ((see_ok b1.st r1 hs).up (Ex.new hl)) hx1 hi1, F.any hi, w1 _ _ _ _ (nw.step b1.st) (.bl r)⟩
def rCountD (K : Fg) : V → List V → Hp → VK → Prop := fun x xs H Q => ∃ (a : Addr) (y : V) (d : PyData) (ds : List PyData), x = V.ref a ∧ xs = [y] ∧ Dp K H (V.ref a) (.list ds) ∧ Dp K H y d ∧
  SeqAt.shaped (.list ds) = true ∧ SeqAt.shaped d = true ∧ Q (.int (ds.countP fun z => PyData.eqv z d : Nat)) H
theorem mt_countD (hu : X.A.units + 65 < cLine) : MtR X "list.count" (rCountD X.K) := by
  intro pins s σ H x xs v us Q I rx rxs h
  obtain ⟨a, y, d, ds, rfl, rfl, hl, hy, sl, sd, q⟩ := h
  cases rx
  cases rxs with
  | cons ry rt =>
    rename_i uy ut
    cases rt
    obtain ⟨bs, r1⟩ := Dp.reads I d y uy hy ry
    have hxs : PyData.canLayAll0 ds = true := SeqAt.canLay_of_shaped sl
    have hroom : X.A.units + 1 + min (PyData.depthAll ds) d.depth < cLine := room_in_shaped sd hu
    cases hl with
    | lst hs ha =>
      obtain ⟨its, rv, ⟨⟨cls, dd, data, sls⟩, n, ho, hc, hdn, hdt⟩, hlen⟩ := I.list hs
      simp only at hc hdt
      subst hc hdt
      obtain ⟨as, h4⟩ := Dp.readsAll I ds _ its ha rv
      have hmap : its.map (SeqAt.readOf s.heap) = ds := SeqAt.readsAll_map ds its as hxs h4
      refine call_meets PySem.F.slot_list_count ⟨_, ho, rfl⟩ PySem.F.entry_list_count (PySem.F.args_list_count_2 _ _)
        (SeqAt.list_countAt a its.toArray n dd sls uy (fun u => PyData.eqv (SeqAt.readOf s.heap u) d)) ⟨ho, SeqAt.items_eqAt (vs := its.toArray) (show ReadsAll s.heap its.toArray.toList ds as from h4) r1 hxs (SeqAt.canLay_of_shaped sd) hroom, ?_⟩
      have ec : its.toArray.toList.countP (fun u => PyData.eqv (SeqAt.readOf s.heap u) d) = ds.countP fun z => PyData.eqv z d := by
        rw [← hmap, List.countP_map]
        rfl
      refine ⟨.int (ds.countP fun z => PyData.eqv z d : Nat), H, I.tok _, ⟨s.toks, ?_⟩, q⟩
      show Value.int ((its.toArray.toList.countP (fun u => PyData.eqv (SeqAt.readOf s.heap u) d) : Nat) : Int) s.toks = _
      rw [ec]
theorem count_of (x : D) (hx : plain x = true) : ∀ ys : List D, plains ys = true → ((toPys ys).countP fun z => PyData.eqv z (toPy x)) = ys.countP fun y => eqD y x
  | [], _ => rfl
  | y :: ys, h => by
    obtain ⟨p1, p2⟩ := Bool.and_eq_true_iff.mp (show (plain y && plains ys) = true from h)
    show ((toPy y :: toPys ys).countP fun z => PyData.eqv z (toPy x)) = _
    rw [List.countP_cons, List.countP_cons, eqv_of y x p1 hx, count_of x hx ys p2]
theorem pd_count {k : Nat} {apos cpos : Pos} (hJ : Mono J) (hr : Room k X.A) (ha : PD X T C W J a a') (he : PD X T C W J e e') (hbase : attributeBase a "count" X.env (eval a X.env) = eval a X.env := by rfl)
    (hfew : ((backTo cpos (starEach [e] X.env)).all (fun x => !x.1) && (backToKw cpos (keywordEach [] X.env)).all (fun x => x.1.isSome)
      && decide ([e].length + ([] : List Keyword).length + (if ([] : List Keyword).isEmpty then 0 else 1) < 30)) = true := by rfl)
    (hline : (apos.endLine == cpos.line) = true := by rfl) (hs : starEach [e] X.env = (false, eval e X.env) :: starEach [] X.env := by rfl) :
    PD X T C W J (.Call (.Attribute a "count" apos) [e] [] cpos) (.count a' e') := by
  refine PE.weak (pe_bm PySem.F.plainAttrs_list PySem.F.slot_list_count PySem.F.type_list_count (mt_countD (u65 hr)) ha (pa_cons he pa_nil hs) hbase hfew hline hs) fun σ H Q h => ?_
  obtain ⟨π, B, m, ρ, bb, w⟩ := h
  rw [ev] at w
  refine tE_bnd hJ bb w fun v H1 π1 B1 m1 u s1 b1 r1 w1 => ?_
  cases u with
  | p k => exact w1.elim
  | v d =>
    cases d with
    | lst xs =>
      dsimp only at w1
      cases r1 with
      | @lst p ys _ hB hl rs =>
        refine ⟨.inl ⟨rfl, ys, SqL.of (b1.st.ex _ _ hB)⟩, ?_⟩
        refine tE_bnd hJ b1 w1 fun v2 H2 π2 B2 m2 u2 s2 b2 r2 w2 => ?_
        cases u2 with
        | p k => exact w2.elim
        | v d2 =>
          dsimp only at w2
          by_cases c : (askable (.lst xs) && askable d2) = true
          · rw [if_pos c] at w2
            obtain ⟨c1, c2⟩ := Bool.and_eq_true_iff.mp c
            have rl : Rp X.K T B2 (.ref p) (.lst xs) := .lst (s2.ex _ _ hB) hl (rs.mono s2.ex)
            obtain ⟨p1, q1⟩ := ask_of b2.st.ex c1 (rl.rq b2.st.ex)
            obtain ⟨p2, q2⟩ := ask_of b2.st.ex c2 (Rp.rq b2.st.ex r2)
            refine ⟨p, v2, _, _, rfl, rfl, p1, p2, q1, q2, ?_⟩
            rw [count_of d2 (Bool.and_eq_true_iff.mp c2).1 xs (Bool.and_eq_true_iff.mp c1).1]
            exact w2 _ _ _ _ (Step.refl b2.st) (.int _)
          · rw [if_neg c] at w2
            exact w2.elim
    | _ => exact w1.elim
theorem sem_strU {K : Fg} : SemL K T (fun xs H Q => (∃ i, xs = [.int i] ∧ i.natAbs.log2 < 1920 ∧ Q (.str (toString i)) H) ∨ ∃ a, xs = [.str a] ∧ Q (.str a) H) (un1 .str) := by
  intro B H x d1 d Q e r1 hf k
  cases r1 with
  | int i => exact .inl (sem_str B H _ _ d Q e (.int i) hf k)
  | str x h o =>
    cases hf
    exact .inr ⟨x, rfl, k _ _ _ (New.refl e) (.str x h o)⟩
  | _ => cases hf
theorem pd_strof {p : Pos} (hJ : Mono J) (hg : Gl X "str") (hm : X.mg "str" = none) (ha : PD X T C W J a a') (hst : starEach [a] X.env = (false, eval a X.env) :: starEach [] X.env := by rfl) : PD X T C W J (.Call (.Name "str" p) [a] [] pos) (.un .str a') :=
  pd_fun1 hJ sem_strU (fun t ht => pe_callTy (CallR.or call_str_int SkE.call_str_str) hg hm (by decide +kernel) ht (he := hst)) ha hst
end
end At

/-! What the head tells of errors' classes. -/
namespace At
open PySem L2 Evl
open PySem.W PySem.Calls PyProof.Rows PySem.HandSPX
open He (ga ma fAd eqO eqO_ok ba)

/-- an error's class: its __init__ as the text has it -/
structure XD where
  cn : Str
  me : Str
  qual : Str
  ps : List Str
  fs : List Str
  params : Arguments
  body : List Stmt
  scope : Scope
abbrev FnX : Type := Option (Str × Str × Arguments × FuncBody × Scope × Addr × List Str × Addr)
def XD.at (K : Fg) (d : XD) : Addr := ma K (ga K d.cn) "__init__"
def XD.obs (K : Fg) (d : XD) : FnX := match K.lookup (d.at K) with
  | some ⟨_, _, .func fd, _⟩ => some (fd.name, fd.qualname, fd.params, fd.body, fd.scope, fd.globals, fd.closure.map (·.1), fd.builtins)
  | _ => none
def XD.val (d : XD) : FnX := some ("__init__", d.qual, d.params, .stmts d.body, d.scope, mainGlobals, ["__class__"], builtinsNs)
def clsXB (K : Fg) (C : Addr) : Bool := match K.lookup C with
  | some ⟨.type "type", _, .cls cd, sl⟩ => (match cd.mro, sl.toList with
    | .ref C' :: bm, [_, _, _, _, some (.builtin n), _] => C' == C && n == "ValueError.__new__" && !cd.hasDel && cd.hasDict && refsVE bm
    | _, _ => false)
  | _ => false
def cellB (K : Fg) (cc C : Addr) : Bool := match K.lookup cc with
  | some ⟨_, _, .cell (some (.ref C')), _⟩ => C' == C
  | _ => false
def fileB (P : Program) (K : Fg) (cda : Addr) : Bool := match K.lookup cda with
  | some ⟨_, _, .fields vs, _⟩ => (match (vs[2]? : Option Value) with
    | some (.str file _) => ((P.main.file : Str) == file)
    | _ => false)
  | _ => false
def funXB (P : Program) (K : Fg) (C fI : Addr) (qual : Str) : Bool := match K.lookup fI with
  | some ⟨_, _, .func fd, _⟩ => (match fd.closure, fd.code, fd.defaults with
    | [(_, cc)], .ref cda, .none => cellB K cc C && (fileB P K cda && codeIn K (.ref cda) qual)
    | _, _, _ => false)
  | _ => false
def XD.ok (P : Program) (K : Fg) (d : XD) : Bool :=
  eqO (nsIn K mainGlobals d.cn) (some (some (.ref (ga K d.cn)))) && (keepIn K (.ref (ga K d.cn)) && (decide (subIn K (.ref (ga K d.cn)) (.type "BaseException") = some true) && (decide (typeIn K (.ref (ga K d.cn)) = some (.type "type")) &&
  (clsXB K (ga K d.cn) && (eqO (ks_superIn K (ga K d.cn) (ga K d.cn) "__init__") (some (some (.builtin "ValueError.__init__"))) && (eqO (findIn K (.ref (ga K d.cn)) "__setattr__") (some (some (.builtin "object.__setattr__"))) &&
  (eqO (findIn K (.ref (ga K d.cn)) "__init__") (some (some (.ref (d.at K)))) && (decide (typeIn K (.ref (d.at K)) = some (.type "function")) && (decide (subIn K (.ref (ga K d.cn)) (.type "ValueError") = some true) && (hasDictIn K (ga K d.cn) &&
  (decide (mroIn K (ga K d.cn) (.ref (ga K d.cn)) = some true) && (eqO (nsIn K cStatics "thirdparty.any") (some none) && (funXB P K (ga K d.cn) (d.at K) d.qual && d.fs.all fun f => eqO (findIn K (.ref (ga K d.cn)) f) (some none))))))))))))))
/-- what is seen of the class's text alone -/
structure XSt (P : Program) (d : XD) : Prop where
  sc : XSc d.scope d.me d.ps
  to : ∃ (l : List (Str × Str × Pos × Pos × Pos × Pos)) (p0 p1 p2 p3 p4 p5 : Pos) (msg : Str) (kk : Nat) (ar : Arg), d.body = .Expr (.Call (.Attribute (.Call (.Name "super" p0) [] [] p1) "__init__" p2) [.Constant (.str msg) kk p3] [] p4) p5 :: storeS d.me l ∧
    XFld l d.ps d.fs ∧ (∀ q ∈ l, q.2.1 ∈ d.ps ∧ (q.2.1 == ("__debug__" : Str)) = false) ∧ l.length ≤ 100 ∧ (d.params.posonlyargs ++ d.params.args).head? = some ar ∧ ar.arg = d.me ∧
    ∀ (L fI cc : Addr) (cdv : Value), ∃ pl : Sem Bool, eval (.Call (.Attribute (.Call (.Name "super" p0) [] [] p1) "__init__" p2) [.Constant (.str msg) kk p3] [] p4) (ksEnv d.qual d.scope L fI cdv cc) = (do
        let ov ← attributeBase (.Call (.Name "super" p0) [] [] p1) "__init__" (ksEnv d.qual d.scope L fI cdv cc) (eval (.Call (.Name "super" p0) [] [] p1) (ksEnv d.qual d.scope L fI cdv cc))
        standAt p2.atName
        let (f, first) ← holding [ov] (getMethod ov "__init__" pl)
        callWith p4 f first (backTo p4 (starEach [.Constant (.str msg) kk p3] (ksEnv d.qual d.scope L fI cdv cc))) [])
  bind : ∀ (kV doc pm : Value) (an : Option Addr) (cdv ct : Value) (cc : Addr) (us : List Value), us.length = d.ps.length + 1 → bindArgs (ksFn "__init__" d.qual d.params d.body d.scope .none kV doc pm an cdv ct cc) ⟨us, []⟩ = pure ((d.me :: d.ps).zip us)
  me0 : (d.me == ("__debug__" : Str)) = false
  nd : (d.me :: d.ps).Nodup
  top : (P.main.scope.names.lookup ("super" : Str)).isSome = false
  few : d.ps.length ≤ 100
theorem clsXB_ok {K : Fg} {C : Addr} (q : clsXB K C = true) : ∃ nm qn N bs bm sn sub ab col dd k0 k1 k2 k3 k5, K.lookup C = some (excClassObj nm qn C N bs bm true sn sub ab col dd k0 k1 k2 k3 k5 "ValueError.__new__") ∧ refsVE bm = true := by
  unfold clsXB at q
  split at q
  · rename_i dd cd sl ho
    split at q
    · rename_i C' bm k0 k1 k2 k3 n k5 hm hs
      simp only [Bool.and_eq_true, beq_iff_eq, Bool.not_eq_true'] at q
      obtain ⟨⟨⟨⟨rfl, rfl⟩, hdel⟩, hdi⟩, hr⟩ := q
      obtain ⟨nm, bs, mro, ns, qn, hd, sn, sub, ab, col, del⟩ := cd
      dsimp only at hm hdel hdi
      subst hm hdel hdi
      have hsl : sl = #[k0, k1, k2, k3, some (.builtin "ValueError.__new__"), k5] := by
        obtain ⟨l⟩ := sl
        simp only at hs
        rw [hs]
      subst hsl
      exact ⟨nm, qn, ns, bs, bm, sn, sub, ab, col, dd, k0, k1, k2, k3, k5, ho, hr⟩
    · cases q
  · cases q
theorem cellB_ok {K : Fg} {cc C : Addr} (q : cellB K cc C = true) : ∃ c d s, K.lookup cc = some ⟨c, d, .cell (some (.ref C)), s⟩ := by
  unfold cellB at q
  split at q
  · rename_i c d C' s ho
    have : C' = C := beq_iff_eq.mp q
    subst this
    exact ⟨c, d, s, ho⟩
  · cases q
theorem fileB_ok {P : Program} {K : Fg} {a : Addr} (q : fileB P K a = true) : ∃ ccl cdd vs ccs file tf, K.lookup a = some ⟨ccl, cdd, .fields vs, ccs⟩ ∧ vs[2]? = some (.str file tf) ∧ ((P.main.file : Str) == file) = true := by
  unfold fileB at q
  split at q
  · rename_i c d vs s ho
    split at q
    · rename_i f t hv
      exact ⟨c, d, vs, s, f, t, ho, hv, q⟩
    · cases q
  · cases q
theorem XD.made {P : Program} {K : Fg} {h : Heap} {mg : Str → Option Value} {d : XD} (X : K.In h) (G : h.Ns mainGlobals mg) (hsup : mg "super" = none) (S : XSt P d) (e : d.obs K = d.val) (c : d.ok P K = true) : XOk P K mg d.cn (ga K d.cn) d.ps d.fs := by
  obtain ⟨c1, c⟩ := ba c
  obtain ⟨c2, c⟩ := ba c
  obtain ⟨c3, c⟩ := ba c
  obtain ⟨c4, c⟩ := ba c
  obtain ⟨c5, c⟩ := ba c
  obtain ⟨c6, c⟩ := ba c
  obtain ⟨c7, c⟩ := ba c
  obtain ⟨c8, c⟩ := ba c
  obtain ⟨c9, c⟩ := ba c
  obtain ⟨c10, c⟩ := ba c
  obtain ⟨c11, c⟩ := ba c
  obtain ⟨c12, c⟩ := ba c
  obtain ⟨c13, c⟩ := ba c
  obtain ⟨c14, c15⟩ := ba c
  unfold funXB at c14
  unfold XD.obs at e
  cases q : K.lookup (d.at K) with
  | none =>
    rw [q] at c14
    cases c14
  | some o =>
    obtain ⟨oc, od, dt, osl⟩ := o
    rw [q] at c14 e
    cases dt with
    | func fd =>
      obtain ⟨n1, n2, n3, n4, n5, n6, n7, n8, n9, n10, n11, n12, n13, n14, n15⟩ := fd
      dsimp only at c14 e
      have e2 : (some (n1, n2, n3, n4, n5, n6, n7.map (·.1), n15) : FnX) = (some (("__init__" : Str), d.qual, d.params, FuncBody.stmts d.body, d.scope, mainGlobals, [("__class__" : Str)], builtinsNs) : FnX) := e
      simp only [Option.some.injEq, Prod.mk.injEq] at e2
      obtain ⟨h1, h2, h3, h4, h5, h6, h7, h8⟩ := e2
      subst h1 h2 h3 h4 h5 h6 h8
      split at c14
      · rename_i x0 cc cda
        obtain ⟨k1, k⟩ := ba c14
        obtain ⟨k2, k3⟩ := ba k
        simp only [List.map_cons, List.map_nil, List.cons.injEq, and_true] at h7
        subst h7
        obtain ⟨l, p0, p1, p2, p3, p4, p5, msg, kk, ar, hb, Fd, hf, hfew, har, harg, hev⟩ := S.to
        refine ⟨mg_of X G (eqO_ok c1), hsup, c2, of_decide_eq_true c3, of_decide_eq_true c4, S.few, d.at K, cc, cda, d.me, l, ⟨clsXB_ok c5, eqO_ok c6, eqO_ok c7, eqO_ok c8, of_decide_eq_true c9, of_decide_eq_true c10, c11, of_decide_eq_true c12, eqO_ok c13, cellB_ok k1, fileB_ok k2, S.top⟩, ⟨⟨d.qual, d.params, d.scope, oc, od, osl, n9, n10, n11, n14, n12, p0, p1, p2, p3, p4, p5, msg, kk, ar, ?_, k3, S.sc, har, harg, fun s us hl => ?_, fun L => hev L _ _ _⟩, hf, S.me0, S.nd, hfew⟩, Fd, fun f hf' => eqO_ok (List.all_eq_true.mp c15 f hf')⟩
        · rw [← hb]
          exact q
        · rw [← hb]
          exact .of_eq (S.bind n9 n10 n11 n12 (.ref cda) n14 cc us hl)
      · cases c14
    | _ => cases c14

theorem takesF {X : Cx} : Takes X WF := fun _ _ x => by
  obtain ⟨_, _, _, _, _, _, _, _, _, _, _, _, _, _, _, _, z⟩ := x
  exact z.elim
/-! ### the Hook -/
def asX (g : Addr → Option Obj) : Nat → List Addr
  | 0 => [mainGlobals, cStatics]
  | n + 1 => He.growD g (asX g n)
abbrev AlX : Type := Bool × List He.FnW × List FnX
structure HX where
  fa : List He.Fa
  fn : List He.DefD
  xd : List XD
  ck : Fg → Bool
def HX.seen (P : Program) (x : HX) (K : Fg) : AlX := ((x.fa.all fun f => f.ok K) && ((x.fn.all fun d => d.ok K) && ((x.xd.all fun d => d.ok P K) && x.ck K)), x.fn.map (fun d => He.fnW K d.at_), x.xd.map fun d => d.obs K)
def HX.val (x : HX) : AlX := (true, x.fn.map He.DefD.val, x.xd.map XD.val)
def HX.says (P : Program) (x : HX) (K : Fg) : Prop := x.seen P K = x.val
def HX.obsG (P : Program) (n : Nat) (x : HX) (g : Addr → Option Obj) : AlX := x.seen P (He.frG g (asX g n))
def HX.hook (P : Program) (n : Nat) (x : HX) : PySem.W.Hook where
  α := AlX
  obs := fun s => x.obsG P n s.heap.get?
  val := fun _ => x.val
  says := fun _ h => ∃ K : Fg, K.In h ∧ x.says P K
  of := fun _ _ e => ⟨_, He.frG_in, e⟩
  keeps := fun _ _ _ ⟨K, hK, c⟩ k => ⟨K, PySem.W.Frag.In.keeps hK k, c⟩
theorem HX.obs_eq {P : Program} {n : Nat} {x : HX} {g : Addr → Option Obj} {s : Shared} (h : ∀ a, g a = s.heap.get? a) : x.obsG P n g = (x.hook P n).obs s := by
  have e : g = s.heap.get? := funext h
  rw [e] <;> rfl
section
variable {P : Program} {x : HX} {K : Fg}
theorem HX.parts (c : x.says P K) : (∀ f ∈ x.fa, f.ok K = true) ∧ (∀ d ∈ x.fn, d.ok K = true) ∧ (∀ d ∈ x.xd, d.ok P K = true) ∧ x.ck K = true := by
  have c1 : ((x.fa.all fun f => f.ok K) && ((x.fn.all fun d => d.ok K) && ((x.xd.all fun d => d.ok P K) && x.ck K))) = true := congrArg (fun z : AlX => z.1) c
  obtain ⟨h1, c1⟩ := ba c1
  obtain ⟨h2, c1⟩ := ba c1
  obtain ⟨h3, h4⟩ := ba c1
  exact ⟨List.all_eq_true.mp h1, List.all_eq_true.mp h2, List.all_eq_true.mp h3, h4⟩
theorem HX.fact (c : x.says P K) (i : Nat) {f : He.Fa} (h : x.fa[i]? = some f := by rfl) : f.ok K = true := (HX.parts c).1 f (List.mem_of_getElem? h)
theorem HX.def_ (c : x.says P K) (i : Nat) {d : He.DefD} (h : x.fn[i]? = some d := by rfl) : ∃ fd, FunD K d.name d.qual d.params d.body d.scope (d.dvs K) (d.kws K) (fAd K d.at_) fd := by
  have e : x.fn.map (fun d => He.fnW K d.at_) = x.fn.map He.DefD.val := congrArg (fun z : AlX => z.2.1) c
  have e2 : (x.fn.map fun d => He.fnW K d.at_)[i]? = (x.fn.map He.DefD.val)[i]? := by rw [e]
  rw [List.getElem?_map, List.getElem?_map, h] at e2
  exact He.DefD.funD (Option.some.inj e2) ((HX.parts c).2.1 d (List.mem_of_getElem? h))
theorem HX.err (c : x.says P K) {h : Heap} {mg : Str → Option Value} (X : K.In h) (G : h.Ns mainGlobals mg) (hsup : mg "super" = none) (i : Nat) {d : XD} (S : XSt P d) (hi : x.xd[i]? = some d := by rfl) : XOk P K mg d.cn (ga K d.cn) d.ps d.fs := by
  have e : x.xd.map (fun d => d.obs K) = x.xd.map XD.val := congrArg (fun z : AlX => z.2.2) c
  have e2 : (x.xd.map fun d => d.obs K)[i]? = (x.xd.map XD.val)[i]? := by rw [e]
  rw [List.getElem?_map, List.getElem?_map, hi] at e2
  exact XD.made X G hsup S (Option.some.inj e2) ((HX.parts c).2.2.1 d (List.mem_of_getElem? hi))
end

/-! ### tables of kinds and of fields -/
def xiB (K : Fg) (C : Addr) : Bool := (clsIn K C).isSome && (eqO (findIn K (.ref C) "__getattribute__") (some (some (.builtin "BaseException.__getattribute__"))) && (eqO (findIn K (.ref C) "__getattr__") (some none) && (decide (subIn K (.ref C) (.type "BaseException") = some true) &&
  (eqO (findIn K (.ref C) "__class__") (some (some (.builtin "object.__class__"))) && (eqO (specialIn K (.builtin "object.__class__") "__get__") (some (some (.builtin "getset_descriptor.__get__"))) && (decide (takesIn K (.builtin "object.__class__") = some true) && (decide (mroIn K C (.type "object") = some true) && hasDictIn K C)))))))
theorem xiB_ok {K : Fg} {C : Addr} (c : xiB K C = true) : XiC K C ∧ XfC K C := by
  obtain ⟨c1, c⟩ := ba c
  obtain ⟨c2, c⟩ := ba c
  obtain ⟨c3, c⟩ := ba c
  obtain ⟨c4, c⟩ := ba c
  obtain ⟨c5, c⟩ := ba c
  obtain ⟨c6, c⟩ := ba c
  obtain ⟨c7, c⟩ := ba c
  obtain ⟨c8, c9⟩ := ba c
  exact ⟨⟨c1, eqO_ok c2, eqO_ok c3, of_decide_eq_true c4, eqO_ok c5, eqO_ok c6, of_decide_eq_true c7, of_decide_eq_true c8⟩, ⟨eqO_ok c2, eqO_ok c3, of_decide_eq_true c4, c9⟩⟩
def oiB (K : Fg) (C : Addr) : Bool := (plainGet K C Str.empty && (hasDictIn K C && (plainOver K C && eqO (findIn K (.ref C) "__setattr__") (some (some (.builtin "object.__setattr__")))))) &&
  (eqO (findIn K (.ref C) "__class__") (some (some (.builtin "object.__class__"))) && (eqO (specialIn K (.builtin "object.__class__") "__get__") (some (some (.builtin "getset_descriptor.__get__"))) && (decide (takesIn K (.builtin "object.__class__") = some true) && decide (mroIn K C (.type "object") = some true))))
theorem oiB_ok {K : Fg} {C : Addr} (c : oiB K C = true) : OiC K C := by
  obtain ⟨c0, c⟩ := ba c
  obtain ⟨d1, c0⟩ := ba c0
  obtain ⟨d2, c0⟩ := ba c0
  obtain ⟨d3, d4⟩ := ba c0
  obtain ⟨c5, c⟩ := ba c
  obtain ⟨c6, c⟩ := ba c
  obtain ⟨c7, c8⟩ := ba c
  exact ⟨⟨d1, d2, d3, eqO_ok d4⟩, eqO_ok c5, eqO_ok c6, of_decide_eq_true c7, of_decide_eq_true c8⟩
/-- names by tables: classes (an error's or not), fields -/
def tbl (cs : List (Str × Bool)) (fs ms : List Str) : Tb := ⟨fun c => (cs[c]?.map (·.1)).getD "", fun f => fs[f]?.getD "", fun c => (cs[c]?.map (·.2)).getD true, fun g => ms[g]?.getD "", []⟩
/-- the kinds' table: rows k, columns j -/
def isaT (t : List (Nat × List (Nat × Bool))) (k j : Nat) : Option Bool := (t.lookup k).bind fun r => r.lookup j
def fldT (t : List (Nat × List Nat)) (c f : Nat) : Bool := ((t.lookup c).map fun r => r.contains f).getD false
def ckT (T : Tb) (n : Nat) (isa : List (Nat × List (Nat × Bool))) (fld : List (Nat × List Nat)) (K : Fg) : Bool :=
  ((List.range n).all fun c => if T.ix c then xiB K (cl K T c) else oiB K (cl K T c)) && ((isa.all fun r => decide (r.1 < 20 + n) && r.2.all fun q => decide (kitOne K (kindV K T r.1) (kindV K T q.1) = some q.2)) && fld.all fun r => decide (r.1 < n) && r.2.all fun f => eqO (findIn K (.ref (cl K T r.1)) (T.fn f)) (some none))
theorem lookup_mem {α β : Type} [BEq α] [LawfulBEq α] {k : α} {b : β} : ∀ {l : List (α × β)}, l.lookup k = some b → (k, b) ∈ l
  | [], h => by cases h
  | (a, c) :: r, h => by
    rw [List.lookup_cons] at h
    by_cases e : k = a
    · subst e
      simp only [beq_self_eq_true] at h
      cases h
      exact List.mem_cons_self
    · have : (k == a) = false := by simpa using e
      rw [this] at h
      exact List.mem_cons_of_mem _ (lookup_mem h)
theorem ckT_cls {T : Tb} {n : Nat} {isa : List (Nat × List (Nat × Bool))} {fld : List (Nat × List Nat)} {K : Fg} (c : ckT T n isa fld K = true) {i : Nat} (hi : i < n) : (T.ix i = true → XiC K (cl K T i) ∧ XfC K (cl K T i)) ∧ (T.ix i = false → OiC K (cl K T i)) := by
  have h := List.all_eq_true.mp (ba c).1 i (List.mem_range.mpr hi)
  refine ⟨fun e => ?_, fun e => ?_⟩
  · rw [if_pos e] at h
    exact xiB_ok h
  · rw [if_neg (by rw [e]; decide)] at h
    exact oiB_ok h
theorem ckT_isF {T : Tb} {n : Nat} {isa : List (Nat × List (Nat × Bool))} {fld : List (Nat × List Nat)} {K : Fg} {C : CE} (c : ckT T n isa fld K = true) (hC : C.isa = isaT isa) : IsF K T C := by
  have row : ∀ k j b, C.isa k j = some b → k < 20 + n ∧ kitOne K (kindV K T k) (kindV K T j) = some b := fun k j b h => by
    rw [hC] at h
    obtain ⟨r, h1, h2⟩ := Option.bind_eq_some_iff.mp (show (isa.lookup k).bind (fun r => r.lookup j) = some b from h)
    have g := List.all_eq_true.mp (ba (ba c).2).1 _ (lookup_mem h1)
    obtain ⟨g1, g2⟩ := ba g
    exact ⟨of_decide_eq_true g1, of_decide_eq_true (List.all_eq_true.mp g2 _ (lookup_mem h2))⟩
  exact ⟨fun k j b h => (row k j b h).2, fun i j b h e => ((ckT_cls c (by have := (row _ _ _ h).1; omega)).1 e).1, fun i j b h e => (ckT_cls c (by have := (row _ _ _ h).1; omega)).2 e⟩
theorem fn_inj {cs : List (Str × Bool)} {fs ms : List Str} (nd : fs.Nodup) (ne : ("" : Str) ∉ fs) {f : Nat} (hf : f < fs.length) (g : Nat) (h : (tbl cs fs ms).fn g = (tbl cs fs ms).fn f) : g = f := by
  have h' : (fs[g]?.getD "") = (fs[f]?.getD "") := h
  rw [List.getElem?_eq_getElem hf] at h'
  have hm : fs[f] ∈ fs := List.getElem_mem hf
  by_cases c : g < fs.length
  · rw [List.getElem?_eq_getElem c] at h'
    exact (List.getElem_inj nd).mp h'
  · rw [List.getElem?_eq_none (Nat.le_of_not_lt c)] at h'
    exact absurd (by
      have h2 : ("" : Str) = fs[f] := h'
      rw [h2]
      exact hm) ne
theorem ckT_at {cs : List (Str × Bool)} {fs ms : List Str} {n : Nat} {isa : List (Nat × List (Nat × Bool))} {fld : List (Nat × List Nat)} {K : Fg} {C : CE} (c : ckT (tbl cs fs ms) n isa fld K = true) (hC : C.fld = fldT fld) (nd : fs.Nodup) (ne : ("" : Str) ∉ fs) {f : Nat} (hf : f < fs.length) (i : Nat) (h : C.fld i f = true) : AtOk K (tbl cs fs ms) i f := by
  rw [hC] at h
  have h' : ((fld.lookup i).map fun r => r.contains f).getD false = true := h
  cases e : fld.lookup i with
  | none =>
    rw [e] at h'
    cases h'
  | some r =>
    rw [e] at h'
    have g := List.all_eq_true.mp (ba (ba c).2).2 _ (lookup_mem e)
    obtain ⟨g1, g2⟩ := ba g
    have k := ckT_cls c (of_decide_eq_true g1)
    exact ⟨eqO_ok (List.all_eq_true.mp g2 f (List.contains_iff_mem.mp h')), fn_inj nd ne hf, fun z => (k.1 z).2, fun z => (k.2 z).cl⟩
theorem tabs_only {T : Tb} {H : Hp} (hT : T.tabs = []) : LamX.Tabs T.tabs H := fun p hp => by
  rw [hT] at hp
  cases hp
theorem only_nt {H : Hp} (h : Only H) (a : Addr) (ps : Array Value) : H a ≠ some (.tbl ps) := fun e => by
  rcases h a with z | ⟨o, xs, z⟩
  · rw [z] at e
    cases e
  · rw [z] at e
    cases e
end At

/-! Chains, signs, texts, the module's constants. -/
namespace At
open PySem L2 Evl
open PySem.Calls PyProof.Rows
section
variable {X : Cx} {T : Tb} {C : CE} {W : WX} {J : Jt} {a b c e : Expr} {a' b' c' e' : E} {es : List Expr} {es' : E} {pos : Pos}
theorem chain_read {op op' : CmpOp} {k k' : Cm} {r r' : R2} (hJ : Mono J) (hs : Sem2 X.K T r (cmpD k)) (hs' : Sem2 X.K T r' (cmpD k')) (σ : L2.St) (H : Hp) (Q : VK) (h : tE X.K T C W J (.chain k k' a' b' c') σ H Q) :
    tChain r r' (tE X.K T C W J a') (tE X.K T C W J b') (tE X.K T C W J c') σ H Q := by
  obtain ⟨π, B, m, ρ, bb, w⟩ := h
  rw [ev] at w
  refine tE_bnd hJ bb w fun x H1 π1 B1 m1 u1 s1 b1 r1 w1 => tE_bnd hJ b1 w1 fun y H2 π2 B2 m2 u2 s2 b2 r2 w2 => ?_
  cases e1 : see m2 u1 with
  | none =>
    rw [e1] at w2
    exact w2.elim
  | some d1 =>
    rw [e1] at w2
    cases e2 : see m2 u2 with
    | none =>
      rw [e2] at w2
      exact w2.elim
    | some d2 =>
      rw [e2] at w2
      dsimp only at w2
      cases e3 : cmp2 k d1 d2 with
      | none =>
        rw [e3] at w2
        exact w2.elim
      | some t =>
        rw [e3] at w2
        refine hs B2 H2 x y d1 d2 (.bl t) _ b2.st.ex (see_ok b2.st (s2.ru r1) e1) (see_ok b2.st r2 e2) (by unfold cmpD; rw [e3]; rfl) fun v H3 B3 nw rv => ?_
        cases rv
        have s3 := nw.step b2.st
        have b3 := b2.step hJ s3
        cases t with
        | false => exact ⟨false, rfl, w2 _ H3 π2 B3 s3 (.bl false)⟩
        | true =>
          refine ⟨true, rfl, ?_⟩
          rw [if_pos rfl]
          refine tE_bnd hJ b3 (Want.rebase w2 s3) fun z H4 π4 B4 m4 u4 s4 b4 r4 w4 => ?_
          cases e5 : see m4 u2 with
          | none =>
            rw [e5] at w4
            exact w4.elim
          | some d5 =>
            rw [e5] at w4
            cases e4 : see m4 u4 with
            | none =>
              rw [e4] at w4
              exact w4.elim
            | some d4 =>
              rw [e4] at w4
              dsimp only at w4
              cases e6 : cmp2 k' d5 d4 with
              | none =>
                rw [e6] at w4
                exact w4.elim
              | some t =>
                rw [e6] at w4
                refine hs' B4 H4 y z d5 d4 (.bl t) Q b4.st.ex (see_ok b4.st ((s3.trans s4).ru r2) e5) (see_ok b4.st r4 e4) (by unfold cmpD; rw [e6]; rfl) fun v H5 B5 nw5 rv => ?_
                exact w4 v H5 π4 B5 (nw5.step b4.st) rv
theorem pd_chain {op op' : CmpOp} {k k' : Cm} (hk : Cmp X T op k) (hk' : Cmp X T op' k') (hJ : Mono J) (ha : PD X T C W J a a') (hb : PD X T C W J b b') (hc : PD X T C W J c c') (hm : lastMarks [op, op'] [b, c] = false := by rfl) : PD X T C W J (.Compare a [op, op'] [b, c] pos) (.chain k k' a' b' c') := by
  obtain ⟨r, h1, h2⟩ := hk
  obtain ⟨r', h1', h2'⟩ := hk'
  exact PE.weak (pe_chain h1 h1' ha hb hc (hm := hm)) fun σ H Q h => chain_read (op := op) (op' := op') hJ h2 h2' σ H Q h
theorem pt_chain' {op op' : CmpOp} {k k' : Cm} (hk : Cmp X T op k) (hk' : Cmp X T op' k') (hJ : Mono J) (ha : PD X T C W J a a') (hb : PD X T C W J b b') (hc : PD X T C W J c c') (hm : lastMarks [op, op'] [b, c] = false := by rfl) : PDt X T C W J (.Compare a [op, op'] [b, c] pos) (.chain k k' a' b' c') := by
  obtain ⟨r, h1, h2⟩ := hk
  obtain ⟨r', h1', h2'⟩ := hk'
  exact PT.weak (pt_chain h1 h1' ha hb hc (hm := hm)) fun σ H Q h => chain_read (op := op) (op' := op') hJ h2 h2' σ H _ h
theorem sem_neg {K : Fg} : Sem1 K T (rU fun i => .int (-i)) (un1 .neg) := by
  intro B H x d1 d Q e r1 hf k
  cases r1 with
  | int i =>
    cases hf
    exact ⟨i, rfl, k _ _ _ (New.refl e) (.int _)⟩
  | _ => cases hf
theorem pd_neg (hJ : Mono J) (ha : PD X T C W J a a') : PD X T C W J (.UnaryOp .USub a pos) (.un .neg a') :=
  PE.weak (pe_un un_neg ha) (pd_one (t := tUn (rU fun i => .int (-i))) hJ (fun _ _ _ _ h => h) sem_neg fun ρ m => ev_un C .neg a' ρ m)
theorem rps_rev {K : Fg} {B : Hp} : ∀ {vs : List V} {ds : List D}, Rps K T B vs ds → Rps K T B vs.reverse ds.reverse
  | _, _, .nil => .nil
  | _, _, .cons r q => by
    rw [List.reverse_cons, List.reverse_cons]
    exact (rps_rev q).app (.cons r .nil)
theorem sem_rev {K : Fg} : Sem1 K T (fun x H1 Q => ∃ a xs, x = .ref a ∧ SqL K H1 a xs ∧ ∀ p, H1 p = none → Q (.ref p) (upd H1 p (.lst xs.reverse))) revD := by
  intro B H x d1 d Q e r1 hf k
  cases r1 with
  | @lst a xs ds h z r =>
    cases hf
    refine ⟨a, xs, rfl, SqL.of h, fun p hp => ?_⟩
    have nw := New.one (T := T) e (p := p) (o := .lst xs.reverse) hp
    exact k _ _ _ nw (.lst upd_same (by rw [List.length_reverse]; exact z) ((rps_rev r).mono nw.ex))
  | _ => cases hf
theorem ev_rev (C : CE) (a : E) (ρ : Ro) (m : Mu) : ev C (.rev a) ρ m = (ev C a ρ m).bnd fun x m => match see m x with
    | some d => Res ((revD d).map U.v) m
    | none => .no := by rw [ev] <;> rfl
theorem pd_rev {k : Nat} {p1 p2 p3 : Pos} (hJ : Mono J) (ha : PD X T C W J e e') : PD X T C W J (.Subscript e (.Slice none none (some (.UnaryOp .USub (.Constant (.int 1) k p1) p2)) p3) pos) (.rev e') :=
  PE.weak (pe_revL ha) (pd_one (t := fun ta σ H Q => tRevL X.K ta σ H Q) hJ (fun _ _ _ _ h => h) sem_rev fun ρ m => ev_rev C e' ρ m)

/-! ### texts -/
structure PJd (X : Cx) (T : Tb) (C : CE) (W : WX) (J : Jt) (es : List Expr) (e' : E) : Prop where
  to : ∃ ts, PJ X es ts ∧ ∀ (acc : Str) (σ : L2.St) (H : Hp) (π : Nat → Addr) (B : Hp) (m : Mu) (ρ : Ro) (Q : VK), acc.length ≤ lim → PyData.strOk acc = true → Bs X.K T J π B H m σ ρ →
    Want (RU X.K T) X.K T W σ π B H m ((evj C e' acc.cps.toList ρ m).bnd fun l m => .ok (.v (.str l)) m) Q → tJs ts acc σ H fun out H1 => Q (.str out) H1
theorem pj_end : PJd X T C W J [] .nil := ⟨[], .nil, fun acc σ H π B m ρ Q h1 h2 b w => by
  rw [evj] at w
  exact w _ H π B (Step.refl b.st) (.str acc h1 h2)⟩
theorem pj_step (hJ : Mono J) {te : TE} (he : PE X e te) (hd : ∀ σ H (Q : VK), (tE X.K T C W J e' σ H fun x H1 => (∃ y : Str, x = .str y ∧ y.length ≤ lim ∧ Q (.str y) H1)) → te σ H Q) (h : PJd X T C W J es es') : PJd X T C W J (e :: es) (.cons e' es') := by
  obtain ⟨ts, h1, h2⟩ := h.to
  refine ⟨te :: ts, .cons he h1, fun acc σ H π B m ρ Q z1 z2 b w => ?_⟩
  rw [evj] at w
  refine hd σ H _ ?_
  have w' : Want (RU X.K T) X.K T W σ π B H m ((ev C e' ρ m).bnd fun u m => (match u with
    | .v (.str x) => if (acc.cps.toList ++ x).length ≤ lim then evj C es' (acc.cps.toList ++ x) ρ m else .no
    | _ => .no).bnd fun l m => .ok (.v (.str l)) m) Q := by
    cases hr : ev C e' ρ m with
    | ok u m1 =>
      rw [hr] at w
      exact w
    | ex c fs m1 =>
      rw [hr] at w
      exact w
    | no =>
      rw [hr] at w
      exact w
  refine tE_bnd hJ b w' fun v H1 π1 B1 m1 u s1 b1 r1 w1 => ?_
  cases u with
  | p k => exact w1.elim
  | v d =>
    cases d with
    | str x =>
      cases r1 with
      | str y l o =>
        dsimp only at w1
        refine ⟨y, rfl, l, ?_⟩
        by_cases cc : (acc.cps.toList ++ y.cps.toList).length ≤ lim
        · rw [if_pos cc, ← app_list] at w1
          rw [← app_list, len_list] at cc
          refine ⟨y, rfl, lim_size cc, h2 (acc ++ y) σ H1 π1 B1 m1 ρ Q cc ?_ b1 w1⟩
          unfold PyData.strOk
          rw [← Array.all_toList, app_list, List.all_append, strOk_list z2, strOk_list o]
          rfl
        · rw [if_neg cc] at w1
          exact w1.elim
    | _ => exact w1.elim
theorem pj_cst (hJ : Mono J) {x : Str} {l : List Nat} {j p} (h : PJd X T C W J es es') (hl : x.cps.toList = l := by rfl) (hz : (decide (l.length ≤ lim) && l.all (· < 0x110000)) = true := by decide) : PJd X T C W J (.Constant (.str x) j p :: es) (.cons (.cst (.str l)) es') := by
  refine pj_step hJ (pd_str (X := X) (T := T) (C := C) (W := W) (J := J) hl hz) (fun σ H Q q => ?_) h
  obtain ⟨π, B, m, ρ, b, w⟩ := q
  refine ⟨π, B, m, ρ, b, w.imp fun v H1 ⟨y, e1, _, q⟩ => ?_⟩
  rw [e1]
  exact q
theorem pj_fmt (hJ : Mono J) {p : Pos} (he : PD X T C W J e e') (h : PJd X T C W J es es') : PJd X T C W J (.FormattedValue e (-1) none p :: es) (.cons e' es') := by
  refine pj_step hJ (pe_fmt he) (fun σ H Q q => ?_) h
  obtain ⟨π, B, m, ρ, b, w⟩ := q
  exact ⟨π, B, m, ρ, b, w.imp fun v H1 ⟨y, e1, l, q⟩ => .inl ⟨y, e1, lim_size l, q⟩⟩
theorem pd_fst {v1 v2 : Expr} {rest : List Expr} (h : PJd X T C W J (v1 :: v2 :: rest) es') : PD X T C W J (.JoinedStr (v1 :: v2 :: rest) pos) (.fst es') := by
  obtain ⟨ts, h1, h2⟩ := h.to
  refine PE.weak (pe_joined h1) fun σ H Q q => ?_
  obtain ⟨π, B, m, ρ, b, w⟩ := q
  rw [ev] at w
  exact h2 Str.empty σ H π B m ρ Q (by decide) (by decide +kernel) b w
theorem texts_ok {K : Fg} {B : Hp} : ∀ {vs : List V} {ds : List D} {ts : List (List Nat)}, Rps K T B vs ds → texts ds = some ts → ∃ ys : List Str, vs = ys.map V.str ∧ ts = ys.map (·.cps.toList) ∧ ∀ y ∈ ys, PyData.strOk y = true
  | _, _, _, .nil, e => by
    cases e
    exact ⟨[], rfl, rfl, fun y hy => by cases hy⟩
  | _, _, _, .cons (d := d) r q, e => by
    cases d with
    | str x =>
      unfold texts at e
      obtain ⟨t, e1, e2⟩ := Option.map_eq_some_iff.mp e
      subst e2
      obtain ⟨ys, h1, h2, h3⟩ := texts_ok q e1
      cases r with
      | str y l o =>
        refine ⟨y :: ys, by rw [h1]; rfl, by rw [h2]; rfl, fun z hz => ?_⟩
        rcases List.mem_cons.mp hz with rfl | hz
        · exact o
        · exact h3 z hz
    | _ => cases e
theorem joinS_eq (t : List Nat) : ∀ ts : List (List Nat), joinS t ts = TL.joinL t ts
  | [] => rfl
  | [_] => rfl
  | x :: y :: r => by
    show x ++ t ++ joinS t (y :: r) = x ++ (t ++ TL.joinL t (y :: r))
    rw [joinS_eq t (y :: r), List.append_assoc]
theorem joinS_len (t : List Nat) : ∀ ts : List (List Nat), (joinS t ts).length ≤ (ts.map List.length).sum + ts.length * t.length
  | [] => Nat.zero_le _
  | [x] => by
    show x.length ≤ _
    simp
  | x :: y :: r => by
    have ih := joinS_len t (y :: r)
    show (x ++ t ++ joinS t (y :: r)).length ≤ _
    rw [List.length_append, List.length_append, List.map_cons, List.sum_cons, List.length_cons, Nat.succ_mul]
    omega
theorem joinS_all (t : List Nat) (ht : t.all (· < 0x110000) = true) : ∀ ts : List (List Nat), (∀ x ∈ ts, x.all (· < 0x110000) = true) → (joinS t ts).all (· < 0x110000) = true
  | [], _ => rfl
  | [x], h => h x List.mem_cons_self
  | x :: y :: r, h => by
    show (x ++ t ++ joinS t (y :: r)).all _ = true
    rw [List.all_append, List.all_append, h x List.mem_cons_self, ht, joinS_all t ht (y :: r) fun z hz => h z (List.mem_cons_of_mem _ hz)]
    rfl
theorem pd_join {apos : Pos} (hJ : Mono J) (ha : PD X T C W J a a') (he : PD X T C W J e e') (hs : starEach [e] X.env = [(false, eval e X.env)] := by rfl) (hbase : attributeBase a "join" X.env (eval a X.env) = eval a X.env := by rfl) (hline : (apos.endLine == pos.line) = true := by rfl) :
    PD X T C W J (.Call (.Attribute a "join" apos) [e] [] pos) (.join a' e') := by
  refine PE.weak (pe_join ha he hs hbase hline) fun σ H Q h => ?_
  obtain ⟨π, B, m, ρ, b, w⟩ := h
  rw [ev] at w
  refine tE_bnd hJ b w fun v H1 π1 B1 m1 u s1 b1 r1 w1 => ?_
  cases u with
  | p k => exact w1.elim
  | v d =>
    cases d with
    | str t =>
      cases r1 with
      | str x l o =>
        refine ⟨⟨x, rfl⟩, ?_⟩
        dsimp only at w1
        refine tE_bnd hJ b1 w1 fun v2 H2 π2 B2 m2 u2 s2 b2 r2 w2 => ?_
        cases hs2 : see m2 u2 with
        | none =>
          rw [hs2] at w2
          exact w2.elim
        | some d2 =>
          rw [hs2] at w2
          dsimp only at w2
          cases d2 with
          | lst ds =>
            have rq := see_ok b2.st r2 hs2
            cases rq with
            | @lst p xs _ hH hz rs =>
              cases ht : texts ds with
              | none =>
                have ej : joinD x.cps.toList (.lst ds) = none := by
                  show (texts ds).bind _ = none
                  rw [ht]
                  rfl
                rw [ej] at w2
                exact w2.elim
              | some ts =>
                have ej : joinD x.cps.toList (.lst ds) = if (ts.map List.length).sum + ts.length * x.cps.toList.length ≤ lim then some (.str (joinS x.cps.toList ts)) else none := by
                  show (texts ds).bind _ = _
                  rw [ht]
                  rfl
                rw [ej] at w2
                by_cases c : (ts.map List.length).sum + ts.length * x.cps.toList.length ≤ lim
                · rw [if_pos c] at w2
                  obtain ⟨ys, e1, e2, e3⟩ := texts_ok rs ht
                  subst e1 e2
                  refine ⟨x, p, ys, rfl, rfl, .inl (SqL.of hH), ?_, ?_⟩
                  · rw [List.map_map, List.length_map, len_list] at c
                    have : (List.length ∘ fun y : Str => y.cps.toList) = fun y : Str => y.length := funext fun y => len_list y
                    rw [this] at c
                    exact Nat.le_trans c (by decide)
                  · refine w2 _ H2 π2 B2 (Step.refl b2.st) (Rp.text ?_ (Nat.le_trans (joinS_len _ _) c) (joinS_all _ (strOk_list o) _ fun z hz => ?_))
                    · rw [TL.join_eq, joinS_eq]
                      exact TL.tl_join x ys
                    · obtain ⟨y, hy, rfl⟩ := List.mem_map.mp hz
                      exact strOk_list (e3 y hy)
                · rw [if_neg c] at w2
                  exact w2.elim
          | _ => exact w2.elim
    | _ => exact w1.elim

/-! ### the module's constants -/
theorem pd_gint {x : Str} {i : Int} {t : Tok} {p : Pos} (hg : Gl X x) (hm : X.mg x = some (.int i t)) (hd : (x == ("__debug__" : Str)) = false := by decide) : PD X T C W J (.Name x p) (.cst (.int i)) := pd_cst (pe_glob (v := .int i) hg hm ⟨t, rfl⟩ hd) fun _ => .int i
theorem pd_gstr {x y : Str} {l : List Nat} {t : Tok} {p : Pos} (hg : Gl X x) (hm : X.mg x = some (.str y t)) (hl : y.cps.toList = l := by rfl) (hz : (decide (l.length ≤ lim) && l.all (· < 0x110000)) = true := by decide) (hd : (x == ("__debug__" : Str)) = false := by decide) : PD X T C W J (.Name x p) (.cst (.str l)) := by
  subst hl
  obtain ⟨h1, h2⟩ := Bool.and_eq_true_iff.mp hz
  exact pd_cst (pe_glob (v := .str y) hg hm ⟨t, rfl⟩ hd) fun _ => Rp.text rfl (of_decide_eq_true h1) h2
theorem pd_gtup {x : Str} {q : Addr} {vs : List V} {ds : List D} {p : Pos} (hg : Gl X x) (hm : X.mg x = some (.ref q)) (ht : ∀ H, SqT X.K H q vs) (hr : ∀ B, Rps X.K T B vs ds) (hz : vs.length ≤ lim) (hd : (x == ("__debug__" : Str)) = false := by decide) : PD X T C W J (.Name x p) (.cst (.tup ds)) :=
  pd_cst (pe_glob (v := .ref q) hg hm rfl hd) fun B => .tup (ht B) hz (hr B)
end
end At

/-! raise, pop, fields, new objects, methods. -/
namespace At
open PySem L2 Evl
open PySem.W PySem.Calls PyProof.Rows
section
variable {X : Cx} {T : Tb} {C : CE} {W : WX} {J : Jt} {a b c e : Expr} {a' b' c' e' : E} {es : List Expr} {es' : E} {pos : Pos}
/-! ### raise -/
/-- an error that is made to be raised -/
def tXRaise (D : Addr) (ps fs : List Str) (t : TA) : L2.St → Hp → XK → Prop := fun σ H Q => t σ H fun vs H1 => vs.length = ps.length ∧ fs ≠ [] ∧ ∀ d, H1 d = none → Q (.ref D) (some d) (upd H1 d (.xd (fs.zip vs)))
theorem pmk_x {k : Nat} {x : Str} {D : Addr} {ps fs : List Str} {t : TA} {p : Pos} (Z : XOk X.prog X.K X.mg x D ps fs) (hr : Room k X.A) (hg : Gl X x) (ha : PA X (e :: es) t)
    (hdb : (x == ("__debug__" : Str)) = false := by decide) (he : starEach (e :: es) X.env = (false, eval e X.env) :: starEach es X.env := by rfl) (hpl : (backTo pos (starEach es X.env)).any (·.1) = false := by rfl) :
    PMk X (.Call (.Name x p) (e :: es) [] pos) (tXRaise D ps fs t) := by
  intro pins s σ H Q I h
  refine wpAny_Call_Name_kw (ld_glob I hg Z.gC ?_ hdb)
  refine PySem.W.callWith_K (h₀ := X.base) I.ok.mod.kin Z.kC (thn (ha.run pos pins s σ H _ I h) fun us s1 ⟨vs, H1, I1, r, q⟩ => ⟨I1.kIn, ?_⟩) he hpl
  obtain ⟨q1, q2, q3⟩ := q
  refine xmake_run Z hr I1 r q1 fun h' tk x d hx k ⟨t1, ho⟩ hd hn => ?_
  have hnx : H1 x = none := I1.hok.fresh (Nat.le_of_lt hx)
  cases d with
  | none => exact absurd (hn.mp rfl) q2
  | some dx =>
    obtain ⟨g1, g2, mA, g3, g4⟩ := hd dx rfl
    obtain ⟨hp, g, dr, tk0, os⟩ := s1
    obtain ⟨G', r1, r2⟩ := restrict h' fun b => decide (b ≠ x)
    have gk : ∀ b, b ≠ x → G'.get? b = h'.get? b := fun b hb => r1 b (decide_eq_true hb)
    have gx : G'.get? x = none := r2 x (by simp)
    have old : ∀ b o, hp.get? b = some o → G'.get? b = some o := fun b o z => by
      have lt : b < hp.objs.size := Heap.lt_size z
      have lt2 : hp.objs.size < x := hx
      rw [gk b (Nat.ne_of_lt (Nat.lt_trans lt lt2))]
      exact k b o z
    have okd : ObjOk X.prog X.w (upd H1 dx (.xd (fs.zip vs))) G' dx (.xd (fs.zip vs)) := ⟨mA, g3.at (fun o z => (gk dx g2).trans z), g4⟩
    have I2 : Inv X pins σ (upd H1 dx (.xd (fs.zip vs))) ⟨G', g, dr, tk, os⟩ := I1.laid (t' := tk) old g1 okd
    refine ⟨x, _, _, ⟨G', g, dr, tk, os⟩, _, .ref D, some dx, rfl, I2, fun b o z => ?_, gx, ho, ⟨rfl, rfl⟩, rfl, rfl, ?_, rfl, I1.bare, raises_own Z.exC Z.tyC, q3 dx (I1.hok.fresh g1)⟩
    · by_cases hb : b = x
      · have z' : G'.get? b = some o := z
        rw [hb, gx] at z'
        cases z'
      · exact (gk b hb).symm.trans z
    · rw [upd_ne (Ne.symm g2)]
      exact hnx
theorem sd_rai {k i : Nat} {fl : List Nat} {x : Str} {ps fs : List Str} {p p2 : Pos} (hc : X.calm = true) (tk : Takes X W) (Z : XOk X.prog X.K X.mg x (cl X.K T i) ps fs) (hne : fs ≠ []) (hf : fl.map T.fn = fs) (hmk : C.mkr i = xmk i fl) (hr : Room k X.A) (hg : Gl X x) (ha : PDs X T C W J0 (e :: es) es')
    (hdb : (x == ("__debug__" : Str)) = false := by decide) (he : starEach (e :: es) X.env = (false, eval e X.env) :: starEach es X.env := by rfl) (hpl : (backTo pos (starEach es X.env)).any (·.1) = false := by rfl) :
    PSd X T C W (.Raise (some (.Call (.Name x p) (e :: es) [] pos)) none p2) (.rai i es') := by
  refine PS.weak (ps_raise hc tk (pmk_x Z hr hg ha hdb he hpl)) fun D σ H h => ?_
  obtain ⟨π, B, m, ρ, b, w⟩ := h
  rw [xs] at w
  refine ⟨π, B, m, ρ, b, w.out b.sl fun vs H1 π1 B1 m1 us s1 r1 w1 => ?_⟩
  cases e1 : plainU us with
  | none =>
    rw [e1] at w1
    exact w1.elim
  | some ds =>
    rw [e1] at w1
    dsimp only at w1
    rw [hmk] at w1
    unfold xmk at w1
    have rs := plainU_ok r1 e1
    by_cases cc : ds.length = fl.length
    · rw [if_pos cc] at w1
      refine ⟨by rw [rs.len, cc, Z.lens, ← hf, List.length_map], hne, fun d hd => ?_⟩
      have nw := New.one (T := T) s1.st.ex (p := d) (o := .xd (fs.zip vs)) hd
      have s2 := nw.step s1.st
      refine w1 σ d (fs.zip vs) _ π1 _ s2 ((b.sl.step s1).step s2) upd_same ?_
      subst hf
      exact rpf_zip (rs.mono nw.ex)
    · rw [if_neg cc] at w1
      exact w1.elim

/-! ### pop(0) -/
theorem pd_pop0 {j : Nat} {p1 apos cpos : Pos} (hJ : Mono J) (ha : PD X T C W J a a') (hbase : attributeBase a "pop" X.env (eval a X.env) = eval a X.env := by rfl)
    (hfew : ((backTo cpos (starEach [.Constant (.int 0) j p1] X.env)).all (fun x => !x.1) && (backToKw cpos (keywordEach [] X.env)).all (fun x => x.1.isSome)
      && decide ([Expr.Constant (.int 0) j p1].length + ([] : List Keyword).length + (if ([] : List Keyword).isEmpty then 0 else 1) < 30)) = true := by rfl)
    (hline : (apos.endLine == cpos.line) = true := by rfl) (hs : starEach [.Constant (.int 0) j p1] X.env = (false, eval (.Constant (.int 0) j p1) X.env) :: starEach [] X.env := by rfl) :
    PD X T C W J (.Call (.Attribute a "pop" apos) [.Constant (.int 0) j p1] [] cpos) (.pop0 a') := by
  refine PE.weak (pe_bm PySem.F.plainAttrs_list PySem.F.slot_list_pop PySem.F.type_list_pop mt_popAt ha (pa_cons pe_int pa_nil hs) hbase hfew hline hs) fun σ H Q h => ?_
  obtain ⟨π, B, m, ρ, bb, w⟩ := h
  rw [ev] at w
  refine tE_bnd hJ bb w fun v H1 π1 B1 m1 u s1 b1 r1 w1 => ?_
  obtain ⟨k, hk, hu, us1, hm1⟩ : ∃ k, lstAt m1 u = some k ∧ u = .p k ∧ ∃ us, m1[k]? = some (.lst us) := by
    cases hl : lstAt m1 u with
    | none =>
      rw [hl] at w1
      exact w1.elim
    | some k => exact ⟨k, rfl, lstAt_ok hl⟩
  rw [hk] at w1
  subst hu
  obtain ⟨hk1, rfl⟩ := r1
  dsimp only at w1
  rw [hm1] at w1
  dsimp only at w1
  obtain ⟨h1, xs1, g1, g2, g3⟩ := b1.st.cell k _ hm1
  refine ⟨.inl ⟨rfl, xs1, SqL.of g1⟩, ?_⟩
  cases g3 with
  | nil => exact w1.elim
  | @cons y u ys us ry rs =>
    dsimp only at w1
    refine ⟨π1 k, y :: ys, 0, 0, y, rfl, rfl, g1, by decide, by decide, by simp [seqIndex?], rfl, ?_⟩
    have ln : (m1.set k (.lst us)).length = m1.length := List.length_set
    refine w1 y _ π1 B1 (Step.put b1.st hk1 h1 g1 (fun _ z => nomatch z) (fun _ z => nomatch z) (fun _ z => nomatch z) (fun _ z => nomatch z) ⟨h1, ys, upd_same, ?_, ?_⟩) ?_
    · have : (y :: ys).length ≤ lim := g2
      rw [List.length_cons] at this
      omega
    · rw [ln]
      exact rs
    · show Ru X.K T (m1.set k (.lst us)).length π1 B1 y u
      rw [ln]
      exact ry
/-! ### fields -/
theorem ruf_put {K : Fg} {n f : Nat} {π : Nat → Addr} {B : Hp} {y : V} {w : U} (inj : ∀ g, T.fn g = T.fn f → g = f) (r : Ru K T n π B y w) : ∀ {fv : List (Str × V)} {fs : List (Nat × U)}, Ruf K T n π B fv fs → Ruf K T n π B (L2.putF (T.fn f) y fv) (At.putF fs f w)
  | _, _, .nil => .cons ⟨rfl, r⟩ .nil
  | _, _, .cons (a := ⟨x, v⟩) (b := ⟨g, u⟩) h q => by
    obtain ⟨h1, h2⟩ := h
    dsimp only at h1 h2
    subst h1
    unfold L2.putF At.putF
    by_cases c : g = f
    · subst c
      rw [if_pos rfl, if_pos rfl]
      exact .cons ⟨rfl, r⟩ q
    · have c' : T.fn g ≠ T.fn f := fun z => c (inj g z)
      rw [if_neg c', if_neg c]
      exact .cons ⟨rfl, h2⟩ (ruf_put inj r q)
theorem sd_setF {f : Nat} {n : Str} {p2 : Pos} (hA : ∀ c, C.fld c f = true → AtOk X.K T c f) (ha : PD X T C W J0 a a') (he : PD X T C W J0 e e') (hn : T.fn f = n := by rfl) (hs : swapsWith e (some (.Attribute a n p2)) pos.line X.env = pure false := by rfl) :
    PSd X T C W (.Assign [.Attribute a n p2] e pos) (.setF a' f e') := by
  subst hn
  refine PS.weak (ps_fld ha he hs) fun D σ H h => ?_
  obtain ⟨π, B, m, ρ, b, w⟩ := h
  rw [xs] at w
  refine tE_out b w fun y H1 π1 B1 m1 uy s1 b1 r1 w1 => tE_out b1 w1 fun x H2 π2 B2 m2 ux s2 b2 r2 w2 => ?_
  cases ux with
  | v d => exact w2.elim
  | p k =>
    obtain ⟨hk, rfl⟩ := r2
    dsimp only at w2
    cases hm : m2[k]? with
    | none =>
      rw [hm] at w2
      exact w2.elim
    | some z =>
      rw [hm] at w2
      cases z with
      | obj c fs =>
        dsimp only at w2
        by_cases cc : C.fld c f = true ∧ fs.length < 100
        · rw [if_pos cc] at w2
          obtain ⟨g1, gi, dx, fv, g2, g3, g4⟩ := b2.st.cell k _ hm
          have A := hA c cc.1
          have hl : fv.length = fs.length := Paired.length g4
          have hdx : dx ≠ π2 k := fun z => by
            rw [z, g2] at g3
            cases g3
          have ln : (m2.set k (.obj c (At.putF fs f uy))).length = m2.length := List.length_set
          refine ⟨π2 k, cl X.K T c, dx, fv, rfl, g2, A.ic gi, A.no, by rw [hl]; omega, ?_⟩
          refine w2 σ _ π2 B2 (Step.put b2.st hk g1 g2 (fun _ z => nomatch z) (fun _ z => nomatch z) (fun _ z => nomatch z) (fun _ z => nomatch z) ⟨g1, gi, dx, _, upd_same, by rw [upd_ne hdx]; exact g3, ?_⟩) ?_
          · rw [ln]
            exact ruf_put A.inj (s2.ru r1) g4
          · rw [ln]
            exact b2.sl
        · rw [if_neg cc] at w2
          exact w2.elim
      | _ => exact w2.elim

/-! ### new objects -/
theorem run_makeS {CX : CXT} {k : Nat} {f D : Addr} {fd : FuncData} {ps : List Str} {sp : Sp} {E : XK} {pins : List (Addr × Obj)} {σ : L2.St} {H : Hp} {s : Shared} {Q : VK} {us : List Value} {vs : List V} (M : Mk X.K D f) (F : FnOk X.prog X.w X.K X.mg X.base CX k f fd ps sp) (hr : Room (k + 1) X.A) (hb : Binds X.K fd ps [])
    (hx : PassesAt CX X σ E) (I : Inv X pins σ H s) (r : Vals vs us)
    (h : ∀ x dx, H x = none → H dx = none → dx ≠ x → sp (.ref x :: vs) (upd (upd H dx (.own x)) x (.ins D dx [])) (fun v H2 => v = .non ∧ Q (.ref x) H2) E) :
    wpAny (model X.prog X.w) X.A (call (.ref D) us) (EP X pins σ Q) X.xe s := by
  have q0 := h (s.heap.objs.size + 1) s.heap.objs.size (I.hok.fresh (Nat.le_succ _)) (I.hok.fresh (Nat.le_refl _)) (Nat.ne_of_lt (Nat.lt_succ_self _))
  have J2 := Inv.made (C := D) I
  have rr : Vals (V.ref (s.heap.objs.size + 1) :: vs) (Value.ref (s.heap.objs.size + 1) :: us) := .cons rfl r
  have ll : (Value.ref (s.heap.objs.size + 1) :: us).length = ps.length := by
    rw [← rr.length]
    exact F.len _ _ _ _ q0
  have bb := hb { s with heap := (s.heap.push PySem.W.emptyDict).push (PySem.W.instObj D s.heap.objs.size) } (Value.ref (s.heap.objs.size + 1) :: us) J2.kIn (by rw [List.append_nil]; exact ll)
  rw [List.append_nil] at bb
  refine wpAny_call (make_map (f := f) I.kIn M.makes M.init (beq_iff_eq.mp M.fn) (codeAny_mono (F.run _ X.stack _ _ ⟨Value.ref (s.heap.objs.size + 1) :: us, []⟩ (Value.ref (s.heap.objs.size + 1) :: us) _ _ E (hr.make D us []) (J2.env0.make D us []) bb rr q0) fun r s' hq' => ?_))
  cases r with
  | error e => exact hx pins _ _ e s' J2 hq'
  | ok fl =>
    cases fl with
    | ret u =>
      obtain ⟨v, H', I3, rv, ev, q3⟩ := J2.after hq'
      subst ev
      exact ⟨rv, ⟨V.ref (s.heap.objs.size + 1), H', I3, rfl, q3⟩⟩
    | next => exact False.elim hq'
    | brk => exact False.elim hq'
    | cont => exact False.elim hq'
/-- a class of one's own: its name, its __init__ -/
structure MkOk (P : Program) (w : World) (K : Fg) (mg : Str → Option Value) (base : Heap) (T : Tb) (k : Nat) (x : Str) (i : Nat) (F : List U → Mu → R U) : Prop where
  ix : T.ix i = false
  gl : mg x = some (.ref (cl K T i))
  to : ∃ (f : Addr) (fd : FuncData) (ps : List Str), Mk K (cl K T i) f ∧ Binds K fd ps [] ∧ FnOk P w K mg base (L2.CX P w) k f fd ps (spM K T F)
theorem make_read {k i : Nat} {x : Str} {F : List U → Mu → R U} {σ : L2.St} {H : Hp} {π : Nat → Addr} {B : Hp} {m : Mu} {us : List U} {vs : List V} {Q : VK} (hix : T.ix i = false) (hmk : C.mkr i = mkP F i)
    (st : Sto X.K T π B H m) (r : Rus X.K T m.length π B vs us) (w : Want (RU X.K T) X.K T W σ π B H m (match plainU us with | some ds => fromP m (C.mkr i ds) | none => .no) Q) (x dx : Addr) (hx : H x = none) (hdx : H dx = none) (ne : dx ≠ x) :
    spM X.K T F (.ref x :: vs) (upd (upd H dx (.own x)) x (.ins (cl X.K T i) dx [])) (fun v H2 => v = .non ∧ Q (.ref x) H2) (WE W σ) := by
  cases e : plainU us with
  | none =>
    rw [e] at w
    exact w.elim
  | some ds =>
    rw [e] at w
    dsimp only at w
    rw [hmk] at w
    unfold mkP at w
    have up : ∀ a o, H a = some o → upd (upd H dx (.own x)) x (.ins (cl X.K T i) dx []) a = some o := fun a o h => by
      rw [upd_ne (ne_of_none h hx), upd_ne (ne_of_none h hdx)]
      exact h
    have st1 : Sto X.K T (fun _ => x) B (upd (upd H dx (.own x)) x (.ins (cl X.K T i) dx [])) [.obj i []] := by
      refine ⟨fun a o h => up a o (st.ex a o h), fun p q hp hq _ => ?_, fun p hp => ⟨_, upd_same, (fun _ z => nomatch z), (fun _ z => nomatch z)⟩, fun p z h => ?_, st.tb.ext up, st.nt⟩
      · have h1 : p < 1 := hp
        have h2 : q < 1 := hq
        omega
      · have h1 : p < 1 := (List.getElem?_eq_some_iff.mp h).1
        have h0 : p = 0 := by omega
        subst h0
        cases h
        exact ⟨fresh_back st.ex hx, hix, dx, [], upd_same, by rw [upd_ne ne]; exact upd_same, .nil⟩
    have nw : ∀ {π2 : Nat → Addr} {B2 H2 : Hp} {m2 : Mu}, Step X.K T (fun _ => x) B (upd (upd H dx (.own x)) x (.ins (cl X.K T i) dx [])) [.obj i []] π2 B2 H2 m2 → New T B H B2 H2 := fun {π2 B2 H2 m2} s => by
      have off : ∀ a o, H a = some o → ∀ k, k < [M.obj i []].length → a ≠ (fun _ => x : Nat → Addr) k := fun a o h _ _ => ne_of_none h hx
      exact ⟨s.ex, fun a o h ht => s.keep a o (up a o h) ht (off a o h), s.st.ex, fun a o h ht ho => s.noab a o (up a o h) ht (off a o h) ho, fun _ => s.st.tb, fun _ => s.st.nt⟩
    refine ⟨fun _ => x, B, [.obj i []], .p 0 :: ds.map U.v, st1, .cons ⟨by show 0 < 1; decide, rfl⟩ (rus_of (plainU_ok r e)), ?_⟩
    cases hf : F (.p 0 :: ds.map U.v) [.obj i []] with
    | no =>
      rw [hf] at w
      exact w.elim
    | ex c fs m' =>
      rw [hf] at w
      exact fun y ys H2 π2 B2 s q1 q2 => w y ys H2 π B2 ((nw s).step st) q1 q2
    | ok u m' =>
      rw [hf] at w
      intro v H2 π2 B2 s rv
      cases u with
      | p k => exact w.elim
      | v d =>
        cases d with
        | non =>
          cases rv
          dsimp only at w
          refine ⟨rfl, ?_⟩
          cases hs : see m' (.p 0) with
          | none =>
            rw [hs] at w
            exact w.elim
          | some d =>
            rw [hs] at w
            cases d with
            | obj c' fs =>
              dsimp only at w
              have hs' : (match m'[0]? with | some x => seeM x | none => none) = some (.obj c' fs) := hs
              cases h0 : m'[0]? with
              | none =>
                rw [h0] at hs'
                cases hs'
              | some z =>
                rw [h0] at hs'
                obtain ⟨B3, s3, r3⟩ := Step.freeze s.st h0 hs'
                have hp0 : π2 0 = x := s.pi 0 (by show 0 < 1; decide)
                rw [hp0] at r3
                exact w (.ref x) H2 π B3 ((nw (s.trans s3)).step st) r3
            | _ => exact w.elim
        | _ => exact w.elim
theorem pd_make {k i : Nat} {x : Str} {F : List U → Mu → R U} {p : Pos} (hJ : Mono J) (tk : Takes X W) (M : MkOk X.prog X.w X.K X.mg X.base T k x i F) (hmk : C.mkr i = mkP F i) (hr : Room (k + 1) X.A) (hg : Gl X x) (ha : PDs X T C W J (e :: es) es')
    (hdb : (x == ("__debug__" : Str)) = false := by decide) (he : starEach (e :: es) X.env = (false, eval e X.env) :: starEach es X.env := by rfl) (hpl : (backTo pos (starEach es X.env)).any (·.1) = false := by rfl) :
    PD X T C W J (.Call (.Name x p) (e :: es) [] pos) (.make i es') := by
  obtain ⟨f, fd, ps, mk, hb, Fo⟩ := M.to
  refine ⟨fun pins s σ H Q I h => ?_⟩
  obtain ⟨π, B, m, ρ, b, w⟩ := h
  rw [ev] at w
  refine wpAny_Call_Name_kw (ld_glob I hg M.gl ?_ hdb)
  refine PySem.W.callWith_K (h₀ := X.base) I.ok.mod.kin mk.kp (thn (ha.run pos pins s σ H (fun vs H1 => ∀ x dx, H1 x = none → H1 dx = none → dx ≠ x → spM X.K T F (.ref x :: vs) (upd (upd H1 dx (.own x)) x (.ins (cl X.K T i) dx [])) (fun v H2 => v = .non ∧ Q (.ref x) H2) (WE W σ)) I
    (tEs_bnd hJ b w fun vs H1 π1 B1 m1 us s1 b1 r1 w1 => fun x dx h1 h2 h3 => make_read (k := k) (x := "") M.ix hmk b1.st r1 w1 x dx h1 h2 h3)) fun us s1 ⟨vs, H1, I1, r, q⟩ => ⟨I1.kIn, ?_⟩) he hpl
  exact run_makeS mk Fo hr hb (passAt tk σ) I1 r q
end
end At

/-! Methods. -/
namespace At
open PySem L2 Evl
open PySem.W PySem.Calls PyProof.Rows
/-- a method m of the class at c: its def -/
structure MtOk (P : Program) (w : World) (K : Fg) (mg : Str → Option Value) (base : Heap) (T : Tb) (k : Nat) (c : Nat) (m : Str) (F : List U → Mu → R U) : Prop where
  ix : T.ix c = false
  cls : Cls K (cl K T c)
  to : ∃ (f : Addr) (fd : FuncData) (ps : List Str), Meth K (cl K T c) m f ∧ Binds K fd ps [] ∧ FnOk P w K mg base (L2.CX P w) k f fd ps (spM K T F)
theorem rpf_no {K : Fg} {T : Tb} {B : Hp} {m : Str} (h : ∀ i, T.fn i ≠ m) : ∀ {fv : List (Str × V)} {fs : List (Nat × D)}, Rpf K T B fv fs → fv.lookup m = none
  | _, _, .nil => rfl
  | _, _, .cons (f := f) r q => by
    rw [List.lookup_cons]
    have : (m == T.fn f) = false := by
      rw [beq_eq_false_iff_ne]
      exact fun z => h f z.symm
    rw [this]
    exact rpf_no h q
section
variable {X : Cx} {T : Tb} {C : CE} {W : WX} {J : Jt} {a b c e : Expr} {a' b' c' e' : E} {es : List Expr} {es' : E} {pos : Pos}
/-- what the receiver's reading leaves -/
def Recv (X : Cx) (T : Tb) (C : CE) (g : Nat) (t : Addr → Nat → L2.St → Hp → VK → Prop) (σ : L2.St) (v : V) (H1 : Hp) (Q : VK) : Prop :=
  ∃ (p : Addr) (cn : Nat) (f : Nat) (dx : Addr) (fv : List (Str × V)), v = .ref p ∧ T.ix cn = false ∧ C.mt cn g = some f ∧ H1 p = some (.ins (cl X.K T cn) dx fv) ∧ fv.lookup (T.mn g) = none ∧ t p f σ H1 Q
theorem meth_read {g : Nat} (hJ : Mono J) (hmn : ∀ i, T.fn i ≠ T.mn g) (hix : ∀ c f, C.mt c g = some f → T.ix c = false) {σ : L2.St} {H : Hp} {Q : VK} (h : tE X.K T C W J (.meth g a' es') σ H Q) :
    tE X.K T C W J a' σ H fun v H1 => Recv X T C g (fun p f σ H Q => tEs X.K T C W J es' σ H fun vs H2 => spM X.K T (C.fm f) (.ref p :: vs) H2 Q (WE W σ)) σ v H1 Q := by
  obtain ⟨π, B, m, ρ, bb, w⟩ := h
  rw [ev] at w
  refine tE_bnd hJ bb w fun v H1 π1 B1 m1 u s1 b1 r1 w1 => ?_
  cases u with
  | p k => exact w1.elim
  | v d =>
    cases d with
    | obj cn fs =>
      dsimp only at w1
      cases hf : C.mt cn g with
      | none =>
        rw [hf] at w1
        exact w1.elim
      | some f =>
        rw [hf] at w1
        dsimp only at w1
        have hc : ¬ T.ix cn = true := by
          rw [hix cn f hf]
          decide
        · cases r1 with
          | @obj p dx _ fv _ hi h1 h2 rr =>
            refine ⟨p, cn, f, dx, fv, rfl, hi, hf, b1.st.ex _ _ h1, rpf_no hmn rr, tEs_bnd hJ b1 w1 fun vs H2 π2 B2 m2 us s2 b2 r2 w2 => ?_⟩
            have rp : Rp X.K T B2 (.ref p) (.obj cn fs) := Rp.mono s2.ex (.obj hi h1 h2 rr)
            refine call_read (us := .v (.obj cn fs) :: us) b2.st (.cons rp r2) ?_
            have e : (plainU (.v (.obj cn fs) :: us)) = (plainU us).map (D.obj cn fs :: ·) := rfl
            rw [e]
            cases hp : plainU us with
            | none =>
              rw [hp] at w2
              exact w2.elim
            | some ds =>
              rw [hp] at w2
              exact w2
          | exc hi => exact absurd hi hc
          | ex0 hi => exact absurd hi hc
    | _ => exact w1.elim
theorem pd_meth {pl : Sem Bool} {g k : Nat} {m : Str} {apos : Pos} (hJ : Mono J) (tk : Takes X W) (hr : Room k X.A) (hmn : ∀ i, T.fn i ≠ T.mn g) (hM : ∀ c f, C.mt c g = some f → MtOk X.prog X.w X.K X.mg X.base T k c (T.mn g) (C.fm f)) (ha : PD X T C W J a a') (hes : PDs X T C W J (e :: es) es') (hm : T.mn g = m := by rfl)
    (hst : starEach (e :: es) X.env = (false, eval e X.env) :: starEach es X.env := by rfl) (hpl : (backTo pos (starEach es X.env)).any (·.1) = false := by rfl)
    (ht : eval (.Call (.Attribute a m apos) (e :: es) [] pos) X.env = (do
      let ov ← eval a X.env
      standAt apos.atName
      let (f, first) ← holding [ov] (getMethod ov m pl)
      callWith pos f first (backTo pos (starEach (e :: es) X.env)) (backToKw pos (keywordEach [] X.env))) := by rfl) : PD X T C W J (.Call (.Attribute a m apos) (e :: es) [] pos) (.meth g a' es') := by
  subst hm
  refine ⟨fun pins s σ H Q I h => ?_⟩
  refine PySem.W.methodCall_KW (pl := pl) (thn (ha.run pins s σ H _ I (meth_read hJ hmn (fun c f h => (hM c f h).ix) h)) fun u s1 ⟨x, H1, I1, rx, p, cn, f, dx, fv, ex, hi, hf, h1, h2, q⟩ => ?_) ht
  subst ex
  obtain rfl : u = Value.ref p := rx
  have M := hM cn f hf
  obtain ⟨fa, fd, ps, hm, hb, Fo⟩ := M.to
  refine getmeth_ok I1 h1 M.cls hm h2 ?_
  refine PySem.W.callWith_K (first := [.ref p]) (h₀ := X.base) I.ok.mod.kin hm.kp (thn (hes.run pos pins s1 σ H1 _ I1 q) fun us s2 ⟨vs, H2, I2, r, q2⟩ => ⟨I2.kIn, ?_⟩) hst hpl
  refine run_fnSD (E := WE W) (dvs := []) (ds := []) (us := .ref p :: us) (vs := .ref p :: vs) Fo hr hb .nil (passAt tk σ) I2 (.cons rfl r) ?_
  rw [List.append_nil]
  exact q2
theorem pd_meth0 {pl : Sem Bool} {g k : Nat} {m : Str} {apos : Pos} (hJ : Mono J) (tk : Takes X W) (hr : Room k X.A) (hmn : ∀ i, T.fn i ≠ T.mn g) (hM : ∀ c f, C.mt c g = some f → MtOk X.prog X.w X.K X.mg X.base T k c (T.mn g) (C.fm f)) (ha : PD X T C W J a a') (hm : T.mn g = m := by rfl)
    (ht : eval (.Call (.Attribute a m apos) [] [] pos) X.env = (do
      let ov ← eval a X.env
      standAt apos.atName
      let (f, first) ← holding [ov] (getMethod ov m pl)
      callWith pos f first (backTo pos (starEach [] X.env)) (backToKw pos (keywordEach [] X.env))) := by rfl) : PD X T C W J (.Call (.Attribute a m apos) [] [] pos) (.meth g a' .nil) := by
  subst hm
  refine ⟨fun pins s σ H Q I h => ?_⟩
  refine PySem.W.methodCall_KW (pl := pl) (thn (ha.run pins s σ H _ I (meth_read hJ hmn (fun c f h => (hM c f h).ix) h)) fun u s1 ⟨x, H1, I1, rx, p, cn, f, dx, fv, ex, hi, hf, h1, h2, q⟩ => ?_) ht
  subst ex
  obtain rfl : u = Value.ref p := rx
  have M := hM cn f hf
  obtain ⟨fa, fd, ps, hm, hb, Fo⟩ := M.to
  refine getmeth_ok I1 h1 M.cls hm h2 ?_
  obtain ⟨π, B, m, ρ, bb, w⟩ := q
  rw [evs] at w
  refine PySem.W.callWith_K0 (first := [.ref p]) I1.kIn hm.kp ?_
  refine run_fnSD (E := WE W) (dvs := []) (ds := []) (us := [.ref p]) (vs := [.ref p]) Fo hr hb .nil (passAt tk σ) I1 (.cons rfl .nil) ?_
  rw [List.append_nil]
  exact w [] H1 π B (Step.refl bb.st) .nil
end
end At

/-! == by an own __eq__. -/
namespace At
open PySem L2 Evl
open PySem.W PySem.Calls PyProof.Rows
section
variable {X : Cx} {T : Tb} {C : CE} {W : WX} {J : Jt} {a b c e : Expr} {a' b' c' e' : E} {es : List Expr} {es' : E} {pos : Pos}
/-- what is asked of both sides -/
def EqoR (X : Cx) (T : Tb) (C : CE) (g : Nat) (W : WX) (σ : L2.St) (x y : V) (H : Hp) (Q : VK) : Prop :=
  ∃ (p : Addr) (cn f k : Nat) (r : Bool) (dx : Addr) (fv : List (Str × V)), x = .ref p ∧ C.mt cn g = some f ∧ H p = some (.ins (cl X.K T cn) dx fv) ∧ C.isa k (20 + cn) = some r ∧ KtO X H y (kindV X.K T k) ∧ spM X.K T (C.fm f) [x, y] H Q (WE W σ)
theorem eqo_read {g : Nat} (hJ : Mono J) (IF : IsF X.K T C) (hix : ∀ c f, C.mt c g = some f → T.ix c = false) {σ : L2.St} {H : Hp} {Q : VK} (h : tE X.K T C W J (.eqo g a' b') σ H Q) :
    tE X.K T C W J a' σ H fun x H1 => tE X.K T C W J b' σ H1 fun y H2 => EqoR X T C g W σ x y H2 Q := by
  obtain ⟨π, B, m, ρ, bb, w⟩ := h
  rw [ev] at w
  refine tE_bnd hJ bb w fun x H1 π1 B1 m1 u1 s1 b1 r1 w1 => tE_bnd hJ b1 w1 fun y H2 π2 B2 m2 u2 s2 b2 r2 w2 => ?_
  cases u1 with
  | p k => exact w2.elim
  | v d1 =>
    cases d1 with
    | obj cn fs =>
      cases u2 with
      | p k => exact w2.elim
      | v d2 =>
        dsimp only at w2
        cases hf : C.mt cn g with
        | none =>
          rw [hf] at w2
          exact w2.elim
        | some f =>
          rw [hf] at w2
          dsimp only at w2
          cases hk : kindD d2 with
          | none =>
            rw [hk] at w2
            exact w2.elim
          | some k =>
            rw [hk] at w2
            dsimp only at w2
            cases hi : C.isa k (20 + cn) with
            | none =>
              rw [hi] at w2
              exact w2.elim
            | some r =>
              rw [hi] at w2
              have hc := hix cn f hf
              have rp1 : Rp X.K T B2 x (.obj cn fs) := Rp.mono s2.ex r1
              have kt := kt_rq (X := X) hk b2.st.ex (Rp.rq b2.st.ex r2) (fun c z h => IF.xc c (20 + cn) r (z ▸ hi) h) (fun c z h => IF.ic c (20 + cn) r (z ▸ hi) h)
              have sp := call_read (i := f) (us := [.v (.obj cn fs), .v d2]) b2.st (.cons rp1 (.cons r2 .nil)) w2
              cases rp1 with
              | @obj p dx _ fv _ h0 h1 h2 rr => exact ⟨p, cn, f, k, r, dx, fv, rfl, hf, b2.st.ex _ _ h1, hi, kt, sp⟩
              | exc h0 =>
                rw [hc] at h0
                cases h0
              | ex0 h0 =>
                rw [hc] at h0
                cases h0
    | _ => exact w2.elim
theorem eqo_run {g k0 : Nat} (tk : Takes X W) (hr : Room k0 X.A) (hM : ∀ c f, C.mt c g = some f → MtOk X.prog X.w X.K X.mg X.base T k0 c (T.mn g) (C.fm f)) (hg : T.mn g = "__eq__") (nf : ∀ k c r f, C.mt c g = some f → C.isa k (20 + c) = some r → notFirst X.K (cl X.K T c) (kindV X.K T k) = true)
    {pins : List (Addr × Obj)} {s : Shared} {σ : L2.St} {H : Hp} {x y : V} {u v : Value} {Q : VK} (I : Inv X pins σ H s) (rx : RelV x u) (ry : RelV y v) (h : EqoR X T C g W σ x y H Q) : wpAny (model X.prog X.w) X.A (richCompare .Eq u v) (EP X pins σ Q) X.xe s := by
  obtain ⟨p, cn, f, k, r, dx, fv, rfl, hf, h1, hi, kt, sp⟩ := h
  cases (show u = Value.ref p from rx)
  have M := hM cn f hf
  obtain ⟨fa, fd, ps, hm, hb, Fo⟩ := M.to
  rw [hg] at hm
  obtain ⟨mA, O, _⟩ := ins_get I.hok h1
  obtain ⟨od, J1, _⟩ := O.look
  obtain ⟨P, Z, hp, _⟩ := kt pins s σ v I ry
  obtain ⟨m0, hF⟩ := I.fr
  refine cmp_K (op := .Eq) (tb := kindV X.K T k) hr.units0 hF I.ok.mod.kin J1 (Z.ty _ _ I.kIn hp) (nf k cn r f hf hi) hm.at_ hm.fn ?_
  refine wpAny_mono (run_fnSD (E := WE W) (dvs := []) (ds := []) (us := [.ref p, v]) (vs := [.ref p, y]) Fo hr hb .nil (passAt tk σ) I (.cons rfl (.cons ry .nil)) (by rw [List.append_nil]; exact sp)) (fun z s' hz => ?_) fun _ _ q => q
  obtain ⟨zv, H', I', rz, q⟩ := hz
  cases z with
  | notImplemented => cases zv <;> first | exact (nomatch (show Value.notImplemented = _ from rz)) | (obtain ⟨_, q⟩ := rz; cases q)
  | _ => exact ⟨zv, H', I', rz, q⟩
theorem pd_eqo {g k0 : Nat} (hJ : Mono J) (tk : Takes X W) (hr : Room k0 X.A) (IF : IsF X.K T C) (hM : ∀ c f, C.mt c g = some f → MtOk X.prog X.w X.K X.mg X.base T k0 c (T.mn g) (C.fm f)) (hg : T.mn g = "__eq__") (nf : ∀ k c r f, C.mt c g = some f → C.isa k (20 + c) = some r → notFirst X.K (cl X.K T c) (kindV X.K T k) = true)
    (ha : PD X T C W J a a') (hb : PD X T C W J b b') (hm : behindInMarks .Eq b = false := nomark _) : PD X T C W J (.Compare a [.Eq] [b] pos) (.eqo g a' b') := by
  refine ⟨fun pins s σ H Q I h => ?_⟩
  exact wpAny_Compare1 (binT ha hb I (eqo_read hJ IF (fun c f h => (hM c f h).ix) h) fun v u s2 x y H2 I2 rx ry q => eqo_run tk hr hM hg nf I2 rx ry q) hm
end
section
variable {prog : Program} {w : World} {A : Around} {E : Value → Shared → Prop} {s : Shared} {K : Frag} {x C L f : Addr} {h₀ : Heap} {m : Str → Option Value} {ox : Obj} {od : Option Obj} {b tb : Value}
theorem ne_own {Q : Value → Shared → Prop} (hu : A.units + 1 < cLine) (X : K.In s.heap) (I : InstAt s.heap x ox C od) (hb : Looks (model prog w) s.heap (typeOf b) tb) (hn : notFirst K C tb = true)
    (hs : findIn K (.ref C) "__ne__" = some (some (.builtin "object.__ne__"))) (hq : findIn K (.ref C) "__eq__" = some (some (.ref f))) (hf : isFn K (.ref f) = true) (ho : mroIn K C (.type "object") = some true)
    (h : wpAny (model prog w) A.in1 (call (.ref f) [.ref x, b]) (fun v s' => ∃ r, v = .bool r ∧ Q (.bool !r) s') E s) : wpAny (model prog w) A (richCompare .NotEq (.ref x) b) Q E s := by
  have sp : wpAny (model prog w) A.in1 (callSpecialIfBound? (.ref x) "__eq__" [b]) (fun v s' => ∃ r, v = some (.bool r) ∧ Q (.bool !r) s') E s :=
    ifBound_K X I hq hf (wpAny_mono h (fun v s' ⟨r, e, z⟩ => ⟨r, by rw [e], z⟩) fun _ _ e => e)
  have ent : wpAny (model prog w) A.in1 (Builtin.«object.__ne__» ⟨[.ref x, b], []⟩) (fun fi s' => ∃ v, fi = .done (.ret v) ∧ v ≠ .notImplemented ∧ Q v s') E s := by
    unfold Builtin.«object.__ne__»
    refine wpAny_bind (wpAny_of_eq (a := ((Value.ref x : Value), [b])) (by first | rfl | (simp only [slotArgs]; rfl)) ?_)
    refine wpAny_bind (wpAny_cRoomFor hu ?_)
    refine wpAny_bind (wpAny_mono sp (fun v s' hv => ?_) fun _ _ e => e)
    obtain ⟨r, rfl, z⟩ := hv
    refine wpAny_bind (wpAny_truthy_bool ?_)
    exact wpAny_pure ⟨_, rfl, (fun q => nomatch q), z⟩
  have sub : Looks (model prog w) s.heap (isInstance (.ref x) (.type "object")) true := I.type.andThen (looks_mroIn X ho)
  have hcall : wpAny (model prog w) A (call (.builtin "object.__ne__") [.ref x, b]) (fun v s' => v ≠ .notImplemented ∧ Q v s') E s := by
    refine wpAny_call (codeAny_call_builtin PySem.F.cmp_object.ne.plain PySem.F.cmpEntry_ne ?_)
    refine @check_slot (model prog w) _ _ s "object.__ne__" "object" "__ne__" (.ref x) [b] [] _ PySem.F.cmpKind_ne PySem.F.cmpSplit_ne sub (PySem.F.cmpArgs_ne _ _) ?_
    refine wpAny_mono ent (fun fi s' hv => ?_) fun _ _ e => e
    obtain ⟨v, rfl, h1, h2⟩ := hv
    exact ⟨h1, h2⟩
  have one : wpAny (model prog w) A (tryCompare (.ref x) (cmpInfo .NotEq).2.1 b) (fun r s' => ∃ v, r = some v ∧ Q v s') E s := by
    unfold tryCompare
    refine wpAny_bind ?_
    show wpAny (model prog w) A (callSpecialIfBound? (.ref x) "__ne__" [b]) _ E s
    simp only [callSpecialIfBound?, bindSpecialIfBound?]
    have fin : wpAny (model prog w) A (call (.builtin "object.__ne__") ([.ref x] ++ [b]) >>= fun v => pure (some v)) (fun r s' => ∃ v, r = some v ∧ v ≠ .notImplemented ∧ Q v s') E s :=
      wpAny_bind (wpAny_mono hcall (fun v s' z => wpAny_pure ⟨v, rfl, z⟩) fun _ _ e => e)
    refine wpAny_mono (Q := fun r s' => ∃ v, r = some v ∧ v ≠ .notImplemented ∧ Q v s') ?_ (fun r s' z => ?_) fun _ _ e => e
    · refine wpAny_holding (wpAny_bind (wpAny_bind (wpAny_bind (I.type.here ((looks_findIn X hs).here ?_)))))
      simp only [PySem.F.cmp_object.ne.bind]
      refine wpAny_bind (wpAny_askSetting (wpAny_ite ?_))
      split
      · exact wpAny_bind (wpAny_pure (wpAny_pure fin))
      · exact wpAny_tryCatch (wpAny_bind (wpAny_pure (wpAny_pure fin)))
    · obtain ⟨v, rfl, h1, h2⟩ := z
      cases v <;> first | exact absurd rfl h1 | exact wpAny_pure ⟨_, rfl, h2⟩
  unfold richCompare
  simp only [oneThing_ref]
  refine wpAny_holding (wpAny_bind (wpAny_cRoomFor (Nat.lt_of_succ_lt hu) ?_))
  refine wpAny_bind (I.type.here (wpAny_bind (hb.here ?_)))
  split
  · rename_i ne
    have no : subIn K tb (.ref C) = some false := by
      rcases Bool.or_eq_true_iff.mp hn with z | z
      · rw [beq_iff_eq.mp z] at ne
        simp at ne
      · exact beq_iff_eq.mp z
    refine wpAny_bind ((looks_subIn X no).here ?_)
    simp only [Bool.false_eq_true, if_false]
    refine wpAny_bind (wpAny_mono one (fun r s' ⟨v, e, z⟩ => ?_) fun _ _ e => e)
    rw [e]
    exact wpAny_pure z
  · refine wpAny_bind (wpAny_pure ?_)
    simp only [Bool.false_eq_true, if_false]
    refine wpAny_bind (wpAny_mono one (fun r s' ⟨v, e, z⟩ => ?_) fun _ _ e => e)
    rw [e]
    exact wpAny_pure z
end
section
variable {X : Cx} {T : Tb} {C : CE} {W : WX} {J : Jt} {a b c e : Expr} {a' b' c' e' : E} {es : List Expr} {es' : E} {pos : Pos}
/-- != of the class goes by its own == -/
structure NeF (K : Fg) (D : Addr) : Prop where
  ne : findIn K (.ref D) "__ne__" = some (some (.builtin "object.__ne__"))
  ob : mroIn K D (.type "object") = some true
theorem neo_run {g k0 : Nat} (tk : Takes X W) (hr : Room (k0 + 1) X.A) (hM : ∀ c f, C.mt c g = some f → MtOk X.prog X.w X.K X.mg X.base T k0 c (T.mn g) (C.fm f)) (hg : T.mn g = "__eq__") (nf : ∀ k c r f, C.mt c g = some f → C.isa k (20 + c) = some r → notFirst X.K (cl X.K T c) (kindV X.K T k) = true)
    (hne : ∀ c f, C.mt c g = some f → NeF X.K (cl X.K T c)) {pins : List (Addr × Obj)} {s : Shared} {σ : L2.St} {H : Hp} {x y : V} {u v : Value} {Q : VK} (I : Inv X pins σ H s) (rx : RelV x u) (ry : RelV y v)
    (h : EqoR X T C g W σ x y H fun z H' => ∃ r, z = .bl r ∧ Q (.bl !r) H') : wpAny (model X.prog X.w) X.A (richCompare .NotEq u v) (EP X pins σ Q) X.xe s := by
  obtain ⟨p, cn, f, k, r, dx, fv, rfl, hf, h1, hi, kt, sp⟩ := h
  cases (show u = Value.ref p from rx)
  have M := hM cn f hf
  have N := hne cn f hf
  obtain ⟨fa, fd, ps, hm, hb, Fo⟩ := M.to
  rw [hg] at hm
  obtain ⟨mA, O, _⟩ := ins_get I.hok h1
  obtain ⟨od, J1, _⟩ := O.look
  obtain ⟨P, Z, hp, _⟩ := kt pins s σ v I ry
  refine ne_own (by have := hr.un; omega) I.kIn J1 (Z.ty _ _ I.kIn hp) (nf k cn r f hf hi) N.ne hm.at_ hm.fn N.ob ?_
  have e := I.env0
  have e0 : Env0 X.prog X.w X.K X.mg X.base X.A.in1 X.stack s H := ⟨e.frames, e.mod, e.bs, e.bsz, e.funs, e.frf, e.hok, e.bare⟩
  have r2 : Vals [V.ref p, y] [Value.ref p, v] := .cons rfl (.cons ry .nil)
  have hl := Fo.len _ _ _ _ sp
  have bb := hb s [.ref p, v] I.kIn (by simpa using hl)
  rw [List.append_nil] at bb
  refine wpAny_call (codeAny_mono (Fo.run X.A.in1 X.stack s H ⟨[.ref p, v], []⟩ [.ref p, v] [.ref p, y] _ (WE W σ) hr.in1 e0 bb r2 sp) fun res s' hq => ?_)
  cases res with
  | error er => exact passAt tk σ pins H s er s' I hq
  | ok fl =>
    cases fl with
    | ret z =>
      obtain ⟨zv, H', I', rz, q, ez, hQ⟩ := I.after hq
      subst ez
      cases rz
      exact ⟨q, rfl, .bl !q, H', I', rfl, hQ⟩
    | next => exact False.elim hq
    | brk => exact False.elim hq
    | cont => exact False.elim hq
theorem pd_neo {g k0 : Nat} (hJ : Mono J) (tk : Takes X W) (hr : Room (k0 + 1) X.A) (IF : IsF X.K T C) (hM : ∀ c f, C.mt c g = some f → MtOk X.prog X.w X.K X.mg X.base T k0 c (T.mn g) (C.fm f)) (hg : T.mn g = "__eq__") (nf : ∀ k c r f, C.mt c g = some f → C.isa k (20 + c) = some r → notFirst X.K (cl X.K T c) (kindV X.K T k) = true)
    (hne : ∀ c f, C.mt c g = some f → NeF X.K (cl X.K T c)) (ha : PD X T C W J a a') (hb : PD X T C W J b b') (hm : behindInMarks .NotEq b = false := nomark _) : PD X T C W J (.Compare a [.NotEq] [b] pos) (.not_ (.eqo g a' b')) := by
  refine ⟨fun pins s σ H Q I h => ?_⟩
  have h' : tE X.K T C W J (.eqo g a' b') σ H fun z H' => ∃ r, z = .bl r ∧ Q (.bl !r) H' := by
    obtain ⟨π, B, m, ρ, bb, w⟩ := h
    rw [ev] at w
    refine tE_bnd hJ bb w fun v H1 π1 B1 m1 u s1 b1 r1 w1 => ?_
    cases u with
    | p k => exact w1.elim
    | v d =>
      cases d with
      | bl t =>
        cases r1
        exact ⟨t, rfl, w1 _ H1 π1 B1 (Step.refl b1.st) (.bl _)⟩
      | _ => exact w1.elim
  exact wpAny_Compare1 (binT ha hb I (eqo_read hJ IF (fun c f h => (hM c f h).ix) h') fun v u s2 x y H2 I2 rx ry q => neo_run tk hr hM hg nf hne I2 rx ry q) hm
end
end At

/-! try: .. except X as n: return e. -/
namespace At
open PySem L2 Evl
open PySem.W PySem.Calls PyProof.Rows
/-- the error that is handled: at a, in slot i, its dict, its fields -/
def JX (K : Fg) (T : Tb) (a : Addr) (i : Nat) (d : Option Addr) (fs : List (Nat × D)) : Jt := fun σ B => (i < σ.length → σ[i]? = some (some (.ref a))) ∧ ∃ dd xs, d = some dd ∧ B dd = some (.xd xs) ∧ Rpf K T B xs fs
theorem monoX {K : Fg} {T : Tb} {a : Addr} {i : Nat} {d : Option Addr} {fs : List (Nat × D)} : Mono (JX K T a i d fs) := fun σ B B' e ⟨h1, dd, xs, h2, h3, h4⟩ => ⟨h1, dd, xs, h2, e _ _ h3, h4.mono e⟩
section
variable {X : Cx} {T : Tb} {C : CE} {W : WX} {J : Jt} {a b c e : Expr} {a' b' c' e' : E} {es : List Expr} {es' : E} {pos : Pos}
/-- the suite's return -/
structure Hd (X : Cx) (T : Tb) (C : CE) (i c : Nat) (e : Expr) (h : E) : Prop where
  go : ∀ (a : Addr) (oe : Obj) (c' : Nat) (d : Option Addr) (pn : List (Addr × Obj)) (fs : List (Nat × D)), Zc (.ref (cl X.K T c')) d oe → (∃ vs, oe.data = .fields vs) → C.isa (20 + c') (20 + c) = some true → PD (X.suite a ((a, oe) :: pn)) T C WF (JX X.K T a i d fs) e (sbE fs h)
theorem sd_tryR {x n : Str} {i k : Nat} {body : List Stmt} {st : S} {h : E} {np rp pos' : Pos} (hs : X.stack = X.env :: X.outer) (hf : X.env.frame = some X.env.locals) (hN : X.N.Nodup) (tk : Takes X W)
    (hx : ∀ c' b, C.isa (20 + c') (20 + k) = some b → exmOne X.K (.ref (cl X.K T c')) (.ref (cl X.K T k)) = some b) (hc : X.mg x = some (.ref (cl X.K T k)))
    (hb : ∀ (W : WX) (pn : List (Addr × Obj)) (xe : Value → Shared → Prop), Takes (X.tr pn xe) W → PassesOwn (model X.prog X.w) X.A X.env xe → PSsd (X.tr pn xe) T C W body st) (hh : Hd X T C i k e h)
    (hg : Gl X x) (hi : X.N[i]? = some n := by rfl) (hln : X.env.kindOf n = some .local := by rfl) (hdb : (x == ("__debug__" : Str)) = false := by decide) :
    PSd X T C W (.Try body [.ExceptHandler (some (.Name x np)) (some n) [.Return (some e) rp] pos'] [] [] pos) (.tryR st k i h) := by
  refine PS.weak (ps_try_as (tb := fun W => tS X.K T C W st) (ts := fun a cls d => fun D σ H => ∃ c' fs, cls = .ref (cl X.K T c') ∧ C.isa (20 + c') (20 + k) = some true ∧ tRet (tE X.K T C WF (JX X.K T a i d fs) (sbE fs h)) D σ H) (Wout := W) hs hf hN hi hln ⟨hg, hdb, .inl hc⟩ tk hb (fun a oe cls d pn hz hf => ⟨fun pins s σ H D I ⟨c', fs, ec, hisa, q⟩ => ?_⟩)) fun D σ H hq => ?_
  · subst ec
    exact (pss_one (ps_ret (hh.go a oe c' d pn fs hz hf hisa))).run pins s σ H D I q
  · obtain ⟨π, B, m, ρ, bb, w⟩ := hq
    rw [xs] at w
    refine ⟨π, B, m, ρ, bb, ?_⟩
    cases hr : xs C st ρ m with
    | nx ρ' m' =>
      rw [hr] at w
      exact w
    | rt u m' =>
      rw [hr] at w
      exact w
    | bk ρ' m' =>
      rw [hr] at w
      exact w
    | ct ρ' m' =>
      rw [hr] at w
      exact w
    | no =>
      rw [hr] at w
      exact w
    | ex c' fs ρ' m' =>
      rw [hr] at w
      dsimp only at w
      cases hisa : C.isa (20 + c') (20 + k) with
      | none =>
        rw [hisa] at w
        exact w.elim
      | some t =>
        rw [hisa] at w
        intro σ' y ys H' π' B' s' sl' q1 q2
        refine ⟨t, hx c' t hisa, fun ht a ha => ?_, fun ht => ?_⟩
        · subst ht
          refine ⟨c', fs, rfl, hisa, ?_⟩
          dsimp only at w
          refine ⟨π', B', m', ρ'.set i none, ⟨s'.st, ?_, ?_⟩, ?_⟩
          · refine ⟨by rw [List.length_set, List.length_set, sl'.len], fun j u hj => ?_⟩
            by_cases cj : i = j
            · subst cj
              by_cases hi' : i < ρ'.length
              · rw [List.getElem?_set_self hi'] at hj
                cases hj
              · rw [List.getElem?_eq_none (by rw [List.length_set]; omega)] at hj
                cases hj
            · rw [List.getElem?_set_ne cj] at hj
              obtain ⟨v, h1, h2⟩ := sl'.at_ j u hj
              exact ⟨v, by rw [List.getElem?_set_ne cj]; exact h1, h2⟩
          · refine ⟨fun hl => ?_, y, ys, rfl, q1, q2⟩
            rw [List.length_set] at hl
            rw [List.getElem?_set_self hl]
          · cases he : ev C (sbE fs h) (ρ'.set i none) m' with
            | ok u m2 =>
              rw [he] at w
              exact fun v H2 π2 B2 s2 r2 => w v H2 π2 B2 (s'.trans s2) r2
            | ex c2 fs2 m2 =>
              rw [he] at w
              exact w.elim
            | no =>
              rw [he] at w
              exact w.elim
        · subst ht
          exact w σ' y ys H' π' B' s' sl' q1 q2
/-- n.f in the suite -/
theorem pd_exf {f i k : Nat} {n x : Str} {a0 : Addr} {oe : Obj} {c' : Nat} {d : Option Addr} {pn : List (Addr × Obj)} {fs : List (Nat × D)} {p1 : Pos} (A : AtOk X.K T c' f) (hix : T.ix c' = true) (hz : Zc (.ref (cl X.K T c')) d oe) (hf : ∃ vs, oe.data = .fields vs)
    (hn : T.fn f = n := by rfl) (hN : X.N[i]? = some x := by rfl) (hv : Vis X.env.scope x := by first | exact Or.inl rfl | exact Or.inr (Or.inl rfl) | exact Or.inr (Or.inr rfl)) (hd : (x == ("__debug__" : Str)) = false := by decide) (hcd : (x == ("__classdict__" : Str)) = false := by decide)
    (hb : attributeBase (.Name x p1) n X.env (eval (.Name x p1) X.env) = eval (.Name x p1) X.env := by rfl) :
    PD (X.suite a0 ((a0, oe) :: pn)) T C WF (JX X.K T a0 i d fs) (.Attribute (.Name x p1) n pos) (fE (fs.lookup f)) := by
  subst hn
  refine ⟨fun pins s σ H Q I h => ?_⟩
  refine (pe_xf (X := X) (C := cl X.K T c') (pn := pn) (A.xc hix) A.no hz hf (pv (X := X.suite a0 ((a0, oe) :: pn)) i hN hv hd hcd) hb).run pins s σ H Q I ?_
  obtain ⟨π, B, m, ρ, bb, w⟩ := h
  have hl : i < σ.length := by
    rw [I.len]
    exact (List.getElem?_eq_some_iff.mp hN).1
  obtain ⟨j1, dd, xs, j2, j3, j4⟩ := bb.j
  cases e1 : fs.lookup f with
  | none =>
    rw [e1] at w
    have z : ev C (fE none) ρ m = .no := by
      show ev C .nil ρ m = .no
      first | rfl | simp only [ev]
    rw [z] at w
    exact w.elim
  | some d0 =>
    rw [e1] at w
    unfold fE at w
    rw [ev] at w
    obtain ⟨v, l1, l2⟩ := rpf_look A.inj j4 e1
    exact ⟨.ref a0, j1 hl, rfl, rfl, dd, xs, v, j2, bb.st.ex _ _ j3, l1, w v H π B (Step.refl bb.st) l2⟩
end
end At

/-! What rules ask of the text, by its shape. -/
namespace At
open PySem L2 Evl
open PySem.W PySem.Calls PyProof.Rows
def nst : Expr → Bool
  | .Starred _ _ => false
  | _ => true
theorem star_cons {a : Expr} {es : List Expr} {env : Env} (h : nst a = true) : starEach (a :: es) env = (false, eval a env) :: starEach es env := by
  cases a <;> first | rfl | cases h
theorem star_any : ∀ {es : List Expr} {env : Env} {pos : Pos}, es.all nst = true → (backTo pos (starEach es env)).any (·.1) = false
  | [], _, _, _ => rfl
  | e :: es, env, pos, h => by
    obtain ⟨h1, h2⟩ := Bool.and_eq_true_iff.mp (show (nst e && es.all nst) = true from h)
    rw [star_cons h1]
    show (false || (backTo pos (starEach es env)).any (·.1)) = false
    rw [star_any h2]
    rfl
theorem star_all : ∀ {es : List Expr} {env : Env} {pos : Pos}, es.all nst = true → (backTo pos (starEach es env)).all (fun x => !x.1) = true
  | [], _, _, _ => rfl
  | e :: es, env, pos, h => by
    obtain ⟨h1, h2⟩ := Bool.and_eq_true_iff.mp (show (nst e && es.all nst) = true from h)
    rw [star_cons h1]
    show (true && (backTo pos (starEach es env)).all (fun x => !x.1)) = true
    rw [star_all h2]
    rfl
def nosup : Expr → Bool
  | .Call (.Name _ _) [] [] _ => false
  | _ => true
theorem base_ok {a : Expr} {n : Str} {env : Env} {t : Sem Value} (h : nosup a = true) : attributeBase a n env t = t := by
  unfold attributeBase
  split
  · cases h
  · rfl
def plIx : Expr → Bool
  | .Slice _ _ none _ => false
  | _ => true
theorem plIx_ok {b : Expr} (h : plIx b = true) : PlainIx b := fun o i => by
  cases b with
  | Slice l u st p => cases st <;> first | rfl | cases h
  | _ => rfl
def valB : Expr → Bool
  | .UnaryOp .Not _ _ => false
  | .BoolOp _ _ _ => false
  | .IfExp _ _ _ _ => false
  | .Compare _ _ _ _ => false
  | _ => true
theorem valB_ok {e : Expr} {env : Env} (h : valB e = true) : ∀ whole, isTrue e env whole = (do let v ← whole; standAt e.pos; holding [v] (truthy v)) := fun whole => by
  cases e with
  | UnaryOp op x p => cases op <;> first | rfl | cases h
  | _ => first | rfl | cases h
def ncomp : Expr → Bool
  | .ListComp _ _ _ _ => false
  | .SetComp _ _ _ _ => false
  | .DictComp _ _ _ _ _ => false
  | _ => true
theorem sw_no {e : Expr} {t : Option Expr} {l : Nat} {env : Env} (h : ncomp e = true) : swapsWith e t l env = pure false := by
  cases e <;> first | rfl | cases h
/-- a comprehension stored into a name: whether it swaps -/
def swB (sc : Scope) (y : Str) (p : Pos) (cp : Pos) (scope : Scope) : Bool :=
  (sc.names.lookup y == some NameKind.local) && (p.line == cp.line) && !(scope.names.any fun (n, k) => n == y && (k == .local || k == .cell))
theorem sw_name {elt : Expr} {gs : List Comprehension} {scope : Scope} {pos py : Pos} {y : Str} {l : Nat} {env : Env} (hk : env.scope.kind = .function) : swapsWith (.ListComp elt gs scope pos) (some (.Name y py)) l env = pure (swB env.scope y py pos scope) := by
  have hb : env.blockKind = .function := by unfold Env.blockKind; rw [hk]; rfl
  unfold swapsWith swB
  simp only [hb, Env.kindOf, Expr.pos]
  simp
theorem sw_other {elt : Expr} {gs : List Comprehension} {scope : Scope} {pos : Pos} {t : Expr} {l : Nat} {env : Env} (ht : ∀ y p, t ≠ .Name y p) : swapsWith (.ListComp elt gs scope pos) (some t) l env = pure false := by
  cases t <;> first | rfl | exact absurd rfl (ht _ _)
def notTup : Expr → Bool
  | .Tuple _ _ _ => false
  | .List _ _ => false
  | _ => true
def ntup : Expr → Bool
  | .Tuple _ _ _ => false
  | _ => true
theorem st_noT {t e : Expr} {env : Env} (h : notTup t = true) : swappedStores [t] e env = pure none := by
  unfold swappedStores
  cases t <;> first | (cases e <;> rfl) | cases h
theorem st_noV {t e : Expr} {env : Env} (h : ntup e = true) : swappedStores [t] e env = pure none := by
  unfold swappedStores
  cases e <;> first | (cases t <;> rfl) | cases h
/-- stores of a tuple's names by a tuple: swapped or not (as the text tells) -/
def stB (sc : Scope) (ts vs : List Expr) : Option (Option (List Str)) :=
  if !(ts.length == 2 || ts.length == 3) || vs.length != ts.length then some none
  else if vs.any (fun | .Starred .. => true | _ => false) then some none
  else
    let line := (ts.head?.map (·.pos.line)).getD 0
    let names := ts.filterMap fun
      | .Name id pos => if sc.names.lookup id == some .local && pos.line == line then some id else none
      | _ => none
    if names.length != ts.length || names.eraseDups.length != names.length then some none
    else if vs.all (foldedForSure 8) then some none
    else if vs.all (constantsAlone 8) then none
    else some (some names)
theorem st_tup {ts vs : List Expr} {k k' : Nat} {p p' : Pos} {env : Env} {r : Option (List Str)} (hk : env.scope.kind = .function) (h : stB env.scope ts vs = some r) : swappedStores [.Tuple ts k p] (.Tuple vs k' p') env = pure r := by
  have hb : env.blockKind = .function := by unfold Env.blockKind; rw [hk]; rfl
  have hbb : (ScopeKind.function != ScopeKind.function) = false := by decide
  unfold stB at h
  unfold swappedStores
  simp only [hb, hbb, Bool.or_false, Env.kindOf] at h ⊢
  split at h
  · next c =>
    have e := Option.some.inj h
    rw [← e]
    exact if_pos c
  · next c =>
    refine (if_neg c).trans ?_
    split at h
    · next c2 =>
      have e := Option.some.inj h
      rw [← e]
      exact if_pos c2
    · next c2 =>
      refine (if_neg c2).trans ?_
      split at h
      · next c3 =>
        have e := Option.some.inj h
        rw [← e]
        exact if_pos c3
      · next c3 =>
        refine (if_neg c3).trans ?_
        split at h
        · next c4 =>
          have e := Option.some.inj h
          rw [← e]
          exact if_pos c4
        · next c4 =>
          refine (if_neg c4).trans ?_
          split at h
          · cases h
          · next c5 =>
            have e := Option.some.inj h
            rw [← e]
            exact if_neg c5
theorem as_one {t : Expr} {env : Env} (h : nst t = true) : (assignEach [t] env).map (·.2) = [assign t env] := by
  cases t <;> first | rfl | cases h
theorem as_cons {t : Expr} {ts : List Expr} {env : Env} (h : nst t = true) : (assignEach (t :: ts) env).map (·.2) = assign t env :: (assignEach ts env).map (·.2) := by
  cases t <;> first | rfl | cases h
theorem as_len {env : Env} : ∀ {ts : List Expr}, (assignEach ts env).length = ts.length
  | [] => rfl
  | t :: ts => by
    cases t <;> exact congrArg (· + 1) (as_len (ts := ts))
theorem as_no {env : Env} : ∀ {ts : List Expr}, ts.all nst = true → (assignEach ts env).findIdx? (·.1) = none
  | [], _ => rfl
  | t :: ts, h => by
    obtain ⟨h1, h2⟩ := Bool.and_eq_true_iff.mp (show (nst t && ts.all nst) = true from h)
    have ih := as_no (env := env) h2
    have e : assignEach (t :: ts) env = (false, assign t env) :: assignEach ts env := by
      cases t <;> first | rfl | cases h1
    rw [e, List.findIdx?_cons, ih]
    rfl
def nset : Expr → Bool
  | .Set _ _ _ => false
  | _ => true
theorem fold_ok {e : Expr} {env : Env} (h : nset e = true) : ∀ x, foldedSetIterable e env x = pure x := fun x => by
  cases e <;> first | rfl | cases h
theorem mark_ok {op : CmpOp} {e : Expr} (h : nset e = true) : behindInMarks op e = false := by
  cases e <;> first | rfl | cases h
def visB (sc : Scope) (x : Str) : Bool := match sc.names.lookup x with
  | some .local => true
  | some .cell => true
  | some .free => true
  | _ => false
theorem visB_ok {sc : Scope} {x : Str} (h : visB sc x = true) : Vis sc x := by
  unfold visB at h
  split at h
  · next q => exact .inl q
  · next q => exact .inr (.inl q)
  · next q => exact .inr (.inr q)
  · cases h
def locB (sc : Scope) (x : Str) : Bool := match sc.names.lookup x with
  | some .local => true
  | some .cell => true
  | _ => false
theorem locB_ok {sc : Scope} {x : Str} (h : locB sc x = true) : L2.Loc sc x := by
  unfold locB at h
  split at h
  · next q => exact .inl q
  · next q => exact .inr q
  · cases h
def glB (sc : Scope) (x : Str) : Bool := decide (sc.names.lookup x = some .globalImplicit)
def ndb (x : Str) : Bool := decide ((x == ("__debug__" : Str)) = false)
def ncd (x : Str) : Bool := decide ((x == ("__classdict__" : Str)) = false)
/-- a method's call, in the usual form -/
theorem meth_form {a : Expr} {m : Str} {apos pos : Pos} {es : List Expr} {env : Env} (h1 : nosup a = true) (h2 : es.all nst = true) (h3 : es.length < 30) (h4 : (apos.endLine == pos.line) = true) :
    eval (.Call (.Attribute a m apos) es [] pos) env = (do
      let ov ← eval a env
      standAt apos.atName
      let (f, first) ← holding [ov] (getMethod ov m (do return (← importBound a env).getD true))
      callWith pos f first (backTo pos (starEach es env)) (backToKw pos (keywordEach [] env))) := by
  have hf : methodCallForm (es.length + ([] : List Keyword).length) (backTo pos (starEach es env)) (backToKw pos (keywordEach [] env)) = true := by
    unfold methodCallForm
    have h5 := star_all (env := env) (pos := pos) h2
    rw [h5]
    have : decide (es.length + ([] : List Keyword).length + 0 < 30) = true := decide_eq_true h3
    simpa [keywordEach, backToKw] using h3
  rw [eval]
  rw [base_ok h1]
  unfold methodCall calleeOf methodCallPos
  rw [hf]
  simp only [h4]
  simp
theorem few_ok {e : Expr} {cpos : Pos} {env : Env} (h : nst e = true) : ((backTo cpos (starEach [e] env)).all (fun x => !x.1) && (backToKw cpos (keywordEach [] env)).all (fun x => x.1.isSome)
      && decide ([e].length + ([] : List Keyword).length + (if ([] : List Keyword).isEmpty then 0 else 1) < 30)) = true := by
  rw [star_all (by simpa using h)]
  rfl
/-- a comprehension's scope as its block has it -/
def rlS (scope sc : Scope) : Scope := { scope with names := scope.names.map fun (n, k) => if (k == NameKind.free && sc.kind == .function && sc.names.lookup n == some .cell) then (n, NameKind.cell) else (n, k) }
theorem rl_ok {scope : Scope} {cl : List (Str × Addr)} {D : Addr} {env : Env} : (compEnvC scope cl D env).scope = rlS scope env.scope := rfl
end At

/-! A whole program, and what is known of its head. -/
namespace At
open PySem L2 Evl
open PySem.W PySem.Calls PyProof.Rows
/-- a def: as the text has it, its slots, its parameters, what it is read as -/
structure DF where
  d : He.DefD
  N : List Str
  ps : List Str
  fn : Fn
  /-- it makes lambdas -/
  lam : Bool := false
  /-- it is never run by itself -/
  op : Bool := false
structure PJ where
  /-- classes: name, whether an error -/
  cs : List (Str × Bool)
  fs : List Str
  ms : List Str
  /-- error classes: their fields -/
  er : List (Nat × List Nat)
  /-- own classes: their __init__ -/
  ini : List (Nat × Nat)
  mts : List (Nat × List (Nat × Nat))
  isa : List (Nat × List (Nat × Bool))
  fld : List (Nat × List Nat)
  free : List Str
  ki : List (Str × Int)
  ks : List (Str × Str)
  kt : List (Str × List Str)
  df : List DF
  tabs : Fg → List (Addr × Str) := fun _ => []
def PJ.T (p : PJ) (K : Fg) : Tb := { tbl p.cs p.fs p.ms with tabs := p.tabs K }
def mtT (t : List (Nat × List (Nat × Nat))) (c g : Nat) : Option Nat := (t.lookup c).bind fun r => r.lookup g
def PJ.ce (p : PJ) (f : Nat → List U → Mu → R U) : CE where
  fm := f
  mkr := fun c => match p.er.lookup c with
    | some fl => xmk c fl
    | none => match p.ini.lookup c with
      | some i => mkP (f i) c
      | none => fun _ => .no
  mt := mtT p.mts
  isa := isaT p.isa
  fld := fldT p.fld
def PJ.fm (p : PJ) : Nat → Nat → List U → Mu → R U
  | 0, _, _, _ => .no
  | n + 1, i, us, m => match p.df[i]? with
    | some d => if d.op then .no else d.fn.run (p.ce (PJ.fm p n)) us m
    | none => .no
def PJ.C (p : PJ) (n : Nat) : CE := p.ce (p.fm n)

structure GF (p : PJ) (P : Program) (K : Fg) (mg : Str → Option Value) : Prop where
  free : ∀ x, p.free.contains x = true → mg x = none
  ki : ∀ x i, p.ki.lookup x = some i → ∃ t, mg x = some (.int i t)
  ks : ∀ x y, p.ks.lookup x = some y → ∃ t, mg x = some (.str y t)
  kt : ∀ x ys, p.kt.lookup x = some ys → mg x = some (.ref (He.ga K x)) ∧ ∀ H, SqT K H (He.ga K x) (ys.map V.str)
  er : ∀ c fl, p.er.lookup c = some fl → (p.T K).ix c = true ∧ ∃ ps, XOk P K mg ((p.T K).cn c) (cl K (p.T K) c) ps (fl.map (p.T K).fn)
  cg : ∀ c, c < p.cs.length → mg ((p.T K).cn c) = some (.ref (cl K (p.T K) c))
  isF : ∀ C : CE, C.isa = isaT p.isa → IsF K (p.T K) C
  at_ : ∀ c f, fldT p.fld c f = true → AtOk K (p.T K) c f
  mkc : ∀ c i, p.ini.lookup c = some i → (p.T K).ix c = false ∧ ∃ d, p.df[i]? = some d ∧ Mk K (cl K (p.T K) c) (He.fAd K d.d.at_)
  mt : ∀ c g i, mtT p.mts c g = some i → (p.T K).ix c = false ∧ Cls K (cl K (p.T K) c) ∧ ∃ d, p.df[i]? = some d ∧ Meth K (cl K (p.T K) c) ((p.T K).mn g) (He.fAd K d.d.at_)
  mn : ∀ g, g < p.ms.length → ∀ i, (p.T K).fn i ≠ (p.T K).mn g
  nf : ∀ k c r g i, mtT p.mts c g = some i → (p.T K).mn g = "__eq__" → isaT p.isa k (20 + c) = some r → notFirst K (cl K (p.T K) c) (kindV K (p.T K) k) = true
  ne : ∀ c g i, mtT p.mts c g = some i → (p.T K).mn g = "__eq__" → NeF K (cl K (p.T K) c)
  exm : ∀ c c' b, (p.T K).ix c = true → isaT p.isa (20 + c') (20 + c) = some b → exmOne K (.ref (cl K (p.T K) c')) (.ref (cl K (p.T K) c)) = some b
  xrow : ∀ c c' b, (p.T K).ix c = true → isaT p.isa (20 + c') (20 + c) = some b → (p.T K).ix c' = true
  df : ∀ (i : Nat) (d : DF), p.df[i]? = some d → ∃ fd, FunD K d.d.name d.d.qual d.d.params d.d.body d.d.scope (d.d.dvs K) (d.d.kws K) (He.fAd K d.d.at_) fd ∧ Binds K fd d.ps []
  sc : ∀ (i : Nat) (d : DF), p.df[i]? = some d → FnScope d.N d.ps d.d.scope
  dg : ∀ (i : Nat) (d : DF), p.df[i]? = some d → d.d.at_.2 = none → mg d.d.at_.1 = some (.ref (He.fAd K d.d.at_))
def Lv (p : PJ) (P : Program) (w : World) (K : Fg) (mg : Str → Option Value) (base : Heap) (n : Nat) : Prop := ∀ (i : Nat) (d : DF) (fd : FuncData), p.df[i]? = some d → FunD K d.d.name d.d.qual d.d.params d.d.body d.d.scope (d.d.dvs K) (d.d.kws K) (He.fAd K d.d.at_) fd →
  FnOk P w K mg base (L2.CX P w) (4 * n + 4) (He.fAd K d.d.at_) fd d.ps (spM K (p.T K) (p.fm n i))
structure Kx where
  N : List Str
  sc : Scope
  fnB : Str → Bool
  r : Nat
  lam : Bool
def Kx.blk (k : Kx) (scope : Scope) : Kx := ⟨k.N, rlS scope k.sc, fun x => scope.names.lookup x == some .cell, k.r, k.lam⟩
/-- the table of the def's code object -/
def LamF (p : PJ) (X : Cx) : Prop := ∃ c P, X.env.code = .ref c ∧ LamX.TabB X.base X.mg c P ∧ (P, X.env.qual ++ "<lambda>") ∈ p.tabs X.K ∧ ∀ q ∈ p.tabs X.K, q.1 = P → q.2 = X.env.qual ++ "<lambda>"
structure CxOk (p : PJ) (n : Nat) (k : Kx) (X : Cx) (W : WX) : Prop where
  N : X.N = k.N
  nd : k.N.Nodup
  sc : X.env.scope = k.sc
  fn : X.fn = k.fnB
  calm : X.calm = true
  room : Room (4 * n + 5 + k.r) X.A
  tk : Takes X W
  gf : GF p X.prog X.K X.mg
  lv : Lv p X.prog X.w X.K X.mg X.base n
  lam : k.lam = true → LamF p X
structure SxOk (p : PJ) (n : Nat) (k : Kx) (X : Cx) (W : WX) : Prop extends CxOk p n k X W where
  ps : PassesOwn (model X.prog X.w) X.A X.env X.xe
  stk : X.stack = X.env :: X.outer
  frm : X.env.frame = some X.env.locals
  knd : k.sc.kind = .function
section
variable {p : PJ} {n : Nat} {k : Kx} {X : Cx} {W : WX}
theorem CxOk.blk (ok : CxOk p n k X W) (scope : Scope) (s : Shared) (H : Hp) (D : Addr) (cl : List (Str × Addr)) (fp : List Addr) : CxOk p n (k.blk scope) (X.blk s H scope (compEnvC scope cl D X.env) fp) WF :=
  ⟨ok.N, ok.nd, by rw [rl_ok, ok.sc]; rfl, rfl, ok.calm, ok.room, takesF, ok.gf, ok.lv, ok.lam⟩
theorem CxOk.room4 (ok : CxOk p n k X W) : Room (4 * n + 4) X.A := ok.room.mono (by omega)
theorem CxOk.room5 (ok : CxOk p n k X W) : Room (4 * n + 4 + 1) X.A := ok.room.mono (by omega)
theorem CxOk.gl (ok : CxOk p n k X W) {x : Str} (h : glB k.sc x = true) : Gl X x := by
  show X.env.scope.names.lookup x = _
  rw [ok.sc]
  exact of_decide_eq_true h
theorem CxOk.def_ (ok : CxOk p n k X W) {i : Nat} {d : DF} {x : Str} (hd : p.df[i]? = some d) (h0 : d.d.at_ = (x, none)) : DefOk X.prog X.w X.K X.mg X.base (p.T X.K) (4 * n + 4) x ((p.C n).fm i) := by
  obtain ⟨fd, F, hb⟩ := ok.gf.df i d hd
  have hm := ok.gf.dg i d hd (by rw [h0])
  rw [h0] at hm
  exact ⟨_, fd, d.ps, by rw [hm, h0], F.kp, hb, ok.lv i d fd hd F⟩
theorem CxOk.make (ok : CxOk p n k X W) {c i : Nat} (hc : p.ini.lookup c = some i) (hl : c < p.cs.length) : MkOk X.prog X.w X.K X.mg X.base (p.T X.K) (4 * n + 4) ((p.T X.K).cn c) c ((p.C n).fm i) := by
  obtain ⟨h1, d, hd, mk⟩ := ok.gf.mkc c i hc
  obtain ⟨fd, F, hb⟩ := ok.gf.df i d hd
  exact ⟨h1, ok.gf.cg c hl, _, fd, d.ps, mk, hb, ok.lv i d fd hd F⟩
theorem CxOk.meth (ok : CxOk p n k X W) {g : Nat} (c f : Nat) (h : (p.C n).mt c g = some f) : MtOk X.prog X.w X.K X.mg X.base (p.T X.K) (4 * n + 4) c ((p.T X.K).mn g) ((p.C n).fm f) := by
  obtain ⟨h1, h2, d, hd, mt⟩ := ok.gf.mt c g f h
  obtain ⟨fd, F, hb⟩ := ok.gf.df f d hd
  exact ⟨h1, h2, _, fd, d.ps, mt, hb, ok.lv f d fd hd F⟩
end

/-! ### evidence -/
abbrev Evd (q : Prop) := Option (PLift q)
def need {q : Prop} (b : Bool) (h : b = true → q) : Evd q := if hb : b = true then some ⟨h hb⟩ else none
def bE {a q : Prop} (x : Evd a) (f : a → Evd q) : Evd q := match x with
  | some u => f u.down
  | none => none
def QE (p : PJ) (k : Kx) (e : Expr) (e' : E) : Prop := ∀ (n : Nat) (X : Cx) (W : WX), CxOk p n k X W → PD X (p.T X.K) (p.C n) W J0 e e'
def QT (p : PJ) (k : Kx) (e : Expr) (e' : E) : Prop := ∀ (n : Nat) (X : Cx) (W : WX), CxOk p n k X W → PDt X (p.T X.K) (p.C n) W J0 e e'
def QW (p : PJ) (k : Kx) (e : Expr) (e' : E) : Prop := ∀ (n : Nat) (X : Cx) (W : WX), CxOk p n k X W → PDw X (p.T X.K) (p.C n) W J0 e e'
def QL (p : PJ) (k : Kx) (es : List Expr) (e' : E) : Prop := ∀ (n : Nat) (X : Cx) (W : WX), CxOk p n k X W → PDs X (p.T X.K) (p.C n) W J0 es e'
def QO (p : PJ) (k : Kx) (o : Option Expr) (e' : E) : Prop := ∀ (n : Nat) (X : Cx) (W : WX), CxOk p n k X W → PDo X (p.T X.K) (p.C n) W J0 o e'
def QI (p : PJ) (k : Kx) (tg e : Expr) (e' : E) : Prop := ∀ (n : Nat) (X : Cx) (W : WX), CxOk p n k X W → PDi X (p.T X.K) (p.C n) W J0 tg e e'
def QJ (p : PJ) (k : Kx) (es : List Expr) (e' : E) : Prop := ∀ (n : Nat) (X : Cx) (W : WX), CxOk p n k X W → PJd X (p.T X.K) (p.C n) W J0 es e'
def QG (p : PJ) (k : Kx) (tg : Expr) (t : Tg) : Prop := ∀ (n : Nat) (X : Cx) (W : WX), CxOk p n k X W → PGd X tg t
def QGs (p : PJ) (k : Kx) (tgs : List Expr) (t : Tg) : Prop := ∀ (n : Nat) (X : Cx) (W : WX), CxOk p n k X W → PGsd X tgs t
def QC (p : PJ) (k : Kx) (e : Expr) (t : Nat) : Prop := ∀ (n : Nat) (X : Cx) (W : WX), CxOk p n k X W → PCl X (p.T X.K) e t
def QCs (p : PJ) (k : Kx) (es : List Expr) (ts : List Nat) : Prop := ∀ (n : Nat) (X : Cx) (W : WX), CxOk p n k X W → PCls X (p.T X.K) es ts
structure Pk (p : PJ) (k : Kx) (e' : E) where
  vE : (e : Expr) → Evd (QE p k e e') := fun _ => none
  vT : (e : Expr) → Evd (QT p k e e') := fun _ => none
  vW : (e : Expr) → Evd (QW p k e e') := fun _ => none
  vL : (es : List Expr) → Evd (QL p k es e') := fun _ => none
  vO : (o : Option Expr) → Evd (QO p k o e') := fun _ => none
  vI : (tg e : Expr) → Evd (QI p k tg e e') := fun _ _ => none
  vJ : (es : List Expr) → Evd (QJ p k es e') := fun _ => none
def Pk.val {p : PJ} {k : Kx} {e' : E} (f : (e : Expr) → Evd (QE p k e e')) : Pk p k e' where
  vE := f
  vT := fun e => if h : valB e = true then (match f e with
    | some u => some ⟨fun n X W ok => pt_val' (u.down n X W ok) (valB_ok h)⟩
    | none => none) else none
def isNil : (a : E) → Evd (a = .nil)
  | .nil => some ⟨rfl⟩
  | _ => none
/-! ### targets and classes -/
mutual
def cG (p : PJ) (k : Kx) : (t : Tg) → (tg : Expr) → Evd (QG p k tg t)
  | .nm i, tg => match tg with
    | .Name x _ => need (decide (k.N[i]? = some x) && (locB k.sc x && (k.fnB x || decide (k.sc.names.lookup x = some .local)))) fun h n X W ok => by
      obtain ⟨h1, h2⟩ := Bool.and_eq_true_iff.mp h
      obtain ⟨h2, h3⟩ := Bool.and_eq_true_iff.mp h2
      refine pgd_nm i (by rw [ok.N]; exact ok.nd) (by rw [ok.N]; exact of_decide_eq_true h1) (by rw [ok.sc]; exact locB_ok h2) ?_
      rw [ok.fn, ok.sc]
      rcases Bool.or_eq_true_iff.mp h3 with h3 | h3
      · exact .inl h3
      · exact .inr (of_decide_eq_true h3)
    | _ => none
  | .tp a, tg => match tg with
    | .Tuple es _ _ => bE (cGs p k a es) fun u => need (es.all nst && decide ((tgLen a).getD 0 = es.length)) fun h n X W ok => by
        obtain ⟨h1, h2⟩ := Bool.and_eq_true_iff.mp h
        exact pgd_tup ok.calm (u n X W ok) (by rw [as_len]; exact (of_decide_eq_true h2).symm) (as_no h1)
    | _ => none
  | .nil, _ => none
  | .cons _ _, _ => none
def cGs (p : PJ) (k : Kx) : (t : Tg) → (tgs : List Expr) → Evd (QGs p k tgs t)
  | .nil, tgs => match tgs with
    | [] => some ⟨fun _ _ _ _ => pgsd_nil⟩
    | _ => none
  | .cons a r, tgs => match tgs with
    | e :: es => bE (cG p k a e) fun u => bE (cGs p k r es) fun v => need (nst e) fun h n X W ok => pgsd_cons (u n X W ok) (v n X W ok) (as_cons h)
    | _ => none
  | .nm _, _ => none
  | .tp _, _ => none
end
def blts : List String := ["bool", "int", "str", "list", "tuple", "LookupError", "TypeError", "ArithmeticError", "ValueError", "KeyError", "Exception", "dict"]
theorem boot_blt : ∀ s ∈ blts, bootBuiltins (s : Str) = some (.type s) := by decide +kernel
theorem name_blt : ∀ s ∈ blts, (s : Str) ≠ ("__name__" : Str) := by decide +kernel
def cC (p : PJ) (k : Kx) (t : Nat) : (e : Expr) → Evd (QC p k e t)
  | .Name x _ => if h20 : 20 ≤ t then need (decide (p.cs[t - 20]?.map (·.1) = some x) && (glB k.sc x && ndb x)) fun h n X W ok => by
      obtain ⟨h1, h2⟩ := Bool.and_eq_true_iff.mp h
      obtain ⟨h2, h3⟩ := Bool.and_eq_true_iff.mp h2
      have e1 := of_decide_eq_true h1
      have hl : t - 20 < p.cs.length := by
        cases e : p.cs[t - 20]? with
        | none => rw [e] at e1; cases e1
        | some q => exact (List.getElem?_eq_some_iff.mp e).1
      have e2 : (p.T X.K).cn (t - 20) = x := by
        show (p.cs[t - 20]?.map (·.1)).getD ("" : Str) = x
        rw [e1]
        rfl
      have e3 : 20 + (t - 20) = t := by omega
      have := pcl_own (X := X) (T := p.T X.K) (x := x) (c := t - 20) (p := ‹Pos›) (ok.gl h2) (by rw [← e2]; exact ok.gf.cg _ hl) (of_decide_eq_true h3)
      rw [e3] at this
      exact this
    else need ((match kindN[t]? with
        | some s => blts.contains s && decide (x = (s : Str))
        | none => false) && (p.free.contains x && (glB k.sc x && ndb x))) fun h n X W ok => by
      obtain ⟨h1, h2⟩ := Bool.and_eq_true_iff.mp h
      obtain ⟨h2, h3⟩ := Bool.and_eq_true_iff.mp h2
      obtain ⟨h3, h4⟩ := Bool.and_eq_true_iff.mp h3
      cases e : kindN[t]? with
      | none => rw [e] at h1; cases h1
      | some s =>
        rw [e] at h1
        obtain ⟨b1, b2⟩ := Bool.and_eq_true_iff.mp h1
        have b3 := List.contains_iff_mem.mp b1
        have b4 := of_decide_eq_true b2
        subst b4
        exact pcl_blt (n := s) (ok.gl h3) (ok.gf.free _ h2) (boot_blt s b3) ⟨by omega, by rw [e]; rfl⟩ (name_blt s b3) (of_decide_eq_true h4)
  | _ => none
def cCs (p : PJ) (k : Kx) : (ts : List Nat) → (es : List Expr) → Evd (QCs p k es ts)
  | [], es => match es with
    | [] => some ⟨fun _ _ _ _ => pcls_nil⟩
    | _ => none
  | t :: ts, es => match es with
    | e :: es => bE (cC p k t e) fun u => bE (cCs p k ts es) fun v => need (nst e) fun h n X W ok => pcls_cons (u n X W ok) (v n X W ok) (star_cons h)
    | _ => none
end At

/-! Expressions, by their text. -/
namespace At
open PySem L2 Evl
open PySem.W PySem.Calls PyProof.Rows
def opB : Operator → Op → Bool
  | .Add, .add => true
  | .Sub, .sub => true
  | .Mult, .mul => true
  | .FloorDiv, .fdiv => true
  | .Mod, .mod => true
  | .Pow, .pow => true
  | _, _ => false
def cmB : CmpOp → Cm → Bool
  | .Eq, .eq => true
  | .NotEq, .ne => true
  | .Lt, .lt => true
  | .LtE, .le => true
  | .Gt, .gt => true
  | .GtE, .ge => true
  | .In, .in_ => true
  | .NotIn, .nin => true
  | _, _ => false
section
variable {p : PJ} {k : Kx}
theorem cm_ok {X : Cx} {T : Tb} {n : Nat} (hr : Room n X.A) {op : CmpOp} {c : Cm} (h : cmB op c = true) : Cmp X T op c := by
  cases op <;> cases c <;> first | exact cm_eq hr | exact cm_ne hr | exact cm_lt hr | exact cm_le | exact cm_gt | exact cm_ge | exact cm_in hr | exact cm_nin hr | cases h
theorem q_bin {a b : Expr} {a' b' : E} {op : Operator} {o : Op} {pos : Pos} (h : opB op o = true) (ha : QE p k a a') (hb : QE p k b b') : QE p k (.BinOp a op b pos) (.op o a' b') := fun n X W ok => by
  have ha := ha n X W ok
  have hb := hb n X W ok
  cases op <;> cases o <;> first | exact pd_add mono0 ha hb | exact pd_sub mono0 ha hb | exact pd_mul mono0 ha hb | exact pd_fdiv mono0 ha hb | exact pd_mod mono0 ha hb | exact pd_pow mono0 ha hb | cases h
def strB (l : List Nat) (x : Str) : Bool := decide (x.cps.toList = l) && (decide (l.length ≤ lim) && l.all (· < 0x110000))
def strsB : List D → List Str → Bool
  | [], [] => true
  | .str l :: ds, x :: xs => strB l x && strsB ds xs
  | _, _ => false
theorem strsB_ok {K : Fg} {T : Tb} {B : Hp} : ∀ {ds : List D} {xs : List Str}, strsB ds xs = true → Rps K T B (xs.map V.str) ds
  | [], [], _ => .nil
  | [], _ :: _, h => by cases h
  | d :: ds, [], h => by cases d <;> cases h
  | d :: ds, x :: xs, h => by
    cases d with
    | str l =>
      obtain ⟨h1, h2⟩ := Bool.and_eq_true_iff.mp (show (strB l x && strsB ds xs) = true from h)
      obtain ⟨h1, h3⟩ := Bool.and_eq_true_iff.mp h1
      obtain ⟨h3, h4⟩ := Bool.and_eq_true_iff.mp h3
      exact .cons (Rp.text (of_decide_eq_true h1) (of_decide_eq_true h3) h4) (strsB_ok h2)
    | _ => cases h
/-- constants, the module's too -/
def cst (p : PJ) (k : Kx) (d : D) : (e : Expr) → Evd (QE p k e (.cst d))
  | .Constant c _ _ => match c, d with
    | .int i, .int j => need (decide (i = j)) fun h n X W ok => by
      cases of_decide_eq_true h
      exact pd_int
    | .bool i, .bl j => need (decide (i = j)) fun h n X W ok => by
      cases of_decide_eq_true h
      exact pd_bl
    | .none, .non => some ⟨fun n X W ok => pd_non⟩
    | .str x, .str l => need (strB l x) fun h n X W ok => by
      obtain ⟨h1, h2⟩ := Bool.and_eq_true_iff.mp h
      exact pd_str (of_decide_eq_true h1) h2
    | _, _ => none
  | .Name x _ => match d with
    | .int i => need (decide (p.ki.lookup x = some i) && (glB k.sc x && ndb x)) fun h n X W ok => by
      obtain ⟨h1, h2⟩ := Bool.and_eq_true_iff.mp h
      obtain ⟨h2, h3⟩ := Bool.and_eq_true_iff.mp h2
      obtain ⟨t, ht⟩ := ok.gf.ki x i (of_decide_eq_true h1)
      exact pd_gint (ok.gl h2) ht (of_decide_eq_true h3)
    | .str l => match hx : p.ks.lookup x with
      | some y => need (strB l y && (glB k.sc x && ndb x)) fun h n X W ok => by
        obtain ⟨h1, h2⟩ := Bool.and_eq_true_iff.mp h
        obtain ⟨h2, h3⟩ := Bool.and_eq_true_iff.mp h2
        obtain ⟨h4, h5⟩ := Bool.and_eq_true_iff.mp h1
        obtain ⟨t, ht⟩ := ok.gf.ks x y hx
        exact pd_gstr (ok.gl h2) ht (of_decide_eq_true h4) h5 (of_decide_eq_true h3)
      | none => none
    | .tup ds => match hx : p.kt.lookup x with
      | some ys => need (strsB ds ys && (decide (ys.length ≤ lim) && (glB k.sc x && ndb x))) fun h n X W ok => by
        obtain ⟨h1, g2⟩ := Bool.and_eq_true_iff.mp h
        obtain ⟨h2, g3⟩ := Bool.and_eq_true_iff.mp g2
        obtain ⟨h3, h4⟩ := Bool.and_eq_true_iff.mp g3
        obtain ⟨hm, hq⟩ := ok.gf.kt x ys hx
        exact pd_gtup (ok.gl h3) hm hq (fun B => strsB_ok h1) (by rw [List.length_map]; exact of_decide_eq_true h2) (of_decide_eq_true h4)
      | none => none
    | _ => none
  | _ => none
def unN : Un → Option String
  | .len => some "len"
  | .int => some "int"
  | .str => some "str"
  | .tuple => some "tuple"
  | .list => some "list"
  | .all => some "all"
  | .any => some "any"
  | .sum => some "sum"
  | _ => none
theorem q_un {a : Expr} {a' : E} {o : Un} {x : Str} {q pos : Pos} {s : String} (hs : unN o = some s) (hx : x = (s : Str)) (hf : p.free.contains x = true) (hg : glB k.sc x = true) (hn : nst a = true) (ha : QE p k a a') : QE p k (.Call (.Name x q) [a] [] pos) (.un o a') := fun n X W ok => by
  have ha := ha n X W ok
  have g := ok.gl hg
  have m := ok.gf.free x hf
  have st := star_cons (es := []) (env := X.env) hn
  subst hx
  cases o <;> first | (injection hs with hs; subst hs; first | exact pd_len mono0 g m ha st | exact pd_int1 mono0 g m ha st | exact pd_strof mono0 g m ha st | exact pd_tuple mono0 g m ha st | exact pd_list mono0 g m ha st | exact pd_all mono0 ok.calm g m ha st | exact pd_any mono0 ok.calm g m ha st | exact pd_sum mono0 ok.calm g m ha st) | cases hs
/-- the own slots of a block -/
def ownOf (N : List Str) (vs : List Nat) : List (Str × Nat) := vs.map fun v => (N[v]?.getD "", v)
theorem own_vs (N : List Str) (vs : List Nat) : (ownOf N vs).map (·.2) = vs := by
  unfold ownOf
  rw [List.map_map]
  exact List.map_id' _
theorem q_lc0 {elt tg it : Expr} {t' : Tg} {it' e' : E} {vs : List Nat} {scope : Scope} {pos : Pos} (hi : QI p k tg it it') (hg : QG p (k.blk scope) tg t') (he : QE p (k.blk scope) elt e') (h : (blkC k.N k.sc scope (ownOf k.N vs) && ((slotsT t').all (fun i => vs.contains i) && nset it)) = true) :
    QE p k (.ListComp elt [⟨tg, it, [], 0⟩] scope pos) (.lc vs t' it' (.cst (.bl true)) e') := fun n X W ok => by
  obtain ⟨h1, h2⟩ := Bool.and_eq_true_iff.mp h
  obtain ⟨h2, h3⟩ := Bool.and_eq_true_iff.mp h2
  have r := pd_lc0 (X := X) (T := p.T X.K) (C := p.C n) (W := W) (J := J0) (pos := pos) (ownOf k.N vs) mono0 ok.calm (by rw [ok.N]; exact ok.nd) (hi n X W ok) (by rw [ok.N, ok.sc]; exact blkOk_by h1) (fun s H D cl fp => hg n _ WF (ok.blk scope s H D cl fp)) (fun s H D cl fp => he n _ WF (ok.blk scope s H D cl fp))
    (by rw [own_vs]; exact fun i hi => List.contains_iff_mem.mp (List.all_eq_true.mp h2 i hi)) (fold_ok h3)
  rw [own_vs] at r
  exact r
theorem q_lc1 {elt tg it c : Expr} {t' : Tg} {it' c' e' : E} {vs : List Nat} {scope : Scope} {pos : Pos} (hi : QI p k tg it it') (hg : QG p (k.blk scope) tg t') (hc : QT p (k.blk scope) c c') (he : QE p (k.blk scope) elt e') (h : (blkC k.N k.sc scope (ownOf k.N vs) && ((slotsT t').all (fun i => vs.contains i) && nset it)) = true) :
    QE p k (.ListComp elt [⟨tg, it, [c], 0⟩] scope pos) (.lc vs t' it' c' e') := fun n X W ok => by
  obtain ⟨h1, h2⟩ := Bool.and_eq_true_iff.mp h
  obtain ⟨h2, h3⟩ := Bool.and_eq_true_iff.mp h2
  have r := pd_lc1 (X := X) (T := p.T X.K) (C := p.C n) (W := W) (J := J0) (pos := pos) (ownOf k.N vs) mono0 ok.calm (by rw [ok.N]; exact ok.nd) (hi n X W ok) (by rw [ok.N, ok.sc]; exact blkOk_by h1) (fun s H D cl fp => hg n _ WF (ok.blk scope s H D cl fp)) (fun s H D cl fp => hc n _ WF (ok.blk scope s H D cl fp)) (fun s H D cl fp => he n _ WF (ok.blk scope s H D cl fp))
    (by rw [own_vs]; exact fun i hi => List.contains_iff_mem.mp (List.all_eq_true.mp h2 i hi)) (fold_ok h3)
  rw [own_vs] at r
  exact r
theorem q_sl0 {elt tg it : Expr} {t' : Tg} {it' e' : E} {vs : List Nat} {scope : Scope} {pos : Pos} {i : Nat} {y : Str} {py spos : Pos} (hi : QI p k tg it it') (hg : QG p (k.blk scope) tg t') (he : QE p (k.blk scope) elt e') (h : (blkC k.N k.sc scope (ownOf k.N vs) && ((slotsT t').all (fun i => vs.contains i) && nset it)) = true)
    (hy : k.N[i]? = some y) (hs : swB k.sc y py pos scope = true) {n : Nat} {X : Cx} {W : WX} (ok : SxOk p n k X W) :
    PSd X (p.T X.K) (p.C n) W (.Assign [.Name y py] (.ListComp elt [⟨tg, it, [], 0⟩] scope pos) spos) (.asg (.nm i) (.lc vs t' it' (.cst (.bl true)) e')) := by
  obtain ⟨h1, h2⟩ := Bool.and_eq_true_iff.mp h
  obtain ⟨h2, h3⟩ := Bool.and_eq_true_iff.mp h2
  have ok' := ok.toCxOk
  have hl : k.sc.names.lookup y = some .local := by
    unfold swB at hs
    simp only [Bool.and_eq_true] at hs
    exact beq_iff_eq.mp hs.1.1
  have r := sd_lc0 (X := X) (T := p.T X.K) (C := p.C n) (W := W) (pos := pos) (py := py) (spos := spos) i (ownOf k.N vs) ok.calm (by rw [ok.N]; exact ok.nd) (by rw [sw_name (by rw [ok.sc]; exact ok.knd), ok.sc, hs]) (hi n X W ok') (by rw [ok.N, ok.sc]; exact blkOk_by h1) (fun s H D cl fp => hg n _ WF (ok'.blk scope s H D cl fp)) (fun s H D cl fp => he n _ WF (ok'.blk scope s H D cl fp))
    (by rw [own_vs]; exact fun i hi => List.contains_iff_mem.mp (List.all_eq_true.mp h2 i hi)) (by rw [ok.N]; exact hy) (by rw [ok.sc]; exact hl) (fold_ok h3)
  rw [own_vs] at r
  exact r
theorem q_sl1 {elt tg it c : Expr} {t' : Tg} {it' c' e' : E} {vs : List Nat} {scope : Scope} {pos : Pos} {i : Nat} {y : Str} {py spos : Pos} (hi : QI p k tg it it') (hg : QG p (k.blk scope) tg t') (hc : QT p (k.blk scope) c c') (he : QE p (k.blk scope) elt e') (h : (blkC k.N k.sc scope (ownOf k.N vs) && ((slotsT t').all (fun i => vs.contains i) && nset it)) = true)
    (hy : k.N[i]? = some y) (hs : swB k.sc y py pos scope = true) {n : Nat} {X : Cx} {W : WX} (ok : SxOk p n k X W) :
    PSd X (p.T X.K) (p.C n) W (.Assign [.Name y py] (.ListComp elt [⟨tg, it, [c], 0⟩] scope pos) spos) (.asg (.nm i) (.lc vs t' it' c' e')) := by
  obtain ⟨h1, h2⟩ := Bool.and_eq_true_iff.mp h
  obtain ⟨h2, h3⟩ := Bool.and_eq_true_iff.mp h2
  have ok' := ok.toCxOk
  have hl : k.sc.names.lookup y = some .local := by
    unfold swB at hs
    simp only [Bool.and_eq_true] at hs
    exact beq_iff_eq.mp hs.1.1
  have r := sd_lc1 (X := X) (T := p.T X.K) (C := p.C n) (W := W) (pos := pos) (py := py) (spos := spos) i (ownOf k.N vs) ok.calm (by rw [ok.N]; exact ok.nd) (by rw [sw_name (by rw [ok.sc]; exact ok.knd), ok.sc, hs]) (hi n X W ok') (by rw [ok.N, ok.sc]; exact blkOk_by h1) (fun s H D cl fp => hg n _ WF (ok'.blk scope s H D cl fp)) (fun s H D cl fp => hc n _ WF (ok'.blk scope s H D cl fp)) (fun s H D cl fp => he n _ WF (ok'.blk scope s H D cl fp))
    (by rw [own_vs]; exact fun i hi => List.contains_iff_mem.mp (List.all_eq_true.mp h2 i hi)) (by rw [ok.N]; exact hy) (by rw [ok.sc]; exact hl) (fold_ok h3)
  rw [own_vs] at r
  exact r
theorem q_call {a : E} {i : Nat} {d : DF} {x : Str} {q pos : Pos} {es : List Expr} (hd : p.df[i]? = some d) (h : (decide (d.d.at_ = (x, none)) && (glB k.sc x && (ndb x && es.all nst))) = true) (ha : QL p k es a) (h0 : es = [] → a = .nil) : QE p k (.Call (.Name x q) es [] pos) (.call i a) := fun n X W ok => by
  obtain ⟨h1, g2⟩ := Bool.and_eq_true_iff.mp h
  obtain ⟨h2, g3⟩ := Bool.and_eq_true_iff.mp g2
  obtain ⟨h3, h4⟩ := Bool.and_eq_true_iff.mp g3
  have D := ok.def_ hd (of_decide_eq_true h1)
  cases es with
  | nil =>
    rw [h0 rfl]
    exact pd_call0 mono0 ok.tk ok.room4 D (ok.gl h2) (of_decide_eq_true h3)
  | cons e es =>
    obtain ⟨h5, h6⟩ := Bool.and_eq_true_iff.mp (show (nst e && es.all nst) = true from h4)
    exact pd_call mono0 ok.tk ok.room4 D (ok.gl h2) (ha n X W ok) (of_decide_eq_true h3) (star_cons h5) (star_any h6)
theorem q_callm {a : E} {i : Nat} {d : DF} {x : Str} {q pos : Pos} {e : Expr} {es : List Expr} (hd : p.df[i]? = some d) (h : (decide (d.d.at_ = (x, none)) && (glB k.sc x && (ndb x && (e :: es).all nst))) = true) (ha : QL p k (e :: es) a) : QE p k (.Call (.Name x q) (e :: es) [] pos) (.callm i a) := fun n X W ok => by
  obtain ⟨h1, g2⟩ := Bool.and_eq_true_iff.mp h
  obtain ⟨h2, g3⟩ := Bool.and_eq_true_iff.mp g2
  obtain ⟨h3, h4⟩ := Bool.and_eq_true_iff.mp g3
  have D := ok.def_ hd (of_decide_eq_true h1)
  obtain ⟨h5, h6⟩ := Bool.and_eq_true_iff.mp (show (nst e && es.all nst) = true from h4)
  exact pd_callm mono0 ok.tk ok.room4 D (ok.gl h2) (ha n X W ok) (of_decide_eq_true h3) (star_cons h5) (star_any h6)
theorem q_calln {a : E} {i : Nat} {d : DF} {x : Str} {q pos : Pos} {e : Expr} {es : List Expr} (hd : p.df[i]? = some d) (h : (decide (d.d.at_ = (x, none)) && (glB k.sc x && (ndb x && (e :: es).all nst))) = true) (ha : QL p k (e :: es) a) : QE p k (.Call (.Name x q) (e :: es) [] pos) (.calln i a) := fun n X W ok => by
  obtain ⟨h1, g2⟩ := Bool.and_eq_true_iff.mp h
  obtain ⟨h2, g3⟩ := Bool.and_eq_true_iff.mp g2
  obtain ⟨h3, h4⟩ := Bool.and_eq_true_iff.mp g3
  have D := ok.def_ hd (of_decide_eq_true h1)
  obtain ⟨h5, h6⟩ := Bool.and_eq_true_iff.mp (show (nst e && es.all nst) = true from h4)
  exact pd_calln mono0 ok.tk ok.room4 D (ok.gl h2) (ha n X W ok) (of_decide_eq_true h3) (star_cons h5) (star_any h6)
theorem mkr_er {n c : Nat} {fl : List Nat} (h : p.er.lookup c = some fl) : (p.C n).mkr c = xmk c fl := by
  show (match p.er.lookup c with
    | some fl => xmk c fl
    | none => _) = _
  rw [h]
theorem mkr_ini {n c i : Nat} (h0 : p.er.lookup c = none) (h : p.ini.lookup c = some i) : (p.C n).mkr c = mkP ((p.C n).fm i) c := by
  show (match p.er.lookup c with
    | some fl => xmk c fl
    | none => match p.ini.lookup c with
      | some i => mkP (p.fm n i) c
      | none => fun _ => .no) = _
  rw [h0, h]
  rfl
theorem cs_lt {c : Nat} {x : Str} (h : p.cs[c]?.map (·.1) = some x) : c < p.cs.length ∧ ∀ K, (p.T K).cn c = x := by
  constructor
  · cases e : p.cs[c]? with
    | none => rw [e] at h; cases h
    | some q => exact (List.getElem?_eq_some_iff.mp e).1
  · intro K
    show (p.cs[c]?.map (·.1)).getD ("" : Str) = x
    rw [h]
    rfl
theorem q_makeX {a : E} {c : Nat} {fl : List Nat} {x : Str} {q pos : Pos} {es : List Expr} (hc : p.er.lookup c = some fl) (h : (decide (p.cs[c]?.map (·.1) = some x) && (glB k.sc x && (ndb x && es.all nst))) = true) (ha : QL p k es a) (h0 : es = [] → a = .nil) : QE p k (.Call (.Name x q) es [] pos) (.make c a) := fun n X W ok => by
  obtain ⟨h1, g2⟩ := Bool.and_eq_true_iff.mp h
  obtain ⟨h2, g3⟩ := Bool.and_eq_true_iff.mp g2
  obtain ⟨h3, h4⟩ := Bool.and_eq_true_iff.mp g3
  obtain ⟨_, hx⟩ := cs_lt (of_decide_eq_true h1)
  obtain ⟨ix, ps, Z⟩ := ok.gf.er c fl hc
  rw [hx] at Z
  cases es with
  | nil =>
    rw [h0 rfl]
    exact pd_makeX0 mono0 Z ix rfl (mkr_er hc) ok.room (ok.gl h2) (of_decide_eq_true h3)
  | cons e es =>
    obtain ⟨h5, h6⟩ := Bool.and_eq_true_iff.mp (show (nst e && es.all nst) = true from h4)
    exact pd_makeX mono0 Z ix rfl (mkr_er hc) ok.room (ok.gl h2) (ha n X W ok) (of_decide_eq_true h3) (star_cons h5) (star_any h6)
theorem q_make {a : E} {c i : Nat} {x : Str} {q pos : Pos} {e : Expr} {es : List Expr} (hc0 : p.er.lookup c = none) (hc : p.ini.lookup c = some i) (h : (decide (p.cs[c]?.map (·.1) = some x) && (glB k.sc x && (ndb x && (e :: es).all nst))) = true) (ha : QL p k (e :: es) a) : QE p k (.Call (.Name x q) (e :: es) [] pos) (.make c a) := fun n X W ok => by
  obtain ⟨h1, g2⟩ := Bool.and_eq_true_iff.mp h
  obtain ⟨h2, g3⟩ := Bool.and_eq_true_iff.mp g2
  obtain ⟨h3, h4⟩ := Bool.and_eq_true_iff.mp g3
  obtain ⟨hl, hx⟩ := cs_lt (of_decide_eq_true h1)
  have M := ok.make hc hl
  rw [hx] at M
  obtain ⟨h5, h6⟩ := Bool.and_eq_true_iff.mp (show (nst e && es.all nst) = true from h4)
  exact pd_make mono0 ok.tk M (mkr_ini hc0 hc) ok.room5 (ok.gl h2) (ha n X W ok) (of_decide_eq_true h3) (star_cons h5) (star_any h6)
theorem ms_lt {g : Nat} {m : Str} (h : p.ms[g]? = some m) : g < p.ms.length ∧ ∀ K, (p.T K).mn g = m := by
  refine ⟨(List.getElem?_eq_some_iff.mp h).1, fun K => ?_⟩
  show p.ms[g]?.getD ("" : Str) = m
  rw [h]
  rfl
theorem q_meth {a : Expr} {a' r : E} {g : Nat} {m : Str} {apos pos : Pos} {es : List Expr} (h : (decide (p.ms[g]? = some m) && (nosup a && (es.all nst && (decide (es.length < 30) && (apos.endLine == pos.line))))) = true) (ha : QE p k a a') (hr : QL p k es r) (h0 : es = [] → r = .nil) : QE p k (.Call (.Attribute a m apos) es [] pos) (.meth g a' r) := fun n X W ok => by
  obtain ⟨h1, g2⟩ := Bool.and_eq_true_iff.mp h
  obtain ⟨h2, g3⟩ := Bool.and_eq_true_iff.mp g2
  obtain ⟨h3, g4⟩ := Bool.and_eq_true_iff.mp g3
  obtain ⟨h4, h5⟩ := Bool.and_eq_true_iff.mp g4
  obtain ⟨hl, hm⟩ := ms_lt (of_decide_eq_true h1)
  have fm := meth_form (m := m) (env := X.env) h2 h3 (of_decide_eq_true h4) h5
  cases es with
  | nil =>
    rw [h0 rfl]
    exact pd_meth0 mono0 ok.tk ok.room4 (ok.gf.mn g hl) ok.meth (ha n X W ok) (hm X.K) fm
  | cons e es =>
    obtain ⟨h6, h7⟩ := Bool.and_eq_true_iff.mp (show (nst e && es.all nst) = true from h3)
    exact pd_meth mono0 ok.tk ok.room4 (ok.gf.mn g hl) ok.meth (ha n X W ok) (hr n X W ok) (hm X.K) (star_cons h6) (star_any h7) fm
theorem q_eqo {a b : Expr} {a' b' : E} {g : Nat} {pos : Pos} (h : (decide (p.ms[g]? = some "__eq__") && nset b) = true) (ha : QE p k a a') (hb : QE p k b b') : QE p k (.Compare a [.Eq] [b] pos) (.eqo g a' b') := fun n X W ok => by
  obtain ⟨h1, h2⟩ := Bool.and_eq_true_iff.mp h
  obtain ⟨hl, hm⟩ := ms_lt (of_decide_eq_true h1)
  exact pd_eqo mono0 ok.tk ok.room4 (ok.gf.isF _ rfl) ok.meth (hm X.K) (fun j c r f hf hi => ok.gf.nf j c r g f hf (hm X.K) hi) (ha n X W ok) (hb n X W ok) (mark_ok h2)
theorem q_neo {a b : Expr} {a' b' : E} {g : Nat} {pos : Pos} (h : (decide (p.ms[g]? = some "__eq__") && nset b) = true) (ha : QE p k a a') (hb : QE p k b b') : QE p k (.Compare a [.NotEq] [b] pos) (.not_ (.eqo g a' b')) := fun n X W ok => by
  obtain ⟨h1, h2⟩ := Bool.and_eq_true_iff.mp h
  obtain ⟨hl, hm⟩ := ms_lt (of_decide_eq_true h1)
  exact pd_neo mono0 ok.tk ok.room5 (ok.gf.isF _ rfl) ok.meth (hm X.K) (fun j c r f hf hi => ok.gf.nf j c r g f hf (hm X.K) hi) (fun c f hf => ok.gf.ne c g f hf (hm X.K)) (ha n X W ok) (hb n X W ok) (mark_ok h2)
theorem fs_lt {f : Nat} {m : Str} (h : p.fs[f]? = some m) : ∀ K, (p.T K).fn f = m := fun K => by
  show p.fs[f]?.getD ("" : Str) = m
  rw [h]
  rfl
theorem q_isi {a y : Expr} {a' : E} {t : Nat} {q pos : Pos} (h : (p.free.contains ("isinstance" : Str) && (glB k.sc "isinstance" && (nst a && nst y))) = true) (ha : QE p k a a') (hy : QC p k y t) : QE p k (.Call (.Name "isinstance" q) [a, y] [] pos) (.isi a' [t]) := fun n X W ok => by
  obtain ⟨h1, g2⟩ := Bool.and_eq_true_iff.mp h
  obtain ⟨h2, g3⟩ := Bool.and_eq_true_iff.mp g2
  obtain ⟨h3, h4⟩ := Bool.and_eq_true_iff.mp g3
  exact pd_isi mono0 (ok.gf.isF _ rfl) (ok.gl h2) (ok.gf.free _ h1) (ha n X W ok) (hy n X W ok) (star_cons h3) (star_cons h4) (star_any (by simpa using h4))
theorem q_isiM {a : Expr} {a' : E} {t : Nat} {ts : List Nat} {es : List Expr} {kk : Nat} {tp q pos : Pos} (h : (p.free.contains ("isinstance" : Str) && (glB k.sc "isinstance" && (nst a && decide ((t :: ts).length ≤ 100)))) = true) (ha : QE p k a a') (hy : QCs p k es (t :: ts)) : QE p k (.Call (.Name "isinstance" q) [a, .Tuple es kk tp] [] pos) (.isi a' (t :: ts)) := fun n X W ok => by
  obtain ⟨h1, g2⟩ := Bool.and_eq_true_iff.mp h
  obtain ⟨h2, g3⟩ := Bool.and_eq_true_iff.mp g2
  obtain ⟨h3, h4⟩ := Bool.and_eq_true_iff.mp g3
  exact pd_isiM mono0 (ok.gf.isF _ rfl) (ok.gl h2) (ok.gf.free _ h1) (ha n X W ok) (hy n X W ok) rfl (of_decide_eq_true h4) (star_cons h3) (star_cons rfl) (star_any rfl)
end
end At

/-! The look at what a handler returns. -/
namespace At
open PySem L2 Evl
open PySem.W PySem.Calls PyProof.Rows
/-! ### what a handler returns -/
def QHE (p : PJ) (k : Kx) (i c : Nat) (e : Expr) (h : E) : Prop := ∀ (n : Nat) (X : Cx) (W : WX), CxOk p n k X W → Hd X (p.T X.K) (p.C n) i c e h
def QHL (p : PJ) (k : Kx) (i c : Nat) (es : List Expr) (h : E) : Prop := ∀ (n : Nat) (X : Cx) (W : WX), CxOk p n k X W → ∀ (a : Addr) (oe : Obj) (c' : Nat) (d : Option Addr) (pn : List (Addr × Obj)) (fs : List (Nat × D)), Zc (.ref (cl X.K (p.T X.K) c')) d oe → (∃ vs, oe.data = .fields vs) → (p.C n).isa (20 + c') (20 + c) = some true → PDs (X.suite a ((a, oe) :: pn)) (p.T X.K) (p.C n) WF (JX X.K (p.T X.K) a i d fs) es (sbE fs h)
structure Hk (p : PJ) (k : Kx) (i c : Nat) (h : E) where
  hE : (e : Expr) → Evd (QHE p k i c e h) := fun _ => none
  hL : (es : List Expr) → Evd (QHL p k i c es h) := fun _ => none
def hasF (p : PJ) (c f : Nat) : Bool := p.isa.all fun r => if r.1 < 20 then true else if r.2.lookup (20 + c) = some true then fldT p.fld (r.1 - 20) f else true
theorem hasF_ok {p : PJ} {c f c' : Nat} (h : hasF p c f = true) (hi : isaT p.isa (20 + c') (20 + c) = some true) : fldT p.fld c' f = true := by
  obtain ⟨r, h1, h2⟩ := Option.bind_eq_some_iff.mp (show (p.isa.lookup (20 + c')).bind (fun r => r.lookup (20 + c)) = some true from hi)
  have g := List.all_eq_true.mp h _ (lookup_mem h1)
  dsimp only at g
  rw [if_neg (by omega), if_pos h2] at g
  have : 20 + c' - 20 = c' := by omega
  rw [this] at g
  exact g
def cH (p : PJ) (k : Kx) (i c : Nat) : (h : E) → Hk p k i c h
  | .cst d => { hE := (fun e => match e with
      | .Constant q _ _ => (match q, d with
        | .int a, .int b => need (decide (a = b)) fun h n X W ok => by
          cases of_decide_eq_true h
          exact ⟨fun _ _ _ _ _ _ _ _ _ => pd_int⟩
        | .bool a, .bl b => need (decide (a = b)) fun h n X W ok => by
          cases of_decide_eq_true h
          exact ⟨fun _ _ _ _ _ _ _ _ _ => pd_bl⟩
        | .none, .non => some ⟨fun n X W ok => ⟨fun _ _ _ _ _ _ _ _ _ => pd_non⟩⟩
        | .str x, .str l => need (strB l x) fun h n X W ok => by
          obtain ⟨h1, h2⟩ := Bool.and_eq_true_iff.mp h
          exact ⟨fun _ _ _ _ _ _ _ _ _ => pd_str (of_decide_eq_true h1) h2⟩
        | _, _ => none)
      | _ => none) }
  | .exf f => { hE := (fun e => match e with
      | .Attribute (.Name x _) m _ => need (decide (p.fs[f]? = some m) && (decide (k.N[i]? = some x) && (visB k.sc x && (ndb x && (ncd x && (((p.cs[c]?.map (·.2)).getD false) && hasF p c f)))))) fun h n X W ok => by
        obtain ⟨h1, g2⟩ := Bool.and_eq_true_iff.mp h
        obtain ⟨h2, g3⟩ := Bool.and_eq_true_iff.mp g2
        obtain ⟨h3, g4⟩ := Bool.and_eq_true_iff.mp g3
        obtain ⟨h4, g5⟩ := Bool.and_eq_true_iff.mp g4
        obtain ⟨h5, g6⟩ := Bool.and_eq_true_iff.mp g5
        obtain ⟨h6, h7⟩ := Bool.and_eq_true_iff.mp g6
        have ix : (p.T X.K).ix c = true := by
          show (p.cs[c]?.map (·.2)).getD true = true
          cases e : p.cs[c]?.map (·.2) with
          | none => rfl
          | some b =>
            rw [e] at h6
            exact h6
        exact ⟨fun a oe c' d pn fs hz hf hi => pd_exf (k := 0) (ok.gf.at_ c' f (hasF_ok h7 hi)) (ok.gf.xrow c c' true ix hi) hz hf (fs_lt (of_decide_eq_true h1) X.K) (by rw [ok.N]; exact of_decide_eq_true h2) (by rw [ok.sc]; exact visB_ok h3) (of_decide_eq_true h4) (of_decide_eq_true h5) (base_ok rfl)⟩
      | _ => none) }
  | .tup a => { hE := (fun e => match e with
      | .Tuple es _ _ => bE ((cH p k i c a).hL es) fun u => some ⟨fun n X W ok => ⟨fun a oe c' d pn fs hz hf hi => pd_tup monoX (u n X W ok a oe c' d pn fs hz hf hi)⟩⟩
      | _ => none) }
  | .nil => { hL := (fun es => match es with
      | [] => some ⟨fun n X W ok a oe c' d pn fs hz hf hi => pds_nil⟩
      | _ => none) }
  | .cons a r => { hL := (fun es => match es with
      | e :: es => bE ((cH p k i c a).hE e) fun u => bE ((cH p k i c r).hL es) fun v => need (nst e) fun h n X W ok a oe c' d pn fs hz hf hi => pds_cons monoX ((u n X W ok).go a oe c' d pn fs hz hf hi) (v n X W ok a oe c' d pn fs hz hf hi) (star_cons h)
      | _ => none) }
  | _ => {}
end At

/-! A lambda handed to a def that calls it and meets an error. -/
namespace At
open PySem L2 Evl
open PySem.W PySem.Calls PyProof.Rows
mutual
theorem ev_hv {C : CE} {fs : List (Nat × D)} {ρ : Ro} {m : Mu} : ∀ {h : E} {d : D}, hvE fs h = some d → ev C (sbE fs h) ρ m = .ok (.v d) m
  | .cst d, _, e => by
    cases e
    rw [sbE, ev] <;> first | rfl | (intro; intros; contradiction)
  | .exf f, d, e => by
    have e' : fs.lookup f = some d := e
    show ev C (fE (fs.lookup f)) ρ m = _
    rw [e']
    unfold fE
    rw [ev]
  | .tup a, d, e => by
    obtain ⟨ds, e1, e2⟩ := Option.bind_eq_some_iff.mp (show ((hvL fs a).bind fun ds => if ds.length ≤ lim then some (D.tup ds) else none) = some d from e)
    by_cases c : ds.length ≤ lim
    · rw [if_pos c] at e2
      cases e2
      show ev C (.tup (sbE fs a)) ρ m = _
      rw [ev, evs_hv e1]
      have hp : plainU (ds.map U.v) = some ds := by
        clear e1 c e
        induction ds with
        | nil => rfl
        | cons d ds ih =>
          show (plainU (ds.map U.v)).map (d :: ·) = _
          rw [ih]
          rfl
      dsimp only [R.bnd]
      rw [hp]
      dsimp only
      rw [if_pos c]
    · rw [if_neg c] at e2
      cases e2
  | .var _, _, e => by cases e
  | .nil, _, e => by cases e
  | .cons _ _, _, e => by cases e
  | .op _ _ _, _, e => by cases e
  | .cmp _ _ _, _, e => by cases e
  | .chain _ _ _ _ _, _, e => by cases e
  | .un _ _, _, e => by cases e
  | .and_ _ _, _, e => by cases e
  | .or_ _ _, _, e => by cases e
  | .not_ _, _, e => by cases e
  | .ifx _ _ _, _, e => by cases e
  | .lst _, _, e => by cases e
  | .new _, _, e => by cases e
  | .frz _, _, e => by cases e
  | .idx _ _, _, e => by cases e
  | .slc _ _ _, _, e => by cases e
  | .opt _, _, e => by cases e
  | .call _ _, _, e => by cases e
  | .callm _ _, _, e => by cases e
  | .calln _ _, _, e => by cases e
  | .make _ _, _, e => by cases e
  | .meth _ _ _, _, e => by cases e
  | .attr _ _, _, e => by cases e
  | .isi _ _, _, e => by cases e
  | .count _ _, _, e => by cases e
  | .pop0 _, _, e => by cases e
  | .pop _, _, e => by cases e
  | .join _ _, _, e => by cases e
  | .fst _, _, e => by cases e
  | .rev _, _, e => by cases e
  | .eqo _ _ _, _, e => by cases e
  | .lc _ _ _ _ _, _, e => by cases e
  | .seq _, _, e => by cases e
  | .enum _, _, e => by cases e
  | .rng _, _, e => by cases e
  | .rng2 _ _, _, e => by cases e
  | .zip _ _, _, e => by cases e
  | .hdl _ _ _, _, e => by cases e
  | .lamt _ _, _, e => by cases e
theorem evs_hv {C : CE} {fs : List (Nat × D)} {ρ : Ro} {m : Mu} : ∀ {h : E} {ds : List D}, hvL fs h = some ds → evs C (sbE fs h) ρ m = .ok (ds.map U.v) m
  | .nil, _, e => by
    cases e
    show evs C .nil ρ m = _
    rw [evs] <;> rfl
  | .cons a r, ds, e => by
    have e' : (match hvE fs a, hvL fs r with
      | some d, some ds => some (d :: ds)
      | _, _ => none) = some ds := e
    cases h1 : hvE fs a with
    | none =>
      rw [h1] at e'
      cases e'
    | some d =>
      cases h2 : hvL fs r with
      | none =>
        rw [h1, h2] at e'
        cases e'
      | some dr =>
        rw [h1, h2] at e'
        cases e'
        show evs C (.cons (sbE fs a) (sbE fs r)) ρ m = _
        rw [evs, ev_hv h1]
        dsimp only [R.bnd]
        rw [evs_hv h2]
        rfl
  | .cst _, _, e => by cases e
  | .exf _, _, e => by cases e
  | .tup _, _, e => by cases e
  | .var _, _, e => by cases e
  | .op _ _ _, _, e => by cases e
  | .cmp _ _ _, _, e => by cases e
  | .chain _ _ _ _ _, _, e => by cases e
  | .un _ _, _, e => by cases e
  | .and_ _ _, _, e => by cases e
  | .or_ _ _, _, e => by cases e
  | .not_ _, _, e => by cases e
  | .ifx _ _ _, _, e => by cases e
  | .lst _, _, e => by cases e
  | .new _, _, e => by cases e
  | .frz _, _, e => by cases e
  | .idx _ _, _, e => by cases e
  | .slc _ _ _, _, e => by cases e
  | .opt _, _, e => by cases e
  | .call _ _, _, e => by cases e
  | .callm _ _, _, e => by cases e
  | .calln _ _, _, e => by cases e
  | .make _ _, _, e => by cases e
  | .meth _ _ _, _, e => by cases e
  | .attr _ _, _, e => by cases e
  | .isi _ _, _, e => by cases e
  | .count _ _, _, e => by cases e
  | .pop0 _, _, e => by cases e
  | .pop _, _, e => by cases e
  | .join _ _, _, e => by cases e
  | .fst _, _, e => by cases e
  | .rev _, _, e => by cases e
  | .eqo _ _ _, _, e => by cases e
  | .lc _ _ _ _ _, _, e => by cases e
  | .seq _, _, e => by cases e
  | .enum _, _, e => by cases e
  | .rng _, _, e => by cases e
  | .rng2 _ _, _, e => by cases e
  | .zip _ _, _, e => by cases e
  | .hdl _ _ _, _, e => by cases e
  | .lamt _ _, _, e => by cases e
end
section
variable {K : Fg} {T : Tb} {C : CE} {π : Nat → Addr} {B H H1 : Hp} {m : Mu}
theorem ext_step (s : Sto K T π B H m) (e : LamX.ExtN H H1) (t : LamX.Tabs T.tabs H1) : Step K T π B H m π B H1 m := by
  have ex : Ex B H1 := fun a o h => e a o (s.ex a o h) fun ps z => s.nt a ps (by rw [← z]; exact h)
  refine ⟨⟨ex, s.inj, fun k hk => ?_, fun k x hx => ?_, t, s.nt⟩, fun _ _ => rfl, Nat.le_refl _, Ex.refl B, fun a o h ht _ => e a o h ht, fun k h1 h2 => absurd h2 (Nat.not_lt.mpr h1), fun _ _ _ _ _ _ => rfl⟩
  · obtain ⟨o, h, n, ht⟩ := s.dom k hk
    exact ⟨o, e _ _ h ht, n, ht⟩
  · have h := s.cell k x hx
    cases x with
    | lst us =>
      obtain ⟨h1, xs, h2, h3, h4⟩ := h
      exact ⟨h1, xs, e _ _ h2 (fun _ z => nomatch z), h3, h4⟩
    | obj c fs =>
      obtain ⟨h1, hi, dx, fv, h2, h3, h4⟩ := h
      exact ⟨h1, hi, dx, fv, e _ _ h2 (fun _ z => nomatch z), e _ _ h3 (fun _ z => nomatch z), h4⟩
    | fz d => exact h
/-- the error that the handler of class k meets -/
def Ech (K : Fg) (T : Tb) (C : CE) (k : Nat) (h : E) (Q : VK) : XK := fun cls d H' => ∃ c' fs dd xs π B m, cls = .ref (cl K T c') ∧ d = some dd ∧ C.isa (20 + c') (20 + k) = some true ∧ Sto K T π B H' m ∧ B dd = some (.xd xs) ∧ Rpf K T B xs fs ∧ ∀ ρ, Want (RU K T) K T WF [] π B H' m (ev C (sbE fs h) ρ m) Q
def TTh (K : Fg) (T : Tb) (C : CE) (k : Nat) (h : E) : (XK → Hp → VK → Prop) → Hp → VK → Prop := fun tl H Q => tl (Ech K T C k h Q) H Q
theorem want_wf {σ : L2.St} {r : R U} {Q : VK} (w : Want (RU K T) K T WF [] π B H m r Q) : Want (RU K T) K T WF σ π B H m r Q := by
  cases r with
  | ok u m' => exact w
  | ex c fs m' => exact w
  | no => exact w
end
section
variable {X : Cx} {T : Tb} {C : CE} {W : WX}
theorem lam_gives {Ng : List Str} {x a q n y : Str} {sg : Scope} {g : Addr} {cdg : Value} {i k : Nat} {eh : Expr} {h : E} {p1 p2 p3 p4 p6 p7 p8 : Pos} (hexm : ∀ c' b, C.isa (20 + c') (20 + k) = some b → exmOne X.K (.ref (cl X.K T c')) (.ref (cl X.K T k)) = some b)
    (hgy : sg.names.lookup y = some .globalImplicit) (hmy : X.mg y = some (.ref (cl X.K T k))) (hdy : (y == ("__debug__" : Str)) = false) (hNd : Ng.Nodup) (hi : Ng[i]? = some n) (hln : sg.names.lookup n = some .local) (h0 : ∀ f : Addr, (L2.start Ng [V.ref f])[0]? = some (some (V.ref f)))
    (hh : ∀ s H, Hd (cxOf C8.CX0 X.prog X.w X.K X.mg X.base Ng x sg g cdg X.A X.stack s H C8.E0).nox T C i k eh h) :
    LamX.GivesTo X Ng x sg g cdg [.Try [.Return (some (.Call (.Name a p1) [] [] p2)) p3] [.ExceptHandler (some (.Name y p4)) (some n) [.Return (some eh) p6] p7] [] [] p8] a q (TTh X.K T C k h) := by
  intro f c' s H Q tl act hc ht
  have hgl : Gl (cxOf C8.CX0 X.prog X.w X.K X.mg X.base Ng x sg g cdg X.A X.stack s H C8.E0).nox y := hgy
  refine ⟨_, pss_one (ps_try_as (X := (cxOf C8.CX0 X.prog X.w X.K X.mg X.base Ng x sg g cdg X.A X.stack s H C8.E0).nox) (c := .ref (cl X.K T k)) (i := i)
    (tb := fun W D σ H => ∃ En : XK, (∀ cls d σ' H', En cls d H' → W cls d σ' H') ∧ σ[0]? = some (some (.ref f)) ∧ H c' = some (LamX.CodeO c' q) ∧ tl En H D.rt)
    (ts := fun a cls d => fun D σ H => ∃ c' fs, cls = .ref (cl X.K T c') ∧ C.isa (20 + c') (20 + k) = some true ∧ tRet (tE X.K T C WF (JX X.K T a i d fs) (sbE fs h)) D σ H) (Wout := fun _ _ _ _ => False)
    rfl rfl hNd hi hln ⟨hgl, hdy, .inl hmy⟩ LamX.takes0 (fun W pn xe tk _ => ⟨fun pins s' σ H' D I h' => ?_⟩) (fun a oe cls d pn hz hf => ⟨fun pins s σ H D I ⟨c', fs, ec, hisa, q⟩ => ?_⟩)), ?_⟩
  · obtain ⟨En, hW, g1, g2, g3⟩ := h'
    exact (pss_one (ps_ret (pos := p3) (act W pn xe En p1 p2 tk hW))).run pins s' σ H' D I ⟨g1, g2, g3⟩
  · subst ec
    exact (pss_one (ps_ret ((hh _ _).go a oe c' d pn fs hz hf hisa))).run pins s σ H D I q
  · refine ⟨Ech X.K T C k h Q, fun cls d σ' H' ⟨c2, fs, dd, xs, π, B, m, e1, e2, e3, st, hB, rf, w⟩ => ⟨true, by rw [e1]; exact hexm c2 true e3, fun _ a ha => ⟨c2, fs, e1, e3, ?_⟩, fun z => nomatch z⟩, h0 f, hc, ht⟩
    refine ⟨π, B, m, List.replicate (σ'.set i (some (.ref a))).length none, ⟨st, ⟨by rw [List.length_replicate], fun j u hj => ?_⟩, fun hl => ?_, dd, xs, e2, hB, rf⟩, want_wf (w _)⟩
    · rw [List.getElem?_replicate] at hj
      split at hj <;> cases hj
    · rw [List.length_set] at hl
      rw [List.getElem?_set_self hl]
theorem pd_lamt {x a n y : Str} {g : Addr} {fd : FuncData} {pg : Arguments} {bg : List Stmt} {sg : Scope} {Ng : List Str} {i k k0 : Nat} {eh body : Expr} {h e' : E} {scope : Scope} {p lpos pos p1 p2 p3 p4 p6 p7 p8 : Pos} (F : FunD X.K x x pg bg sg [] [] g fd) (hbg : bg = [.Try [.Return (some (.Call (.Name a p1) [] [] p2)) p3] [.ExceptHandler (some (.Name y p4)) (some n) [.Return (some eh) p6] p7] [] [] p8])
    (hb : L2.Binds X.K fd [a] []) (Sg : FnScope Ng [a] sg) (hNg : Ng[0]? = some a) (hva : Vis sg a) (hg : Gl X x) (hm : X.mg x = some (.ref g)) (hdb : (x == ("__debug__" : Str)) = false) (hda : (a == ("__debug__" : Str)) = false) (hca : (a == ("__classdict__" : Str)) = false)
    (hexm : ∀ c' b, C.isa (20 + c') (20 + k) = some b → exmOne X.K (.ref (cl X.K T c')) (.ref (cl X.K T k)) = some b) (hgy : sg.names.lookup y = some .globalImplicit) (hmy : X.mg y = some (.ref (cl X.K T k))) (hdy : (y == ("__debug__" : Str)) = false) (hi : Ng[i]? = some n) (hln : sg.names.lookup n = some .local)
    (hh : ∀ cdg s H, Hd (cxOf C8.CX0 X.prog X.w X.K X.mg X.base Ng x sg g cdg X.A X.stack s H C8.E0).nox T C i k eh h) (lf : ∃ c P, X.env.code = .ref c ∧ LamX.TabB X.base X.mg c P ∧ (P, X.env.qual ++ "<lambda>") ∈ T.tabs ∧ ∀ q ∈ T.tabs, q.1 = P → q.2 = X.env.qual ++ "<lambda>")
    (hr : Room (k0 + 2) X.A) (L : LamX.LamS X.env.scope scope) (hbody : ∀ (A : Around) (outer : List Env) (s : Shared) (H : Hp) (E : XK) (f c' : Addr), Room k0 (A.deeper (LamX.lamEnv X scope s.heap.objs.size f c')) → PD (LamX.lamCx X A outer s H E scope f c') T C (WD E) J0 body e') :
    PD X T C W J0 (.Call (.Name x p) [.Lambda ⟨[], [], none, [], [], none, []⟩ body scope lpos] [] pos) (.lamt (.hdl k h .nil) e') := by
  subst hbg
  obtain ⟨oc, od, dV, kV, doc, pm, an, cdv, ct, osl, rfl, lk, hcd, _, _⟩ := F.ex
  obtain ⟨c, P, hcode, TB, hmT, hu⟩ := lf
  have h0 : ∀ f : Addr, (L2.start Ng [V.ref f])[0]? = some (some (V.ref f)) := fun f => rfl
  refine PE.weak (LamX.pe_lamcall (T := T.tabs) (TT := TTh X.K T C k h) (t := fun E => tE X.K T C (WD E) J0 e') (k := k0) hg hm F.kp lk hcd hb Sg hNg hva (lam_gives hexm hgy hmy hdy Sg.nd hi hln h0 (hh cdv)) TB hcode hmT hu hr L rfl (fun _ _ _ _ _ => rfl) hbody hdb hda hca) fun σ H Q hq => ?_
  obtain ⟨π, B, m, ρ, b, w⟩ := hq
  refine ⟨b.st.tb, fun H1 eN t1 => ?_⟩
  have s1 := ext_step b.st eN t1
  refine ⟨π, B, m, ρ, b.step mono0 s1, ?_⟩
  rw [ev] at w
  cases hv : ev C e' ρ m with
  | ok u m' =>
    rw [hv] at w
    exact fun v H2 π2 B2 s2 r => w v H2 π2 B2 (s1.trans s2) r
  | ex c2 fs m' =>
    rw [hv] at w
    dsimp only at w
    intro z zs H2 π2 B2 s2 q1 q2
    cases hp : pickH C c2 (.hdl k h .nil) with
    | none =>
      rw [hp] at w
      exact w.elim
    | some h' =>
      rw [hp] at w
      dsimp only at w
      have hp' : (match C.isa (20 + c2) (20 + k) with
        | some true => some h
        | some false => pickH C c2 .nil
        | none => none) = some h' := hp
      cases hisa : C.isa (20 + c2) (20 + k) with
      | none =>
        rw [hisa] at hp'
        cases hp'
      | some t =>
        rw [hisa] at hp'
        cases t with
        | false => cases hp'
        | true =>
          cases hp'
          cases hd : hvE fs h with
          | none =>
            rw [hd] at w
            exact w.elim
          | some d =>
            rw [hd] at w
            refine ⟨c2, fs, z, zs, π2, B2, m', rfl, rfl, hisa, s2.st, q1, q2, fun ρ => ?_⟩
            rw [ev_hv hd]
            exact fun v H3 π3 B3 s3 r => w v H3 π3 B3 ((s1.trans s2).trans s3) r
  | no =>
    rw [hv] at w
    exact w.elim
end
end At

/-! The look at an expression's text. -/
namespace At
open PySem L2 Evl
open PySem.W PySem.Calls PyProof.Rows
def Kx.lamb (k : Kx) (scope : Scope) : Kx := ⟨k.N, scope, fun _ => false, 0, false⟩
theorem q_lamt {p : PJ} {k : Kx} {d : DF} {x a y n : Str} {c i : Nat} {eh body : Expr} {h e' : E} {scope : Scope} {q lpos pos p1 p2 p3 p4 p6 p7 p8 : Pos} (hd : d ∈ p.df) (hb : d.d.body = [.Try [.Return (some (.Call (.Name a p1) [] [] p2)) p3] [.ExceptHandler (some (.Name y p4)) (some n) [.Return (some eh) p6] p7] [] [] p8])
    (h1 : (decide (d.d.at_ = (x, none)) && (decide (d.d.name = x) && (decide (d.d.qual = x) && (d.d.dfl.isEmpty && (d.d.kwd.isEmpty && decide (d.ps = [a])))))) = true) (h2 : (k.lam && (decide (k.r = 2) && (glB k.sc x && (ndb x && (ndb a && (ncd a && visB d.d.scope a)))))) = true)
    (h3 : (decide (d.N[0]? = some a) && (glB d.d.scope y && (decide (p.cs[c]? = some (y, true)) && (ndb y && (decide (d.N[i]? = some n) && (decide (d.d.scope.names.lookup n = some .local) && LamX.lamSB k.sc scope)))))) = true) (w : QHE p ⟨d.N, d.d.scope, fun _ => true, 0, false⟩ i c eh h) (u : QE p (k.lamb scope) body e') :
    QE p k (.Call (.Name x q) [.Lambda ⟨[], [], none, [], [], none, []⟩ body scope lpos] [] pos) (.lamt (.hdl c h .nil) e') := fun m X W ok => by
  obtain ⟨a1, g⟩ := Bool.and_eq_true_iff.mp h1
  obtain ⟨a2, g⟩ := Bool.and_eq_true_iff.mp g
  obtain ⟨a3, g⟩ := Bool.and_eq_true_iff.mp g
  obtain ⟨a4, g⟩ := Bool.and_eq_true_iff.mp g
  obtain ⟨a5, a6⟩ := Bool.and_eq_true_iff.mp g
  obtain ⟨b1, g⟩ := Bool.and_eq_true_iff.mp h2
  obtain ⟨b2, g⟩ := Bool.and_eq_true_iff.mp g
  obtain ⟨b3, g⟩ := Bool.and_eq_true_iff.mp g
  obtain ⟨b4, g⟩ := Bool.and_eq_true_iff.mp g
  obtain ⟨b5, g⟩ := Bool.and_eq_true_iff.mp g
  obtain ⟨b6, b7⟩ := Bool.and_eq_true_iff.mp g
  obtain ⟨c1, g⟩ := Bool.and_eq_true_iff.mp h3
  obtain ⟨c2, g⟩ := Bool.and_eq_true_iff.mp g
  obtain ⟨c3, g⟩ := Bool.and_eq_true_iff.mp g
  obtain ⟨c4, g⟩ := Bool.and_eq_true_iff.mp g
  obtain ⟨c5, g⟩ := Bool.and_eq_true_iff.mp g
  obtain ⟨c6, c7⟩ := Bool.and_eq_true_iff.mp g
  obtain ⟨j, hj⟩ := List.getElem?_of_mem hd
  obtain ⟨fd, F, hbd⟩ := ok.gf.df j d hj
  have Sg := ok.gf.sc j d hj
  have hm := ok.gf.dg j d hj (by rw [of_decide_eq_true a1])
  rw [of_decide_eq_true a6] at hbd Sg
  rw [of_decide_eq_true a1] at hm
  have ed : d.d.dvs X.K = [] := by
    unfold He.DefD.dvs
    rw [List.isEmpty_iff.mp a4]
    rfl
  have ek : d.d.kws X.K = [] := by
    unfold He.DefD.kws
    rw [List.isEmpty_iff.mp a5]
    rfl
  rw [ed, ek, of_decide_eq_true a2, of_decide_eq_true a3, of_decide_eq_true a1] at F
  have e1 := of_decide_eq_true c3
  obtain ⟨hl, hx⟩ := cs_lt (p := p) (c := c) (x := y) (by rw [e1]; rfl)
  have ix : (p.T X.K).ix c = true := by
    show (p.cs[c]?.map (·.2)).getD true = true
    rw [e1]
    rfl
  have hr : Room (4 * m + 5 + 2) X.A := by
    have := ok.room
    rw [of_decide_eq_true b2] at this
    exact this
  refine pd_lamt (k0 := 4 * m + 5) F hb hbd Sg (of_decide_eq_true c1) (visB_ok b7) (ok.gl b3) hm (of_decide_eq_true b4) (of_decide_eq_true b5) (of_decide_eq_true b6) (fun c' b hb => ok.gf.exm c c' b ix hb) (of_decide_eq_true c2) (by rw [← hx X.K]; exact ok.gf.cg c hl) (of_decide_eq_true c4) (of_decide_eq_true c5) (of_decide_eq_true c6)
    (fun cdg s H => w m _ WF ⟨rfl, Sg.nd, rfl, rfl, rfl, (hr.deeper _).mono (show 4 * m + 5 + 0 ≤ _ by omega), takesF, ok.gf, ok.lv, fun z => nomatch z⟩) (ok.lam b1) hr (by rw [ok.sc]; exact LamX.lamS_by c7) (fun A outer s H E f c' hr2 => u m _ (WD E) ⟨ok.N, ok.nd, rfl, rfl, rfl, hr2, takes_of rfl rfl rfl rfl, ok.gf, ok.lv, fun z => nomatch z⟩)
def cE (p : PJ) : (e' : E) → (k : Kx) → Pk p k e'
  | .var i, k => .val fun e => match e with
    | .Name x _ => need (decide (k.N[i]? = some x) && (visB k.sc x && (ndb x && ncd x))) fun h n X W ok => by
      obtain ⟨h1, g2⟩ := Bool.and_eq_true_iff.mp h
      obtain ⟨h2, g3⟩ := Bool.and_eq_true_iff.mp g2
      obtain ⟨h3, h4⟩ := Bool.and_eq_true_iff.mp g3
      exact pd_var i (by rw [ok.N]; exact of_decide_eq_true h1) (by rw [ok.sc]; exact visB_ok h2) (of_decide_eq_true h3) (of_decide_eq_true h4)
    | _ => none
  | .cst d, k => .val (cst p k d)
  | .nil, k => { vL := (fun es => match es with
      | [] => some ⟨fun _ _ _ _ => pds_nil⟩
      | _ => none),
                 vO := (fun o => match o with
      | none => some ⟨fun _ _ _ _ => po_no⟩
      | _ => none),
                 vJ := (fun es => match es with
      | [] => some ⟨fun _ _ _ _ => pj_end⟩
      | _ => none) }
  | .cons a r, k => { vL := (fun es => match es with
      | e :: es => bE ((cE p a k).vE e) fun u => bE ((cE p r k).vL es) fun v => need (nst e) fun h n X W ok => pds_cons mono0 (u n X W ok) (v n X W ok) (star_cons h)
      | _ => none),
                      vJ := (fun es => match es with
      | .Constant (.str x) _ _ :: es => (match a with
        | .cst (.str l) => bE ((cE p r k).vJ es) fun v => need (strB l x) fun h n X W ok => by
          obtain ⟨h1, h2⟩ := Bool.and_eq_true_iff.mp h
          exact pj_cst mono0 (v n X W ok) (of_decide_eq_true h1) h2
        | _ => none)
      | .FormattedValue e i none _ :: es => if hi : i = -1 then bE ((cE p a k).vE e) fun u => bE ((cE p r k).vJ es) fun v => some ⟨fun n X W ok => by
          subst hi
          exact pj_fmt mono0 (u n X W ok) (v n X W ok)⟩ else none
      | _ => none) }
  | .op o a b, k => .val fun e => match e with
    | .BinOp x op y _ => bE ((cE p a k).vE x) fun u => bE ((cE p b k).vE y) fun v => need (opB op o) fun h => q_bin h u v
    | _ => none
  | .cmp c a b, k => { vE := (fun e => match e with
      | .Compare x [op] [y] _ => bE ((cE p a k).vE x) fun u => bE ((cE p b k).vE y) fun v => need (cmB op c && nset y) fun h n X W ok => by
        obtain ⟨h1, h2⟩ := Bool.and_eq_true_iff.mp h
        exact pd_cmp (cm_ok ok.room h1) mono0 (u n X W ok) (v n X W ok) (mark_ok h2)
      | _ => none),
                       vT := (fun e => match e with
      | .Compare x [op] [y] _ => bE ((cE p a k).vE x) fun u => bE ((cE p b k).vE y) fun v => need (cmB op c && nset y) fun h n X W ok => by
        obtain ⟨h1, h2⟩ := Bool.and_eq_true_iff.mp h
        exact pt_cmp' (cm_ok ok.room h1) mono0 (u n X W ok) (v n X W ok) (mark_ok h2)
      | _ => none) }
  | .chain c c' a b z, k => { vE := (fun e => match e with
      | .Compare x [op, op'] [y, w] _ => bE ((cE p a k).vE x) fun u => bE ((cE p b k).vE y) fun v => bE ((cE p z k).vE w) fun t => need (cmB op c && (cmB op' c' && nset w)) fun h n X W ok => by
        obtain ⟨h1, g2⟩ := Bool.and_eq_true_iff.mp h
        obtain ⟨h2, h3⟩ := Bool.and_eq_true_iff.mp g2
        exact pd_chain (cm_ok ok.room h1) (cm_ok ok.room h2) mono0 (u n X W ok) (v n X W ok) (t n X W ok) (mark_ok h3)
      | _ => none),
                              vT := (fun e => match e with
      | .Compare x [op, op'] [y, w] _ => bE ((cE p a k).vE x) fun u => bE ((cE p b k).vE y) fun v => bE ((cE p z k).vE w) fun t => need (cmB op c && (cmB op' c' && nset w)) fun h n X W ok => by
        obtain ⟨h1, g2⟩ := Bool.and_eq_true_iff.mp h
        obtain ⟨h2, h3⟩ := Bool.and_eq_true_iff.mp g2
        exact pt_chain' (cm_ok ok.room h1) (cm_ok ok.room h2) mono0 (u n X W ok) (v n X W ok) (t n X W ok) (mark_ok h3)
      | _ => none) }
  | .un o a, k => match o with
    | .isN => { vE := (fun e => match e with
        | .Compare x [.Is] [.Constant .none _ _] _ => bE ((cE p a k).vE x) fun u => some ⟨fun n X W ok => pd_isN mono0 (u n X W ok)⟩
        | _ => none),
                vT := (fun e => match e with
        | .Compare x [.Is] [.Constant .none _ _] _ => bE ((cE p a k).vE x) fun u => some ⟨fun n X W ok => pt_isN mono0 (u n X W ok)⟩
        | _ => none) }
    | .notN => { vE := (fun e => match e with
        | .Compare x [.IsNot] [.Constant .none _ _] _ => bE ((cE p a k).vE x) fun u => some ⟨fun n X W ok => pd_notN mono0 (u n X W ok)⟩
        | _ => none),
                 vT := (fun e => match e with
        | .Compare x [.IsNot] [.Constant .none _ _] _ => bE ((cE p a k).vE x) fun u => some ⟨fun n X W ok => pt_notN mono0 (u n X W ok)⟩
        | _ => none) }
    | .neg => .val fun e => match e with
        | .UnaryOp .USub x _ => bE ((cE p a k).vE x) fun u => some ⟨fun n X W ok => pd_neg mono0 (u n X W ok)⟩
        | _ => none
    | o => .val fun e => match e with
        | .Call (.Name f _) [x] [] _ => bE ((cE p a k).vE x) fun u => (match hs : unN o with
          | some s => need (decide (f = (s : Str)) && (p.free.contains f && (glB k.sc f && nst x))) fun h => by
            obtain ⟨h1, g2⟩ := Bool.and_eq_true_iff.mp h
            obtain ⟨h2, g3⟩ := Bool.and_eq_true_iff.mp g2
            obtain ⟨h3, h4⟩ := Bool.and_eq_true_iff.mp g3
            exact q_un hs (of_decide_eq_true h1) h2 h3 h4 u
          | none => none)
        | _ => none
  | .and_ a b, k =>
    let vW : (e : Expr) → Evd (QW p k e (.and_ a b)) := fun e => match e with
      | .BoolOp .And [x, y] _ => bE ((cE p a k).vT x) fun u => bE ((cE p b k).vT y) fun v => some ⟨fun n X W ok => ptw_and mono0 (u n X W ok) (ptw_and1 (v n X W ok))⟩
      | .BoolOp .And (x :: y :: z :: r) pos => bE ((cE p a k).vT x) fun u => bE ((cE p b k).vW (.BoolOp .And (y :: z :: r) pos)) fun v => some ⟨fun n X W ok => ptw_and mono0 (u n X W ok) (v n X W ok)⟩
      | _ => none
    { vE := (fun e => match e with
        | .BoolOp .And [x, y] _ => bE ((cE p a k).vE x) fun u => bE ((cE p b k).vE y) fun v => some ⟨fun n X W ok => pd_and mono0 (u n X W ok) (pd_one1 (v n X W ok))⟩
        | .BoolOp .And (x :: y :: z :: r) pos => bE ((cE p a k).vE x) fun u => bE ((cE p b k).vE (.BoolOp .And (y :: z :: r) pos)) fun v => some ⟨fun n X W ok => pd_and mono0 (u n X W ok) (v n X W ok)⟩
        | _ => none),
      vW := vW,
      vT := fun e => bE (vW e) fun u => some ⟨fun n X W ok => PW.pt (u n X W ok)⟩ }
  | .or_ a b, k =>
    let vW : (e : Expr) → Evd (QW p k e (.or_ a b)) := fun e => match e with
      | .BoolOp .Or [x, y] _ => bE ((cE p a k).vT x) fun u => bE ((cE p b k).vT y) fun v => some ⟨fun n X W ok => ptw_or mono0 (u n X W ok) (ptw_or1 (v n X W ok))⟩
      | .BoolOp .Or (x :: y :: z :: r) pos => bE ((cE p a k).vT x) fun u => bE ((cE p b k).vW (.BoolOp .Or (y :: z :: r) pos)) fun v => some ⟨fun n X W ok => ptw_or mono0 (u n X W ok) (v n X W ok)⟩
      | _ => none
    { vE := (fun e => match e with
        | .BoolOp .Or [x, y] _ => bE ((cE p a k).vE x) fun u => bE ((cE p b k).vE y) fun v => some ⟨fun n X W ok => pd_or mono0 (u n X W ok) (pd_one1 (v n X W ok))⟩
        | .BoolOp .Or (x :: y :: z :: r) pos => bE ((cE p a k).vE x) fun u => bE ((cE p b k).vE (.BoolOp .Or (y :: z :: r) pos)) fun v => some ⟨fun n X W ok => pd_or mono0 (u n X W ok) (v n X W ok)⟩
        | _ => none),
      vW := vW,
      vT := fun e => bE (vW e) fun u => some ⟨fun n X W ok => PW.pt (u n X W ok)⟩ }
  | .not_ a, k => { vE := (fun e => match e with
      | .UnaryOp .Not x _ => bE ((cE p a k).vE x) fun u => some ⟨fun n X W ok => pd_not mono0 (u n X W ok)⟩
      | .Compare x [.NotEq] [y] _ => (match a with
        | .eqo g a1 b1 => bE ((cE p a1 k).vE x) fun u => bE ((cE p b1 k).vE y) fun v => need (decide (p.ms[g]? = some "__eq__") && nset y) fun h => q_neo h u v
        | _ => none)
      | _ => none),
                    vT := (fun e => match e with
      | .UnaryOp .Not x _ => bE ((cE p a k).vT x) fun u => some ⟨fun n X W ok => ptw_not mono0 (u n X W ok)⟩
      | _ => none) }
  | .ifx t a b, k => { vE := (fun e => match e with
      | .IfExp c x y _ => bE ((cE p t k).vT c) fun w => bE ((cE p a k).vE x) fun u => bE ((cE p b k).vE y) fun v => some ⟨fun n X W ok => pd_ifx mono0 (w n X W ok) (u n X W ok) (v n X W ok)⟩
      | _ => none) }
  | .tup a, k => .val fun e => match e with
    | .Tuple es _ _ => bE ((cE p a k).vL es) fun u => some ⟨fun n X W ok => pd_tup mono0 (u n X W ok)⟩
    | _ => none
  | .lst a, k => .val fun e => match e with
    | .List es _ => bE ((cE p a k).vL es) fun u => some ⟨fun n X W ok => pd_lst mono0 (u n X W ok)⟩
    | _ => none
  | .new a, k => .val fun e => match e with
    | .List es _ => bE ((cE p a k).vL es) fun u => some ⟨fun n X W ok => pd_new mono0 (u n X W ok)⟩
    | _ => none
  | .frz a, k => .val fun e => bE ((cE p a k).vE e) fun u => some ⟨fun n X W ok => pd_frz mono0 (u n X W ok)⟩
  | .opt a, k => { vO := (fun o => match o with
      | some e => bE ((cE p a k).vE e) fun u => some ⟨fun n X W ok => po_at mono0 (u n X W ok)⟩
      | none => none) }
  | .idx a i, k => .val fun e => match e with
    | .Subscript x y _ => bE ((cE p a k).vE x) fun u => bE ((cE p i k).vE y) fun v => need (plIx y) fun h n X W ok => pd_idx mono0 (u n X W ok) (v n X W ok) (plIx_ok h)
    | _ => none
  | .slc a lo hi, k => .val fun e => match e with
    | .Subscript x (.Slice l h none _) _ => bE ((cE p a k).vE x) fun u => bE ((cE p lo k).vO l) fun v => bE ((cE p hi k).vO h) fun w => some ⟨fun n X W ok => pd_slc mono0 (u n X W ok) (v n X W ok) (w n X W ok)⟩
    | _ => none
  | .rev a, k => .val fun e => match e with
    | .Subscript x (.Slice none none (some (.UnaryOp .USub (.Constant (.int i) _ _) _)) _) _ => if hi : i = 1 then bE ((cE p a k).vE x) fun u => some ⟨fun n X W ok => by
        subst hi
        exact pd_rev mono0 (u n X W ok)⟩ else none
    | _ => none
  | .call i a, k => .val fun e => match e with
    | .Call (.Name x _) es [] _ => (match hd : p.df[i]? with
      | some d => bE ((cE p a k).vL es) fun u => (match es, u with
        | [], u => bE (isNil a) fun h0 => need (decide (d.d.at_ = (x, none)) && (glB k.sc x && (ndb x && ([] : List Expr).all nst))) fun h => q_call hd h u fun _ => h0
        | e :: es, u => need (decide (d.d.at_ = (x, none)) && (glB k.sc x && (ndb x && (e :: es).all nst))) fun h => q_call hd h u fun z => nomatch z)
      | none => none)
    | _ => none
  | .callm i a, k => .val fun e => match e with
    | .Call (.Name x _) (e1 :: es) [] _ => (match hd : p.df[i]? with
      | some d => bE ((cE p a k).vL (e1 :: es)) fun u => need (decide (d.d.at_ = (x, none)) && (glB k.sc x && (ndb x && (e1 :: es).all nst))) fun h => q_callm hd h u
      | none => none)
    | _ => none
  | .calln i a, k => .val fun e => match e with
    | .Call (.Name x _) (e1 :: es) [] _ => (match hd : p.df[i]? with
      | some d => bE ((cE p a k).vL (e1 :: es)) fun u => need (decide (d.d.at_ = (x, none)) && (glB k.sc x && (ndb x && (e1 :: es).all nst))) fun h => q_calln hd h u
      | none => none)
    | _ => none
  | .make c a, k => .val fun e => match e with
    | .Call (.Name x _) es [] _ => (match hc : p.er.lookup c with
      | some fl => bE ((cE p a k).vL es) fun u => (match es, u with
        | [], u => bE (isNil a) fun h0 => need (decide (p.cs[c]?.map (·.1) = some x) && (glB k.sc x && (ndb x && ([] : List Expr).all nst))) fun h => q_makeX hc h u fun _ => h0
        | e :: es, u => need (decide (p.cs[c]?.map (·.1) = some x) && (glB k.sc x && (ndb x && (e :: es).all nst))) fun h => q_makeX hc h u fun z => nomatch z)
      | none => (match hi : p.ini.lookup c with
        | some i => (match es with
          | e :: es => bE ((cE p a k).vL (e :: es)) fun u => need (decide (p.cs[c]?.map (·.1) = some x) && (glB k.sc x && (ndb x && (e :: es).all nst))) fun h => q_make hc hi h u
          | [] => none)
        | none => none))
    | _ => none
  | .meth g a r, k => .val fun e => match e with
    | .Call (.Attribute x m apos) es [] pos => bE ((cE p a k).vE x) fun v => bE ((cE p r k).vL es) fun u => (match es, u with
      | [], u => bE (isNil r) fun h0 => need (decide (p.ms[g]? = some m) && (nosup x && (([] : List Expr).all nst && (decide (([] : List Expr).length < 30) && (apos.endLine == pos.line))))) fun h => q_meth h v u fun _ => h0
      | e :: es, u => need (decide (p.ms[g]? = some m) && (nosup x && ((e :: es).all nst && (decide ((e :: es).length < 30) && (apos.endLine == pos.line))))) fun h => q_meth h v u fun z => nomatch z)
    | _ => none
  | .attr a f, k => .val fun e => match e with
    | .Attribute x m _ => bE ((cE p a k).vE x) fun u => need (decide (p.fs[f]? = some m) && nosup x) fun h n X W ok => by
      obtain ⟨h1, h2⟩ := Bool.and_eq_true_iff.mp h
      exact pd_attr mono0 (fun c hc => ok.gf.at_ c f hc) (u n X W ok) (fs_lt (of_decide_eq_true h1) X.K) (base_ok h2)
    | _ => none
  | .isi a ts, k => .val fun e => match e with
    | .Call (.Name x _) [y, .Tuple es _ _] [] _ => if hx : x = "isinstance" then (match ts with
      | t :: ts => bE ((cE p a k).vE y) fun u => bE (cCs p k (t :: ts) es) fun v => need (p.free.contains ("isinstance" : Str) && (glB k.sc "isinstance" && (nst y && decide ((t :: ts).length ≤ 100)))) fun h => by
        subst hx
        exact q_isiM h u v
      | [] => none) else none
    | .Call (.Name x _) [y, z] [] _ => if hx : x = "isinstance" then (match ts with
      | [t] => bE ((cE p a k).vE y) fun u => bE (cC p k t z) fun v => need (p.free.contains ("isinstance" : Str) && (glB k.sc "isinstance" && (nst y && nst z))) fun h => by
        subst hx
        exact q_isi h u v
      | _ => none) else none
    | _ => none
  | .count a b, k => .val fun e => match e with
    | .Call (.Attribute x m apos) [y] [] cpos => if hm : m = "count" then bE ((cE p a k).vE x) fun u => bE ((cE p b k).vE y) fun v => need (nosup x && (nst y && (apos.endLine == cpos.line))) fun h n X W ok => by
      subst hm
      obtain ⟨h1, g2⟩ := Bool.and_eq_true_iff.mp h
      obtain ⟨h2, h3⟩ := Bool.and_eq_true_iff.mp g2
      exact pd_count mono0 ok.room (u n X W ok) (v n X W ok) (base_ok h1) (few_ok h2) h3 (star_cons h2) else none
    | _ => none
  | .pop0 a, k => .val fun e => match e with
    | .Call (.Attribute x m apos) [.Constant (.int i) _ _] [] cpos => if hm : m = "pop" ∧ i = 0 then bE ((cE p a k).vE x) fun u => need (nosup x && (apos.endLine == cpos.line)) fun h n X W ok => by
      obtain ⟨rfl, rfl⟩ := hm
      obtain ⟨h1, h2⟩ := Bool.and_eq_true_iff.mp h
      exact pd_pop0 mono0 (u n X W ok) (base_ok h1) (few_ok rfl) h2 (star_cons rfl) else none
    | _ => none
  | .join s a, k => .val fun e => match e with
    | .Call (.Attribute x m apos) [y] [] cpos => if hm : m = "join" then bE ((cE p s k).vE x) fun u => bE ((cE p a k).vE y) fun v => need (nosup x && (nst y && (apos.endLine == cpos.line))) fun h n X W ok => by
      subst hm
      obtain ⟨h1, g2⟩ := Bool.and_eq_true_iff.mp h
      obtain ⟨h2, h3⟩ := Bool.and_eq_true_iff.mp g2
      exact pd_join mono0 (u n X W ok) (v n X W ok) (star_cons h2) (base_ok h1) h3 else none
    | _ => none
  | .fst a, k => .val fun e => match e with
    | .JoinedStr (v1 :: v2 :: rest) _ => bE ((cE p a k).vJ (v1 :: v2 :: rest)) fun u => some ⟨fun n X W ok => pd_fst (u n X W ok)⟩
    | _ => none
  | .eqo g a b, k => { vE := (fun e => match e with
      | .Compare x [.Eq] [y] _ => bE ((cE p a k).vE x) fun u => bE ((cE p b k).vE y) fun v => need (decide (p.ms[g]? = some "__eq__") && nset y) fun h => q_eqo h u v
      | _ => none) }
  | .lc vs t it c e1, k => .val fun e => match e with
    | .ListComp elt [⟨tg, iter, ifs, as⟩] scope _ => if has : as = 0 then bE ((cE p it k).vI tg iter) fun u => bE (cG p (k.blk scope) t tg) fun g => bE ((cE p e1 (k.blk scope)).vE elt) fun v => (match ifs with
      | [] => (match c with
        | .cst (.bl true) => need (blkC k.N k.sc scope (ownOf k.N vs) && ((slotsT t).all (fun i => vs.contains i) && nset iter)) fun h => by
          subst has
          exact q_lc0 u g v h
        | _ => none)
      | [q] => bE ((cE p c (k.blk scope)).vT q) fun w => need (blkC k.N k.sc scope (ownOf k.N vs) && ((slotsT t).all (fun i => vs.contains i) && nset iter)) fun h => by
          subst has
          exact q_lc1 u g w v h
      | _ => none) else none
    | _ => none
  | .seq a, k => { vI := fun tg e => bE ((cE p a k).vE e) fun u => some ⟨fun n X W ok => pi_seq mono0 (u n X W ok)⟩ }
  | .enum a, k => { vI := (fun tg e => match tg, e with
      | .Tuple _ _ _, .Call (.Name f _) [x] [] _ => if hf : f = "enumerate" then bE ((cE p a k).vE x) fun u => need (p.free.contains f && (glB k.sc f && nst x)) fun h n X W ok => by
        obtain ⟨h1, g2⟩ := Bool.and_eq_true_iff.mp h
        obtain ⟨h2, h3⟩ := Bool.and_eq_true_iff.mp g2
        subst hf
        exact pi_enumerate mono0 (ok.gl h2) (ok.gf.free _ h1) (u n X W ok) (star_cons h3) (star_cons h3) else none
      | _, _ => none) }
  | .rng a, k => { vI := (fun tg e => match e with
      | .Call (.Name f _) [x] [] _ => if hf : f = "range" then bE ((cE p a k).vE x) fun u => need (p.free.contains f && (glB k.sc f && nst x)) fun h n X W ok => by
        obtain ⟨h1, g2⟩ := Bool.and_eq_true_iff.mp h
        obtain ⟨h2, h3⟩ := Bool.and_eq_true_iff.mp g2
        subst hf
        exact pi_rng mono0 (ok.gl h2) (ok.gf.free _ h1) (u n X W ok) (star_cons h3) (star_cons h3) else none
      | _ => none) }
  | .rng2 _ _, _ => {}
  | .zip _ _, _ => {}
  | .pop _, _ => {}
  | .exf _, _ => {}
  | .hdl _ _ _, _ => {}
  | .lamt hs e1, k => match hs with
    | .hdl c h .nil => .val fun e => match e with
      | .Call (.Name x _) [.Lambda ⟨[], [], none, [], [], none, []⟩ body scope _] [] _ => (match hf : p.df.find? (fun d => decide (d.d.at_ = (x, none))) with
        | some d => (match hb : d.d.body with
          | [.Try [.Return (some (.Call (.Name a _) [] [] _)) _] [.ExceptHandler (some (.Name y _)) (some n) [.Return (some eh) _] _] [] [] _] =>
            bE ((cH p ⟨d.N, d.d.scope, fun _ => true, 0, false⟩ (d.N.idxOf n) c h).hE eh) fun w => bE ((cE p e1 (k.lamb scope)).vE body) fun u =>
            need ((decide (d.d.at_ = (x, none)) && (decide (d.d.name = x) && (decide (d.d.qual = x) && (d.d.dfl.isEmpty && (d.d.kwd.isEmpty && decide (d.ps = [a])))))) && ((k.lam && (decide (k.r = 2) && (glB k.sc x && (ndb x && (ndb a && (ncd a && visB d.d.scope a)))))) &&
              (decide (d.N[0]? = some a) && (glB d.d.scope y && (decide (p.cs[c]? = some (y, true)) && (ndb y && (decide (d.N[d.N.idxOf n]? = some n) && (decide (d.d.scope.names.lookup n = some .local) && LamX.lamSB k.sc scope)))))))) fun hc => by
                obtain ⟨h1, g⟩ := Bool.and_eq_true_iff.mp hc
                obtain ⟨h2, h3⟩ := Bool.and_eq_true_iff.mp g
                exact q_lamt (List.mem_of_find?_eq_some hf) hb h1 h2 h3 w u
          | _ => none)
        | none => none)
      | _ => none
    | _ => {}
end At

/-! The look at statements. -/
namespace At
open PySem L2 Evl
open PySem.W PySem.Calls PyProof.Rows
/-! ### statements -/
def QS1 (p : PJ) (k : Kx) (st : Stmt) (s : S) : Prop := ∀ (n : Nat) (X : Cx) (W : WX), SxOk p n k X W → PSd X (p.T X.K) (p.C n) W st s
def QS (p : PJ) (k : Kx) (sts : List Stmt) (s : S) : Prop := ∀ (n : Nat) (X : Cx) (W : WX), SxOk p n k X W → PSsd X (p.T X.K) (p.C n) W sts s
structure Bk (p : PJ) (k : Kx) (s : S) where
  one : (st : Stmt) → Evd (QS1 p k st s)
  many : (sts : List Stmt) → Evd (QS p k sts s)
def Bk.of {p : PJ} {k : Kx} {s : S} (f : (st : Stmt) → Evd (QS1 p k st s)) : Bk p k s where
  one := f
  many := fun sts => match sts with
    | [st] => bE (f st) fun u => some ⟨fun n X W ok => sd_one (u n X W ok)⟩
    | _ => none
def swF (sc : Scope) (tg : Expr) : Expr → Bool
  | .ListComp _ _ scope cpos => (match tg with
    | .Name y py => !swB sc y py cpos scope
    | _ => true)
  | .SetComp _ _ _ _ => false
  | .DictComp _ _ _ _ _ => false
  | _ => true
theorem swF_ok {sc : Scope} {tg e : Expr} {l : Nat} {env : Env} (hs : env.scope = sc) (hk : sc.kind = .function) (h : swF sc tg e = true) : swapsWith e (some tg) l env = pure false := by
  cases e with
  | ListComp elt gs scope cpos =>
    cases tg with
    | Name y py =>
      have h' : (!swB sc y py cpos scope) = true := h
      rw [sw_name (by rw [hs]; exact hk), hs]
      rw [Bool.not_eq_true'] at h'
      rw [h']
    | _ => exact sw_other (fun _ _ z => nomatch z)
  | _ => first | exact sw_no rfl | cases h
def stF (sc : Scope) : Expr → Expr → Bool
  | .Tuple ts _ _, .Tuple vs _ _ => decide (stB sc ts vs = some none)
  | .List _ _, _ => false
  | _, _ => true
theorem stF_ok {sc : Scope} {tg e : Expr} {env : Env} (hs : env.scope = sc) (hk : sc.kind = .function) (h : stF sc tg e = true) : swappedStores [tg] e env = pure none := by
  by_cases c : ntup e = true
  · exact st_noV c
  · cases e with
    | Tuple vs k p =>
      cases tg with
      | Tuple ts k' p' => exact st_tup (by rw [hs]; exact hk) (by rw [hs]; exact of_decide_eq_true h)
      | List ts p' => cases h
      | _ => exact st_noT rfl
    | _ => exact absurd rfl c
theorem q_asg {p : PJ} {k : Kx} {tg v : Expr} {t : Tg} {e : E} {pos : Pos} (u : QE p k v e) (g : QG p k tg t) (h : (swF k.sc tg v && (stF k.sc tg v && nst tg)) = true) : QS1 p k (.Assign [tg] v pos) (.asg t e) := fun n X W ok => by
  obtain ⟨h1, g2⟩ := Bool.and_eq_true_iff.mp h
  obtain ⟨h2, h3⟩ := Bool.and_eq_true_iff.mp g2
  exact sd_asg (u n X W ok.toCxOk) (g n X W ok.toCxOk) (swF_ok ok.sc ok.knd h1) (stF_ok ok.sc ok.knd h2) (as_one h3)
def cAsg (p : PJ) (k : Kx) (t : Tg) (e : E) (tg v : Expr) (pos : Pos) : Evd (QS1 p k (.Assign [tg] v pos) (.asg t e)) :=
  bE ((cE p e k).vE v) fun u => bE (cG p k t tg) fun g => need (swF k.sc tg v && (stF k.sc tg v && nst tg)) fun h => q_asg u g h
theorem SxOk.tr {p : PJ} {n : Nat} {k : Kx} {X : Cx} {W W' : WX} (ok : SxOk p n k X W) {pn : List (Addr × Obj)} {xe : Value → Shared → Prop} (tk : Takes (X.tr pn xe) W') (ps : PassesOwn (model X.prog X.w) X.A X.env xe) : SxOk p n k (X.tr pn xe) W' where
  N := ok.N
  nd := ok.nd
  sc := ok.sc
  fn := ok.fn
  calm := ok.calm
  room := ok.room
  tk := tk
  gf := ok.gf
  lv := ok.lv
  lam := ok.lam
  ps := ps
  stk := ok.stk
  frm := ok.frm
  knd := ok.knd
def cB (p : PJ) (k : Kx) : (s : S) → Bk p k s
  | .skip => { one := (fun st => match st with
      | .Pass _ => some ⟨fun _ _ _ _ => sd_pass⟩
      | .Expr (.Constant (.str _) _ _) _ => some ⟨fun _ _ _ _ => sd_doc⟩
      | _ => none),
               many := (fun sts => match sts with
      | [] => some ⟨fun _ _ _ _ => sd_nil⟩
      | [.Pass _] => some ⟨fun _ _ _ _ => sd_one sd_pass⟩
      | _ => none) }
  | .seq s t => { one := (fun _ => none),
                  many := (fun sts => match sts with
      | st :: r => bE ((cB p k s).one st) fun u => bE ((cB p k t).many r) fun v => some ⟨fun n X W ok => sd_cons (u n X W ok) (v n X W ok)⟩
      | [] => none) }
  | .asg t e => .of fun st => match st with
    | .Assign [tg] v pos => (match t, e, tg, v with
      | .nm i, .lc vs t1 it c e1, .Name y py, .ListComp elt [⟨tg1, iter, ifs, as⟩] scope cpos => if hs : swB k.sc y py cpos scope = true then (if has : as = 0 then bE ((cE p it k).vI tg1 iter) fun u => bE (cG p (k.blk scope) t1 tg1) fun g => bE ((cE p e1 (k.blk scope)).vE elt) fun v => (match ifs with
        | [] => (match c with
          | .cst (.bl true) => need ((blkC k.N k.sc scope (ownOf k.N vs) && ((slotsT t1).all (fun i => vs.contains i) && nset iter)) && decide (k.N[i]? = some y)) fun h n X W ok => by
            obtain ⟨h1, h2⟩ := Bool.and_eq_true_iff.mp h
            subst has
            exact q_sl0 u g v h1 (of_decide_eq_true h2) hs ok
          | _ => none)
        | [q] => bE ((cE p c (k.blk scope)).vT q) fun w => need ((blkC k.N k.sc scope (ownOf k.N vs) && ((slotsT t1).all (fun i => vs.contains i) && nset iter)) && decide (k.N[i]? = some y)) fun h n X W ok => by
            obtain ⟨h1, h2⟩ := Bool.and_eq_true_iff.mp h
            subst has
            exact q_sl1 u g w v h1 (of_decide_eq_true h2) hs ok
        | _ => none) else none) else cAsg p k (.nm i) (.lc vs t1 it c e1) (.Name y py) (.ListComp elt [⟨tg1, iter, ifs, as⟩] scope cpos) pos
      | t, e, tg, v => cAsg p k t e tg v pos)
    | _ => none
  | .par i j a b => .of fun st => match st with
    | .Assign [.Tuple [.Name x px, .Name y py] kt pt] (.Tuple [va, vb] k2 pt2) pos => bE ((cE p a k).vE va) fun u => bE ((cE p b k).vE vb) fun v =>
      need ((decide (i ≠ j) && (decide (k.N[i]? = some x) && decide (k.N[j]? = some y))) && ((decide (k.sc.names.lookup x = some .local) && decide (k.sc.names.lookup y = some .local)) && (decide (stB k.sc [.Name x px, .Name y py] [va, vb] = some (some [x, y])) && (nst va && nst vb)))) fun h n X W ok => by
        obtain ⟨h1, g2⟩ := Bool.and_eq_true_iff.mp h
        obtain ⟨a1, g3⟩ := Bool.and_eq_true_iff.mp h1
        obtain ⟨a2, a3⟩ := Bool.and_eq_true_iff.mp g3
        obtain ⟨g4, g5⟩ := Bool.and_eq_true_iff.mp g2
        obtain ⟨a4, a5⟩ := Bool.and_eq_true_iff.mp g4
        obtain ⟨a6, g6⟩ := Bool.and_eq_true_iff.mp g5
        obtain ⟨a7, a8⟩ := Bool.and_eq_true_iff.mp g6
        exact sd_par i j ok.calm (by rw [ok.N]; exact ok.nd) (u n X W ok.toCxOk) (v n X W ok.toCxOk) (of_decide_eq_true a1) (by rw [ok.N]; exact of_decide_eq_true a2) (by rw [ok.N]; exact of_decide_eq_true a3) (by rw [ok.sc]; exact of_decide_eq_true a4) (by rw [ok.sc]; exact of_decide_eq_true a5)
          (st_tup (by rw [ok.sc]; exact ok.knd) (by rw [ok.sc]; exact of_decide_eq_true a6)) rfl (star_cons a7) (star_cons a8)
    | _ => none
  | .exp e => .of fun st => match st with
    | .Expr v _ => bE ((cE p e k).vE v) fun u => need (ncomp v) fun h n X W ok => sd_exp (u n X W ok.toCxOk) (sw_no h)
    | _ => none
  | .app a e => .of fun st => match st with
    | .Expr (.Call (.Attribute x m apos) [y] [] cpos) _ => if hm : m = "append" then bE ((cE p a k).vE x) fun u => bE ((cE p e k).vE y) fun v => need (nosup x && (nst y && (apos.endLine == cpos.line))) fun h n X W ok => by
      subst hm
      obtain ⟨h1, g2⟩ := Bool.and_eq_true_iff.mp h
      obtain ⟨h2, h3⟩ := Bool.and_eq_true_iff.mp g2
      exact sd_app (u n X W ok.toCxOk) (v n X W ok.toCxOk) (base_ok h1) (few_ok h2) h3 (star_cons h2) (sw_no rfl) else none
    | _ => none
  | .ext a e => .of fun st => match st with
    | .Expr (.Call (.Attribute x m apos) [y] [] cpos) _ => if hm : m = "extend" then bE ((cE p a k).vE x) fun u => bE ((cE p e k).vE y) fun v => need (nosup x && (nst y && (apos.endLine == cpos.line))) fun h n X W ok => by
      subst hm
      obtain ⟨h1, g2⟩ := Bool.and_eq_true_iff.mp h
      obtain ⟨h2, h3⟩ := Bool.and_eq_true_iff.mp g2
      exact sd_ext (u n X W ok.toCxOk) (v n X W ok.toCxOk) (base_ok h1) (few_ok h2) h3 (star_cons h2) (sw_no rfl) else none
    | _ => none
  | .setI a i e => .of fun st => match st with
    | .Assign [.Subscript x y tpos] v pos => bE ((cE p a k).vE x) fun u => bE ((cE p i k).vE y) fun w => bE ((cE p e k).vE v) fun z => need (plIx y && swF k.sc (.Subscript x y tpos) v) fun h n X W ok => by
      obtain ⟨h1, h2⟩ := Bool.and_eq_true_iff.mp h
      refine sd_setI (u n X W ok.toCxOk) (w n X W ok.toCxOk) (z n X W ok.toCxOk) (pg_sub (u n X W ok.toCxOk) (w n X W ok.toCxOk) set_list fun v => ?_) (swF_ok (l := pos.line) ok.sc ok.knd h2) (st_noT rfl) (as_one rfl)
      cases y with
      | Slice l u st q => cases st <;> first | rfl | cases h1
      | _ => rfl
    | _ => none
  | .setF a f e => .of fun st => match st with
    | .Assign [.Attribute x m p2] v _ => bE ((cE p a k).vE x) fun u => bE ((cE p e k).vE v) fun z => need (decide (p.fs[f]? = some m) && swF k.sc (.Attribute x m p2) v) fun h n X W ok => by
      obtain ⟨h1, h2⟩ := Bool.and_eq_true_iff.mp h
      exact sd_setF (fun c hc => ok.gf.at_ c f hc) (u n X W ok.toCxOk) (z n X W ok.toCxOk) (fs_lt (of_decide_eq_true h1) X.K) (swF_ok ok.sc ok.knd h2)
    | _ => none
  | .ret e => .of fun st => match st with
    | .Return (some v) _ => bE ((cE p e k).vE v) fun u => some ⟨fun n X W ok => sd_ret (u n X W ok.toCxOk)⟩
    | _ => none
  | .retN => .of fun st => match st with
    | .Return none _ => some ⟨fun n X W ok => sd_retN⟩
    | _ => none
  | .ifs t s u => .of fun st => match st with
    | .If c sa sb _ => bE ((cE p t k).vT c) fun w => bE ((cB p k s).many sa) fun a => bE ((cB p k u).many sb) fun b => some ⟨fun n X W ok => sd_if (w n X W ok.toCxOk) (a n X W ok) (b n X W ok)⟩
    | _ => none
  | .for_ t it s => .of fun st => match st with
    | .For tg iter body [] _ => bE ((cE p it k).vI tg iter) fun i => bE (cG p k t tg) fun g => bE ((cB p k s).many body) fun b => need (nset iter) fun h n X W ok => sd_for ok.ps ok.calm (i n X W ok.toCxOk) (g n X W ok.toCxOk) (b n X W ok) (fold_ok h)
    | _ => none
  | .whl t s => .of fun st => match st with
    | .While c body [] _ => bE ((cE p t k).vT c) fun w => bE ((cB p k s).many body) fun b => some ⟨fun n X W ok => sd_while ok.ps (w n X W ok.toCxOk) (b n X W ok)⟩
    | _ => none
  | .brk => .of fun st => match st with
    | .Break _ => some ⟨fun n X W ok => sd_brk⟩
    | _ => none
  | .ctn => .of fun st => match st with
    | .Continue _ => some ⟨fun n X W ok => sd_ctn⟩
    | _ => none
  | .rai c a => .of fun st => match st with
    | .Raise (some (.Call (.Name x _) (e :: es) [] pos)) none _ => (match hc : p.er.lookup c with
      | some (f :: fl) => bE ((cE p a k).vL (e :: es)) fun u => need (decide (p.cs[c]?.map (·.1) = some x) && (glB k.sc x && (ndb x && (e :: es).all nst))) fun h n X W ok => by
        obtain ⟨h1, g2⟩ := Bool.and_eq_true_iff.mp h
        obtain ⟨h2, g3⟩ := Bool.and_eq_true_iff.mp g2
        obtain ⟨h3, h4⟩ := Bool.and_eq_true_iff.mp g3
        obtain ⟨_, hx⟩ := cs_lt (of_decide_eq_true h1)
        obtain ⟨ix, ps, Z⟩ := ok.gf.er c _ hc
        rw [hx] at Z
        obtain ⟨h5, h6⟩ := Bool.and_eq_true_iff.mp (show (nst e && es.all nst) = true from h4)
        exact sd_rai ok.calm ok.tk Z (by simp) rfl (mkr_er hc) ok.room (ok.toCxOk.gl h2) (u n X W ok.toCxOk) (of_decide_eq_true h3) (star_cons h5) (star_any h6)
      | _ => none)
    | _ => none
  | .tryR s c i h => .of fun st => match st with
    | .Try body [.ExceptHandler (some (.Name x _)) (some y) [.Return (some e) _] _] [] [] _ => bE ((cB p k s).many body) fun b => bE ((cH p k i c h).hE e) fun w => need (decide (p.cs[c]? = some (x, true)) && (glB k.sc x && (ndb x && (decide (k.N[i]? = some y) && decide (k.sc.names.lookup y = some .local))))) fun h n X W ok => by
      obtain ⟨h1, g2⟩ := Bool.and_eq_true_iff.mp h
      obtain ⟨h2, g3⟩ := Bool.and_eq_true_iff.mp g2
      obtain ⟨h3, g4⟩ := Bool.and_eq_true_iff.mp g3
      obtain ⟨h4, h5⟩ := Bool.and_eq_true_iff.mp g4
      have e1 := of_decide_eq_true h1
      obtain ⟨hl, hx⟩ := cs_lt (p := p) (c := c) (x := x) (by rw [e1]; rfl)
      have ix : (p.T X.K).ix c = true := by
        show (p.cs[c]?.map (·.2)).getD true = true
        rw [e1]
        rfl
      exact sd_tryR ok.stk ok.frm (by rw [ok.N]; exact ok.nd) ok.tk (fun c' b hb => ok.gf.exm c c' b ix hb) (by rw [← hx X.K]; exact ok.gf.cg c hl) (fun W pn xe tk ps => b n _ W (ok.tr tk ps)) (w n X W ok.toCxOk) (ok.toCxOk.gl h2) (by rw [ok.N]; exact of_decide_eq_true h4) (by show X.env.scope.names.lookup y = _; rw [ok.sc]; exact of_decide_eq_true h5) (of_decide_eq_true h3)
    | _ => none
/-! ### defs -/
/-- a def's text is as it is read -/
structure DfOk (p : PJ) (d : DF) : Prop where
  sc : FnScope d.N d.ps d.d.scope
  ln : d.op = false → d.N.length = d.fn.slots
  ar : d.op = false → d.ps.length = d.fn.ar
  bd : d.op = false → QS p ⟨d.N, d.d.scope, fun _ => true, 2, d.lam⟩ d.d.body d.fn.body
def dfB (p : PJ) (d : DF) : Bool := d.op || (((cB p ⟨d.N, d.d.scope, fun _ => true, 2, d.lam⟩ d.fn.body).many d.d.body).isSome && (decide (d.N.length = d.fn.slots) && decide (d.ps.length = d.fn.ar)))
theorem dfB_ok {p : PJ} {d : DF} (sc : FnScope d.N d.ps d.d.scope) (h : dfB p d = true) : DfOk p d := by
  have q : d.op = false → (((cB p ⟨d.N, d.d.scope, fun _ => true, 2, d.lam⟩ d.fn.body).many d.d.body).isSome && (decide (d.N.length = d.fn.slots) && decide (d.ps.length = d.fn.ar))) = true := fun e => by
    unfold dfB at h
    rw [e] at h
    exact h
  refine ⟨sc, fun e => ?_, fun e => ?_, fun e => ?_⟩
  · exact of_decide_eq_true (Bool.and_eq_true_iff.mp (Bool.and_eq_true_iff.mp (q e)).2).1
  · exact of_decide_eq_true (Bool.and_eq_true_iff.mp (Bool.and_eq_true_iff.mp (q e)).2).2
  · obtain ⟨u, hu⟩ := Option.isSome_iff_exists.mp (Bool.and_eq_true_iff.mp (q e)).1
    exact u.down
/-- the tables of the defs that make lambdas -/
def LF (p : PJ) (K : Fg) (mg : Str → Option Value) (base : Heap) : Prop := ∀ (i : Nat) (d : DF), p.df[i]? = some d → d.lam = true → ∃ c P, codeAt K (He.fAd K d.d.at_) = .ref c ∧ LamX.TabB base mg c P ∧ (P, d.d.qual ++ ".<locals>." ++ "<lambda>") ∈ p.tabs K ∧ ∀ q ∈ p.tabs K, q.1 = P → q.2 = d.d.qual ++ ".<locals>." ++ "<lambda>"
theorem lv_all {p : PJ} {P : Program} {w : World} {K : Fg} {mg : Str → Option Value} {base : Heap} (gf : GF p P K mg) (lf : LF p K mg base) (ok : ∀ (i : Nat) (d : DF), p.df[i]? = some d → DfOk p d) : ∀ n, Lv p P w K mg base n
  | 0 => fun i d fd hd F => fn_no
  | n + 1 => fun i d fd hd F => by
    have D := ok i d hd
    have e : p.fm (n + 1) i = if d.op then (fun _ _ => .no) else d.fn.run (p.C n) := by
      funext us m
      show (match p.df[i]? with
        | some d => if d.op then R.no else d.fn.run (p.ce (p.fm n)) us m
        | none => R.no) = _
      rw [hd]
      dsimp only
      split <;> rfl
    rw [e]
    by_cases ho : d.op = true
    · rw [if_pos ho]
      exact fn_no
    rw [if_neg ho]
    rw [Bool.not_eq_true] at ho
    refine fn_okM (k := 4 * n + 7) F D.sc (D.ln ho) (D.ar ho) fun cdv A outer s H E hr hcd => ?_
    exact D.bd ho n _ (WD E) ⟨⟨rfl, D.sc.nd, rfl, rfl, rfl, hr, takes_of rfl rfl rfl rfl, gf, lv_all gf lf ok n, fun hl => by
      obtain ⟨c, P, h1, h2, h3, h4⟩ := lf i d hd hl
      exact ⟨c, P, hcd.symm.trans h1, h2, h3, h4⟩⟩, passes_of rfl, rfl, rfl, D.sc.kind⟩
end At

/-! What the head tells of a whole program; a law's end. -/
namespace At
open PySem L2 Evl
open PySem.W PySem.Calls PyProof.Rows PySem.HandSPX
open He (ga ma fAd eqO eqO_ok ba Fa)
/-- a program, its errors' classes -/
structure PX where
  p : PJ
  xd : List XD
def hasEq (p : PJ) (c : Nat) : Bool := ((p.mts.lookup c).map fun r => r.any fun q => decide (p.ms[q.1]? = some "__eq__")).getD false
def gfB (p : PJ) (K : Fg) : Bool :=
  (p.free.all fun x => (Fa.free x).ok K) && ((p.ki.all fun q => (Fa.int q.1 q.2).ok K) && ((p.ks.all fun q => (Fa.str q.1 q.2).ok K) && ((p.kt.all fun q => (Fa.glo q.1).ok K && He.tupB K q.1 (q.2.map He.Dv.str)) &&
  ((p.cs.all fun q => (Fa.glo q.1).ok K) && (ckT (p.T K) p.cs.length p.isa p.fld K &&
  ((p.ini.all fun q => !(p.T K).ix q.1 && ((Fa.mkr ((p.T K).cn q.1)).ok K && (match p.df[q.2]? with
    | some d => decide (d.d.at_ = ((p.T K).cn q.1, some ("__init__" : Str)))
    | none => false))) &&
  ((p.mts.all fun r => !(p.T K).ix r.1 && ((Fa.cls ((p.T K).cn r.1)).ok K && r.2.all fun q => (Fa.meth ((p.T K).cn r.1) ((p.T K).mn q.1)).ok K && (match p.df[q.2]? with
    | some d => decide (d.d.at_ = ((p.T K).cn r.1, some ((p.T K).mn q.1)))
    | none => false))) &&
  ((p.mts.all fun r => !hasEq p r.1 || (eqO (findIn K (.ref (cl K (p.T K) r.1)) "__ne__") (some (some (.builtin "object.__ne__"))) && decide (mroIn K (cl K (p.T K) r.1) (.type "object") = some true))) &&
  ((p.isa.all fun r => r.2.all fun q => decide (q.1 < 20) || (!hasEq p (q.1 - 20) || notFirst K (cl K (p.T K) (q.1 - 20)) (kindV K (p.T K) r.1))) &&
  ((p.isa.all fun r => decide (r.1 < 20) || r.2.all fun q => decide (q.1 < 20) || (!(p.T K).ix (q.1 - 20) || ((p.T K).ix (r.1 - 20) && decide (exmOne K (.ref (cl K (p.T K) (r.1 - 20))) (.ref (cl K (p.T K) (q.1 - 20))) = some q.2)))) &&
  (p.df.all fun d => match d.d.at_.2 with
    | none => (Fa.glo d.d.at_.1).ok K
    | some _ => true)))))))))))
/-- what is told by the text alone -/
structure PxOk (P : Program) (x : PX) : Prop where
  er : ∀ c fl, x.p.er.lookup c = some fl → ∃ (j : Nat) (d : XD), x.xd[j]? = some d ∧ XSt P d ∧ x.p.cs[c]? = some (d.cn, true) ∧ d.fs = fl.map fun f => x.p.fs[f]?.getD ("" : Str)
  sup : x.p.free.contains ("super" : Str) = true
  nd : x.p.fs.Nodup
  ne : ("" : Str) ∉ x.p.fs
  fl : ∀ c f, fldT x.p.fld c f = true → f < x.p.fs.length
  mn : ∀ m ∈ x.p.ms, m ∉ x.p.fs ∧ m ≠ ""
  bd : ∀ (i : Nat) (d : DF), x.p.df[i]? = some d → d.d.dfl = [] ∧ ∀ (kV doc pm : Value) (an : Option Addr) (cdv ct : Value) (us : List Value), us.length = d.ps.length → bindArgs (fnOf d.d.name d.d.qual d.d.params d.d.body d.d.scope .none kV doc pm an cdv ct) ⟨us, []⟩ = pure (d.ps.zip us)
  ok : ∀ (i : Nat) (d : DF), x.p.df[i]? = some d → DfOk x.p d
def PX.hx (x : PX) : HX := ⟨[], x.p.df.map (·.d), x.xd, gfB x.p⟩
theorem lookup_all {α β : Type} [BEq α] [LawfulBEq α] {l : List (α × β)} {k : α} {b : β} {f : α × β → Bool} (h : l.all f = true) (e : l.lookup k = some b) : f (k, b) = true := List.all_eq_true.mp h _ (lookup_mem e)
theorem or_not {a b : Bool} (h : (!a || b) = true) (ha : a = true) : b = true := by
  rw [ha] at h
  exact h
theorem at_T {p : PJ} {K : Fg} {c f : Nat} (h : AtOk K (tbl p.cs p.fs p.ms) c f) : AtOk K (p.T K) c f := ⟨h.no, h.inj, h.xc, h.ic⟩
theorem gf_of {P : Program} {x : PX} {K : Fg} {h : Heap} {mg : Str → Option Value} (ok : PxOk P x) (X : K.In h) (G : h.Ns mainGlobals mg) (c : (x.hx).says P K) : GF x.p P K mg := by
  have cb : gfB x.p K = true := (HX.parts c).2.2.2
  unfold gfB at cb
  obtain ⟨c1, cb⟩ := ba cb
  obtain ⟨c2, cb⟩ := ba cb
  obtain ⟨c3, cb⟩ := ba cb
  obtain ⟨c4, cb⟩ := ba cb
  obtain ⟨c5, cb⟩ := ba cb
  obtain ⟨c6, cb⟩ := ba cb
  obtain ⟨c7, cb⟩ := ba cb
  obtain ⟨c8, cb⟩ := ba cb
  obtain ⟨c9, cb⟩ := ba cb
  obtain ⟨c10, cb⟩ := ba cb
  obtain ⟨c11, c12⟩ := ba cb
  have free : ∀ y, x.p.free.contains y = true → mg y = none := fun y hy => He.free_ok X G (List.all_eq_true.mp c1 y (List.contains_iff_mem.mp hy))
  have mts : ∀ c g i, mtT x.p.mts c g = some i → ∃ r, x.p.mts.lookup c = some r ∧ r.lookup g = some i := fun c g i e => Option.bind_eq_some_iff.mp e
  have heq : ∀ c g i, mtT x.p.mts c g = some i → (x.p.T K).mn g = "__eq__" → hasEq x.p c = true := fun c g i e hg => by
    obtain ⟨r, e1, e2⟩ := mts c g i e
    unfold hasEq
    rw [e1]
    show (r.any fun q => decide (x.p.ms[q.1]? = some "__eq__")) = true
    refine List.any_eq_true.mpr ⟨(g, i), lookup_mem e2, decide_eq_true ?_⟩
    have hg' : x.p.ms[g]?.getD ("" : Str) = "__eq__" := hg
    cases q : x.p.ms[g]? with
    | none =>
      rw [q] at hg'
      exact absurd hg' (by decide)
    | some m =>
      rw [q] at hg'
      exact congrArg some hg'
  have cN : ∀ c y b, x.p.cs[c]? = some (y, b) → (x.p.T K).cn c = y ∧ (x.p.T K).ix c = b := fun c y b e => by
    refine ⟨?_, ?_⟩
    · show (x.p.cs[c]?.map (·.1)).getD ("" : Str) = y
      rw [e]
      rfl
    · show (x.p.cs[c]?.map (·.2)).getD true = b
      rw [e]
      rfl
  exact {
    free := free
    ki := fun y i e => He.int_ok X G (lookup_all c2 e)
    ks := fun y i e => He.str_ok X G (lookup_all c3 e)
    kt := fun y ys e => by
      obtain ⟨h1, h2⟩ := ba (lookup_all c4 e)
      refine ⟨He.glo_ok X G h1, fun H => ?_⟩
      have := He.tupB_ok h2 H
      rw [List.map_map] at this
      exact this
    er := fun c0 fl e => by
      obtain ⟨j, d, hj, S, hc, hf⟩ := ok.er c0 fl e
      obtain ⟨e1, e2⟩ := cN c0 _ _ hc
      refine ⟨e2, d.ps, ?_⟩
      have Z := HX.err (x := x.hx) c X G (free _ ok.sup) j S hj
      rw [e1]
      unfold cl
      rw [e1]
      have : fl.map (x.p.T K).fn = d.fs := by
        rw [hf]
        rfl
      rw [this]
      exact Z
    cg := fun c hc => by
      have e : x.p.cs[c]? = some x.p.cs[c] := List.getElem?_eq_getElem hc
      obtain ⟨e1, _⟩ := cN c x.p.cs[c].1 x.p.cs[c].2 e
      unfold cl
      rw [e1]
      exact He.glo_ok X G (List.all_eq_true.mp c5 _ (List.getElem_mem hc))
    isF := fun C hC => ckT_isF c6 hC
    at_ := fun c f e => at_T (ckT_at (cs := x.p.cs) (fs := x.p.fs) (ms := x.p.ms) (C := x.p.ce (fun _ _ _ => .no)) (show ckT (tbl x.p.cs x.p.fs x.p.ms) x.p.cs.length x.p.isa x.p.fld K = true from c6) rfl ok.nd ok.ne (ok.fl c f e) c e)
    mkc := fun c i e => by
      obtain ⟨h1, h2⟩ := ba (lookup_all c7 e)
      obtain ⟨h2, h3⟩ := ba h2
      refine ⟨by simpa using h1, ?_⟩
      dsimp only at h3
      cases hd : x.p.df[i]? with
      | none =>
        rw [hd] at h3
        cases h3
      | some d =>
        rw [hd] at h3
        refine ⟨d, rfl, ?_⟩
        rw [of_decide_eq_true h3]
        exact He.mkr_ok h2
    mt := fun c g i e => by
      obtain ⟨r, e1, e2⟩ := mts c g i e
      obtain ⟨h1, h2⟩ := ba (lookup_all c8 e1)
      obtain ⟨h2, h3⟩ := ba h2
      obtain ⟨h4, h5⟩ := ba (lookup_all h3 e2)
      refine ⟨by simpa using h1, He.cls_ok h2, ?_⟩
      dsimp only at h5
      cases hd : x.p.df[i]? with
      | none =>
        rw [hd] at h5
        cases h5
      | some d =>
        rw [hd] at h5
        refine ⟨d, rfl, ?_⟩
        rw [of_decide_eq_true h5]
        exact He.meth_ok h4
    mn := fun g hg i e => by
      have e1 : x.p.ms[g]? = some x.p.ms[g] := List.getElem?_eq_getElem hg
      obtain ⟨n1, n2⟩ := ok.mn x.p.ms[g] (List.getElem_mem hg)
      have e2 : (x.p.T K).mn g = x.p.ms[g] := by
        show x.p.ms[g]?.getD ("" : Str) = _
        rw [e1]
        rfl
      rw [e2] at e
      have e3 : x.p.fs[i]?.getD ("" : Str) = x.p.ms[g] := e
      cases q : x.p.fs[i]? with
      | none =>
        rw [q] at e3
        exact n2 e3.symm
      | some f =>
        rw [q] at e3
        exact n1 (by rw [← (show f = _ from e3)]; exact List.mem_of_getElem? q)
    nf := fun k c r g i e hg hi => by
      obtain ⟨row, e1, e2⟩ := Option.bind_eq_some_iff.mp (show (x.p.isa.lookup k).bind (fun r => r.lookup (20 + c)) = some r from hi)
      have q := lookup_all (lookup_all c10 e1) e2
      dsimp only at q
      have h20 : ¬ (20 + c < 20) := by omega
      rw [decide_eq_false h20, Bool.false_or] at q
      have h0 : 20 + c - 20 = c := by omega
      rw [h0] at q
      exact or_not q (heq c g i e hg)
    ne := fun c g i e hg => by
      obtain ⟨r, e1, e2⟩ := mts c g i e
      obtain ⟨h1, h2⟩ := ba (or_not (lookup_all c9 e1) (heq c g i e hg))
      exact ⟨eqO_ok h1, of_decide_eq_true h2⟩
    exm := fun c c' b ix hi => by
      obtain ⟨row, e1, e2⟩ := Option.bind_eq_some_iff.mp (show (x.p.isa.lookup (20 + c')).bind (fun r => r.lookup (20 + c)) = some b from hi)
      have q := lookup_all c11 e1
      dsimp only at q
      have h20 : ∀ c : Nat, ¬ (20 + c < 20) := fun c => by omega
      have h0 : ∀ c : Nat, 20 + c - 20 = c := fun c => by omega
      rw [decide_eq_false (h20 c'), Bool.false_or] at q
      have q2 := lookup_all q e2
      dsimp only at q2
      rw [decide_eq_false (h20 c), Bool.false_or, h0, h0] at q2
      exact of_decide_eq_true (ba (or_not q2 ix)).2
    xrow := fun c c' b ix hi => by
      obtain ⟨row, e1, e2⟩ := Option.bind_eq_some_iff.mp (show (x.p.isa.lookup (20 + c')).bind (fun r => r.lookup (20 + c)) = some b from hi)
      have q := lookup_all c11 e1
      dsimp only at q
      have h20 : ∀ c : Nat, ¬ (20 + c < 20) := fun c => by omega
      have h0 : ∀ c : Nat, 20 + c - 20 = c := fun c => by omega
      rw [decide_eq_false (h20 c'), Bool.false_or] at q
      have q2 := lookup_all q e2
      dsimp only at q2
      rw [decide_eq_false (h20 c), Bool.false_or, h0, h0] at q2
      exact (ba (or_not q2 ix)).1
    df := fun i d hd => by
      obtain ⟨h1, h2⟩ := ok.bd i d hd
      obtain ⟨fd, F⟩ := HX.def_ (x := x.hx) c i (d := d.d) (by show (x.p.df.map (·.d))[i]? = _; rw [List.getElem?_map, hd]; rfl)
      refine ⟨fd, F, ?_⟩
      have ed : d.d.dvs K = [] := by
        unfold He.DefD.dvs
        rw [h1]
        rfl
      rw [ed] at F
      exact F.bindsN (ps := d.ps) h2
    sc := fun i d hd => (ok.ok i d hd).sc
    dg := fun i d hd h0 => by
      have q := List.all_eq_true.mp c12 d (List.mem_of_getElem? hd)
      rw [h0] at q
      unfold fAd
      rw [h0]
      exact He.glo_ok X G q }
end At

/-! Tables of code objects; a law's end. -/
namespace At
open PySem L2 Evl
open PySem.W PySem.Calls PyProof.Rows PySem.HandSPX
open He (ga ma fAd eqO eqO_ok ba Fa)
def codeAd (K : Fg) (f : Addr) : Addr := match codeAt K f with
  | .ref c => c
  | _ => 0
def tabAd (K : Fg) (f : Addr) : Addr := match K.lookup (codeAd K f) with
  | some ⟨_, _, .fields vs, _⟩ => (match (vs[11]? : Option Value) with
    | some (.ref P) => P
    | _ => 0)
  | _ => 0
def stdTabs (df : List DF) (K : Fg) : List (Addr × Str) := (df.filter (·.lam)).map fun d => (tabAd K (fAd K d.d.at_), d.d.qual ++ ".<locals>." ++ "<lambda>")
def tabB (g : Addr → Option Obj) (a : Addr) : Bool := match g a with
  | some ⟨.none, none, .fields vs, sl⟩ => vs.toList.isEmpty && sl.toList.isEmpty
  | _ => false
theorem tabB_ok {g : Addr → Option Obj} {a : Addr} (h : tabB g a = true) : g a = some (tabObj #[]) := by
  unfold tabB at h
  split at h
  · next vs sl e =>
    obtain ⟨h1, h2⟩ := ba h
    have e1 : vs = #[] := by
      have := List.isEmpty_iff.mp h1
      exact Array.toList_eq_nil_iff.mp this
    have e2 : sl = #[] := by
      have := List.isEmpty_iff.mp h2
      exact Array.toList_eq_nil_iff.mp this
    rw [e, e1, e2]
  · cases h
def cdB (K : Fg) (c P : Addr) : Bool := (match K.lookup c with
  | some ⟨.type n, _, .fields vs, _⟩ => decide (n = "code") && (decide (vs[11]? = some (.ref P)) && ((match vs.getD 18 .none with
    | .str _ _ => true
    | _ => false) && ((match vs.getD 7 .none with
    | .int _ _ => true
    | _ => false) && ((match vs.getD 9 .none with
    | .bool _ => true
    | _ => false) && (match vs.getD 10 .none with
    | .int _ _ => true
    | _ => false)))))
  | _ => false) && decide (c ≠ P)
theorem cdB_ok {K : Fg} {c P : Addr} {h : Heap} (X : K.In h) (e : cdB K c P = true) : CodeHd h c P := by
  unfold cdB at e
  obtain ⟨e, ne⟩ := ba e
  split at e
  · next n od vs sl q =>
    obtain ⟨h1, e⟩ := ba e
    obtain ⟨h2, e⟩ := ba e
    obtain ⟨h3, e⟩ := ba e
    obtain ⟨h4, e⟩ := ba e
    obtain ⟨h5, h6⟩ := ba e
    have g2 := of_decide_eq_true h2
    have g1 := of_decide_eq_true h1
    split at h3
    · next file tf q3 =>
      split at h4
      · next flags tg q4 =>
        split at h5
        · next inF q5 =>
          split at h6
          · next text tt q6 =>
            refine ⟨_, vs, file, tf, flags, tg, inF, text, tt, X _ _ q, by rw [g1], rfl, g2, ?_, q3, q4, q5, q6, of_decide_eq_true ne⟩
            rw [Array.getD_eq_getD_getElem?, g2]
            rfl
          · cases h6
        · cases h5
      · cases h4
    · cases h3
  · cases e
def tbB (p : PJ) (K : Fg) (g : Addr → Option Obj) : Bool := (p.df.all fun d => !d.lam || (cdB K (codeAd K (fAd K d.d.at_)) (tabAd K (fAd K d.d.at_)) && (decide (codeAt K (fAd K d.d.at_) = .ref (codeAd K (fAd K d.d.at_))) && (tabB g (tabAd K (fAd K d.d.at_)) && (K.lookup (tabAd K (fAd K d.d.at_))).isNone)))) && decide (((stdTabs p.df K).map (·.1)).Nodup)
structure TbF (p : PJ) (K : Fg) (h : Heap) : Prop where
  one : ∀ d ∈ p.df, d.lam = true → CodeHd h (codeAd K (fAd K d.d.at_)) (tabAd K (fAd K d.d.at_)) ∧ codeAt K (fAd K d.d.at_) = .ref (codeAd K (fAd K d.d.at_)) ∧ h.get? (tabAd K (fAd K d.d.at_)) = some (tabObj #[]) ∧ K.lookup (tabAd K (fAd K d.d.at_)) = none
  nd : ((stdTabs p.df K).map (·.1)).Nodup
theorem tbB_ok {p : PJ} {K : Fg} {h : Heap} (X : K.In h) (e : tbB p K h.get? = true) : TbF p K h := by
  obtain ⟨e1, e2⟩ := ba e
  refine ⟨fun d hd hl => ?_, of_decide_eq_true e2⟩
  have q := or_not (List.all_eq_true.mp e1 d hd) hl
  obtain ⟨q1, q⟩ := ba q
  obtain ⟨q2, q⟩ := ba q
  obtain ⟨q3, q4⟩ := ba q
  exact ⟨cdB_ok X q1, of_decide_eq_true q2, tabB_ok q3, Option.isNone_iff_eq_none.mp q4⟩
theorem TbF.keeps {p : PJ} {K : Fg} {h h' : Heap} (t : TbF p K h) (k : ∀ b o, h.get? b = some o → h'.get? b = some o) : TbF p K h' :=
  ⟨fun d hd hl => let ⟨a, b, c, e⟩ := t.one d hd hl; ⟨a.keeps k, b, k _ _ c, e⟩, t.nd⟩
/-- the part of the heap that is looked at: no tables -/
def frT (p : PJ) (n : Nat) (g : Addr → Option Obj) : Fg := He.frG g ((asX g n).filter fun a => !((stdTabs p.df (He.frG g (asX g n))).map (·.1)).contains a)
def PX.obsG (P : Program) (n : Nat) (x : PX) (g : Addr → Option Obj) : AlX × Bool := (x.hx.seen P (frT x.p n g), tbB x.p (frT x.p n g) g)
def PX.hook (P : Program) (n : Nat) (x : PX) : PySem.W.Hook where
  α := AlX × Bool
  obs := fun s => x.obsG P n s.heap.get?
  val := fun _ => (x.hx.val, true)
  says := fun _ h => ∃ K : Fg, K.In h ∧ x.hx.says P K ∧ TbF x.p K h
  of := fun _ s e => by
    have e1 : x.hx.seen P (frT x.p n s.heap.get?) = x.hx.val := congrArg (·.1) e
    have e2 : tbB x.p (frT x.p n s.heap.get?) s.heap.get? = true := congrArg (·.2) e
    exact ⟨frT x.p n s.heap.get?, He.frG_in, e1, tbB_ok He.frG_in e2⟩
  keeps := fun _ _ _ ⟨K, hK, c, t⟩ k => ⟨K, PySem.W.Frag.In.keeps hK k, c, t.keeps k⟩
theorem PX.obs_eq {P : Program} {n : Nat} {x : PX} {g : Addr → Option Obj} {s : Shared} (h : ∀ a, g a = s.heap.get? a) : x.obsG P n g = (x.hook P n).obs s := by
  have e : g = s.heap.get? := funext h
  rw [e] <;> rfl
theorem scr_sto {K : Fg} {T : Tb} {H : Hp} {a : Addr} {xs : List V} (hS : SqL K H a xs) (ht : LamX.Tabs T.tabs H) : ∃ B, Sto K T (fun _ => 0) B H [] ∧ SqL K B a xs := by
  rcases hS with r | r
  · refine ⟨fun b => if b = a then H b else none, sto_nil (fun b o e => ?_) ht (fun b ps e => ?_), .inl ?_⟩
    · by_cases c : b = a
      · rw [if_pos c] at e
        exact e
      · rw [if_neg c] at e
        cases e
    · by_cases c : b = a
      · rw [if_pos c, c] at e
        rcases r with r | ⟨o, r⟩
        · rw [r] at e
          cases e
        · rw [r] at e
          cases e
      · rw [if_neg c] at e
        cases e
    · rcases r with r | ⟨o, r⟩
      · exact .inl ((if_pos rfl).trans r)
      · exact .inr ⟨o, (if_pos rfl).trans r⟩
  · exact ⟨fun _ => none, sto_nil (fun _ _ e => nomatch e) ht (fun _ _ e => nomatch e), .inr r⟩
/-- A LAW'S END -/
theorem walk_px {l : OpenLaw} {x : PX} {n i m : Nat} {df0 : DF} {q : Program} {loose : List Str} {XP : (Str → Option Value) → Heap → Prop} {d : DefRec} {a0 : Str} (ht : x.p.tabs = stdTabs x.p.df) (ok : PxOk l.prog x) (hi : x.p.df[i]? = some df0) (h0 : df0.d.at_ = (d.name, none)) (hps : df0.ps = [a0])
    (hn : l.most = some 63) (hdf : d.params.defaults = []) (hr : Room (4 * n + 4) callerA) (hlaw : ∀ ns : List Int, ns.length ≤ 63 → pureP (x.p.fm n i [.v (.scr ns)] []) = .ok (.bl true)) :
    WalkO q loose XP (x.hook l.prog m).says l.row.toRowW d [] (fun f vs => PySem.call f vs) := by
  refine Att.attach_call hn hdf fun wd t0 t1 mg mb fa ob pm cdv doc ad us ns Gd Yd h1 h2 h3 h4 h5 h6 h7 h8 => ?_
  obtain ⟨K, inK, says, tf⟩ := Yd
  have gf := gf_of ok inK Gd.T.g says
  obtain ⟨fd, F, hb⟩ := gf.df i df0 hi
  have hm := gf.dg i df0 hi (by rw [h0])
  rw [h0] at hm
  have efa : fa = fAd K df0.d.at_ := by
    have e := h4.symm.trans hm
    rw [h0]
    injection e with e
    injection e
  obtain ⟨hD, hbd⟩ := ok.bd i df0 hi
  have ed : df0.d.dvs K = [] := by
    unfold He.DefD.dvs
    rw [hD]
    rfl
  have F2 := F
  rw [ed] at F2
  have bnd : ∀ (s : Shared) (u : Value), BindsTo s fd ⟨[u], []⟩ [(a0, u)] := fun s u => by
    have := F2.bindsA (ps := df0.ps) hbd s [u] (by rw [hps]; rfl)
    rw [hps] at this
    exact this
  have mem : ∀ p ∈ (x.p.df.filter (·.lam)).map (fun d => (codeAd K (fAd K d.d.at_), tabAd K (fAd K d.d.at_))), ∃ d ∈ x.p.df, d.lam = true ∧ p = (codeAd K (fAd K d.d.at_), tabAd K (fAd K d.d.at_)) := fun p hp => by
    obtain ⟨d, hd, e⟩ := List.mem_map.mp hp
    obtain ⟨g1, g2⟩ := List.mem_filter.mp hd
    exact ⟨d, g1, g2, e.symm⟩
  have mem2 : ∀ d ∈ x.p.df, d.lam = true → (codeAd K (fAd K d.d.at_), tabAd K (fAd K d.d.at_)) ∈ (x.p.df.filter (·.lam)).map (fun d => (codeAd K (fAd K d.d.at_), tabAd K (fAd K d.d.at_))) := fun d hd hl => List.mem_map.mpr ⟨d, List.mem_filter.mpr ⟨hd, hl⟩, rfl⟩
  refine LamX.law_callTs (cs := (x.p.df.filter (·.lam)).map fun d => (codeAd K (fAd K d.d.at_), tabAd K (fAd K d.d.at_))) (CX := L2.CX l.prog wd) (sp := spM K (x.p.T K) (x.p.fm n i)) inK Gd.T.g Gd.T.b Gd.T.builtins Gd.T.nolimit h8 (fun p hp => ?_) (fun p hp => ?_) (fun p hp => ?_) Gd.T.bmain h5 h6 (Nat.le_trans h7 (by decide)) hr (fun base hK hB hT => ?_) bnd (fun H hT hS => ?_) fun H e s' z => ?_
  · obtain ⟨d, hd, hl, rfl⟩ := mem p hp
    exact (tf.one d hd hl).2.2.1
  · obtain ⟨d, hd, hl, rfl⟩ := mem p hp
    exact (tf.one d hd hl).2.2.2
  · obtain ⟨d, hd, hl, rfl⟩ := mem p hp
    exact (tf.one d hd hl).1
  · have lf : LF x.p K mg base := fun j d hd hl => by
      have hm := List.mem_of_getElem? hd
      have tb := hT _ (mem2 d hm hl)
      have mt : (tabAd K (fAd K d.d.at_), d.d.qual ++ ".<locals>." ++ "<lambda>") ∈ stdTabs x.p.df K := List.mem_map.mpr ⟨d, List.mem_filter.mpr ⟨hm, hl⟩, rfl⟩
      refine ⟨codeAd K (fAd K d.d.at_), tabAd K (fAd K d.d.at_), (tf.one d hm hl).2.1, tb, by rw [ht]; exact mt, fun q hq e => ?_⟩
      rw [ht] at hq
      have uniq : ∀ {L : List (Addr × Str)}, (L.map (·.1)).Nodup → ∀ {u v : Addr × Str}, u ∈ L → v ∈ L → u.1 = v.1 → u = v := by
        intro L
        induction L with
        | nil => intro _ u v hu; cases hu
        | cons z zs ih =>
          intro nd u v hu hv e
          rw [List.map_cons, List.nodup_cons] at nd
          rcases List.mem_cons.mp hu with eu | hu'
          · rcases List.mem_cons.mp hv with ev | hv'
            · rw [eu, ev]
            · exact absurd (List.mem_map.mpr ⟨v, hv', by rw [← e, eu]⟩) nd.1
          · rcases List.mem_cons.mp hv with ev | hv'
            · exact absurd (List.mem_map.mpr ⟨u, hu', by rw [e, ev]⟩) nd.1
            · exact ih nd.2 hu' hv' e
      rw [uniq tf.nd hq mt e]
    have L := lv_all (w := wd) gf lf ok.ok n i df0 fd hi F
    rw [← efa, hps] at L
    exact L
  · have tb : LamX.Tabs (x.p.T K).tabs H := fun p hp => by
      have hp' : p ∈ stdTabs x.p.df K := by
        rw [← ht]
        exact hp
      obtain ⟨d, hd, e⟩ := List.mem_map.mp hp'
      obtain ⟨g1, g2⟩ := List.mem_filter.mp hd
      rw [← e]
      exact LamX.TabS.nil (hT _ (mem2 d g1 g2))
    obtain ⟨B, st, hS'⟩ := scr_sto (T := x.p.T K) hS tb
    refine ⟨fun _ => 0, B, [], [.v (.scr ns)], st, .cons (.scr hS') .nil, ?_⟩
    have hl := hlaw ns h7
    cases hf : x.p.fm n i [.v (.scr ns)] [] with
    | ok u m =>
      rw [hf] at hl
      dsimp only [pureP] at hl
      intro v H' π' B' s r
      cases hs : see m u with
      | none =>
        rw [hs] at hl
        cases hl
      | some d =>
        rw [hs] at hl
        cases hl
        have := see_ok s.st r hs
        cases this
        rfl
    | ex c fs m =>
      rw [hf] at hl
      cases hl
    | no =>
      rw [hf] at hl
      cases hl
  · obtain ⟨_, _, _, _, _, _, _, _, _, _, _, _, z⟩ := z
    exact z.elim
end At

/-! The look at a whole program. -/
namespace At
open PySem L2 Evl
open PySem.W PySem.Calls PyProof.Rows PySem.HandSPX
open He (ba)
def fnScB (N ps : List Str) (sc : Scope) : Bool := decide (sc.kind = .function) && (!sc.isCoroutine && (!sc.isGenerator && (decide N.Nodup && (decide (N.take ps.length = ps) && ((ps.all fun x => locB sc x) && sc.names.all fun y => decide (y.2 ≠ .free))))))
theorem fnScB_ok {N ps : List Str} {sc : Scope} (h : fnScB N ps sc = true) : FnScope N ps sc := by
  obtain ⟨h1, h⟩ := ba h
  obtain ⟨h2, h⟩ := ba h
  obtain ⟨h3, h⟩ := ba h
  obtain ⟨h4, h⟩ := ba h
  obtain ⟨h5, h⟩ := ba h
  obtain ⟨h6, h7⟩ := ba h
  exact ⟨of_decide_eq_true h1, by simpa using h2, by simpa using h3, of_decide_eq_true h4, of_decide_eq_true h5, fun x hx => locB_ok (List.all_eq_true.mp h6 x hx), fun y hy => of_decide_eq_true (List.all_eq_true.mp h7 y hy)⟩
def erB (x : PX) : List (Nat × List Nat) → List XD → Bool
  | [], _ => true
  | (c, fl) :: r, d :: ds => decide (x.p.cs[c]? = some (d.cn, true)) && (decide (d.fs = fl.map fun f => x.p.fs[f]?.getD ("" : Str)) && erB x r ds)
  | _ :: _, [] => false
theorem erB_ok {x : PX} : ∀ {er : List (Nat × List Nat)} {xs : List XD} {c : Nat} {fl : List Nat}, erB x er xs = true → (c, fl) ∈ er → ∃ (j : Nat) (d : XD), xs[j]? = some d ∧ x.p.cs[c]? = some (d.cn, true) ∧ d.fs = fl.map fun f => x.p.fs[f]?.getD ("" : Str)
  | [], _, _, _, _, e => by cases e
  | (c', fl') :: r, [], _, _, h, _ => by cases h
  | (c', fl') :: r, d :: ds, c, fl, h, e => by
    obtain ⟨h1, h⟩ := ba (show (decide (x.p.cs[c']? = some (d.cn, true)) && (decide (d.fs = fl'.map fun f => x.p.fs[f]?.getD ("" : Str)) && erB x r ds)) = true from h)
    obtain ⟨h2, h3⟩ := ba h
    rcases List.mem_cons.mp e with e | e
    · cases e
      exact ⟨0, d, rfl, of_decide_eq_true h1, of_decide_eq_true h2⟩
    · obtain ⟨j, d', q1, q2⟩ := erB_ok h3 e
      exact ⟨j + 1, d', q1, q2⟩
def pxB (x : PX) : Bool := erB x x.p.er x.xd && (x.p.free.contains ("super" : Str) && (decide x.p.fs.Nodup && (decide (("" : Str) ∉ x.p.fs) && ((x.p.fld.all fun r => r.2.all fun f => decide (f < x.p.fs.length)) && ((x.p.ms.all fun m => decide (m ∉ x.p.fs) && decide (m ≠ "")) && (x.p.df.all fun d => fnScB d.N d.ps d.d.scope && d.d.dfl.isEmpty))))))
abbrev BdOk (d : DF) : Prop := ∀ (kV doc pm : Value) (an : Option Addr) (cdv ct : Value) (us : List Value), us.length = d.ps.length → bindArgs (fnOf d.d.name d.d.qual d.d.params d.d.body d.d.scope .none kV doc pm an cdv ct) ⟨us, []⟩ = pure (d.ps.zip us)
theorem px_ok {P : Program} {x : PX} (h : pxB x = true) (hx : ∀ d ∈ x.xd, XSt P d) (hb : ∀ d ∈ x.p.df, BdOk d) (hk : ∀ d ∈ x.p.df, dfB x.p d = true) : PxOk P x := by
  obtain ⟨h1, h⟩ := ba h
  obtain ⟨h2, h⟩ := ba h
  obtain ⟨h3, h⟩ := ba h
  obtain ⟨h4, h⟩ := ba h
  obtain ⟨h5, h⟩ := ba h
  obtain ⟨h6, h7⟩ := ba h
  refine ⟨fun c fl e => ?_, h2, of_decide_eq_true h3, of_decide_eq_true h4, fun c f e => ?_, fun m hm => ?_, fun i d hd => ?_, fun i d hd => ?_⟩
  · obtain ⟨j, d, q1, q2, q3⟩ := erB_ok h1 (lookup_mem e)
    exact ⟨j, d, q1, hx d (List.mem_of_getElem? q1), q2, q3⟩
  · have e' : ((x.p.fld.lookup c).map fun r => r.contains f).getD false = true := e
    cases hl : x.p.fld.lookup c with
    | none =>
      rw [hl] at e'
      cases e'
    | some r =>
      rw [hl] at e'
      exact of_decide_eq_true (List.all_eq_true.mp (lookup_all h5 hl) f (List.contains_iff_mem.mp e'))
  · obtain ⟨q1, q2⟩ := ba (List.all_eq_true.mp h6 m hm)
    exact ⟨of_decide_eq_true q1, of_decide_eq_true q2⟩
  · have hm := List.mem_of_getElem? hd
    obtain ⟨q1, q2⟩ := ba (List.all_eq_true.mp h7 d hm)
    exact ⟨List.isEmpty_iff.mp q2, hb d hm⟩
  · have hm := List.mem_of_getElem? hd
    obtain ⟨q1, q2⟩ := ba (List.all_eq_true.mp h7 d hm)
    exact dfB_ok (fnScB_ok q1) (hk d hm)
end At

/-! The program's defs as they are read, by the places of what they name. -/
namespace At.Lb
open PySem
structure Ix where
  Formula_eq : Nat
  Formula_init : Nat
  c_BadFormula : Nat
  c_Formula : Nat
  choice : Nat
  chosen : Nat
  f_tree : Nat
  formula_of : Nat
  is_letters : Nat
  is_name : Nat
  is_word : Nat
  l_cell : Nat
  l_close : Nat
  l_flat : Nat
  l_row : Nat
  l_text : Nat
  l_tree : Nat
  l_true : Nat
  parts_at : Nat
  read_any : Nat
  read_joined : Nat
  read_single : Nat
  read_tree : Nat
  signs_of : Nat
  tree_choice : Nat
  tree_holds : Nat
  tree_of : Nat
  tree_words : Nat
  unlike_words : Nat
/-- is_letters: 0 thing, 1 sign -/
def is_letters (ix : Ix) : Fn := ⟨1, 2, (.seq (.ifs (.or_ (.not_ (.isi (.var 0) [3])) (.not_ (.chain .lt .le (.cst (.int 0)) (.un .len (.var 0)) (.cst (.int 8))))) (.ret (.cst (.bl false))) .skip)
  (.ret (.un .all (.lc [1] (.nm 1) (.seq (.var 0)) (.cst (.bl true)) (.cmp .in_ (.var 1) (.cst (.str [97, 98, 99, 100, 101, 102, 103, 104, 105, 106, 107, 108, 109, 110, 111, 112, 113, 114, 115, 116, 117, 118, 119, 120, 121, 122])))))))⟩
/-- is_name: 0 thing -/
def is_name (ix : Ix) : Fn := ⟨1, 1, (.ret (.and_ (.call ix.is_letters (.cons (.var 0) .nil)) (.cmp .nin (.var 0) (.cst (.tup [.str [97, 110, 100], .str [111, 114], .str [110, 111, 116], .str [116, 104, 101, 114, 101], .str [97, 108, 108], .str [110, 111, 110, 101]])))))⟩
/-- parts_at: 0 text, 1 found, 2 sign -/
def parts_at (ix : Ix) : Fn := ⟨1, 3, (.seq (.asg (.nm 1) (.new (.cons (.cst (.str [])) .nil)))
  (.seq (.for_ (.nm 2) (.seq (.var 0)) (.ifs (.cmp .eq (.var 2) (.cst (.str [64]))) (.app (.var 1) (.cst (.str []))) (.setI (.var 1) (.un .neg (.cst (.int 1))) (.op .add (.idx (.var 1) (.un .neg (.cst (.int 1)))) (.var 2)))))
  (.ret (.var 1))))⟩
/-- is_word: 0 text, 1 parts -/
def is_word (ix : Ix) : Fn := ⟨1, 2, (.seq (.asg (.nm 1) (.call ix.parts_at (.cons (.var 0) .nil)))
  (.seq (.ifs (.and_ (.cmp .ne (.idx (.var 1) (.cst (.int 0))) (.cst (.str [116, 104, 101, 114, 101]))) (.not_ (.call ix.is_name (.cons (.idx (.var 1) (.cst (.int 0))) .nil)))) (.ret (.cst (.bl false))) .skip)
  (.ret (.or_ (.cmp .eq (.un .len (.var 1)) (.cst (.int 1))) (.and_ (.cmp .eq (.un .len (.var 1)) (.cst (.int 2))) (.call ix.is_name (.cons (.idx (.var 1) (.cst (.int 1))) .nil)))))))⟩
/-- signs_of: 0 text, 1 found, 2 sign -/
def signs_of (ix : Ix) : Fn := ⟨1, 3, (.seq (.asg (.nm 1) (.new (.cons (.cst (.str [])) .nil)))
  (.seq (.for_ (.nm 2) (.seq (.var 0)) (.ifs (.cmp .in_ (.var 2) (.tup (.cons (.cst (.str [40])) (.cons (.cst (.str [41])) (.cons (.cst (.str [32])) .nil))))) (.ext (.var 1) (.lst (.cons (.var 2) (.cons (.cst (.str [])) .nil)))) (.setI (.var 1) (.un .neg (.cst (.int 1))) (.op .add (.idx (.var 1) (.un .neg (.cst (.int 1)))) (.var 2)))))
  (.ret (.lc [2] (.nm 2) (.seq (.frz (.var 1))) (.cmp .ne (.var 2) (.cst (.str []))) (.var 2)))))⟩
/-- read_any: 0 signs, 1 at -/
def read_any (ix : Ix) : Fn := ⟨2, 2, (.ret (.call ix.read_joined (.cons (.var 0) (.cons (.var 1) (.cons (.cst (.str [111, 114])) .nil)))))⟩
/-- read_joined: 0 signs, 1 at, 2 word, 3 found, 4 here, 5 tree -/
def read_joined (ix : Ix) : Fn := ⟨3, 6, (.seq (.asg (.nm 3) (.new .nil))
  (.seq (.asg (.nm 4) (.op .sub (.var 1) (.cst (.int 3))))
  (.seq (.whl (.or_ (.cmp .eq (.var 3) (.lst .nil)) (.cmp .eq (.slc (.var 0) (.opt (.var 4)) (.opt (.op .add (.var 4) (.cst (.int 3))))) (.lst (.cons (.cst (.str [32])) (.cons (.var 2) (.cons (.cst (.str [32])) .nil)))))) (.seq (.asg (.tp (.cons (.nm 5) (.cons (.nm 4) .nil))) (.ifx (.cmp .eq (.var 2) (.cst (.str [97, 110, 100]))) (.call ix.read_single (.cons (.var 0) (.cons (.op .add (.var 4) (.cst (.int 3))) .nil))) (.call ix.read_joined (.cons (.var 0) (.cons (.op .add (.var 4) (.cst (.int 3))) (.cons (.cst (.str [97, 110, 100])) .nil))))))
  (.seq (.ifs (.un .isN (.var 5)) (.ret (.tup (.cons (.cst .non) (.cons (.var 4) .nil)))) .skip)
  (.app (.var 3) (.var 5)))))
  (.ret (.tup (.cons (.call ix.tree_of (.cons (.var 2) (.cons (.frz (.var 3)) .nil))) (.cons (.var 4) .nil)))))))⟩
/-- read_single: 0 signs, 1 at, 2 sign, 3 tree, 4 here -/
def read_single (ix : Ix) : Fn := ⟨2, 5, (.seq (.asg (.nm 2) (.ifx (.cmp .lt (.var 1) (.un .len (.var 0))) (.idx (.var 0) (.var 1)) (.cst (.str []))))
  (.seq (.ifs (.cmp .eq (.var 2) (.cst (.str [110, 111, 116]))) (.seq (.asg (.tp (.cons (.nm 3) (.cons (.nm 4) .nil))) (.call ix.read_single (.cons (.var 0) (.cons (.op .add (.var 1) (.cst (.int 2))) .nil))))
  (.ret (.tup (.cons (.ifx (.or_ (.un .isN (.var 3)) (.cmp .ne (.idx (.var 0) (.op .add (.var 1) (.cst (.int 1)))) (.cst (.str [32])))) (.cst .non) (.tup (.cons (.cst (.str [110, 111, 116])) (.cons (.var 3) .nil)))) (.cons (.var 4) .nil))))) .skip)
  (.seq (.ifs (.cmp .eq (.var 2) (.cst (.str [40]))) (.seq (.asg (.tp (.cons (.nm 3) (.cons (.nm 4) .nil))) (.call ix.read_any (.cons (.var 0) (.cons (.op .add (.var 1) (.cst (.int 1))) .nil))))
  (.ret (.tup (.cons (.ifx (.cmp .eq (.slc (.var 0) (.opt (.var 4)) (.opt (.op .add (.var 4) (.cst (.int 1))))) (.lst (.cons (.cst (.str [41])) .nil))) (.var 3) (.cst .non)) (.cons (.op .add (.var 4) (.cst (.int 1))) .nil))))) .skip)
  (.seq (.ifs (.cmp .in_ (.var 2) (.cst (.tup [.str [97, 108, 108], .str [110, 111, 110, 101]]))) (.ret (.tup (.cons (.tup (.cons (.var 2) .nil)) (.cons (.op .add (.var 1) (.cst (.int 1))) .nil)))) .skip)
  (.ret (.tup (.cons (.ifx (.call ix.is_word (.cons (.var 2) .nil)) (.tup (.cons (.cst (.str [119, 111, 114, 100])) (.cons (.var 2) .nil))) (.cst .non)) (.cons (.op .add (.var 1) (.cst (.int 1))) .nil))))))))⟩
/-- tree_of: 0 word, 1 parts, 2 found, 3 part -/
def tree_of (ix : Ix) : Fn := ⟨2, 4, (.seq (.asg (.nm 2) (.new .nil))
  (.seq (.for_ (.nm 3) (.seq (.var 1)) (.ext (.var 2) (.ifx (.cmp .eq (.idx (.var 3) (.cst (.int 0))) (.var 0)) (.idx (.var 3) (.cst (.int 1))) (.lst (.cons (.var 3) .nil)))))
  (.ret (.ifx (.cmp .gt (.un .len (.var 2)) (.cst (.int 1))) (.tup (.cons (.var 0) (.cons (.frz (.var 2)) .nil))) (.idx (.var 2) (.cst (.int 0)))))))⟩
/-- read_tree: 0 text, 1 signs, 2 tree, 3 at -/
def read_tree (ix : Ix) : Fn := ⟨1, 4, (.seq (.asg (.nm 1) (.call ix.signs_of (.cons (.var 0) .nil)))
  (.seq (.asg (.tp (.cons (.nm 2) (.cons (.nm 3) .nil))) (.call ix.read_any (.cons (.var 1) (.cons (.cst (.int 0)) .nil))))
  (.ret (.ifx (.cmp .eq (.var 3) (.un .len (.var 1))) (.var 2) (.cst .non)))))⟩
/-- tree_words: 0 tree, 1 found, 2 part -/
def tree_words (ix : Ix) : Fn := ⟨1, 3, (.seq (.ifs (.cmp .eq (.idx (.var 0) (.cst (.int 0))) (.cst (.str [119, 111, 114, 100]))) (.ret (.lst (.cons (.idx (.var 0) (.cst (.int 1))) .nil))) .skip)
  (.seq (.ifs (.cmp .eq (.idx (.var 0) (.cst (.int 0))) (.cst (.str [110, 111, 116]))) (.ret (.call ix.tree_words (.cons (.idx (.var 0) (.cst (.int 1))) .nil))) .skip)
  (.seq (.asg (.nm 1) (.new .nil))
  (.seq (.for_ (.nm 2) (.seq (.ifx (.cmp .in_ (.idx (.var 0) (.cst (.int 0))) (.tup (.cons (.cst (.str [97, 110, 100])) (.cons (.cst (.str [111, 114])) .nil)))) (.idx (.var 0) (.cst (.int 1))) (.lst .nil))) (.ext (.var 1) (.call ix.tree_words (.cons (.var 2) .nil))))
  (.ret (.var 1))))))⟩
/-- unlike_words: 0 words, 1 found, 2 word -/
def unlike_words (ix : Ix) : Fn := ⟨1, 3, (.seq (.asg (.nm 1) (.new .nil))
  (.seq (.for_ (.nm 2) (.seq (.var 0)) (.ifs (.cmp .nin (.var 2) (.var 1)) (.app (.var 1) (.var 2)) .skip))
  (.ret (.var 1))))⟩
/-- tree_holds: 0 tree, 1 words, 2 part -/
def tree_holds (ix : Ix) : Fn := ⟨2, 3, (.seq (.ifs (.cmp .eq (.idx (.var 0) (.cst (.int 0))) (.cst (.str [119, 111, 114, 100]))) (.ret (.cmp .in_ (.idx (.var 0) (.cst (.int 1))) (.var 1))) .skip)
  (.seq (.ifs (.cmp .eq (.idx (.var 0) (.cst (.int 0))) (.cst (.str [110, 111, 116]))) (.ret (.not_ (.call ix.tree_holds (.cons (.idx (.var 0) (.cst (.int 1))) (.cons (.var 1) .nil))))) .skip)
  (.seq (.ifs (.cmp .nin (.idx (.var 0) (.cst (.int 0))) (.tup (.cons (.cst (.str [97, 110, 100])) (.cons (.cst (.str [111, 114])) .nil)))) (.ret (.cmp .eq (.idx (.var 0) (.cst (.int 0))) (.cst (.str [97, 108, 108])))) .skip)
  (.seq (.for_ (.nm 2) (.seq (.idx (.var 0) (.cst (.int 1)))) (.ifs (.cmp .eq (.call ix.tree_holds (.cons (.var 2) (.cons (.var 1) .nil))) (.cmp .eq (.idx (.var 0) (.cst (.int 0))) (.cst (.str [111, 114])))) (.ret (.cmp .eq (.idx (.var 0) (.cst (.int 0))) (.cst (.str [111, 114])))) .skip))
  (.ret (.cmp .eq (.idx (.var 0) (.cst (.int 0))) (.cst (.str [97, 110, 100]))))))))⟩
/-- Formula.__init__: 0 self, 1 text, 2 tree -/
def Formula_init (ix : Ix) : Fn := ⟨2, 3, (.seq (.asg (.nm 2) (.ifx (.isi (.var 1) [3]) (.call ix.read_tree (.cons (.var 1) .nil)) (.cst .non)))
  (.seq (.ifs (.un .isN (.var 2)) (.rai ix.c_BadFormula (.cons (.var 1) .nil)) .skip)
  (.setF (.var 0) ix.f_tree (.var 2))))⟩
/-- Formula.__eq__: 0 self, 1 other -/
def Formula_eq (ix : Ix) : Fn := ⟨2, 2, (.ret (.and_ (.isi (.var 1) [(20 + ix.c_Formula)]) (.un .isN (.call ix.tree_choice (.cons (.attr (.var 0) ix.f_tree) (.cons (.attr (.var 1) ix.f_tree) .nil))))))⟩
/-- chosen: 0 things, 1 many, 2 found, 3 at, 4 thing, 5 rest -/
def chosen (ix : Ix) : Fn := ⟨2, 6, (.seq (.ifs (.cmp .eq (.var 1) (.cst (.int 0))) (.ret (.lst (.cons (.lst .nil) .nil))) .skip)
  (.seq (.asg (.nm 2) (.new .nil))
  (.seq (.for_ (.tp (.cons (.nm 3) (.cons (.nm 4) .nil))) (.enum (.var 0)) (.ext (.var 2) (.lc [5] (.nm 5) (.seq (.call ix.chosen (.cons (.slc (.var 0) (.opt (.op .add (.var 3) (.cst (.int 1)))) .nil) (.cons (.op .sub (.var 1) (.cst (.int 1))) .nil)))) (.cst (.bl true)) (.op .add (.lst (.cons (.var 4) .nil)) (.var 5)))))
  (.ret (.var 2)))))⟩
/-- tree_choice: 0 one, 1 other, 2 words, 3 many, 4 some -/
def tree_choice (ix : Ix) : Fn := ⟨2, 5, (.seq (.asg (.nm 2) (.call ix.unlike_words (.cons (.op .add (.call ix.tree_words (.cons (.var 0) .nil)) (.call ix.tree_words (.cons (.var 1) .nil))) .nil)))
  (.seq (.for_ (.nm 3) (.rng (.op .add (.un .len (.var 2)) (.cst (.int 1)))) (.for_ (.nm 4) (.seq (.call ix.chosen (.cons (.var 2) (.cons (.var 3) .nil)))) (.ifs (.cmp .ne (.call ix.tree_holds (.cons (.var 0) (.cons (.var 4) .nil))) (.call ix.tree_holds (.cons (.var 1) (.cons (.var 4) .nil)))) (.ret (.var 4)) .skip)))
  (.ret (.cst .non))))⟩
/-- choice: 0 one, 1 other, 2 first, 3 second -/
def choice (ix : Ix) : Fn := ⟨2, 4, (.seq (.par 2 3 (.call ix.formula_of (.cons (.var 0) .nil)) (.call ix.formula_of (.cons (.var 1) .nil)))
  (.ret (.call ix.tree_choice (.cons (.attr (.var 2) ix.f_tree) (.cons (.attr (.var 3) ix.f_tree) .nil)))))⟩
/-- formula_of: 0 thing -/
def formula_of (ix : Ix) : Fn := ⟨1, 1, (.ret (.ifx (.isi (.var 0) [(20 + ix.c_Formula)]) (.var 0) (.make ix.c_Formula (.cons (.var 0) .nil))))⟩
/-- _law_cell: 0 _law_script, 1 _law_k -/
def l_cell (ix : Ix) : Fn := ⟨2, 2, (.seq (.ifs (.cmp .lt (.var 1) (.un .len (.var 0))) (.ret (.idx (.var 0) (.var 1))) .skip)
  (.ret (.cst (.int 0))))⟩
/-- _law_row: 0 _law_cell_here, 1 _law_sizes, 2 _law_out, 3 _law_seed, 4 _law_k, 5 _law_size, 6 _law_mixed -/
def l_row (ix : Ix) : Fn := ⟨2, 7, (.seq (.asg (.nm 2) (.new .nil))
  (.seq (.ifs (.cmp .ge (.var 0) (.op .pow (.cst (.int 10)) (.cst (.int 18)))) (.seq (.for_ (.nm 5) (.seq (.var 1)) (.seq (.app (.var 2) (.op .mod (.un .int (.var 0)) (.var 5)))
  (.asg (.nm 0) (.op .fdiv (.var 0) (.var 5)))))
  (.ret (.var 2))) .skip)
  (.seq (.asg (.nm 3) (.op .mod (.un .int (.var 0)) (.cst (.int 2147483647))))
  (.seq (.for_ (.nm 4) (.rng (.un .len (.var 1))) (.seq (.asg (.nm 6) (.op .add (.op .mod (.un .int (.op .pow (.op .add (.op .add (.var 3) (.op .mul (.cst (.int 7919)) (.var 4))) (.cst (.int 104729))) (.cst (.int 5)))) (.cst (.int 2147483647))) (.var 4)))
  (.app (.var 2) (.op .mod (.un .int (.op .mod (.un .int (.op .mul (.var 6) (.cst (.int 40692)))) (.cst (.int 2147483629)))) (.idx (.var 1) (.var 4))))))
  (.ret (.var 2))))))⟩
/-- _law_tree: 0 _law_left, 1 _law_words, 2 _law_depth, 3 _law_draw, 4 _law_way, 5 _law_parts, 6 _law_pick, 7 _law_k -/
def l_tree (ix : Ix) : Fn := ⟨3, 8, (.seq (.asg (.nm 3) (.ifx (.cmp .ne (.var 0) (.lst .nil)) (.pop0 (.var 0)) (.cst (.int 0))))
  (.seq (.asg (.nm 4) (.op .mod (.un .int (.var 3)) (.cst (.int 8))))
  (.seq (.ifs (.or_ (.cmp .eq (.var 2) (.cst (.int 0))) (.cmp .lt (.var 4) (.cst (.int 4)))) (.seq (.asg (.nm 6) (.op .mod (.un .int (.op .fdiv (.var 3) (.cst (.int 8)))) (.op .add (.un .len (.var 1)) (.cst (.int 1)))))
  (.seq (.ifs (.cmp .lt (.var 6) (.un .len (.var 1))) (.ret (.tup (.cons (.cst (.str [119, 111, 114, 100])) (.cons (.idx (.var 1) (.var 6)) .nil)))) .skip)
  (.ret (.ifx (.cmp .gt (.op .mod (.un .int (.op .fdiv (.var 3) (.cst (.int 64)))) (.cst (.int 4))) (.cst (.int 0))) (.tup (.cons (.cst (.str [97, 108, 108])) .nil)) (.tup (.cons (.cst (.str [110, 111, 110, 101])) .nil)))))) .skip)
  (.seq (.ifs (.cmp .eq (.var 4) (.cst (.int 4))) (.ret (.tup (.cons (.cst (.str [110, 111, 116])) (.cons (.callm ix.l_tree (.cons (.var 0) (.cons (.var 1) (.cons (.op .sub (.var 2) (.cst (.int 1))) .nil)))) .nil)))) .skip)
  (.seq (.asg (.nm 5) (.lc [7] (.nm 7) (.rng (.op .add (.cst (.int 2)) (.un .int (.cmp .eq (.var 4) (.cst (.int 7)))))) (.cst (.bl true)) (.callm ix.l_tree (.cons (.var 0) (.cons (.var 1) (.cons (.op .sub (.var 2) (.cst (.int 1))) .nil))))))
  (.ret (.tup (.cons (.idx (.lst (.cons (.cst (.str [111, 114])) (.cons (.cst (.str [97, 110, 100])) .nil))) (.op .mod (.var 4) (.cst (.int 2)))) (.cons (.var 5) .nil)))))))))⟩
/-- _law_true: 0 _law_tree_here, 1 _law_words, 2 _law_part -/
def l_true (ix : Ix) : Fn := ⟨2, 3, (.seq (.ifs (.cmp .eq (.idx (.var 0) (.cst (.int 0))) (.cst (.str [119, 111, 114, 100]))) (.ret (.cmp .in_ (.idx (.var 0) (.cst (.int 1))) (.var 1))) .skip)
  (.seq (.ifs (.cmp .eq (.idx (.var 0) (.cst (.int 0))) (.cst (.str [110, 111, 116]))) (.ret (.not_ (.call ix.l_true (.cons (.idx (.var 0) (.cst (.int 1))) (.cons (.var 1) .nil))))) .skip)
  (.seq (.ifs (.cmp .eq (.idx (.var 0) (.cst (.int 0))) (.cst (.str [97, 110, 100]))) (.ret (.cmp .nin (.cst (.bl false)) (.lc [2] (.nm 2) (.seq (.idx (.var 0) (.cst (.int 1)))) (.cst (.bl true)) (.call ix.l_true (.cons (.var 2) (.cons (.var 1) .nil)))))) .skip)
  (.seq (.ifs (.cmp .eq (.idx (.var 0) (.cst (.int 0))) (.cst (.str [111, 114]))) (.ret (.cmp .in_ (.cst (.bl true)) (.lc [2] (.nm 2) (.seq (.idx (.var 0) (.cst (.int 1)))) (.cst (.bl true)) (.call ix.l_true (.cons (.var 2) (.cons (.var 1) .nil)))))) .skip)
  (.ret (.cmp .eq (.idx (.var 0) (.cst (.int 0))) (.cst (.str [97, 108, 108]))))))))⟩
/-- _law_flat: 0 _law_kind, 1 _law_parts, 2 _law_out, 3 _law_part -/
def l_flat (ix : Ix) : Fn := ⟨2, 4, (.seq (.asg (.nm 2) (.new .nil))
  (.seq (.for_ (.nm 3) (.seq (.var 1)) (.ifs (.cmp .eq (.idx (.var 3) (.cst (.int 0))) (.var 0)) (.ext (.var 2) (.call ix.l_flat (.cons (.var 0) (.cons (.idx (.var 3) (.cst (.int 1))) .nil)))) (.app (.var 2) (.var 3))))
  (.ret (.var 2))))⟩
/-- _law_text: 0 _law_tree_here, 1 _law_open_kinds, 2 _law_part -/
def l_text (ix : Ix) : Fn := ⟨1, 3, (.seq (.ifs (.cmp .eq (.idx (.var 0) (.cst (.int 0))) (.cst (.str [119, 111, 114, 100]))) (.ret (.idx (.var 0) (.cst (.int 1)))) .skip)
  (.seq (.ifs (.cmp .eq (.idx (.var 0) (.cst (.int 0))) (.cst (.str [110, 111, 116]))) (.ret (.op .add (.cst (.str [110, 111, 116, 32])) (.call ix.l_close (.cons (.idx (.var 0) (.cst (.int 1))) (.cons (.lst (.cons (.cst (.str [97, 110, 100])) (.cons (.cst (.str [111, 114])) .nil))) .nil))))) .skip)
  (.seq (.ifs (.cmp .in_ (.idx (.var 0) (.cst (.int 0))) (.tup (.cons (.cst (.str [97, 110, 100])) (.cons (.cst (.str [111, 114])) .nil)))) (.seq (.asg (.nm 1) (.ifx (.cmp .eq (.idx (.var 0) (.cst (.int 0))) (.cst (.str [97, 110, 100]))) (.lst (.cons (.cst (.str [111, 114])) .nil)) (.lst .nil)))
  (.ret (.join (.op .add (.op .add (.cst (.str [32])) (.idx (.var 0) (.cst (.int 0)))) (.cst (.str [32]))) (.lc [2] (.nm 2) (.seq (.call ix.l_flat (.cons (.idx (.var 0) (.cst (.int 0))) (.cons (.idx (.var 0) (.cst (.int 1))) .nil)))) (.cst (.bl true)) (.call ix.l_close (.cons (.var 2) (.cons (.var 1) .nil))))))) .skip)
  (.ret (.idx (.var 0) (.cst (.int 0)))))))⟩
/-- _law_close: 0 _law_tree_here, 1 _law_kinds -/
def l_close (ix : Ix) : Fn := ⟨2, 2, (.ret (.ifx (.cmp .in_ (.idx (.var 0) (.cst (.int 0))) (.var 1)) (.op .add (.op .add (.cst (.str [40])) (.call ix.l_text (.cons (.var 0) .nil))) (.cst (.str [41]))) (.call ix.l_text (.cons (.var 0) .nil))))⟩
end At.Lb

/-! k03: the program's text and how it is read. -/
namespace At.k03
open PySem L2 Evl
open PySem.W PySem.Calls PyProof.Rows
abbrev Pg : Program := PySem.Challenge.pw_allticked_k03_whole_formulas_compared
def top (i : Nat) : Stmt := Pg.main.body.getD i (.Pass ⟨0, 0, 0, 0⟩)
def sub (i j : Nat) : Stmt := match top i with
  | .ClassDef _ _ _ body _ _ _ _ _ _ _ => body.getD j (.Pass ⟨0, 0, 0, 0⟩)
  | _ => .Pass ⟨0, 0, 0, 0⟩
structure Ix extends Lb.Ix where
  c_TickError : Nat
  f_text : Nat
  l_first : Nat
  l_met : Nat
  l_turned : Nat
  l_words_of : Nat
  law : Nat
  m_eq : Nat
def ix : Ix where
  toIx := {Formula_eq := 14, Formula_init := 13, c_BadFormula := 1, c_Formula := 2, choice := 17, chosen := 15, f_tree := 1, formula_of := 18, is_letters := 0, is_name := 1, is_word := 3, l_cell := 19, l_close := 25, l_flat := 23, l_row := 20, l_text := 24, l_tree := 21, l_true := 22, parts_at := 2, read_any := 5, read_joined := 6, read_single := 7, read_tree := 9, signs_of := 4, tree_choice := 16, tree_holds := 12, tree_of := 8, tree_words := 10, unlike_words := 11}
  c_TickError := 0
  f_text := 0
  l_first := 28
  l_met := 29
  l_turned := 27
  l_words_of := 26
  law := 30
  m_eq := 0
/-- 0 is_letters: 0 thing, 1 sign -/
abbrev g0 : Fn := Lb.is_letters ix.toIx
def df0 : DF := ⟨⟨("is_letters", none), "is_letters", "is_letters", defArgs (top 8), defBody (top 8), defScope (top 8), [], []⟩, ["thing", "sign"], ["thing"], g0, false, false⟩
/-- 1 is_name: 0 thing -/
abbrev g1 : Fn := Lb.is_name ix.toIx
def df1 : DF := ⟨⟨("is_name", none), "is_name", "is_name", defArgs (top 9), defBody (top 9), defScope (top 9), [], []⟩, ["thing"], ["thing"], g1, false, false⟩
/-- 2 parts_at: 0 text, 1 found, 2 sign -/
abbrev g2 : Fn := Lb.parts_at ix.toIx
def df2 : DF := ⟨⟨("parts_at", none), "parts_at", "parts_at", defArgs (top 10), defBody (top 10), defScope (top 10), [], []⟩, ["text", "found", "sign"], ["text"], g2, false, false⟩
/-- 3 is_word: 0 text, 1 parts -/
abbrev g3 : Fn := Lb.is_word ix.toIx
def df3 : DF := ⟨⟨("is_word", none), "is_word", "is_word", defArgs (top 11), defBody (top 11), defScope (top 11), [], []⟩, ["text", "parts"], ["text"], g3, false, false⟩
/-- 4 signs_of: 0 text, 1 found, 2 sign -/
abbrev g4 : Fn := Lb.signs_of ix.toIx
def df4 : DF := ⟨⟨("signs_of", none), "signs_of", "signs_of", defArgs (top 12), defBody (top 12), defScope (top 12), [], []⟩, ["text", "found", "sign"], ["text"], g4, false, false⟩
/-- 5 read_any: 0 signs, 1 at -/
abbrev g5 : Fn := Lb.read_any ix.toIx
def df5 : DF := ⟨⟨("read_any", none), "read_any", "read_any", defArgs (top 13), defBody (top 13), defScope (top 13), [], []⟩, ["signs", "at"], ["signs", "at"], g5, false, false⟩
/-- 6 read_joined: 0 signs, 1 at, 2 word, 3 found, 4 here, 5 tree -/
abbrev g6 : Fn := Lb.read_joined ix.toIx
def df6 : DF := ⟨⟨("read_joined", none), "read_joined", "read_joined", defArgs (top 14), defBody (top 14), defScope (top 14), [], []⟩, ["signs", "at", "word", "found", "here", "tree"], ["signs", "at", "word"], g6, false, false⟩
/-- 7 read_single: 0 signs, 1 at, 2 sign, 3 tree, 4 here -/
abbrev g7 : Fn := Lb.read_single ix.toIx
def df7 : DF := ⟨⟨("read_single", none), "read_single", "read_single", defArgs (top 15), defBody (top 15), defScope (top 15), [], []⟩, ["signs", "at", "sign", "tree", "here"], ["signs", "at"], g7, false, false⟩
/-- 8 tree_of: 0 word, 1 parts, 2 found, 3 part -/
abbrev g8 : Fn := Lb.tree_of ix.toIx
def df8 : DF := ⟨⟨("tree_of", none), "tree_of", "tree_of", defArgs (top 16), defBody (top 16), defScope (top 16), [], []⟩, ["word", "parts", "found", "part"], ["word", "parts"], g8, false, false⟩
/-- 9 read_tree: 0 text, 1 signs, 2 tree, 3 at -/
abbrev g9 : Fn := Lb.read_tree ix.toIx
def df9 : DF := ⟨⟨("read_tree", none), "read_tree", "read_tree", defArgs (top 17), defBody (top 17), defScope (top 17), [], []⟩, ["text", "signs", "tree", "at"], ["text"], g9, false, false⟩
/-- 10 tree_words: 0 tree, 1 found, 2 part -/
abbrev g10 : Fn := Lb.tree_words ix.toIx
def df10 : DF := ⟨⟨("tree_words", none), "tree_words", "tree_words", defArgs (top 18), defBody (top 18), defScope (top 18), [], []⟩, ["tree", "found", "part"], ["tree"], g10, false, false⟩
/-- 11 unlike_words: 0 words, 1 found, 2 word -/
abbrev g11 : Fn := Lb.unlike_words ix.toIx
def df11 : DF := ⟨⟨("unlike_words", none), "unlike_words", "unlike_words", defArgs (top 19), defBody (top 19), defScope (top 19), [], []⟩, ["words", "found", "word"], ["words"], g11, false, false⟩
/-- 12 tree_holds: 0 tree, 1 words, 2 part -/
abbrev g12 : Fn := Lb.tree_holds ix.toIx
def df12 : DF := ⟨⟨("tree_holds", none), "tree_holds", "tree_holds", defArgs (top 20), defBody (top 20), defScope (top 20), [], []⟩, ["tree", "words", "part"], ["tree", "words"], g12, false, false⟩
/-- 13 Formula.__init__: 0 self, 1 text, 2 tree -/
abbrev g13 : Fn := Lb.Formula_init ix.toIx
def df13 : DF := ⟨⟨("Formula", some "__init__"), "__init__", "Formula.__init__", defArgs (sub 23 0), defBody (sub 23 0), defScope (sub 23 0), [], []⟩, ["self", "text", "tree"], ["self", "text"], g13, false, false⟩
/-- 14 Formula.__eq__: 0 self, 1 other -/
abbrev g14 : Fn := Lb.Formula_eq ix.toIx
def df14 : DF := ⟨⟨("Formula", some "__eq__"), "__eq__", "Formula.__eq__", defArgs (sub 23 6), defBody (sub 23 6), defScope (sub 23 6), [], []⟩, ["self", "other"], ["self", "other"], g14, false, false⟩
/-- 15 chosen: 0 things, 1 many, 2 found, 3 at, 4 thing, 5 rest -/
abbrev g15 : Fn := Lb.chosen ix.toIx
def df15 : DF := ⟨⟨("chosen", none), "chosen", "chosen", defArgs (top 24), defBody (top 24), defScope (top 24), [], []⟩, ["things", "many", "found", "at", "thing", "rest"], ["things", "many"], g15, false, false⟩
/-- 16 tree_choice: 0 one, 1 other, 2 words, 3 many, 4 some -/
abbrev g16 : Fn := Lb.tree_choice ix.toIx
def df16 : DF := ⟨⟨("tree_choice", none), "tree_choice", "tree_choice", defArgs (top 25), defBody (top 25), defScope (top 25), [], []⟩, ["one", "other", "words", "many", "some"], ["one", "other"], g16, false, false⟩
/-- 17 choice: 0 one, 1 other, 2 first, 3 second -/
abbrev g17 : Fn := Lb.choice ix.toIx
def df17 : DF := ⟨⟨("choice", none), "choice", "choice", defArgs (top 26), defBody (top 26), defScope (top 26), [], []⟩, ["one", "other", "first", "second"], ["one", "other"], g17, false, false⟩
/-- 18 formula_of: 0 thing -/
abbrev g18 : Fn := Lb.formula_of ix.toIx
def df18 : DF := ⟨⟨("formula_of", none), "formula_of", "formula_of", defArgs (top 27), defBody (top 27), defScope (top 27), [], []⟩, ["thing"], ["thing"], g18, false, false⟩
/-- 19 _law_cell: 0 _law_script, 1 _law_k -/
abbrev g19 : Fn := Lb.l_cell ix.toIx
def df19 : DF := ⟨⟨("_law_cell", none), "_law_cell", "_law_cell", defArgs (top 29), defBody (top 29), defScope (top 29), [], []⟩, ["_law_script", "_law_k"], ["_law_script", "_law_k"], g19, false, false⟩
/-- 20 _law_row: 0 _law_cell_here, 1 _law_sizes, 2 _law_out, 3 _law_seed, 4 _law_k, 5 _law_size, 6 _law_mixed -/
abbrev g20 : Fn := Lb.l_row ix.toIx
def df20 : DF := ⟨⟨("_law_row", none), "_law_row", "_law_row", defArgs (top 30), defBody (top 30), defScope (top 30), [], []⟩, ["_law_cell_here", "_law_sizes", "_law_out", "_law_seed", "_law_k", "_law_size", "_law_mixed"], ["_law_cell_here", "_law_sizes"], g20, false, false⟩
/-- 21 _law_tree: 0 _law_left, 1 _law_words, 2 _law_depth, 3 _law_draw, 4 _law_way, 5 _law_parts, 6 _law_pick, 7 _law_k -/
abbrev g21 : Fn := Lb.l_tree ix.toIx
def df21 : DF := ⟨⟨("_law_tree", none), "_law_tree", "_law_tree", defArgs (top 31), defBody (top 31), defScope (top 31), [], []⟩, ["_law_left", "_law_words", "_law_depth", "_law_draw", "_law_way", "_law_parts", "_law_pick", "_law_k"], ["_law_left", "_law_words", "_law_depth"], g21, false, false⟩
/-- 22 _law_true: 0 _law_tree_here, 1 _law_words, 2 _law_part -/
abbrev g22 : Fn := Lb.l_true ix.toIx
def df22 : DF := ⟨⟨("_law_true", none), "_law_true", "_law_true", defArgs (top 32), defBody (top 32), defScope (top 32), [], []⟩, ["_law_tree_here", "_law_words", "_law_part"], ["_law_tree_here", "_law_words"], g22, false, false⟩
/-- 23 _law_flat: 0 _law_kind, 1 _law_parts, 2 _law_out, 3 _law_part -/
abbrev g23 : Fn := Lb.l_flat ix.toIx
def df23 : DF := ⟨⟨("_law_flat", none), "_law_flat", "_law_flat", defArgs (top 33), defBody (top 33), defScope (top 33), [], []⟩, ["_law_kind", "_law_parts", "_law_out", "_law_part"], ["_law_kind", "_law_parts"], g23, false, false⟩
/-- 24 _law_text: 0 _law_tree_here, 1 _law_open_kinds, 2 _law_part -/
abbrev g24 : Fn := Lb.l_text ix.toIx
def df24 : DF := ⟨⟨("_law_text", none), "_law_text", "_law_text", defArgs (top 34), defBody (top 34), defScope (top 34), [], []⟩, ["_law_tree_here", "_law_open_kinds", "_law_part"], ["_law_tree_here"], g24, false, false⟩
/-- 25 _law_close: 0 _law_tree_here, 1 _law_kinds -/
abbrev g25 : Fn := Lb.l_close ix.toIx
def df25 : DF := ⟨⟨("_law_close", none), "_law_close", "_law_close", defArgs (top 35), defBody (top 35), defScope (top 35), [], []⟩, ["_law_tree_here", "_law_kinds"], ["_law_tree_here", "_law_kinds"], g25, false, false⟩
/-- 26 _law_words_of: 0 _law_tree_here, 1 _law_out, 2 _law_part, 3 _law_word -/
def g26 : Fn := ⟨1, 4, (.seq (.ifs (.cmp .eq (.idx (.var 0) (.cst (.int 0))) (.cst (.str [119, 111, 114, 100]))) (.ret (.lst (.cons (.idx (.var 0) (.cst (.int 1))) .nil))) .skip)
  (.seq (.ifs (.cmp .eq (.idx (.var 0) (.cst (.int 0))) (.cst (.str [110, 111, 116]))) (.ret (.call ix.l_words_of (.cons (.idx (.var 0) (.cst (.int 1))) .nil))) .skip)
  (.seq (.asg (.nm 1) (.new .nil))
  (.seq (.for_ (.nm 2) (.seq (.ifx (.cmp .in_ (.idx (.var 0) (.cst (.int 0))) (.tup (.cons (.cst (.str [97, 110, 100])) (.cons (.cst (.str [111, 114])) .nil)))) (.idx (.var 0) (.cst (.int 1))) (.lst .nil))) (.ext (.var 1) (.lc [3] (.nm 3) (.seq (.call ix.l_words_of (.cons (.var 2) .nil))) (.cmp .nin (.var 3) (.var 1)) (.var 3))))
  (.ret (.var 1))))))⟩
def df26 : DF := ⟨⟨("_law_words_of", none), "_law_words_of", "_law_words_of", defArgs (top 36), defBody (top 36), defScope (top 36), [], []⟩, ["_law_tree_here", "_law_out", "_law_part", "_law_word"], ["_law_tree_here"], g26, false, false⟩
/-- 27 _law_turned: 0 _law_tree_here, 1 _law_way, 2 _law_other, 3 _law_part -/
def g27 : Fn := ⟨2, 4, (.seq (.ifs (.cmp .eq (.var 1) (.cst (.int 0))) (.ret (.tup (.cons (.cst (.str [110, 111, 116])) (.cons (.tup (.cons (.cst (.str [110, 111, 116])) (.cons (.var 0) .nil))) .nil)))) .skip)
  (.seq (.ifs (.cmp .eq (.var 1) (.cst (.int 1))) (.ret (.tup (.cons (.cst (.str [111, 114])) (.cons (.lst (.cons (.var 0) (.cons (.tup (.cons (.cst (.str [110, 111, 110, 101])) .nil)) (.cons (.tup (.cons (.cst (.str [97, 110, 100])) (.cons (.lst (.cons (.var 0) (.cons (.tup (.cons (.cst (.str [119, 111, 114, 100])) (.cons (.cst (.str [101, 120, 116, 114, 97])) .nil))) .nil))) .nil))) .nil)))) .nil)))) .skip)
  (.seq (.ifs (.cmp .in_ (.idx (.var 0) (.cst (.int 0))) (.tup (.cons (.cst (.str [97, 110, 100])) (.cons (.cst (.str [111, 114])) .nil)))) (.seq (.asg (.nm 2) (.ifx (.cmp .eq (.idx (.var 0) (.cst (.int 0))) (.cst (.str [97, 110, 100]))) (.cst (.str [111, 114])) (.cst (.str [97, 110, 100]))))
  (.ret (.tup (.cons (.cst (.str [110, 111, 116])) (.cons (.tup (.cons (.var 2) (.cons (.lc [3] (.nm 3) (.seq (.rev (.idx (.var 0) (.cst (.int 1))))) (.cst (.bl true)) (.tup (.cons (.cst (.str [110, 111, 116])) (.cons (.call ix.l_turned (.cons (.var 3) (.cons (.var 1) .nil))) .nil)))) .nil))) .nil))))) .skip)
  (.ret (.var 0)))))⟩
def df27 : DF := ⟨⟨("_law_turned", none), "_law_turned", "_law_turned", defArgs (top 37), defBody (top 37), defScope (top 37), [], []⟩, ["_law_tree_here", "_law_way", "_law_other", "_law_part"], ["_law_tree_here", "_law_way"], g27, false, false⟩
/-- 28 _law_first: 0 _law_one, 1 _law_other, 2 _law_words, 3 _law_best, 4 _law_choices, 5 _law_k, 6 _law_places, 7 _law_some, 8 _law_size, 9 _law_word -/
def g28 : Fn := ⟨2, 10, (.seq (.asg (.nm 2) (.call ix.l_words_of (.cons (.var 0) .nil)))
  (.seq (.asg (.nm 2) (.op .add (.var 2) (.lc [9] (.nm 9) (.seq (.call ix.l_words_of (.cons (.var 1) .nil))) (.cmp .nin (.var 9) (.var 2)) (.var 9))))
  (.seq (.par 3 4 (.cst .non) (.lst (.cons (.lst .nil) .nil)))
  (.seq (.for_ (.nm 5) (.rng (.un .len (.var 2))) (.asg (.nm 4) (.op .add (.var 4) (.lc [6] (.nm 6) (.seq (.var 4)) (.cst (.bl true)) (.op .add (.var 6) (.lst (.cons (.var 5) .nil)))))))
  (.seq (.for_ (.nm 6) (.seq (.var 4)) (.seq (.par 7 8 (.lc [5] (.nm 5) (.seq (.var 6)) (.cst (.bl true)) (.idx (.var 2) (.var 5))) (.tup (.cons (.un .len (.var 6)) (.cons (.var 6) .nil))))
  (.ifs (.and_ (.cmp .ne (.call ix.l_true (.cons (.var 0) (.cons (.var 7) .nil))) (.call ix.l_true (.cons (.var 1) (.cons (.var 7) .nil)))) (.or_ (.un .isN (.var 3)) (.cmp .lt (.var 8) (.idx (.var 3) (.cst (.int 0)))))) (.asg (.nm 3) (.tup (.cons (.var 8) (.cons (.var 7) .nil)))) .skip)))
  (.ret (.ifx (.un .isN (.var 3)) (.cst .non) (.idx (.var 3) (.cst (.int 1))))))))))⟩
def df28 : DF := ⟨⟨("_law_first", none), "_law_first", "_law_first", defArgs (top 38), defBody (top 38), defScope (top 38), [], []⟩, ["_law_one", "_law_other", "_law_words", "_law_best", "_law_choices", "_law_k", "_law_places", "_law_some", "_law_size", "_law_word"], ["_law_one", "_law_other"], g28, false, false⟩
/-- 29 _law_met: 0 _law_ask, 1 e -/
def g29 : Fn := ⟨1, 2, .skip⟩
def df29 : DF := ⟨⟨("_law_met", none), "_law_met", "_law_met", defArgs (top 39), defBody (top 39), defScope (top 39), [], []⟩, ["_law_ask", "e"], ["_law_ask"], g29, false, true⟩
/-- 30 law: 0 _law_script, 1 _law_words, 2 _law_row_here, 3 _law_one, 4 _law_other, 5 _law_texts, 6 _law_first_here, 7 _law_second, 8 _law_due, 9 _law_thing -/
def g30 : Fn := ⟨1, 10, (.seq (.asg (.nm 1) (.lst (.cons (.cst (.str [111, 112, 101, 110])) (.cons (.cst (.str [109, 105, 110, 101])) (.cons (.cst (.str [116, 104, 101, 114, 101])) (.cons (.cst (.str [111, 112, 101, 110, 64, 115, 104, 111, 119, 110])) (.cons (.cst (.str [116, 104, 101, 114, 101, 64, 100, 111, 110, 101])) (.cons (.cst (.str [97])) (.cons (.cst (.str [111, 108, 100])) (.cons (.cst (.str [98, 64, 99])) (.cons (.cst (.str [110, 111, 116, 101])) (.cons (.cst (.str [122])) .nil))))))))))))
  (.seq (.asg (.nm 2) (.call ix.l_row (.cons (.call ix.l_cell (.cons (.var 0) (.cons (.cst (.int 2)) .nil))) (.cons (.lst (.cons (.cst (.int 6)) (.cons (.cst (.int 8)) (.cons (.cst (.int 8)) .nil)))) .nil))))
  (.seq (.asg (.nm 3) (.callm ix.l_tree (.cons (.calln ix.l_row (.cons (.call ix.l_cell (.cons (.var 0) (.cons (.cst (.int 0)) .nil))) (.cons (.op .mul (.lst (.cons (.cst (.int 512)) .nil)) (.cst (.int 30))) .nil))) (.cons (.slc (.var 1) .nil (.opt (.idx (.var 2) (.cst (.int 1))))) (.cons (.cst (.int 3)) .nil)))))
  (.seq (.asg (.nm 4) (.callm ix.l_tree (.cons (.calln ix.l_row (.cons (.call ix.l_cell (.cons (.var 0) (.cons (.cst (.int 1)) .nil))) (.cons (.op .mul (.lst (.cons (.cst (.int 512)) .nil)) (.cst (.int 30))) .nil))) (.cons (.slc (.var 1) (.opt (.op .sub (.cst (.int 10)) (.idx (.var 2) (.cst (.int 2))))) .nil) (.cons (.cst (.int 3)) .nil)))))
  (.seq (.ifs (.cmp .lt (.idx (.var 2) (.cst (.int 0))) (.cst (.int 3))) (.asg (.nm 4) (.call ix.l_turned (.cons (.var 3) (.cons (.idx (.var 2) (.cst (.int 0))) .nil)))) .skip)
  (.seq (.asg (.nm 5) (.tup (.cons (.call ix.l_text (.cons (.var 3) .nil)) (.cons (.call ix.l_text (.cons (.var 4) .nil)) .nil))))
  (.seq (.asg (.tp (.cons (.nm 6) (.cons (.nm 7) .nil))) (.tup (.cons (.make ix.c_Formula (.cons (.idx (.var 5) (.cst (.int 0))) .nil)) (.cons (.make ix.c_Formula (.cons (.idx (.var 5) (.cst (.int 1))) .nil)) .nil))))
  (.seq (.asg (.nm 8) (.call ix.l_first (.cons (.var 3) (.cons (.var 4) .nil))))
  (.seq (.ifs (.or_ (.cmp .ne (.call ix.choice (.cons (.var 6) (.cons (.var 7) .nil))) (.var 8)) (.cmp .ne (.eqo ix.m_eq (.var 6) (.var 7)) (.un .isN (.var 8)))) (.ret (.cst (.bl false))) .skip)
  (.seq (.ifs (.cmp .eq (.not_ (.eqo ix.m_eq (.var 6) (.var 7))) (.un .isN (.var 8))) (.ret (.cst (.bl false))) .skip)
  (.seq (.ifs (.or_ (.cmp .ne (.call ix.choice (.cons (.var 7) (.cons (.var 6) .nil))) (.call ix.l_first (.cons (.var 4) (.cons (.var 3) .nil)))) (.un .notN (.call ix.choice (.cons (.var 6) (.cons (.var 6) .nil))))) (.ret (.cst (.bl false))) .skip)
  (.seq (.ifs (.or_ (.cmp .ne (.call ix.choice (.cons (.idx (.var 5) (.cst (.int 0))) (.cons (.var 7) .nil))) (.var 8)) (.cmp .ne (.call ix.choice (.cons (.var 6) (.cons (.idx (.var 5) (.cst (.int 1))) .nil))) (.var 8))) (.ret (.cst (.bl false))) .skip)
  (.seq (.ifs (.cmp .ne (.lamt (.hdl ix.c_BadFormula (.tup (.cons (.cst (.str [102, 111, 114, 109, 117, 108, 97])) (.cons (.exf ix.f_text) .nil))) .nil) (.call ix.choice (.cons (.cst (.str [97, 32, 111, 114])) (.cons (.cst .non) .nil)))) (.tup (.cons (.cst (.str [102, 111, 114, 109, 117, 108, 97])) (.cons (.cst (.str [97, 32, 111, 114])) .nil)))) (.ret (.cst (.bl false))) .skip)
  (.seq (.ifs (.cmp .ne (.lamt (.hdl ix.c_BadFormula (.tup (.cons (.cst (.str [102, 111, 114, 109, 117, 108, 97])) (.cons (.exf ix.f_text) .nil))) .nil) (.call ix.choice (.cons (.var 6) (.cons (.cst (.int 5)) .nil)))) (.tup (.cons (.cst (.str [102, 111, 114, 109, 117, 108, 97])) (.cons (.cst (.int 5)) .nil)))) (.ret (.cst (.bl false))) .skip)
  (.ret (.not_ (.un .any (.lc [9] (.nm 9) (.seq (.tup (.cons (.idx (.var 5) (.cst (.int 0))) (.cons (.cst .non) (.cons (.cst (.bl true)) (.cons (.lst (.cons (.var 6) .nil)) (.cons (.tup (.cons (.cst (.str [119, 111, 114, 100])) (.cons (.cst (.str [97])) .nil))) .nil))))))) (.cst (.bl true)) (.eqo ix.m_eq (.var 6) (.var 9))))))))))))))))))))⟩
def df30 : DF := ⟨⟨("law", none), "law", "law", defArgs (top 40), defBody (top 40), defScope (top 40), [], []⟩, ["_law_script", "_law_words", "_law_row_here", "_law_one", "_law_other", "_law_texts", "_law_first_here", "_law_second", "_law_due", "_law_thing"], ["_law_script"], g30, true, false⟩
def dfs0 : List DF := [df0, df1, df2, df3, df4, df5, df6, df7, df8, df9, df10, df11, df12, df13, df14, df15]
def dfs1 : List DF := [df16, df17, df18, df19, df20, df21, df22, df23, df24, df25, df26, df27, df28, df29, df30]
def dfs : List DF := dfs0 ++ dfs1
def pj : PJ where
  cs := [("TickError", true), ("BadFormula", true), ("Formula", false)]
  fs := ["text", "tree"]
  ms := ["__eq__"]
  er := [(1, [0])]
  ini := [(2, 13)]
  mts := [(2, [(0, 14)])]
  isa := [(0, [(3, false), (22, false)]),
    (1, [(3, false), (22, false)]),
    (2, [(3, false), (22, false)]),
    (3, [(3, true), (22, false)]),
    (4, [(3, false), (22, false)]),
    (5, [(3, false), (22, false)]),
    (12, [(3, false), (22, false)]),
    (22, [(3, false), (22, true)]),
    (21, [(21, true)])]
  fld := [(1, [0]), (2, [1])]
  free := ["all", "any", "enumerate", "int", "isinstance", "len", "range", "str", "super"]
  ki := [("LONGEST", 8)]
  ks := [("LETTERS", "abcdefghijklmnopqrstuvwxyz")]
  kt := [("TAKEN_WORDS", ["and", "or", "not", "there", "all", "none"]), ("CONSTANTS", ["all", "none"])]
  df := dfs
  tabs := stdTabs dfs
def x_BadFormula : XD := ⟨"BadFormula", "self", "BadFormula.__init__", ["text"], ["text"], defArgs (sub 2 0), defBody (sub 2 0), defScope (sub 2 0)⟩
def px : PX := ⟨pj, [x_BadFormula]⟩
theorem s_BadFormula : XSt Pg x_BadFormula := by
  refine ⟨⟨rfl, rfl, rfl, by decide +kernel, rfl, rfl, by decide +kernel⟩, ⟨[("text", "text", ⟨8, 8, 8, 12⟩, ⟨8, 8, 8, 17⟩, ⟨8, 20, 8, 24⟩, ⟨8, 8, 8, 24⟩)], _, _, _, _, _, _, _, _, _, rfl, ⟨rfl, rfl, by decide +kernel⟩, by decide +kernel, by decide +kernel, rfl, rfl, fun L fI cc cdv => ⟨_, rfl⟩⟩, fun kV doc pm an cdv ct cc us hl => match us, hl with | [_, _], _ => rfl, by decide +kernel, by decide +kernel, by decide +kernel, by decide +kernel⟩
theorem pxb : pxB px = true := by decide +kernel
theorem ck0 : dfB pj df0 = true := by decide +kernel
theorem ck1 : dfB pj df1 = true := by decide +kernel
theorem ck2 : dfB pj df2 = true := by decide +kernel
theorem ck3 : dfB pj df3 = true := by decide +kernel
theorem ck4 : dfB pj df4 = true := by decide +kernel
theorem ck5 : dfB pj df5 = true := by decide +kernel
theorem ck6 : dfB pj df6 = true := by decide +kernel
theorem ck7 : dfB pj df7 = true := by decide +kernel
theorem ck8 : dfB pj df8 = true := by decide +kernel
theorem ck9 : dfB pj df9 = true := by decide +kernel
theorem ck10 : dfB pj df10 = true := by decide +kernel
theorem ck11 : dfB pj df11 = true := by decide +kernel
theorem ck12 : dfB pj df12 = true := by decide +kernel
theorem ck13 : dfB pj df13 = true := by decide +kernel
theorem ck14 : dfB pj df14 = true := by decide +kernel
theorem ck15 : dfB pj df15 = true := by decide +kernel
theorem ck16 : dfB pj df16 = true := by decide +kernel
theorem ck17 : dfB pj df17 = true := by decide +kernel
theorem ck18 : dfB pj df18 = true := by decide +kernel
theorem ck19 : dfB pj df19 = true := by decide +kernel
theorem ck20 : dfB pj df20 = true := by decide +kernel
theorem ck21 : dfB pj df21 = true := by decide +kernel
theorem ck22 : dfB pj df22 = true := by decide +kernel
theorem ck23 : dfB pj df23 = true := by decide +kernel
theorem ck24 : dfB pj df24 = true := by decide +kernel
theorem ck25 : dfB pj df25 = true := by decide +kernel
theorem ck26 : dfB pj df26 = true := by decide +kernel
theorem ck27 : dfB pj df27 = true := by decide +kernel
theorem ck28 : dfB pj df28 = true := by decide +kernel
theorem ck29 : dfB pj df29 = true := by decide +kernel
theorem ck30 : dfB pj df30 = true := by decide +kernel
theorem bd0 : BdOk df0 := fun _ _ _ _ _ _ us hl => match us, hl with | [_], _ => rfl
theorem bd1 : BdOk df1 := fun _ _ _ _ _ _ us hl => match us, hl with | [_], _ => rfl
theorem bd2 : BdOk df2 := fun _ _ _ _ _ _ us hl => match us, hl with | [_], _ => rfl
theorem bd3 : BdOk df3 := fun _ _ _ _ _ _ us hl => match us, hl with | [_], _ => rfl
theorem bd4 : BdOk df4 := fun _ _ _ _ _ _ us hl => match us, hl with | [_], _ => rfl
theorem bd5 : BdOk df5 := fun _ _ _ _ _ _ us hl => match us, hl with | [_, _], _ => rfl
theorem bd6 : BdOk df6 := fun _ _ _ _ _ _ us hl => match us, hl with | [_, _, _], _ => rfl
theorem bd7 : BdOk df7 := fun _ _ _ _ _ _ us hl => match us, hl with | [_, _], _ => rfl
theorem bd8 : BdOk df8 := fun _ _ _ _ _ _ us hl => match us, hl with | [_, _], _ => rfl
theorem bd9 : BdOk df9 := fun _ _ _ _ _ _ us hl => match us, hl with | [_], _ => rfl
theorem bd10 : BdOk df10 := fun _ _ _ _ _ _ us hl => match us, hl with | [_], _ => rfl
theorem bd11 : BdOk df11 := fun _ _ _ _ _ _ us hl => match us, hl with | [_], _ => rfl
theorem bd12 : BdOk df12 := fun _ _ _ _ _ _ us hl => match us, hl with | [_, _], _ => rfl
theorem bd13 : BdOk df13 := fun _ _ _ _ _ _ us hl => match us, hl with | [_, _], _ => rfl
theorem bd14 : BdOk df14 := fun _ _ _ _ _ _ us hl => match us, hl with | [_, _], _ => rfl
theorem bd15 : BdOk df15 := fun _ _ _ _ _ _ us hl => match us, hl with | [_, _], _ => rfl
theorem bd16 : BdOk df16 := fun _ _ _ _ _ _ us hl => match us, hl with | [_, _], _ => rfl
theorem bd17 : BdOk df17 := fun _ _ _ _ _ _ us hl => match us, hl with | [_, _], _ => rfl
theorem bd18 : BdOk df18 := fun _ _ _ _ _ _ us hl => match us, hl with | [_], _ => rfl
theorem bd19 : BdOk df19 := fun _ _ _ _ _ _ us hl => match us, hl with | [_, _], _ => rfl
theorem bd20 : BdOk df20 := fun _ _ _ _ _ _ us hl => match us, hl with | [_, _], _ => rfl
theorem bd21 : BdOk df21 := fun _ _ _ _ _ _ us hl => match us, hl with | [_, _, _], _ => rfl
theorem bd22 : BdOk df22 := fun _ _ _ _ _ _ us hl => match us, hl with | [_, _], _ => rfl
theorem bd23 : BdOk df23 := fun _ _ _ _ _ _ us hl => match us, hl with | [_, _], _ => rfl
theorem bd24 : BdOk df24 := fun _ _ _ _ _ _ us hl => match us, hl with | [_], _ => rfl
theorem bd25 : BdOk df25 := fun _ _ _ _ _ _ us hl => match us, hl with | [_, _], _ => rfl
theorem bd26 : BdOk df26 := fun _ _ _ _ _ _ us hl => match us, hl with | [_], _ => rfl
theorem bd27 : BdOk df27 := fun _ _ _ _ _ _ us hl => match us, hl with | [_, _], _ => rfl
theorem bd28 : BdOk df28 := fun _ _ _ _ _ _ us hl => match us, hl with | [_, _], _ => rfl
theorem bd29 : BdOk df29 := fun _ _ _ _ _ _ us hl => match us, hl with | [_], _ => rfl
theorem bd30 : BdOk df30 := fun _ _ _ _ _ _ us hl => match us, hl with | [_], _ => rfl
theorem cka0 : ∀ d ∈ dfs0, dfB pj d = true := List.forall_mem_cons.mpr ⟨ck0, List.forall_mem_cons.mpr ⟨ck1, List.forall_mem_cons.mpr ⟨ck2, List.forall_mem_cons.mpr ⟨ck3, List.forall_mem_cons.mpr ⟨ck4, List.forall_mem_cons.mpr ⟨ck5, List.forall_mem_cons.mpr ⟨ck6, List.forall_mem_cons.mpr ⟨ck7, List.forall_mem_cons.mpr ⟨ck8, List.forall_mem_cons.mpr ⟨ck9, List.forall_mem_cons.mpr ⟨ck10, List.forall_mem_cons.mpr ⟨ck11, List.forall_mem_cons.mpr ⟨ck12, List.forall_mem_cons.mpr ⟨ck13, List.forall_mem_cons.mpr ⟨ck14, List.forall_mem_cons.mpr ⟨ck15, List.forall_mem_nil _⟩⟩⟩⟩⟩⟩⟩⟩⟩⟩⟩⟩⟩⟩⟩⟩
theorem bda0 : ∀ d ∈ dfs0, BdOk d := List.forall_mem_cons.mpr ⟨bd0, List.forall_mem_cons.mpr ⟨bd1, List.forall_mem_cons.mpr ⟨bd2, List.forall_mem_cons.mpr ⟨bd3, List.forall_mem_cons.mpr ⟨bd4, List.forall_mem_cons.mpr ⟨bd5, List.forall_mem_cons.mpr ⟨bd6, List.forall_mem_cons.mpr ⟨bd7, List.forall_mem_cons.mpr ⟨bd8, List.forall_mem_cons.mpr ⟨bd9, List.forall_mem_cons.mpr ⟨bd10, List.forall_mem_cons.mpr ⟨bd11, List.forall_mem_cons.mpr ⟨bd12, List.forall_mem_cons.mpr ⟨bd13, List.forall_mem_cons.mpr ⟨bd14, List.forall_mem_cons.mpr ⟨bd15, List.forall_mem_nil _⟩⟩⟩⟩⟩⟩⟩⟩⟩⟩⟩⟩⟩⟩⟩⟩
theorem cka1 : ∀ d ∈ dfs1, dfB pj d = true := List.forall_mem_cons.mpr ⟨ck16, List.forall_mem_cons.mpr ⟨ck17, List.forall_mem_cons.mpr ⟨ck18, List.forall_mem_cons.mpr ⟨ck19, List.forall_mem_cons.mpr ⟨ck20, List.forall_mem_cons.mpr ⟨ck21, List.forall_mem_cons.mpr ⟨ck22, List.forall_mem_cons.mpr ⟨ck23, List.forall_mem_cons.mpr ⟨ck24, List.forall_mem_cons.mpr ⟨ck25, List.forall_mem_cons.mpr ⟨ck26, List.forall_mem_cons.mpr ⟨ck27, List.forall_mem_cons.mpr ⟨ck28, List.forall_mem_cons.mpr ⟨ck29, List.forall_mem_cons.mpr ⟨ck30, List.forall_mem_nil _⟩⟩⟩⟩⟩⟩⟩⟩⟩⟩⟩⟩⟩⟩⟩
theorem bda1 : ∀ d ∈ dfs1, BdOk d := List.forall_mem_cons.mpr ⟨bd16, List.forall_mem_cons.mpr ⟨bd17, List.forall_mem_cons.mpr ⟨bd18, List.forall_mem_cons.mpr ⟨bd19, List.forall_mem_cons.mpr ⟨bd20, List.forall_mem_cons.mpr ⟨bd21, List.forall_mem_cons.mpr ⟨bd22, List.forall_mem_cons.mpr ⟨bd23, List.forall_mem_cons.mpr ⟨bd24, List.forall_mem_cons.mpr ⟨bd25, List.forall_mem_cons.mpr ⟨bd26, List.forall_mem_cons.mpr ⟨bd27, List.forall_mem_cons.mpr ⟨bd28, List.forall_mem_cons.mpr ⟨bd29, List.forall_mem_cons.mpr ⟨bd30, List.forall_mem_nil _⟩⟩⟩⟩⟩⟩⟩⟩⟩⟩⟩⟩⟩⟩⟩
theorem pxok : PxOk Pg px := px_ok pxb (List.forall_mem_cons.mpr ⟨s_BadFormula, List.forall_mem_nil _⟩) (List.forall_mem_append.mpr ⟨bda0, bda1⟩) (List.forall_mem_append.mpr ⟨cka0, cka1⟩)
end At.k03

/-! How defs are reckoned: common steps. -/
namespace At
open PySem
/-- the def at i -/
abbrev Fa (C : Nat → CE) (i : Nat) (g : Fn) : Prop := ∀ n us m, (C (n + 1)).fm i us m = g.run (C n) us m
/-! ### what is done with values -/
def varK (u : Option (Option U)) (m : Mu) : R U := match u with
  | some (some u) => .ok u m
  | _ => .no
def chainK (c c' : Cm) (x y : U) (w : Mu → R U) (m : Mu) : R U := match see m x, see m y with
  | some d, some e => match cmp2 c d e with
    | some true => (w m).bnd fun w m => match see m y, see m w with
      | some e, some g => Res (((cmp2 c' e g).map D.bl).map U.v) m
      | _, _ => .no
    | some false => .ok (.v (.bl false)) m
    | none => .no
  | _, _ => .no
def opK (o : Op) (x y : U) (m : Mu) : R U := match see m x, see m y with
  | some d, some e => Res ((op2 o d e).map U.v) m
  | _, _ => .no
def cmpK (c : Cm) (x y : U) (m : Mu) : R U := match see m x, see m y with
  | some d, some e => Res (((cmp2 c d e).map D.bl).map U.v) m
  | _, _ => .no
def unK (o : Un) (x : U) (m : Mu) : R U := match see m x with
  | some d => Res ((un1 o d).map U.v) m
  | none => .no
def idxK (x y : U) (m : Mu) : R U := match see m x, see m y with
  | some d, some e => Res ((idx2 d e).map U.v) m
  | _, _ => .no
def slcK (x : U) (i j : Option Int) (m : Mu) : R U := match see m x with
  | some d => Res ((slc2 d i j).map U.v) m
  | none => .no
def revK (x : U) (m : Mu) : R U := match see m x with
  | some d => Res ((revD d).map U.v) m
  | none => .no
def optK (u : U) (m : Mu) : R (Option Int) := match u with
  | .v (.int i) => .ok (some i) m
  | _ => .no
def tupK (us : List U) (m : Mu) : R U := match plainU us with
  | some ds => if ds.length ≤ lim then .ok (.v (.tup ds)) m else .no
  | none => .no
def lstK (us : List U) (m : Mu) : R U := match plainU us with
  | some ds => if ds.length ≤ lim then .ok (.v (.lst ds)) m else .no
  | none => .no
def newK (us : List U) (m : Mu) : R U := if us.length ≤ lim then .ok (.p m.length) (m ++ [.lst us]) else .no
def callK (C : CE) (f : Nat) (us : List U) (m : Mu) : R U := match plainU us with
  | some ds => fromP m (C.fn f ds)
  | none => .no
def callnK (C : CE) (f : Nat) (us : List U) (m : Mu) : R U := match plainU us with
  | some ds => match newP (C.fm f (ds.map U.v) []) with
    | some (.ok xs _) => .ok (.p m.length) (m ++ [.lst (xs.map U.v)])
    | some (.ex c fs _) => .ex c fs m
    | _ => .no
  | none => .no
def makeK (C : CE) (c : Nat) (us : List U) (m : Mu) : R U := match plainU us with
  | some ds => fromP m (C.mkr c ds)
  | none => .no
def attrK (C : CE) (f : Nat) (x : U) (m : Mu) : R U := match see m x with
  | some (.obj c fs) => if C.fld c f = true then Res ((fs.lookup f).map U.v) m else .no
  | _ => .no
def isiK' (C : CE) (t : List Nat) (x : U) (m : Mu) : R U := match see m x with
  | some d => Res (((isiD C t d).map D.bl).map U.v) m
  | none => .no
def pop0K (x : U) (m : Mu) : R U := match lstAt m x with
  | some k => match m[k]? with
    | some (.lst us) => match us with
      | u :: r => .ok u (m.set k (.lst r))
      | [] => .no
    | _ => .no
  | none => .no
def boolK {α : Type} (a b : Mu → R α) (x : U) (m : Mu) : R α := match x with
  | .v (.bl true) => a m
  | .v (.bl false) => b m
  | _ => .no
def notK (x : U) (m : Mu) : R U := match x with
  | .v (.bl b) => .ok (.v (.bl !b)) m
  | _ => .no
def seqK (u : U) (m : Mu) : R (List D) := match u with
  | .v d => Res (itemsD d) m
  | _ => .no
def enumK (u : U) (m : Mu) : R (List D) := match u with
  | .v d => match d with
    | .lst xs => .ok (numbered 0 xs) m
    | _ => .no
  | _ => .no
def rngK (u : U) (m : Mu) : R (List D) := match u with
  | .v (.int i) => if i.natAbs ≤ lim then .ok (rangeD 0 i.toNat) m else .no
  | _ => .no
def asgK (t : Tg) (ρ : Ro) (u : U) (m : Mu) : O := match bindT t u ρ with
  | some ρ' => .nx ρ' m
  | none => .no
def ifsK (a b : Mu → O) (x : U) (m : Mu) : O := match x with
  | .v (.bl true) => a m
  | .v (.bl false) => b m
  | _ => .no
def forK (C : CE) (t : Tg) (s : S) : D → Ro → Mu → O := fun d ρ m => match bindT t (.v d) ρ with
  | some ρ' => xs C s ρ' m
  | none => .no
def appK (k : Nat) (ρ : Ro) (w : U) (m : Mu) : O := match m[k]? with
  | some (.lst us) => if us.length < lim then .nx ρ (m.set k (.lst (us ++ [w]))) else .no
  | _ => .no
def extK (k : Nat) (ρ : Ro) (w : U) (m : Mu) : O := match m[k]?, see m w with
  | some (.lst us), some (.lst ds) => if us.length + ds.length ≤ lim then .nx ρ (m.set k (.lst (us ++ ds.map U.v))) else .no
  | _, _ => .no
def setIK (ρ : Ro) (w u j : U) (m : Mu) : O := match u, j with
  | .p k, .v (.int i) => match m[k]? with
    | some (.lst us) => match L2.ixN us.length i with
      | some n => .nx ρ (m.set k (.lst (us.set n w)))
      | none => .no
    | _ => .no
  | _, _ => .no
section
variable {C : CE} {ρ ρ' : Ro} {m m' : Mu} {a b z e h hs : E} {s t s' : S} {u : U} {d d' : D} {i : Nat} {α β : Type} {x : α} {f : α → Mu → R β} {f' : α → Mu → O} {h' : Ro → Mu → O} {c : Nat} {fs : List (Nat × D)}
theorem bnd_ok : (R.ok x m).bnd f = f x m := rfl
theorem bnd_ex : (R.ex c fs m : R α).bnd f = .ex c fs m := rfl
theorem bnd_no : (R.no : R α).bnd f = .no := rfl
theorem out_ok : (R.ok x m).out ρ f' = f' x m := rfl
theorem out_ex : (R.ex c fs m : R α).out ρ f' = .ex c fs ρ m := rfl
theorem out_no : (R.no : R α).out ρ f' = .no := rfl
theorem seq_nx : (O.nx ρ m).seq h' = h' ρ m := rfl
theorem seq_rt : (O.rt u m).seq h' = .rt u m := rfl
theorem seq_ex : (O.ex c fs ρ m).seq h' = .ex c fs ρ m := rfl
theorem res_some : Res (some x) m = .ok x m := rfl
theorem res_none : Res (none : Option α) m = .no := rfl
theorem outR_rt : outR (.rt u m) = .ok u m := rfl
theorem outR_nx : outR (.nx ρ m) = .ok (.v .non) m := rfl
theorem outR_ex : outR (.ex c fs ρ m) = .ex c fs m := rfl
theorem pureP_ok (h : see m u = some d) : pureP (.ok u m) = .ok d := by
  show (match see m u with
    | some d => P.ok d
    | none => .no) = _
  rw [h]
theorem pureP_v : pureP (.ok (.v d) m) = .ok d := rfl
theorem pureP_ex : pureP (.ex c fs m) = .ex c fs := rfl
theorem see_v : see m (.v d) = some d := rfl
theorem run_ok {g : Fn} {us : List U} (h : us.length = g.ar) : g.run C us m = outR (xs C g.body (startU g.slots us) m) := if_pos h
theorem ask_str (x : List Nat) : askable (.str x) = true := rfl
theorem ask_int (x : Int) : askable (.int x) = true := rfl
theorem ask_bl (x : Bool) : askable (.bl x) = true := rfl
theorem ask_non : askable .non = true := rfl
theorem eqD_str (x y : List Nat) : eqD (.str x) (.str y) = (x == y) := rfl
theorem eqD_int (x y : Int) : eqD (.int x) (.int y) = (x == y) := rfl
theorem eqD_bl (x y : Bool) : eqD (.bl x) (.bl y) = (x == y) := rfl
theorem eqD_non : eqD .non .non = true := rfl
/-! expressions -/
theorem e_var : ev C (.var i) ρ m = varK ρ[i]? m := by rw [ev]; rfl
theorem varK_s : varK (some (some u)) m = .ok u m := rfl
theorem e_cst : ev C (.cst d) ρ m = .ok (.v d) m := by rw [ev]
theorem e_op {o : Op} : ev C (.op o a b) ρ m = (ev C a ρ m).bnd fun x m => (ev C b ρ m).bnd fun y m => opK o x y m := by rw [ev]; rfl
theorem e_cmp {o : Cm} : ev C (.cmp o a b) ρ m = (ev C a ρ m).bnd fun x m => (ev C b ρ m).bnd fun y m => cmpK o x y m := by rw [ev]; rfl
theorem e_chain {o o' : Cm} : ev C (.chain o o' a b z) ρ m = (ev C a ρ m).bnd fun x m => (ev C b ρ m).bnd fun y m => chainK o o' x y (fun m => ev C z ρ m) m := by rw [ev]; rfl
theorem e_un {o : Un} : ev C (.un o a) ρ m = (ev C a ρ m).bnd fun x m => unK o x m := by rw [ev]; rfl
theorem e_and : ev C (.and_ a b) ρ m = (ev C a ρ m).bnd fun x m => boolK (fun m => ev C b ρ m) (fun m => .ok (.v (.bl false)) m) x m := by rw [ev]; rfl
theorem e_or : ev C (.or_ a b) ρ m = (ev C a ρ m).bnd fun x m => boolK (fun m => .ok (.v (.bl true)) m) (fun m => ev C b ρ m) x m := by rw [ev]; rfl
theorem e_not : ev C (.not_ a) ρ m = (ev C a ρ m).bnd fun x m => notK x m := by rw [ev]; rfl
theorem e_ifx : ev C (.ifx z a b) ρ m = (ev C z ρ m).bnd fun x m => boolK (fun m => ev C a ρ m) (fun m => ev C b ρ m) x m := by rw [ev]; rfl
theorem e_tup : ev C (.tup a) ρ m = (evs C a ρ m).bnd fun us m => tupK us m := by rw [ev]; rfl
theorem e_lst : ev C (.lst a) ρ m = (evs C a ρ m).bnd fun us m => lstK us m := by rw [ev]; rfl
theorem e_new : ev C (.new a) ρ m = (evs C a ρ m).bnd fun us m => newK us m := by rw [ev]; rfl
theorem e_frz : ev C (.frz a) ρ m = (ev C a ρ m).bnd fun x m => frzU m x := by rw [ev]
theorem e_idx : ev C (.idx a b) ρ m = (ev C a ρ m).bnd fun x m => (ev C b ρ m).bnd fun y m => idxK x y m := by rw [ev]; rfl
theorem e_slc : ev C (.slc a b z) ρ m = (ev C a ρ m).bnd fun x m => (evo C b ρ m).bnd fun i m => (evo C z ρ m).bnd fun j m => slcK x i j m := by rw [ev]; rfl
theorem e_rev : ev C (.rev a) ρ m = (ev C a ρ m).bnd fun x m => revK x m := by rw [ev]; rfl
theorem e_call {f : Nat} : ev C (.call f a) ρ m = (evs C a ρ m).bnd fun us m => callK C f us m := by rw [ev]; rfl
theorem e_callm {f : Nat} : ev C (.callm f a) ρ m = (evs C a ρ m).bnd fun us m => C.fm f us m := by rw [ev]
theorem e_calln {f : Nat} : ev C (.calln f a) ρ m = (evs C a ρ m).bnd fun us m => callnK C f us m := by rw [ev]; rfl
theorem e_make {f : Nat} : ev C (.make f a) ρ m = (evs C a ρ m).bnd fun us m => makeK C f us m := by rw [ev]; rfl
theorem e_attr {f : Nat} : ev C (.attr a f) ρ m = (ev C a ρ m).bnd fun x m => attrK C f x m := by rw [ev]; rfl
theorem e_isi {ts : List Nat} : ev C (.isi a ts) ρ m = (ev C a ρ m).bnd fun x m => isiK' C ts x m := by rw [ev]; rfl
theorem e_pop0 : ev C (.pop0 a) ρ m = (ev C a ρ m).bnd fun x m => pop0K x m := by rw [ev]; rfl
theorem e_lc {vs : List Nat} {t : Tg} : ev C (.lc vs t a b z) ρ m = (evi C a ρ m).bnd fun ds m => (lcL (lcStep C vs t b z ρ) (ds.map U.v) m).bnd fun xs m => .ok (.v (.lst xs)) m := ev_lc C vs t a b z ρ m
theorem e_seq : evi C (.seq a) ρ m = (ev C a ρ m).bnd fun u m => seqK u m := by rw [evi]; rfl
theorem e_enum : evi C (.enum a) ρ m = (ev C a ρ m).bnd fun u m => enumK u m := by rw [evi]; rfl
theorem e_rng : evi C (.rng a) ρ m = (ev C a ρ m).bnd fun u m => rngK u m := by rw [evi]; rfl
theorem e_nil : evs C .nil ρ m = .ok [] m := by rw [evs]
theorem e_cons : evs C (.cons a b) ρ m = (ev C a ρ m).bnd fun u m => (evs C b ρ m).bnd fun us m => .ok (u :: us) m := by rw [evs]
theorem e_no : evo C .nil ρ m = .ok none m := by rw [evo]
theorem e_opt : evo C (.opt a) ρ m = (ev C a ρ m).bnd fun u m => optK u m := by rw [evo]; rfl
/-! statements -/
theorem x_skip : xs C .skip ρ m = .nx ρ m := by rw [xs]
theorem x_seq : xs C (.seq s t) ρ m = (xs C s ρ m).seq fun ρ m => xs C t ρ m := by rw [xs]
theorem x_asg {g : Tg} : xs C (.asg g e) ρ m = (ev C e ρ m).out ρ fun u m => asgK g ρ u m := by rw [xs]; rfl
theorem x_par {j : Nat} : xs C (.par i j a b) ρ m = (ev C a ρ m).out ρ fun u m => (ev C b ρ m).out ρ fun w m => .nx ((ρ.set i (some u)).set j (some w)) m := by rw [xs]
theorem x_app : xs C (.app a e) ρ m = (ev C a ρ m).out ρ fun u m => match lstAt m u with
  | some k => (ev C e ρ m).out ρ fun w m => appK k ρ w m
  | none => .no := by rw [xs]; rfl
theorem x_ext : xs C (.ext a e) ρ m = (ev C a ρ m).out ρ fun u m => match lstAt m u with
  | some k => (ev C e ρ m).out ρ fun w m => extK k ρ w m
  | none => .no := by rw [xs]; rfl
theorem x_setI : xs C (.setI a b e) ρ m = (ev C e ρ m).out ρ fun w m => (ev C a ρ m).out ρ fun u m => (ev C b ρ m).out ρ fun j m => setIK ρ w u j m := by rw [xs]; rfl
theorem x_ret : xs C (.ret e) ρ m = (ev C e ρ m).out ρ fun u m => .rt u m := by rw [xs]
theorem x_ifs : xs C (.ifs e s t) ρ m = (ev C e ρ m).out ρ fun x m => ifsK (fun m => xs C s ρ m) (fun m => xs C t ρ m) x m := by rw [xs]; rfl
theorem x_for {g : Tg} : xs C (.for_ g a s) ρ m = (evi C a ρ m).out ρ fun ds m => forL (forK C g s) ds ρ m := by rw [xs]; rfl
theorem x_whl : xs C (.whl a s) ρ m = whlL (fun ρ m => ev C a ρ m) (fun ρ m => xs C s ρ m) turns ρ m := by rw [xs]
/-! values -/
theorem opK_v {o : Op} : opK o (.v d) (.v d') m = Res ((op2 o d d').map U.v) m := rfl
theorem cmpK_v {o : Cm} : cmpK o (.v d) (.v d') m = Res (((cmp2 o d d').map D.bl).map U.v) m := rfl
theorem unK_v {o : Un} : unK o (.v d) m = Res ((un1 o d).map U.v) m := rfl
theorem idxK_v : idxK (.v d) (.v d') m = Res ((idx2 d d').map U.v) m := rfl
theorem slcK_v {i j : Option Int} : slcK (.v d) i j m = Res ((slc2 d i j).map U.v) m := rfl
theorem revK_v : revK (.v d) m = Res ((revD d).map U.v) m := rfl
theorem optK_v {i : Int} : optK (.v (.int i)) m = .ok (some i) m := rfl
theorem isiK_v {ts : List Nat} : isiK' C ts (.v d) m = Res (((isiD C ts d).map D.bl).map U.v) m := rfl
theorem boolK_t {p q : Mu → R α} : boolK p q (.v (.bl true)) m = p m := rfl
theorem boolK_f {p q : Mu → R α} : boolK p q (.v (.bl false)) m = q m := rfl
theorem notK_v {b : Bool} : notK (.v (.bl b)) m = .ok (.v (.bl !b)) m := rfl
theorem ifsK_t {p q : Mu → O} : ifsK p q (.v (.bl true)) m = p m := rfl
theorem ifsK_f {p q : Mu → O} : ifsK p q (.v (.bl false)) m = q m := rfl
theorem seqK_s {l : List Nat} : seqK (.v (.str l)) m = .ok (l.map fun c => .str [c]) m := rfl
theorem seqK_l {l : List D} : seqK (.v (.lst l)) m = .ok l m := rfl
theorem seqK_t {l : List D} : seqK (.v (.tup l)) m = .ok l m := rfl
theorem enumK_l {l : List D} : enumK (.v (.lst l)) m = .ok (numbered 0 l) m := rfl
theorem asgK_n {u : U} : asgK (.nm i) ρ u m = .nx (ρ.set i (some u)) m := rfl
theorem frz_v : frzU m (.v d) = .ok (.v d) m := rfl
theorem pl_nil : plainU [] = some [] := rfl
theorem pl_cons {us : List U} : plainU (.v d :: us) = (plainU us).map (d :: ·) := rfl
theorem fromP_ok : fromP m (.ok d) = .ok (.v d) m := rfl
theorem fromP_ex : fromP m (.ex c fs) = .ex c fs m := rfl
theorem chain_i (i j k : Int) : chainK .lt .le (.v (.int i)) (.v (.int j)) (fun m => .ok (.v (.int k)) m) m = .ok (.v (.bl (decide (i < j) && decide (j ≤ k)))) m := by
  show (match (some (decide (i < j)) : Option Bool) with
    | some true => R.ok (U.v (.bl (decide (j ≤ k)))) m
    | some false => .ok (.v (.bl false)) m
    | none => .no) = _
  cases decide (i < j) <;> rfl
theorem c2_lt (i j : Int) : cmp2 .lt (.int i) (.int j) = some (decide (i < j)) := rfl
theorem c2_le (i j : Int) : cmp2 .le (.int i) (.int j) = some (decide (i ≤ j)) := rfl
theorem c2_gt (i j : Int) : cmp2 .gt (.int i) (.int j) = some (decide (j < i)) := rfl
theorem c2_ge (i j : Int) : cmp2 .ge (.int i) (.int j) = some (decide (j ≤ i)) := rfl
theorem c2_eqs (x y : List Nat) : cmp2 .eq (.str x) (.str y) = some (x == y) := rfl
theorem c2_nes (x y : List Nat) : cmp2 .ne (.str x) (.str y) = some (!(x == y)) := rfl
theorem c2_eqi (x y : Int) : cmp2 .eq (.int x) (.int y) = some (x == y) := rfl
theorem c2_nei (x y : Int) : cmp2 .ne (.int x) (.int y) = some (!(x == y)) := rfl
theorem c2_eqb (x y : Bool) : cmp2 .eq (.bl x) (.bl y) = some (x == y) := rfl
theorem c2_neb (x y : Bool) : cmp2 .ne (.bl x) (.bl y) = some (!(x == y)) := rfl
theorem c2_in1 (c : Nat) (y : List Nat) : cmp2 .in_ (.str [c]) (.str y) = some (decide (c ∈ y)) := rfl
theorem un_lens (x : List Nat) : un1 .len (.str x) = some (.int x.length) := rfl
theorem un_lenl (x : List D) : un1 .len (.lst x) = some (.int x.length) := rfl
theorem un_lent (x : List D) : un1 .len (.tup x) = some (.int x.length) := rfl
theorem un_lenc (x : List Int) : un1 .len (.scr x) = some (.int x.length) := rfl
theorem un_ii (x : Int) : un1 .int (.int x) = some (.int x) := rfl
theorem un_ib (x : Bool) : un1 .int (.bl x) = some (.int (if x then 1 else 0)) := rfl
theorem un_all (x : List D) : un1 .all (.lst x) = (bools x).map fun bs => .bl (bs.all id) := rfl
theorem un_neg (x : Int) : un1 .neg (.int x) = some (.int (-x)) := rfl
theorem un_n0 : un1 .isN .non = some (.bl true) := rfl
theorem un_nt (x : List D) : un1 .isN (.tup x) = some (.bl false) := rfl
theorem un_nl (x : List D) : un1 .isN (.lst x) = some (.bl false) := rfl
theorem op_addi (i j : Int) : op2 .add (.int i) (.int j) = some (.int (i + j)) := rfl
theorem op_subi (i j : Int) : op2 .sub (.int i) (.int j) = some (.int (i - j)) := rfl
theorem ix_l (x : List D) (i : Int) : idx2 (.lst x) (.int i) = atD x i := rfl
theorem ix_t (x : List D) (i : Int) : idx2 (.tup x) (.int i) = atD x i := rfl
theorem lst_len_le (n : Nat) (h : n ≤ 1000) : (n ≤ lim) = True := eq_true (Nat.le_trans h (by decide))
end
theorem fn_of_fa {C : Nat → CE} {i : Nat} {g : Fn} (h : Fa C i g) (n : Nat) (ds : List D) (ha : ds.length = g.ar) : (C (n + 1)).fn i ds = pureP (outR (xs (C n) g.body (startU g.slots (ds.map U.v)) [])) := by
  unfold CE.fn
  rw [h, run_ok (by rw [List.length_map]; exact ha)]
theorem lcL_map {f : U → Mu → R (Option D)} {m : Mu} {g : D → D} : ∀ {ds : List D}, (∀ d ∈ ds, f (.v d) m = .ok (some (g d)) m) → lcL f (ds.map U.v) m = .ok (ds.map g) m
  | [], _ => rfl
  | d :: ds, h => by
    rw [List.map_cons, lcL, h d List.mem_cons_self]
    dsimp only
    rw [lcL_map fun e he => h e (List.mem_cons_of_mem _ he)]
    rfl
theorem lcL_filter {f : U → Mu → R (Option D)} {m : Mu} {q : D → Bool} {g : D → D} : ∀ {ds : List D}, (∀ d ∈ ds, f (.v d) m = .ok (if q d = true then some (g d) else none) m) → lcL f (ds.map U.v) m = .ok ((ds.filter q).map g) m
  | [], _ => rfl
  | d :: ds, h => by
    rw [List.map_cons, lcL, h d List.mem_cons_self]
    dsimp only
    rw [lcL_filter fun e he => h e (List.mem_cons_of_mem _ he)]
    by_cases c : q d = true
    · rw [if_pos c, List.filter_cons_of_pos c]
      rfl
    · rw [if_neg c, List.filter_cons_of_neg c]
theorem forL_fold {σ : Type} {f : D → Ro → Mu → O} (Rr : σ → Ro) (Mm : σ → Mu) (step : σ → D → σ) : ∀ (ds : List D) (s : σ), (∀ (pre : List D) (d : D) (post : List D), ds = pre ++ d :: post → f d (Rr (pre.foldl step s)) (Mm (pre.foldl step s)) = .nx (Rr (step (pre.foldl step s) d)) (Mm (step (pre.foldl step s) d))) →
    forL f ds (Rr s) (Mm s) = .nx (Rr (ds.foldl step s)) (Mm (ds.foldl step s))
  | [], _, _ => rfl
  | d :: ds, s, h => by
    have h0 : f d (Rr s) (Mm s) = .nx (Rr (step s d)) (Mm (step s d)) := h [] d ds rfl
    rw [forL, h0]
    dsimp only [List.foldl]
    exact forL_fold Rr Mm step ds (step s d) fun pre e post q => h (d :: pre) e post (by rw [q]; rfl)
/-- the kinds of things that isinstance is asked of -/
structure Kn (C : Nat → CE) (ix : Lb.Ix) : Prop where
  str : ∀ n k, k ∈ [0, 1, 2, 3, 4, 5, 12, 20 + ix.c_Formula] → (C n).isa k 3 = some (decide (k = 3))
  fo : ∀ n k, k ∈ [0, 1, 2, 3, 4, 5, 12, 20 + ix.c_Formula] → (C n).isa k (20 + ix.c_Formula) = some (decide (k = 20 + ix.c_Formula))
section
variable {C : Nat → CE} {ix : Lb.Ix}
def letters : List Nat := [97, 98, 99, 100, 101, 102, 103, 104, 105, 106, 107, 108, 109, 110, 111, 112, 113, 114, 115, 116, 117, 118, 119, 120, 121, 122]
def isLetters (x : List Nat) : Bool := decide (0 < x.length) && (decide (x.length ≤ 8) && x.all fun c => decide (c ∈ letters))
theorem bools_map (x : List Nat) (f : Nat → Bool) : bools (x.map fun c => D.bl (f c)) = some (x.map f) := by
  induction x with
  | nil => rfl
  | cons c x ih =>
    show (bools (x.map fun c => D.bl (f c))).map (f c :: ·) = _
    rw [ih]
    rfl
theorem is_letters_ok (h : Fa C ix.is_letters (Lb.is_letters ix)) (k : Kn C ix) (n : Nat) (x : List Nat) : (C (n + 1)).fn ix.is_letters [.str x] = .ok (.bl (isLetters x)) := by
  rw [fn_of_fa h n _ rfl]
  have hi : isiD (C n) [3] (.str x) = some true := by
    show isiK (C n) 3 [3] = _
    unfold isiK
    rw [k.str n 3 (by simp)]
    rfl
  show pureP (outR (xs (C n) (Lb.is_letters ix).body [some (.v (.str x)), none] [])) = _
  unfold Lb.is_letters isLetters
  have c1 : decide ((0 : Int) < (x.length : Int)) = decide (0 < x.length) := decide_eq_decide.mpr (by omega)
  have c3 : decide ((x.length : Int) ≤ 8) = decide (x.length ≤ 8) := decide_eq_decide.mpr (by omega)
  simp only [bnd_ok, bnd_ex, bnd_no, out_ok, out_ex, out_no, seq_nx, seq_rt, seq_ex, res_some, res_none, outR_rt, outR_nx, outR_ex, pureP_v, pureP_ex, see_v, ask_str, ask_int, ask_bl, ask_non, eqD_str, eqD_int, eqD_bl, eqD_non, e_var, varK_s, e_chain, chain_i, c2_lt, c2_le, c2_gt, c2_ge, c2_eqs, c2_nes, c2_eqi, c2_nei, c2_eqb, c2_neb, c2_in1, un_lens, un_lenl, un_lent, un_lenc, un_ii, un_ib, un_all, un_neg, un_n0, un_nt, un_nl, op_addi, op_subi, ix_l, ix_t, e_cst, e_op, e_cmp, e_un, e_and, e_or, e_not, e_ifx, e_tup, e_lst, e_new, e_frz, e_idx, e_slc, e_rev, e_call, e_callm, e_calln, e_make, e_attr, e_isi, e_pop0, e_lc, e_seq, e_enum, e_rng, e_nil, e_cons, e_no, e_opt, x_skip, x_seq, x_asg, x_par, x_app, x_ext, x_setI, x_ret, x_ifs, x_for, x_whl, opK_v, cmpK_v, unK_v, idxK_v, slcK_v, revK_v, optK_v, isiK_v, boolK_t, boolK_f, notK_v, ifsK_t, ifsK_f, seqK_s, seqK_l, seqK_t, enumK_l, asgK_n, frz_v, pl_nil, pl_cons, fromP_ok, fromP_ex, Option.map_some, Option.map_none, List.getElem?_cons_zero, List.getElem?_cons_succ, List.set_cons_zero, List.set_cons_succ, Bool.not_true, Bool.not_false, hi, c1, c3]
  cases d1 : (decide (0 < x.length) && decide (x.length ≤ 8)) with
  | false =>
    simp only [bnd_ok, bnd_ex, bnd_no, out_ok, out_ex, out_no, seq_nx, seq_rt, seq_ex, res_some, res_none, outR_rt, outR_nx, outR_ex, pureP_v, pureP_ex, see_v, ask_str, ask_int, ask_bl, ask_non, eqD_str, eqD_int, eqD_bl, eqD_non, e_var, varK_s, e_chain, chain_i, c2_lt, c2_le, c2_gt, c2_ge, c2_eqs, c2_nes, c2_eqi, c2_nei, c2_eqb, c2_neb, c2_in1, un_lens, un_lenl, un_lent, un_lenc, un_ii, un_ib, un_all, un_neg, un_n0, un_nt, un_nl, op_addi, op_subi, ix_l, ix_t, e_cst, e_op, e_cmp, e_un, e_and, e_or, e_not, e_ifx, e_tup, e_lst, e_new, e_frz, e_idx, e_slc, e_rev, e_call, e_callm, e_calln, e_make, e_attr, e_isi, e_pop0, e_lc, e_seq, e_enum, e_rng, e_nil, e_cons, e_no, e_opt, x_skip, x_seq, x_asg, x_par, x_app, x_ext, x_setI, x_ret, x_ifs, x_for, x_whl, opK_v, cmpK_v, unK_v, idxK_v, slcK_v, revK_v, optK_v, isiK_v, boolK_t, boolK_f, notK_v, ifsK_t, ifsK_f, seqK_s, seqK_l, seqK_t, enumK_l, asgK_n, frz_v, pl_nil, pl_cons, fromP_ok, fromP_ex, Option.map_some, Option.map_none, List.getElem?_cons_zero, List.getElem?_cons_succ, List.set_cons_zero, List.set_cons_succ, Bool.not_true, Bool.not_false]
    rw [← Bool.and_assoc, d1]
    rfl
  | true =>
    simp only [bnd_ok, bnd_ex, bnd_no, out_ok, out_ex, out_no, seq_nx, seq_rt, seq_ex, res_some, res_none, outR_rt, outR_nx, outR_ex, pureP_v, pureP_ex, see_v, ask_str, ask_int, ask_bl, ask_non, eqD_str, eqD_int, eqD_bl, eqD_non, e_var, varK_s, e_chain, chain_i, c2_lt, c2_le, c2_gt, c2_ge, c2_eqs, c2_nes, c2_eqi, c2_nei, c2_eqb, c2_neb, c2_in1, un_lens, un_lenl, un_lent, un_lenc, un_ii, un_ib, un_all, un_neg, un_n0, un_nt, un_nl, op_addi, op_subi, ix_l, ix_t, e_cst, e_op, e_cmp, e_un, e_and, e_or, e_not, e_ifx, e_tup, e_lst, e_new, e_frz, e_idx, e_slc, e_rev, e_call, e_callm, e_calln, e_make, e_attr, e_isi, e_pop0, e_lc, e_seq, e_enum, e_rng, e_nil, e_cons, e_no, e_opt, x_skip, x_seq, x_asg, x_par, x_app, x_ext, x_setI, x_ret, x_ifs, x_for, x_whl, opK_v, cmpK_v, unK_v, idxK_v, slcK_v, revK_v, optK_v, isiK_v, boolK_t, boolK_f, notK_v, ifsK_t, ifsK_f, seqK_s, seqK_l, seqK_t, enumK_l, asgK_n, frz_v, pl_nil, pl_cons, fromP_ok, fromP_ex, Option.map_some, Option.map_none, List.getElem?_cons_zero, List.getElem?_cons_succ, List.set_cons_zero, List.set_cons_succ, Bool.not_true, Bool.not_false]
    rw [lcL_map (g := fun d => match d with
      | .str [c] => .bl (decide (c ∈ letters))
      | _ => .non) fun d hd => ?_]
    · simp only [bnd_ok, bnd_ex, bnd_no, out_ok, out_ex, out_no, seq_nx, seq_rt, seq_ex, res_some, res_none, outR_rt, outR_nx, outR_ex, pureP_v, pureP_ex, see_v, ask_str, ask_int, ask_bl, ask_non, eqD_str, eqD_int, eqD_bl, eqD_non, e_var, varK_s, e_chain, chain_i, c2_lt, c2_le, c2_gt, c2_ge, c2_eqs, c2_nes, c2_eqi, c2_nei, c2_eqb, c2_neb, c2_in1, un_lens, un_lenl, un_lent, un_lenc, un_ii, un_ib, un_all, un_neg, un_n0, un_nt, un_nl, op_addi, op_subi, ix_l, ix_t, e_cst, e_op, e_cmp, e_un, e_and, e_or, e_not, e_ifx, e_tup, e_lst, e_new, e_frz, e_idx, e_slc, e_rev, e_call, e_callm, e_calln, e_make, e_attr, e_isi, e_pop0, e_lc, e_seq, e_enum, e_rng, e_nil, e_cons, e_no, e_opt, x_skip, x_seq, x_asg, x_par, x_app, x_ext, x_setI, x_ret, x_ifs, x_for, x_whl, opK_v, cmpK_v, unK_v, idxK_v, slcK_v, revK_v, optK_v, isiK_v, boolK_t, boolK_f, notK_v, ifsK_t, ifsK_f, seqK_s, seqK_l, seqK_t, enumK_l, asgK_n, frz_v, pl_nil, pl_cons, fromP_ok, fromP_ex, Option.map_some, Option.map_none, List.getElem?_cons_zero, List.getElem?_cons_succ, List.set_cons_zero, List.set_cons_succ, Bool.not_true, Bool.not_false, List.map_map]
      have e : (x.map ((fun d => match d with
        | D.str [c] => D.bl (decide (c ∈ letters))
        | _ => .non) ∘ fun c => D.str [c])) = x.map fun c => D.bl (decide (c ∈ letters)) := rfl
      rw [e, bools_map]
      simp only [bnd_ok, bnd_ex, bnd_no, out_ok, out_ex, out_no, seq_nx, seq_rt, seq_ex, res_some, res_none, outR_rt, outR_nx, outR_ex, pureP_v, pureP_ex, see_v, ask_str, ask_int, ask_bl, ask_non, eqD_str, eqD_int, eqD_bl, eqD_non, e_var, varK_s, e_chain, chain_i, c2_lt, c2_le, c2_gt, c2_ge, c2_eqs, c2_nes, c2_eqi, c2_nei, c2_eqb, c2_neb, c2_in1, un_lens, un_lenl, un_lent, un_lenc, un_ii, un_ib, un_all, un_neg, un_n0, un_nt, un_nl, op_addi, op_subi, ix_l, ix_t, e_cst, e_op, e_cmp, e_un, e_and, e_or, e_not, e_ifx, e_tup, e_lst, e_new, e_frz, e_idx, e_slc, e_rev, e_call, e_callm, e_calln, e_make, e_attr, e_isi, e_pop0, e_lc, e_seq, e_enum, e_rng, e_nil, e_cons, e_no, e_opt, x_skip, x_seq, x_asg, x_par, x_app, x_ext, x_setI, x_ret, x_ifs, x_for, x_whl, opK_v, cmpK_v, unK_v, idxK_v, slcK_v, revK_v, optK_v, isiK_v, boolK_t, boolK_f, notK_v, ifsK_t, ifsK_f, seqK_s, seqK_l, seqK_t, enumK_l, asgK_n, frz_v, pl_nil, pl_cons, fromP_ok, fromP_ex, Option.map_some, Option.map_none, List.getElem?_cons_zero, List.getElem?_cons_succ, List.set_cons_zero, List.set_cons_succ, Bool.not_true, Bool.not_false]
      rw [← Bool.and_assoc, d1, List.all_map]
      rfl
    · obtain ⟨c, _, rfl⟩ := List.mem_map.mp hd
      unfold lcStep
      simp only [wipeR, bindT, bnd_ok, bnd_ex, bnd_no, out_ok, out_ex, out_no, seq_nx, seq_rt, seq_ex, res_some, res_none, outR_rt, outR_nx, outR_ex, pureP_v, pureP_ex, see_v, ask_str, ask_int, ask_bl, ask_non, eqD_str, eqD_int, eqD_bl, eqD_non, e_var, varK_s, e_chain, chain_i, c2_lt, c2_le, c2_gt, c2_ge, c2_eqs, c2_nes, c2_eqi, c2_nei, c2_eqb, c2_neb, c2_in1, un_lens, un_lenl, un_lent, un_lenc, un_ii, un_ib, un_all, un_neg, un_n0, un_nt, un_nl, op_addi, op_subi, ix_l, ix_t, e_cst, e_op, e_cmp, e_un, e_and, e_or, e_not, e_ifx, e_tup, e_lst, e_new, e_frz, e_idx, e_slc, e_rev, e_call, e_callm, e_calln, e_make, e_attr, e_isi, e_pop0, e_lc, e_seq, e_enum, e_rng, e_nil, e_cons, e_no, e_opt, x_skip, x_seq, x_asg, x_par, x_app, x_ext, x_setI, x_ret, x_ifs, x_for, x_whl, opK_v, cmpK_v, unK_v, idxK_v, slcK_v, revK_v, optK_v, isiK_v, boolK_t, boolK_f, notK_v, ifsK_t, ifsK_f, seqK_s, seqK_l, seqK_t, enumK_l, asgK_n, frz_v, pl_nil, pl_cons, fromP_ok, fromP_ex, Option.map_some, Option.map_none, List.getElem?_cons_zero, List.getElem?_cons_succ, List.set_cons_zero, List.set_cons_succ, Bool.not_true, Bool.not_false]
      rfl
end
end At

/-! Words and signs. -/
namespace At
open PySem
theorem plainU_map : ∀ ds : List D, plainU (ds.map U.v) = some ds
  | [] => rfl
  | d :: ds => by
    show (plainU (ds.map U.v)).map (d :: ·) = _
    rw [plainU_map ds]
    rfl
theorem seeM_map (ds : List D) : seeM (.lst (ds.map U.v)) = some (.lst ds) := by
  show (plainU (ds.map U.v)).map D.lst = _
  rw [plainU_map]
  rfl
theorem atI_last {α : Type} (l : List α) (a : α) : L2.atI (l ++ [a]) (-1) = some a := by
  unfold L2.atI L2.ixN
  rw [if_neg (by omega), if_pos (by simp; omega)]
  have e : (-1 + ((l.length : Int) + 1)).toNat = l.length := by omega
  simp [e]
theorem ixN_last (n : Nat) : L2.ixN (n + 1) (-1) = some n := by
  unfold L2.ixN
  rw [if_neg (by omega), if_pos (by omega)]
  congr 1
  omega
theorem atI_nat {α : Type} (l : List α) (i : Nat) : L2.atI l (i : Int) = l[i]? := by
  unfold L2.atI L2.ixN
  by_cases h : (i : Int) < l.length
  · simp [h]
  · have : l[i]? = none := List.getElem?_eq_none (by omega)
    simp [h, this]
/-- the last text of a list grows by a sign -/
def grow (acc : List (List Nat)) (c : Nat) : List (List Nat) := acc.dropLast ++ [acc.getLast?.getD [] ++ [c]]
def partStep (acc : List (List Nat)) (c : Nat) : List (List Nat) := if c = 64 then acc ++ [[]] else grow acc c
def partsAt (x : List Nat) : List (List Nat) := x.foldl partStep [[]]
def signStep (acc : List (List Nat)) (c : Nat) : List (List Nat) := if c = 40 ∨ c = 41 ∨ c = 32 then acc ++ [[c], []] else grow acc c
def signsOf (x : List Nat) : List (List Nat) := (x.foldl signStep [[]]).filter fun s => !(s == [])
theorem grow_snoc (l : List (List Nat)) (a : List Nat) (c : Nat) : grow (l ++ [a]) c = l ++ [a ++ [c]] := by simp [grow]
theorem snoc_of {α : Type} {l : List α} (h : l ≠ []) : ∃ r a, l = r ++ [a] := ⟨l.dropLast, l.getLast h, (List.dropLast_concat_getLast h).symm⟩
theorem part_ne (acc : List (List Nat)) (c : Nat) : partStep acc c ≠ [] := by
  unfold partStep grow
  split <;> simp
theorem sign_ne (acc : List (List Nat)) (c : Nat) : signStep acc c ≠ [] := by
  unfold signStep grow
  split <;> simp
/-- what a fold keeps: not empty, its last text and its length are short -/
structure Short (acc : List (List Nat)) (n : Nat) : Prop where
  ne : acc ≠ []
  len : acc.length ≤ 2 * n + 1
  last : ∀ a, acc.getLast? = some a → a.length ≤ n
theorem short_grow {acc : List (List Nat)} {n c : Nat} (h : Short acc n) : Short (grow acc c) (n + 1) := by
  obtain ⟨r, a, rfl⟩ := snoc_of h.ne
  rw [grow_snoc]
  have h1 := h.len
  have h2 := h.last a (by simp)
  refine ⟨by simp, by simp at h1 ⊢; omega, fun b hb => ?_⟩
  simp at hb
  subst hb
  simp
  omega
theorem short_part (x : List Nat) : ∀ {acc : List (List Nat)} {n : Nat}, Short acc n → Short (x.foldl partStep acc) (n + x.length) := by
  induction x with
  | nil => intro acc n h; exact h
  | cons c x ih =>
    intro acc n h
    have e : n + (c :: x).length = (n + 1) + x.length := by simp; omega
    rw [e]
    refine ih ?_
    unfold partStep
    split
    · refine ⟨by simp, by have := h.len; simp; omega, fun a ha => ?_⟩
      simp at ha
      subst ha
      exact Nat.zero_le _
    · exact short_grow h
theorem short_sign (x : List Nat) : ∀ {acc : List (List Nat)} {n : Nat}, Short acc n → Short (x.foldl signStep acc) (n + x.length) := by
  induction x with
  | nil => intro acc n h; exact h
  | cons c x ih =>
    intro acc n h
    have e : n + (c :: x).length = (n + 1) + x.length := by simp; omega
    rw [e]
    refine ih ?_
    unfold signStep
    split
    · refine ⟨by simp, by have := h.len; simp; omega, fun a ha => ?_⟩
      simp at ha
      subst ha
      exact Nat.zero_le _
    · exact short_grow h
theorem short0 : Short [[]] 0 := ⟨by simp, by simp, fun a ha => by simp at ha; subst ha; exact Nat.le_refl _⟩
section
variable {C : Nat → CE} {ix : Lb.Ix}
def cellS (acc : List (List Nat)) : Mu := [.lst ((acc.map D.str).map U.v)]
theorem see_cellS (acc : List (List Nat)) : see (cellS acc) (.p 0) = some (.lst (acc.map D.str)) := seeM_map _
theorem lstAt_cellS (acc : List (List Nat)) : lstAt (cellS acc) (.p 0) = some 0 := rfl
theorem idx_cellS (r : List (List Nat)) (a : List Nat) : idxK (.p 0) (.v (.int (-1))) (cellS (r ++ [a])) = .ok (.v (.str a)) (cellS (r ++ [a])) := by
  unfold idxK
  rw [see_cellS, see_v]
  show Res ((L2.atI ((r ++ [a]).map D.str) (-1)).map U.v) _ = _
  rw [List.map_append, List.map_cons, List.map_nil, atI_last]
  rfl
theorem app_cellS {ρ : Ro} (acc : List (List Nat)) (w : List Nat) (h : acc.length < lim) : appK 0 ρ (.v (.str w)) (cellS acc) = .nx ρ (cellS (acc ++ [w])) := by
  show (if ((acc.map D.str).map U.v).length < lim then O.nx ρ [.lst (((acc.map D.str).map U.v) ++ [.v (.str w)])] else .no) = _
  rw [if_pos (by rw [List.length_map, List.length_map]; exact h)]
  unfold cellS
  rw [List.map_append, List.map_append]
  rfl
theorem ext_cellS {ρ : Ro} (acc ws : List (List Nat)) (h : acc.length + ws.length ≤ lim) : extK 0 ρ (.v (.lst (ws.map D.str))) (cellS acc) = .nx ρ (cellS (acc ++ ws)) := by
  show (if ((acc.map D.str).map U.v).length + (ws.map D.str).length ≤ lim then O.nx ρ [.lst (((acc.map D.str).map U.v) ++ (ws.map D.str).map U.v)] else .no) = _
  rw [if_pos (by rw [List.length_map, List.length_map, List.length_map]; exact h)]
  unfold cellS
  rw [List.map_append, List.map_append]
theorem setI_cellS {ρ : Ro} (r : List (List Nat)) (a w : List Nat) : setIK ρ (.v (.str w)) (.p 0) (.v (.int (-1))) (cellS (r ++ [a])) = .nx ρ (cellS (r ++ [w])) := by
  show (match L2.ixN (((r ++ [a]).map D.str).map U.v).length (-1) with
    | some n => O.nx ρ [.lst ((((r ++ [a]).map D.str).map U.v).set n (.v (.str w)))]
    | none => .no) = _
  have hl : (((r ++ [a]).map D.str).map U.v).length = r.length + 1 := by simp
  rw [hl, ixN_last]
  unfold cellS
  dsimp only
  rw [List.map_append, List.map_append, List.map_append, List.map_append]
  have : ((r.map D.str).map U.v).length = r.length := by simp
  rw [List.set_append_right _ _ (by rw [this]; exact Nat.le_refl _), this, Nat.sub_self]
  rfl
theorem op_adds (x y : List Nat) (h : x.length + y.length ≤ lim) : op2 .add (.str x) (.str y) = some (.str (x ++ y)) := if_pos h
def code : D → Nat
  | .str [c] => c
  | _ => 0
theorem fold_code {α : Type} (f : α → Nat → α) (x : List Nat) (a : α) : (x.map fun c => D.str [c]).foldl (fun a d => f a (code d)) a = x.foldl f a := by
  rw [List.foldl_map]
  rfl
theorem fold_pair {α : Type} (f : α → Nat → α) (g : D → Option U) : ∀ (ds : List D) (a : α) (u : Option U), (ds.foldl (fun (s : α × Option U) d => (f s.1 (code d), g d)) (a, u)).1 = ds.foldl (fun a d => f a (code d)) a
  | [], _, _ => rfl
  | d :: ds, a, u => fold_pair f g ds (f a (code d)) (g d)
theorem parts_at_ok (h : Fa C ix.parts_at (Lb.parts_at ix)) (n : Nat) (x : List Nat) (hx : 3 * x.length + 3 ≤ lim) : (C (n + 1)).fn ix.parts_at [.str x] = .ok (.lst ((partsAt x).map D.str)) := by
  rw [fn_of_fa h n _ rfl]
  show pureP (outR (xs (C n) (Lb.parts_at ix).body [some (.v (.str x)), none, none] [])) = _
  have nw : newK [.v (.str [])] [] = .ok (.p 0) (cellS [[]]) := by
    unfold newK
    rw [if_pos (by show 1 ≤ lim; decide)]
    rfl
  unfold Lb.parts_at
  simp only [bnd_ok, bnd_ex, bnd_no, out_ok, out_ex, out_no, seq_nx, seq_rt, seq_ex, res_some, res_none, outR_rt, outR_nx, outR_ex, pureP_v, pureP_ex, see_v, ask_str, ask_int, ask_bl, ask_non, eqD_str, eqD_int, eqD_bl, eqD_non, e_var, varK_s, e_chain, chain_i, c2_lt, c2_le, c2_gt, c2_ge, c2_eqs, c2_nes, c2_eqi, c2_nei, c2_eqb, c2_neb, c2_in1, un_lens, un_lenl, un_lent, un_lenc, un_ii, un_ib, un_all, un_neg, un_n0, un_nt, un_nl, op_addi, op_subi, ix_l, ix_t, e_cst, e_op, e_cmp, e_un, e_and, e_or, e_not, e_ifx, e_tup, e_lst, e_new, e_frz, e_idx, e_slc, e_rev, e_call, e_callm, e_calln, e_make, e_attr, e_isi, e_pop0, e_lc, e_seq, e_enum, e_rng, e_nil, e_cons, e_no, e_opt, x_skip, x_seq, x_asg, x_par, x_app, x_ext, x_setI, x_ret, x_ifs, x_for, x_whl, opK_v, cmpK_v, unK_v, idxK_v, slcK_v, revK_v, optK_v, isiK_v, boolK_t, boolK_f, notK_v, ifsK_t, ifsK_f, seqK_s, seqK_l, seqK_t, enumK_l, asgK_n, frz_v, pl_nil, pl_cons, fromP_ok, fromP_ex, Option.map_some, Option.map_none, List.getElem?_cons_zero, List.getElem?_cons_succ, List.set_cons_zero, List.set_cons_succ, Bool.not_true, Bool.not_false, nw]
  rw [forL_fold (σ := List (List Nat) × Option U) (fun s => [some (.v (.str x)), some (.p 0), s.2]) (fun s => cellS s.1) (fun s d => (partStep s.1 (code d), some (.v d))) (x.map fun c => .str [c]) ([[]], none) fun pre d post hd => ?_]
  · simp only [bnd_ok, bnd_ex, bnd_no, out_ok, out_ex, out_no, seq_nx, seq_rt, seq_ex, res_some, res_none, outR_rt, outR_nx, outR_ex, pureP_v, pureP_ex, see_v, ask_str, ask_int, ask_bl, ask_non, eqD_str, eqD_int, eqD_bl, eqD_non, e_var, varK_s, e_chain, chain_i, c2_lt, c2_le, c2_gt, c2_ge, c2_eqs, c2_nes, c2_eqi, c2_nei, c2_eqb, c2_neb, c2_in1, un_lens, un_lenl, un_lent, un_lenc, un_ii, un_ib, un_all, un_neg, un_n0, un_nt, un_nl, op_addi, op_subi, ix_l, ix_t, e_cst, e_op, e_cmp, e_un, e_and, e_or, e_not, e_ifx, e_tup, e_lst, e_new, e_frz, e_idx, e_slc, e_rev, e_call, e_callm, e_calln, e_make, e_attr, e_isi, e_pop0, e_lc, e_seq, e_enum, e_rng, e_nil, e_cons, e_no, e_opt, x_skip, x_seq, x_asg, x_par, x_app, x_ext, x_setI, x_ret, x_ifs, x_for, x_whl, opK_v, cmpK_v, unK_v, idxK_v, slcK_v, revK_v, optK_v, isiK_v, boolK_t, boolK_f, notK_v, ifsK_t, ifsK_f, seqK_s, seqK_l, seqK_t, enumK_l, asgK_n, frz_v, pl_nil, pl_cons, fromP_ok, fromP_ex, Option.map_some, Option.map_none, List.getElem?_cons_zero, List.getElem?_cons_succ, List.set_cons_zero, List.set_cons_succ, Bool.not_true, Bool.not_false]
    rw [fold_pair partStep, fold_code, pureP_ok (see_cellS _)]
    rfl
  · obtain ⟨a, b, e, e1, e2⟩ := List.map_eq_append_iff.mp hd
    obtain ⟨c, b', rfl, rfl, e3⟩ := List.map_eq_cons_iff.mp e2
    rw [fold_pair partStep, ← e1, fold_code]
    have sh := short_part a short0
    have hl : a.length ≤ x.length := by rw [e]; simp
    generalize hacc : a.foldl partStep [[]] = acc at sh
    have sl := sh.len
    show forK (C n) _ _ (.str [c]) [some (.v (.str x)), some (.p 0), _] (cellS acc) = .nx [some (.v (.str x)), some (.p 0), some (.v (.str [c]))] (cellS (partStep acc c))
    generalize (List.foldl (fun (s : List (List Nat) × Option U) d => (partStep s.1 (code d), some (U.v d))) ([[]], none) (a.map fun c => D.str [c])).2 = o
    unfold forK
    simp only [bindT, bnd_ok, bnd_ex, bnd_no, out_ok, out_ex, out_no, seq_nx, seq_rt, seq_ex, res_some, res_none, outR_rt, outR_nx, outR_ex, pureP_v, pureP_ex, see_v, ask_str, ask_int, ask_bl, ask_non, eqD_str, eqD_int, eqD_bl, eqD_non, e_var, varK_s, e_chain, chain_i, c2_lt, c2_le, c2_gt, c2_ge, c2_eqs, c2_nes, c2_eqi, c2_nei, c2_eqb, c2_neb, c2_in1, un_lens, un_lenl, un_lent, un_lenc, un_ii, un_ib, un_all, un_neg, un_n0, un_nt, un_nl, op_addi, op_subi, ix_l, ix_t, e_cst, e_op, e_cmp, e_un, e_and, e_or, e_not, e_ifx, e_tup, e_lst, e_new, e_frz, e_idx, e_slc, e_rev, e_call, e_callm, e_calln, e_make, e_attr, e_isi, e_pop0, e_lc, e_seq, e_enum, e_rng, e_nil, e_cons, e_no, e_opt, x_skip, x_seq, x_asg, x_par, x_app, x_ext, x_setI, x_ret, x_ifs, x_for, x_whl, opK_v, cmpK_v, unK_v, idxK_v, slcK_v, revK_v, optK_v, isiK_v, boolK_t, boolK_f, notK_v, ifsK_t, ifsK_f, seqK_s, seqK_l, seqK_t, enumK_l, asgK_n, frz_v, pl_nil, pl_cons, fromP_ok, fromP_ex, Option.map_some, Option.map_none, List.getElem?_cons_zero, List.getElem?_cons_succ, List.set_cons_zero, List.set_cons_succ, Bool.not_true, Bool.not_false]
    by_cases c0 : c = 64
    · subst c0
      rw [show (([64] : List Nat) == [64]) = true from rfl]
      simp only [bnd_ok, bnd_ex, bnd_no, out_ok, out_ex, out_no, seq_nx, seq_rt, seq_ex, res_some, res_none, outR_rt, outR_nx, outR_ex, pureP_v, pureP_ex, see_v, ask_str, ask_int, ask_bl, ask_non, eqD_str, eqD_int, eqD_bl, eqD_non, e_var, varK_s, e_chain, chain_i, c2_lt, c2_le, c2_gt, c2_ge, c2_eqs, c2_nes, c2_eqi, c2_nei, c2_eqb, c2_neb, c2_in1, un_lens, un_lenl, un_lent, un_lenc, un_ii, un_ib, un_all, un_neg, un_n0, un_nt, un_nl, op_addi, op_subi, ix_l, ix_t, e_cst, e_op, e_cmp, e_un, e_and, e_or, e_not, e_ifx, e_tup, e_lst, e_new, e_frz, e_idx, e_slc, e_rev, e_call, e_callm, e_calln, e_make, e_attr, e_isi, e_pop0, e_lc, e_seq, e_enum, e_rng, e_nil, e_cons, e_no, e_opt, x_skip, x_seq, x_asg, x_par, x_app, x_ext, x_setI, x_ret, x_ifs, x_for, x_whl, opK_v, cmpK_v, unK_v, idxK_v, slcK_v, revK_v, optK_v, isiK_v, boolK_t, boolK_f, notK_v, ifsK_t, ifsK_f, seqK_s, seqK_l, seqK_t, enumK_l, asgK_n, frz_v, pl_nil, pl_cons, fromP_ok, fromP_ex, Option.map_some, Option.map_none, List.getElem?_cons_zero, List.getElem?_cons_succ, List.set_cons_zero, List.set_cons_succ, Bool.not_true, Bool.not_false, lstAt_cellS]
      rw [app_cellS acc [] (by omega)]
      rfl
    · have : (([c] : List Nat) == [64]) = false := by simp [c0]
      rw [this]
      obtain ⟨r, t, rfl⟩ := snoc_of sh.ne
      have tl := sh.last t (by simp)
      simp only [bnd_ok, bnd_ex, bnd_no, out_ok, out_ex, out_no, seq_nx, seq_rt, seq_ex, res_some, res_none, outR_rt, outR_nx, outR_ex, pureP_v, pureP_ex, see_v, ask_str, ask_int, ask_bl, ask_non, eqD_str, eqD_int, eqD_bl, eqD_non, e_var, varK_s, e_chain, chain_i, c2_lt, c2_le, c2_gt, c2_ge, c2_eqs, c2_nes, c2_eqi, c2_nei, c2_eqb, c2_neb, c2_in1, un_lens, un_lenl, un_lent, un_lenc, un_ii, un_ib, un_all, un_neg, un_n0, un_nt, un_nl, op_addi, op_subi, ix_l, ix_t, e_cst, e_op, e_cmp, e_un, e_and, e_or, e_not, e_ifx, e_tup, e_lst, e_new, e_frz, e_idx, e_slc, e_rev, e_call, e_callm, e_calln, e_make, e_attr, e_isi, e_pop0, e_lc, e_seq, e_enum, e_rng, e_nil, e_cons, e_no, e_opt, x_skip, x_seq, x_asg, x_par, x_app, x_ext, x_setI, x_ret, x_ifs, x_for, x_whl, opK_v, cmpK_v, unK_v, idxK_v, slcK_v, revK_v, optK_v, isiK_v, boolK_t, boolK_f, notK_v, ifsK_t, ifsK_f, seqK_s, seqK_l, seqK_t, enumK_l, asgK_n, frz_v, pl_nil, pl_cons, fromP_ok, fromP_ex, Option.map_some, Option.map_none, List.getElem?_cons_zero, List.getElem?_cons_succ, List.set_cons_zero, List.set_cons_succ, Bool.not_true, Bool.not_false, idx_cellS]
      rw [op_adds t [c] (by simp; omega)]
      simp only [bnd_ok, bnd_ex, bnd_no, out_ok, out_ex, out_no, seq_nx, seq_rt, seq_ex, res_some, res_none, outR_rt, outR_nx, outR_ex, pureP_v, pureP_ex, see_v, ask_str, ask_int, ask_bl, ask_non, eqD_str, eqD_int, eqD_bl, eqD_non, e_var, varK_s, e_chain, chain_i, c2_lt, c2_le, c2_gt, c2_ge, c2_eqs, c2_nes, c2_eqi, c2_nei, c2_eqb, c2_neb, c2_in1, un_lens, un_lenl, un_lent, un_lenc, un_ii, un_ib, un_all, un_neg, un_n0, un_nt, un_nl, op_addi, op_subi, ix_l, ix_t, e_cst, e_op, e_cmp, e_un, e_and, e_or, e_not, e_ifx, e_tup, e_lst, e_new, e_frz, e_idx, e_slc, e_rev, e_call, e_callm, e_calln, e_make, e_attr, e_isi, e_pop0, e_lc, e_seq, e_enum, e_rng, e_nil, e_cons, e_no, e_opt, x_skip, x_seq, x_asg, x_par, x_app, x_ext, x_setI, x_ret, x_ifs, x_for, x_whl, opK_v, cmpK_v, unK_v, idxK_v, slcK_v, revK_v, optK_v, isiK_v, boolK_t, boolK_f, notK_v, ifsK_t, ifsK_f, seqK_s, seqK_l, seqK_t, enumK_l, asgK_n, frz_v, pl_nil, pl_cons, fromP_ok, fromP_ex, Option.map_some, Option.map_none, List.getElem?_cons_zero, List.getElem?_cons_succ, List.set_cons_zero, List.set_cons_succ, Bool.not_true, Bool.not_false, setI_cellS]
      unfold partStep
      rw [if_neg c0, grow_snoc]
def takenW : List (List Nat) := [[97, 110, 100], [111, 114], [110, 111, 116], [116, 104, 101, 114, 101], [97, 108, 108], [110, 111, 110, 101]]
def isName (x : List Nat) : Bool := isLetters x && !takenW.contains x
theorem inD_strs (x : List Nat) : ∀ ys : List (List Nat), inD (.str x) (ys.map D.str) = ys.contains x
  | [] => rfl
  | y :: ys => by
    show (eqD (.str y) (.str x) || inD (.str x) (ys.map D.str)) = _
    rw [inD_strs x ys, eqD_str, List.contains_cons]
    congr 1
    exact Bool.beq_comm
theorem ask_strs_t (ys : List (List Nat)) : askable (.tup (ys.map D.str)) = true ∧ askable (.lst (ys.map D.str)) = true := by
  have h1 : plains (ys.map D.str) = true := by
    induction ys with
    | nil => rfl
    | cons y ys ih => exact ih
  have h2 : deeps (ys.map D.str) = 0 := by
    induction ys with
    | nil => rfl
    | cons y ys ih =>
      show max 0 (deeps (ys.map D.str)) = 0
      rw [ih]
      · rfl
      · exact h1
  constructor
  · show (plains (ys.map D.str) && decide (deeps (ys.map D.str) + 1 ≤ 60)) = true
    rw [h1, h2]
    rfl
  · show (plains (ys.map D.str) && decide (deeps (ys.map D.str) + 1 ≤ 60)) = true
    rw [h1, h2]
    rfl
theorem c2_nint (x : List Nat) (ys : List (List Nat)) : cmp2 .nin (.str x) (.tup (ys.map D.str)) = some (!ys.contains x) := by
  have e : cmp2 .nin (.str x) (.tup (ys.map D.str)) = if askable (.str x) && askable (.tup (ys.map D.str)) then some (!inD (.str x) (ys.map D.str)) else none := by
    cases x with
    | nil => rfl
    | cons a x => cases x <;> rfl
  rw [e, ask_str, (ask_strs_t ys).1, inD_strs]
  rfl
theorem c2_int (x : List Nat) (ys : List (List Nat)) : cmp2 .in_ (.str x) (.tup (ys.map D.str)) = some (ys.contains x) := by
  have e : cmp2 .in_ (.str x) (.tup (ys.map D.str)) = if askable (.str x) && askable (.tup (ys.map D.str)) then some (inD (.str x) (ys.map D.str)) else none := by
    cases x with
    | nil => rfl
    | cons a x => cases x <;> rfl
  rw [e, ask_str, (ask_strs_t ys).1, inD_strs]
  rfl
theorem c2_inl (x : List Nat) (ys : List (List Nat)) : cmp2 .in_ (.str x) (.lst (ys.map D.str)) = some (ys.contains x) := by
  have e : cmp2 .in_ (.str x) (.lst (ys.map D.str)) = if askable (.str x) && askable (.lst (ys.map D.str)) then some (inD (.str x) (ys.map D.str)) else none := by
    cases x with
    | nil => rfl
    | cons a x => cases x <;> rfl
  rw [e, ask_str, (ask_strs_t ys).2, inD_strs]
  rfl
theorem c2_ninl (x : List Nat) (ys : List (List Nat)) : cmp2 .nin (.str x) (.lst (ys.map D.str)) = some (!ys.contains x) := by
  have e : cmp2 .nin (.str x) (.lst (ys.map D.str)) = if askable (.str x) && askable (.lst (ys.map D.str)) then some (!inD (.str x) (ys.map D.str)) else none := by
    cases x with
    | nil => rfl
    | cons a x => cases x <;> rfl
  rw [e, ask_str, (ask_strs_t ys).2, inD_strs]
  rfl
theorem callK_ok {C : CE} {f : Nat} {us : List U} {m : Mu} {ds : List D} {d : D} (h1 : plainU us = some ds) (h2 : C.fn f ds = .ok d) : callK C f us m = .ok (.v d) m := by
  unfold callK
  rw [h1]
  dsimp only
  rw [h2]
  rfl
theorem is_name_ok (h0 : Fa C ix.is_letters (Lb.is_letters ix)) (h : Fa C ix.is_name (Lb.is_name ix)) (k : Kn C ix) (n : Nat) (x : List Nat) : (C (n + 2)).fn ix.is_name [.str x] = .ok (.bl (isName x)) := by
  rw [fn_of_fa h (n + 1) _ rfl]
  show pureP (outR (xs (C (n + 1)) (Lb.is_name ix).body [some (.v (.str x))] [])) = _
  unfold Lb.is_name isName
  simp only [bnd_ok, bnd_ex, bnd_no, out_ok, out_ex, out_no, seq_nx, seq_rt, seq_ex, res_some, res_none, outR_rt, outR_nx, outR_ex, pureP_v, pureP_ex, see_v, ask_str, ask_int, ask_bl, ask_non, eqD_str, eqD_int, eqD_bl, eqD_non, e_var, varK_s, e_chain, chain_i, c2_lt, c2_le, c2_gt, c2_ge, c2_eqs, c2_nes, c2_eqi, c2_nei, c2_eqb, c2_neb, c2_in1, un_lens, un_lenl, un_lent, un_lenc, un_ii, un_ib, un_all, un_neg, un_n0, un_nt, un_nl, op_addi, op_subi, ix_l, ix_t, e_cst, e_op, e_cmp, e_un, e_and, e_or, e_not, e_ifx, e_tup, e_lst, e_new, e_frz, e_idx, e_slc, e_rev, e_call, e_callm, e_calln, e_make, e_attr, e_isi, e_pop0, e_lc, e_seq, e_enum, e_rng, e_nil, e_cons, e_no, e_opt, x_skip, x_seq, x_asg, x_par, x_app, x_ext, x_setI, x_ret, x_ifs, x_for, x_whl, opK_v, cmpK_v, unK_v, idxK_v, slcK_v, revK_v, optK_v, isiK_v, boolK_t, boolK_f, notK_v, ifsK_t, ifsK_f, seqK_s, seqK_l, seqK_t, enumK_l, asgK_n, frz_v, pl_nil, pl_cons, fromP_ok, fromP_ex, Option.map_some, Option.map_none, List.getElem?_cons_zero, List.getElem?_cons_succ, List.set_cons_zero, List.set_cons_succ, Bool.not_true, Bool.not_false]
  rw [callK_ok rfl (is_letters_ok h0 k n x)]
  have e : cmp2 .nin (.str x) (.tup [.str [97, 110, 100], .str [111, 114], .str [110, 111, 116], .str [116, 104, 101, 114, 101], .str [97, 108, 108], .str [110, 111, 110, 101]]) = some (!takenW.contains x) := c2_nint x takenW
  cases isLetters x with
  | false => simp only [bnd_ok, bnd_ex, bnd_no, out_ok, out_ex, out_no, seq_nx, seq_rt, seq_ex, res_some, res_none, outR_rt, outR_nx, outR_ex, pureP_v, pureP_ex, see_v, ask_str, ask_int, ask_bl, ask_non, eqD_str, eqD_int, eqD_bl, eqD_non, e_var, varK_s, e_chain, chain_i, c2_lt, c2_le, c2_gt, c2_ge, c2_eqs, c2_nes, c2_eqi, c2_nei, c2_eqb, c2_neb, c2_in1, un_lens, un_lenl, un_lent, un_lenc, un_ii, un_ib, un_all, un_neg, un_n0, un_nt, un_nl, op_addi, op_subi, ix_l, ix_t, e_cst, e_op, e_cmp, e_un, e_and, e_or, e_not, e_ifx, e_tup, e_lst, e_new, e_frz, e_idx, e_slc, e_rev, e_call, e_callm, e_calln, e_make, e_attr, e_isi, e_pop0, e_lc, e_seq, e_enum, e_rng, e_nil, e_cons, e_no, e_opt, x_skip, x_seq, x_asg, x_par, x_app, x_ext, x_setI, x_ret, x_ifs, x_for, x_whl, opK_v, cmpK_v, unK_v, idxK_v, slcK_v, revK_v, optK_v, isiK_v, boolK_t, boolK_f, notK_v, ifsK_t, ifsK_f, seqK_s, seqK_l, seqK_t, enumK_l, asgK_n, frz_v, pl_nil, pl_cons, fromP_ok, fromP_ex, Option.map_some, Option.map_none, List.getElem?_cons_zero, List.getElem?_cons_succ, List.set_cons_zero, List.set_cons_succ, Bool.not_true, Bool.not_false, Bool.false_and]
  | true => simp only [bnd_ok, bnd_ex, bnd_no, out_ok, out_ex, out_no, seq_nx, seq_rt, seq_ex, res_some, res_none, outR_rt, outR_nx, outR_ex, pureP_v, pureP_ex, see_v, ask_str, ask_int, ask_bl, ask_non, eqD_str, eqD_int, eqD_bl, eqD_non, e_var, varK_s, e_chain, chain_i, c2_lt, c2_le, c2_gt, c2_ge, c2_eqs, c2_nes, c2_eqi, c2_nei, c2_eqb, c2_neb, c2_in1, un_lens, un_lenl, un_lent, un_lenc, un_ii, un_ib, un_all, un_neg, un_n0, un_nt, un_nl, op_addi, op_subi, ix_l, ix_t, e_cst, e_op, e_cmp, e_un, e_and, e_or, e_not, e_ifx, e_tup, e_lst, e_new, e_frz, e_idx, e_slc, e_rev, e_call, e_callm, e_calln, e_make, e_attr, e_isi, e_pop0, e_lc, e_seq, e_enum, e_rng, e_nil, e_cons, e_no, e_opt, x_skip, x_seq, x_asg, x_par, x_app, x_ext, x_setI, x_ret, x_ifs, x_for, x_whl, opK_v, cmpK_v, unK_v, idxK_v, slcK_v, revK_v, optK_v, isiK_v, boolK_t, boolK_f, notK_v, ifsK_t, ifsK_f, seqK_s, seqK_l, seqK_t, enumK_l, asgK_n, frz_v, pl_nil, pl_cons, fromP_ok, fromP_ex, Option.map_some, Option.map_none, List.getElem?_cons_zero, List.getElem?_cons_succ, List.set_cons_zero, List.set_cons_succ, Bool.not_true, Bool.not_false, e, Bool.true_and]
def tailOk : List (List Nat) → Bool
  | [] => true
  | [b] => isName b
  | _ => false
def isWord (x : List Nat) : Bool := match partsAt x with
  | a :: l => (a == [116, 104, 101, 114, 101] || isName a) && tailOk l
  | [] => false
theorem at0 {α : Type} (a : α) (l : List α) : atD (a :: l) 0 = some a := by
  unfold atD
  exact atI_nat (a :: l) 0
theorem at1 {α : Type} (a b : α) (l : List α) : atD (a :: b :: l) 1 = some b := by
  unfold atD
  exact atI_nat (a :: b :: l) 1
theorem is_word_ok (h0 : Fa C ix.is_letters (Lb.is_letters ix)) (h1 : Fa C ix.is_name (Lb.is_name ix)) (h2 : Fa C ix.parts_at (Lb.parts_at ix)) (h : Fa C ix.is_word (Lb.is_word ix)) (k : Kn C ix) (n : Nat) (x : List Nat) (hx : 3 * x.length + 3 ≤ lim) : (C (n + 3)).fn ix.is_word [.str x] = .ok (.bl (isWord x)) := by
  rw [fn_of_fa h (n + 2) _ rfl]
  show pureP (outR (xs (C (n + 2)) (Lb.is_word ix).body [some (.v (.str x)), none] [])) = _
  unfold Lb.is_word isWord
  simp only [bnd_ok, bnd_ex, bnd_no, out_ok, out_ex, out_no, seq_nx, seq_rt, seq_ex, res_some, res_none, outR_rt, outR_nx, outR_ex, pureP_v, pureP_ex, see_v, ask_str, ask_int, ask_bl, ask_non, eqD_str, eqD_int, eqD_bl, eqD_non, e_var, varK_s, e_chain, chain_i, c2_lt, c2_le, c2_gt, c2_ge, c2_eqs, c2_nes, c2_eqi, c2_nei, c2_eqb, c2_neb, c2_in1, un_lens, un_lenl, un_lent, un_lenc, un_ii, un_ib, un_all, un_neg, un_n0, un_nt, un_nl, op_addi, op_subi, ix_l, ix_t, e_cst, e_op, e_cmp, e_un, e_and, e_or, e_not, e_ifx, e_tup, e_lst, e_new, e_frz, e_idx, e_slc, e_rev, e_call, e_callm, e_calln, e_make, e_attr, e_isi, e_pop0, e_lc, e_seq, e_enum, e_rng, e_nil, e_cons, e_no, e_opt, x_skip, x_seq, x_asg, x_par, x_app, x_ext, x_setI, x_ret, x_ifs, x_for, x_whl, opK_v, cmpK_v, unK_v, idxK_v, slcK_v, revK_v, optK_v, isiK_v, boolK_t, boolK_f, notK_v, ifsK_t, ifsK_f, seqK_s, seqK_l, seqK_t, enumK_l, asgK_n, frz_v, pl_nil, pl_cons, fromP_ok, fromP_ex, Option.map_some, Option.map_none, List.getElem?_cons_zero, List.getElem?_cons_succ, List.set_cons_zero, List.set_cons_succ, Bool.not_true, Bool.not_false]
  rw [callK_ok rfl (parts_at_ok h2 (n + 1) x hx)]
  obtain ⟨r, t, e⟩ := snoc_of (short_part x short0).ne
  have ne : partsAt x ≠ [] := (short_part x short0).ne
  cases hp : partsAt x with
  | nil => exact absurd hp ne
  | cons a l =>
    simp only [bnd_ok, bnd_ex, bnd_no, out_ok, out_ex, out_no, seq_nx, seq_rt, seq_ex, res_some, res_none, outR_rt, outR_nx, outR_ex, pureP_v, pureP_ex, see_v, ask_str, ask_int, ask_bl, ask_non, eqD_str, eqD_int, eqD_bl, eqD_non, e_var, varK_s, e_chain, chain_i, c2_lt, c2_le, c2_gt, c2_ge, c2_eqs, c2_nes, c2_eqi, c2_nei, c2_eqb, c2_neb, c2_in1, un_lens, un_lenl, un_lent, un_lenc, un_ii, un_ib, un_all, un_neg, un_n0, un_nt, un_nl, op_addi, op_subi, ix_l, ix_t, e_cst, e_op, e_cmp, e_un, e_and, e_or, e_not, e_ifx, e_tup, e_lst, e_new, e_frz, e_idx, e_slc, e_rev, e_call, e_callm, e_calln, e_make, e_attr, e_isi, e_pop0, e_lc, e_seq, e_enum, e_rng, e_nil, e_cons, e_no, e_opt, x_skip, x_seq, x_asg, x_par, x_app, x_ext, x_setI, x_ret, x_ifs, x_for, x_whl, opK_v, cmpK_v, unK_v, idxK_v, slcK_v, revK_v, optK_v, isiK_v, boolK_t, boolK_f, notK_v, ifsK_t, ifsK_f, seqK_s, seqK_l, seqK_t, enumK_l, asgK_n, frz_v, pl_nil, pl_cons, fromP_ok, fromP_ex, Option.map_some, Option.map_none, List.getElem?_cons_zero, List.getElem?_cons_succ, List.set_cons_zero, List.set_cons_succ, Bool.not_true, Bool.not_false, List.map_cons, at0]
    have call1 : ∀ m, callK (C (n + 2)) ix.is_name [.v (.str a)] m = .ok (.v (.bl (isName a))) m := fun m => callK_ok rfl (is_name_ok h0 h1 k n a)
    have len : ((D.str a :: l.map D.str).length : Int) = (l.length : Int) + 1 := by simp
    have fin : ∀ (b : Bool), (xs (C (n + 2)) (.ret (.or_ (.cmp .eq (.un .len (.var 1)) (.cst (.int 1))) (.and_ (.cmp .eq (.un .len (.var 1)) (.cst (.int 2))) (.call ix.is_name (.cons (.idx (.var 1) (.cst (.int 1))) .nil))))) [some (.v (.str x)), some (.v (.lst (D.str a :: l.map D.str)))] []) = .rt (.v (.bl (tailOk l))) [] := fun _ => by
      simp only [bnd_ok, bnd_ex, bnd_no, out_ok, out_ex, out_no, seq_nx, seq_rt, seq_ex, res_some, res_none, outR_rt, outR_nx, outR_ex, pureP_v, pureP_ex, see_v, ask_str, ask_int, ask_bl, ask_non, eqD_str, eqD_int, eqD_bl, eqD_non, e_var, varK_s, e_chain, chain_i, c2_lt, c2_le, c2_gt, c2_ge, c2_eqs, c2_nes, c2_eqi, c2_nei, c2_eqb, c2_neb, c2_in1, un_lens, un_lenl, un_lent, un_lenc, un_ii, un_ib, un_all, un_neg, un_n0, un_nt, un_nl, op_addi, op_subi, ix_l, ix_t, e_cst, e_op, e_cmp, e_un, e_and, e_or, e_not, e_ifx, e_tup, e_lst, e_new, e_frz, e_idx, e_slc, e_rev, e_call, e_callm, e_calln, e_make, e_attr, e_isi, e_pop0, e_lc, e_seq, e_enum, e_rng, e_nil, e_cons, e_no, e_opt, x_skip, x_seq, x_asg, x_par, x_app, x_ext, x_setI, x_ret, x_ifs, x_for, x_whl, opK_v, cmpK_v, unK_v, idxK_v, slcK_v, revK_v, optK_v, isiK_v, boolK_t, boolK_f, notK_v, ifsK_t, ifsK_f, seqK_s, seqK_l, seqK_t, enumK_l, asgK_n, frz_v, pl_nil, pl_cons, fromP_ok, fromP_ex, Option.map_some, Option.map_none, List.getElem?_cons_zero, List.getElem?_cons_succ, List.set_cons_zero, List.set_cons_succ, Bool.not_true, Bool.not_false]
      rw [len]
      cases l with
      | nil => simp only [List.length_nil, List.map_nil, bnd_ok, bnd_ex, bnd_no, out_ok, out_ex, out_no, seq_nx, seq_rt, seq_ex, res_some, res_none, outR_rt, outR_nx, outR_ex, pureP_v, pureP_ex, see_v, ask_str, ask_int, ask_bl, ask_non, eqD_str, eqD_int, eqD_bl, eqD_non, e_var, varK_s, e_chain, chain_i, c2_lt, c2_le, c2_gt, c2_ge, c2_eqs, c2_nes, c2_eqi, c2_nei, c2_eqb, c2_neb, c2_in1, un_lens, un_lenl, un_lent, un_lenc, un_ii, un_ib, un_all, un_neg, un_n0, un_nt, un_nl, op_addi, op_subi, ix_l, ix_t, e_cst, e_op, e_cmp, e_un, e_and, e_or, e_not, e_ifx, e_tup, e_lst, e_new, e_frz, e_idx, e_slc, e_rev, e_call, e_callm, e_calln, e_make, e_attr, e_isi, e_pop0, e_lc, e_seq, e_enum, e_rng, e_nil, e_cons, e_no, e_opt, x_skip, x_seq, x_asg, x_par, x_app, x_ext, x_setI, x_ret, x_ifs, x_for, x_whl, opK_v, cmpK_v, unK_v, idxK_v, slcK_v, revK_v, optK_v, isiK_v, boolK_t, boolK_f, notK_v, ifsK_t, ifsK_f, seqK_s, seqK_l, seqK_t, enumK_l, asgK_n, frz_v, pl_nil, pl_cons, fromP_ok, fromP_ex, Option.map_some, Option.map_none, List.getElem?_cons_zero, List.getElem?_cons_succ, List.set_cons_zero, List.set_cons_succ, Bool.not_true, Bool.not_false]; rfl
      | cons b l =>
        have : (((b :: l).length : Int) + 1 == 1) = false := by rw [beq_eq_false_iff_ne]; simp; omega
        rw [this]
        simp only [bnd_ok, bnd_ex, bnd_no, out_ok, out_ex, out_no, seq_nx, seq_rt, seq_ex, res_some, res_none, outR_rt, outR_nx, outR_ex, pureP_v, pureP_ex, see_v, ask_str, ask_int, ask_bl, ask_non, eqD_str, eqD_int, eqD_bl, eqD_non, e_var, varK_s, e_chain, chain_i, c2_lt, c2_le, c2_gt, c2_ge, c2_eqs, c2_nes, c2_eqi, c2_nei, c2_eqb, c2_neb, c2_in1, un_lens, un_lenl, un_lent, un_lenc, un_ii, un_ib, un_all, un_neg, un_n0, un_nt, un_nl, op_addi, op_subi, ix_l, ix_t, e_cst, e_op, e_cmp, e_un, e_and, e_or, e_not, e_ifx, e_tup, e_lst, e_new, e_frz, e_idx, e_slc, e_rev, e_call, e_callm, e_calln, e_make, e_attr, e_isi, e_pop0, e_lc, e_seq, e_enum, e_rng, e_nil, e_cons, e_no, e_opt, x_skip, x_seq, x_asg, x_par, x_app, x_ext, x_setI, x_ret, x_ifs, x_for, x_whl, opK_v, cmpK_v, unK_v, idxK_v, slcK_v, revK_v, optK_v, isiK_v, boolK_t, boolK_f, notK_v, ifsK_t, ifsK_f, seqK_s, seqK_l, seqK_t, enumK_l, asgK_n, frz_v, pl_nil, pl_cons, fromP_ok, fromP_ex, Option.map_some, Option.map_none, List.getElem?_cons_zero, List.getElem?_cons_succ, List.set_cons_zero, List.set_cons_succ, Bool.not_true, Bool.not_false, List.map_cons, at1]
        have call2 : ∀ m, callK (C (n + 2)) ix.is_name [.v (.str b)] m = .ok (.v (.bl (isName b))) m := fun m => callK_ok rfl (is_name_ok h0 h1 k n b)
        cases l with
        | nil =>
          simp only [call2]
          rfl
        | cons c l =>
          have : (((b :: c :: l).length : Int) + 1 == 2) = false := by rw [beq_eq_false_iff_ne]; simp; omega
          rw [this]
          rfl
    have fin' := fin true
    simp only [bnd_ok, bnd_ex, bnd_no, out_ok, out_ex, out_no, seq_nx, seq_rt, seq_ex, res_some, res_none, outR_rt, outR_nx, outR_ex, pureP_v, pureP_ex, see_v, ask_str, ask_int, ask_bl, ask_non, eqD_str, eqD_int, eqD_bl, eqD_non, e_var, varK_s, e_chain, chain_i, c2_lt, c2_le, c2_gt, c2_ge, c2_eqs, c2_nes, c2_eqi, c2_nei, c2_eqb, c2_neb, c2_in1, un_lens, un_lenl, un_lent, un_lenc, un_ii, un_ib, un_all, un_neg, un_n0, un_nt, un_nl, op_addi, op_subi, ix_l, ix_t, e_cst, e_op, e_cmp, e_un, e_and, e_or, e_not, e_ifx, e_tup, e_lst, e_new, e_frz, e_idx, e_slc, e_rev, e_call, e_callm, e_calln, e_make, e_attr, e_isi, e_pop0, e_lc, e_seq, e_enum, e_rng, e_nil, e_cons, e_no, e_opt, x_skip, x_seq, x_asg, x_par, x_app, x_ext, x_setI, x_ret, x_ifs, x_for, x_whl, opK_v, cmpK_v, unK_v, idxK_v, slcK_v, revK_v, optK_v, isiK_v, boolK_t, boolK_f, notK_v, ifsK_t, ifsK_f, seqK_s, seqK_l, seqK_t, enumK_l, asgK_n, frz_v, pl_nil, pl_cons, fromP_ok, fromP_ex, Option.map_some, Option.map_none, List.getElem?_cons_zero, List.getElem?_cons_succ, List.set_cons_zero, List.set_cons_succ, Bool.not_true, Bool.not_false] at fin'
    cases hc : (a == [116, 104, 101, 114, 101]) with
    | true =>
      simp only [bnd_ok, bnd_ex, bnd_no, out_ok, out_ex, out_no, seq_nx, seq_rt, seq_ex, res_some, res_none, outR_rt, outR_nx, outR_ex, pureP_v, pureP_ex, see_v, ask_str, ask_int, ask_bl, ask_non, eqD_str, eqD_int, eqD_bl, eqD_non, e_var, varK_s, e_chain, chain_i, c2_lt, c2_le, c2_gt, c2_ge, c2_eqs, c2_nes, c2_eqi, c2_nei, c2_eqb, c2_neb, c2_in1, un_lens, un_lenl, un_lent, un_lenc, un_ii, un_ib, un_all, un_neg, un_n0, un_nt, un_nl, op_addi, op_subi, ix_l, ix_t, e_cst, e_op, e_cmp, e_un, e_and, e_or, e_not, e_ifx, e_tup, e_lst, e_new, e_frz, e_idx, e_slc, e_rev, e_call, e_callm, e_calln, e_make, e_attr, e_isi, e_pop0, e_lc, e_seq, e_enum, e_rng, e_nil, e_cons, e_no, e_opt, x_skip, x_seq, x_asg, x_par, x_app, x_ext, x_setI, x_ret, x_ifs, x_for, x_whl, opK_v, cmpK_v, unK_v, idxK_v, slcK_v, revK_v, optK_v, isiK_v, boolK_t, boolK_f, notK_v, ifsK_t, ifsK_f, seqK_s, seqK_l, seqK_t, enumK_l, asgK_n, frz_v, pl_nil, pl_cons, fromP_ok, fromP_ex, Option.map_some, Option.map_none, List.getElem?_cons_zero, List.getElem?_cons_succ, List.set_cons_zero, List.set_cons_succ, Bool.not_true, Bool.not_false, fin']
      rfl
    | false =>
      simp only [bnd_ok, bnd_ex, bnd_no, out_ok, out_ex, out_no, seq_nx, seq_rt, seq_ex, res_some, res_none, outR_rt, outR_nx, outR_ex, pureP_v, pureP_ex, see_v, ask_str, ask_int, ask_bl, ask_non, eqD_str, eqD_int, eqD_bl, eqD_non, e_var, varK_s, e_chain, chain_i, c2_lt, c2_le, c2_gt, c2_ge, c2_eqs, c2_nes, c2_eqi, c2_nei, c2_eqb, c2_neb, c2_in1, un_lens, un_lenl, un_lent, un_lenc, un_ii, un_ib, un_all, un_neg, un_n0, un_nt, un_nl, op_addi, op_subi, ix_l, ix_t, e_cst, e_op, e_cmp, e_un, e_and, e_or, e_not, e_ifx, e_tup, e_lst, e_new, e_frz, e_idx, e_slc, e_rev, e_call, e_callm, e_calln, e_make, e_attr, e_isi, e_pop0, e_lc, e_seq, e_enum, e_rng, e_nil, e_cons, e_no, e_opt, x_skip, x_seq, x_asg, x_par, x_app, x_ext, x_setI, x_ret, x_ifs, x_for, x_whl, opK_v, cmpK_v, unK_v, idxK_v, slcK_v, revK_v, optK_v, isiK_v, boolK_t, boolK_f, notK_v, ifsK_t, ifsK_f, seqK_s, seqK_l, seqK_t, enumK_l, asgK_n, frz_v, pl_nil, pl_cons, fromP_ok, fromP_ex, Option.map_some, Option.map_none, List.getElem?_cons_zero, List.getElem?_cons_succ, List.set_cons_zero, List.set_cons_succ, Bool.not_true, Bool.not_false, call1]
      cases hn : isName a with
      | true =>
        simp only [bnd_ok, bnd_ex, bnd_no, out_ok, out_ex, out_no, seq_nx, seq_rt, seq_ex, res_some, res_none, outR_rt, outR_nx, outR_ex, pureP_v, pureP_ex, see_v, ask_str, ask_int, ask_bl, ask_non, eqD_str, eqD_int, eqD_bl, eqD_non, e_var, varK_s, e_chain, chain_i, c2_lt, c2_le, c2_gt, c2_ge, c2_eqs, c2_nes, c2_eqi, c2_nei, c2_eqb, c2_neb, c2_in1, un_lens, un_lenl, un_lent, un_lenc, un_ii, un_ib, un_all, un_neg, un_n0, un_nt, un_nl, op_addi, op_subi, ix_l, ix_t, e_cst, e_op, e_cmp, e_un, e_and, e_or, e_not, e_ifx, e_tup, e_lst, e_new, e_frz, e_idx, e_slc, e_rev, e_call, e_callm, e_calln, e_make, e_attr, e_isi, e_pop0, e_lc, e_seq, e_enum, e_rng, e_nil, e_cons, e_no, e_opt, x_skip, x_seq, x_asg, x_par, x_app, x_ext, x_setI, x_ret, x_ifs, x_for, x_whl, opK_v, cmpK_v, unK_v, idxK_v, slcK_v, revK_v, optK_v, isiK_v, boolK_t, boolK_f, notK_v, ifsK_t, ifsK_f, seqK_s, seqK_l, seqK_t, enumK_l, asgK_n, frz_v, pl_nil, pl_cons, fromP_ok, fromP_ex, Option.map_some, Option.map_none, List.getElem?_cons_zero, List.getElem?_cons_succ, List.set_cons_zero, List.set_cons_succ, Bool.not_true, Bool.not_false, fin']
        rfl
      | false =>
        simp only [bnd_ok, bnd_ex, bnd_no, out_ok, out_ex, out_no, seq_nx, seq_rt, seq_ex, res_some, res_none, outR_rt, outR_nx, outR_ex, pureP_v, pureP_ex, see_v, ask_str, ask_int, ask_bl, ask_non, eqD_str, eqD_int, eqD_bl, eqD_non, e_var, varK_s, e_chain, chain_i, c2_lt, c2_le, c2_gt, c2_ge, c2_eqs, c2_nes, c2_eqi, c2_nei, c2_eqb, c2_neb, c2_in1, un_lens, un_lenl, un_lent, un_lenc, un_ii, un_ib, un_all, un_neg, un_n0, un_nt, un_nl, op_addi, op_subi, ix_l, ix_t, e_cst, e_op, e_cmp, e_un, e_and, e_or, e_not, e_ifx, e_tup, e_lst, e_new, e_frz, e_idx, e_slc, e_rev, e_call, e_callm, e_calln, e_make, e_attr, e_isi, e_pop0, e_lc, e_seq, e_enum, e_rng, e_nil, e_cons, e_no, e_opt, x_skip, x_seq, x_asg, x_par, x_app, x_ext, x_setI, x_ret, x_ifs, x_for, x_whl, opK_v, cmpK_v, unK_v, idxK_v, slcK_v, revK_v, optK_v, isiK_v, boolK_t, boolK_f, notK_v, ifsK_t, ifsK_f, seqK_s, seqK_l, seqK_t, enumK_l, asgK_n, frz_v, pl_nil, pl_cons, fromP_ok, fromP_ex, Option.map_some, Option.map_none, List.getElem?_cons_zero, List.getElem?_cons_succ, List.set_cons_zero, List.set_cons_succ, Bool.not_true, Bool.not_false]
        rfl
end
end At

/-! Trees of formulas; signs. -/
namespace At
open PySem
/-- k: and -/
inductive Tr where
  | word (w : List Nat) | all | none | not (t : Tr) | op (k : Bool) (ts : List Tr)
def wAnd : List Nat := [97, 110, 100]
def wOr : List Nat := [111, 114]
def wNot : List Nat := [110, 111, 116]
def wAll : List Nat := [97, 108, 108]
def wNone : List Nat := [110, 111, 110, 101]
def wWord : List Nat := [119, 111, 114, 100]
def kw (k : Bool) : List Nat := if k then wAnd else wOr
mutual
def toD : Tr → D
  | .word w => .tup [.str wWord, .str w]
  | .all => .tup [.str wAll]
  | .none => .tup [.str wNone]
  | .not t => .tup [.str wNot, toD t]
  | .op k ts => .tup [.str (kw k), .lst (toDs ts)]
def toDs : List Tr → List D
  | [] => []
  | t :: ts => toD t :: toDs ts
end
theorem toDs_map : ∀ ts : List Tr, toDs ts = ts.map toD
  | [] => rfl
  | t :: ts => by rw [toDs, toDs_map ts]; rfl
def kind : Tr → List Nat
  | .word _ => wWord
  | .all => wAll
  | .none => wNone
  | .not _ => wNot
  | .op k _ => kw k
theorem toD_tup (t : Tr) : ∃ l, toD t = .tup (.str (kind t) :: l) := by
  cases t with
  | word w => exact ⟨_, by rw [toD]; rfl⟩
  | all => exact ⟨_, by rw [toD]; rfl⟩
  | none => exact ⟨_, by rw [toD]; rfl⟩
  | not t => exact ⟨_, by rw [toD]; rfl⟩
  | op k ts => exact ⟨_, by rw [toD]; rfl⟩
theorem ixT0 (t : Tr) : idx2 (toD t) (.int 0) = some (.str (kind t)) := by
  obtain ⟨l, e⟩ := toD_tup t
  rw [e, ix_t, at0]
theorem ixT1 (k : Bool) (ts : List Tr) : idx2 (toD (.op k ts)) (.int 1) = some (.lst (ts.map toD)) := by rw [toD, ix_t, at1, toDs_map]
theorem ixTw (w : List Nat) : idx2 (toD (.word w)) (.int 1) = some (.str w) := by rw [toD, ix_t, at1]
theorem ixTn (t : Tr) : idx2 (toD (.not t)) (.int 1) = some (toD t) := by rw [toD, ix_t, at1]
/-- the parts of a tree within and | or -/
def inOp (k : Bool) : Tr → List Tr
  | .op k' ts => if k' = k then ts else [.op k' ts]
  | t => [t]
def treeOf (k : Bool) (ps : List Tr) : Tr := match ps.flatMap (inOp k) with
  | [t] => t
  | ts => .op k ts
theorem kind_op {k : Bool} {t : Tr} : (kind t == kw k) = true ↔ ∃ ts, t = .op k ts := by
  cases t with
  | word w => cases k <;> simp [kind, kw, wWord, wAnd, wOr]
  | all => cases k <;> simp [kind, kw, wAll, wAnd, wOr]
  | none => cases k <;> simp [kind, kw, wNone, wAnd, wOr]
  | not t => cases k <;> simp [kind, kw, wNot, wAnd, wOr]
  | op k' ts => cases k <;> cases k' <;> simp [kind, kw, wAnd, wOr]
section
variable {C : Nat → CE} {ix : Lb.Ix}
def cellT (ts : List Tr) : Mu := [.lst ((ts.map toD).map U.v)]
theorem see_cellT (ts : List Tr) : see (cellT ts) (.p 0) = some (.lst (ts.map toD)) := seeM_map _
theorem lstAt_cellT (ts : List Tr) : lstAt (cellT ts) (.p 0) = some 0 := rfl
theorem ext_cellT {ρ : Ro} (acc ws : List Tr) (h : acc.length + ws.length ≤ lim) : extK 0 ρ (.v (.lst (ws.map toD))) (cellT acc) = .nx ρ (cellT (acc ++ ws)) := by
  show (if ((acc.map toD).map U.v).length + (ws.map toD).length ≤ lim then O.nx ρ [.lst (((acc.map toD).map U.v) ++ (ws.map toD).map U.v)] else .no) = _
  rw [if_pos (by rw [List.length_map, List.length_map, List.length_map]; exact h)]
  unfold cellT
  rw [List.map_append, List.map_append]
theorem app_cellT {ρ : Ro} (acc : List Tr) (t : Tr) (h : acc.length < lim) : appK 0 ρ (.v (toD t)) (cellT acc) = .nx ρ (cellT (acc ++ [t])) := by
  show (if ((acc.map toD).map U.v).length < lim then O.nx ρ [.lst (((acc.map toD).map U.v) ++ [.v (toD t)])] else .no) = _
  rw [if_pos (by rw [List.length_map, List.length_map]; exact h)]
  unfold cellT
  rw [List.map_append, List.map_append]
  rfl
theorem fold_fst {α β γ : Type} (f : α → γ → α) (g : γ → β) : ∀ (ds : List γ) (a : α) (u : β), (ds.foldl (fun (s : α × β) d => (f s.1 d, g d)) (a, u)).1 = ds.foldl f a
  | [], _, _ => rfl
  | d :: ds, a, u => fold_fst f g ds (f a d) (g d)
theorem forL_tr {σ : Type} {f : D → Ro → Mu → O} (Rr : σ → Ro) (Mm : σ → Mu) (step : σ → Tr → σ) : ∀ (ts : List Tr) (s : σ), (∀ (pre : List Tr) (t : Tr) (post : List Tr), ts = pre ++ t :: post → f (toD t) (Rr (pre.foldl step s)) (Mm (pre.foldl step s)) = .nx (Rr (step (pre.foldl step s) t)) (Mm (step (pre.foldl step s) t))) →
    forL f (ts.map toD) (Rr s) (Mm s) = .nx (Rr (ts.foldl step s)) (Mm (ts.foldl step s))
  | [], _, _ => rfl
  | t :: ts, s, h => by
    have h0 : f (toD t) (Rr s) (Mm s) = .nx (Rr (step s t)) (Mm (step s t)) := h [] t ts rfl
    rw [List.map_cons, forL, h0]
    dsimp only [List.foldl]
    exact forL_tr Rr Mm step ts (step s t) fun pre e post q => h (t :: pre) e post (by rw [q]; rfl)
theorem fold_app {k : Bool} : ∀ (ps acc : List Tr), ps.foldl (fun a p => a ++ inOp k p) acc = acc ++ ps.flatMap (inOp k)
  | [], acc => by simp
  | p :: ps, acc => by
    rw [List.foldl_cons, fold_app ps, List.flatMap_cons, List.append_assoc]
theorem tree_of_ok (h : Fa C ix.tree_of (Lb.tree_of ix)) (n : Nat) (k : Bool) (ps : List Tr) (hne : ps.flatMap (inOp k) ≠ []) (hl : (ps.flatMap (inOp k)).length ≤ lim) : (C (n + 1)).fn ix.tree_of [.str (kw k), .lst (ps.map toD)] = .ok (toD (treeOf k ps)) := by
  rw [fn_of_fa h n _ rfl]
  show pureP (outR (xs (C n) (Lb.tree_of ix).body [some (.v (.str (kw k))), some (.v (.lst (ps.map toD))), none, none] [])) = _
  have nw : newK [] [] = .ok (.p 0) (cellT []) := by
    unfold newK
    rw [if_pos (by show 0 ≤ lim; exact Nat.zero_le _)]
    rfl
  unfold Lb.tree_of
  simp only [bnd_ok, bnd_ex, bnd_no, out_ok, out_ex, out_no, seq_nx, seq_rt, seq_ex, res_some, res_none, outR_rt, outR_nx, outR_ex, pureP_v, pureP_ex, see_v, ask_str, ask_int, ask_bl, ask_non, eqD_str, eqD_int, eqD_bl, eqD_non, e_var, varK_s, e_chain, chain_i, c2_lt, c2_le, c2_gt, c2_ge, c2_eqs, c2_nes, c2_eqi, c2_nei, c2_eqb, c2_neb, c2_in1, un_lens, un_lenl, un_lent, un_lenc, un_ii, un_ib, un_all, un_neg, un_n0, un_nt, un_nl, op_addi, op_subi, ix_l, ix_t, e_cst, e_op, e_cmp, e_un, e_and, e_or, e_not, e_ifx, e_tup, e_lst, e_new, e_frz, e_idx, e_slc, e_rev, e_call, e_callm, e_calln, e_make, e_attr, e_isi, e_pop0, e_lc, e_seq, e_enum, e_rng, e_nil, e_cons, e_no, e_opt, x_skip, x_seq, x_asg, x_par, x_app, x_ext, x_setI, x_ret, x_ifs, x_for, x_whl, opK_v, cmpK_v, unK_v, idxK_v, slcK_v, revK_v, optK_v, isiK_v, boolK_t, boolK_f, notK_v, ifsK_t, ifsK_f, seqK_s, seqK_l, seqK_t, enumK_l, asgK_n, frz_v, pl_nil, pl_cons, fromP_ok, fromP_ex, Option.map_some, Option.map_none, List.getElem?_cons_zero, List.getElem?_cons_succ, List.set_cons_zero, List.set_cons_succ, Bool.not_true, Bool.not_false, nw]
  rw [forL_tr (σ := List Tr × Option U) (fun s => [some (.v (.str (kw k))), some (.v (.lst (ps.map toD))), some (.p 0), s.2]) (fun s => cellT s.1) (fun s p => (s.1 ++ inOp k p, some (.v (toD p)))) ps ([], none) fun pre p post hd => ?_]
  · rw [fold_fst (fun a p => a ++ inOp k p) (fun p => some (U.v (toD p))), fold_app, List.nil_append]
    simp only [bnd_ok, bnd_ex, bnd_no, out_ok, out_ex, out_no, seq_nx, seq_rt, seq_ex, res_some, res_none, outR_rt, outR_nx, outR_ex, pureP_v, pureP_ex, see_v, ask_str, ask_int, ask_bl, ask_non, eqD_str, eqD_int, eqD_bl, eqD_non, e_var, varK_s, e_chain, chain_i, c2_lt, c2_le, c2_gt, c2_ge, c2_eqs, c2_nes, c2_eqi, c2_nei, c2_eqb, c2_neb, c2_in1, un_lens, un_lenl, un_lent, un_lenc, un_ii, un_ib, un_all, un_neg, un_n0, un_nt, un_nl, op_addi, op_subi, ix_l, ix_t, e_cst, e_op, e_cmp, e_un, e_and, e_or, e_not, e_ifx, e_tup, e_lst, e_new, e_frz, e_idx, e_slc, e_rev, e_call, e_callm, e_calln, e_make, e_attr, e_isi, e_pop0, e_lc, e_seq, e_enum, e_rng, e_nil, e_cons, e_no, e_opt, x_skip, x_seq, x_asg, x_par, x_app, x_ext, x_setI, x_ret, x_ifs, x_for, x_whl, opK_v, cmpK_v, unK_v, idxK_v, slcK_v, revK_v, optK_v, isiK_v, boolK_t, boolK_f, notK_v, ifsK_t, ifsK_f, seqK_s, seqK_l, seqK_t, enumK_l, asgK_n, frz_v, pl_nil, pl_cons, fromP_ok, fromP_ex, Option.map_some, Option.map_none, List.getElem?_cons_zero, List.getElem?_cons_succ, List.set_cons_zero, List.set_cons_succ, Bool.not_true, Bool.not_false]
    have un : ∀ ts : List Tr, unK .len (.p 0) (cellT ts) = .ok (.v (.int ts.length)) (cellT ts) := fun ts => by
      unfold unK
      rw [see_cellT]
      dsimp only
      rw [un_lenl, List.length_map]
      rfl
    rw [un]
    simp only [bnd_ok, bnd_ex, bnd_no, out_ok, out_ex, out_no, seq_nx, seq_rt, seq_ex, res_some, res_none, outR_rt, outR_nx, outR_ex, pureP_v, pureP_ex, see_v, ask_str, ask_int, ask_bl, ask_non, eqD_str, eqD_int, eqD_bl, eqD_non, e_var, varK_s, e_chain, chain_i, c2_lt, c2_le, c2_gt, c2_ge, c2_eqs, c2_nes, c2_eqi, c2_nei, c2_eqb, c2_neb, c2_in1, un_lens, un_lenl, un_lent, un_lenc, un_ii, un_ib, un_all, un_neg, un_n0, un_nt, un_nl, op_addi, op_subi, ix_l, ix_t, e_cst, e_op, e_cmp, e_un, e_and, e_or, e_not, e_ifx, e_tup, e_lst, e_new, e_frz, e_idx, e_slc, e_rev, e_call, e_callm, e_calln, e_make, e_attr, e_isi, e_pop0, e_lc, e_seq, e_enum, e_rng, e_nil, e_cons, e_no, e_opt, x_skip, x_seq, x_asg, x_par, x_app, x_ext, x_setI, x_ret, x_ifs, x_for, x_whl, opK_v, cmpK_v, unK_v, idxK_v, slcK_v, revK_v, optK_v, isiK_v, boolK_t, boolK_f, notK_v, ifsK_t, ifsK_f, seqK_s, seqK_l, seqK_t, enumK_l, asgK_n, frz_v, pl_nil, pl_cons, fromP_ok, fromP_ex, Option.map_some, Option.map_none, List.getElem?_cons_zero, List.getElem?_cons_succ, List.set_cons_zero, List.set_cons_succ, Bool.not_true, Bool.not_false]
    unfold treeOf
    cases hf : ps.flatMap (inOp k) with
    | nil => exact absurd hf hne
    | cons t ts =>
      cases ts with
      | nil =>
        simp only [List.length_cons, List.length_nil]
        have : idxK (.p 0) (.v (.int 0)) (cellT [t]) = .ok (.v (toD t)) (cellT [t]) := by
          unfold idxK
          rw [see_cellT, see_v]
          rfl
        show pureP (outR ((boolK _ (fun m => idxK (.p 0) (.v (.int 0)) m) (.v (.bl false)) (cellT [t])).out _ _)) = _
        rw [boolK_f, this]
        rfl
      | cons t2 ts =>
        have : decide ((1 : Int) < ((t :: t2 :: ts).length : Int)) = true := decide_eq_true (by simp; omega)
        rw [this]
        have fz : frzU (cellT (t :: t2 :: ts)) (.p 0) = .ok (.v (.lst ((t :: t2 :: ts).map toD))) [.fz (.lst ((t :: t2 :: ts).map toD))] := by
          show (match seeM (.lst (((t :: t2 :: ts).map toD).map U.v)) with
            | some d => R.ok (U.v d) [M.fz d]
            | none => .no) = _
          rw [seeM_map]
        simp only [bnd_ok, bnd_ex, bnd_no, out_ok, out_ex, out_no, seq_nx, seq_rt, seq_ex, res_some, res_none, outR_rt, outR_nx, outR_ex, pureP_v, pureP_ex, see_v, ask_str, ask_int, ask_bl, ask_non, eqD_str, eqD_int, eqD_bl, eqD_non, e_var, varK_s, e_chain, chain_i, c2_lt, c2_le, c2_gt, c2_ge, c2_eqs, c2_nes, c2_eqi, c2_nei, c2_eqb, c2_neb, c2_in1, un_lens, un_lenl, un_lent, un_lenc, un_ii, un_ib, un_all, un_neg, un_n0, un_nt, un_nl, op_addi, op_subi, ix_l, ix_t, e_cst, e_op, e_cmp, e_un, e_and, e_or, e_not, e_ifx, e_tup, e_lst, e_new, e_frz, e_idx, e_slc, e_rev, e_call, e_callm, e_calln, e_make, e_attr, e_isi, e_pop0, e_lc, e_seq, e_enum, e_rng, e_nil, e_cons, e_no, e_opt, x_skip, x_seq, x_asg, x_par, x_app, x_ext, x_setI, x_ret, x_ifs, x_for, x_whl, opK_v, cmpK_v, unK_v, idxK_v, slcK_v, revK_v, optK_v, isiK_v, boolK_t, boolK_f, notK_v, ifsK_t, ifsK_f, seqK_s, seqK_l, seqK_t, enumK_l, asgK_n, frz_v, pl_nil, pl_cons, fromP_ok, fromP_ex, Option.map_some, Option.map_none, List.getElem?_cons_zero, List.getElem?_cons_succ, List.set_cons_zero, List.set_cons_succ, Bool.not_true, Bool.not_false, fz]
        unfold tupK
        simp only [bnd_ok, bnd_ex, bnd_no, out_ok, out_ex, out_no, seq_nx, seq_rt, seq_ex, res_some, res_none, outR_rt, outR_nx, outR_ex, pureP_v, pureP_ex, see_v, ask_str, ask_int, ask_bl, ask_non, eqD_str, eqD_int, eqD_bl, eqD_non, e_var, varK_s, e_chain, chain_i, c2_lt, c2_le, c2_gt, c2_ge, c2_eqs, c2_nes, c2_eqi, c2_nei, c2_eqb, c2_neb, c2_in1, un_lens, un_lenl, un_lent, un_lenc, un_ii, un_ib, un_all, un_neg, un_n0, un_nt, un_nl, op_addi, op_subi, ix_l, ix_t, e_cst, e_op, e_cmp, e_un, e_and, e_or, e_not, e_ifx, e_tup, e_lst, e_new, e_frz, e_idx, e_slc, e_rev, e_call, e_callm, e_calln, e_make, e_attr, e_isi, e_pop0, e_lc, e_seq, e_enum, e_rng, e_nil, e_cons, e_no, e_opt, x_skip, x_seq, x_asg, x_par, x_app, x_ext, x_setI, x_ret, x_ifs, x_for, x_whl, opK_v, cmpK_v, unK_v, idxK_v, slcK_v, revK_v, optK_v, isiK_v, boolK_t, boolK_f, notK_v, ifsK_t, ifsK_f, seqK_s, seqK_l, seqK_t, enumK_l, asgK_n, frz_v, pl_nil, pl_cons, fromP_ok, fromP_ex, Option.map_some, Option.map_none, List.getElem?_cons_zero, List.getElem?_cons_succ, List.set_cons_zero, List.set_cons_succ, Bool.not_true, Bool.not_false]
        rw [if_pos (by show 2 ≤ lim; decide)]
        simp only [bnd_ok, bnd_ex, bnd_no, out_ok, out_ex, out_no, seq_nx, seq_rt, seq_ex, res_some, res_none, outR_rt, outR_nx, outR_ex, pureP_v, pureP_ex, see_v, ask_str, ask_int, ask_bl, ask_non, eqD_str, eqD_int, eqD_bl, eqD_non, e_var, varK_s, e_chain, chain_i, c2_lt, c2_le, c2_gt, c2_ge, c2_eqs, c2_nes, c2_eqi, c2_nei, c2_eqb, c2_neb, c2_in1, un_lens, un_lenl, un_lent, un_lenc, un_ii, un_ib, un_all, un_neg, un_n0, un_nt, un_nl, op_addi, op_subi, ix_l, ix_t, e_cst, e_op, e_cmp, e_un, e_and, e_or, e_not, e_ifx, e_tup, e_lst, e_new, e_frz, e_idx, e_slc, e_rev, e_call, e_callm, e_calln, e_make, e_attr, e_isi, e_pop0, e_lc, e_seq, e_enum, e_rng, e_nil, e_cons, e_no, e_opt, x_skip, x_seq, x_asg, x_par, x_app, x_ext, x_setI, x_ret, x_ifs, x_for, x_whl, opK_v, cmpK_v, unK_v, idxK_v, slcK_v, revK_v, optK_v, isiK_v, boolK_t, boolK_f, notK_v, ifsK_t, ifsK_f, seqK_s, seqK_l, seqK_t, enumK_l, asgK_n, frz_v, pl_nil, pl_cons, fromP_ok, fromP_ex, Option.map_some, Option.map_none, List.getElem?_cons_zero, List.getElem?_cons_succ, List.set_cons_zero, List.set_cons_succ, Bool.not_true, Bool.not_false]
        rw [toD, toDs_map]
  · rw [fold_fst (fun a p => a ++ inOp k p) (fun p => some (U.v (toD p))), fold_app, List.nil_append]
    generalize (List.foldl (fun (s : List Tr × Option U) p => (s.1 ++ inOp k p, some (U.v (toD p)))) ([], none) pre).2 = o
    have hlen : (pre.flatMap (inOp k)).length + (inOp k p).length ≤ lim := by
      rw [hd, List.flatMap_append, List.flatMap_cons, List.length_append, List.length_append] at hl
      omega
    unfold forK
    simp only [bindT, bnd_ok, bnd_ex, bnd_no, out_ok, out_ex, out_no, seq_nx, seq_rt, seq_ex, res_some, res_none, outR_rt, outR_nx, outR_ex, pureP_v, pureP_ex, see_v, ask_str, ask_int, ask_bl, ask_non, eqD_str, eqD_int, eqD_bl, eqD_non, e_var, varK_s, e_chain, chain_i, c2_lt, c2_le, c2_gt, c2_ge, c2_eqs, c2_nes, c2_eqi, c2_nei, c2_eqb, c2_neb, c2_in1, un_lens, un_lenl, un_lent, un_lenc, un_ii, un_ib, un_all, un_neg, un_n0, un_nt, un_nl, op_addi, op_subi, ix_l, ix_t, e_cst, e_op, e_cmp, e_un, e_and, e_or, e_not, e_ifx, e_tup, e_lst, e_new, e_frz, e_idx, e_slc, e_rev, e_call, e_callm, e_calln, e_make, e_attr, e_isi, e_pop0, e_lc, e_seq, e_enum, e_rng, e_nil, e_cons, e_no, e_opt, x_skip, x_seq, x_asg, x_par, x_app, x_ext, x_setI, x_ret, x_ifs, x_for, x_whl, opK_v, cmpK_v, unK_v, idxK_v, slcK_v, revK_v, optK_v, isiK_v, boolK_t, boolK_f, notK_v, ifsK_t, ifsK_f, seqK_s, seqK_l, seqK_t, enumK_l, asgK_n, frz_v, pl_nil, pl_cons, fromP_ok, fromP_ex, Option.map_some, Option.map_none, List.getElem?_cons_zero, List.getElem?_cons_succ, List.set_cons_zero, List.set_cons_succ, Bool.not_true, Bool.not_false, ixT0, lstAt_cellT]
    cases hk : (kind p == kw k) with
    | true =>
      obtain ⟨ts, rfl⟩ := kind_op.mp hk
      have e1 : inOp k (.op k ts) = ts := if_pos rfl
      rw [e1] at hlen ⊢
      simp only [bnd_ok, bnd_ex, bnd_no, out_ok, out_ex, out_no, seq_nx, seq_rt, seq_ex, res_some, res_none, outR_rt, outR_nx, outR_ex, pureP_v, pureP_ex, see_v, ask_str, ask_int, ask_bl, ask_non, eqD_str, eqD_int, eqD_bl, eqD_non, e_var, varK_s, e_chain, chain_i, c2_lt, c2_le, c2_gt, c2_ge, c2_eqs, c2_nes, c2_eqi, c2_nei, c2_eqb, c2_neb, c2_in1, un_lens, un_lenl, un_lent, un_lenc, un_ii, un_ib, un_all, un_neg, un_n0, un_nt, un_nl, op_addi, op_subi, ix_l, ix_t, e_cst, e_op, e_cmp, e_un, e_and, e_or, e_not, e_ifx, e_tup, e_lst, e_new, e_frz, e_idx, e_slc, e_rev, e_call, e_callm, e_calln, e_make, e_attr, e_isi, e_pop0, e_lc, e_seq, e_enum, e_rng, e_nil, e_cons, e_no, e_opt, x_skip, x_seq, x_asg, x_par, x_app, x_ext, x_setI, x_ret, x_ifs, x_for, x_whl, opK_v, cmpK_v, unK_v, idxK_v, slcK_v, revK_v, optK_v, isiK_v, boolK_t, boolK_f, notK_v, ifsK_t, ifsK_f, seqK_s, seqK_l, seqK_t, enumK_l, asgK_n, frz_v, pl_nil, pl_cons, fromP_ok, fromP_ex, Option.map_some, Option.map_none, List.getElem?_cons_zero, List.getElem?_cons_succ, List.set_cons_zero, List.set_cons_succ, Bool.not_true, Bool.not_false, ixT1]
      rw [ext_cellT _ _ hlen]
    | false =>
      have e1 : inOp k p = [p] := by
        cases p with
        | op k' ts =>
          refine if_neg fun e => ?_
          subst e
          rw [kind_op.mpr ⟨ts, rfl⟩] at hk
          cases hk
        | _ => rfl
      rw [e1] at hlen ⊢
      simp only [bnd_ok, bnd_ex, bnd_no, out_ok, out_ex, out_no, seq_nx, seq_rt, seq_ex, res_some, res_none, outR_rt, outR_nx, outR_ex, pureP_v, pureP_ex, see_v, ask_str, ask_int, ask_bl, ask_non, eqD_str, eqD_int, eqD_bl, eqD_non, e_var, varK_s, e_chain, chain_i, c2_lt, c2_le, c2_gt, c2_ge, c2_eqs, c2_nes, c2_eqi, c2_nei, c2_eqb, c2_neb, c2_in1, un_lens, un_lenl, un_lent, un_lenc, un_ii, un_ib, un_all, un_neg, un_n0, un_nt, un_nl, op_addi, op_subi, ix_l, ix_t, e_cst, e_op, e_cmp, e_un, e_and, e_or, e_not, e_ifx, e_tup, e_lst, e_new, e_frz, e_idx, e_slc, e_rev, e_call, e_callm, e_calln, e_make, e_attr, e_isi, e_pop0, e_lc, e_seq, e_enum, e_rng, e_nil, e_cons, e_no, e_opt, x_skip, x_seq, x_asg, x_par, x_app, x_ext, x_setI, x_ret, x_ifs, x_for, x_whl, opK_v, cmpK_v, unK_v, idxK_v, slcK_v, revK_v, optK_v, isiK_v, boolK_t, boolK_f, notK_v, ifsK_t, ifsK_f, seqK_s, seqK_l, seqK_t, enumK_l, asgK_n, frz_v, pl_nil, pl_cons, fromP_ok, fromP_ex, Option.map_some, Option.map_none, List.getElem?_cons_zero, List.getElem?_cons_succ, List.set_cons_zero, List.set_cons_succ, Bool.not_true, Bool.not_false]
      unfold lstK
      simp only [bnd_ok, bnd_ex, bnd_no, out_ok, out_ex, out_no, seq_nx, seq_rt, seq_ex, res_some, res_none, outR_rt, outR_nx, outR_ex, pureP_v, pureP_ex, see_v, ask_str, ask_int, ask_bl, ask_non, eqD_str, eqD_int, eqD_bl, eqD_non, e_var, varK_s, e_chain, chain_i, c2_lt, c2_le, c2_gt, c2_ge, c2_eqs, c2_nes, c2_eqi, c2_nei, c2_eqb, c2_neb, c2_in1, un_lens, un_lenl, un_lent, un_lenc, un_ii, un_ib, un_all, un_neg, un_n0, un_nt, un_nl, op_addi, op_subi, ix_l, ix_t, e_cst, e_op, e_cmp, e_un, e_and, e_or, e_not, e_ifx, e_tup, e_lst, e_new, e_frz, e_idx, e_slc, e_rev, e_call, e_callm, e_calln, e_make, e_attr, e_isi, e_pop0, e_lc, e_seq, e_enum, e_rng, e_nil, e_cons, e_no, e_opt, x_skip, x_seq, x_asg, x_par, x_app, x_ext, x_setI, x_ret, x_ifs, x_for, x_whl, opK_v, cmpK_v, unK_v, idxK_v, slcK_v, revK_v, optK_v, isiK_v, boolK_t, boolK_f, notK_v, ifsK_t, ifsK_f, seqK_s, seqK_l, seqK_t, enumK_l, asgK_n, frz_v, pl_nil, pl_cons, fromP_ok, fromP_ex, Option.map_some, Option.map_none, List.getElem?_cons_zero, List.getElem?_cons_succ, List.set_cons_zero, List.set_cons_succ, Bool.not_true, Bool.not_false]
      rw [if_pos (by show 1 ≤ lim; decide)]
      simp only [bnd_ok, bnd_ex, bnd_no, out_ok, out_ex, out_no, seq_nx, seq_rt, seq_ex, res_some, res_none, outR_rt, outR_nx, outR_ex, pureP_v, pureP_ex, see_v, ask_str, ask_int, ask_bl, ask_non, eqD_str, eqD_int, eqD_bl, eqD_non, e_var, varK_s, e_chain, chain_i, c2_lt, c2_le, c2_gt, c2_ge, c2_eqs, c2_nes, c2_eqi, c2_nei, c2_eqb, c2_neb, c2_in1, un_lens, un_lenl, un_lent, un_lenc, un_ii, un_ib, un_all, un_neg, un_n0, un_nt, un_nl, op_addi, op_subi, ix_l, ix_t, e_cst, e_op, e_cmp, e_un, e_and, e_or, e_not, e_ifx, e_tup, e_lst, e_new, e_frz, e_idx, e_slc, e_rev, e_call, e_callm, e_calln, e_make, e_attr, e_isi, e_pop0, e_lc, e_seq, e_enum, e_rng, e_nil, e_cons, e_no, e_opt, x_skip, x_seq, x_asg, x_par, x_app, x_ext, x_setI, x_ret, x_ifs, x_for, x_whl, opK_v, cmpK_v, unK_v, idxK_v, slcK_v, revK_v, optK_v, isiK_v, boolK_t, boolK_f, notK_v, ifsK_t, ifsK_f, seqK_s, seqK_l, seqK_t, enumK_l, asgK_n, frz_v, pl_nil, pl_cons, fromP_ok, fromP_ex, Option.map_some, Option.map_none, List.getElem?_cons_zero, List.getElem?_cons_succ, List.set_cons_zero, List.set_cons_succ, Bool.not_true, Bool.not_false]
      exact ext_cellT _ [p] hlen
end
end At

/-! Signs of a text. -/
namespace At
open PySem
section
variable {C : Nat → CE} {ix : Lb.Ix}
def isSp (c : Nat) : Bool := c == 40 || (c == 41 || c == 32)
theorem signs_of_ok (h : Fa C ix.signs_of (Lb.signs_of ix)) (n : Nat) (x : List Nat) (hx : 3 * x.length + 3 ≤ lim) : (C (n + 1)).fn ix.signs_of [.str x] = .ok (.lst ((signsOf x).map D.str)) := by
  rw [fn_of_fa h n _ rfl]
  show pureP (outR (xs (C n) (Lb.signs_of ix).body [some (.v (.str x)), none, none] [])) = _
  have nw : newK [.v (.str [])] [] = .ok (.p 0) (cellS [[]]) := by
    unfold newK
    rw [if_pos (by show 1 ≤ lim; decide)]
    rfl
  unfold Lb.signs_of
  simp only [bnd_ok, bnd_ex, bnd_no, out_ok, out_ex, out_no, seq_nx, seq_rt, seq_ex, res_some, res_none, outR_rt, outR_nx, outR_ex, pureP_v, pureP_ex, see_v, ask_str, ask_int, ask_bl, ask_non, eqD_str, eqD_int, eqD_bl, eqD_non, e_var, varK_s, e_chain, chain_i, c2_lt, c2_le, c2_gt, c2_ge, c2_eqs, c2_nes, c2_eqi, c2_nei, c2_eqb, c2_neb, c2_in1, un_lens, un_lenl, un_lent, un_lenc, un_ii, un_ib, un_all, un_neg, un_n0, un_nt, un_nl, op_addi, op_subi, ix_l, ix_t, e_cst, e_op, e_cmp, e_un, e_and, e_or, e_not, e_ifx, e_tup, e_lst, e_new, e_frz, e_idx, e_slc, e_rev, e_call, e_callm, e_calln, e_make, e_attr, e_isi, e_pop0, e_lc, e_seq, e_enum, e_rng, e_nil, e_cons, e_no, e_opt, x_skip, x_seq, x_asg, x_par, x_app, x_ext, x_setI, x_ret, x_ifs, x_for, x_whl, opK_v, cmpK_v, unK_v, idxK_v, slcK_v, revK_v, optK_v, isiK_v, boolK_t, boolK_f, notK_v, ifsK_t, ifsK_f, seqK_s, seqK_l, seqK_t, enumK_l, asgK_n, frz_v, pl_nil, pl_cons, fromP_ok, fromP_ex, Option.map_some, Option.map_none, List.getElem?_cons_zero, List.getElem?_cons_succ, List.set_cons_zero, List.set_cons_succ, Bool.not_true, Bool.not_false, nw]
  rw [forL_fold (σ := List (List Nat) × Option U) (fun s => [some (.v (.str x)), some (.p 0), s.2]) (fun s => cellS s.1) (fun s d => (signStep s.1 (code d), some (.v d))) (x.map fun c => .str [c]) ([[]], none) fun pre d post hd => ?_]
  · rw [fold_pair signStep, fold_code]
    generalize (List.foldl (fun (s : List (List Nat) × Option U) d => (signStep s.1 (code d), some (U.v d))) ([[]], none) (x.map fun c => D.str [c])).2 = o
    unfold signsOf
    generalize x.foldl signStep [[]] = acc
    have fz : frzU (cellS acc) (.p 0) = .ok (.v (.lst (acc.map D.str))) [.fz (.lst (acc.map D.str))] := by
      show (match seeM (.lst ((acc.map D.str).map U.v)) with
        | some d => R.ok (U.v d) [M.fz d]
        | none => .no) = _
      rw [seeM_map]
    simp only [bnd_ok, bnd_ex, bnd_no, out_ok, out_ex, out_no, seq_nx, seq_rt, seq_ex, res_some, res_none, outR_rt, outR_nx, outR_ex, pureP_v, pureP_ex, see_v, ask_str, ask_int, ask_bl, ask_non, eqD_str, eqD_int, eqD_bl, eqD_non, e_var, varK_s, e_chain, chain_i, c2_lt, c2_le, c2_gt, c2_ge, c2_eqs, c2_nes, c2_eqi, c2_nei, c2_eqb, c2_neb, c2_in1, un_lens, un_lenl, un_lent, un_lenc, un_ii, un_ib, un_all, un_neg, un_n0, un_nt, un_nl, op_addi, op_subi, ix_l, ix_t, e_cst, e_op, e_cmp, e_un, e_and, e_or, e_not, e_ifx, e_tup, e_lst, e_new, e_frz, e_idx, e_slc, e_rev, e_call, e_callm, e_calln, e_make, e_attr, e_isi, e_pop0, e_lc, e_seq, e_enum, e_rng, e_nil, e_cons, e_no, e_opt, x_skip, x_seq, x_asg, x_par, x_app, x_ext, x_setI, x_ret, x_ifs, x_for, x_whl, opK_v, cmpK_v, unK_v, idxK_v, slcK_v, revK_v, optK_v, isiK_v, boolK_t, boolK_f, notK_v, ifsK_t, ifsK_f, seqK_s, seqK_l, seqK_t, enumK_l, asgK_n, frz_v, pl_nil, pl_cons, fromP_ok, fromP_ex, Option.map_some, Option.map_none, List.getElem?_cons_zero, List.getElem?_cons_succ, List.set_cons_zero, List.set_cons_succ, Bool.not_true, Bool.not_false, fz]
    rw [lcL_filter (q := fun d => match d with
      | .str s => !(s == [])
      | _ => false) (g := fun d => d) fun d hd => ?_]
    · simp only [bnd_ok, bnd_ex, bnd_no, out_ok, out_ex, out_no, seq_nx, seq_rt, seq_ex, res_some, res_none, outR_rt, outR_nx, outR_ex, pureP_v, pureP_ex, see_v, ask_str, ask_int, ask_bl, ask_non, eqD_str, eqD_int, eqD_bl, eqD_non, e_var, varK_s, e_chain, chain_i, c2_lt, c2_le, c2_gt, c2_ge, c2_eqs, c2_nes, c2_eqi, c2_nei, c2_eqb, c2_neb, c2_in1, un_lens, un_lenl, un_lent, un_lenc, un_ii, un_ib, un_all, un_neg, un_n0, un_nt, un_nl, op_addi, op_subi, ix_l, ix_t, e_cst, e_op, e_cmp, e_un, e_and, e_or, e_not, e_ifx, e_tup, e_lst, e_new, e_frz, e_idx, e_slc, e_rev, e_call, e_callm, e_calln, e_make, e_attr, e_isi, e_pop0, e_lc, e_seq, e_enum, e_rng, e_nil, e_cons, e_no, e_opt, x_skip, x_seq, x_asg, x_par, x_app, x_ext, x_setI, x_ret, x_ifs, x_for, x_whl, opK_v, cmpK_v, unK_v, idxK_v, slcK_v, revK_v, optK_v, isiK_v, boolK_t, boolK_f, notK_v, ifsK_t, ifsK_f, seqK_s, seqK_l, seqK_t, enumK_l, asgK_n, frz_v, pl_nil, pl_cons, fromP_ok, fromP_ex, Option.map_some, Option.map_none, List.getElem?_cons_zero, List.getElem?_cons_succ, List.set_cons_zero, List.set_cons_succ, Bool.not_true, Bool.not_false, List.map_id']
      rw [List.filter_map]
      rfl
    · obtain ⟨s, _, rfl⟩ := List.mem_map.mp hd
      unfold lcStep
      simp only [wipeR, bindT, bnd_ok, bnd_ex, bnd_no, out_ok, out_ex, out_no, seq_nx, seq_rt, seq_ex, res_some, res_none, outR_rt, outR_nx, outR_ex, pureP_v, pureP_ex, see_v, ask_str, ask_int, ask_bl, ask_non, eqD_str, eqD_int, eqD_bl, eqD_non, e_var, varK_s, e_chain, chain_i, c2_lt, c2_le, c2_gt, c2_ge, c2_eqs, c2_nes, c2_eqi, c2_nei, c2_eqb, c2_neb, c2_in1, un_lens, un_lenl, un_lent, un_lenc, un_ii, un_ib, un_all, un_neg, un_n0, un_nt, un_nl, op_addi, op_subi, ix_l, ix_t, e_cst, e_op, e_cmp, e_un, e_and, e_or, e_not, e_ifx, e_tup, e_lst, e_new, e_frz, e_idx, e_slc, e_rev, e_call, e_callm, e_calln, e_make, e_attr, e_isi, e_pop0, e_lc, e_seq, e_enum, e_rng, e_nil, e_cons, e_no, e_opt, x_skip, x_seq, x_asg, x_par, x_app, x_ext, x_setI, x_ret, x_ifs, x_for, x_whl, opK_v, cmpK_v, unK_v, idxK_v, slcK_v, revK_v, optK_v, isiK_v, boolK_t, boolK_f, notK_v, ifsK_t, ifsK_f, seqK_s, seqK_l, seqK_t, enumK_l, asgK_n, frz_v, pl_nil, pl_cons, fromP_ok, fromP_ex, Option.map_some, Option.map_none, List.getElem?_cons_zero, List.getElem?_cons_succ, List.set_cons_zero, List.set_cons_succ, Bool.not_true, Bool.not_false]
      cases s with
      | nil => rfl
      | cons a s => rfl
  · obtain ⟨a, b, e, e1, e2⟩ := List.map_eq_append_iff.mp hd
    obtain ⟨c, b', rfl, rfl, e3⟩ := List.map_eq_cons_iff.mp e2
    rw [fold_pair signStep, ← e1, fold_code]
    have sh := short_sign a short0
    have hl : a.length ≤ x.length := by rw [e]; simp
    generalize hacc : a.foldl signStep [[]] = acc at sh
    have sl := sh.len
    show forK (C n) _ _ (.str [c]) [some (.v (.str x)), some (.p 0), _] (cellS acc) = .nx [some (.v (.str x)), some (.p 0), some (.v (.str [c]))] (cellS (signStep acc c))
    generalize (List.foldl (fun (s : List (List Nat) × Option U) d => (signStep s.1 (code d), some (U.v d))) ([[]], none) (a.map fun c => D.str [c])).2 = o
    have tk : ∀ m, tupK [.v (.str [40]), .v (.str [41]), .v (.str [32])] m = .ok (.v (.tup ([[40], [41], [32]].map D.str))) m := fun m => by
      unfold tupK
      simp only [bnd_ok, bnd_ex, bnd_no, out_ok, out_ex, out_no, seq_nx, seq_rt, seq_ex, res_some, res_none, outR_rt, outR_nx, outR_ex, pureP_v, pureP_ex, see_v, ask_str, ask_int, ask_bl, ask_non, eqD_str, eqD_int, eqD_bl, eqD_non, e_var, varK_s, e_chain, chain_i, c2_lt, c2_le, c2_gt, c2_ge, c2_eqs, c2_nes, c2_eqi, c2_nei, c2_eqb, c2_neb, c2_in1, un_lens, un_lenl, un_lent, un_lenc, un_ii, un_ib, un_all, un_neg, un_n0, un_nt, un_nl, op_addi, op_subi, ix_l, ix_t, e_cst, e_op, e_cmp, e_un, e_and, e_or, e_not, e_ifx, e_tup, e_lst, e_new, e_frz, e_idx, e_slc, e_rev, e_call, e_callm, e_calln, e_make, e_attr, e_isi, e_pop0, e_lc, e_seq, e_enum, e_rng, e_nil, e_cons, e_no, e_opt, x_skip, x_seq, x_asg, x_par, x_app, x_ext, x_setI, x_ret, x_ifs, x_for, x_whl, opK_v, cmpK_v, unK_v, idxK_v, slcK_v, revK_v, optK_v, isiK_v, boolK_t, boolK_f, notK_v, ifsK_t, ifsK_f, seqK_s, seqK_l, seqK_t, enumK_l, asgK_n, frz_v, pl_nil, pl_cons, fromP_ok, fromP_ex, Option.map_some, Option.map_none, List.getElem?_cons_zero, List.getElem?_cons_succ, List.set_cons_zero, List.set_cons_succ, Bool.not_true, Bool.not_false]
      rw [if_pos (by show 3 ≤ lim; decide)]
      rfl
    unfold forK
    simp only [bindT, bnd_ok, bnd_ex, bnd_no, out_ok, out_ex, out_no, seq_nx, seq_rt, seq_ex, res_some, res_none, outR_rt, outR_nx, outR_ex, pureP_v, pureP_ex, see_v, ask_str, ask_int, ask_bl, ask_non, eqD_str, eqD_int, eqD_bl, eqD_non, e_var, varK_s, e_chain, chain_i, c2_lt, c2_le, c2_gt, c2_ge, c2_eqs, c2_nes, c2_eqi, c2_nei, c2_eqb, c2_neb, c2_in1, un_lens, un_lenl, un_lent, un_lenc, un_ii, un_ib, un_all, un_neg, un_n0, un_nt, un_nl, op_addi, op_subi, ix_l, ix_t, e_cst, e_op, e_cmp, e_un, e_and, e_or, e_not, e_ifx, e_tup, e_lst, e_new, e_frz, e_idx, e_slc, e_rev, e_call, e_callm, e_calln, e_make, e_attr, e_isi, e_pop0, e_lc, e_seq, e_enum, e_rng, e_nil, e_cons, e_no, e_opt, x_skip, x_seq, x_asg, x_par, x_app, x_ext, x_setI, x_ret, x_ifs, x_for, x_whl, opK_v, cmpK_v, unK_v, idxK_v, slcK_v, revK_v, optK_v, isiK_v, boolK_t, boolK_f, notK_v, ifsK_t, ifsK_f, seqK_s, seqK_l, seqK_t, enumK_l, asgK_n, frz_v, pl_nil, pl_cons, fromP_ok, fromP_ex, Option.map_some, Option.map_none, List.getElem?_cons_zero, List.getElem?_cons_succ, List.set_cons_zero, List.set_cons_succ, Bool.not_true, Bool.not_false, tk, c2_int]
    by_cases c0 : c = 40 ∨ c = 41 ∨ c = 32
    · have : ([[40], [41], [32]] : List (List Nat)).contains [c] = true := by
        rcases c0 with rfl | rfl | rfl <;> rfl
      rw [this]
      have lk : ∀ m, lstK [.v (.str [c]), .v (.str [])] m = .ok (.v (.lst ([[c], []].map D.str))) m := fun m => by
        unfold lstK
        simp only [bnd_ok, bnd_ex, bnd_no, out_ok, out_ex, out_no, seq_nx, seq_rt, seq_ex, res_some, res_none, outR_rt, outR_nx, outR_ex, pureP_v, pureP_ex, see_v, ask_str, ask_int, ask_bl, ask_non, eqD_str, eqD_int, eqD_bl, eqD_non, e_var, varK_s, e_chain, chain_i, c2_lt, c2_le, c2_gt, c2_ge, c2_eqs, c2_nes, c2_eqi, c2_nei, c2_eqb, c2_neb, c2_in1, un_lens, un_lenl, un_lent, un_lenc, un_ii, un_ib, un_all, un_neg, un_n0, un_nt, un_nl, op_addi, op_subi, ix_l, ix_t, e_cst, e_op, e_cmp, e_un, e_and, e_or, e_not, e_ifx, e_tup, e_lst, e_new, e_frz, e_idx, e_slc, e_rev, e_call, e_callm, e_calln, e_make, e_attr, e_isi, e_pop0, e_lc, e_seq, e_enum, e_rng, e_nil, e_cons, e_no, e_opt, x_skip, x_seq, x_asg, x_par, x_app, x_ext, x_setI, x_ret, x_ifs, x_for, x_whl, opK_v, cmpK_v, unK_v, idxK_v, slcK_v, revK_v, optK_v, isiK_v, boolK_t, boolK_f, notK_v, ifsK_t, ifsK_f, seqK_s, seqK_l, seqK_t, enumK_l, asgK_n, frz_v, pl_nil, pl_cons, fromP_ok, fromP_ex, Option.map_some, Option.map_none, List.getElem?_cons_zero, List.getElem?_cons_succ, List.set_cons_zero, List.set_cons_succ, Bool.not_true, Bool.not_false]
        rw [if_pos (by show 2 ≤ lim; decide)]
        rfl
      simp only [bnd_ok, bnd_ex, bnd_no, out_ok, out_ex, out_no, seq_nx, seq_rt, seq_ex, res_some, res_none, outR_rt, outR_nx, outR_ex, pureP_v, pureP_ex, see_v, ask_str, ask_int, ask_bl, ask_non, eqD_str, eqD_int, eqD_bl, eqD_non, e_var, varK_s, e_chain, chain_i, c2_lt, c2_le, c2_gt, c2_ge, c2_eqs, c2_nes, c2_eqi, c2_nei, c2_eqb, c2_neb, c2_in1, un_lens, un_lenl, un_lent, un_lenc, un_ii, un_ib, un_all, un_neg, un_n0, un_nt, un_nl, op_addi, op_subi, ix_l, ix_t, e_cst, e_op, e_cmp, e_un, e_and, e_or, e_not, e_ifx, e_tup, e_lst, e_new, e_frz, e_idx, e_slc, e_rev, e_call, e_callm, e_calln, e_make, e_attr, e_isi, e_pop0, e_lc, e_seq, e_enum, e_rng, e_nil, e_cons, e_no, e_opt, x_skip, x_seq, x_asg, x_par, x_app, x_ext, x_setI, x_ret, x_ifs, x_for, x_whl, opK_v, cmpK_v, unK_v, idxK_v, slcK_v, revK_v, optK_v, isiK_v, boolK_t, boolK_f, notK_v, ifsK_t, ifsK_f, seqK_s, seqK_l, seqK_t, enumK_l, asgK_n, frz_v, pl_nil, pl_cons, fromP_ok, fromP_ex, Option.map_some, Option.map_none, List.getElem?_cons_zero, List.getElem?_cons_succ, List.set_cons_zero, List.set_cons_succ, Bool.not_true, Bool.not_false, lstAt_cellS, lk]
      rw [ext_cellS acc [[c], []] (by simp; omega)]
      unfold signStep
      rw [if_pos c0]
    · have : ([[40], [41], [32]] : List (List Nat)).contains [c] = false := by
        simp at c0 ⊢
        exact c0
      rw [this]
      obtain ⟨r, t, rfl⟩ := snoc_of sh.ne
      have tl := sh.last t (by simp)
      simp only [bnd_ok, bnd_ex, bnd_no, out_ok, out_ex, out_no, seq_nx, seq_rt, seq_ex, res_some, res_none, outR_rt, outR_nx, outR_ex, pureP_v, pureP_ex, see_v, ask_str, ask_int, ask_bl, ask_non, eqD_str, eqD_int, eqD_bl, eqD_non, e_var, varK_s, e_chain, chain_i, c2_lt, c2_le, c2_gt, c2_ge, c2_eqs, c2_nes, c2_eqi, c2_nei, c2_eqb, c2_neb, c2_in1, un_lens, un_lenl, un_lent, un_lenc, un_ii, un_ib, un_all, un_neg, un_n0, un_nt, un_nl, op_addi, op_subi, ix_l, ix_t, e_cst, e_op, e_cmp, e_un, e_and, e_or, e_not, e_ifx, e_tup, e_lst, e_new, e_frz, e_idx, e_slc, e_rev, e_call, e_callm, e_calln, e_make, e_attr, e_isi, e_pop0, e_lc, e_seq, e_enum, e_rng, e_nil, e_cons, e_no, e_opt, x_skip, x_seq, x_asg, x_par, x_app, x_ext, x_setI, x_ret, x_ifs, x_for, x_whl, opK_v, cmpK_v, unK_v, idxK_v, slcK_v, revK_v, optK_v, isiK_v, boolK_t, boolK_f, notK_v, ifsK_t, ifsK_f, seqK_s, seqK_l, seqK_t, enumK_l, asgK_n, frz_v, pl_nil, pl_cons, fromP_ok, fromP_ex, Option.map_some, Option.map_none, List.getElem?_cons_zero, List.getElem?_cons_succ, List.set_cons_zero, List.set_cons_succ, Bool.not_true, Bool.not_false, idx_cellS]
      rw [op_adds t [c] (by simp; omega)]
      simp only [bnd_ok, bnd_ex, bnd_no, out_ok, out_ex, out_no, seq_nx, seq_rt, seq_ex, res_some, res_none, outR_rt, outR_nx, outR_ex, pureP_v, pureP_ex, see_v, ask_str, ask_int, ask_bl, ask_non, eqD_str, eqD_int, eqD_bl, eqD_non, e_var, varK_s, e_chain, chain_i, c2_lt, c2_le, c2_gt, c2_ge, c2_eqs, c2_nes, c2_eqi, c2_nei, c2_eqb, c2_neb, c2_in1, un_lens, un_lenl, un_lent, un_lenc, un_ii, un_ib, un_all, un_neg, un_n0, un_nt, un_nl, op_addi, op_subi, ix_l, ix_t, e_cst, e_op, e_cmp, e_un, e_and, e_or, e_not, e_ifx, e_tup, e_lst, e_new, e_frz, e_idx, e_slc, e_rev, e_call, e_callm, e_calln, e_make, e_attr, e_isi, e_pop0, e_lc, e_seq, e_enum, e_rng, e_nil, e_cons, e_no, e_opt, x_skip, x_seq, x_asg, x_par, x_app, x_ext, x_setI, x_ret, x_ifs, x_for, x_whl, opK_v, cmpK_v, unK_v, idxK_v, slcK_v, revK_v, optK_v, isiK_v, boolK_t, boolK_f, notK_v, ifsK_t, ifsK_f, seqK_s, seqK_l, seqK_t, enumK_l, asgK_n, frz_v, pl_nil, pl_cons, fromP_ok, fromP_ex, Option.map_some, Option.map_none, List.getElem?_cons_zero, List.getElem?_cons_succ, List.set_cons_zero, List.set_cons_succ, Bool.not_true, Bool.not_false, setI_cellS]
      unfold signStep
      rw [if_neg c0, grow_snoc]
end
/-! ### a text of signs is read as these signs -/
def isSpT (s : List Nat) : Bool := match s with
  | [c] => isSp c
  | _ => false
def wordT (s : List Nat) : Bool := !s.isEmpty && s.all fun c => !isSp c
/-- brackets, blanks and words, no two words side by side -/
inductive TokOk : List (List Nat) → Prop
  | nil : TokOk []
  | sp {s : List Nat} {r : List (List Nat)} : isSpT s = true → TokOk r → TokOk (s :: r)
  | wd {s : List Nat} : wordT s = true → TokOk [s]
  | ws {s t : List Nat} {r : List (List Nat)} : wordT s = true → isSpT t = true → TokOk r → TokOk (s :: t :: r)
theorem isSp_iff (c : Nat) : isSp c = true ↔ (c = 40 ∨ c = 41 ∨ c = 32) := by simp [isSp]
theorem fold_word : ∀ (u : List Nat) (acc : List (List Nat)) (w : List Nat), (∀ c ∈ u, isSp c = false) → u.foldl signStep (acc ++ [w]) = acc ++ [w ++ u]
  | [], acc, w, _ => by simp
  | c :: u, acc, w, h => by
    have hc : ¬ (c = 40 ∨ c = 41 ∨ c = 32) := fun z => by
      have := h c List.mem_cons_self
      rw [(isSp_iff c).mpr z] at this
      cases this
    rw [List.foldl_cons]
    have : signStep (acc ++ [w]) c = acc ++ [w ++ [c]] := by
      unfold signStep
      rw [if_neg hc, grow_snoc]
    rw [this, fold_word u acc (w ++ [c]) fun c hc => h c (List.mem_cons_of_mem _ hc)]
    simp
theorem fold_tok {T : List (List Nat)} (h : TokOk T) : ∀ acc : List (List Nat), ((T.flatten).foldl signStep (acc ++ [[]])).filter (fun s => !(s == [])) = acc.filter (fun s => !(s == [])) ++ T := by
  have sp : ∀ {s : List Nat}, isSpT s = true → ∃ c, s = [c] ∧ isSp c = true := fun {s} hs => by
    unfold isSpT at hs
    split at hs
    · exact ⟨_, rfl, hs⟩
    · cases hs
  have wd : ∀ {s : List Nat}, wordT s = true → s ≠ [] ∧ ∀ c ∈ s, isSp c = false := fun {s} hs => by
    obtain ⟨h1, h2⟩ := Bool.and_eq_true_iff.mp hs
    refine ⟨(fun z => by rw [z] at h1; cases h1), fun c hc => ?_⟩
    have := List.all_eq_true.mp h2 c hc
    simpa using this
  have st : ∀ {c : Nat} (acc : List (List Nat)), isSp c = true → signStep acc c = acc ++ [[c], []] := fun {c} acc hc => if_pos ((isSp_iff c).mp hc)
  induction h with
  | nil => intro acc; simp
  | sp hs _ ih =>
    intro acc
    obtain ⟨c, rfl, hc⟩ := sp hs
    rw [List.flatten_cons, List.foldl_append, List.foldl_cons, List.foldl_nil, st _ hc]
    have e : acc ++ [[]] ++ [[c], []] = (acc ++ [[], [c]]) ++ [[]] := by simp
    rw [e, ih]
    simp
  | wd hs =>
    intro acc
    obtain ⟨h1, h2⟩ := wd hs
    rename_i s
    rw [List.flatten_cons, List.flatten_nil, List.append_nil, fold_word s acc [] h2]
    simp [h1]
  | ws hs ht _ ih =>
    intro acc
    obtain ⟨h1, h2⟩ := wd hs
    obtain ⟨c, rfl, hc⟩ := sp ht
    rename_i s r _
    rw [List.flatten_cons, List.flatten_cons, List.foldl_append, fold_word s acc [] h2, List.foldl_append, List.foldl_cons, List.foldl_nil, st _ hc]
    have e : acc ++ [[] ++ s] ++ [[c], []] = (acc ++ [s, [c]]) ++ [[]] := by simp
    rw [e, ih]
    simp [h1]
theorem signs_tok {T : List (List Nat)} (h : TokOk T) : signsOf T.flatten = T := by
  have := fold_tok h []
  exact this
end At

/-! The reading of signs. -/
namespace At
open PySem
abbrev Tok := List Nat
def tSp : Tok := [32]
def tLp : Tok := [40]
def tRp : Tok := [41]
def sepT (k : Bool) : List Tok := [tSp, kw k, tSp]
def joinT (k : Bool) : List (List Tok) → List Tok
  | [] => []
  | [u] => u
  | u :: v :: r => u ++ (sepT k ++ joinT k (v :: r))
structure HP (C : Nat → CE) (ix : Lb.Ix) : Prop where
  kn : Kn C ix
  letters : Fa C ix.is_letters (Lb.is_letters ix)
  name : Fa C ix.is_name (Lb.is_name ix)
  parts : Fa C ix.parts_at (Lb.parts_at ix)
  word : Fa C ix.is_word (Lb.is_word ix)
  signs : Fa C ix.signs_of (Lb.signs_of ix)
  any : Fa C ix.read_any (Lb.read_any ix)
  joined : Fa C ix.read_joined (Lb.read_joined ix)
  single : Fa C ix.read_single (Lb.read_single ix)
  treeof : Fa C ix.tree_of (Lb.tree_of ix)
  tree : Fa C ix.read_tree (Lb.read_tree ix)
structure Sg (S : List Tok) : Prop where
  len : S.length ≤ 100000
  tok : ∀ s ∈ S, s.length ≤ 1000
def sD (S : List Tok) : D := .lst (S.map D.str)
theorem cut3 {α : Type} (xs : List α) (a b : Nat) (h : a ≤ b) : cutD xs (some (a : Int)) (some (b : Int)) = (xs.drop a).take (b - a) := by
  unfold cutD
  rw [HT.sIx_nat, HT.sIx_nat]
  by_cases c : a ≤ xs.length
  · rw [Nat.min_eq_left c]
    by_cases d : b ≤ xs.length
    · rw [Nat.min_eq_left d]
    · rw [Nat.min_eq_right (by omega)]
      rw [List.take_of_length_le (by simp), List.take_of_length_le (by simp; omega)]
  · rw [Nat.min_eq_right (by omega), Nat.min_eq_right (by omega)]
    simp
    omega
theorem eqDs_strs : ∀ a b : List Tok, eqDs (a.map D.str) (b.map D.str) = (a == b)
  | [], [] => rfl
  | [], _ :: _ => rfl
  | _ :: _, [] => rfl
  | x :: a, y :: b => by
    show (eqD (.str x) (.str y) && eqDs (a.map D.str) (b.map D.str)) = _
    rw [eqD_str, eqDs_strs a b]
    rfl
theorem c2_eql (a b : List Tok) : cmp2 .eq (.lst (a.map D.str)) (.lst (b.map D.str)) = some (a == b) := by
  show (if (askable (.lst (a.map D.str)) && askable (.lst (b.map D.str))) = true then some (eqDs (a.map D.str) (b.map D.str)) else none) = _
  rw [(ask_strs_t a).2, (ask_strs_t b).2, eqDs_strs]
  rfl
theorem sl_s (S : List Tok) (a b : Nat) (h : a ≤ b) : slc2 (sD S) (some (a : Int)) (some (b : Int)) = some (.lst (((S.drop a).take (b - a)).map D.str)) := by
  show some (D.lst (cutD (S.map D.str) (some (a : Int)) (some (b : Int)))) = _
  rw [cut3 _ a b h, List.map_take, List.map_drop]
theorem ix_s {S : List Tok} {a : Nat} {u : Tok} {r : List Tok} (h : S.drop a = u :: r) : idx2 (sD S) (.int (a : Int)) = some (.str u) := by
  show L2.atI (S.map D.str) (a : Int) = _
  rw [atI_nat, List.getElem?_map]
  have : S[a]? = some u := by
    have e : (S.drop a)[0]? = some u := by rw [h]; rfl
    rw [List.getElem?_drop] at e
    simpa using e
  rw [this]
  rfl
theorem drop_lt {S : List Tok} {a : Nat} {u : Tok} {r : List Tok} (h : S.drop a = u :: r) : a < S.length := by
  have : (S.drop a).length = (u :: r).length := by rw [h]
  rw [List.length_drop] at this
  simp at this
  omega
theorem drop_add {S : List Tok} {a : Nat} {u r : List Tok} (h : S.drop a = u ++ r) : S.drop (a + u.length) = r := by
  rw [← List.drop_drop, h]
  simp
theorem isWord_no {w : Tok} (h : isWord w = true) : (w == wNot) = false ∧ (w == tLp) = false ∧ ([wAll, wNone].contains w) = false := by
  have n1 : isWord wNot = false := by decide
  have n2 : isWord tLp = false := by decide
  have n3 : isWord wAll = false := by decide
  have n4 : isWord wNone = false := by decide
  refine ⟨?_, ?_, ?_⟩
  · rw [beq_eq_false_iff_ne]
    rintro rfl
    rw [h] at n1
    cases n1
  · rw [beq_eq_false_iff_ne]
    rintro rfl
    rw [h] at n2
    cases n2
  · simp
    refine ⟨?_, ?_⟩
    · rintro rfl
      rw [h] at n3
      cases n3
    · rintro rfl
      rw [h] at n4
      cases n4
section
variable {C : Nat → CE} {ix : Lb.Ix}
/-- no and | or goes on -/
def NoSep (k : Bool) (rest : List Tok) : Prop := (rest.take 3 == sepT k) = false
/-- an operand of and (k) | or is read -/
def OpP (C : Nat → CE) (ix : Lb.Ix) (k : Bool) (N : Nat) (U : List Tok) (t : Tr) : Prop := ∀ n, N ≤ n → ∀ (S : List Tok) (a : Nat) (rest : List Tok), Sg S → S.drop a = U ++ rest → (k = false → NoSep true rest) →
  (if k then (C n).fn ix.read_single [sD S, .int (a : Int)] else (C n).fn ix.read_joined [sD S, .int (a : Int), .str wAnd]) = .ok (.tup [toD t, .int ((a + U.length : Nat) : Int)])
theorem tup2 {m : Mu} (d e : D) : tupK [.v d, .v e] m = .ok (.v (.tup [d, e])) m := by
  unfold tupK
  simp only [bnd_ok, bnd_ex, bnd_no, out_ok, out_ex, out_no, seq_nx, seq_rt, seq_ex, res_some, res_none, outR_rt, outR_nx, outR_ex, pureP_v, pureP_ex, see_v, ask_str, ask_int, ask_bl, ask_non, eqD_str, eqD_int, eqD_bl, eqD_non, e_var, varK_s, e_chain, chain_i, c2_lt, c2_le, c2_gt, c2_ge, c2_eqs, c2_nes, c2_eqi, c2_nei, c2_eqb, c2_neb, c2_in1, un_lens, un_lenl, un_lent, un_lenc, un_ii, un_ib, un_all, un_neg, un_n0, un_nt, un_nl, op_addi, op_subi, ix_l, ix_t, e_cst, e_op, e_cmp, e_un, e_and, e_or, e_not, e_ifx, e_tup, e_lst, e_new, e_frz, e_idx, e_slc, e_rev, e_call, e_callm, e_calln, e_make, e_attr, e_isi, e_pop0, e_lc, e_seq, e_enum, e_rng, e_nil, e_cons, e_no, e_opt, x_skip, x_seq, x_asg, x_par, x_app, x_ext, x_setI, x_ret, x_ifs, x_for, x_whl, opK_v, cmpK_v, unK_v, idxK_v, slcK_v, revK_v, optK_v, isiK_v, boolK_t, boolK_f, notK_v, ifsK_t, ifsK_f, seqK_s, seqK_l, seqK_t, enumK_l, asgK_n, frz_v, pl_nil, pl_cons, fromP_ok, fromP_ex, Option.map_some, Option.map_none, List.getElem?_cons_zero, List.getElem?_cons_succ, List.set_cons_zero, List.set_cons_succ, Bool.not_true, Bool.not_false]
  rw [if_pos (by show 2 ≤ lim; decide)]
theorem tup1 {m : Mu} (d : D) : tupK [.v d] m = .ok (.v (.tup [d])) m := by
  unfold tupK
  simp only [bnd_ok, bnd_ex, bnd_no, out_ok, out_ex, out_no, seq_nx, seq_rt, seq_ex, res_some, res_none, outR_rt, outR_nx, outR_ex, pureP_v, pureP_ex, see_v, ask_str, ask_int, ask_bl, ask_non, eqD_str, eqD_int, eqD_bl, eqD_non, e_var, varK_s, e_chain, chain_i, c2_lt, c2_le, c2_gt, c2_ge, c2_eqs, c2_nes, c2_eqi, c2_nei, c2_eqb, c2_neb, c2_in1, un_lens, un_lenl, un_lent, un_lenc, un_ii, un_ib, un_all, un_neg, un_n0, un_nt, un_nl, op_addi, op_subi, ix_l, ix_t, e_cst, e_op, e_cmp, e_un, e_and, e_or, e_not, e_ifx, e_tup, e_lst, e_new, e_frz, e_idx, e_slc, e_rev, e_call, e_callm, e_calln, e_make, e_attr, e_isi, e_pop0, e_lc, e_seq, e_enum, e_rng, e_nil, e_cons, e_no, e_opt, x_skip, x_seq, x_asg, x_par, x_app, x_ext, x_setI, x_ret, x_ifs, x_for, x_whl, opK_v, cmpK_v, unK_v, idxK_v, slcK_v, revK_v, optK_v, isiK_v, boolK_t, boolK_f, notK_v, ifsK_t, ifsK_f, seqK_s, seqK_l, seqK_t, enumK_l, asgK_n, frz_v, pl_nil, pl_cons, fromP_ok, fromP_ex, Option.map_some, Option.map_none, List.getElem?_cons_zero, List.getElem?_cons_succ, List.set_cons_zero, List.set_cons_succ, Bool.not_true, Bool.not_false]
  rw [if_pos (by show 1 ≤ lim; decide)]
theorem un_lenS (S : List Tok) : un1 .len (sD S) = some (.int (S.length : Int)) := by
  show some (D.int ((S.map D.str).length : Int)) = _
  rw [List.length_map]
theorem c2_inc (w : Tok) : cmp2 .in_ (.str w) (.tup [.str [97, 108, 108], .str [110, 111, 110, 101]]) = some ([wAll, wNone].contains w) := c2_int w [wAll, wNone]
theorem single_word (hp : HP C ix) {w : Tok} (hw : isWord w = true) : OpP C ix true 4 [w] (.word w) := fun n hn S a rest sg hd _ => by
  obtain ⟨n, rfl⟩ : ∃ j, n = j + 4 := ⟨n - 4, by omega⟩
  show (C (n + 4)).fn ix.read_single [sD S, .int (a : Int)] = _
  rw [fn_of_fa hp.single (n + 3) _ rfl]
  show pureP (outR (xs (C (n + 3)) (Lb.read_single ix).body [some (.v (sD S)), some (.v (.int a)), none, none, none] [])) = _
  have lt := drop_lt hd
  have dl : decide ((a : Int) < (S.length : Int)) = true := decide_eq_true (by omega)
  obtain ⟨w1, w2, w3⟩ := isWord_no hw
  have hm : w ∈ S := by
    have : w ∈ S.drop a := by rw [hd]; simp
    exact List.mem_of_mem_drop this
  have wl := sg.tok w hm
  have call : ∀ m, callK (C (n + 3)) ix.is_word [.v (.str w)] m = .ok (.v (.bl true)) m := fun m => by
    rw [← hw]
    exact callK_ok rfl (is_word_ok hp.letters hp.name hp.parts hp.word hp.kn n w (by
      have : lim = 1000000 := rfl
      omega))
  unfold Lb.read_single
  simp only [bnd_ok, bnd_ex, bnd_no, out_ok, out_ex, out_no, seq_nx, seq_rt, seq_ex, res_some, res_none, outR_rt, outR_nx, outR_ex, pureP_v, pureP_ex, see_v, ask_str, ask_int, ask_bl, ask_non, eqD_str, eqD_int, eqD_bl, eqD_non, e_var, varK_s, e_chain, chain_i, c2_lt, c2_le, c2_gt, c2_ge, c2_eqs, c2_nes, c2_eqi, c2_nei, c2_eqb, c2_neb, c2_in1, un_lens, un_lenl, un_lent, un_lenc, un_ii, un_ib, un_all, un_neg, un_n0, un_nt, un_nl, op_addi, op_subi, ix_l, ix_t, e_cst, e_op, e_cmp, e_un, e_and, e_or, e_not, e_ifx, e_tup, e_lst, e_new, e_frz, e_idx, e_slc, e_rev, e_call, e_callm, e_calln, e_make, e_attr, e_isi, e_pop0, e_lc, e_seq, e_enum, e_rng, e_nil, e_cons, e_no, e_opt, x_skip, x_seq, x_asg, x_par, x_app, x_ext, x_setI, x_ret, x_ifs, x_for, x_whl, opK_v, cmpK_v, unK_v, idxK_v, slcK_v, revK_v, optK_v, isiK_v, boolK_t, boolK_f, notK_v, ifsK_t, ifsK_f, seqK_s, seqK_l, seqK_t, enumK_l, asgK_n, frz_v, pl_nil, pl_cons, fromP_ok, fromP_ex, Option.map_some, Option.map_none, List.getElem?_cons_zero, List.getElem?_cons_succ, List.set_cons_zero, List.set_cons_succ, Bool.not_true, Bool.not_false, un_lenS, dl, ix_s (show S.drop a = w :: rest from hd)]
  rw [show (w == [110, 111, 116]) = false from w1]
  simp only [bnd_ok, bnd_ex, bnd_no, out_ok, out_ex, out_no, seq_nx, seq_rt, seq_ex, res_some, res_none, outR_rt, outR_nx, outR_ex, pureP_v, pureP_ex, see_v, ask_str, ask_int, ask_bl, ask_non, eqD_str, eqD_int, eqD_bl, eqD_non, e_var, varK_s, e_chain, chain_i, c2_lt, c2_le, c2_gt, c2_ge, c2_eqs, c2_nes, c2_eqi, c2_nei, c2_eqb, c2_neb, c2_in1, un_lens, un_lenl, un_lent, un_lenc, un_ii, un_ib, un_all, un_neg, un_n0, un_nt, un_nl, op_addi, op_subi, ix_l, ix_t, e_cst, e_op, e_cmp, e_un, e_and, e_or, e_not, e_ifx, e_tup, e_lst, e_new, e_frz, e_idx, e_slc, e_rev, e_call, e_callm, e_calln, e_make, e_attr, e_isi, e_pop0, e_lc, e_seq, e_enum, e_rng, e_nil, e_cons, e_no, e_opt, x_skip, x_seq, x_asg, x_par, x_app, x_ext, x_setI, x_ret, x_ifs, x_for, x_whl, opK_v, cmpK_v, unK_v, idxK_v, slcK_v, revK_v, optK_v, isiK_v, boolK_t, boolK_f, notK_v, ifsK_t, ifsK_f, seqK_s, seqK_l, seqK_t, enumK_l, asgK_n, frz_v, pl_nil, pl_cons, fromP_ok, fromP_ex, Option.map_some, Option.map_none, List.getElem?_cons_zero, List.getElem?_cons_succ, List.set_cons_zero, List.set_cons_succ, Bool.not_true, Bool.not_false]
  rw [show (w == [40]) = false from w2]
  simp only [bnd_ok, bnd_ex, bnd_no, out_ok, out_ex, out_no, seq_nx, seq_rt, seq_ex, res_some, res_none, outR_rt, outR_nx, outR_ex, pureP_v, pureP_ex, see_v, ask_str, ask_int, ask_bl, ask_non, eqD_str, eqD_int, eqD_bl, eqD_non, e_var, varK_s, e_chain, chain_i, c2_lt, c2_le, c2_gt, c2_ge, c2_eqs, c2_nes, c2_eqi, c2_nei, c2_eqb, c2_neb, c2_in1, un_lens, un_lenl, un_lent, un_lenc, un_ii, un_ib, un_all, un_neg, un_n0, un_nt, un_nl, op_addi, op_subi, ix_l, ix_t, e_cst, e_op, e_cmp, e_un, e_and, e_or, e_not, e_ifx, e_tup, e_lst, e_new, e_frz, e_idx, e_slc, e_rev, e_call, e_callm, e_calln, e_make, e_attr, e_isi, e_pop0, e_lc, e_seq, e_enum, e_rng, e_nil, e_cons, e_no, e_opt, x_skip, x_seq, x_asg, x_par, x_app, x_ext, x_setI, x_ret, x_ifs, x_for, x_whl, opK_v, cmpK_v, unK_v, idxK_v, slcK_v, revK_v, optK_v, isiK_v, boolK_t, boolK_f, notK_v, ifsK_t, ifsK_f, seqK_s, seqK_l, seqK_t, enumK_l, asgK_n, frz_v, pl_nil, pl_cons, fromP_ok, fromP_ex, Option.map_some, Option.map_none, List.getElem?_cons_zero, List.getElem?_cons_succ, List.set_cons_zero, List.set_cons_succ, Bool.not_true, Bool.not_false, c2_inc, w3, call, tup2]
  rw [toD]
  rfl
theorem single_const (hp : HP C ix) {w : Tok} {t : Tr} (hw : [wAll, wNone].contains w = true) (ht : toD t = .tup [.str w]) : OpP C ix true 4 [w] t := fun n hn S a rest sg hd _ => by
  obtain ⟨n, rfl⟩ : ∃ j, n = j + 4 := ⟨n - 4, by omega⟩
  show (C (n + 4)).fn ix.read_single [sD S, .int (a : Int)] = _
  rw [fn_of_fa hp.single (n + 3) _ rfl]
  show pureP (outR (xs (C (n + 3)) (Lb.read_single ix).body [some (.v (sD S)), some (.v (.int a)), none, none, none] [])) = _
  have lt := drop_lt hd
  have dl : decide ((a : Int) < (S.length : Int)) = true := decide_eq_true (by omega)
  have w1 : (w == wNot) = false := by
    simp at hw
    rcases hw with rfl | rfl <;> rfl
  have w2 : (w == tLp) = false := by
    simp at hw
    rcases hw with rfl | rfl <;> rfl
  unfold Lb.read_single
  simp only [bnd_ok, bnd_ex, bnd_no, out_ok, out_ex, out_no, seq_nx, seq_rt, seq_ex, res_some, res_none, outR_rt, outR_nx, outR_ex, pureP_v, pureP_ex, see_v, ask_str, ask_int, ask_bl, ask_non, eqD_str, eqD_int, eqD_bl, eqD_non, e_var, varK_s, e_chain, chain_i, c2_lt, c2_le, c2_gt, c2_ge, c2_eqs, c2_nes, c2_eqi, c2_nei, c2_eqb, c2_neb, c2_in1, un_lens, un_lenl, un_lent, un_lenc, un_ii, un_ib, un_all, un_neg, un_n0, un_nt, un_nl, op_addi, op_subi, ix_l, ix_t, e_cst, e_op, e_cmp, e_un, e_and, e_or, e_not, e_ifx, e_tup, e_lst, e_new, e_frz, e_idx, e_slc, e_rev, e_call, e_callm, e_calln, e_make, e_attr, e_isi, e_pop0, e_lc, e_seq, e_enum, e_rng, e_nil, e_cons, e_no, e_opt, x_skip, x_seq, x_asg, x_par, x_app, x_ext, x_setI, x_ret, x_ifs, x_for, x_whl, opK_v, cmpK_v, unK_v, idxK_v, slcK_v, revK_v, optK_v, isiK_v, boolK_t, boolK_f, notK_v, ifsK_t, ifsK_f, seqK_s, seqK_l, seqK_t, enumK_l, asgK_n, frz_v, pl_nil, pl_cons, fromP_ok, fromP_ex, Option.map_some, Option.map_none, List.getElem?_cons_zero, List.getElem?_cons_succ, List.set_cons_zero, List.set_cons_succ, Bool.not_true, Bool.not_false, un_lenS, dl, ix_s (show S.drop a = w :: rest from hd)]
  rw [show (w == [110, 111, 116]) = false from w1]
  simp only [bnd_ok, bnd_ex, bnd_no, out_ok, out_ex, out_no, seq_nx, seq_rt, seq_ex, res_some, res_none, outR_rt, outR_nx, outR_ex, pureP_v, pureP_ex, see_v, ask_str, ask_int, ask_bl, ask_non, eqD_str, eqD_int, eqD_bl, eqD_non, e_var, varK_s, e_chain, chain_i, c2_lt, c2_le, c2_gt, c2_ge, c2_eqs, c2_nes, c2_eqi, c2_nei, c2_eqb, c2_neb, c2_in1, un_lens, un_lenl, un_lent, un_lenc, un_ii, un_ib, un_all, un_neg, un_n0, un_nt, un_nl, op_addi, op_subi, ix_l, ix_t, e_cst, e_op, e_cmp, e_un, e_and, e_or, e_not, e_ifx, e_tup, e_lst, e_new, e_frz, e_idx, e_slc, e_rev, e_call, e_callm, e_calln, e_make, e_attr, e_isi, e_pop0, e_lc, e_seq, e_enum, e_rng, e_nil, e_cons, e_no, e_opt, x_skip, x_seq, x_asg, x_par, x_app, x_ext, x_setI, x_ret, x_ifs, x_for, x_whl, opK_v, cmpK_v, unK_v, idxK_v, slcK_v, revK_v, optK_v, isiK_v, boolK_t, boolK_f, notK_v, ifsK_t, ifsK_f, seqK_s, seqK_l, seqK_t, enumK_l, asgK_n, frz_v, pl_nil, pl_cons, fromP_ok, fromP_ex, Option.map_some, Option.map_none, List.getElem?_cons_zero, List.getElem?_cons_succ, List.set_cons_zero, List.set_cons_succ, Bool.not_true, Bool.not_false]
  rw [show (w == [40]) = false from w2]
  simp only [bnd_ok, bnd_ex, bnd_no, out_ok, out_ex, out_no, seq_nx, seq_rt, seq_ex, res_some, res_none, outR_rt, outR_nx, outR_ex, pureP_v, pureP_ex, see_v, ask_str, ask_int, ask_bl, ask_non, eqD_str, eqD_int, eqD_bl, eqD_non, e_var, varK_s, e_chain, chain_i, c2_lt, c2_le, c2_gt, c2_ge, c2_eqs, c2_nes, c2_eqi, c2_nei, c2_eqb, c2_neb, c2_in1, un_lens, un_lenl, un_lent, un_lenc, un_ii, un_ib, un_all, un_neg, un_n0, un_nt, un_nl, op_addi, op_subi, ix_l, ix_t, e_cst, e_op, e_cmp, e_un, e_and, e_or, e_not, e_ifx, e_tup, e_lst, e_new, e_frz, e_idx, e_slc, e_rev, e_call, e_callm, e_calln, e_make, e_attr, e_isi, e_pop0, e_lc, e_seq, e_enum, e_rng, e_nil, e_cons, e_no, e_opt, x_skip, x_seq, x_asg, x_par, x_app, x_ext, x_setI, x_ret, x_ifs, x_for, x_whl, opK_v, cmpK_v, unK_v, idxK_v, slcK_v, revK_v, optK_v, isiK_v, boolK_t, boolK_f, notK_v, ifsK_t, ifsK_f, seqK_s, seqK_l, seqK_t, enumK_l, asgK_n, frz_v, pl_nil, pl_cons, fromP_ok, fromP_ex, Option.map_some, Option.map_none, List.getElem?_cons_zero, List.getElem?_cons_succ, List.set_cons_zero, List.set_cons_succ, Bool.not_true, Bool.not_false, c2_inc, hw, tup2, tup1]
  rw [ht]
  rfl
theorem asg2 {i j : Nat} {ρ : Ro} {d e : D} {m : Mu} : asgK (.tp (.cons (.nm i) (.cons (.nm j) .nil))) ρ (.v (.tup [d, e])) m = .nx ((ρ.set i (some (.v d))).set j (some (.v e))) m := rfl
theorem toD_isN (t : Tr) : un1 .isN (toD t) = some (.bl false) := by
  obtain ⟨l, e⟩ := toD_tup t
  rw [e]
  rfl
theorem single_not (hp : HP C ix) {N : Nat} {U : List Tok} {t : Tr} (h : OpP C ix true N U t) : OpP C ix true (N + 1) ([wNot, tSp] ++ U) (.not t) := fun n hn S a rest sg hd _ => by
  obtain ⟨n, rfl⟩ : ∃ j, n = j + 1 := ⟨n - 1, by omega⟩
  show (C (n + 1)).fn ix.read_single [sD S, .int (a : Int)] = _
  rw [fn_of_fa hp.single n _ rfl]
  show pureP (outR (xs (C n) (Lb.read_single ix).body [some (.v (sD S)), some (.v (.int a)), none, none, none] [])) = _
  have hd' : S.drop a = wNot :: tSp :: (U ++ rest) := hd
  have lt := drop_lt hd'
  have dl : decide ((a : Int) < (S.length : Int)) = true := decide_eq_true (by omega)
  have d1 : S.drop (a + 1) = tSp :: (U ++ rest) := drop_add (u := [wNot]) hd'
  have d2 : S.drop (a + 2) = U ++ rest := drop_add (u := [wNot, tSp]) hd'
  have call : ∀ m, callK (C n) ix.read_single [.v (sD S), .v (.int ((a : Int) + 2))] m = .ok (.v (.tup [toD t, .int ((a + 2 + U.length : Nat) : Int)])) m := fun m => callK_ok rfl (h n (by omega) S (a + 2) rest sg d2 fun z => nomatch z)
  have i1 : idx2 (sD S) (.int ((a : Int) + 1)) = some (.str tSp) := ix_s (a := a + 1) d1
  unfold Lb.read_single
  simp only [bnd_ok, bnd_ex, bnd_no, out_ok, out_ex, out_no, seq_nx, seq_rt, seq_ex, res_some, res_none, outR_rt, outR_nx, outR_ex, pureP_v, pureP_ex, see_v, ask_str, ask_int, ask_bl, ask_non, eqD_str, eqD_int, eqD_bl, eqD_non, e_var, varK_s, e_chain, chain_i, c2_lt, c2_le, c2_gt, c2_ge, c2_eqs, c2_nes, c2_eqi, c2_nei, c2_eqb, c2_neb, c2_in1, un_lens, un_lenl, un_lent, un_lenc, un_ii, un_ib, un_all, un_neg, un_n0, un_nt, un_nl, op_addi, op_subi, ix_l, ix_t, e_cst, e_op, e_cmp, e_un, e_and, e_or, e_not, e_ifx, e_tup, e_lst, e_new, e_frz, e_idx, e_slc, e_rev, e_call, e_callm, e_calln, e_make, e_attr, e_isi, e_pop0, e_lc, e_seq, e_enum, e_rng, e_nil, e_cons, e_no, e_opt, x_skip, x_seq, x_asg, x_par, x_app, x_ext, x_setI, x_ret, x_ifs, x_for, x_whl, opK_v, cmpK_v, unK_v, idxK_v, slcK_v, revK_v, optK_v, isiK_v, boolK_t, boolK_f, notK_v, ifsK_t, ifsK_f, seqK_s, seqK_l, seqK_t, enumK_l, asgK_n, frz_v, pl_nil, pl_cons, fromP_ok, fromP_ex, Option.map_some, Option.map_none, List.getElem?_cons_zero, List.getElem?_cons_succ, List.set_cons_zero, List.set_cons_succ, Bool.not_true, Bool.not_false, un_lenS, dl, ix_s hd']
  rw [show (wNot == [110, 111, 116]) = true from rfl]
  simp only [bnd_ok, bnd_ex, bnd_no, out_ok, out_ex, out_no, seq_nx, seq_rt, seq_ex, res_some, res_none, outR_rt, outR_nx, outR_ex, pureP_v, pureP_ex, see_v, ask_str, ask_int, ask_bl, ask_non, eqD_str, eqD_int, eqD_bl, eqD_non, e_var, varK_s, e_chain, chain_i, c2_lt, c2_le, c2_gt, c2_ge, c2_eqs, c2_nes, c2_eqi, c2_nei, c2_eqb, c2_neb, c2_in1, un_lens, un_lenl, un_lent, un_lenc, un_ii, un_ib, un_all, un_neg, un_n0, un_nt, un_nl, op_addi, op_subi, ix_l, ix_t, e_cst, e_op, e_cmp, e_un, e_and, e_or, e_not, e_ifx, e_tup, e_lst, e_new, e_frz, e_idx, e_slc, e_rev, e_call, e_callm, e_calln, e_make, e_attr, e_isi, e_pop0, e_lc, e_seq, e_enum, e_rng, e_nil, e_cons, e_no, e_opt, x_skip, x_seq, x_asg, x_par, x_app, x_ext, x_setI, x_ret, x_ifs, x_for, x_whl, opK_v, cmpK_v, unK_v, idxK_v, slcK_v, revK_v, optK_v, isiK_v, boolK_t, boolK_f, notK_v, ifsK_t, ifsK_f, seqK_s, seqK_l, seqK_t, enumK_l, asgK_n, frz_v, pl_nil, pl_cons, fromP_ok, fromP_ex, Option.map_some, Option.map_none, List.getElem?_cons_zero, List.getElem?_cons_succ, List.set_cons_zero, List.set_cons_succ, Bool.not_true, Bool.not_false, call, asg2, toD_isN, i1]
  rw [show (!(tSp == [32])) = false from rfl]
  simp only [bnd_ok, bnd_ex, bnd_no, out_ok, out_ex, out_no, seq_nx, seq_rt, seq_ex, res_some, res_none, outR_rt, outR_nx, outR_ex, pureP_v, pureP_ex, see_v, ask_str, ask_int, ask_bl, ask_non, eqD_str, eqD_int, eqD_bl, eqD_non, e_var, varK_s, e_chain, chain_i, c2_lt, c2_le, c2_gt, c2_ge, c2_eqs, c2_nes, c2_eqi, c2_nei, c2_eqb, c2_neb, c2_in1, un_lens, un_lenl, un_lent, un_lenc, un_ii, un_ib, un_all, un_neg, un_n0, un_nt, un_nl, op_addi, op_subi, ix_l, ix_t, e_cst, e_op, e_cmp, e_un, e_and, e_or, e_not, e_ifx, e_tup, e_lst, e_new, e_frz, e_idx, e_slc, e_rev, e_call, e_callm, e_calln, e_make, e_attr, e_isi, e_pop0, e_lc, e_seq, e_enum, e_rng, e_nil, e_cons, e_no, e_opt, x_skip, x_seq, x_asg, x_par, x_app, x_ext, x_setI, x_ret, x_ifs, x_for, x_whl, opK_v, cmpK_v, unK_v, idxK_v, slcK_v, revK_v, optK_v, isiK_v, boolK_t, boolK_f, notK_v, ifsK_t, ifsK_f, seqK_s, seqK_l, seqK_t, enumK_l, asgK_n, frz_v, pl_nil, pl_cons, fromP_ok, fromP_ex, Option.map_some, Option.map_none, List.getElem?_cons_zero, List.getElem?_cons_succ, List.set_cons_zero, List.set_cons_succ, Bool.not_true, Bool.not_false, tup2]
  rw [toD]
  congr 4
  simp
  omega
theorem single_br (hp : HP C ix) {N : Nat} {U : List Tok} {t : Tr} (h : ∀ n, N ≤ n → ∀ (S : List Tok) (a : Nat) (rest : List Tok), Sg S → S.drop a = U ++ rest → NoSep true rest → NoSep false rest → (C n).fn ix.read_any [sD S, .int (a : Int)] = .ok (.tup [toD t, .int ((a + U.length : Nat) : Int)])) :
    OpP C ix true (N + 1) (tLp :: (U ++ [tRp])) t := fun n hn S a rest sg hd _ => by
  obtain ⟨n, rfl⟩ : ∃ j, n = j + 1 := ⟨n - 1, by omega⟩
  show (C (n + 1)).fn ix.read_single [sD S, .int (a : Int)] = _
  rw [fn_of_fa hp.single n _ rfl]
  show pureP (outR (xs (C n) (Lb.read_single ix).body [some (.v (sD S)), some (.v (.int a)), none, none, none] [])) = _
  have hd' : S.drop a = tLp :: (U ++ (tRp :: rest)) := by rw [hd]; simp
  have lt := drop_lt hd'
  have dl : decide ((a : Int) < (S.length : Int)) = true := decide_eq_true (by omega)
  have d1 : S.drop (a + 1) = U ++ (tRp :: rest) := drop_add (u := [tLp]) hd'
  have d2 : S.drop (a + 1 + U.length) = tRp :: rest := drop_add d1
  have ns : ∀ k, NoSep k (tRp :: rest) := fun k => by
    unfold NoSep sepT
    rw [beq_eq_false_iff_ne]
    cases rest <;> simp [tRp, tSp]
  have call : ∀ m, callK (C n) ix.read_any [.v (sD S), .v (.int ((a : Int) + 1))] m = .ok (.v (.tup [toD t, .int ((a + 1 + U.length : Nat) : Int)])) m := fun m => callK_ok rfl (h n (by omega) S (a + 1) _ sg d1 (ns _) (ns _))
  have sl : slc2 (sD S) (some ((a + 1 + U.length : Nat) : Int)) (some (((a + 1 + U.length : Nat) : Int) + 1)) = some (.lst ([tRp].map D.str)) := by
    have := sl_s S (a + 1 + U.length) (a + 1 + U.length + 1) (by omega)
    rw [show (((a + 1 + U.length + 1 : Nat)) : Int) = ((a + 1 + U.length : Nat) : Int) + 1 by omega] at this
    rw [this, d2]
    simp
  have lk : ∀ m, lstK [.v (.str [41])] m = .ok (.v (.lst ([tRp].map D.str))) m := fun m => by
    unfold lstK
    simp only [bnd_ok, bnd_ex, bnd_no, out_ok, out_ex, out_no, seq_nx, seq_rt, seq_ex, res_some, res_none, outR_rt, outR_nx, outR_ex, pureP_v, pureP_ex, see_v, ask_str, ask_int, ask_bl, ask_non, eqD_str, eqD_int, eqD_bl, eqD_non, e_var, varK_s, e_chain, chain_i, c2_lt, c2_le, c2_gt, c2_ge, c2_eqs, c2_nes, c2_eqi, c2_nei, c2_eqb, c2_neb, c2_in1, un_lens, un_lenl, un_lent, un_lenc, un_ii, un_ib, un_all, un_neg, un_n0, un_nt, un_nl, op_addi, op_subi, ix_l, ix_t, e_cst, e_op, e_cmp, e_un, e_and, e_or, e_not, e_ifx, e_tup, e_lst, e_new, e_frz, e_idx, e_slc, e_rev, e_call, e_callm, e_calln, e_make, e_attr, e_isi, e_pop0, e_lc, e_seq, e_enum, e_rng, e_nil, e_cons, e_no, e_opt, x_skip, x_seq, x_asg, x_par, x_app, x_ext, x_setI, x_ret, x_ifs, x_for, x_whl, opK_v, cmpK_v, unK_v, idxK_v, slcK_v, revK_v, optK_v, isiK_v, boolK_t, boolK_f, notK_v, ifsK_t, ifsK_f, seqK_s, seqK_l, seqK_t, enumK_l, asgK_n, frz_v, pl_nil, pl_cons, fromP_ok, fromP_ex, Option.map_some, Option.map_none, List.getElem?_cons_zero, List.getElem?_cons_succ, List.set_cons_zero, List.set_cons_succ, Bool.not_true, Bool.not_false]
    rw [if_pos (by show 1 ≤ lim; decide)]
    rfl
  unfold Lb.read_single
  simp only [bnd_ok, bnd_ex, bnd_no, out_ok, out_ex, out_no, seq_nx, seq_rt, seq_ex, res_some, res_none, outR_rt, outR_nx, outR_ex, pureP_v, pureP_ex, see_v, ask_str, ask_int, ask_bl, ask_non, eqD_str, eqD_int, eqD_bl, eqD_non, e_var, varK_s, e_chain, chain_i, c2_lt, c2_le, c2_gt, c2_ge, c2_eqs, c2_nes, c2_eqi, c2_nei, c2_eqb, c2_neb, c2_in1, un_lens, un_lenl, un_lent, un_lenc, un_ii, un_ib, un_all, un_neg, un_n0, un_nt, un_nl, op_addi, op_subi, ix_l, ix_t, e_cst, e_op, e_cmp, e_un, e_and, e_or, e_not, e_ifx, e_tup, e_lst, e_new, e_frz, e_idx, e_slc, e_rev, e_call, e_callm, e_calln, e_make, e_attr, e_isi, e_pop0, e_lc, e_seq, e_enum, e_rng, e_nil, e_cons, e_no, e_opt, x_skip, x_seq, x_asg, x_par, x_app, x_ext, x_setI, x_ret, x_ifs, x_for, x_whl, opK_v, cmpK_v, unK_v, idxK_v, slcK_v, revK_v, optK_v, isiK_v, boolK_t, boolK_f, notK_v, ifsK_t, ifsK_f, seqK_s, seqK_l, seqK_t, enumK_l, asgK_n, frz_v, pl_nil, pl_cons, fromP_ok, fromP_ex, Option.map_some, Option.map_none, List.getElem?_cons_zero, List.getElem?_cons_succ, List.set_cons_zero, List.set_cons_succ, Bool.not_true, Bool.not_false, un_lenS, dl, ix_s hd']
  rw [show (tLp == [110, 111, 116]) = false from rfl]
  simp only [bnd_ok, bnd_ex, bnd_no, out_ok, out_ex, out_no, seq_nx, seq_rt, seq_ex, res_some, res_none, outR_rt, outR_nx, outR_ex, pureP_v, pureP_ex, see_v, ask_str, ask_int, ask_bl, ask_non, eqD_str, eqD_int, eqD_bl, eqD_non, e_var, varK_s, e_chain, chain_i, c2_lt, c2_le, c2_gt, c2_ge, c2_eqs, c2_nes, c2_eqi, c2_nei, c2_eqb, c2_neb, c2_in1, un_lens, un_lenl, un_lent, un_lenc, un_ii, un_ib, un_all, un_neg, un_n0, un_nt, un_nl, op_addi, op_subi, ix_l, ix_t, e_cst, e_op, e_cmp, e_un, e_and, e_or, e_not, e_ifx, e_tup, e_lst, e_new, e_frz, e_idx, e_slc, e_rev, e_call, e_callm, e_calln, e_make, e_attr, e_isi, e_pop0, e_lc, e_seq, e_enum, e_rng, e_nil, e_cons, e_no, e_opt, x_skip, x_seq, x_asg, x_par, x_app, x_ext, x_setI, x_ret, x_ifs, x_for, x_whl, opK_v, cmpK_v, unK_v, idxK_v, slcK_v, revK_v, optK_v, isiK_v, boolK_t, boolK_f, notK_v, ifsK_t, ifsK_f, seqK_s, seqK_l, seqK_t, enumK_l, asgK_n, frz_v, pl_nil, pl_cons, fromP_ok, fromP_ex, Option.map_some, Option.map_none, List.getElem?_cons_zero, List.getElem?_cons_succ, List.set_cons_zero, List.set_cons_succ, Bool.not_true, Bool.not_false]
  rw [show (tLp == [40]) = true from rfl]
  simp only [bnd_ok, bnd_ex, bnd_no, out_ok, out_ex, out_no, seq_nx, seq_rt, seq_ex, res_some, res_none, outR_rt, outR_nx, outR_ex, pureP_v, pureP_ex, see_v, ask_str, ask_int, ask_bl, ask_non, eqD_str, eqD_int, eqD_bl, eqD_non, e_var, varK_s, e_chain, chain_i, c2_lt, c2_le, c2_gt, c2_ge, c2_eqs, c2_nes, c2_eqi, c2_nei, c2_eqb, c2_neb, c2_in1, un_lens, un_lenl, un_lent, un_lenc, un_ii, un_ib, un_all, un_neg, un_n0, un_nt, un_nl, op_addi, op_subi, ix_l, ix_t, e_cst, e_op, e_cmp, e_un, e_and, e_or, e_not, e_ifx, e_tup, e_lst, e_new, e_frz, e_idx, e_slc, e_rev, e_call, e_callm, e_calln, e_make, e_attr, e_isi, e_pop0, e_lc, e_seq, e_enum, e_rng, e_nil, e_cons, e_no, e_opt, x_skip, x_seq, x_asg, x_par, x_app, x_ext, x_setI, x_ret, x_ifs, x_for, x_whl, opK_v, cmpK_v, unK_v, idxK_v, slcK_v, revK_v, optK_v, isiK_v, boolK_t, boolK_f, notK_v, ifsK_t, ifsK_f, seqK_s, seqK_l, seqK_t, enumK_l, asgK_n, frz_v, pl_nil, pl_cons, fromP_ok, fromP_ex, Option.map_some, Option.map_none, List.getElem?_cons_zero, List.getElem?_cons_succ, List.set_cons_zero, List.set_cons_succ, Bool.not_true, Bool.not_false, call, asg2, sl, lk, c2_eql]
  rw [show ([tRp] == [tRp]) = true from rfl]
  simp only [bnd_ok, bnd_ex, bnd_no, out_ok, out_ex, out_no, seq_nx, seq_rt, seq_ex, res_some, res_none, outR_rt, outR_nx, outR_ex, pureP_v, pureP_ex, see_v, ask_str, ask_int, ask_bl, ask_non, eqD_str, eqD_int, eqD_bl, eqD_non, e_var, varK_s, e_chain, chain_i, c2_lt, c2_le, c2_gt, c2_ge, c2_eqs, c2_nes, c2_eqi, c2_nei, c2_eqb, c2_neb, c2_in1, un_lens, un_lenl, un_lent, un_lenc, un_ii, un_ib, un_all, un_neg, un_n0, un_nt, un_nl, op_addi, op_subi, ix_l, ix_t, e_cst, e_op, e_cmp, e_un, e_and, e_or, e_not, e_ifx, e_tup, e_lst, e_new, e_frz, e_idx, e_slc, e_rev, e_call, e_callm, e_calln, e_make, e_attr, e_isi, e_pop0, e_lc, e_seq, e_enum, e_rng, e_nil, e_cons, e_no, e_opt, x_skip, x_seq, x_asg, x_par, x_app, x_ext, x_setI, x_ret, x_ifs, x_for, x_whl, opK_v, cmpK_v, unK_v, idxK_v, slcK_v, revK_v, optK_v, isiK_v, boolK_t, boolK_f, notK_v, ifsK_t, ifsK_f, seqK_s, seqK_l, seqK_t, enumK_l, asgK_n, frz_v, pl_nil, pl_cons, fromP_ok, fromP_ex, Option.map_some, Option.map_none, List.getElem?_cons_zero, List.getElem?_cons_succ, List.set_cons_zero, List.set_cons_succ, Bool.not_true, Bool.not_false, tup2]
  congr 4
  simp
  omega
end
end At

/-! What is joined by and | or. -/
namespace At
open PySem
mutual
theorem ask_toD1 : ∀ t : Tr, plain (toD t) = true
  | .word w => by rw [toD]; rfl
  | .all => by rw [toD]; rfl
  | .none => by rw [toD]; rfl
  | .not t => by
    rw [toD]
    show (true && (plain (toD t) && true)) = true
    rw [ask_toD1 t]
    rfl
  | .op k ts => by
    rw [toD]
    show (true && (plains (toDs ts) && true)) = true
    rw [ask_toDs1 ts]
    rfl
theorem ask_toDs1 : ∀ ts : List Tr, plains (toDs ts) = true
  | [] => rfl
  | t :: ts => by
    rw [toDs]
    show (plain (toD t) && plains (toDs ts)) = true
    rw [ask_toD1 t, ask_toDs1 ts]
    rfl
end
/-- the fuel that a tree needs -/
def nd : Tr → Nat
  | .not t => nd t + 2
  | .op _ ts => nds ts + 4
  | .word _ => 4
  | .all => 4
  | .none => 4
where nds : List Tr → Nat
  | [] => 4
  | t :: ts => max (nd t) (nds ts)
theorem nds_mem : ∀ {ts : List Tr} {t : Tr}, t ∈ ts → nd t ≤ nd.nds ts
  | u :: ts, t, h => by
    rw [nd.nds]
    rcases List.mem_cons.mp h with rfl | h
    · omega
    · have := nds_mem h
      omega
theorem nds_ge : ∀ ts : List Tr, 4 ≤ nd.nds ts
  | [] => Nat.le_refl _
  | t :: ts => by
    rw [nd.nds]
    have := nds_ge ts
    omega
theorem nd_ge (t : Tr) : 4 ≤ nd t := by
  cases t with
  | not t =>
    rw [nd]
    have := nd_ge t
    omega
  | op k ts => rw [nd]; omega
  | _ => rw [nd]; exact Nat.le_refl _
theorem nds_le : ∀ {ts : List Tr} {b : Nat}, 4 ≤ b → (∀ t ∈ ts, nd t ≤ b) → nd.nds ts ≤ b
  | [], b, h, _ => h
  | t :: ts, b, h, q => by
    rw [nd.nds]
    have := nds_le h fun t ht => q t (List.mem_cons_of_mem _ ht)
    have := q t List.mem_cons_self
    omega
mutual
theorem deep_toD : ∀ t : Tr, deep (toD t) ≤ nd t
  | .word w => by rw [toD]; show 1 ≤ 4; decide
  | .all => by rw [toD]; show 1 ≤ 4; decide
  | .none => by rw [toD]; show 1 ≤ 4; decide
  | .not t => by
    rw [toD, nd]
    show max 0 (max (deep (toD t)) 0) + 1 ≤ _
    have := deep_toD t
    omega
  | .op k ts => by
    rw [toD, nd]
    show max 0 (max (deeps (toDs ts) + 1) 0) + 1 ≤ _
    have := deep_toDs ts
    omega
theorem deep_toDs : ∀ ts : List Tr, deeps (toDs ts) ≤ nd.nds ts
  | [] => by show 0 ≤ _; omega
  | t :: ts => by
    rw [toDs, nd.nds]
    show max (deep (toD t)) (deeps (toDs ts)) ≤ _
    have := deep_toD t
    have := deep_toDs ts
    omega
end
theorem ask_toD {t : Tr} (h : nd t ≤ 60) : askable (toD t) = true := by
  unfold askable
  rw [ask_toD1, decide_eq_true (Nat.le_trans (deep_toD t) h)]
  rfl
theorem ask_trs {ts : List Tr} (h : ∀ t ∈ ts, nd t ≤ 59) : askable (.lst (ts.map toD)) = true := by
  rw [← toDs_map]
  unfold askable
  show (plains (toDs ts) && decide (deeps (toDs ts) + 1 ≤ 60)) = true
  have := deep_toDs ts
  have := nds_le (by decide) h
  rw [ask_toDs1, decide_eq_true (by omega)]
  rfl
theorem c2_eqn {ts : List Tr} (h : ∀ t ∈ ts, nd t ≤ 59) : cmp2 .eq (.lst (ts.map toD)) (.lst []) = some ts.isEmpty := by
  show (if (askable (.lst (ts.map toD)) && askable (.lst [])) = true then some (eqD (.lst (ts.map toD)) (.lst [])) else none) = _
  rw [ask_trs h]
  cases ts <;> rfl
section
variable {C : Nat → CE} {ix : Lb.Ix}
def tailT (k : Bool) : List (List Tok) → List Tok
  | [] => []
  | u :: us => sepT k ++ (u ++ tailT k us)
theorem join_tail (k : Bool) : ∀ (u : List Tok) (us : List (List Tok)), joinT k (u :: us) = u ++ tailT k us
  | u, [] => by simp [joinT, tailT]
  | u, v :: r => by
    rw [joinT, join_tail k v r]
    rfl
/-- the state of the loop -/
def rhoJ (S : List Tok) (a : Nat) (k : Bool) (here : Int) (o : Option U) : Ro := [some (.v (sD S)), some (.v (.int a)), some (.v (.str (kw k))), some (.p 0), some (.v (.int here)), o]
/-- the parts that are read -/
def Parts (C : Nat → CE) (ix : Lb.Ix) (k : Bool) (N : Nat) (ps : List (List Tok × Tr)) : Prop := ∀ p ∈ ps, OpP C ix k N p.1 p.2 ∧ nd p.2 ≤ 50
def condJ (C : CE) : Ro → Mu → R U := fun ρ m => ev C (.or_ (.cmp .eq (.var 3) (.lst .nil)) (.cmp .eq (.slc (.var 0) (.opt (.var 4)) (.opt (.op .add (.var 4) (.cst (.int 3))))) (.lst (.cons (.cst (.str [32])) (.cons (.var 2) (.cons (.cst (.str [32])) .nil)))))) ρ m
def bodyJ (C : CE) (ix : Lb.Ix) : Ro → Mu → O := fun ρ m => xs C (.seq (.asg (.tp (.cons (.nm 5) (.cons (.nm 4) .nil))) (.ifx (.cmp .eq (.var 2) (.cst (.str [97, 110, 100]))) (.call ix.read_single (.cons (.var 0) (.cons (.op .add (.var 4) (.cst (.int 3))) .nil))) (.call ix.read_joined (.cons (.var 0) (.cons (.op .add (.var 4) (.cst (.int 3))) (.cons (.cst (.str [97, 110, 100])) .nil))))))
  (.seq (.ifs (.un .isN (.var 5)) (.ret (.tup (.cons (.cst .non) (.cons (.var 4) .nil)))) .skip)
  (.app (.var 3) (.var 5)))) ρ m
theorem lst0 {m : Mu} : lstK [] m = .ok (.v (.lst [])) m := by
  unfold lstK
  simp only [bnd_ok, bnd_ex, bnd_no, out_ok, out_ex, out_no, seq_nx, seq_rt, seq_ex, res_some, res_none, outR_rt, outR_nx, outR_ex, pureP_v, pureP_ex, see_v, ask_str, ask_int, ask_bl, ask_non, eqD_str, eqD_int, eqD_bl, eqD_non, e_var, varK_s, e_chain, chain_i, c2_lt, c2_le, c2_gt, c2_ge, c2_eqs, c2_nes, c2_eqi, c2_nei, c2_eqb, c2_neb, c2_in1, un_lens, un_lenl, un_lent, un_lenc, un_ii, un_ib, un_all, un_neg, un_n0, un_nt, un_nl, op_addi, op_subi, ix_l, ix_t, e_cst, e_op, e_cmp, e_un, e_and, e_or, e_not, e_ifx, e_tup, e_lst, e_new, e_frz, e_idx, e_slc, e_rev, e_call, e_callm, e_calln, e_make, e_attr, e_isi, e_pop0, e_lc, e_seq, e_enum, e_rng, e_nil, e_cons, e_no, e_opt, x_skip, x_seq, x_asg, x_par, x_app, x_ext, x_setI, x_ret, x_ifs, x_for, x_whl, opK_v, cmpK_v, unK_v, idxK_v, slcK_v, revK_v, optK_v, isiK_v, boolK_t, boolK_f, notK_v, ifsK_t, ifsK_f, seqK_s, seqK_l, seqK_t, enumK_l, asgK_n, frz_v, pl_nil, pl_cons, fromP_ok, fromP_ex, Option.map_some, Option.map_none, List.getElem?_cons_zero, List.getElem?_cons_succ, List.set_cons_zero, List.set_cons_succ, Bool.not_true, Bool.not_false]
  rw [if_pos (by show 0 ≤ lim; decide)]
theorem cmp_nil {ts : List Tr} (h : ∀ t ∈ ts, nd t ≤ 59) : cmpK .eq (.p 0) (.v (.lst [])) (cellT ts) = .ok (.v (.bl ts.isEmpty)) (cellT ts) := by
  unfold cmpK
  rw [see_cellT, see_v]
  dsimp only
  rw [c2_eqn h]
  rfl
theorem condJ_nil {Cn : CE} {S : List Tok} {a : Nat} {k : Bool} {here : Int} {o : Option U} : condJ Cn (rhoJ S a k here o) (cellT []) = .ok (.v (.bl true)) (cellT []) := by
  unfold condJ rhoJ
  simp only [bnd_ok, bnd_ex, bnd_no, out_ok, out_ex, out_no, seq_nx, seq_rt, seq_ex, res_some, res_none, outR_rt, outR_nx, outR_ex, pureP_v, pureP_ex, see_v, ask_str, ask_int, ask_bl, ask_non, eqD_str, eqD_int, eqD_bl, eqD_non, e_var, varK_s, e_chain, chain_i, c2_lt, c2_le, c2_gt, c2_ge, c2_eqs, c2_nes, c2_eqi, c2_nei, c2_eqb, c2_neb, c2_in1, un_lens, un_lenl, un_lent, un_lenc, un_ii, un_ib, un_all, un_neg, un_n0, un_nt, un_nl, op_addi, op_subi, ix_l, ix_t, e_cst, e_op, e_cmp, e_un, e_and, e_or, e_not, e_ifx, e_tup, e_lst, e_new, e_frz, e_idx, e_slc, e_rev, e_call, e_callm, e_calln, e_make, e_attr, e_isi, e_pop0, e_lc, e_seq, e_enum, e_rng, e_nil, e_cons, e_no, e_opt, x_skip, x_seq, x_asg, x_par, x_app, x_ext, x_setI, x_ret, x_ifs, x_for, x_whl, opK_v, cmpK_v, unK_v, idxK_v, slcK_v, revK_v, optK_v, isiK_v, boolK_t, boolK_f, notK_v, ifsK_t, ifsK_f, seqK_s, seqK_l, seqK_t, enumK_l, asgK_n, frz_v, pl_nil, pl_cons, fromP_ok, fromP_ex, Option.map_some, Option.map_none, List.getElem?_cons_zero, List.getElem?_cons_succ, List.set_cons_zero, List.set_cons_succ, Bool.not_true, Bool.not_false, lst0, cmp_nil (ts := []) (fun t h => by simp at h), List.isEmpty_nil]
theorem condJ_cons {Cn : CE} {S : List Tok} {a : Nat} {k : Bool} {p : Nat} {o : Option U} {acc : List Tr} (hne : acc ≠ []) (h : ∀ t ∈ acc, nd t ≤ 59) : condJ Cn (rhoJ S a k p o) (cellT acc) = .ok (.v (.bl ((S.drop p).take 3 == sepT k))) (cellT acc) := by
  unfold condJ rhoJ
  have e : acc.isEmpty = false := by
    cases acc with
    | nil => exact absurd rfl hne
    | cons _ _ => rfl
  have lk : ∀ m, lstK [.v (.str [32]), .v (.str (kw k)), .v (.str [32])] m = .ok (.v (.lst ((sepT k).map D.str))) m := fun m => by
    unfold lstK
    simp only [bnd_ok, bnd_ex, bnd_no, out_ok, out_ex, out_no, seq_nx, seq_rt, seq_ex, res_some, res_none, outR_rt, outR_nx, outR_ex, pureP_v, pureP_ex, see_v, ask_str, ask_int, ask_bl, ask_non, eqD_str, eqD_int, eqD_bl, eqD_non, e_var, varK_s, e_chain, chain_i, c2_lt, c2_le, c2_gt, c2_ge, c2_eqs, c2_nes, c2_eqi, c2_nei, c2_eqb, c2_neb, c2_in1, un_lens, un_lenl, un_lent, un_lenc, un_ii, un_ib, un_all, un_neg, un_n0, un_nt, un_nl, op_addi, op_subi, ix_l, ix_t, e_cst, e_op, e_cmp, e_un, e_and, e_or, e_not, e_ifx, e_tup, e_lst, e_new, e_frz, e_idx, e_slc, e_rev, e_call, e_callm, e_calln, e_make, e_attr, e_isi, e_pop0, e_lc, e_seq, e_enum, e_rng, e_nil, e_cons, e_no, e_opt, x_skip, x_seq, x_asg, x_par, x_app, x_ext, x_setI, x_ret, x_ifs, x_for, x_whl, opK_v, cmpK_v, unK_v, idxK_v, slcK_v, revK_v, optK_v, isiK_v, boolK_t, boolK_f, notK_v, ifsK_t, ifsK_f, seqK_s, seqK_l, seqK_t, enumK_l, asgK_n, frz_v, pl_nil, pl_cons, fromP_ok, fromP_ex, Option.map_some, Option.map_none, List.getElem?_cons_zero, List.getElem?_cons_succ, List.set_cons_zero, List.set_cons_succ, Bool.not_true, Bool.not_false]
    rw [if_pos (by show 3 ≤ lim; decide)]
    rfl
  have sl : slc2 (sD S) (some (p : Int)) (some ((p : Int) + 3)) = some (.lst (((S.drop p).take 3).map D.str)) := by
    have := sl_s S p (p + 3) (by omega)
    rw [show p + 3 - p = 3 by omega] at this
    exact this
  simp only [bnd_ok, bnd_ex, bnd_no, out_ok, out_ex, out_no, seq_nx, seq_rt, seq_ex, res_some, res_none, outR_rt, outR_nx, outR_ex, pureP_v, pureP_ex, see_v, ask_str, ask_int, ask_bl, ask_non, eqD_str, eqD_int, eqD_bl, eqD_non, e_var, varK_s, e_chain, chain_i, c2_lt, c2_le, c2_gt, c2_ge, c2_eqs, c2_nes, c2_eqi, c2_nei, c2_eqb, c2_neb, c2_in1, un_lens, un_lenl, un_lent, un_lenc, un_ii, un_ib, un_all, un_neg, un_n0, un_nt, un_nl, op_addi, op_subi, ix_l, ix_t, e_cst, e_op, e_cmp, e_un, e_and, e_or, e_not, e_ifx, e_tup, e_lst, e_new, e_frz, e_idx, e_slc, e_rev, e_call, e_callm, e_calln, e_make, e_attr, e_isi, e_pop0, e_lc, e_seq, e_enum, e_rng, e_nil, e_cons, e_no, e_opt, x_skip, x_seq, x_asg, x_par, x_app, x_ext, x_setI, x_ret, x_ifs, x_for, x_whl, opK_v, cmpK_v, unK_v, idxK_v, slcK_v, revK_v, optK_v, isiK_v, boolK_t, boolK_f, notK_v, ifsK_t, ifsK_f, seqK_s, seqK_l, seqK_t, enumK_l, asgK_n, frz_v, pl_nil, pl_cons, fromP_ok, fromP_ex, Option.map_some, Option.map_none, List.getElem?_cons_zero, List.getElem?_cons_succ, List.set_cons_zero, List.set_cons_succ, Bool.not_true, Bool.not_false, lst0, cmp_nil h, e, lk, sl, c2_eql]
theorem bodyJ_ok {n : Nat} {S : List Tok} {a : Nat} {k : Bool} {here : Int} {o : Option U} {acc : List Tr} {b q : Nat} {t : Tr} (hb : here + 3 = (b : Int)) (hl : acc.length < lim)
    (hc : (if k then (C n).fn ix.read_single [sD S, .int (b : Int)] else (C n).fn ix.read_joined [sD S, .int (b : Int), .str wAnd]) = .ok (.tup [toD t, .int (q : Int)])) :
    bodyJ (C n) ix (rhoJ S a k here o) (cellT acc) = .nx (rhoJ S a k q (some (.v (toD t)))) (cellT (acc ++ [t])) := by
  unfold bodyJ rhoJ
  cases k with
  | true =>
    have call : ∀ m, callK (C n) ix.read_single [.v (sD S), .v (.int (b : Int))] m = .ok (.v (.tup [toD t, .int (q : Int)])) m := fun m => callK_ok rfl hc
    simp only [bnd_ok, bnd_ex, bnd_no, out_ok, out_ex, out_no, seq_nx, seq_rt, seq_ex, res_some, res_none, outR_rt, outR_nx, outR_ex, pureP_v, pureP_ex, see_v, ask_str, ask_int, ask_bl, ask_non, eqD_str, eqD_int, eqD_bl, eqD_non, e_var, varK_s, e_chain, chain_i, c2_lt, c2_le, c2_gt, c2_ge, c2_eqs, c2_nes, c2_eqi, c2_nei, c2_eqb, c2_neb, c2_in1, un_lens, un_lenl, un_lent, un_lenc, un_ii, un_ib, un_all, un_neg, un_n0, un_nt, un_nl, op_addi, op_subi, ix_l, ix_t, e_cst, e_op, e_cmp, e_un, e_and, e_or, e_not, e_ifx, e_tup, e_lst, e_new, e_frz, e_idx, e_slc, e_rev, e_call, e_callm, e_calln, e_make, e_attr, e_isi, e_pop0, e_lc, e_seq, e_enum, e_rng, e_nil, e_cons, e_no, e_opt, x_skip, x_seq, x_asg, x_par, x_app, x_ext, x_setI, x_ret, x_ifs, x_for, x_whl, opK_v, cmpK_v, unK_v, idxK_v, slcK_v, revK_v, optK_v, isiK_v, boolK_t, boolK_f, notK_v, ifsK_t, ifsK_f, seqK_s, seqK_l, seqK_t, enumK_l, asgK_n, frz_v, pl_nil, pl_cons, fromP_ok, fromP_ex, Option.map_some, Option.map_none, List.getElem?_cons_zero, List.getElem?_cons_succ, List.set_cons_zero, List.set_cons_succ, Bool.not_true, Bool.not_false, hb]
    rw [show (kw true == [97, 110, 100]) = true from rfl]
    simp only [bnd_ok, bnd_ex, bnd_no, out_ok, out_ex, out_no, seq_nx, seq_rt, seq_ex, res_some, res_none, outR_rt, outR_nx, outR_ex, pureP_v, pureP_ex, see_v, ask_str, ask_int, ask_bl, ask_non, eqD_str, eqD_int, eqD_bl, eqD_non, e_var, varK_s, e_chain, chain_i, c2_lt, c2_le, c2_gt, c2_ge, c2_eqs, c2_nes, c2_eqi, c2_nei, c2_eqb, c2_neb, c2_in1, un_lens, un_lenl, un_lent, un_lenc, un_ii, un_ib, un_all, un_neg, un_n0, un_nt, un_nl, op_addi, op_subi, ix_l, ix_t, e_cst, e_op, e_cmp, e_un, e_and, e_or, e_not, e_ifx, e_tup, e_lst, e_new, e_frz, e_idx, e_slc, e_rev, e_call, e_callm, e_calln, e_make, e_attr, e_isi, e_pop0, e_lc, e_seq, e_enum, e_rng, e_nil, e_cons, e_no, e_opt, x_skip, x_seq, x_asg, x_par, x_app, x_ext, x_setI, x_ret, x_ifs, x_for, x_whl, opK_v, cmpK_v, unK_v, idxK_v, slcK_v, revK_v, optK_v, isiK_v, boolK_t, boolK_f, notK_v, ifsK_t, ifsK_f, seqK_s, seqK_l, seqK_t, enumK_l, asgK_n, frz_v, pl_nil, pl_cons, fromP_ok, fromP_ex, Option.map_some, Option.map_none, List.getElem?_cons_zero, List.getElem?_cons_succ, List.set_cons_zero, List.set_cons_succ, Bool.not_true, Bool.not_false, call, asg2, toD_isN, lstAt_cellT]
    rw [app_cellT _ _ hl]
  | false =>
    have call : ∀ m, callK (C n) ix.read_joined [.v (sD S), .v (.int (b : Int)), .v (.str [97, 110, 100])] m = .ok (.v (.tup [toD t, .int (q : Int)])) m := fun m => callK_ok rfl hc
    simp only [bnd_ok, bnd_ex, bnd_no, out_ok, out_ex, out_no, seq_nx, seq_rt, seq_ex, res_some, res_none, outR_rt, outR_nx, outR_ex, pureP_v, pureP_ex, see_v, ask_str, ask_int, ask_bl, ask_non, eqD_str, eqD_int, eqD_bl, eqD_non, e_var, varK_s, e_chain, chain_i, c2_lt, c2_le, c2_gt, c2_ge, c2_eqs, c2_nes, c2_eqi, c2_nei, c2_eqb, c2_neb, c2_in1, un_lens, un_lenl, un_lent, un_lenc, un_ii, un_ib, un_all, un_neg, un_n0, un_nt, un_nl, op_addi, op_subi, ix_l, ix_t, e_cst, e_op, e_cmp, e_un, e_and, e_or, e_not, e_ifx, e_tup, e_lst, e_new, e_frz, e_idx, e_slc, e_rev, e_call, e_callm, e_calln, e_make, e_attr, e_isi, e_pop0, e_lc, e_seq, e_enum, e_rng, e_nil, e_cons, e_no, e_opt, x_skip, x_seq, x_asg, x_par, x_app, x_ext, x_setI, x_ret, x_ifs, x_for, x_whl, opK_v, cmpK_v, unK_v, idxK_v, slcK_v, revK_v, optK_v, isiK_v, boolK_t, boolK_f, notK_v, ifsK_t, ifsK_f, seqK_s, seqK_l, seqK_t, enumK_l, asgK_n, frz_v, pl_nil, pl_cons, fromP_ok, fromP_ex, Option.map_some, Option.map_none, List.getElem?_cons_zero, List.getElem?_cons_succ, List.set_cons_zero, List.set_cons_succ, Bool.not_true, Bool.not_false, hb]
    rw [show (kw false == [97, 110, 100]) = false from rfl]
    simp only [bnd_ok, bnd_ex, bnd_no, out_ok, out_ex, out_no, seq_nx, seq_rt, seq_ex, res_some, res_none, outR_rt, outR_nx, outR_ex, pureP_v, pureP_ex, see_v, ask_str, ask_int, ask_bl, ask_non, eqD_str, eqD_int, eqD_bl, eqD_non, e_var, varK_s, e_chain, chain_i, c2_lt, c2_le, c2_gt, c2_ge, c2_eqs, c2_nes, c2_eqi, c2_nei, c2_eqb, c2_neb, c2_in1, un_lens, un_lenl, un_lent, un_lenc, un_ii, un_ib, un_all, un_neg, un_n0, un_nt, un_nl, op_addi, op_subi, ix_l, ix_t, e_cst, e_op, e_cmp, e_un, e_and, e_or, e_not, e_ifx, e_tup, e_lst, e_new, e_frz, e_idx, e_slc, e_rev, e_call, e_callm, e_calln, e_make, e_attr, e_isi, e_pop0, e_lc, e_seq, e_enum, e_rng, e_nil, e_cons, e_no, e_opt, x_skip, x_seq, x_asg, x_par, x_app, x_ext, x_setI, x_ret, x_ifs, x_for, x_whl, opK_v, cmpK_v, unK_v, idxK_v, slcK_v, revK_v, optK_v, isiK_v, boolK_t, boolK_f, notK_v, ifsK_t, ifsK_f, seqK_s, seqK_l, seqK_t, enumK_l, asgK_n, frz_v, pl_nil, pl_cons, fromP_ok, fromP_ex, Option.map_some, Option.map_none, List.getElem?_cons_zero, List.getElem?_cons_succ, List.set_cons_zero, List.set_cons_succ, Bool.not_true, Bool.not_false, call, asg2, toD_isN, lstAt_cellT]
    rw [app_cellT _ _ hl]
theorem whl_step {t : Ro → Mu → R U} {f : Ro → Mu → O} {n : Nat} {ρ ρ' : Ro} {m m' : Mu} (h : t ρ m = .ok (.v (.bl true)) m) (h2 : f ρ m = .nx ρ' m') : whlL t f (n + 1) ρ m = whlL t f n ρ' m' := by
  rw [whlL, h]
  dsimp only
  rw [h2]
theorem whl_end {t : Ro → Mu → R U} {f : Ro → Mu → O} {n : Nat} {ρ : Ro} {m : Mu} (h : t ρ m = .ok (.v (.bl false)) m) : whlL t f (n + 1) ρ m = .nx ρ m := by
  rw [whlL, h]
theorem sep_no (r : List Tok) : NoSep true (sepT false ++ r) := by
  unfold NoSep sepT
  rfl
theorem tail_no {us : List (List Tok)} {rest : List Tok} (h : NoSep true rest) : NoSep true (tailT false us ++ rest) := by
  cases us with
  | nil => exact h
  | cons u us =>
    rw [tailT, List.append_assoc]
    exact sep_no _
theorem loopJ {n N : Nat} {S : List Tok} {a : Nat} {k : Bool} {rest : List Tok} (sg : Sg S) (hn : N ≤ n) (h1 : NoSep k rest) (h2 : k = false → NoSep true rest) : ∀ (ps : List (List Tok × Tr)) (acc : List Tr) (p j : Nat) (o : Option U), Parts C ix k N ps → acc ≠ [] → (∀ t ∈ acc, nd t ≤ 50) → acc.length + ps.length ≤ 1000 → ps.length < j → S.drop p = tailT k (ps.map Prod.fst) ++ rest →
    ∃ o', whlL (condJ (C n)) (bodyJ (C n) ix) j (rhoJ S a k p o) (cellT acc) = .nx (rhoJ S a k ((p + (tailT k (ps.map Prod.fst)).length : Nat) : Int) o') (cellT (acc ++ ps.map Prod.snd))
  | [], acc, p, j, o, _, hne, hd, _, hj, e => by
    obtain ⟨j, rfl⟩ : ∃ i, j = i + 1 := ⟨j - 1, by simp at hj; omega⟩
    refine ⟨o, ?_⟩
    rw [whl_end]
    · simp [tailT]
    · rw [condJ_cons hne fun t ht => Nat.le_trans (hd t ht) (by decide), e]
      rw [show ([] : List (List Tok × Tr)).map Prod.fst = [] from rfl, tailT, List.nil_append, h1]
  | (u, t) :: ps, acc, p, j, o, hp, hne, hd, hl, hj, e => by
    obtain ⟨j, rfl⟩ : ∃ i, j = i + 1 := ⟨j - 1, by simp at hj; omega⟩
    have e0 : S.drop p = sepT k ++ (u ++ (tailT k (ps.map Prod.fst) ++ rest)) := by
      rw [e]
      simp [tailT]
    have e1 : S.drop (p + 3) = u ++ (tailT k (ps.map Prod.fst) ++ rest) := drop_add (u := sepT k) e0
    have e2 : S.drop (p + 3 + u.length) = tailT k (ps.map Prod.fst) ++ rest := drop_add e1
    obtain ⟨ho, hm⟩ := hp (u, t) List.mem_cons_self
    have hc := ho n hn S (p + 3) _ sg e1 (fun z => by subst z; exact tail_no (h2 rfl))
    have hlim : lim = 1000000 := rfl
    simp at hl
    obtain ⟨o', hi⟩ := loopJ sg hn h1 h2 ps (acc ++ [t]) (p + 3 + u.length) j (some (.v (toD t))) (fun q hq => hp q (List.mem_cons_of_mem _ hq)) (by simp) (fun x hx => by
      rcases List.mem_append.mp hx with hx | hx
      · exact hd x hx
      · simp at hx
        subst hx
        exact hm) (by simp; omega) (by simp at hj; omega) e2
    refine ⟨o', ?_⟩
    rw [whl_step (ρ' := rhoJ S a k ((p + 3 + u.length : Nat) : Int) (some (.v (toD t)))) (m' := cellT (acc ++ [t])), hi]
    · congr 1
      · congr 1
        simp [tailT, sepT]
        omega
      · simp
    · rw [condJ_cons hne fun t ht => Nat.le_trans (hd t ht) (by decide), e0]
      congr 3
      show (sepT k == sepT k) = true
      simp
    · exact bodyJ_ok (b := p + 3) (by omega) (by omega) hc
theorem frz_cellT (ts : List Tr) : frzU (cellT ts) (.p 0) = .ok (.v (.lst (ts.map toD))) [.fz (.lst (ts.map toD))] := by
  show (match seeM (.lst ((ts.map toD).map U.v)) with
    | some d => R.ok (U.v d) [M.fz d]
    | none => .no) = _
  rw [seeM_map]
theorem joined_ok (hp : HP C ix) {k : Bool} {N : Nat} {ps : List (List Tok × Tr)} (hps : Parts C ix k N ps) (hne : ps ≠ []) (hl : ps.length ≤ 1000) (hf : ((ps.map Prod.snd).flatMap (inOp k)) ≠ []) (hf2 : ((ps.map Prod.snd).flatMap (inOp k)).length ≤ lim)
    {n : Nat} (hn : N + 1 ≤ n) (S : List Tok) (a : Nat) (rest : List Tok) (sg : Sg S) (hd : S.drop a = joinT k (ps.map Prod.fst) ++ rest) (h1 : NoSep k rest) (h2 : k = false → NoSep true rest) (hN : 1 ≤ N) :
    (C n).fn ix.read_joined [sD S, .int (a : Int), .str (kw k)] = .ok (.tup [toD (treeOf k (ps.map Prod.snd)), .int ((a + (joinT k (ps.map Prod.fst)).length : Nat) : Int)]) := by
  obtain ⟨n, rfl⟩ : ∃ j, n = j + 1 := ⟨n - 1, by omega⟩
  rw [fn_of_fa hp.joined n _ rfl]
  show pureP (outR (xs (C n) (Lb.read_joined ix).body [some (.v (sD S)), some (.v (.int a)), some (.v (.str (kw k))), none, none, none] [])) = _
  have nw : newK [] [] = .ok (.p 0) (cellT []) := by
    unfold newK
    rw [if_pos (by show 0 ≤ lim; exact Nat.zero_le _)]
    rfl
  cases ps with
  | nil => exact absurd rfl hne
  | cons q ps =>
    obtain ⟨u, t⟩ := q
    rw [List.map_cons, join_tail, List.append_assoc] at hd
    have e2 : S.drop (a + u.length) = tailT k (ps.map Prod.fst) ++ rest := drop_add hd
    obtain ⟨ho, hm⟩ := hps (u, t) List.mem_cons_self
    have hc := ho n (by omega) S a _ sg hd (fun z => by subst z; exact tail_no (h2 rfl))
    simp at hl
    obtain ⟨o', hi⟩ := loopJ (a := a) (n := n) sg (by omega) h1 h2 ps [t] (a + u.length) 999999 (some (.v (toD t))) (fun q hq => hps q (List.mem_cons_of_mem _ hq)) (by simp) (fun x hx => by
      simp at hx
      subst hx
      exact hm) (by simp; omega) (by omega) e2
    have st : whlL (condJ (C n)) (bodyJ (C n) ix) turns (rhoJ S a k ((a : Int) - 3) none) (cellT []) = .nx (rhoJ S a k ((a + (joinT k (((u, t) :: ps).map Prod.fst)).length : Nat) : Int) o') (cellT (((u, t) :: ps).map Prod.snd)) := by
      show whlL _ _ (999999 + 1) _ _ = _
      rw [whl_step (ρ' := rhoJ S a k ((a + u.length : Nat) : Int) (some (.v (toD t)))) (m' := cellT ([] ++ [t])) condJ_nil (bodyJ_ok (b := a) (by omega) (by decide) hc), List.nil_append, hi]
      congr 1
      congr 1
      rw [List.map_cons, join_tail]
      simp
      omega
    have call : ∀ m, callK (C n) ix.tree_of [.v (.str (kw k)), .v (.lst ((((u, t) :: ps).map Prod.snd).map toD))] m = .ok (.v (toD (treeOf k (((u, t) :: ps).map Prod.snd)))) m := fun m => by
      obtain ⟨i, rfl⟩ : ∃ i, n = i + 1 := ⟨n - 1, by omega⟩
      exact callK_ok rfl (tree_of_ok hp.treeof i k _ hf hf2)
    unfold Lb.read_joined
    simp only [bnd_ok, bnd_ex, bnd_no, out_ok, out_ex, out_no, seq_nx, seq_rt, seq_ex, res_some, res_none, outR_rt, outR_nx, outR_ex, pureP_v, pureP_ex, see_v, ask_str, ask_int, ask_bl, ask_non, eqD_str, eqD_int, eqD_bl, eqD_non, e_var, varK_s, e_chain, chain_i, c2_lt, c2_le, c2_gt, c2_ge, c2_eqs, c2_nes, c2_eqi, c2_nei, c2_eqb, c2_neb, c2_in1, un_lens, un_lenl, un_lent, un_lenc, un_ii, un_ib, un_all, un_neg, un_n0, un_nt, un_nl, op_addi, op_subi, ix_l, ix_t, e_cst, e_op, e_cmp, e_un, e_and, e_or, e_not, e_ifx, e_tup, e_lst, e_new, e_frz, e_idx, e_slc, e_rev, e_call, e_callm, e_calln, e_make, e_attr, e_isi, e_pop0, e_lc, e_seq, e_enum, e_rng, e_nil, e_cons, e_no, e_opt, x_skip, x_seq, x_asg, x_par, x_app, x_ext, x_setI, x_ret, x_ifs, x_for, x_whl, opK_v, cmpK_v, unK_v, idxK_v, slcK_v, revK_v, optK_v, isiK_v, boolK_t, boolK_f, notK_v, ifsK_t, ifsK_f, seqK_s, seqK_l, seqK_t, enumK_l, asgK_n, frz_v, pl_nil, pl_cons, fromP_ok, fromP_ex, Option.map_some, Option.map_none, List.getElem?_cons_zero, List.getElem?_cons_succ, List.set_cons_zero, List.set_cons_succ, Bool.not_true, Bool.not_false, nw]
    show pureP (outR (O.seq (whlL (condJ (C n)) (bodyJ (C n) ix) turns (rhoJ S a k ((a : Int) - 3) none) (cellT [])) _)) = _
    rw [st]
    unfold rhoJ
    simp only [bnd_ok, bnd_ex, bnd_no, out_ok, out_ex, out_no, seq_nx, seq_rt, seq_ex, res_some, res_none, outR_rt, outR_nx, outR_ex, pureP_v, pureP_ex, see_v, ask_str, ask_int, ask_bl, ask_non, eqD_str, eqD_int, eqD_bl, eqD_non, e_var, varK_s, e_chain, chain_i, c2_lt, c2_le, c2_gt, c2_ge, c2_eqs, c2_nes, c2_eqi, c2_nei, c2_eqb, c2_neb, c2_in1, un_lens, un_lenl, un_lent, un_lenc, un_ii, un_ib, un_all, un_neg, un_n0, un_nt, un_nl, op_addi, op_subi, ix_l, ix_t, e_cst, e_op, e_cmp, e_un, e_and, e_or, e_not, e_ifx, e_tup, e_lst, e_new, e_frz, e_idx, e_slc, e_rev, e_call, e_callm, e_calln, e_make, e_attr, e_isi, e_pop0, e_lc, e_seq, e_enum, e_rng, e_nil, e_cons, e_no, e_opt, x_skip, x_seq, x_asg, x_par, x_app, x_ext, x_setI, x_ret, x_ifs, x_for, x_whl, opK_v, cmpK_v, unK_v, idxK_v, slcK_v, revK_v, optK_v, isiK_v, boolK_t, boolK_f, notK_v, ifsK_t, ifsK_f, seqK_s, seqK_l, seqK_t, enumK_l, asgK_n, frz_v, pl_nil, pl_cons, fromP_ok, fromP_ex, Option.map_some, Option.map_none, List.getElem?_cons_zero, List.getElem?_cons_succ, List.set_cons_zero, List.set_cons_succ, Bool.not_true, Bool.not_false, frz_cellT, call, tup2]
end
end At

/-! A tree's signs are read as the tree. -/
namespace At
open PySem
def isOp : Tr → Bool
  | .op _ _ => true
  | _ => false
def isK (k : Bool) : Tr → Bool
  | .op k' _ => k' == k
  | _ => false
def br (b : Bool) (U : List Tok) : List Tok := if b then tLp :: (U ++ [tRp]) else U
mutual
def tkF : Tr → List Tok
  | .word w => [w]
  | .all => [wAll]
  | .none => [wNone]
  | .not t => [wNot, tSp] ++ br (isOp t) (tkF t)
  | .op k ts => joinT k (tkFs k ts)
def tkFs (k : Bool) : List Tr → List (List Tok)
  | [] => []
  | t :: ts => br (k && isOp t) (tkF t) :: tkFs k ts
end
mutual
def nf : Tr → Bool
  | .word w => isWord w
  | .all => true
  | .none => true
  | .not t => nf t
  | .op k ts => decide (2 ≤ ts.length) && (decide (ts.length ≤ 1000) && nfs k ts)
def nfs (k : Bool) : List Tr → Bool
  | [] => true
  | t :: ts => nf t && (!isK k t && nfs k ts)
end
theorem inOp_no {k : Bool} {t : Tr} (h : isK k t = false) : inOp k t = [t] := by
  cases t with
  | op k' ts =>
    refine if_neg fun e => ?_
    subst e
    simp [isK] at h
  | _ => rfl
theorem flat_no {k : Bool} : ∀ {ts : List Tr}, nfs k ts = true → ts.flatMap (inOp k) = ts
  | [], _ => rfl
  | t :: ts, h => by
    rw [nfs] at h
    simp at h
    rw [List.flatMap_cons, inOp_no h.2.1, flat_no h.2.2]
    rfl
theorem treeOf_nf {k : Bool} {ts : List Tr} (h : nfs k ts = true) (hl : 2 ≤ ts.length) : treeOf k ts = .op k ts := by
  unfold treeOf
  rw [flat_no h]
  cases ts with
  | nil => simp at hl
  | cons t ts =>
    cases ts with
    | nil => simp at hl
    | cons u ts => rfl
theorem treeOf_one {k : Bool} {t : Tr} (h : isK k t = false) : treeOf k [t] = t := by
  unfold treeOf
  rw [List.flatMap_cons, inOp_no h]
  rfl
section
variable {C : Nat → CE} {ix : Lb.Ix}
theorem OpP.mono {k : Bool} {N M : Nat} {U : List Tok} {t : Tr} (h : OpP C ix k N U t) (hm : N ≤ M) : OpP C ix k M U t := fun n hn => h n (Nat.le_trans hm hn)
theorem Parts.mono {k : Bool} {N M : Nat} {ps : List (List Tok × Tr)} (h : Parts C ix k N ps) (hm : N ≤ M) : Parts C ix k M ps := fun p hp => ⟨(h p hp).1.mono hm, (h p hp).2⟩
theorem parts_one {k : Bool} {N : Nat} {U : List Tok} {t : Tr} (h : OpP C ix k N U t) (hd : nd t ≤ 50) : Parts C ix k N [(U, t)] := fun p hp => by
  simp at hp
  subst hp
  exact ⟨h, hd⟩
/-- what is joined by and, as a part of or -/
theorem op_and (hp : HP C ix) {N : Nat} {ps : List (List Tok × Tr)} {t : Tr} (h : Parts C ix true N ps) (hne : ps ≠ []) (hl : ps.length ≤ 1000) (hN : 1 ≤ N) (hf : (ps.map Prod.snd).flatMap (inOp true) = ps.map Prod.snd) (ht : treeOf true (ps.map Prod.snd) = t) : OpP C ix false (N + 1) (joinT true (ps.map Prod.fst)) t := fun n hn S a rest sg hd hs => by
  have hlim : lim = 1000000 := rfl
  have := joined_ok hp h hne hl (by rw [hf]; simpa using hne) (by rw [hf]; simp; omega) hn S a rest sg hd (hs rfl) (fun z => nomatch z) hN
  rw [ht] at this
  exact this
/-- what is joined by or -/
theorem any_or (hp : HP C ix) {N : Nat} {ps : List (List Tok × Tr)} {t : Tr} (h : Parts C ix false N ps) (hne : ps ≠ []) (hl : ps.length ≤ 1000) (hN : 1 ≤ N) (hf : (ps.map Prod.snd).flatMap (inOp false) = ps.map Prod.snd) (ht : treeOf false (ps.map Prod.snd) = t) (n : Nat) (hn : N + 2 ≤ n) (S : List Tok) (a : Nat) (rest : List Tok) (sg : Sg S) (hd : S.drop a = joinT false (ps.map Prod.fst) ++ rest) (h1 : NoSep true rest) (h2 : NoSep false rest) :
    (C n).fn ix.read_any [sD S, .int (a : Int)] = .ok (.tup [toD t, .int ((a + (joinT false (ps.map Prod.fst)).length : Nat) : Int)]) := by
  have hlim : lim = 1000000 := rfl
  obtain ⟨n, rfl⟩ : ∃ j, n = j + 1 := ⟨n - 1, by omega⟩
  have := joined_ok hp h hne hl (by rw [hf]; simpa using hne) (by rw [hf]; simp; omega) (n := n) (by omega) S a rest sg hd h2 (fun _ => h1) hN
  rw [ht] at this
  have call : ∀ m, callK (C n) ix.read_joined [.v (sD S), .v (.int (a : Int)), .v (.str [111, 114])] m = .ok (.v (.tup [toD t, .int ((a + (joinT false (ps.map Prod.fst)).length : Nat) : Int)])) m := fun m => callK_ok rfl this
  rw [fn_of_fa hp.any n _ rfl]
  show pureP (outR (xs (C n) (Lb.read_any ix).body [some (.v (sD S)), some (.v (.int a))] [])) = _
  unfold Lb.read_any
  simp only [bnd_ok, bnd_ex, bnd_no, out_ok, out_ex, out_no, seq_nx, seq_rt, seq_ex, res_some, res_none, outR_rt, outR_nx, outR_ex, pureP_v, pureP_ex, see_v, ask_str, ask_int, ask_bl, ask_non, eqD_str, eqD_int, eqD_bl, eqD_non, e_var, varK_s, e_chain, chain_i, c2_lt, c2_le, c2_gt, c2_ge, c2_eqs, c2_nes, c2_eqi, c2_nei, c2_eqb, c2_neb, c2_in1, un_lens, un_lenl, un_lent, un_lenc, un_ii, un_ib, un_all, un_neg, un_n0, un_nt, un_nl, op_addi, op_subi, ix_l, ix_t, e_cst, e_op, e_cmp, e_un, e_and, e_or, e_not, e_ifx, e_tup, e_lst, e_new, e_frz, e_idx, e_slc, e_rev, e_call, e_callm, e_calln, e_make, e_attr, e_isi, e_pop0, e_lc, e_seq, e_enum, e_rng, e_nil, e_cons, e_no, e_opt, x_skip, x_seq, x_asg, x_par, x_app, x_ext, x_setI, x_ret, x_ifs, x_for, x_whl, opK_v, cmpK_v, unK_v, idxK_v, slcK_v, revK_v, optK_v, isiK_v, boolK_t, boolK_f, notK_v, ifsK_t, ifsK_f, seqK_s, seqK_l, seqK_t, enumK_l, asgK_n, frz_v, pl_nil, pl_cons, fromP_ok, fromP_ex, Option.map_some, Option.map_none, List.getElem?_cons_zero, List.getElem?_cons_succ, List.set_cons_zero, List.set_cons_succ, Bool.not_true, Bool.not_false, call]
def AnyP (C : Nat → CE) (ix : Lb.Ix) (N : Nat) (U : List Tok) (t : Tr) : Prop := ∀ n, N ≤ n → ∀ (S : List Tok) (a : Nat) (rest : List Tok), Sg S → S.drop a = U ++ rest → NoSep true rest → NoSep false rest → (C n).fn ix.read_any [sD S, .int (a : Int)] = .ok (.tup [toD t, .int ((a + U.length : Nat) : Int)])
def pz (k : Bool) : List Tr → List (List Tok × Tr)
  | [] => []
  | t :: ts => (br (k && isOp t) (tkF t), t) :: pz k ts
theorem pz_fst (k : Bool) : ∀ ts : List Tr, (pz k ts).map Prod.fst = tkFs k ts
  | [] => by rw [tkFs]; rfl
  | t :: ts => by rw [pz, tkFs, List.map_cons, pz_fst k ts]
theorem pz_snd (k : Bool) : ∀ ts : List Tr, (pz k ts).map Prod.snd = ts
  | [] => rfl
  | t :: ts => by rw [pz, List.map_cons, pz_snd k ts]
theorem pz_len (k : Bool) (ts : List Tr) : (pz k ts).length = ts.length := by
  have := congrArg List.length (pz_snd k ts)
  rwa [List.length_map] at this
/-- what is said of a tree: in brackets where it needs them, alone, and its parts -/
structure Rd (C : Nat → CE) (ix : Lb.Ix) (t : Tr) : Prop where
  single : OpP C ix true (nd t) (br (isOp t) (tkF t)) t
  orp : isK false t = false → OpP C ix false (nd t + 1) (tkF t) t
  any : AnyP C ix (nd t + 3) (tkF t) t
theorem rd_leaf (hp : HP C ix) {t : Tr} (ho : isOp t = false) (hd : nd t ≤ 50) (h : OpP C ix true (nd t) (tkF t) t) : Rd C ix t := by
  have hk : ∀ k, isK k t = false := fun k => by
    cases t with
    | op k ts => cases ho
    | _ => rfl
  have n4 := nd_ge t
  have o : OpP C ix false (nd t + 1) (tkF t) t := op_and hp (parts_one h hd) (by simp) (by simp) (by omega) (by simp [inOp_no (hk true)]) (treeOf_one (hk true))
  refine ⟨by rw [ho]; exact h, fun _ => o, ?_⟩
  intro n hn S a rest sg hd' h1 h2
  exact any_or hp (parts_one o hd) (by simp) (by simp) (by omega) (by simp [inOp_no (hk false)]) (treeOf_one (hk false)) n (by omega) S a rest sg hd' h1 h2
theorem rd_op (hp : HP C ix) {k : Bool} {ts : List Tr} (hf : nfs k ts = true) (hl : 2 ≤ ts.length) (hl2 : ts.length ≤ 1000) (hd : nd (.op k ts) ≤ 50) (h : ∀ t ∈ ts, Rd C ix t) : Rd C ix (.op k ts) := by
  have nm : nd (.op k ts) = nd.nds ts + 4 := by rw [nd]
  have n4 := nds_ge ts
  have ps : Parts C ix k (nd.nds ts + if k then 0 else 1) (pz k ts) := by
    have go : ∀ us : List Tr, (∀ t ∈ us, t ∈ ts) → nfs k us = true → Parts C ix k (nd.nds ts + if k then 0 else 1) (pz k us) := by
      intro us
      induction us with
      | nil => intro _ _ p hp; simp [pz] at hp
      | cons u us ih =>
        intro hm hn p hpp
        rw [nfs] at hn
        simp at hn
        rw [pz] at hpp
        rcases List.mem_cons.mp hpp with rfl | hpp
        · have hu := hm u List.mem_cons_self
          have r := h u hu
          have le := nds_mem hu
          refine ⟨?_, by show nd u ≤ 50; omega⟩
          cases k with
          | true =>
            show OpP C ix true (nd.nds ts + 0) (br (isOp u) (tkF u)) u
            exact r.single.mono (by omega)
          | false =>
            show OpP C ix false (nd.nds ts + 1) (tkF u) u
            exact (r.orp hn.2.1).mono (by omega)
        · exact ih (fun t ht => hm t (List.mem_cons_of_mem _ ht)) hn.2.2 p hpp
    exact go ts (fun t ht => ht) hf
  have hne : pz k ts ≠ [] := fun e => by
    have := pz_len k ts
    rw [e] at this
    simp at this
    omega
  have hln : (pz k ts).length ≤ 1000 := by rw [pz_len]; exact hl2
  have tk : tkF (.op k ts) = joinT k ((pz k ts).map Prod.fst) := by rw [tkF, pz_fst]
  have ff : ((pz k ts).map Prod.snd).flatMap (inOp k) = (pz k ts).map Prod.snd := by rw [pz_snd, flat_no hf]
  have tt : treeOf k ((pz k ts).map Prod.snd) = .op k ts := by rw [pz_snd, treeOf_nf hf hl]
  have any : AnyP C ix (nd.nds ts + 3) (tkF (.op k ts)) (.op k ts) ∧ (k = true → OpP C ix false (nd.nds ts + 1) (tkF (.op k ts)) (.op k ts)) := by
    cases k with
    | true =>
      have o : OpP C ix false (nd.nds ts + 1) (tkF (.op true ts)) (.op true ts) := by
        rw [tk]
        exact op_and hp ps hne hln (by omega) ff tt
      refine ⟨?_, fun _ => o⟩
      intro n hn S a rest sg hd' h1 h2
      exact any_or hp (parts_one o hd) (by simp) (by simp) (by omega) rfl (treeOf_one rfl) n (by omega) S a rest sg hd' h1 h2
    | false =>
      refine ⟨?_, fun z => nomatch z⟩
      rw [tk]
      intro n hn S a rest sg hd' h1 h2
      have ps' : Parts C ix false (nd.nds ts + 1) (pz false ts) := ps
      exact any_or hp ps' hne hln (by omega) ff tt n (by omega) S a rest sg hd' h1 h2
  refine ⟨?_, fun hk => ?_, ?_⟩
  · rw [nm]
    show OpP C ix true (nd.nds ts + 3 + 1) (tLp :: (tkF (.op k ts) ++ [tRp])) (.op k ts)
    exact single_br hp any.1
  · cases k with
    | true => exact (any.2 rfl).mono (by omega)
    | false => cases hk
  · intro n hn
    exact any.1 n (by omega)
mutual
theorem rd_ok (hp : HP C ix) : ∀ t : Tr, nf t = true → nd t ≤ 50 → Rd C ix t
  | .word w, h, hd => rd_leaf hp rfl hd (by rw [tkF, nd]; exact single_word hp (by rwa [nf] at h))
  | .all, h, hd => rd_leaf hp rfl hd (by rw [tkF, nd]; exact single_const hp (by decide) (by rw [toD]))
  | .none, h, hd => rd_leaf hp rfl hd (by rw [tkF, nd]; exact single_const hp (by decide) (by rw [toD]))
  | .not t, h, hd => rd_leaf hp rfl hd (by
      rw [tkF, nd]
      rw [nd] at hd
      rw [nf] at h
      exact (single_not hp (rd_ok hp t h (by omega)).single).mono (by omega))
  | .op k ts, h, hd => by
    rw [nf] at h
    simp at h
    have nm : nd (.op k ts) = nd.nds ts + 4 := by rw [nd]
    exact rd_op hp h.2.2 h.1 h.2.1 hd (rds_ok hp k ts h.2.2 (by omega))
theorem rds_ok (hp : HP C ix) (k : Bool) : ∀ ts : List Tr, nfs k ts = true → nd.nds ts ≤ 50 → ∀ t ∈ ts, Rd C ix t
  | [], _, _ => fun t ht => by simp at ht
  | u :: ts, h, hd => fun t ht => by
    rw [nfs] at h
    simp at h
    rw [nd.nds] at hd
    rcases List.mem_cons.mp ht with e | ht
    · rw [e]
      exact rd_ok hp u h.1 (by omega)
    · exact rds_ok hp k ts h.2.2 (by omega) t ht
end
end
/-! ### the signs stand side by side as they may -/
theorem TokOk.app {T : List Tok} (h : TokOk T) : ∀ {s : Tok} {r : List Tok}, isSpT s = true → TokOk (s :: r) → TokOk (T ++ s :: r) := by
  induction h with
  | nil => intro s r _ h; exact h
  | sp hs _ ih => intro s r h1 h2; exact .sp hs (ih h1 h2)
  | wd hs => intro s r h1 h2; cases h2 with
    | sp _ h3 => exact .ws hs h1 h3
    | wd h3 => exact .ws hs h1 .nil
    | ws h3 h4 h5 => exact .ws hs h1 (.sp h4 h5)
  | ws hs ht _ ih => intro s r h1 h2; exact .ws hs ht (ih h1 h2)
theorem tok_br {b : Bool} {U : List Tok} (h : TokOk U) : TokOk (br b U) := by
  cases b with
  | false => exact h
  | true => exact .sp rfl (h.app rfl (.sp rfl .nil))
theorem tok_join {k : Bool} : ∀ {us : List (List Tok)}, (∀ u ∈ us, TokOk u) → TokOk (joinT k us)
  | [], _ => .nil
  | [u], h => h u List.mem_cons_self
  | u :: v :: r, h => by
    rw [joinT]
    have i := tok_join (k := k) (us := v :: r) fun x hx => h x (List.mem_cons_of_mem _ hx)
    refine (h u List.mem_cons_self).app rfl (.sp rfl ?_)
    refine .ws ?_ rfl i
    cases k <;> rfl
theorem letters_no {x : List Nat} (h : isLetters x = true) : ∀ c ∈ x, isSp c = false := by
  intro c hc
  unfold isLetters at h
  simp only [Bool.and_eq_true] at h
  have := List.all_eq_true.mp h.2.2 c hc
  have := of_decide_eq_true this
  have : ∀ c ∈ letters, isSp c = false := by decide
  exact this c (by assumption)
mutual
theorem tok_tk (hw : ∀ w, isWord w = true → wordT w = true) : ∀ t : Tr, nf t = true → TokOk (tkF t)
  | .word w, h => by rw [tkF]; exact .wd (hw w (by rwa [nf] at h))
  | .all, _ => by rw [tkF]; exact .wd rfl
  | .none, _ => by rw [tkF]; exact .wd rfl
  | .not t, h => by
    rw [tkF]
    rw [nf] at h
    exact .ws rfl rfl (tok_br (tok_tk hw t h))
  | .op k ts, h => by
    rw [nf] at h
    simp at h
    rw [tkF]
    exact tok_join (tok_tks hw k ts h.2.2)
theorem tok_tks (hw : ∀ w, isWord w = true → wordT w = true) (k : Bool) : ∀ ts : List Tr, nfs k ts = true → ∀ u ∈ tkFs k ts, TokOk u
  | [], _ => by rw [tkFs]; intro u hu; simp at hu
  | t :: ts, h => by
    rw [nfs] at h
    simp at h
    rw [tkFs]
    intro u hu
    rcases List.mem_cons.mp hu with e | hu
    · rw [e]
      exact tok_br (tok_tk hw t h.1)
    · exact tok_tks hw k ts h.2.2 u hu
end
end At

/-! Formulas made of texts; the words of trees; whether trees hold. -/
namespace At
open PySem
/-! ### words -/
theorem part_len : ∀ (x : List Nat) (acc : List (List Nat)), acc ≠ [] → (x.foldl partStep acc).flatten.length + (x.foldl partStep acc).length = x.length + acc.flatten.length + acc.length
  | [], acc, _ => by simp
  | c :: x, acc, h => by
    rw [List.foldl_cons, part_len x _ (part_ne acc c)]
    obtain ⟨r, a, rfl⟩ := snoc_of h
    unfold partStep
    split
    · simp; omega
    · rw [grow_snoc]; simp; omega
theorem part_mem : ∀ (x : List Nat) (acc : List (List Nat)), acc ≠ [] → ∀ c, (c ∈ acc.flatten ∨ (c ∈ x ∧ c ≠ 64)) → c ∈ (x.foldl partStep acc).flatten
  | [], acc, _, c, h => by
    rcases h with h | h
    · exact h
    · simp at h
  | d :: x, acc, hne, c, h => by
    rw [List.foldl_cons]
    refine part_mem x _ (part_ne acc d) c ?_
    obtain ⟨r, a, rfl⟩ := snoc_of hne
    rcases h with h | ⟨h, h2⟩
    · left
      unfold partStep
      split
      · simp at h ⊢
        exact h
      · rw [grow_snoc]
        simp at h ⊢
        rcases h with h | h
        · exact .inl h
        · exact .inr (.inl h)
    · rcases List.mem_cons.mp h with rfl | h
      · left
        unfold partStep
        rw [if_neg h2, grow_snoc]
        simp
      · exact .inr ⟨h, h2⟩
theorem head_ok {a : List Nat} (h : (a == [116, 104, 101, 114, 101] || isName a) = true) : a.length ≤ 8 ∧ 0 < a.length ∧ ∀ c ∈ a, isSp c = false := by
  rcases Bool.or_eq_true_iff.mp h with h | h
  · have := eq_of_beq h
    subst this
    exact ⟨by decide, by decide, by decide⟩
  · unfold isName at h
    have h := (Bool.and_eq_true_iff.mp h).1
    refine ⟨?_, ?_, letters_no h⟩
    · unfold isLetters at h
      simp at h
      exact h.2.1
    · unfold isLetters at h
      simp at h
      exact h.1
theorem word_facts {x : List Nat} (h : isWord x = true) : x.length ≤ 17 ∧ wordT x = true := by
  unfold isWord at h
  have pl := part_len x [[]] (by simp)
  have pm := part_mem x [[]] (by simp)
  change (partsAt x).flatten.length + (partsAt x).length = _ at pl
  change ∀ c, _ → c ∈ (partsAt x).flatten at pm
  cases hq : partsAt x with
  | nil =>
    rw [hq] at h
    cases h
  | cons a l =>
    rw [hq] at h pl pm
    dsimp only at h
    obtain ⟨h1, h2⟩ := Bool.and_eq_true_iff.mp h
    obtain ⟨a1, a2, a3⟩ := head_ok h1
    have key : l = [] ∨ ∃ b, l = [b] ∧ b.length ≤ 8 ∧ ∀ c ∈ b, isSp c = false := by
      cases l with
      | nil => exact .inl rfl
      | cons b l =>
        cases l with
        | nil =>
          obtain ⟨b1, b2, b3⟩ := head_ok (a := b) (by rw [show isName b = true from h2]; simp)
          exact .inr ⟨b, rfl, b1, b3⟩
        | cons _ _ => cases h2
    have nsp : ∀ c ∈ x, isSp c = false := fun c hc => by
      by_cases e : c = 64
      · subst e
        rfl
      · have := pm c (.inr ⟨hc, e⟩)
        rcases key with rfl | ⟨b, rfl, b1, b2⟩
        · simp at this
          exact a3 c this
        · simp at this
          rcases this with h | h
          · exact a3 c h
          · exact b2 c h
    refine ⟨?_, ?_⟩
    · rcases key with rfl | ⟨b, rfl, b1, b2⟩
      · simp at pl
        omega
      · simp at pl
        omega
    · unfold wordT
      rw [Bool.and_eq_true_iff]
      refine ⟨?_, List.all_eq_true.mpr fun c hc => by rw [nsp c hc]; rfl⟩
      cases x with
      | nil =>
        exfalso
        rw [List.flatten_cons, List.length_append, List.length_cons] at pl
        simp only [List.length_nil, List.flatten_cons, List.flatten_nil, List.append_nil, List.length_cons] at pl
        omega
      | cons _ _ => rfl
/-! ### sizes -/
mutual
def sz : Tr → Nat
  | .word _ => 1
  | .all => 1
  | .none => 1
  | .not t => sz t + 1
  | .op _ ts => szs ts + 1
def szs : List Tr → Nat
  | [] => 0
  | t :: ts => sz t + szs ts
end
theorem br_len (b : Bool) (U : List Tok) : (br b U).length ≤ U.length + 2 := by
  cases b <;> simp [br]
theorem join_len (k : Bool) : ∀ us : List (List Tok), (joinT k us).length ≤ (us.map fun u => u.length + 3).sum
  | [] => by simp [joinT]
  | [u] => by simp [joinT]
  | u :: v :: r => by
    rw [joinT]
    have := join_len k (v :: r)
    simp [sepT] at this ⊢
    omega
mutual
theorem tk_len : ∀ t : Tr, (tkF t).length + 5 ≤ 6 * sz t
  | .word w => by rw [tkF, sz]; simp
  | .all => by rw [tkF, sz]; simp
  | .none => by rw [tkF, sz]; simp
  | .not t => by
    rw [tkF, sz]
    have := tk_len t
    have := br_len (isOp t) (tkF t)
    simp
    omega
  | .op k ts => by
    rw [tkF, sz]
    have := join_len k (tkFs k ts)
    have := tks_len k ts
    omega
theorem tks_len (k : Bool) : ∀ ts : List Tr, ((tkFs k ts).map fun u => u.length + 3).sum ≤ 6 * szs ts
  | [] => by rw [tkFs, szs]; simp
  | t :: ts => by
    rw [tkFs, szs]
    have := tk_len t
    have := tks_len k ts
    have := br_len (k && isOp t) (tkF t)
    simp
    omega
end
theorem br_mem {b : Bool} {U : List Tok} {s : Tok} (h : s ∈ br b U) : s ∈ U ∨ s.length ≤ 17 := by
  cases b with
  | false => exact .inl h
  | true =>
    simp [br] at h
    rcases h with rfl | h | rfl
    · exact .inr (by decide)
    · exact .inl h
    · exact .inr (by decide)
theorem join_mem {k : Bool} {s : Tok} : ∀ {us : List (List Tok)}, s ∈ joinT k us → (∃ u ∈ us, s ∈ u) ∨ s.length ≤ 17
  | [], h => by simp [joinT] at h
  | [u], h => .inl ⟨u, List.mem_cons_self, h⟩
  | u :: v :: r, h => by
    rw [joinT] at h
    rcases List.mem_append.mp h with h | h
    · exact .inl ⟨u, List.mem_cons_self, h⟩
    · rcases List.mem_append.mp h with h | h
      · right
        cases k <;> simp [sepT, kw, tSp, wAnd, wOr] at h <;> rcases h with rfl | rfl | rfl <;> decide
      · rcases join_mem h with ⟨w, hw, q⟩ | h
        · exact .inl ⟨w, List.mem_cons_of_mem _ hw, q⟩
        · exact .inr h
mutual
theorem tk_short : ∀ t : Tr, nf t = true → ∀ s ∈ tkF t, s.length ≤ 17
  | .word w, h => by
    rw [tkF]
    rw [nf] at h
    intro s hs
    simp at hs
    subst hs
    exact (word_facts h).1
  | .all, _ => by rw [tkF]; intro s hs; simp at hs; subst hs; decide
  | .none, _ => by rw [tkF]; intro s hs; simp at hs; subst hs; decide
  | .not t, h => by
    rw [tkF]
    rw [nf] at h
    intro s hs
    rcases List.mem_append.mp hs with hs | hs
    · simp at hs
      rcases hs with rfl | rfl <;> decide
    · rcases br_mem hs with hs | hs
      · exact tk_short t h s hs
      · exact hs
  | .op k ts, h => by
    rw [tkF]
    rw [nf] at h
    simp at h
    intro s hs
    rcases join_mem hs with ⟨u, hu, hs⟩ | hs
    · exact tks_short k ts h.2.2 u hu s hs
    · exact hs
theorem tks_short (k : Bool) : ∀ ts : List Tr, nfs k ts = true → ∀ u ∈ tkFs k ts, ∀ s ∈ u, s.length ≤ 17
  | [], _ => by rw [tkFs]; intro u hu; simp at hu
  | t :: ts, h => by
    rw [nfs] at h
    simp at h
    rw [tkFs]
    intro u hu s hs
    rcases List.mem_cons.mp hu with e | hu
    · rw [e] at hs
      rcases br_mem hs with hs | hs
      · exact tk_short t h.1 s hs
      · exact hs
    · exact tks_short k ts h.2.2 u hu s hs
end
theorem flat_len : ∀ (T : List Tok), (∀ s ∈ T, s.length ≤ 17) → T.flatten.length ≤ 17 * T.length
  | [], _ => by simp
  | s :: T, h => by
    have := flat_len T fun s hs => h s (List.mem_cons_of_mem _ hs)
    have := h s List.mem_cons_self
    rw [List.flatten_cons, List.length_append, List.length_cons]
    omega
/-- the text of a tree -/
def tx (t : Tr) : List Nat := (tkF t).flatten
/-- a tree that can be read -/
structure Gd (t : Tr) : Prop where
  nf : nf t = true
  nd : nd t ≤ 46
  sz : sz t ≤ 1000
structure HQ (C : Nat → CE) (ix : Lb.Ix) : Prop extends HP C ix where
  words : Fa C ix.tree_words (Lb.tree_words ix)
  unlike : Fa C ix.unlike_words (Lb.unlike_words ix)
  holds : Fa C ix.tree_holds (Lb.tree_holds ix)
  init : Fa C ix.Formula_init (Lb.Formula_init ix)
  eq : Fa C ix.Formula_eq (Lb.Formula_eq ix)
  chosen : Fa C ix.chosen (Lb.chosen ix)
  tchoice : Fa C ix.tree_choice (Lb.tree_choice ix)
  choice : Fa C ix.choice (Lb.choice ix)
  fof : Fa C ix.formula_of (Lb.formula_of ix)
  mkF : ∀ n ds, (C n).mkr ix.c_Formula ds = mkP ((C n).fm ix.Formula_init) ix.c_Formula ds
  fld : ∀ n, (C n).fld ix.c_Formula ix.f_tree = true
section
variable {C : Nat → CE} {ix : Lb.Ix}
theorem Gd.sg {t : Tr} (h : Gd t) : Sg (tkF t) := by
  refine ⟨?_, fun s hs => Nat.le_trans (tk_short t h.nf s hs) (by decide)⟩
  have := tk_len t
  have := h.sz
  omega
theorem Gd.tlen {t : Tr} (h : Gd t) : 3 * (tx t).length + 3 ≤ lim := by
  have := flat_len _ (tk_short t h.nf)
  have := tk_len t
  have := h.sz
  have : lim = 1000000 := rfl
  unfold tx
  omega
theorem Gd.signs {t : Tr} (h : Gd t) : signsOf (tx t) = tkF t := signs_tok (tok_tk (fun w hw => (word_facts hw).2) t h.nf)
theorem c2_eqn' (i j : Nat) : cmp2 .eq (.int (i : Int)) (.int (j : Int)) = some (i == j) := by
  rw [c2_eqi]
  congr 1
  rw [Bool.eq_iff_iff]
  simp
  omega
theorem read_tree_ok (hp : HP C ix) {t : Tr} (g : Gd t) (n : Nat) (hn : nd t + 4 ≤ n) : (C n).fn ix.read_tree [.str (tx t)] = .ok (toD t) := by
  obtain ⟨n, rfl⟩ : ∃ j, n = j + 1 := ⟨n - 1, by omega⟩
  rw [fn_of_fa hp.tree n _ rfl]
  show pureP (outR (xs (C n) (Lb.read_tree ix).body [some (.v (.str (tx t))), none, none, none] [])) = _
  have c1 : ∀ m, callK (C n) ix.signs_of [.v (.str (tx t))] m = .ok (.v (sD (tkF t))) m := fun m => by
    obtain ⟨i, rfl⟩ : ∃ i, n = i + 1 := ⟨n - 1, by omega⟩
    have := signs_of_ok hp.signs i (tx t) g.tlen
    rw [g.signs] at this
    exact callK_ok rfl this
  have c2 : ∀ m, callK (C n) ix.read_any [.v (sD (tkF t)), .v (.int 0)] m = .ok (.v (.tup [toD t, .int ((tkF t).length : Int)])) m := fun m => by
    have := (rd_ok hp t g.nf (by have := g.nd; omega)).any n (by omega) (tkF t) 0 [] g.sg (by simp) rfl rfl
    rw [Nat.zero_add] at this
    exact callK_ok rfl this
  unfold Lb.read_tree
  simp only [bnd_ok, bnd_ex, bnd_no, out_ok, out_ex, out_no, seq_nx, seq_rt, seq_ex, res_some, res_none, outR_rt, outR_nx, outR_ex, pureP_v, pureP_ex, see_v, ask_str, ask_int, ask_bl, ask_non, eqD_str, eqD_int, eqD_bl, eqD_non, e_var, varK_s, e_chain, chain_i, c2_lt, c2_le, c2_gt, c2_ge, c2_eqs, c2_nes, c2_eqi, c2_nei, c2_eqb, c2_neb, c2_in1, un_lens, un_lenl, un_lent, un_lenc, un_ii, un_ib, un_all, un_neg, un_n0, un_nt, un_nl, op_addi, op_subi, ix_l, ix_t, e_cst, e_op, e_cmp, e_un, e_and, e_or, e_not, e_ifx, e_tup, e_lst, e_new, e_frz, e_idx, e_slc, e_rev, e_call, e_callm, e_calln, e_make, e_attr, e_isi, e_pop0, e_lc, e_seq, e_enum, e_rng, e_nil, e_cons, e_no, e_opt, x_skip, x_seq, x_asg, x_par, x_app, x_ext, x_setI, x_ret, x_ifs, x_for, x_whl, opK_v, cmpK_v, unK_v, idxK_v, slcK_v, revK_v, optK_v, isiK_v, boolK_t, boolK_f, notK_v, ifsK_t, ifsK_f, seqK_s, seqK_l, seqK_t, enumK_l, asgK_n, frz_v, pl_nil, pl_cons, fromP_ok, fromP_ex, Option.map_some, Option.map_none, List.getElem?_cons_zero, List.getElem?_cons_succ, List.set_cons_zero, List.set_cons_succ, Bool.not_true, Bool.not_false, c1, c2, asg2, un_lenS]
  rw [show (((tkF t).length : Int) == ((tkF t).length : Int)) = true by simp]
  simp only [bnd_ok, bnd_ex, bnd_no, out_ok, out_ex, out_no, seq_nx, seq_rt, seq_ex, res_some, res_none, outR_rt, outR_nx, outR_ex, pureP_v, pureP_ex, see_v, ask_str, ask_int, ask_bl, ask_non, eqD_str, eqD_int, eqD_bl, eqD_non, e_var, varK_s, e_chain, chain_i, c2_lt, c2_le, c2_gt, c2_ge, c2_eqs, c2_nes, c2_eqi, c2_nei, c2_eqb, c2_neb, c2_in1, un_lens, un_lenl, un_lent, un_lenc, un_ii, un_ib, un_all, un_neg, un_n0, un_nt, un_nl, op_addi, op_subi, ix_l, ix_t, e_cst, e_op, e_cmp, e_un, e_and, e_or, e_not, e_ifx, e_tup, e_lst, e_new, e_frz, e_idx, e_slc, e_rev, e_call, e_callm, e_calln, e_make, e_attr, e_isi, e_pop0, e_lc, e_seq, e_enum, e_rng, e_nil, e_cons, e_no, e_opt, x_skip, x_seq, x_asg, x_par, x_app, x_ext, x_setI, x_ret, x_ifs, x_for, x_whl, opK_v, cmpK_v, unK_v, idxK_v, slcK_v, revK_v, optK_v, isiK_v, boolK_t, boolK_f, notK_v, ifsK_t, ifsK_f, seqK_s, seqK_l, seqK_t, enumK_l, asgK_n, frz_v, pl_nil, pl_cons, fromP_ok, fromP_ex, Option.map_some, Option.map_none, List.getElem?_cons_zero, List.getElem?_cons_succ, List.set_cons_zero, List.set_cons_succ, Bool.not_true, Bool.not_false]
/-- the object of a tree -/
def oF (ix : Lb.Ix) (t : Tr) : D := .obj ix.c_Formula [(ix.f_tree, toD t)]
def setFK (C : CE) (f : Nat) (ρ : Ro) (w u : U) (m : Mu) : O := match u with
  | .p k => match m[k]? with
    | some (.obj c fs) => if C.fld c f = true ∧ fs.length < 100 then .nx ρ (m.set k (.obj c (putF fs f w))) else .no
    | _ => .no
  | _ => .no
theorem x_setF {C : CE} {a e : E} {f : Nat} {ρ : Ro} {m : Mu} : xs C (.setF a f e) ρ m = (ev C e ρ m).out ρ fun w m => (ev C a ρ m).out ρ fun u m => setFK C f ρ w u m := by rw [xs]; rfl
def raiK (C : CE) (c : Nat) (ρ : Ro) (us : List U) (m : Mu) : O := match plainU us with
  | some ds => match C.mkr c ds with
    | .ok (.obj c' fs) => .ex c' fs ρ m
    | _ => .no
  | none => .no
theorem x_rai {C : CE} {a : E} {c : Nat} {ρ : Ro} {m : Mu} : xs C (.rai c a) ρ m = (evs C a ρ m).out ρ fun us m => raiK C c ρ us m := by rw [xs]; rfl
theorem isi_str (hk : Kn C ix) (n : Nat) (x : List Nat) : isiD (C n) [3] (.str x) = some true := by
  show isiK (C n) 3 [3] = _
  unfold isiK
  rw [hk.str n 3 (by simp)]
  rfl
theorem make_ok (hp : HQ C ix) {t : Tr} (g : Gd t) (n : Nat) (hn : nd t + 5 ≤ n) : (C n).mkr ix.c_Formula [.str (tx t)] = .ok (oF ix t) := by
  obtain ⟨n, rfl⟩ : ∃ j, n = j + 1 := ⟨n - 1, by omega⟩
  rw [hp.mkF]
  unfold mkP
  rw [hp.init n, run_ok rfl]
  show (match outR (xs (C n) (Lb.Formula_init ix).body [some (.p 0), some (.v (.str (tx t))), none] [.obj ix.c_Formula []]) with
    | .ok (.v .non) m => match see m (.p 0) with
      | some (.obj c' fs) => P.ok (.obj c' fs)
      | _ => .no
    | .ex c fs _ => .ex c fs
    | _ => .no) = _
  have c1 : ∀ m, callK (C n) ix.read_tree [.v (.str (tx t))] m = .ok (.v (toD t)) m := fun m => callK_ok rfl (read_tree_ok hp.toHP g n (by omega))
  have sf : ∀ ρ, setFK (C n) ix.f_tree ρ (.v (toD t)) (.p 0) [.obj ix.c_Formula []] = .nx ρ [.obj ix.c_Formula [(ix.f_tree, .v (toD t))]] := fun ρ => by
    show (if (C n).fld ix.c_Formula ix.f_tree = true ∧ ([] : List (Nat × U)).length < 100 then O.nx ρ _ else .no) = _
    rw [if_pos ⟨hp.fld n, by decide⟩]
    rfl
  unfold Lb.Formula_init
  simp only [bnd_ok, bnd_ex, bnd_no, out_ok, out_ex, out_no, seq_nx, seq_rt, seq_ex, res_some, res_none, outR_rt, outR_nx, outR_ex, pureP_v, pureP_ex, see_v, ask_str, ask_int, ask_bl, ask_non, eqD_str, eqD_int, eqD_bl, eqD_non, e_var, varK_s, e_chain, chain_i, c2_lt, c2_le, c2_gt, c2_ge, c2_eqs, c2_nes, c2_eqi, c2_nei, c2_eqb, c2_neb, c2_in1, un_lens, un_lenl, un_lent, un_lenc, un_ii, un_ib, un_all, un_neg, un_n0, un_nt, un_nl, op_addi, op_subi, ix_l, ix_t, e_cst, e_op, e_cmp, e_un, e_and, e_or, e_not, e_ifx, e_tup, e_lst, e_new, e_frz, e_idx, e_slc, e_rev, e_call, e_callm, e_calln, e_make, e_attr, e_isi, e_pop0, e_lc, e_seq, e_enum, e_rng, e_nil, e_cons, e_no, e_opt, x_skip, x_seq, x_asg, x_par, x_app, x_ext, x_setI, x_ret, x_ifs, x_for, x_whl, opK_v, cmpK_v, unK_v, idxK_v, slcK_v, revK_v, optK_v, isiK_v, boolK_t, boolK_f, notK_v, ifsK_t, ifsK_f, seqK_s, seqK_l, seqK_t, enumK_l, asgK_n, frz_v, pl_nil, pl_cons, fromP_ok, fromP_ex, Option.map_some, Option.map_none, List.getElem?_cons_zero, List.getElem?_cons_succ, List.set_cons_zero, List.set_cons_succ, Bool.not_true, Bool.not_false, isi_str hp.kn, c1, toD_isN, x_setF, sf]
  rfl
/-! ### words of trees -/
mutual
def words : Tr → List Tok
  | .word w => [w]
  | .all => []
  | .none => []
  | .not t => words t
  | .op _ ts => wordsL ts
def wordsL : List Tr → List Tok
  | [] => []
  | t :: ts => words t ++ wordsL ts
end
mutual
theorem words_len : ∀ t : Tr, (words t).length ≤ sz t
  | .word w => by rw [words, sz]; simp
  | .all => by rw [words, sz]; simp
  | .none => by rw [words, sz]; simp
  | .not t => by rw [words, sz]; have := words_len t; omega
  | .op _ ts => by rw [words, sz]; have := wordsL_len ts; omega
theorem wordsL_len : ∀ ts : List Tr, (wordsL ts).length ≤ szs ts
  | [] => by rw [wordsL]; simp
  | t :: ts => by
    rw [wordsL, szs, List.length_append]
    have := words_len t
    have := wordsL_len ts
    omega
end
theorem wordsL_flat : ∀ ts : List Tr, wordsL ts = ts.flatMap words
  | [] => by rw [wordsL]; rfl
  | t :: ts => by rw [wordsL, wordsL_flat ts, List.flatMap_cons]
def sL (S : List Tok) : D := .lst (S.map D.str)
theorem nw0 : newK [] [] = .ok (.p 0) (cellS []) := by
  unfold newK
  rw [if_pos (by show 0 ≤ lim; exact Nat.zero_le _)]
  rfl
theorem lst1 {m : Mu} (d : D) : lstK [.v d] m = .ok (.v (.lst [d])) m := by
  unfold lstK
  simp only [bnd_ok, bnd_ex, bnd_no, out_ok, out_ex, out_no, seq_nx, seq_rt, seq_ex, res_some, res_none, outR_rt, outR_nx, outR_ex, pureP_v, pureP_ex, see_v, ask_str, ask_int, ask_bl, ask_non, eqD_str, eqD_int, eqD_bl, eqD_non, e_var, varK_s, e_chain, chain_i, c2_lt, c2_le, c2_gt, c2_ge, c2_eqs, c2_nes, c2_eqi, c2_nei, c2_eqb, c2_neb, c2_in1, un_lens, un_lenl, un_lent, un_lenc, un_ii, un_ib, un_all, un_neg, un_n0, un_nt, un_nl, op_addi, op_subi, ix_l, ix_t, e_cst, e_op, e_cmp, e_un, e_and, e_or, e_not, e_ifx, e_tup, e_lst, e_new, e_frz, e_idx, e_slc, e_rev, e_call, e_callm, e_calln, e_make, e_attr, e_isi, e_pop0, e_lc, e_seq, e_enum, e_rng, e_nil, e_cons, e_no, e_opt, x_skip, x_seq, x_asg, x_par, x_app, x_ext, x_setI, x_ret, x_ifs, x_for, x_whl, opK_v, cmpK_v, unK_v, idxK_v, slcK_v, revK_v, optK_v, isiK_v, boolK_t, boolK_f, notK_v, ifsK_t, ifsK_f, seqK_s, seqK_l, seqK_t, enumK_l, asgK_n, frz_v, pl_nil, pl_cons, fromP_ok, fromP_ex, Option.map_some, Option.map_none, List.getElem?_cons_zero, List.getElem?_cons_succ, List.set_cons_zero, List.set_cons_succ, Bool.not_true, Bool.not_false]
  rw [if_pos (by show 1 ≤ lim; decide)]
theorem kk_wd (t : Tr) : (kind t == [119, 111, 114, 100]) = (match t with
  | .word _ => true
  | _ => false) := by
  cases t with
  | op k ts => cases k <;> rfl
  | _ => rfl
theorem kk_not (t : Tr) : (kind t == [110, 111, 116]) = (match t with
  | .not _ => true
  | _ => false) := by
  cases t with
  | op k ts => cases k <;> rfl
  | _ => rfl
theorem kk_op (t : Tr) : [wAnd, wOr].contains (kind t) = isOp t := by
  cases t with
  | op k ts => cases k <;> rfl
  | _ => rfl
theorem kk_all (t : Tr) : (kind t == [97, 108, 108]) = (match t with
  | .all => true
  | _ => false) := by
  cases t with
  | op k ts => cases k <;> rfl
  | _ => rfl
theorem kk_k (k : Bool) (t : Tr) : (kind t == kw k) = isK k t := by
  cases t with
  | op k' ts => cases k' <;> cases k <;> rfl
  | _ => cases k <;> rfl
theorem c2_ino (w : Tok) : cmp2 .in_ (.str w) (.tup [.str [97, 110, 100], .str [111, 114]]) = some ([wAnd, wOr].contains w) := c2_int w [wAnd, wOr]
theorem c2_nino (w : Tok) : cmp2 .nin (.str w) (.tup [.str [97, 110, 100], .str [111, 114]]) = some (![wAnd, wOr].contains w) := c2_nint w [wAnd, wOr]
mutual
theorem words_ok (hp : HQ C ix) : ∀ (t : Tr) (n : Nat), nd t ≤ n → sz t ≤ 10000 → (C n).fn ix.tree_words [toD t] = .ok (sL (words t))
  | .word w, n, hn, hs => by
    rw [nd] at hn
    obtain ⟨n, rfl⟩ : ∃ j, n = j + 1 := ⟨n - 1, by omega⟩
    rw [fn_of_fa hp.words n _ rfl]
    show pureP (outR (xs (C n) (Lb.tree_words ix).body [some (.v (toD (.word w))), none, none] [])) = _
    unfold Lb.tree_words
    simp only [bnd_ok, bnd_ex, bnd_no, out_ok, out_ex, out_no, seq_nx, seq_rt, seq_ex, res_some, res_none, outR_rt, outR_nx, outR_ex, pureP_v, pureP_ex, see_v, ask_str, ask_int, ask_bl, ask_non, eqD_str, eqD_int, eqD_bl, eqD_non, e_var, varK_s, e_chain, chain_i, c2_lt, c2_le, c2_gt, c2_ge, c2_eqs, c2_nes, c2_eqi, c2_nei, c2_eqb, c2_neb, c2_in1, un_lens, un_lenl, un_lent, un_lenc, un_ii, un_ib, un_all, un_neg, un_n0, un_nt, un_nl, op_addi, op_subi, ix_l, ix_t, e_cst, e_op, e_cmp, e_un, e_and, e_or, e_not, e_ifx, e_tup, e_lst, e_new, e_frz, e_idx, e_slc, e_rev, e_call, e_callm, e_calln, e_make, e_attr, e_isi, e_pop0, e_lc, e_seq, e_enum, e_rng, e_nil, e_cons, e_no, e_opt, x_skip, x_seq, x_asg, x_par, x_app, x_ext, x_setI, x_ret, x_ifs, x_for, x_whl, opK_v, cmpK_v, unK_v, idxK_v, slcK_v, revK_v, optK_v, isiK_v, boolK_t, boolK_f, notK_v, ifsK_t, ifsK_f, seqK_s, seqK_l, seqK_t, enumK_l, asgK_n, frz_v, pl_nil, pl_cons, fromP_ok, fromP_ex, Option.map_some, Option.map_none, List.getElem?_cons_zero, List.getElem?_cons_succ, List.set_cons_zero, List.set_cons_succ, Bool.not_true, Bool.not_false, ixT0, kk_wd, ixTw, lst1]
    rw [words]
    rfl
  | .all, n, hn, hs => by
    rw [nd] at hn
    obtain ⟨n, rfl⟩ : ∃ j, n = j + 1 := ⟨n - 1, by omega⟩
    rw [fn_of_fa hp.words n _ rfl]
    show pureP (outR (xs (C n) (Lb.tree_words ix).body [some (.v (toD .all)), none, none] [])) = _
    unfold Lb.tree_words
    simp only [bnd_ok, bnd_ex, bnd_no, out_ok, out_ex, out_no, seq_nx, seq_rt, seq_ex, res_some, res_none, outR_rt, outR_nx, outR_ex, pureP_v, pureP_ex, see_v, ask_str, ask_int, ask_bl, ask_non, eqD_str, eqD_int, eqD_bl, eqD_non, e_var, varK_s, e_chain, chain_i, c2_lt, c2_le, c2_gt, c2_ge, c2_eqs, c2_nes, c2_eqi, c2_nei, c2_eqb, c2_neb, c2_in1, un_lens, un_lenl, un_lent, un_lenc, un_ii, un_ib, un_all, un_neg, un_n0, un_nt, un_nl, op_addi, op_subi, ix_l, ix_t, e_cst, e_op, e_cmp, e_un, e_and, e_or, e_not, e_ifx, e_tup, e_lst, e_new, e_frz, e_idx, e_slc, e_rev, e_call, e_callm, e_calln, e_make, e_attr, e_isi, e_pop0, e_lc, e_seq, e_enum, e_rng, e_nil, e_cons, e_no, e_opt, x_skip, x_seq, x_asg, x_par, x_app, x_ext, x_setI, x_ret, x_ifs, x_for, x_whl, opK_v, cmpK_v, unK_v, idxK_v, slcK_v, revK_v, optK_v, isiK_v, boolK_t, boolK_f, notK_v, ifsK_t, ifsK_f, seqK_s, seqK_l, seqK_t, enumK_l, asgK_n, frz_v, pl_nil, pl_cons, fromP_ok, fromP_ex, Option.map_some, Option.map_none, List.getElem?_cons_zero, List.getElem?_cons_succ, List.set_cons_zero, List.set_cons_succ, Bool.not_true, Bool.not_false, ixT0, kk_wd, kk_not, nw0, tup2, c2_ino, kk_op, isOp, lst0, forL]
    rw [words]
    rfl
  | .none, n, hn, hs => by
    rw [nd] at hn
    obtain ⟨n, rfl⟩ : ∃ j, n = j + 1 := ⟨n - 1, by omega⟩
    rw [fn_of_fa hp.words n _ rfl]
    show pureP (outR (xs (C n) (Lb.tree_words ix).body [some (.v (toD .none)), none, none] [])) = _
    unfold Lb.tree_words
    simp only [bnd_ok, bnd_ex, bnd_no, out_ok, out_ex, out_no, seq_nx, seq_rt, seq_ex, res_some, res_none, outR_rt, outR_nx, outR_ex, pureP_v, pureP_ex, see_v, ask_str, ask_int, ask_bl, ask_non, eqD_str, eqD_int, eqD_bl, eqD_non, e_var, varK_s, e_chain, chain_i, c2_lt, c2_le, c2_gt, c2_ge, c2_eqs, c2_nes, c2_eqi, c2_nei, c2_eqb, c2_neb, c2_in1, un_lens, un_lenl, un_lent, un_lenc, un_ii, un_ib, un_all, un_neg, un_n0, un_nt, un_nl, op_addi, op_subi, ix_l, ix_t, e_cst, e_op, e_cmp, e_un, e_and, e_or, e_not, e_ifx, e_tup, e_lst, e_new, e_frz, e_idx, e_slc, e_rev, e_call, e_callm, e_calln, e_make, e_attr, e_isi, e_pop0, e_lc, e_seq, e_enum, e_rng, e_nil, e_cons, e_no, e_opt, x_skip, x_seq, x_asg, x_par, x_app, x_ext, x_setI, x_ret, x_ifs, x_for, x_whl, opK_v, cmpK_v, unK_v, idxK_v, slcK_v, revK_v, optK_v, isiK_v, boolK_t, boolK_f, notK_v, ifsK_t, ifsK_f, seqK_s, seqK_l, seqK_t, enumK_l, asgK_n, frz_v, pl_nil, pl_cons, fromP_ok, fromP_ex, Option.map_some, Option.map_none, List.getElem?_cons_zero, List.getElem?_cons_succ, List.set_cons_zero, List.set_cons_succ, Bool.not_true, Bool.not_false, ixT0, kk_wd, kk_not, nw0, tup2, c2_ino, kk_op, isOp, lst0, forL]
    rw [words]
    rfl
  | .not t, n, hn, hs => by
    rw [nd] at hn
    rw [sz] at hs
    obtain ⟨n, rfl⟩ : ∃ j, n = j + 1 := ⟨n - 1, by omega⟩
    rw [fn_of_fa hp.words n _ rfl]
    show pureP (outR (xs (C n) (Lb.tree_words ix).body [some (.v (toD (.not t))), none, none] [])) = _
    have c1 : ∀ m, callK (C n) ix.tree_words [.v (toD t)] m = .ok (.v (sL (words t))) m := fun m => callK_ok rfl (words_ok hp t n (by omega) (by omega))
    unfold Lb.tree_words
    simp only [bnd_ok, bnd_ex, bnd_no, out_ok, out_ex, out_no, seq_nx, seq_rt, seq_ex, res_some, res_none, outR_rt, outR_nx, outR_ex, pureP_v, pureP_ex, see_v, ask_str, ask_int, ask_bl, ask_non, eqD_str, eqD_int, eqD_bl, eqD_non, e_var, varK_s, e_chain, chain_i, c2_lt, c2_le, c2_gt, c2_ge, c2_eqs, c2_nes, c2_eqi, c2_nei, c2_eqb, c2_neb, c2_in1, un_lens, un_lenl, un_lent, un_lenc, un_ii, un_ib, un_all, un_neg, un_n0, un_nt, un_nl, op_addi, op_subi, ix_l, ix_t, e_cst, e_op, e_cmp, e_un, e_and, e_or, e_not, e_ifx, e_tup, e_lst, e_new, e_frz, e_idx, e_slc, e_rev, e_call, e_callm, e_calln, e_make, e_attr, e_isi, e_pop0, e_lc, e_seq, e_enum, e_rng, e_nil, e_cons, e_no, e_opt, x_skip, x_seq, x_asg, x_par, x_app, x_ext, x_setI, x_ret, x_ifs, x_for, x_whl, opK_v, cmpK_v, unK_v, idxK_v, slcK_v, revK_v, optK_v, isiK_v, boolK_t, boolK_f, notK_v, ifsK_t, ifsK_f, seqK_s, seqK_l, seqK_t, enumK_l, asgK_n, frz_v, pl_nil, pl_cons, fromP_ok, fromP_ex, Option.map_some, Option.map_none, List.getElem?_cons_zero, List.getElem?_cons_succ, List.set_cons_zero, List.set_cons_succ, Bool.not_true, Bool.not_false, ixT0, kk_wd, kk_not, ixTn, c1]
    rw [words]
  | .op k ts, n, hn, hs => by
    rw [nd] at hn
    rw [sz] at hs
    obtain ⟨n, rfl⟩ : ∃ j, n = j + 1 := ⟨n - 1, by omega⟩
    rw [fn_of_fa hp.words n _ rfl]
    show pureP (outR (xs (C n) (Lb.tree_words ix).body [some (.v (toD (.op k ts))), none, none] [])) = _
    have cs := wordsL_ok hp ts n (by omega) (by omega)
    unfold Lb.tree_words
    simp only [bnd_ok, bnd_ex, bnd_no, out_ok, out_ex, out_no, seq_nx, seq_rt, seq_ex, res_some, res_none, outR_rt, outR_nx, outR_ex, pureP_v, pureP_ex, see_v, ask_str, ask_int, ask_bl, ask_non, eqD_str, eqD_int, eqD_bl, eqD_non, e_var, varK_s, e_chain, chain_i, c2_lt, c2_le, c2_gt, c2_ge, c2_eqs, c2_nes, c2_eqi, c2_nei, c2_eqb, c2_neb, c2_in1, un_lens, un_lenl, un_lent, un_lenc, un_ii, un_ib, un_all, un_neg, un_n0, un_nt, un_nl, op_addi, op_subi, ix_l, ix_t, e_cst, e_op, e_cmp, e_un, e_and, e_or, e_not, e_ifx, e_tup, e_lst, e_new, e_frz, e_idx, e_slc, e_rev, e_call, e_callm, e_calln, e_make, e_attr, e_isi, e_pop0, e_lc, e_seq, e_enum, e_rng, e_nil, e_cons, e_no, e_opt, x_skip, x_seq, x_asg, x_par, x_app, x_ext, x_setI, x_ret, x_ifs, x_for, x_whl, opK_v, cmpK_v, unK_v, idxK_v, slcK_v, revK_v, optK_v, isiK_v, boolK_t, boolK_f, notK_v, ifsK_t, ifsK_f, seqK_s, seqK_l, seqK_t, enumK_l, asgK_n, frz_v, pl_nil, pl_cons, fromP_ok, fromP_ex, Option.map_some, Option.map_none, List.getElem?_cons_zero, List.getElem?_cons_succ, List.set_cons_zero, List.set_cons_succ, Bool.not_true, Bool.not_false, ixT0, kk_wd, kk_not, nw0, tup2, c2_ino, kk_op, isOp, ixT1]
    have key : ∀ (us : List Tr) (acc : List Tok) (o : Option U), (∀ t ∈ us, t ∈ ts) → acc.length + (wordsL us).length ≤ 100000 → ∃ o', forL (forK (C n) (.nm 2) (.ext (.var 1) (.call ix.tree_words (.cons (.var 2) .nil)))) (us.map toD) [some (.v (toD (.op k ts))), some (.p 0), o] (cellS acc) = .nx [some (.v (toD (.op k ts))), some (.p 0), o'] (cellS (acc ++ wordsL us)) := by
      intro us
      induction us with
      | nil =>
        intro acc o _ _
        refine ⟨o, ?_⟩
        rw [wordsL]
        simp [forL]
      | cons u us ih =>
        intro acc o hm hl
        rw [wordsL, List.length_append] at hl
        have hlim : lim = 1000000 := rfl
        have c1 : ∀ m, callK (C n) ix.tree_words [.v (toD u)] m = .ok (.v (.lst ((words u).map D.str))) m := fun m => callK_ok rfl (cs u (hm u List.mem_cons_self))
        obtain ⟨o', hi⟩ := ih (acc ++ words u) (some (.v (toD u))) (fun t ht => hm t (List.mem_cons_of_mem _ ht)) (by rw [List.length_append]; omega)
        refine ⟨o', ?_⟩
        rw [List.map_cons, forL]
        have st : forK (C n) (.nm 2) (.ext (.var 1) (.call ix.tree_words (.cons (.var 2) .nil))) (toD u) [some (.v (toD (.op k ts))), some (.p 0), o] (cellS acc) = .nx [some (.v (toD (.op k ts))), some (.p 0), some (.v (toD u))] (cellS (acc ++ words u)) := by
          unfold forK
          simp only [bindT, bnd_ok, bnd_ex, bnd_no, out_ok, out_ex, out_no, seq_nx, seq_rt, seq_ex, res_some, res_none, outR_rt, outR_nx, outR_ex, pureP_v, pureP_ex, see_v, ask_str, ask_int, ask_bl, ask_non, eqD_str, eqD_int, eqD_bl, eqD_non, e_var, varK_s, e_chain, chain_i, c2_lt, c2_le, c2_gt, c2_ge, c2_eqs, c2_nes, c2_eqi, c2_nei, c2_eqb, c2_neb, c2_in1, un_lens, un_lenl, un_lent, un_lenc, un_ii, un_ib, un_all, un_neg, un_n0, un_nt, un_nl, op_addi, op_subi, ix_l, ix_t, e_cst, e_op, e_cmp, e_un, e_and, e_or, e_not, e_ifx, e_tup, e_lst, e_new, e_frz, e_idx, e_slc, e_rev, e_call, e_callm, e_calln, e_make, e_attr, e_isi, e_pop0, e_lc, e_seq, e_enum, e_rng, e_nil, e_cons, e_no, e_opt, x_skip, x_seq, x_asg, x_par, x_app, x_ext, x_setI, x_ret, x_ifs, x_for, x_whl, opK_v, cmpK_v, unK_v, idxK_v, slcK_v, revK_v, optK_v, isiK_v, boolK_t, boolK_f, notK_v, ifsK_t, ifsK_f, seqK_s, seqK_l, seqK_t, enumK_l, asgK_n, frz_v, pl_nil, pl_cons, fromP_ok, fromP_ex, Option.map_some, Option.map_none, List.getElem?_cons_zero, List.getElem?_cons_succ, List.set_cons_zero, List.set_cons_succ, Bool.not_true, Bool.not_false, lstAt_cellS, c1]
          rw [ext_cellS _ _ (by omega)]
        rw [st]
        dsimp only
        rw [hi, wordsL, List.append_assoc]
    have wl := wordsL_len ts
    obtain ⟨o', h⟩ := key ts [] none (fun t ht => ht) (by simp; omega)
    rw [h]
    simp only [bnd_ok, bnd_ex, bnd_no, out_ok, out_ex, out_no, seq_nx, seq_rt, seq_ex, res_some, res_none, outR_rt, outR_nx, outR_ex, pureP_v, pureP_ex, see_v, ask_str, ask_int, ask_bl, ask_non, eqD_str, eqD_int, eqD_bl, eqD_non, e_var, varK_s, e_chain, chain_i, c2_lt, c2_le, c2_gt, c2_ge, c2_eqs, c2_nes, c2_eqi, c2_nei, c2_eqb, c2_neb, c2_in1, un_lens, un_lenl, un_lent, un_lenc, un_ii, un_ib, un_all, un_neg, un_n0, un_nt, un_nl, op_addi, op_subi, ix_l, ix_t, e_cst, e_op, e_cmp, e_un, e_and, e_or, e_not, e_ifx, e_tup, e_lst, e_new, e_frz, e_idx, e_slc, e_rev, e_call, e_callm, e_calln, e_make, e_attr, e_isi, e_pop0, e_lc, e_seq, e_enum, e_rng, e_nil, e_cons, e_no, e_opt, x_skip, x_seq, x_asg, x_par, x_app, x_ext, x_setI, x_ret, x_ifs, x_for, x_whl, opK_v, cmpK_v, unK_v, idxK_v, slcK_v, revK_v, optK_v, isiK_v, boolK_t, boolK_f, notK_v, ifsK_t, ifsK_f, seqK_s, seqK_l, seqK_t, enumK_l, asgK_n, frz_v, pl_nil, pl_cons, fromP_ok, fromP_ex, Option.map_some, Option.map_none, List.getElem?_cons_zero, List.getElem?_cons_succ, List.set_cons_zero, List.set_cons_succ, Bool.not_true, Bool.not_false]
    rw [pureP_ok (see_cellS _), words]
    rfl
theorem wordsL_ok (hp : HQ C ix) : ∀ (ts : List Tr) (n : Nat), nd.nds ts ≤ n → szs ts ≤ 10000 → ∀ t ∈ ts, (C n).fn ix.tree_words [toD t] = .ok (sL (words t))
  | [], _, _, _ => fun t ht => by simp at ht
  | u :: ts, n, hn, hs => fun t ht => by
    rw [nd.nds] at hn
    rw [szs] at hs
    rcases List.mem_cons.mp ht with e | ht
    · rw [e]
      exact words_ok hp u n (by omega) (by omega)
    · exact wordsL_ok hp ts n (by omega) (by omega) t ht
end
end
end At

/-! Unlike words; whether trees hold; choices. -/
namespace At
open PySem
section
variable {C : Nat → CE} {ix : Lb.Ix}
/-- a loop that may end by a return -/
theorem forL_some {α β σ : Type} {f : D → Ro → Mu → O} {m : Mu} (enc : α → D) (g : α → Option β) (out : β → U) (Rr : σ → Ro) : ∀ (xs : List α), (∀ a ∈ xs, ∀ s, ∃ s', f (enc a) (Rr s) m = match g a with
    | some b => .rt (out b) m
    | none => .nx (Rr s') m) → ∀ s, ∃ s', forL f (xs.map enc) (Rr s) m = match xs.findSome? g with
    | some b => .rt (out b) m
    | none => .nx (Rr s') m
  | [], _, s => ⟨s, rfl⟩
  | a :: xs, h, s => by
    obtain ⟨s1, h1⟩ := h a List.mem_cons_self s
    rw [List.map_cons, forL, h1, List.findSome?_cons]
    cases g a with
    | some b => exact ⟨s, rfl⟩
    | none => exact forL_some enc g out Rr xs (fun a ha => h a (List.mem_cons_of_mem _ ha)) s1
/-! ### unlike words -/
def addW (acc : List Tok) (w : Tok) : List Tok := if acc.contains w then acc else acc ++ [w]
def uniq (ws : List Tok) : List Tok := ws.foldl addW []
theorem addW_len (ws : List Tok) : ∀ acc : List Tok, (ws.foldl addW acc).length ≤ acc.length + ws.length := by
  induction ws with
  | nil => intro acc; simp
  | cons w ws ih =>
    intro acc
    rw [List.foldl_cons]
    have := ih (addW acc w)
    have : (addW acc w).length ≤ acc.length + 1 := by
      unfold addW
      split <;> simp
    simp
    omega
theorem unlike_ok (h : Fa C ix.unlike_words (Lb.unlike_words ix)) (n : Nat) (ws : List Tok) (hl : ws.length ≤ 100000) : (C (n + 1)).fn ix.unlike_words [sL ws] = .ok (sL (uniq ws)) := by
  rw [fn_of_fa h n _ rfl]
  show pureP (outR (xs (C n) (Lb.unlike_words ix).body [some (.v (.lst (ws.map D.str))), none, none] [])) = _
  unfold Lb.unlike_words
  simp only [bnd_ok, bnd_ex, bnd_no, out_ok, out_ex, out_no, seq_nx, seq_rt, seq_ex, res_some, res_none, outR_rt, outR_nx, outR_ex, pureP_v, pureP_ex, see_v, ask_str, ask_int, ask_bl, ask_non, eqD_str, eqD_int, eqD_bl, eqD_non, e_var, varK_s, e_chain, chain_i, c2_lt, c2_le, c2_gt, c2_ge, c2_eqs, c2_nes, c2_eqi, c2_nei, c2_eqb, c2_neb, c2_in1, un_lens, un_lenl, un_lent, un_lenc, un_ii, un_ib, un_all, un_neg, un_n0, un_nt, un_nl, op_addi, op_subi, ix_l, ix_t, e_cst, e_op, e_cmp, e_un, e_and, e_or, e_not, e_ifx, e_tup, e_lst, e_new, e_frz, e_idx, e_slc, e_rev, e_call, e_callm, e_calln, e_make, e_attr, e_isi, e_pop0, e_lc, e_seq, e_enum, e_rng, e_nil, e_cons, e_no, e_opt, x_skip, x_seq, x_asg, x_par, x_app, x_ext, x_setI, x_ret, x_ifs, x_for, x_whl, opK_v, cmpK_v, unK_v, idxK_v, slcK_v, revK_v, optK_v, isiK_v, boolK_t, boolK_f, notK_v, ifsK_t, ifsK_f, seqK_s, seqK_l, seqK_t, enumK_l, asgK_n, frz_v, pl_nil, pl_cons, fromP_ok, fromP_ex, Option.map_some, Option.map_none, List.getElem?_cons_zero, List.getElem?_cons_succ, List.set_cons_zero, List.set_cons_succ, Bool.not_true, Bool.not_false, nw0]
  have key : ∀ (us : List Tok) (acc : List Tok) (o : Option U), acc.length + us.length ≤ 100000 → ∃ o', forL (forK (C n) (.nm 2) (.ifs (.cmp .nin (.var 2) (.var 1)) (.app (.var 1) (.var 2)) .skip)) (us.map D.str) [some (.v (.lst (ws.map D.str))), some (.p 0), o] (cellS acc) = .nx [some (.v (.lst (ws.map D.str))), some (.p 0), o'] (cellS (us.foldl addW acc)) := by
    intro us
    induction us with
    | nil => intro acc o _; exact ⟨o, rfl⟩
    | cons u us ih =>
      intro acc o hl
      have hlim : lim = 1000000 := rfl
      simp at hl
      have al : (addW acc u).length ≤ acc.length + 1 := by
        unfold addW
        split <;> simp
      obtain ⟨o', hi⟩ := ih (addW acc u) (some (.v (.str u))) (by omega)
      refine ⟨o', ?_⟩
      have cm : cmpK .nin (.v (.str u)) (.p 0) (cellS acc) = .ok (.v (.bl (!acc.contains u))) (cellS acc) := by
        unfold cmpK
        rw [see_cellS, see_v]
        dsimp only
        rw [c2_ninl]
        rfl
      have st : forK (C n) (.nm 2) (.ifs (.cmp .nin (.var 2) (.var 1)) (.app (.var 1) (.var 2)) .skip) (.str u) [some (.v (.lst (ws.map D.str))), some (.p 0), o] (cellS acc) = .nx [some (.v (.lst (ws.map D.str))), some (.p 0), some (.v (.str u))] (cellS (addW acc u)) := by
        unfold forK
        simp only [bindT, bnd_ok, bnd_ex, bnd_no, out_ok, out_ex, out_no, seq_nx, seq_rt, seq_ex, res_some, res_none, outR_rt, outR_nx, outR_ex, pureP_v, pureP_ex, see_v, ask_str, ask_int, ask_bl, ask_non, eqD_str, eqD_int, eqD_bl, eqD_non, e_var, varK_s, e_chain, chain_i, c2_lt, c2_le, c2_gt, c2_ge, c2_eqs, c2_nes, c2_eqi, c2_nei, c2_eqb, c2_neb, c2_in1, un_lens, un_lenl, un_lent, un_lenc, un_ii, un_ib, un_all, un_neg, un_n0, un_nt, un_nl, op_addi, op_subi, ix_l, ix_t, e_cst, e_op, e_cmp, e_un, e_and, e_or, e_not, e_ifx, e_tup, e_lst, e_new, e_frz, e_idx, e_slc, e_rev, e_call, e_callm, e_calln, e_make, e_attr, e_isi, e_pop0, e_lc, e_seq, e_enum, e_rng, e_nil, e_cons, e_no, e_opt, x_skip, x_seq, x_asg, x_par, x_app, x_ext, x_setI, x_ret, x_ifs, x_for, x_whl, opK_v, cmpK_v, unK_v, idxK_v, slcK_v, revK_v, optK_v, isiK_v, boolK_t, boolK_f, notK_v, ifsK_t, ifsK_f, seqK_s, seqK_l, seqK_t, enumK_l, asgK_n, frz_v, pl_nil, pl_cons, fromP_ok, fromP_ex, Option.map_some, Option.map_none, List.getElem?_cons_zero, List.getElem?_cons_succ, List.set_cons_zero, List.set_cons_succ, Bool.not_true, Bool.not_false, cm]
        unfold addW
        cases hc : acc.contains u with
        | true => simp only [bnd_ok, bnd_ex, bnd_no, out_ok, out_ex, out_no, seq_nx, seq_rt, seq_ex, res_some, res_none, outR_rt, outR_nx, outR_ex, pureP_v, pureP_ex, see_v, ask_str, ask_int, ask_bl, ask_non, eqD_str, eqD_int, eqD_bl, eqD_non, e_var, varK_s, e_chain, chain_i, c2_lt, c2_le, c2_gt, c2_ge, c2_eqs, c2_nes, c2_eqi, c2_nei, c2_eqb, c2_neb, c2_in1, un_lens, un_lenl, un_lent, un_lenc, un_ii, un_ib, un_all, un_neg, un_n0, un_nt, un_nl, op_addi, op_subi, ix_l, ix_t, e_cst, e_op, e_cmp, e_un, e_and, e_or, e_not, e_ifx, e_tup, e_lst, e_new, e_frz, e_idx, e_slc, e_rev, e_call, e_callm, e_calln, e_make, e_attr, e_isi, e_pop0, e_lc, e_seq, e_enum, e_rng, e_nil, e_cons, e_no, e_opt, x_skip, x_seq, x_asg, x_par, x_app, x_ext, x_setI, x_ret, x_ifs, x_for, x_whl, opK_v, cmpK_v, unK_v, idxK_v, slcK_v, revK_v, optK_v, isiK_v, boolK_t, boolK_f, notK_v, ifsK_t, ifsK_f, seqK_s, seqK_l, seqK_t, enumK_l, asgK_n, frz_v, pl_nil, pl_cons, fromP_ok, fromP_ex, Option.map_some, Option.map_none, List.getElem?_cons_zero, List.getElem?_cons_succ, List.set_cons_zero, List.set_cons_succ, Bool.not_true, Bool.not_false, if_true]
        | false =>
          simp only [bnd_ok, bnd_ex, bnd_no, out_ok, out_ex, out_no, seq_nx, seq_rt, seq_ex, res_some, res_none, outR_rt, outR_nx, outR_ex, pureP_v, pureP_ex, see_v, ask_str, ask_int, ask_bl, ask_non, eqD_str, eqD_int, eqD_bl, eqD_non, e_var, varK_s, e_chain, chain_i, c2_lt, c2_le, c2_gt, c2_ge, c2_eqs, c2_nes, c2_eqi, c2_nei, c2_eqb, c2_neb, c2_in1, un_lens, un_lenl, un_lent, un_lenc, un_ii, un_ib, un_all, un_neg, un_n0, un_nt, un_nl, op_addi, op_subi, ix_l, ix_t, e_cst, e_op, e_cmp, e_un, e_and, e_or, e_not, e_ifx, e_tup, e_lst, e_new, e_frz, e_idx, e_slc, e_rev, e_call, e_callm, e_calln, e_make, e_attr, e_isi, e_pop0, e_lc, e_seq, e_enum, e_rng, e_nil, e_cons, e_no, e_opt, x_skip, x_seq, x_asg, x_par, x_app, x_ext, x_setI, x_ret, x_ifs, x_for, x_whl, opK_v, cmpK_v, unK_v, idxK_v, slcK_v, revK_v, optK_v, isiK_v, boolK_t, boolK_f, notK_v, ifsK_t, ifsK_f, seqK_s, seqK_l, seqK_t, enumK_l, asgK_n, frz_v, pl_nil, pl_cons, fromP_ok, fromP_ex, Option.map_some, Option.map_none, List.getElem?_cons_zero, List.getElem?_cons_succ, List.set_cons_zero, List.set_cons_succ, Bool.not_true, Bool.not_false, lstAt_cellS]
          rw [app_cellS _ _ (by omega)]
          rfl
      rw [List.map_cons, forL, st]
      dsimp only
      rw [hi, List.foldl_cons]
  obtain ⟨o', hk⟩ := key ws [] none (by simpa using hl)
  rw [hk]
  simp only [bnd_ok, bnd_ex, bnd_no, out_ok, out_ex, out_no, seq_nx, seq_rt, seq_ex, res_some, res_none, outR_rt, outR_nx, outR_ex, pureP_v, pureP_ex, see_v, ask_str, ask_int, ask_bl, ask_non, eqD_str, eqD_int, eqD_bl, eqD_non, e_var, varK_s, e_chain, chain_i, c2_lt, c2_le, c2_gt, c2_ge, c2_eqs, c2_nes, c2_eqi, c2_nei, c2_eqb, c2_neb, c2_in1, un_lens, un_lenl, un_lent, un_lenc, un_ii, un_ib, un_all, un_neg, un_n0, un_nt, un_nl, op_addi, op_subi, ix_l, ix_t, e_cst, e_op, e_cmp, e_un, e_and, e_or, e_not, e_ifx, e_tup, e_lst, e_new, e_frz, e_idx, e_slc, e_rev, e_call, e_callm, e_calln, e_make, e_attr, e_isi, e_pop0, e_lc, e_seq, e_enum, e_rng, e_nil, e_cons, e_no, e_opt, x_skip, x_seq, x_asg, x_par, x_app, x_ext, x_setI, x_ret, x_ifs, x_for, x_whl, opK_v, cmpK_v, unK_v, idxK_v, slcK_v, revK_v, optK_v, isiK_v, boolK_t, boolK_f, notK_v, ifsK_t, ifsK_f, seqK_s, seqK_l, seqK_t, enumK_l, asgK_n, frz_v, pl_nil, pl_cons, fromP_ok, fromP_ex, Option.map_some, Option.map_none, List.getElem?_cons_zero, List.getElem?_cons_succ, List.set_cons_zero, List.set_cons_succ, Bool.not_true, Bool.not_false]
  rw [pureP_ok (see_cellS _)]
  rfl
/-! ### whether a tree holds -/
mutual
def holds (ws : List Tok) : Tr → Bool
  | .word w => ws.contains w
  | .all => true
  | .none => false
  | .not t => !holds ws t
  | .op k ts => holdsL ws k ts
def holdsL (ws : List Tok) (k : Bool) : List Tr → Bool
  | [] => k
  | t :: ts => if holds ws t == k then holdsL ws k ts else !k
end
theorem holdsL_find (ws : List Tok) (k : Bool) : ∀ ts : List Tr, holdsL ws k ts = (ts.findSome? fun t => if holds ws t == k then none else some (!k)).getD k
  | [] => by rw [holdsL]; rfl
  | t :: ts => by
    rw [holdsL, List.findSome?_cons]
    cases h : holds ws t == k with
    | true =>
      rw [if_pos rfl, if_pos rfl]
      exact holdsL_find ws k ts
    | false => rfl
theorem find_bang {ws : List Tok} {k : Bool} {b : Bool} : ∀ {ts : List Tr}, (ts.findSome? fun t => if holds ws t == k then none else some (!k)) = some b → b = !k
  | t :: ts, h => by
    rw [List.findSome?_cons] at h
    cases e : holds ws t == k with
    | true =>
      rw [e, if_pos rfl] at h
      exact find_bang h
    | false =>
      rw [e] at h
      exact (Option.some.inj h).symm
mutual
theorem holds_ok (hp : HQ C ix) (ws : List Tok) : ∀ (t : Tr) (n : Nat), nd t ≤ n → (C n).fn ix.tree_holds [toD t, sL ws] = .ok (.bl (holds ws t))
  | .word w, n, hn => by
    rw [nd] at hn
    obtain ⟨n, rfl⟩ : ∃ j, n = j + 1 := ⟨n - 1, by omega⟩
    rw [fn_of_fa hp.holds n _ rfl]
    show pureP (outR (xs (C n) (Lb.tree_holds ix).body [some (.v (toD (.word w))), some (.v (.lst (ws.map D.str))), none] [])) = _
    unfold Lb.tree_holds
    simp only [bnd_ok, bnd_ex, bnd_no, out_ok, out_ex, out_no, seq_nx, seq_rt, seq_ex, res_some, res_none, outR_rt, outR_nx, outR_ex, pureP_v, pureP_ex, see_v, ask_str, ask_int, ask_bl, ask_non, eqD_str, eqD_int, eqD_bl, eqD_non, e_var, varK_s, e_chain, chain_i, c2_lt, c2_le, c2_gt, c2_ge, c2_eqs, c2_nes, c2_eqi, c2_nei, c2_eqb, c2_neb, c2_in1, un_lens, un_lenl, un_lent, un_lenc, un_ii, un_ib, un_all, un_neg, un_n0, un_nt, un_nl, op_addi, op_subi, ix_l, ix_t, e_cst, e_op, e_cmp, e_un, e_and, e_or, e_not, e_ifx, e_tup, e_lst, e_new, e_frz, e_idx, e_slc, e_rev, e_call, e_callm, e_calln, e_make, e_attr, e_isi, e_pop0, e_lc, e_seq, e_enum, e_rng, e_nil, e_cons, e_no, e_opt, x_skip, x_seq, x_asg, x_par, x_app, x_ext, x_setI, x_ret, x_ifs, x_for, x_whl, opK_v, cmpK_v, unK_v, idxK_v, slcK_v, revK_v, optK_v, isiK_v, boolK_t, boolK_f, notK_v, ifsK_t, ifsK_f, seqK_s, seqK_l, seqK_t, enumK_l, asgK_n, frz_v, pl_nil, pl_cons, fromP_ok, fromP_ex, Option.map_some, Option.map_none, List.getElem?_cons_zero, List.getElem?_cons_succ, List.set_cons_zero, List.set_cons_succ, Bool.not_true, Bool.not_false, ixT0, kk_wd, ixTw, c2_inl]
    rw [holds]
  | .all, n, hn => by
    rw [nd] at hn
    obtain ⟨n, rfl⟩ : ∃ j, n = j + 1 := ⟨n - 1, by omega⟩
    rw [fn_of_fa hp.holds n _ rfl]
    show pureP (outR (xs (C n) (Lb.tree_holds ix).body [some (.v (toD .all)), some (.v (sL ws)), none] [])) = _
    unfold Lb.tree_holds
    simp only [bnd_ok, bnd_ex, bnd_no, out_ok, out_ex, out_no, seq_nx, seq_rt, seq_ex, res_some, res_none, outR_rt, outR_nx, outR_ex, pureP_v, pureP_ex, see_v, ask_str, ask_int, ask_bl, ask_non, eqD_str, eqD_int, eqD_bl, eqD_non, e_var, varK_s, e_chain, chain_i, c2_lt, c2_le, c2_gt, c2_ge, c2_eqs, c2_nes, c2_eqi, c2_nei, c2_eqb, c2_neb, c2_in1, un_lens, un_lenl, un_lent, un_lenc, un_ii, un_ib, un_all, un_neg, un_n0, un_nt, un_nl, op_addi, op_subi, ix_l, ix_t, e_cst, e_op, e_cmp, e_un, e_and, e_or, e_not, e_ifx, e_tup, e_lst, e_new, e_frz, e_idx, e_slc, e_rev, e_call, e_callm, e_calln, e_make, e_attr, e_isi, e_pop0, e_lc, e_seq, e_enum, e_rng, e_nil, e_cons, e_no, e_opt, x_skip, x_seq, x_asg, x_par, x_app, x_ext, x_setI, x_ret, x_ifs, x_for, x_whl, opK_v, cmpK_v, unK_v, idxK_v, slcK_v, revK_v, optK_v, isiK_v, boolK_t, boolK_f, notK_v, ifsK_t, ifsK_f, seqK_s, seqK_l, seqK_t, enumK_l, asgK_n, frz_v, pl_nil, pl_cons, fromP_ok, fromP_ex, Option.map_some, Option.map_none, List.getElem?_cons_zero, List.getElem?_cons_succ, List.set_cons_zero, List.set_cons_succ, Bool.not_true, Bool.not_false, ixT0, kk_wd, kk_not, tup2, c2_nino, kk_op, isOp, kk_all]
    rw [holds]
  | .none, n, hn => by
    rw [nd] at hn
    obtain ⟨n, rfl⟩ : ∃ j, n = j + 1 := ⟨n - 1, by omega⟩
    rw [fn_of_fa hp.holds n _ rfl]
    show pureP (outR (xs (C n) (Lb.tree_holds ix).body [some (.v (toD .none)), some (.v (sL ws)), none] [])) = _
    unfold Lb.tree_holds
    simp only [bnd_ok, bnd_ex, bnd_no, out_ok, out_ex, out_no, seq_nx, seq_rt, seq_ex, res_some, res_none, outR_rt, outR_nx, outR_ex, pureP_v, pureP_ex, see_v, ask_str, ask_int, ask_bl, ask_non, eqD_str, eqD_int, eqD_bl, eqD_non, e_var, varK_s, e_chain, chain_i, c2_lt, c2_le, c2_gt, c2_ge, c2_eqs, c2_nes, c2_eqi, c2_nei, c2_eqb, c2_neb, c2_in1, un_lens, un_lenl, un_lent, un_lenc, un_ii, un_ib, un_all, un_neg, un_n0, un_nt, un_nl, op_addi, op_subi, ix_l, ix_t, e_cst, e_op, e_cmp, e_un, e_and, e_or, e_not, e_ifx, e_tup, e_lst, e_new, e_frz, e_idx, e_slc, e_rev, e_call, e_callm, e_calln, e_make, e_attr, e_isi, e_pop0, e_lc, e_seq, e_enum, e_rng, e_nil, e_cons, e_no, e_opt, x_skip, x_seq, x_asg, x_par, x_app, x_ext, x_setI, x_ret, x_ifs, x_for, x_whl, opK_v, cmpK_v, unK_v, idxK_v, slcK_v, revK_v, optK_v, isiK_v, boolK_t, boolK_f, notK_v, ifsK_t, ifsK_f, seqK_s, seqK_l, seqK_t, enumK_l, asgK_n, frz_v, pl_nil, pl_cons, fromP_ok, fromP_ex, Option.map_some, Option.map_none, List.getElem?_cons_zero, List.getElem?_cons_succ, List.set_cons_zero, List.set_cons_succ, Bool.not_true, Bool.not_false, ixT0, kk_wd, kk_not, tup2, c2_nino, kk_op, isOp, kk_all]
    rw [holds]
  | .not t, n, hn => by
    rw [nd] at hn
    obtain ⟨n, rfl⟩ : ∃ j, n = j + 1 := ⟨n - 1, by omega⟩
    rw [fn_of_fa hp.holds n _ rfl]
    show pureP (outR (xs (C n) (Lb.tree_holds ix).body [some (.v (toD (.not t))), some (.v (sL ws)), none] [])) = _
    have c1 : ∀ m, callK (C n) ix.tree_holds [.v (toD t), .v (sL ws)] m = .ok (.v (.bl (holds ws t))) m := fun m => callK_ok rfl (holds_ok hp ws t n (by omega))
    unfold Lb.tree_holds
    simp only [bnd_ok, bnd_ex, bnd_no, out_ok, out_ex, out_no, seq_nx, seq_rt, seq_ex, res_some, res_none, outR_rt, outR_nx, outR_ex, pureP_v, pureP_ex, see_v, ask_str, ask_int, ask_bl, ask_non, eqD_str, eqD_int, eqD_bl, eqD_non, e_var, varK_s, e_chain, chain_i, c2_lt, c2_le, c2_gt, c2_ge, c2_eqs, c2_nes, c2_eqi, c2_nei, c2_eqb, c2_neb, c2_in1, un_lens, un_lenl, un_lent, un_lenc, un_ii, un_ib, un_all, un_neg, un_n0, un_nt, un_nl, op_addi, op_subi, ix_l, ix_t, e_cst, e_op, e_cmp, e_un, e_and, e_or, e_not, e_ifx, e_tup, e_lst, e_new, e_frz, e_idx, e_slc, e_rev, e_call, e_callm, e_calln, e_make, e_attr, e_isi, e_pop0, e_lc, e_seq, e_enum, e_rng, e_nil, e_cons, e_no, e_opt, x_skip, x_seq, x_asg, x_par, x_app, x_ext, x_setI, x_ret, x_ifs, x_for, x_whl, opK_v, cmpK_v, unK_v, idxK_v, slcK_v, revK_v, optK_v, isiK_v, boolK_t, boolK_f, notK_v, ifsK_t, ifsK_f, seqK_s, seqK_l, seqK_t, enumK_l, asgK_n, frz_v, pl_nil, pl_cons, fromP_ok, fromP_ex, Option.map_some, Option.map_none, List.getElem?_cons_zero, List.getElem?_cons_succ, List.set_cons_zero, List.set_cons_succ, Bool.not_true, Bool.not_false, ixT0, kk_wd, kk_not, ixTn, c1]
    rw [holds]
  | .op k ts, n, hn => by
    rw [nd] at hn
    obtain ⟨n, rfl⟩ : ∃ j, n = j + 1 := ⟨n - 1, by omega⟩
    rw [fn_of_fa hp.holds n _ rfl]
    show pureP (outR (xs (C n) (Lb.tree_holds ix).body [some (.v (toD (.op k ts))), some (.v (sL ws)), none] [])) = _
    have cs := holdsL_ok hp ws ts n (by omega)
    have e1 : (kind (.op k ts) == [111, 114]) = !k := by cases k <;> rfl
    have e2 : (kind (.op k ts) == [97, 110, 100]) = k := by cases k <;> rfl
    unfold Lb.tree_holds
    simp only [bnd_ok, bnd_ex, bnd_no, out_ok, out_ex, out_no, seq_nx, seq_rt, seq_ex, res_some, res_none, outR_rt, outR_nx, outR_ex, pureP_v, pureP_ex, see_v, ask_str, ask_int, ask_bl, ask_non, eqD_str, eqD_int, eqD_bl, eqD_non, e_var, varK_s, e_chain, chain_i, c2_lt, c2_le, c2_gt, c2_ge, c2_eqs, c2_nes, c2_eqi, c2_nei, c2_eqb, c2_neb, c2_in1, un_lens, un_lenl, un_lent, un_lenc, un_ii, un_ib, un_all, un_neg, un_n0, un_nt, un_nl, op_addi, op_subi, ix_l, ix_t, e_cst, e_op, e_cmp, e_un, e_and, e_or, e_not, e_ifx, e_tup, e_lst, e_new, e_frz, e_idx, e_slc, e_rev, e_call, e_callm, e_calln, e_make, e_attr, e_isi, e_pop0, e_lc, e_seq, e_enum, e_rng, e_nil, e_cons, e_no, e_opt, x_skip, x_seq, x_asg, x_par, x_app, x_ext, x_setI, x_ret, x_ifs, x_for, x_whl, opK_v, cmpK_v, unK_v, idxK_v, slcK_v, revK_v, optK_v, isiK_v, boolK_t, boolK_f, notK_v, ifsK_t, ifsK_f, seqK_s, seqK_l, seqK_t, enumK_l, asgK_n, frz_v, pl_nil, pl_cons, fromP_ok, fromP_ex, Option.map_some, Option.map_none, List.getElem?_cons_zero, List.getElem?_cons_succ, List.set_cons_zero, List.set_cons_succ, Bool.not_true, Bool.not_false, ixT0, kk_wd, kk_not, tup2, c2_nino, kk_op, isOp, ixT1]
    obtain ⟨o', h⟩ := forL_some (m := []) (f := forK (C n) (.nm 2) (.ifs (.cmp .eq (.call ix.tree_holds (.cons (.var 2) (.cons (.var 1) .nil))) (.cmp .eq (.idx (.var 0) (.cst (.int 0))) (.cst (.str [111, 114])))) (.ret (.cmp .eq (.idx (.var 0) (.cst (.int 0))) (.cst (.str [111, 114])))) .skip)) toD (fun t => if holds ws t == k then none else some (!k)) (fun b => .v (.bl b)) (fun o => [some (.v (toD (.op k ts))), some (.v (sL ws)), o]) ts (fun t ht o => by
        have c1 : ∀ m, callK (C n) ix.tree_holds [.v (toD t), .v (sL ws)] m = .ok (.v (.bl (holds ws t))) m := fun m => callK_ok rfl (cs t ht)
        refine ⟨some (.v (toD t)), ?_⟩
        unfold forK
        simp only [bindT, bnd_ok, bnd_ex, bnd_no, out_ok, out_ex, out_no, seq_nx, seq_rt, seq_ex, res_some, res_none, outR_rt, outR_nx, outR_ex, pureP_v, pureP_ex, see_v, ask_str, ask_int, ask_bl, ask_non, eqD_str, eqD_int, eqD_bl, eqD_non, e_var, varK_s, e_chain, chain_i, c2_lt, c2_le, c2_gt, c2_ge, c2_eqs, c2_nes, c2_eqi, c2_nei, c2_eqb, c2_neb, c2_in1, un_lens, un_lenl, un_lent, un_lenc, un_ii, un_ib, un_all, un_neg, un_n0, un_nt, un_nl, op_addi, op_subi, ix_l, ix_t, e_cst, e_op, e_cmp, e_un, e_and, e_or, e_not, e_ifx, e_tup, e_lst, e_new, e_frz, e_idx, e_slc, e_rev, e_call, e_callm, e_calln, e_make, e_attr, e_isi, e_pop0, e_lc, e_seq, e_enum, e_rng, e_nil, e_cons, e_no, e_opt, x_skip, x_seq, x_asg, x_par, x_app, x_ext, x_setI, x_ret, x_ifs, x_for, x_whl, opK_v, cmpK_v, unK_v, idxK_v, slcK_v, revK_v, optK_v, isiK_v, boolK_t, boolK_f, notK_v, ifsK_t, ifsK_f, seqK_s, seqK_l, seqK_t, enumK_l, asgK_n, frz_v, pl_nil, pl_cons, fromP_ok, fromP_ex, Option.map_some, Option.map_none, List.getElem?_cons_zero, List.getElem?_cons_succ, List.set_cons_zero, List.set_cons_succ, Bool.not_true, Bool.not_false, c1, ixT0, e1]
        cases k <;> cases holds ws t <;> rfl) none
    rw [h, holds, holdsL_find]
    cases hf : ts.findSome? fun t => if holds ws t == k then none else some (!k) with
    | none =>
      dsimp only
      simp only [bnd_ok, bnd_ex, bnd_no, out_ok, out_ex, out_no, seq_nx, seq_rt, seq_ex, res_some, res_none, outR_rt, outR_nx, outR_ex, pureP_v, pureP_ex, see_v, ask_str, ask_int, ask_bl, ask_non, eqD_str, eqD_int, eqD_bl, eqD_non, e_var, varK_s, e_chain, chain_i, c2_lt, c2_le, c2_gt, c2_ge, c2_eqs, c2_nes, c2_eqi, c2_nei, c2_eqb, c2_neb, c2_in1, un_lens, un_lenl, un_lent, un_lenc, un_ii, un_ib, un_all, un_neg, un_n0, un_nt, un_nl, op_addi, op_subi, ix_l, ix_t, e_cst, e_op, e_cmp, e_un, e_and, e_or, e_not, e_ifx, e_tup, e_lst, e_new, e_frz, e_idx, e_slc, e_rev, e_call, e_callm, e_calln, e_make, e_attr, e_isi, e_pop0, e_lc, e_seq, e_enum, e_rng, e_nil, e_cons, e_no, e_opt, x_skip, x_seq, x_asg, x_par, x_app, x_ext, x_setI, x_ret, x_ifs, x_for, x_whl, opK_v, cmpK_v, unK_v, idxK_v, slcK_v, revK_v, optK_v, isiK_v, boolK_t, boolK_f, notK_v, ifsK_t, ifsK_f, seqK_s, seqK_l, seqK_t, enumK_l, asgK_n, frz_v, pl_nil, pl_cons, fromP_ok, fromP_ex, Option.map_some, Option.map_none, List.getElem?_cons_zero, List.getElem?_cons_succ, List.set_cons_zero, List.set_cons_succ, Bool.not_true, Bool.not_false, ixT0, e2]
      rfl
    | some b =>
      dsimp only
      simp only [bnd_ok, bnd_ex, bnd_no, out_ok, out_ex, out_no, seq_nx, seq_rt, seq_ex, res_some, res_none, outR_rt, outR_nx, outR_ex, pureP_v, pureP_ex, see_v, ask_str, ask_int, ask_bl, ask_non, eqD_str, eqD_int, eqD_bl, eqD_non, e_var, varK_s, e_chain, chain_i, c2_lt, c2_le, c2_gt, c2_ge, c2_eqs, c2_nes, c2_eqi, c2_nei, c2_eqb, c2_neb, c2_in1, un_lens, un_lenl, un_lent, un_lenc, un_ii, un_ib, un_all, un_neg, un_n0, un_nt, un_nl, op_addi, op_subi, ix_l, ix_t, e_cst, e_op, e_cmp, e_un, e_and, e_or, e_not, e_ifx, e_tup, e_lst, e_new, e_frz, e_idx, e_slc, e_rev, e_call, e_callm, e_calln, e_make, e_attr, e_isi, e_pop0, e_lc, e_seq, e_enum, e_rng, e_nil, e_cons, e_no, e_opt, x_skip, x_seq, x_asg, x_par, x_app, x_ext, x_setI, x_ret, x_ifs, x_for, x_whl, opK_v, cmpK_v, unK_v, idxK_v, slcK_v, revK_v, optK_v, isiK_v, boolK_t, boolK_f, notK_v, ifsK_t, ifsK_f, seqK_s, seqK_l, seqK_t, enumK_l, asgK_n, frz_v, pl_nil, pl_cons, fromP_ok, fromP_ex, Option.map_some, Option.map_none, List.getElem?_cons_zero, List.getElem?_cons_succ, List.set_cons_zero, List.set_cons_succ, Bool.not_true, Bool.not_false]
      rfl
theorem holdsL_ok (hp : HQ C ix) (ws : List Tok) : ∀ (ts : List Tr) (n : Nat), nd.nds ts ≤ n → ∀ t ∈ ts, (C n).fn ix.tree_holds [toD t, sL ws] = .ok (.bl (holds ws t))
  | [], _, _ => fun t ht => by simp at ht
  | u :: ts, n, hn => fun t ht => by
    rw [nd.nds] at hn
    rcases List.mem_cons.mp ht with e | ht
    · rw [e]
      exact holds_ok hp ws u n (by omega)
    · exact holdsL_ok hp ws ts n (by omega) t ht
end
/-! ### choices of so many words -/
def chs : Nat → List Tok → List (List Tok)
  | 0, _ => [[]]
  | _ + 1, [] => []
  | m + 1, w :: ws => (chs m ws).map (w :: ·) ++ chs (m + 1) ws
theorem chs_len : ∀ (ws : List Tok) (m : Nat), (chs m ws).length ≤ 2 ^ ws.length
  | ws, 0 => by
    rw [chs]
    exact Nat.one_le_two_pow
  | [], m + 1 => by simp [chs]
  | w :: ws, m + 1 => by
    rw [chs]
    have := chs_len ws m
    have := chs_len ws (m + 1)
    simp [Nat.pow_succ]
    omega
def cellL (acc : List (List Tok)) : Mu := [.lst ((acc.map sL).map U.v)]
theorem see_cellL (acc : List (List Tok)) : see (cellL acc) (.p 0) = some (.lst (acc.map sL)) := seeM_map _
theorem lstAt_cellL (acc : List (List Tok)) : lstAt (cellL acc) (.p 0) = some 0 := rfl
theorem ext_cellL {ρ : Ro} (acc ws : List (List Tok)) (h : acc.length + ws.length ≤ lim) : extK 0 ρ (.v (.lst (ws.map sL))) (cellL acc) = .nx ρ (cellL (acc ++ ws)) := by
  show (if ((acc.map sL).map U.v).length + (ws.map sL).length ≤ lim then O.nx ρ [.lst (((acc.map sL).map U.v) ++ (ws.map sL).map U.v)] else .no) = _
  rw [if_pos (by rw [List.length_map, List.length_map, List.length_map]; exact h)]
  unfold cellL
  rw [List.map_append, List.map_append]
theorem nwL : newK [] [] = .ok (.p 0) (cellL []) := by
  unfold newK
  rw [if_pos (by show 0 ≤ lim; exact Nat.zero_le _)]
  rfl
theorem cut_from {α : Type} (xs : List α) (a : Nat) : cutD xs (some (a : Int)) none = xs.drop a := by
  unfold cutD
  rw [HT.sIx_nat, HT.sIx_none]
  by_cases c : a ≤ xs.length
  · rw [Nat.min_eq_left c, List.take_of_length_le (by simp)]
  · rw [Nat.min_eq_right (by omega)]
    simp
    omega
theorem sl_from (S : List Tok) (a : Nat) : slc2 (sL S) (some (a : Int)) none = some (sL (S.drop a)) := by
  show some (D.lst (cutD (S.map D.str) (some (a : Int)) none)) = _
  rw [cut_from, ← List.map_drop]
  rfl
theorem op_addl (x y : List D) (h : x.length + y.length ≤ lim) : op2 .add (.lst x) (.lst y) = some (.lst (x ++ y)) := if_pos h
theorem op_addL (x y : List Tok) (h : x.length + y.length ≤ lim) : op2 .add (sL x) (sL y) = some (sL (x ++ y)) := by
  unfold sL
  rw [op_addl _ _ (by simpa using h), List.map_append]
theorem chs_short : ∀ (m : Nat) (ws c : List Tok), c ∈ chs m ws → c.length = m
  | 0, ws, c, h => by
    rw [chs] at h
    simp at h
    subst h
    rfl
  | m + 1, [], c, h => by simp [chs] at h
  | m + 1, w :: ws, c, h => by
    rw [chs] at h
    rcases List.mem_append.mp h with h | h
    · obtain ⟨d, hd, rfl⟩ := List.mem_map.mp h
      rw [List.length_cons, chs_short m ws d hd]
    · exact chs_short (m + 1) ws c h
theorem bind2 {i j : Nat} {d e : D} {ρ : Ro} : bindT (.tp (.cons (.nm i) (.cons (.nm j) .nil))) (.v (.tup [d, e])) ρ = some ((ρ.set i (some (.v d))).set j (some (.v e))) := rfl
theorem un_lenL (S : List Tok) : un1 .len (sL S) = some (.int (S.length : Int)) := un_lenS S
theorem chosen_ok (hp : HQ C ix) : ∀ (m : Nat) (ws : List Tok) (n : Nat), m + 1 ≤ n → m ≤ 1000 → ws.length ≤ 18 → (C n).fn ix.chosen [sL ws, .int (m : Int)] = .ok (.lst ((chs m ws).map sL))
  | 0, ws, n, hn, _, hl => by
    obtain ⟨n, rfl⟩ : ∃ j, n = j + 1 := ⟨n - 1, by omega⟩
    rw [fn_of_fa hp.chosen n _ rfl]
    show pureP (outR (xs (C n) (Lb.chosen ix).body [some (.v (sL ws)), some (.v (.int 0)), none, none, none, none] [])) = _
    unfold Lb.chosen
    simp only [bnd_ok, bnd_ex, bnd_no, out_ok, out_ex, out_no, seq_nx, seq_rt, seq_ex, res_some, res_none, outR_rt, outR_nx, outR_ex, pureP_v, pureP_ex, see_v, ask_str, ask_int, ask_bl, ask_non, eqD_str, eqD_int, eqD_bl, eqD_non, e_var, varK_s, e_chain, chain_i, c2_lt, c2_le, c2_gt, c2_ge, c2_eqs, c2_nes, c2_eqi, c2_nei, c2_eqb, c2_neb, c2_in1, un_lens, un_lenl, un_lent, un_lenc, un_ii, un_ib, un_all, un_neg, un_n0, un_nt, un_nl, op_addi, op_subi, ix_l, ix_t, e_cst, e_op, e_cmp, e_un, e_and, e_or, e_not, e_ifx, e_tup, e_lst, e_new, e_frz, e_idx, e_slc, e_rev, e_call, e_callm, e_calln, e_make, e_attr, e_isi, e_pop0, e_lc, e_seq, e_enum, e_rng, e_nil, e_cons, e_no, e_opt, x_skip, x_seq, x_asg, x_par, x_app, x_ext, x_setI, x_ret, x_ifs, x_for, x_whl, opK_v, cmpK_v, unK_v, idxK_v, slcK_v, revK_v, optK_v, isiK_v, boolK_t, boolK_f, notK_v, ifsK_t, ifsK_f, seqK_s, seqK_l, seqK_t, enumK_l, asgK_n, frz_v, pl_nil, pl_cons, fromP_ok, fromP_ex, Option.map_some, Option.map_none, List.getElem?_cons_zero, List.getElem?_cons_succ, List.set_cons_zero, List.set_cons_succ, Bool.not_true, Bool.not_false]
    rw [show ((0 : Int) == 0) = true from rfl]
    simp only [bnd_ok, bnd_ex, bnd_no, out_ok, out_ex, out_no, seq_nx, seq_rt, seq_ex, res_some, res_none, outR_rt, outR_nx, outR_ex, pureP_v, pureP_ex, see_v, ask_str, ask_int, ask_bl, ask_non, eqD_str, eqD_int, eqD_bl, eqD_non, e_var, varK_s, e_chain, chain_i, c2_lt, c2_le, c2_gt, c2_ge, c2_eqs, c2_nes, c2_eqi, c2_nei, c2_eqb, c2_neb, c2_in1, un_lens, un_lenl, un_lent, un_lenc, un_ii, un_ib, un_all, un_neg, un_n0, un_nt, un_nl, op_addi, op_subi, ix_l, ix_t, e_cst, e_op, e_cmp, e_un, e_and, e_or, e_not, e_ifx, e_tup, e_lst, e_new, e_frz, e_idx, e_slc, e_rev, e_call, e_callm, e_calln, e_make, e_attr, e_isi, e_pop0, e_lc, e_seq, e_enum, e_rng, e_nil, e_cons, e_no, e_opt, x_skip, x_seq, x_asg, x_par, x_app, x_ext, x_setI, x_ret, x_ifs, x_for, x_whl, opK_v, cmpK_v, unK_v, idxK_v, slcK_v, revK_v, optK_v, isiK_v, boolK_t, boolK_f, notK_v, ifsK_t, ifsK_f, seqK_s, seqK_l, seqK_t, enumK_l, asgK_n, frz_v, pl_nil, pl_cons, fromP_ok, fromP_ex, Option.map_some, Option.map_none, List.getElem?_cons_zero, List.getElem?_cons_succ, List.set_cons_zero, List.set_cons_succ, Bool.not_true, Bool.not_false, lst0, lst1]
    rw [chs]
    rfl
  | m + 1, ws, n, hn, hm, hl => by
    obtain ⟨n, rfl⟩ : ∃ j, n = j + 1 := ⟨n - 1, by omega⟩
    rw [fn_of_fa hp.chosen n _ rfl]
    show pureP (outR (xs (C n) (Lb.chosen ix).body [some (.v (.lst (ws.map D.str))), some (.v (.int ((m + 1 : Nat) : Int))), none, none, none, none] [])) = _
    unfold Lb.chosen
    simp only [bnd_ok, bnd_ex, bnd_no, out_ok, out_ex, out_no, seq_nx, seq_rt, seq_ex, res_some, res_none, outR_rt, outR_nx, outR_ex, pureP_v, pureP_ex, see_v, ask_str, ask_int, ask_bl, ask_non, eqD_str, eqD_int, eqD_bl, eqD_non, e_var, varK_s, e_chain, chain_i, c2_lt, c2_le, c2_gt, c2_ge, c2_eqs, c2_nes, c2_eqi, c2_nei, c2_eqb, c2_neb, c2_in1, un_lens, un_lenl, un_lent, un_lenc, un_ii, un_ib, un_all, un_neg, un_n0, un_nt, un_nl, op_addi, op_subi, ix_l, ix_t, e_cst, e_op, e_cmp, e_un, e_and, e_or, e_not, e_ifx, e_tup, e_lst, e_new, e_frz, e_idx, e_slc, e_rev, e_call, e_callm, e_calln, e_make, e_attr, e_isi, e_pop0, e_lc, e_seq, e_enum, e_rng, e_nil, e_cons, e_no, e_opt, x_skip, x_seq, x_asg, x_par, x_app, x_ext, x_setI, x_ret, x_ifs, x_for, x_whl, opK_v, cmpK_v, unK_v, idxK_v, slcK_v, revK_v, optK_v, isiK_v, boolK_t, boolK_f, notK_v, ifsK_t, ifsK_f, seqK_s, seqK_l, seqK_t, enumK_l, asgK_n, frz_v, pl_nil, pl_cons, fromP_ok, fromP_ex, Option.map_some, Option.map_none, List.getElem?_cons_zero, List.getElem?_cons_succ, List.set_cons_zero, List.set_cons_succ, Bool.not_true, Bool.not_false]
    rw [show (((m + 1 : Nat) : Int) == 0) = false by rw [beq_eq_false_iff_ne]; omega]
    simp only [bnd_ok, bnd_ex, bnd_no, out_ok, out_ex, out_no, seq_nx, seq_rt, seq_ex, res_some, res_none, outR_rt, outR_nx, outR_ex, pureP_v, pureP_ex, see_v, ask_str, ask_int, ask_bl, ask_non, eqD_str, eqD_int, eqD_bl, eqD_non, e_var, varK_s, e_chain, chain_i, c2_lt, c2_le, c2_gt, c2_ge, c2_eqs, c2_nes, c2_eqi, c2_nei, c2_eqb, c2_neb, c2_in1, un_lens, un_lenl, un_lent, un_lenc, un_ii, un_ib, un_all, un_neg, un_n0, un_nt, un_nl, op_addi, op_subi, ix_l, ix_t, e_cst, e_op, e_cmp, e_un, e_and, e_or, e_not, e_ifx, e_tup, e_lst, e_new, e_frz, e_idx, e_slc, e_rev, e_call, e_callm, e_calln, e_make, e_attr, e_isi, e_pop0, e_lc, e_seq, e_enum, e_rng, e_nil, e_cons, e_no, e_opt, x_skip, x_seq, x_asg, x_par, x_app, x_ext, x_setI, x_ret, x_ifs, x_for, x_whl, opK_v, cmpK_v, unK_v, idxK_v, slcK_v, revK_v, optK_v, isiK_v, boolK_t, boolK_f, notK_v, ifsK_t, ifsK_f, seqK_s, seqK_l, seqK_t, enumK_l, asgK_n, frz_v, pl_nil, pl_cons, fromP_ok, fromP_ex, Option.map_some, Option.map_none, List.getElem?_cons_zero, List.getElem?_cons_succ, List.set_cons_zero, List.set_cons_succ, Bool.not_true, Bool.not_false, nwL]
    have hlim : lim = 1000000 := rfl
    have p18 : 2 ^ ws.length ≤ 2 ^ 18 := Nat.pow_le_pow_right (by decide) hl
    have key : ∀ (us : List Tok) (i : Nat) (acc : List (List Tok)) (o3 o4 : Option U), ws.drop i = us → acc.length + (chs (m + 1) us).length ≤ 2 ^ 18 → ∃ o3' o4', forL (forK (C n) (.tp (.cons (.nm 3) (.cons (.nm 4) .nil))) (.ext (.var 2) (.lc [5] (.nm 5) (.seq (.call ix.chosen (.cons (.slc (.var 0) (.opt (.op .add (.var 3) (.cst (.int 1)))) .nil) (.cons (.op .sub (.var 1) (.cst (.int 1))) .nil)))) (.cst (.bl true)) (.op .add (.lst (.cons (.var 4) .nil)) (.var 5))))) (numbered i (us.map D.str)) [some (.v (sL ws)), some (.v (.int ((m + 1 : Nat) : Int))), some (.p 0), o3, o4, none] (cellL acc) = .nx [some (.v (sL ws)), some (.v (.int ((m + 1 : Nat) : Int))), some (.p 0), o3', o4', none] (cellL (acc ++ chs (m + 1) us)) := by
      intro us
      induction us with
      | nil =>
        intro i acc o3 o4 _ _
        refine ⟨o3, o4, ?_⟩
        rw [chs]
        simp [numbered, forL]
      | cons u us ih =>
        intro i acc o3 o4 hd hb
        have hd1 : ws.drop (i + 1) = us := drop_add (u := [u]) hd
        have il : us.length + 1 ≤ ws.length := by
          have := congrArg List.length hd
          simp at this
          omega
        rw [chs, List.length_append, List.length_map] at hb
        have p18 : (2 : Nat) ^ 18 = 262144 := by decide
        have c1 : ∀ mm, callK (C n) ix.chosen [.v (sL us), .v (.int (m : Int))] mm = .ok (.v (.lst ((chs m us).map sL))) mm := fun mm => callK_ok rfl (chosen_ok hp m us n (by omega) (by omega) (by omega))
        obtain ⟨o3', o4', hi⟩ := ih (i + 1) (acc ++ (chs m us).map (u :: ·)) (some (.v (.int (i : Int)))) (some (.v (.str u))) hd1 (by rw [List.length_append, List.length_map]; omega)
        refine ⟨o3', o4', ?_⟩
        have sl : slc2 (sL ws) (some ((i : Int) + 1)) none = some (sL us) := by
          have := sl_from ws (i + 1)
          rw [hd1] at this
          exact this
        have st : forK (C n) (.tp (.cons (.nm 3) (.cons (.nm 4) .nil))) (.ext (.var 2) (.lc [5] (.nm 5) (.seq (.call ix.chosen (.cons (.slc (.var 0) (.opt (.op .add (.var 3) (.cst (.int 1)))) .nil) (.cons (.op .sub (.var 1) (.cst (.int 1))) .nil)))) (.cst (.bl true)) (.op .add (.lst (.cons (.var 4) .nil)) (.var 5)))) (.tup [.int (i : Int), .str u]) [some (.v (sL ws)), some (.v (.int ((m + 1 : Nat) : Int))), some (.p 0), o3, o4, none] (cellL acc) = .nx [some (.v (sL ws)), some (.v (.int ((m + 1 : Nat) : Int))), some (.p 0), some (.v (.int (i : Int))), some (.v (.str u)), none] (cellL (acc ++ (chs m us).map (u :: ·))) := by
          unfold forK
          simp only [bind2, bnd_ok, bnd_ex, bnd_no, out_ok, out_ex, out_no, seq_nx, seq_rt, seq_ex, res_some, res_none, outR_rt, outR_nx, outR_ex, pureP_v, pureP_ex, see_v, ask_str, ask_int, ask_bl, ask_non, eqD_str, eqD_int, eqD_bl, eqD_non, e_var, varK_s, e_chain, chain_i, c2_lt, c2_le, c2_gt, c2_ge, c2_eqs, c2_nes, c2_eqi, c2_nei, c2_eqb, c2_neb, c2_in1, un_lens, un_lenl, un_lent, un_lenc, un_ii, un_ib, un_all, un_neg, un_n0, un_nt, un_nl, op_addi, op_subi, ix_l, ix_t, e_cst, e_op, e_cmp, e_un, e_and, e_or, e_not, e_ifx, e_tup, e_lst, e_new, e_frz, e_idx, e_slc, e_rev, e_call, e_callm, e_calln, e_make, e_attr, e_isi, e_pop0, e_lc, e_seq, e_enum, e_rng, e_nil, e_cons, e_no, e_opt, x_skip, x_seq, x_asg, x_par, x_app, x_ext, x_setI, x_ret, x_ifs, x_for, x_whl, opK_v, cmpK_v, unK_v, idxK_v, slcK_v, revK_v, optK_v, isiK_v, boolK_t, boolK_f, notK_v, ifsK_t, ifsK_f, seqK_s, seqK_l, seqK_t, enumK_l, asgK_n, frz_v, pl_nil, pl_cons, fromP_ok, fromP_ex, Option.map_some, Option.map_none, List.getElem?_cons_zero, List.getElem?_cons_succ, List.set_cons_zero, List.set_cons_succ, Bool.not_true, Bool.not_false, lstAt_cellL, sl, show ((m + 1 : Nat) : Int) - 1 = (m : Int) by omega, c1]
          rw [lcL_map (g := fun d => match d with
            | .lst r => .lst (.str u :: r)
            | _ => .non) fun d hd' => ?_]
          · simp only [bnd_ok, bnd_ex, bnd_no, out_ok, out_ex, out_no, seq_nx, seq_rt, seq_ex, res_some, res_none, outR_rt, outR_nx, outR_ex, pureP_v, pureP_ex, see_v, ask_str, ask_int, ask_bl, ask_non, eqD_str, eqD_int, eqD_bl, eqD_non, e_var, varK_s, e_chain, chain_i, c2_lt, c2_le, c2_gt, c2_ge, c2_eqs, c2_nes, c2_eqi, c2_nei, c2_eqb, c2_neb, c2_in1, un_lens, un_lenl, un_lent, un_lenc, un_ii, un_ib, un_all, un_neg, un_n0, un_nt, un_nl, op_addi, op_subi, ix_l, ix_t, e_cst, e_op, e_cmp, e_un, e_and, e_or, e_not, e_ifx, e_tup, e_lst, e_new, e_frz, e_idx, e_slc, e_rev, e_call, e_callm, e_calln, e_make, e_attr, e_isi, e_pop0, e_lc, e_seq, e_enum, e_rng, e_nil, e_cons, e_no, e_opt, x_skip, x_seq, x_asg, x_par, x_app, x_ext, x_setI, x_ret, x_ifs, x_for, x_whl, opK_v, cmpK_v, unK_v, idxK_v, slcK_v, revK_v, optK_v, isiK_v, boolK_t, boolK_f, notK_v, ifsK_t, ifsK_f, seqK_s, seqK_l, seqK_t, enumK_l, asgK_n, frz_v, pl_nil, pl_cons, fromP_ok, fromP_ex, Option.map_some, Option.map_none, List.getElem?_cons_zero, List.getElem?_cons_succ, List.set_cons_zero, List.set_cons_succ, Bool.not_true, Bool.not_false]
            have e : ((chs m us).map sL).map (fun d => match d with
              | .lst r => D.lst (.str u :: r)
              | _ => .non) = ((chs m us).map (u :: ·)).map sL := by
              rw [List.map_map, List.map_map]
              rfl
            rw [e, ext_cellL _ _ (by rw [List.length_map]; omega)]
          · obtain ⟨c, hc, rfl⟩ := List.mem_map.mp hd'
            have := chs_short m us c hc
            have ad : op2 .add (.lst [.str u]) (sL c) = some (sL (u :: c)) := op_addL [u] c (by simp; omega)
            unfold lcStep
            simp only [wipeR, bindT, bnd_ok, bnd_ex, bnd_no, out_ok, out_ex, out_no, seq_nx, seq_rt, seq_ex, res_some, res_none, outR_rt, outR_nx, outR_ex, pureP_v, pureP_ex, see_v, ask_str, ask_int, ask_bl, ask_non, eqD_str, eqD_int, eqD_bl, eqD_non, e_var, varK_s, e_chain, chain_i, c2_lt, c2_le, c2_gt, c2_ge, c2_eqs, c2_nes, c2_eqi, c2_nei, c2_eqb, c2_neb, c2_in1, un_lens, un_lenl, un_lent, un_lenc, un_ii, un_ib, un_all, un_neg, un_n0, un_nt, un_nl, op_addi, op_subi, ix_l, ix_t, e_cst, e_op, e_cmp, e_un, e_and, e_or, e_not, e_ifx, e_tup, e_lst, e_new, e_frz, e_idx, e_slc, e_rev, e_call, e_callm, e_calln, e_make, e_attr, e_isi, e_pop0, e_lc, e_seq, e_enum, e_rng, e_nil, e_cons, e_no, e_opt, x_skip, x_seq, x_asg, x_par, x_app, x_ext, x_setI, x_ret, x_ifs, x_for, x_whl, opK_v, cmpK_v, unK_v, idxK_v, slcK_v, revK_v, optK_v, isiK_v, boolK_t, boolK_f, notK_v, ifsK_t, ifsK_f, seqK_s, seqK_l, seqK_t, enumK_l, asgK_n, frz_v, pl_nil, pl_cons, fromP_ok, fromP_ex, Option.map_some, Option.map_none, List.getElem?_cons_zero, List.getElem?_cons_succ, List.set_cons_zero, List.set_cons_succ, Bool.not_true, Bool.not_false, lst1, ad]
            rfl
        rw [List.map_cons, numbered, forL, st]
        dsimp only
        rw [hi, chs, List.append_assoc]
    have cl := chs_len ws (m + 1)
    obtain ⟨o3, o4, h⟩ := key ws 0 [] none none rfl (by simp; omega)
    unfold sL at h
    rw [h]
    simp only [bnd_ok, bnd_ex, bnd_no, out_ok, out_ex, out_no, seq_nx, seq_rt, seq_ex, res_some, res_none, outR_rt, outR_nx, outR_ex, pureP_v, pureP_ex, see_v, ask_str, ask_int, ask_bl, ask_non, eqD_str, eqD_int, eqD_bl, eqD_non, e_var, varK_s, e_chain, chain_i, c2_lt, c2_le, c2_gt, c2_ge, c2_eqs, c2_nes, c2_eqi, c2_nei, c2_eqb, c2_neb, c2_in1, un_lens, un_lenl, un_lent, un_lenc, un_ii, un_ib, un_all, un_neg, un_n0, un_nt, un_nl, op_addi, op_subi, ix_l, ix_t, e_cst, e_op, e_cmp, e_un, e_and, e_or, e_not, e_ifx, e_tup, e_lst, e_new, e_frz, e_idx, e_slc, e_rev, e_call, e_callm, e_calln, e_make, e_attr, e_isi, e_pop0, e_lc, e_seq, e_enum, e_rng, e_nil, e_cons, e_no, e_opt, x_skip, x_seq, x_asg, x_par, x_app, x_ext, x_setI, x_ret, x_ifs, x_for, x_whl, opK_v, cmpK_v, unK_v, idxK_v, slcK_v, revK_v, optK_v, isiK_v, boolK_t, boolK_f, notK_v, ifsK_t, ifsK_f, seqK_s, seqK_l, seqK_t, enumK_l, asgK_n, frz_v, pl_nil, pl_cons, fromP_ok, fromP_ex, Option.map_some, Option.map_none, List.getElem?_cons_zero, List.getElem?_cons_succ, List.set_cons_zero, List.set_cons_succ, Bool.not_true, Bool.not_false]
    rw [pureP_ok (see_cellL _)]
    rfl
end
end At

/-! Formulas compared. -/
namespace At
open PySem
section
variable {C : Nat → CE} {ix : Lb.Ix}
theorem range_map : ∀ (n : Nat) (lo : Nat), rangeD (lo : Int) n = (List.range' lo n).map fun i : Nat => .int (i : Int)
  | 0, _ => rfl
  | n + 1, lo => by
    rw [rangeD, List.range'_succ, List.map_cons]
    have := range_map n (lo + 1)
    rw [← this]
    rfl
theorem rngK_n {m : Mu} (n : Nat) (h : n ≤ lim) : rngK (.v (.int (n : Int))) m = .ok ((List.range' 0 n).map fun i : Nat => .int (i : Int)) m := by
  show (if (n : Int).natAbs ≤ lim then R.ok (rangeD 0 (n : Int).toNat) m else .no) = _
  rw [if_pos (by simpa using h)]
  have := range_map n 0
  rw [← this]
  rfl
def diff (a b : Tr) (s : List Tok) : Option (List Tok) := if holds s a == holds s b then none else some s
def twoW (a b : Tr) : List Tok := uniq (words a ++ words b)
def tch (a b : Tr) : Option (List Tok) := (List.range' 0 ((twoW a b).length + 1)).findSome? fun m => (chs m (twoW a b)).findSome? (diff a b)
def oD : Option (List Tok) → D
  | some s => sL s
  | none => .non
theorem tchoice_ok (hp : HQ C ix) {a b : Tr} {n : Nat} (ha : nd a + 1 ≤ n) (hb : nd b + 1 ≤ n) (sa : sz a ≤ 10000) (sb : sz b ≤ 10000) (hw : (twoW a b).length ≤ 18) (hn : (twoW a b).length + 2 ≤ n) : (C n).fn ix.tree_choice [toD a, toD b] = .ok (oD (tch a b)) := by
  obtain ⟨n, rfl⟩ : ∃ j, n = j + 1 := ⟨n - 1, by omega⟩
  rw [fn_of_fa hp.tchoice n _ rfl]
  show pureP (outR (xs (C n) (Lb.tree_choice ix).body [some (.v (toD a)), some (.v (toD b)), none, none, none] [])) = _
  have hlim : lim = 1000000 := rfl
  have wa := words_len a
  have wb := words_len b
  have c1 : ∀ m, callK (C n) ix.tree_words [.v (toD a)] m = .ok (.v (sL (words a))) m := fun m => callK_ok rfl (words_ok hp a n (by omega) sa)
  have c2 : ∀ m, callK (C n) ix.tree_words [.v (toD b)] m = .ok (.v (sL (words b))) m := fun m => callK_ok rfl (words_ok hp b n (by omega) sb)
  have c3 : ∀ m, callK (C n) ix.unlike_words [.v (sL (words a ++ words b))] m = .ok (.v (sL (twoW a b))) m := fun m => by
    obtain ⟨i, rfl⟩ : ∃ i, n = i + 1 := ⟨n - 1, by omega⟩
    exact callK_ok rfl (unlike_ok hp.unlike i _ (by rw [List.length_append]; omega))
  have c4 : ∀ m s, callK (C n) ix.tree_holds [.v (toD a), .v (sL s)] m = .ok (.v (.bl (holds s a))) m := fun m s => callK_ok rfl (holds_ok hp s a n (by omega))
  have c5 : ∀ m s, callK (C n) ix.tree_holds [.v (toD b), .v (sL s)] m = .ok (.v (.bl (holds s b))) m := fun m s => callK_ok rfl (holds_ok hp s b n (by omega))
  have ad : op2 .add (sL (words a)) (sL (words b)) = some (sL (words a ++ words b)) := op_addL _ _ (by omega)
  have rg : ∀ m, rngK (.v (.int (((twoW a b).length : Int) + 1))) m = .ok ((List.range' 0 ((twoW a b).length + 1)).map fun i : Nat => .int (i : Int)) m := fun m => rngK_n ((twoW a b).length + 1) (by omega)
  unfold Lb.tree_choice
  simp only [bnd_ok, bnd_ex, bnd_no, out_ok, out_ex, out_no, seq_nx, seq_rt, seq_ex, res_some, res_none, outR_rt, outR_nx, outR_ex, pureP_v, pureP_ex, see_v, ask_str, ask_int, ask_bl, ask_non, eqD_str, eqD_int, eqD_bl, eqD_non, e_var, varK_s, e_chain, chain_i, c2_lt, c2_le, c2_gt, c2_ge, c2_eqs, c2_nes, c2_eqi, c2_nei, c2_eqb, c2_neb, c2_in1, un_lens, un_lenl, un_lent, un_lenc, un_ii, un_ib, un_all, un_neg, un_n0, un_nt, un_nl, op_addi, op_subi, ix_l, ix_t, e_cst, e_op, e_cmp, e_un, e_and, e_or, e_not, e_ifx, e_tup, e_lst, e_new, e_frz, e_idx, e_slc, e_rev, e_call, e_callm, e_calln, e_make, e_attr, e_isi, e_pop0, e_lc, e_seq, e_enum, e_rng, e_nil, e_cons, e_no, e_opt, x_skip, x_seq, x_asg, x_par, x_app, x_ext, x_setI, x_ret, x_ifs, x_for, x_whl, opK_v, cmpK_v, unK_v, idxK_v, slcK_v, revK_v, optK_v, isiK_v, boolK_t, boolK_f, notK_v, ifsK_t, ifsK_f, seqK_s, seqK_l, seqK_t, enumK_l, asgK_n, frz_v, pl_nil, pl_cons, fromP_ok, fromP_ex, Option.map_some, Option.map_none, List.getElem?_cons_zero, List.getElem?_cons_succ, List.set_cons_zero, List.set_cons_succ, Bool.not_true, Bool.not_false, c1, c2, ad, c3, un_lenL, rg]
  obtain ⟨⟨o1, o2⟩, h⟩ := forL_some (m := []) (f := forK (C n) (.nm 3) (.for_ (.nm 4) (.seq (.call ix.chosen (.cons (.var 2) (.cons (.var 3) .nil)))) (.ifs (.cmp .ne (.call ix.tree_holds (.cons (.var 0) (.cons (.var 4) .nil))) (.call ix.tree_holds (.cons (.var 1) (.cons (.var 4) .nil)))) (.ret (.var 4)) .skip))) (fun i : Nat => .int (i : Int)) (fun m => (chs m (twoW a b)).findSome? (diff a b)) (fun s => .v (sL s)) (fun o : Option U × Option U => [some (.v (toD a)), some (.v (toD b)), some (.v (sL (twoW a b))), o.1, o.2]) (List.range' 0 ((twoW a b).length + 1)) (fun j hj o => by
      have hj' : j ≤ (twoW a b).length := by
        simp [List.mem_range'] at hj
        omega
      have c6 : ∀ m, callK (C n) ix.chosen [.v (sL (twoW a b)), .v (.int (j : Int))] m = .ok (.v (.lst ((chs j (twoW a b)).map sL))) m := fun m => callK_ok rfl (chosen_ok hp j _ n (by omega) (by omega) (by omega))
      obtain ⟨o', hi⟩ := forL_some (m := []) (f := forK (C n) (.nm 4) (.ifs (.cmp .ne (.call ix.tree_holds (.cons (.var 0) (.cons (.var 4) .nil))) (.call ix.tree_holds (.cons (.var 1) (.cons (.var 4) .nil)))) (.ret (.var 4)) .skip)) sL (diff a b) (fun s => .v (sL s)) (fun o : Option U => [some (.v (toD a)), some (.v (toD b)), some (.v (sL (twoW a b))), some (.v (.int (j : Int))), o]) (chs j (twoW a b)) (fun s hs o => by
          refine ⟨some (.v (sL s)), ?_⟩
          unfold forK
          simp only [bindT, bnd_ok, bnd_ex, bnd_no, out_ok, out_ex, out_no, seq_nx, seq_rt, seq_ex, res_some, res_none, outR_rt, outR_nx, outR_ex, pureP_v, pureP_ex, see_v, ask_str, ask_int, ask_bl, ask_non, eqD_str, eqD_int, eqD_bl, eqD_non, e_var, varK_s, e_chain, chain_i, c2_lt, c2_le, c2_gt, c2_ge, c2_eqs, c2_nes, c2_eqi, c2_nei, c2_eqb, c2_neb, c2_in1, un_lens, un_lenl, un_lent, un_lenc, un_ii, un_ib, un_all, un_neg, un_n0, un_nt, un_nl, op_addi, op_subi, ix_l, ix_t, e_cst, e_op, e_cmp, e_un, e_and, e_or, e_not, e_ifx, e_tup, e_lst, e_new, e_frz, e_idx, e_slc, e_rev, e_call, e_callm, e_calln, e_make, e_attr, e_isi, e_pop0, e_lc, e_seq, e_enum, e_rng, e_nil, e_cons, e_no, e_opt, x_skip, x_seq, x_asg, x_par, x_app, x_ext, x_setI, x_ret, x_ifs, x_for, x_whl, opK_v, cmpK_v, unK_v, idxK_v, slcK_v, revK_v, optK_v, isiK_v, boolK_t, boolK_f, notK_v, ifsK_t, ifsK_f, seqK_s, seqK_l, seqK_t, enumK_l, asgK_n, frz_v, pl_nil, pl_cons, fromP_ok, fromP_ex, Option.map_some, Option.map_none, List.getElem?_cons_zero, List.getElem?_cons_succ, List.set_cons_zero, List.set_cons_succ, Bool.not_true, Bool.not_false, c4, c5]
          unfold diff
          cases holds s a <;> cases holds s b <;> rfl) o.2
      refine ⟨(some (.v (.int (j : Int))), o'), ?_⟩
      unfold forK
      simp only [bindT, bnd_ok, bnd_ex, bnd_no, out_ok, out_ex, out_no, seq_nx, seq_rt, seq_ex, res_some, res_none, outR_rt, outR_nx, outR_ex, pureP_v, pureP_ex, see_v, ask_str, ask_int, ask_bl, ask_non, eqD_str, eqD_int, eqD_bl, eqD_non, e_var, varK_s, e_chain, chain_i, c2_lt, c2_le, c2_gt, c2_ge, c2_eqs, c2_nes, c2_eqi, c2_nei, c2_eqb, c2_neb, c2_in1, un_lens, un_lenl, un_lent, un_lenc, un_ii, un_ib, un_all, un_neg, un_n0, un_nt, un_nl, op_addi, op_subi, ix_l, ix_t, e_cst, e_op, e_cmp, e_un, e_and, e_or, e_not, e_ifx, e_tup, e_lst, e_new, e_frz, e_idx, e_slc, e_rev, e_call, e_callm, e_calln, e_make, e_attr, e_isi, e_pop0, e_lc, e_seq, e_enum, e_rng, e_nil, e_cons, e_no, e_opt, x_skip, x_seq, x_asg, x_par, x_app, x_ext, x_setI, x_ret, x_ifs, x_for, x_whl, opK_v, cmpK_v, unK_v, idxK_v, slcK_v, revK_v, optK_v, isiK_v, boolK_t, boolK_f, notK_v, ifsK_t, ifsK_f, seqK_s, seqK_l, seqK_t, enumK_l, asgK_n, frz_v, pl_nil, pl_cons, fromP_ok, fromP_ex, Option.map_some, Option.map_none, List.getElem?_cons_zero, List.getElem?_cons_succ, List.set_cons_zero, List.set_cons_succ, Bool.not_true, Bool.not_false, c6]
      exact hi) (none, none)
  rw [h]
  unfold tch
  cases (List.range' 0 ((twoW a b).length + 1)).findSome? fun m => (chs m (twoW a b)).findSome? (diff a b) with
  | some s =>
    dsimp only
    simp only [bnd_ok, bnd_ex, bnd_no, out_ok, out_ex, out_no, seq_nx, seq_rt, seq_ex, res_some, res_none, outR_rt, outR_nx, outR_ex, pureP_v, pureP_ex, see_v, ask_str, ask_int, ask_bl, ask_non, eqD_str, eqD_int, eqD_bl, eqD_non, e_var, varK_s, e_chain, chain_i, c2_lt, c2_le, c2_gt, c2_ge, c2_eqs, c2_nes, c2_eqi, c2_nei, c2_eqb, c2_neb, c2_in1, un_lens, un_lenl, un_lent, un_lenc, un_ii, un_ib, un_all, un_neg, un_n0, un_nt, un_nl, op_addi, op_subi, ix_l, ix_t, e_cst, e_op, e_cmp, e_un, e_and, e_or, e_not, e_ifx, e_tup, e_lst, e_new, e_frz, e_idx, e_slc, e_rev, e_call, e_callm, e_calln, e_make, e_attr, e_isi, e_pop0, e_lc, e_seq, e_enum, e_rng, e_nil, e_cons, e_no, e_opt, x_skip, x_seq, x_asg, x_par, x_app, x_ext, x_setI, x_ret, x_ifs, x_for, x_whl, opK_v, cmpK_v, unK_v, idxK_v, slcK_v, revK_v, optK_v, isiK_v, boolK_t, boolK_f, notK_v, ifsK_t, ifsK_f, seqK_s, seqK_l, seqK_t, enumK_l, asgK_n, frz_v, pl_nil, pl_cons, fromP_ok, fromP_ex, Option.map_some, Option.map_none, List.getElem?_cons_zero, List.getElem?_cons_succ, List.set_cons_zero, List.set_cons_succ, Bool.not_true, Bool.not_false]
    rfl
  | none =>
    dsimp only
    simp only [bnd_ok, bnd_ex, bnd_no, out_ok, out_ex, out_no, seq_nx, seq_rt, seq_ex, res_some, res_none, outR_rt, outR_nx, outR_ex, pureP_v, pureP_ex, see_v, ask_str, ask_int, ask_bl, ask_non, eqD_str, eqD_int, eqD_bl, eqD_non, e_var, varK_s, e_chain, chain_i, c2_lt, c2_le, c2_gt, c2_ge, c2_eqs, c2_nes, c2_eqi, c2_nei, c2_eqb, c2_neb, c2_in1, un_lens, un_lenl, un_lent, un_lenc, un_ii, un_ib, un_all, un_neg, un_n0, un_nt, un_nl, op_addi, op_subi, ix_l, ix_t, e_cst, e_op, e_cmp, e_un, e_and, e_or, e_not, e_ifx, e_tup, e_lst, e_new, e_frz, e_idx, e_slc, e_rev, e_call, e_callm, e_calln, e_make, e_attr, e_isi, e_pop0, e_lc, e_seq, e_enum, e_rng, e_nil, e_cons, e_no, e_opt, x_skip, x_seq, x_asg, x_par, x_app, x_ext, x_setI, x_ret, x_ifs, x_for, x_whl, opK_v, cmpK_v, unK_v, idxK_v, slcK_v, revK_v, optK_v, isiK_v, boolK_t, boolK_f, notK_v, ifsK_t, ifsK_f, seqK_s, seqK_l, seqK_t, enumK_l, asgK_n, frz_v, pl_nil, pl_cons, fromP_ok, fromP_ex, Option.map_some, Option.map_none, List.getElem?_cons_zero, List.getElem?_cons_succ, List.set_cons_zero, List.set_cons_succ, Bool.not_true, Bool.not_false]
    rfl
/-! ### objects -/
theorem attr_oF (hp : HQ C ix) (n : Nat) (t : Tr) (m : Mu) : attrK (C n) ix.f_tree (.v (oF ix t)) m = .ok (.v (toD t)) m := by
  show (if (C n).fld ix.c_Formula ix.f_tree = true then Res ((([(ix.f_tree, toD t)] : List (Nat × D)).lookup ix.f_tree).map U.v) m else .no) = _
  rw [if_pos (hp.fld n)]
  have : ([(ix.f_tree, toD t)] : List (Nat × D)).lookup ix.f_tree = some (toD t) := by simp [List.lookup]
  rw [this]
  rfl
theorem isi_oF (hk : Kn C ix) (n : Nat) (t : Tr) : isiD (C n) [20 + ix.c_Formula] (oF ix t) = some true := by
  show isiK (C n) (20 + ix.c_Formula) [20 + ix.c_Formula] = _
  unfold isiK
  rw [hk.fo n _ (by simp)]
  simp
theorem isi_no (hk : Kn C ix) (n : Nat) {d : D} {k : Nat} (h : kindD d = some k) (h2 : k ≤ 5) : isiD (C n) [20 + ix.c_Formula] d = some false := by
  have : isiD (C n) [20 + ix.c_Formula] d = isiK (C n) k [20 + ix.c_Formula] := by
    unfold isiD
    rw [h]
  rw [this]
  unfold isiK
  rw [hk.fo n k (by simp; omega)]
  have : decide (k = 20 + ix.c_Formula) = false := decide_eq_false (by omega)
  rw [this]
  rfl
/-- what two trees need to be compared -/
structure Cp (a b : Tr) (n : Nat) : Prop where
  na : nd a + 1 ≤ n
  nb : nd b + 1 ≤ n
  sa : sz a ≤ 10000
  sb : sz b ≤ 10000
  w : (twoW a b).length ≤ 18
  wn : (twoW a b).length + 2 ≤ n
theorem un_isN (o : Option (List Tok)) : un1 .isN (oD o) = some (.bl o.isNone) := by
  cases o <;> rfl
theorem feq_ok (hp : HQ C ix) {a b : Tr} {n : Nat} (h : Cp a b n) : (C (n + 1)).fn ix.Formula_eq [oF ix a, oF ix b] = .ok (.bl (tch a b).isNone) := by
  rw [fn_of_fa hp.eq n _ rfl]
  show pureP (outR (xs (C n) (Lb.Formula_eq ix).body [some (.v (oF ix a)), some (.v (oF ix b))] [])) = _
  have c1 : ∀ m, callK (C n) ix.tree_choice [.v (toD a), .v (toD b)] m = .ok (.v (oD (tch a b))) m := fun m => callK_ok rfl (tchoice_ok hp h.na h.nb h.sa h.sb h.w h.wn)
  unfold Lb.Formula_eq
  simp only [bnd_ok, bnd_ex, bnd_no, out_ok, out_ex, out_no, seq_nx, seq_rt, seq_ex, res_some, res_none, outR_rt, outR_nx, outR_ex, pureP_v, pureP_ex, see_v, ask_str, ask_int, ask_bl, ask_non, eqD_str, eqD_int, eqD_bl, eqD_non, e_var, varK_s, e_chain, chain_i, c2_lt, c2_le, c2_gt, c2_ge, c2_eqs, c2_nes, c2_eqi, c2_nei, c2_eqb, c2_neb, c2_in1, un_lens, un_lenl, un_lent, un_lenc, un_ii, un_ib, un_all, un_neg, un_n0, un_nt, un_nl, op_addi, op_subi, ix_l, ix_t, e_cst, e_op, e_cmp, e_un, e_and, e_or, e_not, e_ifx, e_tup, e_lst, e_new, e_frz, e_idx, e_slc, e_rev, e_call, e_callm, e_calln, e_make, e_attr, e_isi, e_pop0, e_lc, e_seq, e_enum, e_rng, e_nil, e_cons, e_no, e_opt, x_skip, x_seq, x_asg, x_par, x_app, x_ext, x_setI, x_ret, x_ifs, x_for, x_whl, opK_v, cmpK_v, unK_v, idxK_v, slcK_v, revK_v, optK_v, isiK_v, boolK_t, boolK_f, notK_v, ifsK_t, ifsK_f, seqK_s, seqK_l, seqK_t, enumK_l, asgK_n, frz_v, pl_nil, pl_cons, fromP_ok, fromP_ex, Option.map_some, Option.map_none, List.getElem?_cons_zero, List.getElem?_cons_succ, List.set_cons_zero, List.set_cons_succ, Bool.not_true, Bool.not_false, isi_oF hp.kn, attr_oF hp, c1, un_isN]
theorem feq_no (hp : HQ C ix) {a : Tr} {n : Nat} {d : D} {k : Nat} (h : kindD d = some k) (h2 : k ≤ 5) : (C (n + 1)).fn ix.Formula_eq [oF ix a, d] = .ok (.bl false) := by
  rw [fn_of_fa hp.eq n _ rfl]
  show pureP (outR (xs (C n) (Lb.Formula_eq ix).body [some (.v (oF ix a)), some (.v d)] [])) = _
  unfold Lb.Formula_eq
  simp only [bnd_ok, bnd_ex, bnd_no, out_ok, out_ex, out_no, seq_nx, seq_rt, seq_ex, res_some, res_none, outR_rt, outR_nx, outR_ex, pureP_v, pureP_ex, see_v, ask_str, ask_int, ask_bl, ask_non, eqD_str, eqD_int, eqD_bl, eqD_non, e_var, varK_s, e_chain, chain_i, c2_lt, c2_le, c2_gt, c2_ge, c2_eqs, c2_nes, c2_eqi, c2_nei, c2_eqb, c2_neb, c2_in1, un_lens, un_lenl, un_lent, un_lenc, un_ii, un_ib, un_all, un_neg, un_n0, un_nt, un_nl, op_addi, op_subi, ix_l, ix_t, e_cst, e_op, e_cmp, e_un, e_and, e_or, e_not, e_ifx, e_tup, e_lst, e_new, e_frz, e_idx, e_slc, e_rev, e_call, e_callm, e_calln, e_make, e_attr, e_isi, e_pop0, e_lc, e_seq, e_enum, e_rng, e_nil, e_cons, e_no, e_opt, x_skip, x_seq, x_asg, x_par, x_app, x_ext, x_setI, x_ret, x_ifs, x_for, x_whl, opK_v, cmpK_v, unK_v, idxK_v, slcK_v, revK_v, optK_v, isiK_v, boolK_t, boolK_f, notK_v, ifsK_t, ifsK_f, seqK_s, seqK_l, seqK_t, enumK_l, asgK_n, frz_v, pl_nil, pl_cons, fromP_ok, fromP_ex, Option.map_some, Option.map_none, List.getElem?_cons_zero, List.getElem?_cons_succ, List.set_cons_zero, List.set_cons_succ, Bool.not_true, Bool.not_false, isi_no hp.kn n h h2]
/-- an object, or a text -/
def Fml (C : Nat → CE) (ix : Lb.Ix) (n : Nat) (d : D) (t : Tr) : Prop := (C n).fn ix.formula_of [d] = .ok (oF ix t)
theorem fml_obj (hp : HQ C ix) (n : Nat) (t : Tr) : Fml C ix (n + 1) (oF ix t) t := by
  unfold Fml
  rw [fn_of_fa hp.fof n _ rfl]
  show pureP (outR (xs (C n) (Lb.formula_of ix).body [some (.v (oF ix t))] [])) = _
  unfold Lb.formula_of
  simp only [bnd_ok, bnd_ex, bnd_no, out_ok, out_ex, out_no, seq_nx, seq_rt, seq_ex, res_some, res_none, outR_rt, outR_nx, outR_ex, pureP_v, pureP_ex, see_v, ask_str, ask_int, ask_bl, ask_non, eqD_str, eqD_int, eqD_bl, eqD_non, e_var, varK_s, e_chain, chain_i, c2_lt, c2_le, c2_gt, c2_ge, c2_eqs, c2_nes, c2_eqi, c2_nei, c2_eqb, c2_neb, c2_in1, un_lens, un_lenl, un_lent, un_lenc, un_ii, un_ib, un_all, un_neg, un_n0, un_nt, un_nl, op_addi, op_subi, ix_l, ix_t, e_cst, e_op, e_cmp, e_un, e_and, e_or, e_not, e_ifx, e_tup, e_lst, e_new, e_frz, e_idx, e_slc, e_rev, e_call, e_callm, e_calln, e_make, e_attr, e_isi, e_pop0, e_lc, e_seq, e_enum, e_rng, e_nil, e_cons, e_no, e_opt, x_skip, x_seq, x_asg, x_par, x_app, x_ext, x_setI, x_ret, x_ifs, x_for, x_whl, opK_v, cmpK_v, unK_v, idxK_v, slcK_v, revK_v, optK_v, isiK_v, boolK_t, boolK_f, notK_v, ifsK_t, ifsK_f, seqK_s, seqK_l, seqK_t, enumK_l, asgK_n, frz_v, pl_nil, pl_cons, fromP_ok, fromP_ex, Option.map_some, Option.map_none, List.getElem?_cons_zero, List.getElem?_cons_succ, List.set_cons_zero, List.set_cons_succ, Bool.not_true, Bool.not_false, isi_oF hp.kn]
theorem makeK_ok {C : CE} {f : Nat} {us : List U} {m : Mu} {ds : List D} {d : D} (h1 : plainU us = some ds) (h2 : C.mkr f ds = .ok d) : makeK C f us m = .ok (.v d) m := by
  unfold makeK
  rw [h1]
  dsimp only
  rw [h2]
  rfl
theorem makeK_ex {C : CE} {f : Nat} {us : List U} {m : Mu} {ds : List D} {c : Nat} {fs : List (Nat × D)} (h1 : plainU us = some ds) (h2 : C.mkr f ds = .ex c fs) : makeK C f us m = .ex c fs m := by
  unfold makeK
  rw [h1]
  dsimp only
  rw [h2]
  rfl
theorem callK_ex {C : CE} {f : Nat} {us : List U} {m : Mu} {ds : List D} {c : Nat} {fs : List (Nat × D)} (h1 : plainU us = some ds) (h2 : C.fn f ds = .ex c fs) : callK C f us m = .ex c fs m := by
  unfold callK
  rw [h1]
  dsimp only
  rw [h2]
  rfl
theorem fml_text (hp : HQ C ix) {t : Tr} (g : Gd t) (n : Nat) (hn : nd t + 5 ≤ n) : Fml C ix (n + 1) (.str (tx t)) t := by
  unfold Fml
  rw [fn_of_fa hp.fof n _ rfl]
  show pureP (outR (xs (C n) (Lb.formula_of ix).body [some (.v (.str (tx t)))] [])) = _
  have c1 : ∀ m, makeK (C n) ix.c_Formula [.v (.str (tx t))] m = .ok (.v (oF ix t)) m := fun m => makeK_ok rfl (make_ok hp g n hn)
  unfold Lb.formula_of
  simp only [bnd_ok, bnd_ex, bnd_no, out_ok, out_ex, out_no, seq_nx, seq_rt, seq_ex, res_some, res_none, outR_rt, outR_nx, outR_ex, pureP_v, pureP_ex, see_v, ask_str, ask_int, ask_bl, ask_non, eqD_str, eqD_int, eqD_bl, eqD_non, e_var, varK_s, e_chain, chain_i, c2_lt, c2_le, c2_gt, c2_ge, c2_eqs, c2_nes, c2_eqi, c2_nei, c2_eqb, c2_neb, c2_in1, un_lens, un_lenl, un_lent, un_lenc, un_ii, un_ib, un_all, un_neg, un_n0, un_nt, un_nl, op_addi, op_subi, ix_l, ix_t, e_cst, e_op, e_cmp, e_un, e_and, e_or, e_not, e_ifx, e_tup, e_lst, e_new, e_frz, e_idx, e_slc, e_rev, e_call, e_callm, e_calln, e_make, e_attr, e_isi, e_pop0, e_lc, e_seq, e_enum, e_rng, e_nil, e_cons, e_no, e_opt, x_skip, x_seq, x_asg, x_par, x_app, x_ext, x_setI, x_ret, x_ifs, x_for, x_whl, opK_v, cmpK_v, unK_v, idxK_v, slcK_v, revK_v, optK_v, isiK_v, boolK_t, boolK_f, notK_v, ifsK_t, ifsK_f, seqK_s, seqK_l, seqK_t, enumK_l, asgK_n, frz_v, pl_nil, pl_cons, fromP_ok, fromP_ex, Option.map_some, Option.map_none, List.getElem?_cons_zero, List.getElem?_cons_succ, List.set_cons_zero, List.set_cons_succ, Bool.not_true, Bool.not_false, isi_no hp.kn n (d := .str (tx t)) (k := 3) rfl (by decide), c1]
theorem choice_ok (hp : HQ C ix) {a b : Tr} {n : Nat} (h : Cp a b n) {d e : D} (hd : Fml C ix n d a) (he : Fml C ix n e b) : (C (n + 1)).fn ix.choice [d, e] = .ok (oD (tch a b)) := by
  rw [fn_of_fa hp.choice n _ rfl]
  show pureP (outR (xs (C n) (Lb.choice ix).body [some (.v d), some (.v e), none, none] [])) = _
  have c1 : ∀ m, callK (C n) ix.formula_of [.v d] m = .ok (.v (oF ix a)) m := fun m => callK_ok rfl hd
  have c2 : ∀ m, callK (C n) ix.formula_of [.v e] m = .ok (.v (oF ix b)) m := fun m => callK_ok rfl he
  have c3 : ∀ m, callK (C n) ix.tree_choice [.v (toD a), .v (toD b)] m = .ok (.v (oD (tch a b))) m := fun m => callK_ok rfl (tchoice_ok hp h.na h.nb h.sa h.sb h.w h.wn)
  unfold Lb.choice
  simp only [bnd_ok, bnd_ex, bnd_no, out_ok, out_ex, out_no, seq_nx, seq_rt, seq_ex, res_some, res_none, outR_rt, outR_nx, outR_ex, pureP_v, pureP_ex, see_v, ask_str, ask_int, ask_bl, ask_non, eqD_str, eqD_int, eqD_bl, eqD_non, e_var, varK_s, e_chain, chain_i, c2_lt, c2_le, c2_gt, c2_ge, c2_eqs, c2_nes, c2_eqi, c2_nei, c2_eqb, c2_neb, c2_in1, un_lens, un_lenl, un_lent, un_lenc, un_ii, un_ib, un_all, un_neg, un_n0, un_nt, un_nl, op_addi, op_subi, ix_l, ix_t, e_cst, e_op, e_cmp, e_un, e_and, e_or, e_not, e_ifx, e_tup, e_lst, e_new, e_frz, e_idx, e_slc, e_rev, e_call, e_callm, e_calln, e_make, e_attr, e_isi, e_pop0, e_lc, e_seq, e_enum, e_rng, e_nil, e_cons, e_no, e_opt, x_skip, x_seq, x_asg, x_par, x_app, x_ext, x_setI, x_ret, x_ifs, x_for, x_whl, opK_v, cmpK_v, unK_v, idxK_v, slcK_v, revK_v, optK_v, isiK_v, boolK_t, boolK_f, notK_v, ifsK_t, ifsK_f, seqK_s, seqK_l, seqK_t, enumK_l, asgK_n, frz_v, pl_nil, pl_cons, fromP_ok, fromP_ex, Option.map_some, Option.map_none, List.getElem?_cons_zero, List.getElem?_cons_succ, List.set_cons_zero, List.set_cons_succ, Bool.not_true, Bool.not_false, c1, c2, attr_oF hp, c3]
/-! ### what is no formula -/
def Bad (C : Nat → CE) (ix : Lb.Ix) (ft : Nat) : Prop := ∀ n d, (C n).mkr ix.c_BadFormula [d] = .ok (.obj ix.c_BadFormula [(ft, d)])
theorem make_bad (hp : HQ C ix) {ft : Nat} (hb : Bad C ix ft) {d : D} (n : Nat) (h : (∃ x, d = .str x ∧ (C n).fn ix.read_tree [.str x] = .ok .non) ∨ ∃ i, d = .int i) : (C (n + 1)).mkr ix.c_Formula [d] = .ex ix.c_BadFormula [(ft, d)] := by
  rw [hp.mkF]
  unfold mkP
  rw [hp.init n, run_ok rfl]
  show (match outR (xs (C n) (Lb.Formula_init ix).body [some (.p 0), some (.v d), none] [.obj ix.c_Formula []]) with
    | .ok (.v .non) m => match see m (.p 0) with
      | some (.obj c' fs) => P.ok (.obj c' fs)
      | _ => .no
    | .ex c fs _ => .ex c fs
    | _ => .no) = _
  have rk : ∀ ρ m, raiK (C n) ix.c_BadFormula ρ [.v d] m = .ex ix.c_BadFormula [(ft, d)] ρ m := fun ρ m => by
    unfold raiK
    simp only [bnd_ok, bnd_ex, bnd_no, out_ok, out_ex, out_no, seq_nx, seq_rt, seq_ex, res_some, res_none, outR_rt, outR_nx, outR_ex, pureP_v, pureP_ex, see_v, ask_str, ask_int, ask_bl, ask_non, eqD_str, eqD_int, eqD_bl, eqD_non, e_var, varK_s, e_chain, chain_i, c2_lt, c2_le, c2_gt, c2_ge, c2_eqs, c2_nes, c2_eqi, c2_nei, c2_eqb, c2_neb, c2_in1, un_lens, un_lenl, un_lent, un_lenc, un_ii, un_ib, un_all, un_neg, un_n0, un_nt, un_nl, op_addi, op_subi, ix_l, ix_t, e_cst, e_op, e_cmp, e_un, e_and, e_or, e_not, e_ifx, e_tup, e_lst, e_new, e_frz, e_idx, e_slc, e_rev, e_call, e_callm, e_calln, e_make, e_attr, e_isi, e_pop0, e_lc, e_seq, e_enum, e_rng, e_nil, e_cons, e_no, e_opt, x_skip, x_seq, x_asg, x_par, x_app, x_ext, x_setI, x_ret, x_ifs, x_for, x_whl, opK_v, cmpK_v, unK_v, idxK_v, slcK_v, revK_v, optK_v, isiK_v, boolK_t, boolK_f, notK_v, ifsK_t, ifsK_f, seqK_s, seqK_l, seqK_t, enumK_l, asgK_n, frz_v, pl_nil, pl_cons, fromP_ok, fromP_ex, Option.map_some, Option.map_none, List.getElem?_cons_zero, List.getElem?_cons_succ, List.set_cons_zero, List.set_cons_succ, Bool.not_true, Bool.not_false]
    rw [hb]
  unfold Lb.Formula_init
  rcases h with ⟨x, rfl, h⟩ | ⟨i, rfl⟩
  · have c1 : ∀ m, callK (C n) ix.read_tree [.v (.str x)] m = .ok (.v .non) m := fun m => callK_ok rfl h
    simp only [bnd_ok, bnd_ex, bnd_no, out_ok, out_ex, out_no, seq_nx, seq_rt, seq_ex, res_some, res_none, outR_rt, outR_nx, outR_ex, pureP_v, pureP_ex, see_v, ask_str, ask_int, ask_bl, ask_non, eqD_str, eqD_int, eqD_bl, eqD_non, e_var, varK_s, e_chain, chain_i, c2_lt, c2_le, c2_gt, c2_ge, c2_eqs, c2_nes, c2_eqi, c2_nei, c2_eqb, c2_neb, c2_in1, un_lens, un_lenl, un_lent, un_lenc, un_ii, un_ib, un_all, un_neg, un_n0, un_nt, un_nl, op_addi, op_subi, ix_l, ix_t, e_cst, e_op, e_cmp, e_un, e_and, e_or, e_not, e_ifx, e_tup, e_lst, e_new, e_frz, e_idx, e_slc, e_rev, e_call, e_callm, e_calln, e_make, e_attr, e_isi, e_pop0, e_lc, e_seq, e_enum, e_rng, e_nil, e_cons, e_no, e_opt, x_skip, x_seq, x_asg, x_par, x_app, x_ext, x_setI, x_ret, x_ifs, x_for, x_whl, opK_v, cmpK_v, unK_v, idxK_v, slcK_v, revK_v, optK_v, isiK_v, boolK_t, boolK_f, notK_v, ifsK_t, ifsK_f, seqK_s, seqK_l, seqK_t, enumK_l, asgK_n, frz_v, pl_nil, pl_cons, fromP_ok, fromP_ex, Option.map_some, Option.map_none, List.getElem?_cons_zero, List.getElem?_cons_succ, List.set_cons_zero, List.set_cons_succ, Bool.not_true, Bool.not_false, isi_str hp.kn, c1, x_rai, rk]
  · have hi : isiD (C n) [3] (.int i) = some false := by
      show isiK (C n) 2 [3] = _
      unfold isiK
      rw [hp.kn.str n 2 (by simp)]
      rfl
    simp only [bnd_ok, bnd_ex, bnd_no, out_ok, out_ex, out_no, seq_nx, seq_rt, seq_ex, res_some, res_none, outR_rt, outR_nx, outR_ex, pureP_v, pureP_ex, see_v, ask_str, ask_int, ask_bl, ask_non, eqD_str, eqD_int, eqD_bl, eqD_non, e_var, varK_s, e_chain, chain_i, c2_lt, c2_le, c2_gt, c2_ge, c2_eqs, c2_nes, c2_eqi, c2_nei, c2_eqb, c2_neb, c2_in1, un_lens, un_lenl, un_lent, un_lenc, un_ii, un_ib, un_all, un_neg, un_n0, un_nt, un_nl, op_addi, op_subi, ix_l, ix_t, e_cst, e_op, e_cmp, e_un, e_and, e_or, e_not, e_ifx, e_tup, e_lst, e_new, e_frz, e_idx, e_slc, e_rev, e_call, e_callm, e_calln, e_make, e_attr, e_isi, e_pop0, e_lc, e_seq, e_enum, e_rng, e_nil, e_cons, e_no, e_opt, x_skip, x_seq, x_asg, x_par, x_app, x_ext, x_setI, x_ret, x_ifs, x_for, x_whl, opK_v, cmpK_v, unK_v, idxK_v, slcK_v, revK_v, optK_v, isiK_v, boolK_t, boolK_f, notK_v, ifsK_t, ifsK_f, seqK_s, seqK_l, seqK_t, enumK_l, asgK_n, frz_v, pl_nil, pl_cons, fromP_ok, fromP_ex, Option.map_some, Option.map_none, List.getElem?_cons_zero, List.getElem?_cons_succ, List.set_cons_zero, List.set_cons_succ, Bool.not_true, Bool.not_false, hi, x_rai, rk]
theorem fof_bad (hp : HQ C ix) {ft : Nat} (hb : Bad C ix ft) {d : D} (n : Nat) (h : (∃ x, d = .str x ∧ (C n).fn ix.read_tree [.str x] = .ok .non) ∨ ∃ i, d = .int i) : (C (n + 2)).fn ix.formula_of [d] = .ex ix.c_BadFormula [(ft, d)] := by
  rw [fn_of_fa hp.fof (n + 1) _ rfl]
  show pureP (outR (xs (C (n + 1)) (Lb.formula_of ix).body [some (.v d)] [])) = _
  have c1 : ∀ m, makeK (C (n + 1)) ix.c_Formula [.v d] m = .ex ix.c_BadFormula [(ft, d)] m := fun m => makeK_ex rfl (make_bad hp hb n h)
  have hi : isiD (C (n + 1)) [20 + ix.c_Formula] d = some false := by
    rcases h with ⟨x, rfl, _⟩ | ⟨i, rfl⟩
    · exact isi_no hp.kn _ (k := 3) rfl (by decide)
    · exact isi_no hp.kn _ (k := 2) rfl (by decide)
  unfold Lb.formula_of
  simp only [bnd_ok, bnd_ex, bnd_no, out_ok, out_ex, out_no, seq_nx, seq_rt, seq_ex, res_some, res_none, outR_rt, outR_nx, outR_ex, pureP_v, pureP_ex, see_v, ask_str, ask_int, ask_bl, ask_non, eqD_str, eqD_int, eqD_bl, eqD_non, e_var, varK_s, e_chain, chain_i, c2_lt, c2_le, c2_gt, c2_ge, c2_eqs, c2_nes, c2_eqi, c2_nei, c2_eqb, c2_neb, c2_in1, un_lens, un_lenl, un_lent, un_lenc, un_ii, un_ib, un_all, un_neg, un_n0, un_nt, un_nl, op_addi, op_subi, ix_l, ix_t, e_cst, e_op, e_cmp, e_un, e_and, e_or, e_not, e_ifx, e_tup, e_lst, e_new, e_frz, e_idx, e_slc, e_rev, e_call, e_callm, e_calln, e_make, e_attr, e_isi, e_pop0, e_lc, e_seq, e_enum, e_rng, e_nil, e_cons, e_no, e_opt, x_skip, x_seq, x_asg, x_par, x_app, x_ext, x_setI, x_ret, x_ifs, x_for, x_whl, opK_v, cmpK_v, unK_v, idxK_v, slcK_v, revK_v, optK_v, isiK_v, boolK_t, boolK_f, notK_v, ifsK_t, ifsK_f, seqK_s, seqK_l, seqK_t, enumK_l, asgK_n, frz_v, pl_nil, pl_cons, fromP_ok, fromP_ex, Option.map_some, Option.map_none, List.getElem?_cons_zero, List.getElem?_cons_succ, List.set_cons_zero, List.set_cons_succ, Bool.not_true, Bool.not_false, hi, c1]
theorem choice_bad1 (hp : HQ C ix) {d e : D} {n c : Nat} {fs : List (Nat × D)} (h : (C n).fn ix.formula_of [d] = .ex c fs) : (C (n + 1)).fn ix.choice [d, e] = .ex c fs := by
  rw [fn_of_fa hp.choice n _ rfl]
  show pureP (outR (xs (C n) (Lb.choice ix).body [some (.v d), some (.v e), none, none] [])) = _
  have c1 : ∀ m, callK (C n) ix.formula_of [.v d] m = .ex c fs m := fun m => callK_ex rfl h
  unfold Lb.choice
  simp only [bnd_ok, bnd_ex, bnd_no, out_ok, out_ex, out_no, seq_nx, seq_rt, seq_ex, res_some, res_none, outR_rt, outR_nx, outR_ex, pureP_v, pureP_ex, see_v, ask_str, ask_int, ask_bl, ask_non, eqD_str, eqD_int, eqD_bl, eqD_non, e_var, varK_s, e_chain, chain_i, c2_lt, c2_le, c2_gt, c2_ge, c2_eqs, c2_nes, c2_eqi, c2_nei, c2_eqb, c2_neb, c2_in1, un_lens, un_lenl, un_lent, un_lenc, un_ii, un_ib, un_all, un_neg, un_n0, un_nt, un_nl, op_addi, op_subi, ix_l, ix_t, e_cst, e_op, e_cmp, e_un, e_and, e_or, e_not, e_ifx, e_tup, e_lst, e_new, e_frz, e_idx, e_slc, e_rev, e_call, e_callm, e_calln, e_make, e_attr, e_isi, e_pop0, e_lc, e_seq, e_enum, e_rng, e_nil, e_cons, e_no, e_opt, x_skip, x_seq, x_asg, x_par, x_app, x_ext, x_setI, x_ret, x_ifs, x_for, x_whl, opK_v, cmpK_v, unK_v, idxK_v, slcK_v, revK_v, optK_v, isiK_v, boolK_t, boolK_f, notK_v, ifsK_t, ifsK_f, seqK_s, seqK_l, seqK_t, enumK_l, asgK_n, frz_v, pl_nil, pl_cons, fromP_ok, fromP_ex, Option.map_some, Option.map_none, List.getElem?_cons_zero, List.getElem?_cons_succ, List.set_cons_zero, List.set_cons_succ, Bool.not_true, Bool.not_false, c1]
theorem choice_bad2 (hp : HQ C ix) {d e : D} {t : Tr} {n c : Nat} {fs : List (Nat × D)} (h0 : Fml C ix n d t) (h : (C n).fn ix.formula_of [e] = .ex c fs) : (C (n + 1)).fn ix.choice [d, e] = .ex c fs := by
  rw [fn_of_fa hp.choice n _ rfl]
  show pureP (outR (xs (C n) (Lb.choice ix).body [some (.v d), some (.v e), none, none] [])) = _
  have c0 : ∀ m, callK (C n) ix.formula_of [.v d] m = .ok (.v (oF ix t)) m := fun m => callK_ok rfl h0
  have c1 : ∀ m, callK (C n) ix.formula_of [.v e] m = .ex c fs m := fun m => callK_ex rfl h
  unfold Lb.choice
  simp only [bnd_ok, bnd_ex, bnd_no, out_ok, out_ex, out_no, seq_nx, seq_rt, seq_ex, res_some, res_none, outR_rt, outR_nx, outR_ex, pureP_v, pureP_ex, see_v, ask_str, ask_int, ask_bl, ask_non, eqD_str, eqD_int, eqD_bl, eqD_non, e_var, varK_s, e_chain, chain_i, c2_lt, c2_le, c2_gt, c2_ge, c2_eqs, c2_nes, c2_eqi, c2_nei, c2_eqb, c2_neb, c2_in1, un_lens, un_lenl, un_lent, un_lenc, un_ii, un_ib, un_all, un_neg, un_n0, un_nt, un_nl, op_addi, op_subi, ix_l, ix_t, e_cst, e_op, e_cmp, e_un, e_and, e_or, e_not, e_ifx, e_tup, e_lst, e_new, e_frz, e_idx, e_slc, e_rev, e_call, e_callm, e_calln, e_make, e_attr, e_isi, e_pop0, e_lc, e_seq, e_enum, e_rng, e_nil, e_cons, e_no, e_opt, x_skip, x_seq, x_asg, x_par, x_app, x_ext, x_setI, x_ret, x_ifs, x_for, x_whl, opK_v, cmpK_v, unK_v, idxK_v, slcK_v, revK_v, optK_v, isiK_v, boolK_t, boolK_f, notK_v, ifsK_t, ifsK_f, seqK_s, seqK_l, seqK_t, enumK_l, asgK_n, frz_v, pl_nil, pl_cons, fromP_ok, fromP_ex, Option.map_some, Option.map_none, List.getElem?_cons_zero, List.getElem?_cons_succ, List.set_cons_zero, List.set_cons_succ, Bool.not_true, Bool.not_false, c0, c1]
/-- a or -/
def aOr : List Nat := [97, 32, 111, 114]
theorem aOr_bad (hp : HP C ix) (n : Nat) (hn : 10 ≤ n) : (C n).fn ix.read_tree [.str aOr] = .ok .non := by
  obtain ⟨n, rfl⟩ : ∃ j, n = j + 1 := ⟨n - 1, by omega⟩
  rw [fn_of_fa hp.tree n _ rfl]
  show pureP (outR (xs (C n) (Lb.read_tree ix).body [some (.v (.str aOr)), none, none, none] [])) = _
  have c1 : ∀ m, callK (C n) ix.signs_of [.v (.str aOr)] m = .ok (.v (sD [[97], tSp, wOr])) m := fun m => by
    obtain ⟨i, rfl⟩ : ∃ i, n = i + 1 := ⟨n - 1, by omega⟩
    exact callK_ok rfl (signs_of_ok hp.signs i aOr (by decide))
  have c2 : ∀ m, callK (C n) ix.read_any [.v (sD [[97], tSp, wOr]), .v (.int 0)] m = .ok (.v (.tup [toD (.word [97]), .int 1])) m := fun m => by
    have := (rd_ok hp (.word [97]) (by decide) (by decide)).any n (by rw [nd]; omega) [[97], tSp, wOr] 0 [tSp, wOr] ⟨by decide, by decide⟩ (by rw [tkF]; rfl) rfl rfl
    rw [tkF] at this
    exact callK_ok rfl this
  unfold Lb.read_tree
  simp only [bnd_ok, bnd_ex, bnd_no, out_ok, out_ex, out_no, seq_nx, seq_rt, seq_ex, res_some, res_none, outR_rt, outR_nx, outR_ex, pureP_v, pureP_ex, see_v, ask_str, ask_int, ask_bl, ask_non, eqD_str, eqD_int, eqD_bl, eqD_non, e_var, varK_s, e_chain, chain_i, c2_lt, c2_le, c2_gt, c2_ge, c2_eqs, c2_nes, c2_eqi, c2_nei, c2_eqb, c2_neb, c2_in1, un_lens, un_lenl, un_lent, un_lenc, un_ii, un_ib, un_all, un_neg, un_n0, un_nt, un_nl, op_addi, op_subi, ix_l, ix_t, e_cst, e_op, e_cmp, e_un, e_and, e_or, e_not, e_ifx, e_tup, e_lst, e_new, e_frz, e_idx, e_slc, e_rev, e_call, e_callm, e_calln, e_make, e_attr, e_isi, e_pop0, e_lc, e_seq, e_enum, e_rng, e_nil, e_cons, e_no, e_opt, x_skip, x_seq, x_asg, x_par, x_app, x_ext, x_setI, x_ret, x_ifs, x_for, x_whl, opK_v, cmpK_v, unK_v, idxK_v, slcK_v, revK_v, optK_v, isiK_v, boolK_t, boolK_f, notK_v, ifsK_t, ifsK_f, seqK_s, seqK_l, seqK_t, enumK_l, asgK_n, frz_v, pl_nil, pl_cons, fromP_ok, fromP_ex, Option.map_some, Option.map_none, List.getElem?_cons_zero, List.getElem?_cons_succ, List.set_cons_zero, List.set_cons_succ, Bool.not_true, Bool.not_false, c1, c2, asg2, un_lenS]
  rw [show ((1 : Int) == (([[97], tSp, wOr] : List Tok).length : Int)) = false from rfl]
  simp only [bnd_ok, bnd_ex, bnd_no, out_ok, out_ex, out_no, seq_nx, seq_rt, seq_ex, res_some, res_none, outR_rt, outR_nx, outR_ex, pureP_v, pureP_ex, see_v, ask_str, ask_int, ask_bl, ask_non, eqD_str, eqD_int, eqD_bl, eqD_non, e_var, varK_s, e_chain, chain_i, c2_lt, c2_le, c2_gt, c2_ge, c2_eqs, c2_nes, c2_eqi, c2_nei, c2_eqb, c2_neb, c2_in1, un_lens, un_lenl, un_lent, un_lenc, un_ii, un_ib, un_all, un_neg, un_n0, un_nt, un_nl, op_addi, op_subi, ix_l, ix_t, e_cst, e_op, e_cmp, e_un, e_and, e_or, e_not, e_ifx, e_tup, e_lst, e_new, e_frz, e_idx, e_slc, e_rev, e_call, e_callm, e_calln, e_make, e_attr, e_isi, e_pop0, e_lc, e_seq, e_enum, e_rng, e_nil, e_cons, e_no, e_opt, x_skip, x_seq, x_asg, x_par, x_app, x_ext, x_setI, x_ret, x_ifs, x_for, x_whl, opK_v, cmpK_v, unK_v, idxK_v, slcK_v, revK_v, optK_v, isiK_v, boolK_t, boolK_f, notK_v, ifsK_t, ifsK_f, seqK_s, seqK_l, seqK_t, enumK_l, asgK_n, frz_v, pl_nil, pl_cons, fromP_ok, fromP_ex, Option.map_some, Option.map_none, List.getElem?_cons_zero, List.getElem?_cons_succ, List.set_cons_zero, List.set_cons_succ, Bool.not_true, Bool.not_false]
end
end At

/-! Trees as they are told, and as they are read. -/
namespace At
open PySem
/-! ### one level for like words -/
mutual
def flat : Tr → Tr
  | .word w => .word w
  | .all => .all
  | .none => .none
  | .not t => .not (flat t)
  | .op k ts => .op k ((flatL ts).flatMap (inOp k))
def flatL : List Tr → List Tr
  | [] => []
  | t :: ts => flat t :: flatL ts
end
mutual
def wf : Tr → Bool
  | .word w => isWord w
  | .all => true
  | .none => true
  | .not t => wf t
  | .op _ ts => decide (2 ≤ ts.length) && wfL ts
def wfL : List Tr → Bool
  | [] => true
  | t :: ts => wf t && wfL ts
end
theorem inOp_op (k k' : Bool) (ts : List Tr) : inOp k (.op k' ts) = if k' = k then ts else [.op k' ts] := rfl
theorem flatL_map : ∀ ts : List Tr, flatL ts = ts.map flat
  | [] => by rw [flatL]; rfl
  | t :: ts => by rw [flatL, flatL_map ts]; rfl
theorem wfL_mem : ∀ {ts : List Tr}, wfL ts = true ↔ ∀ t ∈ ts, wf t = true
  | [] => by simp [wfL]
  | t :: ts => by
    rw [wfL]
    simp [wfL_mem (ts := ts)]
theorem nfs_mem {k : Bool} : ∀ {ts : List Tr}, nfs k ts = true ↔ ∀ t ∈ ts, nf t = true ∧ isK k t = false
  | [] => by simp [nfs]
  | t :: ts => by
    rw [nfs]
    simp [nfs_mem (ts := ts)]
    constructor
    · rintro ⟨a, b, c⟩; exact ⟨⟨a, b⟩, c⟩
    · rintro ⟨⟨a, b⟩, c⟩; exact ⟨a, b, c⟩
theorem szs_mem : ∀ {ts : List Tr} {t : Tr}, t ∈ ts → sz t ≤ szs ts
  | u :: ts, t, h => by
    rw [szs]
    rcases List.mem_cons.mp h with rfl | h
    · omega
    · have := szs_mem h
      omega
theorem sz_pos (t : Tr) : 1 ≤ sz t := by
  cases t <;> rw [sz] <;> omega
theorem szs_len : ∀ ts : List Tr, ts.length ≤ szs ts
  | [] => by simp
  | t :: ts => by
    rw [szs]
    have := szs_len ts
    have := sz_pos t
    simp
    omega
theorem szs_app : ∀ a b : List Tr, szs (a ++ b) = szs a + szs b
  | [], b => by simp [szs]
  | t :: a, b => by
    rw [List.cons_append, szs, szs, szs_app a b]
    omega
theorem szs_in (k : Bool) (t : Tr) : szs (inOp k t) ≤ sz t := by
  cases t with
  | op k' ts =>
    rw [inOp_op]
    split
    · rw [sz]; omega
    · rw [szs, szs]; omega
  | _ => show szs [_] ≤ _; rw [szs, szs]; omega
theorem szs_flat (k : Bool) : ∀ ts : List Tr, szs (ts.flatMap (inOp k)) ≤ szs ts
  | [] => by simp
  | t :: ts => by
    rw [List.flatMap_cons, szs_app, szs]
    have := szs_in k t
    have := szs_flat k ts
    omega
mutual
theorem sz_fl : ∀ t : Tr, sz (flat t) ≤ sz t
  | .word w => by rw [flat]; omega
  | .all => by rw [flat]; omega
  | .none => by rw [flat]; omega
  | .not t => by
    rw [flat, sz, sz]
    have := sz_fl t
    omega
  | .op k ts => by
    rw [flat, sz, sz]
    have := szs_flat k (flatL ts)
    have := szs_fl ts
    omega
theorem szs_fl : ∀ ts : List Tr, szs (flatL ts) ≤ szs ts
  | [] => by rw [flatL]; omega
  | t :: ts => by
    rw [flatL, szs, szs]
    have := sz_fl t
    have := szs_fl ts
    omega
end
theorem nd_in {k : Bool} {t u : Tr} (h : u ∈ inOp k t) : nd u ≤ nd t := by
  cases t with
  | op k' ts =>
    rw [inOp_op] at h
    split at h
    · have := nds_mem h
      have e : nd (.op k' ts) = nd.nds ts + 4 := by rw [nd]
      omega
    · simp at h
      subst h
      omega
  | _ =>
    simp [inOp] at h
    subst h
    omega
mutual
theorem nd_fl : ∀ t : Tr, nd (flat t) ≤ nd t
  | .word w => by rw [flat]; omega
  | .all => by rw [flat]; omega
  | .none => by rw [flat]; omega
  | .not t => by
    rw [flat, nd, nd]
    have := nd_fl t
    omega
  | .op k ts => by
    rw [flat, nd, nd]
    have := nds_le (nds_ge ts) (ts := (flatL ts).flatMap (inOp k)) fun u hu => by
      obtain ⟨t, ht, hu⟩ := List.mem_flatMap.mp hu
      exact Nat.le_trans (nd_in hu) (nds_fl ts t ht)
    omega
theorem nds_fl : ∀ ts : List Tr, ∀ u ∈ flatL ts, nd u ≤ nd.nds ts
  | [] => by rw [flatL]; intro u hu; simp at hu
  | t :: ts => by
    rw [flatL, nd.nds]
    intro u hu
    rcases List.mem_cons.mp hu with e | hu
    · rw [e]
      have := nd_fl t
      omega
    · have := nds_fl ts u hu
      omega
end
theorem in_nf {k : Bool} {t u : Tr} (h : nf t = true) (hu : u ∈ inOp k t) : nf u = true ∧ isK k u = false := by
  cases t with
  | op k' ts =>
    rw [inOp_op] at hu
    split at hu
    · rename_i e
      subst e
      rw [nf] at h
      simp at h
      exact nfs_mem.mp h.2.2 u hu
    · rename_i e
      simp at hu
      subst hu
      refine ⟨h, ?_⟩
      simp [isK, e]
  | _ =>
    simp [inOp] at hu
    subst hu
    exact ⟨h, rfl⟩
theorem in_len {k : Bool} {t : Tr} (h : nf t = true) : 1 ≤ (inOp k t).length := by
  cases t with
  | op k' ts =>
    rw [inOp_op]
    rw [nf] at h
    simp at h
    split
    · omega
    · simp
  | _ => simp [inOp]
theorem flatMap_len {k : Bool} : ∀ {ts : List Tr}, (∀ t ∈ ts, nf t = true) → ts.length ≤ (ts.flatMap (inOp k)).length
  | [], _ => by simp
  | t :: ts, h => by
    rw [List.flatMap_cons, List.length_append, List.length_cons]
    have := in_len (k := k) (h t List.mem_cons_self)
    have := flatMap_len (k := k) (ts := ts) fun t ht => h t (List.mem_cons_of_mem _ ht)
    omega
mutual
theorem nf_fl : ∀ t : Tr, wf t = true → sz t ≤ 1000 → nf (flat t) = true
  | .word w, h, _ => by rw [flat, nf]; rwa [wf] at h
  | .all, _, _ => by rw [flat, nf]
  | .none, _, _ => by rw [flat, nf]
  | .not t, h, hs => by
    rw [flat, nf]
    rw [wf] at h
    rw [sz] at hs
    exact nf_fl t h (by omega)
  | .op k ts, h, hs => by
    rw [flat, nf]
    rw [wf] at h
    rw [sz] at hs
    simp at h
    have hi := nfs_fl ts h.2 (by omega)
    have l1 := flatMap_len (k := k) hi
    have l2 : (flatL ts).length = ts.length := by rw [flatL_map, List.length_map]
    have l3 := szs_len ((flatL ts).flatMap (inOp k))
    have l4 := szs_flat k (flatL ts)
    have l5 := szs_fl ts
    rw [decide_eq_true (by omega), decide_eq_true (by omega), Bool.true_and, Bool.true_and]
    refine nfs_mem.mpr fun u hu => ?_
    obtain ⟨t, ht, hu⟩ := List.mem_flatMap.mp hu
    exact in_nf (hi t ht) hu
theorem nfs_fl : ∀ ts : List Tr, wfL ts = true → szs ts ≤ 1000 → ∀ u ∈ flatL ts, nf u = true
  | [], _, _ => by rw [flatL]; intro u hu; simp at hu
  | t :: ts, h, hs => by
    rw [wfL] at h
    rw [szs] at hs
    simp at h
    rw [flatL]
    intro u hu
    rcases List.mem_cons.mp hu with e | hu
    · rw [e]
      exact nf_fl t h.1 (by omega)
    · exact nfs_fl ts h.2 (by omega) u hu
end
theorem wordsL_app (a b : List Tr) : wordsL (a ++ b) = wordsL a ++ wordsL b := by
  rw [wordsL_flat, wordsL_flat, wordsL_flat, List.flatMap_append]
theorem words_in (k : Bool) (t : Tr) : wordsL (inOp k t) = words t := by
  cases t with
  | op k' ts =>
    rw [inOp_op]
    split
    · rw [words]
    · simp [wordsL]
  | _ => simp [inOp, wordsL]
theorem words_flatMap (k : Bool) : ∀ ts : List Tr, wordsL (ts.flatMap (inOp k)) = wordsL ts
  | [] => rfl
  | t :: ts => by rw [List.flatMap_cons, wordsL_app, words_in, words_flatMap k ts, wordsL]
mutual
theorem words_fl : ∀ t : Tr, words (flat t) = words t
  | .word w => by rw [flat]
  | .all => by rw [flat]
  | .none => by rw [flat]
  | .not t => by rw [flat, words, words, words_fl t]
  | .op k ts => by rw [flat, words, words, words_flatMap, wordsL_fl ts]
theorem wordsL_fl : ∀ ts : List Tr, wordsL (flatL ts) = wordsL ts
  | [] => by rw [flatL]
  | t :: ts => by rw [flatL, wordsL, wordsL, words_fl t, wordsL_fl ts]
end
theorem holdsL_all (ws : List Tok) (k : Bool) : ∀ ts : List Tr, holdsL ws k ts = if (ts.all fun t => holds ws t == k) then k else !k
  | [] => by rw [holdsL]; rfl
  | t :: ts => by
    rw [holdsL, holdsL_all ws k ts, List.all_cons]
    cases holds ws t == k <;> rfl
theorem holds_in (ws : List Tok) (k : Bool) (t : Tr) : ((inOp k t).all fun t => holds ws t == k) = (holds ws t == k) := by
  cases t with
  | op k' ts =>
    rw [inOp_op]
    split
    · rename_i e
      subst e
      rw [holds, holdsL_all]
      cases ts.all fun t => holds ws t == k' <;> cases k' <;> rfl
    · simp
  | _ => simp [inOp]
theorem holds_flatMap (ws : List Tok) (k : Bool) : ∀ ts : List Tr, ((ts.flatMap (inOp k)).all fun t => holds ws t == k) = ts.all fun t => holds ws t == k
  | [] => rfl
  | t :: ts => by rw [List.flatMap_cons, List.all_append, holds_in, holds_flatMap ws k ts, List.all_cons]
mutual
theorem holds_fl (ws : List Tok) : ∀ t : Tr, holds ws (flat t) = holds ws t
  | .word w => by rw [flat]
  | .all => by rw [flat]
  | .none => by rw [flat]
  | .not t => by rw [flat, holds, holds, holds_fl ws t]
  | .op k ts => by rw [flat, holds, holds, holdsL_all, holds_flatMap, ← holdsL_all, holdsL_fl ws k ts]
theorem holdsL_fl (ws : List Tok) (k : Bool) : ∀ ts : List Tr, holdsL ws k (flatL ts) = holdsL ws k ts
  | [] => by rw [flatL]
  | t :: ts => by rw [flatL, holdsL, holdsL, holds_fl ws t, holdsL_fl ws k ts]
end
theorem isOp_fl (t : Tr) : isOp (flat t) = isOp t := by
  cases t <;> rw [flat] <;> rfl
/-- what is drawn: words that are words, and a depth -/
structure Wd (t : Tr) : Prop where
  wf : wf t = true
  nd : nd t ≤ 46
  sz : sz t ≤ 1000
theorem Wd.gd {t : Tr} (h : Wd t) : Gd (flat t) := ⟨nf_fl t h.wf h.sz, Nat.le_trans (nd_fl t) h.nd, Nat.le_trans (sz_fl t) h.sz⟩
/-! ### the told text -/
mutual
def lflT (k : Bool) : Tr → List Tr
  | .op k' us => if k' = k then lflL k us else [.op k' us]
  | .word w => [.word w]
  | .all => [.all]
  | .none => [.none]
  | .not t => [.not t]
def lflL (k : Bool) : List Tr → List Tr
  | [] => []
  | t :: ts => lflT k t ++ lflL k ts
end
mutual
theorem lflT_map (k : Bool) : ∀ t : Tr, (lflT k t).map flat = inOp k (flat t)
  | .word w => by rw [lflT, flat]; simp [inOp, flat]
  | .all => by rw [lflT, flat]; simp [inOp, flat]
  | .none => by rw [lflT, flat]; simp [inOp, flat]
  | .not t => by rw [lflT, flat]; simp [inOp, flat]
  | .op k' us => by
    rw [lflT]
    split
    · rename_i e
      subst e
      rw [lflL_map, flat]
      exact (if_pos rfl).symm
    · rename_i e
      rw [flat, inOp, if_neg e, List.map_cons, List.map_nil, flat]
theorem lflL_map (k : Bool) : ∀ ts : List Tr, (lflL k ts).map flat = (flatL ts).flatMap (inOp k)
  | [] => by rw [lflL, flatL]; rfl
  | t :: ts => by rw [lflL, flatL, List.map_append, lflT_map k t, lflL_map k ts, List.flatMap_cons]
end
/-- parts of parts -/
structure Sub (k : Bool) (N M : Nat) (t : Tr) : Prop where
  sz : sz t ≤ N
  nd : nd t ≤ M
  wf : wf t = true
  nk : isK k t = false
mutual
theorem lflT_sub (k : Bool) : ∀ t : Tr, wf t = true → ∀ u ∈ lflT k t, Sub k (sz t) (nd t) u
  | .word w, h => by rw [lflT]; intro u hu; simp at hu; subst hu; exact ⟨Nat.le_refl _, Nat.le_refl _, h, rfl⟩
  | .all, h => by rw [lflT]; intro u hu; simp at hu; subst hu; exact ⟨Nat.le_refl _, Nat.le_refl _, h, rfl⟩
  | .none, h => by rw [lflT]; intro u hu; simp at hu; subst hu; exact ⟨Nat.le_refl _, Nat.le_refl _, h, rfl⟩
  | .not t, h => by rw [lflT]; intro u hu; simp at hu; subst hu; exact ⟨Nat.le_refl _, Nat.le_refl _, h, rfl⟩
  | .op k' us, h => by
    rw [lflT]
    intro u hu
    split at hu
    · have h' := h
      rw [wf] at h'
      simp at h'
      have s := lflL_sub k us h'.2 u hu
      exact ⟨by rw [sz]; have := s.sz; omega, by rw [nd]; have := s.nd; omega, s.wf, s.nk⟩
    · rename_i e
      simp at hu
      subst hu
      exact ⟨Nat.le_refl _, Nat.le_refl _, h, by simp [isK, e]⟩
theorem lflL_sub (k : Bool) : ∀ ts : List Tr, wfL ts = true → ∀ u ∈ lflL k ts, Sub k (szs ts) (nd.nds ts) u
  | [], _ => by rw [lflL]; intro u hu; simp at hu
  | t :: ts, h => by
    rw [lflL]
    rw [wfL] at h
    simp at h
    intro u hu
    rw [szs, nd.nds]
    rcases List.mem_append.mp hu with hu | hu
    · have s := lflT_sub k t h.1 u hu
      exact ⟨by have := s.sz; omega, by have := s.nd; omega, s.wf, s.nk⟩
    · have s := lflL_sub k ts h.2 u hu
      exact ⟨by have := s.sz; omega, by have := s.nd; omega, s.wf, s.nk⟩
end
theorem lfl_len (k : Bool) (ts : List Tr) : (lflL k ts).length ≤ szs ts := by
  have e := congrArg List.length (lflL_map k ts)
  rw [List.length_map] at e
  have := szs_len ((flatL ts).flatMap (inOp k))
  have := szs_flat k (flatL ts)
  have := szs_fl ts
  omega
structure HL (C : Nat → CE) (ix : Lb.Ix) : Prop extends HQ C ix where
  lcell : Fa C ix.l_cell (Lb.l_cell ix)
  lrow : Fa C ix.l_row (Lb.l_row ix)
  ltree : Fa C ix.l_tree (Lb.l_tree ix)
  ltrue : Fa C ix.l_true (Lb.l_true ix)
  lflat : Fa C ix.l_flat (Lb.l_flat ix)
  ltext : Fa C ix.l_text (Lb.l_text ix)
  lclose : Fa C ix.l_close (Lb.l_close ix)
section
variable {C : Nat → CE} {ix : Lb.Ix}
theorem nwT : newK [] [] = .ok (.p 0) (cellT []) := by
  unfold newK
  rw [if_pos (by show 0 ≤ lim; exact Nat.zero_le _)]
  rfl
theorem lfl_loop (k : Bool) (d : D) {n : Nat} (IH : ∀ us : List Tr, nd.nds us ≤ n → szs us ≤ 10000 → (C n).fn ix.l_flat [.str (kw k), .lst (us.map toD)] = .ok (.lst ((lflL k us).map toD))) : ∀ (ts : List Tr), nd.nds ts ≤ n + 1 → szs ts ≤ 10000 → ∀ (acc : List Tr) (o : Option U), acc.length + (lflL k ts).length ≤ 100000 → ∃ o', forL (forK (C n) (.nm 3) (.ifs (.cmp .eq (.idx (.var 3) (.cst (.int 0))) (.var 0)) (.ext (.var 2) (.call ix.l_flat (.cons (.var 0) (.cons (.idx (.var 3) (.cst (.int 1))) .nil)))) (.app (.var 2) (.var 3)))) (ts.map toD) [some (.v (.str (kw k))), some (.v d), some (.p 0), o] (cellT acc) = .nx [some (.v (.str (kw k))), some (.v d), some (.p 0), o'] (cellT (acc ++ lflL k ts))
  | [], hn, hs => fun acc o hl => ⟨o, by rw [lflL]; simp [forL]⟩
  | t :: ts, hn, hs => fun acc o hl => by
    rw [nd.nds] at hn
    rw [szs] at hs
    rw [lflL, List.length_append] at hl
    have hlim : lim = 1000000 := rfl
    obtain ⟨o', hi⟩ := lfl_loop k d IH ts (by omega) (by omega) (acc ++ lflT k t) (some (.v (toD t))) (by rw [List.length_append]; omega)
    refine ⟨o', ?_⟩
    have st : forK (C n) (.nm 3) (.ifs (.cmp .eq (.idx (.var 3) (.cst (.int 0))) (.var 0)) (.ext (.var 2) (.call ix.l_flat (.cons (.var 0) (.cons (.idx (.var 3) (.cst (.int 1))) .nil)))) (.app (.var 2) (.var 3))) (toD t) [some (.v (.str (kw k))), some (.v d), some (.p 0), o] (cellT acc) = .nx [some (.v (.str (kw k))), some (.v d), some (.p 0), some (.v (toD t))] (cellT (acc ++ lflT k t)) := by
      unfold forK
      simp only [bindT, bnd_ok, bnd_ex, bnd_no, out_ok, out_ex, out_no, seq_nx, seq_rt, seq_ex, res_some, res_none, outR_rt, outR_nx, outR_ex, pureP_v, pureP_ex, see_v, ask_str, ask_int, ask_bl, ask_non, eqD_str, eqD_int, eqD_bl, eqD_non, e_var, varK_s, e_chain, chain_i, c2_lt, c2_le, c2_gt, c2_ge, c2_eqs, c2_nes, c2_eqi, c2_nei, c2_eqb, c2_neb, c2_in1, un_lens, un_lenl, un_lent, un_lenc, un_ii, un_ib, un_all, un_neg, un_n0, un_nt, un_nl, op_addi, op_subi, ix_l, ix_t, e_cst, e_op, e_cmp, e_un, e_and, e_or, e_not, e_ifx, e_tup, e_lst, e_new, e_frz, e_idx, e_slc, e_rev, e_call, e_callm, e_calln, e_make, e_attr, e_isi, e_pop0, e_lc, e_seq, e_enum, e_rng, e_nil, e_cons, e_no, e_opt, x_skip, x_seq, x_asg, x_par, x_app, x_ext, x_setI, x_ret, x_ifs, x_for, x_whl, opK_v, cmpK_v, unK_v, idxK_v, slcK_v, revK_v, optK_v, isiK_v, boolK_t, boolK_f, notK_v, ifsK_t, ifsK_f, seqK_s, seqK_l, seqK_t, enumK_l, asgK_n, frz_v, pl_nil, pl_cons, fromP_ok, fromP_ex, Option.map_some, Option.map_none, List.getElem?_cons_zero, List.getElem?_cons_succ, List.set_cons_zero, List.set_cons_succ, Bool.not_true, Bool.not_false, ixT0, kk_k]
      cases hk : isK k t with
      | true =>
        have hq : ∃ us, t = .op k us := by
          cases t with
          | op k' us =>
            simp [isK] at hk
            exact ⟨us, by rw [hk]⟩
          | _ => cases hk
        obtain ⟨us, e⟩ := hq
        have e1 : lflT k t = lflL k us := by
          rw [e, lflT, if_pos rfl]
        rw [e1] at hl ⊢
        have ndt : nd t = nd.nds us + 4 := by rw [e, nd]
        have n4 := nds_ge us
        have c1 : ∀ m, callK (C n) ix.l_flat [.v (.str (kw k)), .v (.lst (us.map toD))] m = .ok (.v (.lst ((lflL k us).map toD))) m := fun m => callK_ok rfl (IH us (by omega) (by have : sz t = szs us + 1 := by { rw [e, sz] }; omega))
        have ix1 : idx2 (toD t) (.int 1) = some (.lst (us.map toD)) := by rw [e, ixT1]
        simp only [bnd_ok, bnd_ex, bnd_no, out_ok, out_ex, out_no, seq_nx, seq_rt, seq_ex, res_some, res_none, outR_rt, outR_nx, outR_ex, pureP_v, pureP_ex, see_v, ask_str, ask_int, ask_bl, ask_non, eqD_str, eqD_int, eqD_bl, eqD_non, e_var, varK_s, e_chain, chain_i, c2_lt, c2_le, c2_gt, c2_ge, c2_eqs, c2_nes, c2_eqi, c2_nei, c2_eqb, c2_neb, c2_in1, un_lens, un_lenl, un_lent, un_lenc, un_ii, un_ib, un_all, un_neg, un_n0, un_nt, un_nl, op_addi, op_subi, ix_l, ix_t, e_cst, e_op, e_cmp, e_un, e_and, e_or, e_not, e_ifx, e_tup, e_lst, e_new, e_frz, e_idx, e_slc, e_rev, e_call, e_callm, e_calln, e_make, e_attr, e_isi, e_pop0, e_lc, e_seq, e_enum, e_rng, e_nil, e_cons, e_no, e_opt, x_skip, x_seq, x_asg, x_par, x_app, x_ext, x_setI, x_ret, x_ifs, x_for, x_whl, opK_v, cmpK_v, unK_v, idxK_v, slcK_v, revK_v, optK_v, isiK_v, boolK_t, boolK_f, notK_v, ifsK_t, ifsK_f, seqK_s, seqK_l, seqK_t, enumK_l, asgK_n, frz_v, pl_nil, pl_cons, fromP_ok, fromP_ex, Option.map_some, Option.map_none, List.getElem?_cons_zero, List.getElem?_cons_succ, List.set_cons_zero, List.set_cons_succ, Bool.not_true, Bool.not_false, lstAt_cellT, ix1, c1]
        rw [ext_cellT _ _ (by omega)]
      | false =>
        have e1 : lflT k t = [t] := by
          cases t with
          | op k' us =>
            rw [lflT, if_neg]
            simpa [isK] using hk
          | _ => rw [lflT]
        rw [e1] at hl ⊢
        simp only [bnd_ok, bnd_ex, bnd_no, out_ok, out_ex, out_no, seq_nx, seq_rt, seq_ex, res_some, res_none, outR_rt, outR_nx, outR_ex, pureP_v, pureP_ex, see_v, ask_str, ask_int, ask_bl, ask_non, eqD_str, eqD_int, eqD_bl, eqD_non, e_var, varK_s, e_chain, chain_i, c2_lt, c2_le, c2_gt, c2_ge, c2_eqs, c2_nes, c2_eqi, c2_nei, c2_eqb, c2_neb, c2_in1, un_lens, un_lenl, un_lent, un_lenc, un_ii, un_ib, un_all, un_neg, un_n0, un_nt, un_nl, op_addi, op_subi, ix_l, ix_t, e_cst, e_op, e_cmp, e_un, e_and, e_or, e_not, e_ifx, e_tup, e_lst, e_new, e_frz, e_idx, e_slc, e_rev, e_call, e_callm, e_calln, e_make, e_attr, e_isi, e_pop0, e_lc, e_seq, e_enum, e_rng, e_nil, e_cons, e_no, e_opt, x_skip, x_seq, x_asg, x_par, x_app, x_ext, x_setI, x_ret, x_ifs, x_for, x_whl, opK_v, cmpK_v, unK_v, idxK_v, slcK_v, revK_v, optK_v, isiK_v, boolK_t, boolK_f, notK_v, ifsK_t, ifsK_f, seqK_s, seqK_l, seqK_t, enumK_l, asgK_n, frz_v, pl_nil, pl_cons, fromP_ok, fromP_ex, Option.map_some, Option.map_none, List.getElem?_cons_zero, List.getElem?_cons_succ, List.set_cons_zero, List.set_cons_succ, Bool.not_true, Bool.not_false, lstAt_cellT]
        rw [app_cellT _ _ (by omega)]
    rw [List.map_cons, forL, st]
    dsimp only
    rw [hi, lflL, List.append_assoc]
theorem lflL_ok (hp : HL C ix) (k : Bool) : ∀ (n : Nat) (ts : List Tr), nd.nds ts ≤ n → szs ts ≤ 10000 → (C n).fn ix.l_flat [.str (kw k), .lst (ts.map toD)] = .ok (.lst ((lflL k ts).map toD))
  | 0, ts, hn, hs => by
    have n4 := nds_ge ts
    omega
  | n + 1, ts, hn, hs => by
    rw [fn_of_fa hp.lflat n _ rfl]
    show pureP (outR (xs (C n) (Lb.l_flat ix).body [some (.v (.str (kw k))), some (.v (.lst (ts.map toD))), none, none] [])) = _
    obtain ⟨o', h⟩ := lfl_loop k (.lst (ts.map toD)) (lflL_ok hp k n) ts hn hs [] none (by simp; have := lfl_len k ts; omega)
    unfold Lb.l_flat
    simp only [bnd_ok, bnd_ex, bnd_no, out_ok, out_ex, out_no, seq_nx, seq_rt, seq_ex, res_some, res_none, outR_rt, outR_nx, outR_ex, pureP_v, pureP_ex, see_v, ask_str, ask_int, ask_bl, ask_non, eqD_str, eqD_int, eqD_bl, eqD_non, e_var, varK_s, e_chain, chain_i, c2_lt, c2_le, c2_gt, c2_ge, c2_eqs, c2_nes, c2_eqi, c2_nei, c2_eqb, c2_neb, c2_in1, un_lens, un_lenl, un_lent, un_lenc, un_ii, un_ib, un_all, un_neg, un_n0, un_nt, un_nl, op_addi, op_subi, ix_l, ix_t, e_cst, e_op, e_cmp, e_un, e_and, e_or, e_not, e_ifx, e_tup, e_lst, e_new, e_frz, e_idx, e_slc, e_rev, e_call, e_callm, e_calln, e_make, e_attr, e_isi, e_pop0, e_lc, e_seq, e_enum, e_rng, e_nil, e_cons, e_no, e_opt, x_skip, x_seq, x_asg, x_par, x_app, x_ext, x_setI, x_ret, x_ifs, x_for, x_whl, opK_v, cmpK_v, unK_v, idxK_v, slcK_v, revK_v, optK_v, isiK_v, boolK_t, boolK_f, notK_v, ifsK_t, ifsK_f, seqK_s, seqK_l, seqK_t, enumK_l, asgK_n, frz_v, pl_nil, pl_cons, fromP_ok, fromP_ex, Option.map_some, Option.map_none, List.getElem?_cons_zero, List.getElem?_cons_succ, List.set_cons_zero, List.set_cons_succ, Bool.not_true, Bool.not_false, nwT]
    rw [h]
    simp only [bnd_ok, bnd_ex, bnd_no, out_ok, out_ex, out_no, seq_nx, seq_rt, seq_ex, res_some, res_none, outR_rt, outR_nx, outR_ex, pureP_v, pureP_ex, see_v, ask_str, ask_int, ask_bl, ask_non, eqD_str, eqD_int, eqD_bl, eqD_non, e_var, varK_s, e_chain, chain_i, c2_lt, c2_le, c2_gt, c2_ge, c2_eqs, c2_nes, c2_eqi, c2_nei, c2_eqb, c2_neb, c2_in1, un_lens, un_lenl, un_lent, un_lenc, un_ii, un_ib, un_all, un_neg, un_n0, un_nt, un_nl, op_addi, op_subi, ix_l, ix_t, e_cst, e_op, e_cmp, e_un, e_and, e_or, e_not, e_ifx, e_tup, e_lst, e_new, e_frz, e_idx, e_slc, e_rev, e_call, e_callm, e_calln, e_make, e_attr, e_isi, e_pop0, e_lc, e_seq, e_enum, e_rng, e_nil, e_cons, e_no, e_opt, x_skip, x_seq, x_asg, x_par, x_app, x_ext, x_setI, x_ret, x_ifs, x_for, x_whl, opK_v, cmpK_v, unK_v, idxK_v, slcK_v, revK_v, optK_v, isiK_v, boolK_t, boolK_f, notK_v, ifsK_t, ifsK_f, seqK_s, seqK_l, seqK_t, enumK_l, asgK_n, frz_v, pl_nil, pl_cons, fromP_ok, fromP_ex, Option.map_some, Option.map_none, List.getElem?_cons_zero, List.getElem?_cons_succ, List.set_cons_zero, List.set_cons_succ, Bool.not_true, Bool.not_false]
    rw [pureP_ok (see_cellT _)]
    rfl
end
end At

/-! The told text; whether a told tree is true. -/
namespace At
open PySem
section
variable {C : Nat → CE} {ix : Lb.Ix}
def joinK (x : U) (w : Mu → R U) (m : Mu) : R U := match x with
  | .v (.str t) => (w m).bnd fun y m => match see m y with
    | some d => Res ((joinD t d).map U.v) m
    | none => .no
  | _ => .no
theorem e_join {C : CE} {a b : E} {ρ : Ro} {m : Mu} : ev C (.join a b) ρ m = (ev C a ρ m).bnd fun x m => joinK x (fun m => ev C b ρ m) m := by rw [ev]; rfl
theorem joinK_v {t : List Nat} {d : D} {m : Mu} : joinK (.v (.str t)) (fun m => .ok (.v d) m) m = Res ((joinD t d).map U.v) m := rfl
theorem texts_map : ∀ xs : List (List Nat), texts (xs.map D.str) = some xs
  | [] => rfl
  | x :: xs => by
    show (texts (xs.map D.str)).map (x :: ·) = _
    rw [texts_map xs]
    rfl
theorem joinD_ok (t : List Nat) (xs : List (List Nat)) (h : (xs.map List.length).sum + xs.length * t.length ≤ lim) : joinD t (.lst (xs.map D.str)) = some (.str (joinS t xs)) := by
  show (texts (xs.map D.str)).bind (fun ts => if (ts.map List.length).sum + ts.length * t.length ≤ lim then some (D.str (joinS t ts)) else none) = _
  rw [texts_map]
  exact if_pos h
theorem joinS_flat (k : Bool) : ∀ us : List (List Tok), joinS ([32] ++ kw k ++ [32]) (us.map List.flatten) = (joinT k us).flatten
  | [] => rfl
  | [u] => rfl
  | u :: v :: r => by
    rw [List.map_cons, List.map_cons, joinS, joinT, ← List.map_cons, joinS_flat k (v :: r), List.flatten_append, List.flatten_append]
    simp [sepT, tSp]
theorem tkFs_map (k : Bool) : ∀ ts : List Tr, tkFs k ts = ts.map fun t => br (k && isOp t) (tkF t)
  | [] => by rw [tkFs]; rfl
  | t :: ts => by rw [tkFs, tkFs_map k ts]; rfl
theorem tx_len {t : Tr} (h : nf t = true) : (tx t).length ≤ 102 * sz t := by
  have := flat_len _ (tk_short t h)
  have := tk_len t
  unfold tx
  omega
mutual
theorem lflT_szs (k : Bool) : ∀ t : Tr, szs (lflT k t) ≤ sz t
  | .word w => by rw [lflT, szs, szs]; omega
  | .all => by rw [lflT, szs, szs]; omega
  | .none => by rw [lflT, szs, szs]; omega
  | .not t => by rw [lflT, szs, szs]; omega
  | .op k' us => by
    rw [lflT]
    split
    · rw [sz]
      have := lfl_szs k us
      omega
    · rw [szs, szs]
      omega
theorem lfl_szs (k : Bool) : ∀ ts : List Tr, szs (lflL k ts) ≤ szs ts
  | [] => by rw [lflL]; omega
  | t :: ts => by
    rw [lflL, szs_app, szs]
    have := lflT_szs k t
    have := lfl_szs k ts
    omega
end
theorem lcL_tr {f : U → Mu → R (Option D)} {m : Mu} {g : Tr → D} : ∀ {ts : List Tr}, (∀ t ∈ ts, f (.v (toD t)) m = .ok (some (g t)) m) → lcL f ((ts.map toD).map U.v) m = .ok (ts.map g) m
  | [], _ => rfl
  | t :: ts, h => by
    rw [List.map_cons, List.map_cons, lcL, h t List.mem_cons_self]
    dsimp only
    rw [lcL_tr fun e he => h e (List.mem_cons_of_mem _ he)]
    rfl
/-- the kinds that stand in brackets -/
def KindsOk (b : Bool) (t : Tr) (ks : List Tok) : Prop := ks.contains (kind t) = b
theorem sum_le {α : Type} (f g : α → Nat) : ∀ l : List α, (∀ a ∈ l, f a ≤ g a) → (l.map f).sum ≤ (l.map g).sum
  | [], _ => by simp
  | a :: l, h => by
    have := h a List.mem_cons_self
    have := sum_le f g l fun a ha => h a (List.mem_cons_of_mem _ ha)
    simp
    omega
theorem szs_sum : ∀ ts : List Tr, szs ts = (ts.map sz).sum
  | [] => by simp [szs]
  | t :: ts => by rw [szs, szs_sum ts]; simp
theorem close_of (hp : HL C ix) {n : Nat} {t : Tr} {x : List Nat} (h : (C n).fn ix.l_text [toD t] = .ok (.str x)) (hl : x.length ≤ 900000) (ks : List Tok) : (C (n + 1)).fn ix.l_close [toD t, sL ks] = .ok (.str (if ks.contains (kind t) then [40] ++ x ++ [41] else x)) := by
  rw [fn_of_fa hp.lclose n _ rfl]
  show pureP (outR (xs (C n) (Lb.l_close ix).body [some (.v (toD t)), some (.v (.lst (ks.map D.str)))] [])) = _
  have c1 : ∀ m, callK (C n) ix.l_text [.v (toD t)] m = .ok (.v (.str x)) m := fun m => callK_ok rfl h
  have hlim : lim = 1000000 := rfl
  unfold Lb.l_close
  simp only [bnd_ok, bnd_ex, bnd_no, out_ok, out_ex, out_no, seq_nx, seq_rt, seq_ex, res_some, res_none, outR_rt, outR_nx, outR_ex, pureP_v, pureP_ex, see_v, ask_str, ask_int, ask_bl, ask_non, eqD_str, eqD_int, eqD_bl, eqD_non, e_var, varK_s, e_chain, chain_i, c2_lt, c2_le, c2_gt, c2_ge, c2_eqs, c2_nes, c2_eqi, c2_nei, c2_eqb, c2_neb, c2_in1, un_lens, un_lenl, un_lent, un_lenc, un_ii, un_ib, un_all, un_neg, un_n0, un_nt, un_nl, op_addi, op_subi, ix_l, ix_t, e_cst, e_op, e_cmp, e_un, e_and, e_or, e_not, e_ifx, e_tup, e_lst, e_new, e_frz, e_idx, e_slc, e_rev, e_call, e_callm, e_calln, e_make, e_attr, e_isi, e_pop0, e_lc, e_seq, e_enum, e_rng, e_nil, e_cons, e_no, e_opt, x_skip, x_seq, x_asg, x_par, x_app, x_ext, x_setI, x_ret, x_ifs, x_for, x_whl, opK_v, cmpK_v, unK_v, idxK_v, slcK_v, revK_v, optK_v, isiK_v, boolK_t, boolK_f, notK_v, ifsK_t, ifsK_f, seqK_s, seqK_l, seqK_t, enumK_l, asgK_n, frz_v, pl_nil, pl_cons, fromP_ok, fromP_ex, Option.map_some, Option.map_none, List.getElem?_cons_zero, List.getElem?_cons_succ, List.set_cons_zero, List.set_cons_succ, Bool.not_true, Bool.not_false, ixT0, c2_inl, c1]
  cases ks.contains (kind t) with
  | true =>
    have o1 := op_adds [40] x (by simp; omega)
    have o2 := op_adds ([40] ++ x) [41] (by simp; omega)
    simp only [bnd_ok, bnd_ex, bnd_no, out_ok, out_ex, out_no, seq_nx, seq_rt, seq_ex, res_some, res_none, outR_rt, outR_nx, outR_ex, pureP_v, pureP_ex, see_v, ask_str, ask_int, ask_bl, ask_non, eqD_str, eqD_int, eqD_bl, eqD_non, e_var, varK_s, e_chain, chain_i, c2_lt, c2_le, c2_gt, c2_ge, c2_eqs, c2_nes, c2_eqi, c2_nei, c2_eqb, c2_neb, c2_in1, un_lens, un_lenl, un_lent, un_lenc, un_ii, un_ib, un_all, un_neg, un_n0, un_nt, un_nl, op_addi, op_subi, ix_l, ix_t, e_cst, e_op, e_cmp, e_un, e_and, e_or, e_not, e_ifx, e_tup, e_lst, e_new, e_frz, e_idx, e_slc, e_rev, e_call, e_callm, e_calln, e_make, e_attr, e_isi, e_pop0, e_lc, e_seq, e_enum, e_rng, e_nil, e_cons, e_no, e_opt, x_skip, x_seq, x_asg, x_par, x_app, x_ext, x_setI, x_ret, x_ifs, x_for, x_whl, opK_v, cmpK_v, unK_v, idxK_v, slcK_v, revK_v, optK_v, isiK_v, boolK_t, boolK_f, notK_v, ifsK_t, ifsK_f, seqK_s, seqK_l, seqK_t, enumK_l, asgK_n, frz_v, pl_nil, pl_cons, fromP_ok, fromP_ex, Option.map_some, Option.map_none, List.getElem?_cons_zero, List.getElem?_cons_succ, List.set_cons_zero, List.set_cons_succ, Bool.not_true, Bool.not_false, o1, o2, if_true]
  | false =>
    simp only [bnd_ok, bnd_ex, bnd_no, out_ok, out_ex, out_no, seq_nx, seq_rt, seq_ex, res_some, res_none, outR_rt, outR_nx, outR_ex, pureP_v, pureP_ex, see_v, ask_str, ask_int, ask_bl, ask_non, eqD_str, eqD_int, eqD_bl, eqD_non, e_var, varK_s, e_chain, chain_i, c2_lt, c2_le, c2_gt, c2_ge, c2_eqs, c2_nes, c2_eqi, c2_nei, c2_eqb, c2_neb, c2_in1, un_lens, un_lenl, un_lent, un_lenc, un_ii, un_ib, un_all, un_neg, un_n0, un_nt, un_nl, op_addi, op_subi, ix_l, ix_t, e_cst, e_op, e_cmp, e_un, e_and, e_or, e_not, e_ifx, e_tup, e_lst, e_new, e_frz, e_idx, e_slc, e_rev, e_call, e_callm, e_calln, e_make, e_attr, e_isi, e_pop0, e_lc, e_seq, e_enum, e_rng, e_nil, e_cons, e_no, e_opt, x_skip, x_seq, x_asg, x_par, x_app, x_ext, x_setI, x_ret, x_ifs, x_for, x_whl, opK_v, cmpK_v, unK_v, idxK_v, slcK_v, revK_v, optK_v, isiK_v, boolK_t, boolK_f, notK_v, ifsK_t, ifsK_f, seqK_s, seqK_l, seqK_t, enumK_l, asgK_n, frz_v, pl_nil, pl_cons, fromP_ok, fromP_ex, Option.map_some, Option.map_none, List.getElem?_cons_zero, List.getElem?_cons_succ, List.set_cons_zero, List.set_cons_succ, Bool.not_true, Bool.not_false]
    rfl
theorem br_flat (b : Bool) (U : List Tok) : (br b U).flatten = if b then [40] ++ U.flatten ++ [41] else U.flatten := by
  cases b with
  | false => rfl
  | true => simp [br, tLp, tRp]
theorem flat_single (t : Tr) : (tkF (flat t)).flatten = tx (flat t) := rfl
theorem text_ok (hp : HL C ix) : ∀ (n : Nat) (t : Tr), nd t ≤ n → sz t ≤ 1000 → wf t = true → (C n).fn ix.l_text [toD t] = .ok (.str (tx (flat t))) := by
  intro n
  induction n using Nat.strongRecOn with
  | ind n IH =>
    intro t hn hs hw
    have n4 := nd_ge t
    have hlim : lim = 1000000 := rfl
    obtain ⟨n, rfl⟩ : ∃ j, n = j + 1 := ⟨n - 1, by omega⟩
    rw [fn_of_fa hp.ltext n _ rfl]
    show pureP (outR (xs (C n) (Lb.l_text ix).body [some (.v (toD t)), none, none] [])) = _
    unfold Lb.l_text
    cases t with
    | word w =>
      simp only [bnd_ok, bnd_ex, bnd_no, out_ok, out_ex, out_no, seq_nx, seq_rt, seq_ex, res_some, res_none, outR_rt, outR_nx, outR_ex, pureP_v, pureP_ex, see_v, ask_str, ask_int, ask_bl, ask_non, eqD_str, eqD_int, eqD_bl, eqD_non, e_var, varK_s, e_chain, chain_i, c2_lt, c2_le, c2_gt, c2_ge, c2_eqs, c2_nes, c2_eqi, c2_nei, c2_eqb, c2_neb, c2_in1, un_lens, un_lenl, un_lent, un_lenc, un_ii, un_ib, un_all, un_neg, un_n0, un_nt, un_nl, op_addi, op_subi, ix_l, ix_t, e_cst, e_op, e_cmp, e_un, e_and, e_or, e_not, e_ifx, e_tup, e_lst, e_new, e_frz, e_idx, e_slc, e_rev, e_call, e_callm, e_calln, e_make, e_attr, e_isi, e_pop0, e_lc, e_seq, e_enum, e_rng, e_nil, e_cons, e_no, e_opt, x_skip, x_seq, x_asg, x_par, x_app, x_ext, x_setI, x_ret, x_ifs, x_for, x_whl, opK_v, cmpK_v, unK_v, idxK_v, slcK_v, revK_v, optK_v, isiK_v, boolK_t, boolK_f, notK_v, ifsK_t, ifsK_f, seqK_s, seqK_l, seqK_t, enumK_l, asgK_n, frz_v, pl_nil, pl_cons, fromP_ok, fromP_ex, Option.map_some, Option.map_none, List.getElem?_cons_zero, List.getElem?_cons_succ, List.set_cons_zero, List.set_cons_succ, Bool.not_true, Bool.not_false, ixT0, kk_wd, ixTw]
      rw [flat, tx, tkF]
      simp
    | all =>
      simp only [bnd_ok, bnd_ex, bnd_no, out_ok, out_ex, out_no, seq_nx, seq_rt, seq_ex, res_some, res_none, outR_rt, outR_nx, outR_ex, pureP_v, pureP_ex, see_v, ask_str, ask_int, ask_bl, ask_non, eqD_str, eqD_int, eqD_bl, eqD_non, e_var, varK_s, e_chain, chain_i, c2_lt, c2_le, c2_gt, c2_ge, c2_eqs, c2_nes, c2_eqi, c2_nei, c2_eqb, c2_neb, c2_in1, un_lens, un_lenl, un_lent, un_lenc, un_ii, un_ib, un_all, un_neg, un_n0, un_nt, un_nl, op_addi, op_subi, ix_l, ix_t, e_cst, e_op, e_cmp, e_un, e_and, e_or, e_not, e_ifx, e_tup, e_lst, e_new, e_frz, e_idx, e_slc, e_rev, e_call, e_callm, e_calln, e_make, e_attr, e_isi, e_pop0, e_lc, e_seq, e_enum, e_rng, e_nil, e_cons, e_no, e_opt, x_skip, x_seq, x_asg, x_par, x_app, x_ext, x_setI, x_ret, x_ifs, x_for, x_whl, opK_v, cmpK_v, unK_v, idxK_v, slcK_v, revK_v, optK_v, isiK_v, boolK_t, boolK_f, notK_v, ifsK_t, ifsK_f, seqK_s, seqK_l, seqK_t, enumK_l, asgK_n, frz_v, pl_nil, pl_cons, fromP_ok, fromP_ex, Option.map_some, Option.map_none, List.getElem?_cons_zero, List.getElem?_cons_succ, List.set_cons_zero, List.set_cons_succ, Bool.not_true, Bool.not_false, ixT0, kk_wd, kk_not, tup2, c2_ino, kk_op, isOp]
      rw [flat, tx, tkF]
      rfl
    | none =>
      simp only [bnd_ok, bnd_ex, bnd_no, out_ok, out_ex, out_no, seq_nx, seq_rt, seq_ex, res_some, res_none, outR_rt, outR_nx, outR_ex, pureP_v, pureP_ex, see_v, ask_str, ask_int, ask_bl, ask_non, eqD_str, eqD_int, eqD_bl, eqD_non, e_var, varK_s, e_chain, chain_i, c2_lt, c2_le, c2_gt, c2_ge, c2_eqs, c2_nes, c2_eqi, c2_nei, c2_eqb, c2_neb, c2_in1, un_lens, un_lenl, un_lent, un_lenc, un_ii, un_ib, un_all, un_neg, un_n0, un_nt, un_nl, op_addi, op_subi, ix_l, ix_t, e_cst, e_op, e_cmp, e_un, e_and, e_or, e_not, e_ifx, e_tup, e_lst, e_new, e_frz, e_idx, e_slc, e_rev, e_call, e_callm, e_calln, e_make, e_attr, e_isi, e_pop0, e_lc, e_seq, e_enum, e_rng, e_nil, e_cons, e_no, e_opt, x_skip, x_seq, x_asg, x_par, x_app, x_ext, x_setI, x_ret, x_ifs, x_for, x_whl, opK_v, cmpK_v, unK_v, idxK_v, slcK_v, revK_v, optK_v, isiK_v, boolK_t, boolK_f, notK_v, ifsK_t, ifsK_f, seqK_s, seqK_l, seqK_t, enumK_l, asgK_n, frz_v, pl_nil, pl_cons, fromP_ok, fromP_ex, Option.map_some, Option.map_none, List.getElem?_cons_zero, List.getElem?_cons_succ, List.set_cons_zero, List.set_cons_succ, Bool.not_true, Bool.not_false, ixT0, kk_wd, kk_not, tup2, c2_ino, kk_op, isOp]
      rw [flat, tx, tkF]
      rfl
    | not t =>
      rw [nd] at hn
      rw [sz] at hs
      rw [wf] at hw
      have n4 := nd_ge t
      obtain ⟨i, rfl⟩ : ∃ i, n = i + 1 := ⟨n - 1, by omega⟩
      have tl := tx_len (nf_fl t hw (by omega))
      have sl := sz_fl t
      have cl := close_of hp (IH i (by omega) t (by omega) (by omega) hw) (by omega) [wAnd, wOr]
      rw [kk_op] at cl
      have c1 : ∀ m, callK (C (i + 1)) ix.l_close [.v (toD t), .v (.lst [.str [97, 110, 100], .str [111, 114]])] m = .ok (.v (.str (if isOp t then [40] ++ tx (flat t) ++ [41] else tx (flat t)))) m := fun m => callK_ok rfl cl
      have lk : ∀ m, lstK [.v (.str [97, 110, 100]), .v (.str [111, 114])] m = .ok (.v (.lst [.str [97, 110, 100], .str [111, 114]])) m := fun m => by
        unfold lstK
        simp only [bnd_ok, bnd_ex, bnd_no, out_ok, out_ex, out_no, seq_nx, seq_rt, seq_ex, res_some, res_none, outR_rt, outR_nx, outR_ex, pureP_v, pureP_ex, see_v, ask_str, ask_int, ask_bl, ask_non, eqD_str, eqD_int, eqD_bl, eqD_non, e_var, varK_s, e_chain, chain_i, c2_lt, c2_le, c2_gt, c2_ge, c2_eqs, c2_nes, c2_eqi, c2_nei, c2_eqb, c2_neb, c2_in1, un_lens, un_lenl, un_lent, un_lenc, un_ii, un_ib, un_all, un_neg, un_n0, un_nt, un_nl, op_addi, op_subi, ix_l, ix_t, e_cst, e_op, e_cmp, e_un, e_and, e_or, e_not, e_ifx, e_tup, e_lst, e_new, e_frz, e_idx, e_slc, e_rev, e_call, e_callm, e_calln, e_make, e_attr, e_isi, e_pop0, e_lc, e_seq, e_enum, e_rng, e_nil, e_cons, e_no, e_opt, x_skip, x_seq, x_asg, x_par, x_app, x_ext, x_setI, x_ret, x_ifs, x_for, x_whl, opK_v, cmpK_v, unK_v, idxK_v, slcK_v, revK_v, optK_v, isiK_v, boolK_t, boolK_f, notK_v, ifsK_t, ifsK_f, seqK_s, seqK_l, seqK_t, enumK_l, asgK_n, frz_v, pl_nil, pl_cons, fromP_ok, fromP_ex, Option.map_some, Option.map_none, List.getElem?_cons_zero, List.getElem?_cons_succ, List.set_cons_zero, List.set_cons_succ, Bool.not_true, Bool.not_false]
        rw [if_pos (by show 2 ≤ lim; decide)]
      have o1 := op_adds [110, 111, 116, 32] (if isOp t then [40] ++ tx (flat t) ++ [41] else tx (flat t)) (by split <;> simp <;> omega)
      simp only [bnd_ok, bnd_ex, bnd_no, out_ok, out_ex, out_no, seq_nx, seq_rt, seq_ex, res_some, res_none, outR_rt, outR_nx, outR_ex, pureP_v, pureP_ex, see_v, ask_str, ask_int, ask_bl, ask_non, eqD_str, eqD_int, eqD_bl, eqD_non, e_var, varK_s, e_chain, chain_i, c2_lt, c2_le, c2_gt, c2_ge, c2_eqs, c2_nes, c2_eqi, c2_nei, c2_eqb, c2_neb, c2_in1, un_lens, un_lenl, un_lent, un_lenc, un_ii, un_ib, un_all, un_neg, un_n0, un_nt, un_nl, op_addi, op_subi, ix_l, ix_t, e_cst, e_op, e_cmp, e_un, e_and, e_or, e_not, e_ifx, e_tup, e_lst, e_new, e_frz, e_idx, e_slc, e_rev, e_call, e_callm, e_calln, e_make, e_attr, e_isi, e_pop0, e_lc, e_seq, e_enum, e_rng, e_nil, e_cons, e_no, e_opt, x_skip, x_seq, x_asg, x_par, x_app, x_ext, x_setI, x_ret, x_ifs, x_for, x_whl, opK_v, cmpK_v, unK_v, idxK_v, slcK_v, revK_v, optK_v, isiK_v, boolK_t, boolK_f, notK_v, ifsK_t, ifsK_f, seqK_s, seqK_l, seqK_t, enumK_l, asgK_n, frz_v, pl_nil, pl_cons, fromP_ok, fromP_ex, Option.map_some, Option.map_none, List.getElem?_cons_zero, List.getElem?_cons_succ, List.set_cons_zero, List.set_cons_succ, Bool.not_true, Bool.not_false, ixT0, kk_wd, kk_not, ixTn, lk, c1, o1]
      have e : tx (flat (.not t)) = [110, 111, 116, 32] ++ (if isOp t then [40] ++ tx (flat t) ++ [41] else tx (flat t)) := by
        rw [flat]
        unfold tx
        rw [tkF, isOp_fl, List.flatten_append, br_flat]
        rfl
      rw [e]
    | op k ts =>
      rw [nd] at hn
      rw [sz] at hs
      rw [wf] at hw
      simp at hw
      have n4 := nds_ge ts
      obtain ⟨i, rfl⟩ : ∃ i, n = i + 1 := ⟨n - 1, by omega⟩
      have c1 : ∀ m, callK (C (i + 1)) ix.l_flat [.v (.str (kind (.op k ts))), .v (.lst (ts.map toD))] m = .ok (.v (.lst ((lflL k ts).map toD))) m := fun m => callK_ok rfl (lflL_ok hp k (i + 1) ts (by omega) (by omega))
      have lo : ∀ m, lstK [.v (.str [111, 114])] m = .ok (.v (.lst [.str [111, 114]])) m := fun m => lst1 _
      let ks : List Tok := if k then [wOr] else []
      have hks : ∀ p ∈ lflL k ts, ks.contains (kind p) = (k && isOp (flat p)) := fun p hpp => by
        have := (lflL_sub k ts hw.2 p hpp).nk
        rw [isOp_fl]
        show (if k then [wOr] else []).contains (kind p) = _
        cases k with
        | false => rfl
        | true =>
          cases p with
          | op k' us => cases k' with
            | true => cases this
            | false => rfl
          | _ => rfl
      have cc : ∀ p ∈ lflL k ts, ∀ m, callK (C (i + 1)) ix.l_close [.v (toD p), .v (sL ks)] m = .ok (.v (.str (br (k && isOp (flat p)) (tkF (flat p))).flatten)) m := fun p hpp m => by
        have s := lflL_sub k ts hw.2 p hpp
        have s1 := s.sz
        have s2 := s.nd
        have tl := tx_len (nf_fl p s.wf (by omega))
        have sl := sz_fl p
        have cl := close_of hp (IH i (by omega) p (by omega) (by omega) s.wf) (by omega) ks
        rw [hks p hpp] at cl
        rw [br_flat]
        exact callK_ok rfl cl
      have e2 : (kind (.op k ts) == [97, 110, 100]) = k := by cases k <;> rfl
      have bk : ∀ m, boolK (fun m => R.ok (U.v (D.lst [D.str [111, 114]])) m) (fun m => R.ok (U.v (D.lst [])) m) (.v (.bl k)) m = .ok (.v (sL ks)) m := fun m => by
        show _ = R.ok (U.v (sL (if k then [wOr] else []))) m
        cases k <;> rfl
      have op1 : op2 .add (.str [32]) (.str (kind (.op k ts))) = some (.str ([32] ++ kw k)) := op_adds [32] (kw k) (by cases k <;> decide)
      have op3 : op2 .add (.str ([32] ++ kw k)) (.str [32]) = some (.str ([32] ++ kw k ++ [32])) := op_adds _ _ (by cases k <;> decide)
      have jl : ∀ m, ev (C (i + 1)) (.lc [2] (.nm 2) (.seq (.call ix.l_flat (.cons (.idx (.var 0) (.cst (.int 0))) (.cons (.idx (.var 0) (.cst (.int 1))) .nil)))) (.cst (.bl true)) (.call ix.l_close (.cons (.var 2) (.cons (.var 1) .nil)))) [some (.v (toD (.op k ts))), some (.v (sL ks)), none] m = .ok (.v (.lst ((tkFs k ((lflL k ts).map flat)).map fun u => .str u.flatten))) m := fun m => by
        simp only [bnd_ok, bnd_ex, bnd_no, out_ok, out_ex, out_no, seq_nx, seq_rt, seq_ex, res_some, res_none, outR_rt, outR_nx, outR_ex, pureP_v, pureP_ex, see_v, ask_str, ask_int, ask_bl, ask_non, eqD_str, eqD_int, eqD_bl, eqD_non, e_var, varK_s, e_chain, chain_i, c2_lt, c2_le, c2_gt, c2_ge, c2_eqs, c2_nes, c2_eqi, c2_nei, c2_eqb, c2_neb, c2_in1, un_lens, un_lenl, un_lent, un_lenc, un_ii, un_ib, un_all, un_neg, un_n0, un_nt, un_nl, op_addi, op_subi, ix_l, ix_t, e_cst, e_op, e_cmp, e_un, e_and, e_or, e_not, e_ifx, e_tup, e_lst, e_new, e_frz, e_idx, e_slc, e_rev, e_call, e_callm, e_calln, e_make, e_attr, e_isi, e_pop0, e_lc, e_seq, e_enum, e_rng, e_nil, e_cons, e_no, e_opt, x_skip, x_seq, x_asg, x_par, x_app, x_ext, x_setI, x_ret, x_ifs, x_for, x_whl, opK_v, cmpK_v, unK_v, idxK_v, slcK_v, revK_v, optK_v, isiK_v, boolK_t, boolK_f, notK_v, ifsK_t, ifsK_f, seqK_s, seqK_l, seqK_t, enumK_l, asgK_n, frz_v, pl_nil, pl_cons, fromP_ok, fromP_ex, Option.map_some, Option.map_none, List.getElem?_cons_zero, List.getElem?_cons_succ, List.set_cons_zero, List.set_cons_succ, Bool.not_true, Bool.not_false, ixT0, ixT1, c1]
        rw [lcL_tr (g := fun p => .str (br (k && isOp (flat p)) (tkF (flat p))).flatten) fun p hpp => ?_]
        · simp only [bnd_ok, bnd_ex, bnd_no, out_ok, out_ex, out_no, seq_nx, seq_rt, seq_ex, res_some, res_none, outR_rt, outR_nx, outR_ex, pureP_v, pureP_ex, see_v, ask_str, ask_int, ask_bl, ask_non, eqD_str, eqD_int, eqD_bl, eqD_non, e_var, varK_s, e_chain, chain_i, c2_lt, c2_le, c2_gt, c2_ge, c2_eqs, c2_nes, c2_eqi, c2_nei, c2_eqb, c2_neb, c2_in1, un_lens, un_lenl, un_lent, un_lenc, un_ii, un_ib, un_all, un_neg, un_n0, un_nt, un_nl, op_addi, op_subi, ix_l, ix_t, e_cst, e_op, e_cmp, e_un, e_and, e_or, e_not, e_ifx, e_tup, e_lst, e_new, e_frz, e_idx, e_slc, e_rev, e_call, e_callm, e_calln, e_make, e_attr, e_isi, e_pop0, e_lc, e_seq, e_enum, e_rng, e_nil, e_cons, e_no, e_opt, x_skip, x_seq, x_asg, x_par, x_app, x_ext, x_setI, x_ret, x_ifs, x_for, x_whl, opK_v, cmpK_v, unK_v, idxK_v, slcK_v, revK_v, optK_v, isiK_v, boolK_t, boolK_f, notK_v, ifsK_t, ifsK_f, seqK_s, seqK_l, seqK_t, enumK_l, asgK_n, frz_v, pl_nil, pl_cons, fromP_ok, fromP_ex, Option.map_some, Option.map_none, List.getElem?_cons_zero, List.getElem?_cons_succ, List.set_cons_zero, List.set_cons_succ, Bool.not_true, Bool.not_false]
          rw [tkFs_map, List.map_map, List.map_map]
          rfl
        · unfold lcStep
          simp only [wipeR, bindT, bnd_ok, bnd_ex, bnd_no, out_ok, out_ex, out_no, seq_nx, seq_rt, seq_ex, res_some, res_none, outR_rt, outR_nx, outR_ex, pureP_v, pureP_ex, see_v, ask_str, ask_int, ask_bl, ask_non, eqD_str, eqD_int, eqD_bl, eqD_non, e_var, varK_s, e_chain, chain_i, c2_lt, c2_le, c2_gt, c2_ge, c2_eqs, c2_nes, c2_eqi, c2_nei, c2_eqb, c2_neb, c2_in1, un_lens, un_lenl, un_lent, un_lenc, un_ii, un_ib, un_all, un_neg, un_n0, un_nt, un_nl, op_addi, op_subi, ix_l, ix_t, e_cst, e_op, e_cmp, e_un, e_and, e_or, e_not, e_ifx, e_tup, e_lst, e_new, e_frz, e_idx, e_slc, e_rev, e_call, e_callm, e_calln, e_make, e_attr, e_isi, e_pop0, e_lc, e_seq, e_enum, e_rng, e_nil, e_cons, e_no, e_opt, x_skip, x_seq, x_asg, x_par, x_app, x_ext, x_setI, x_ret, x_ifs, x_for, x_whl, opK_v, cmpK_v, unK_v, idxK_v, slcK_v, revK_v, optK_v, isiK_v, boolK_t, boolK_f, notK_v, ifsK_t, ifsK_f, seqK_s, seqK_l, seqK_t, enumK_l, asgK_n, frz_v, pl_nil, pl_cons, fromP_ok, fromP_ex, Option.map_some, Option.map_none, List.getElem?_cons_zero, List.getElem?_cons_succ, List.set_cons_zero, List.set_cons_succ, Bool.not_true, Bool.not_false, cc p hpp]
      have jd : joinD ([32] ++ kw k ++ [32]) (.lst ((tkFs k ((lflL k ts).map flat)).map fun u => .str u.flatten)) = some (.str (tx (flat (.op k ts)))) := by
        have e : ((tkFs k ((lflL k ts).map flat)).map fun u => D.str u.flatten) = ((tkFs k ((lflL k ts).map flat)).map List.flatten).map D.str := by rw [List.map_map]; rfl
        rw [e, joinD_ok]
        · rw [joinS_flat, flat, tx, tkF, lflL_map]
        · have e3 : (((tkFs k ((lflL k ts).map flat)).map List.flatten).map List.length) = (lflL k ts).map fun p => ((br (k && isOp (flat p)) (tkF (flat p))).flatten).length := by
            rw [tkFs_map, List.map_map, List.map_map, List.map_map]
            rfl
          have e4 : ((tkFs k ((lflL k ts).map flat)).map List.flatten).length = (lflL k ts).length := by
            rw [tkFs_map, List.length_map, List.length_map, List.length_map]
          rw [e3, e4]
          have q : ∀ p ∈ lflL k ts, ((br (k && isOp (flat p)) (tkF (flat p))).flatten).length ≤ 102 * sz p + 2 := fun p hpp => by
            have s := lflL_sub k ts hw.2 p hpp
            have s1 := s.sz
            have tl := tx_len (nf_fl p s.wf (by omega))
            have sl := sz_fl p
            show ((br (k && isOp (flat p)) (tkF (flat p))).flatten).length ≤ _
            rw [br_flat, flat_single]
            split
            · rw [List.length_append, List.length_append]
              show 1 + _ + 1 ≤ _
              omega
            · omega
          have q2 := sum_le _ _ _ q
          have q3 : ((lflL k ts).map fun p => 102 * sz p + 2).sum ≤ 104 * szs ts := by
            have : ∀ l : List Tr, (l.map fun p => 102 * sz p + 2).sum = 102 * szs l + 2 * l.length := fun l => by
              induction l with
              | nil => simp [szs]
              | cons a l ih =>
                rw [List.map_cons, List.sum_cons, ih, szs]
                simp
                omega
            rw [this]
            have := lfl_len k ts
            have : szs (lflL k ts) ≤ szs ts := by
              exact lfl_szs k ts
            omega
          have q4 := lfl_len k ts
          have q5 : ([32] ++ kw k ++ [32] : List Nat).length ≤ 5 := by cases k <;> decide
          have q6 : (lflL k ts).length * ([32] ++ kw k ++ [32] : List Nat).length ≤ (lflL k ts).length * 5 := Nat.mul_le_mul_left _ q5
          omega
      simp only [bnd_ok, bnd_ex, bnd_no, out_ok, out_ex, out_no, seq_nx, seq_rt, seq_ex, res_some, res_none, outR_rt, outR_nx, outR_ex, pureP_v, pureP_ex, see_v, ask_str, ask_int, ask_bl, ask_non, eqD_str, eqD_int, eqD_bl, eqD_non, e_var, varK_s, e_chain, chain_i, c2_lt, c2_le, c2_gt, c2_ge, c2_eqs, c2_nes, c2_eqi, c2_nei, c2_eqb, c2_neb, c2_in1, un_lens, un_lenl, un_lent, un_lenc, un_ii, un_ib, un_all, un_neg, un_n0, un_nt, un_nl, op_addi, op_subi, ix_l, ix_t, e_cst, e_op, e_cmp, e_un, e_and, e_or, e_not, e_ifx, e_tup, e_lst, e_new, e_frz, e_idx, e_slc, e_rev, e_call, e_callm, e_calln, e_make, e_attr, e_isi, e_pop0, e_seq, e_enum, e_rng, e_nil, e_cons, e_no, e_opt, x_skip, x_seq, x_asg, x_par, x_app, x_ext, x_setI, x_ret, x_ifs, x_for, x_whl, opK_v, cmpK_v, unK_v, idxK_v, slcK_v, revK_v, optK_v, isiK_v, boolK_t, boolK_f, notK_v, ifsK_t, ifsK_f, seqK_s, seqK_l, seqK_t, enumK_l, asgK_n, frz_v, pl_nil, pl_cons, fromP_ok, fromP_ex, Option.map_some, Option.map_none, List.getElem?_cons_zero, List.getElem?_cons_succ, List.set_cons_zero, List.set_cons_succ, Bool.not_true, Bool.not_false, ixT0, kk_wd, kk_not, tup2, c2_ino, kk_op, isOp, e2, lst1, lst0, bk, e_join, op1, op3, jl, joinK_v, jd]
end
end At

/-! What is drawn. -/
namespace At
open PySem
section
variable {C : Nat → CE} {ix : Lb.Ix}
/-! ### a told tree is true -/
theorem ask_bls (bs : List Bool) : askable (.lst (bs.map D.bl)) = true := by
  have h1 : plains (bs.map D.bl) = true := by
    induction bs with
    | nil => rfl
    | cons y ys ih => exact ih
  have h2 : deeps (bs.map D.bl) = 0 := by
    clear h1
    induction bs with
    | nil => rfl
    | cons y ys ih =>
      show max 0 (deeps (ys.map D.bl)) = 0
      rw [ih]
      rfl
  show (plains (bs.map D.bl) && decide (deeps (bs.map D.bl) + 1 ≤ 60)) = true
  rw [h1, h2]
  rfl
theorem inD_bls (b : Bool) : ∀ bs : List Bool, inD (.bl b) (bs.map D.bl) = bs.contains b
  | [] => rfl
  | c :: bs => by
    show (eqD (.bl c) (.bl b) || inD (.bl b) (bs.map D.bl)) = _
    rw [inD_bls b bs, List.contains_cons]
    show (c == b || _) = _
    cases b <;> cases c <;> rfl
theorem c2_inb (b : Bool) (bs : List Bool) : cmp2 .in_ (.bl b) (.lst (bs.map D.bl)) = some (bs.contains b) := by
  show (if (askable (.bl b) && askable (.lst (bs.map D.bl))) = true then some (inD (.bl b) (bs.map D.bl)) else none) = _
  rw [ask_bls, inD_bls]
  rfl
theorem c2_ninb (b : Bool) (bs : List Bool) : cmp2 .nin (.bl b) (.lst (bs.map D.bl)) = some (!bs.contains b) := by
  show (if (askable (.bl b) && askable (.lst (bs.map D.bl))) = true then some (!inD (.bl b) (bs.map D.bl)) else none) = _
  rw [ask_bls, inD_bls]
  rfl
theorem holds_and (ws : List Tok) (ts : List Tr) : holdsL ws true ts = !(ts.map (holds ws)).contains false := by
  rw [holdsL_all]
  induction ts with
  | nil => rfl
  | cons t ts ih =>
    rw [List.all_cons, List.map_cons, List.contains_cons]
    cases holds ws t with
    | true => simpa using ih
    | false => rfl
theorem holds_or (ws : List Tok) (ts : List Tr) : holdsL ws false ts = (ts.map (holds ws)).contains true := by
  rw [holdsL_all]
  induction ts with
  | nil => rfl
  | cons t ts ih =>
    rw [List.all_cons, List.map_cons, List.contains_cons]
    cases holds ws t with
    | false => simpa using ih
    | true => rfl
theorem ltrue_ok (hp : HL C ix) (ws : List Tok) : ∀ (n : Nat) (t : Tr), nd t ≤ n → (C n).fn ix.l_true [toD t, sL ws] = .ok (.bl (holds ws t)) := by
  intro n
  induction n with
  | zero =>
    intro t hn
    have := nd_ge t
    omega
  | succ n IH =>
    intro t hn
    rw [fn_of_fa hp.ltrue n _ rfl]
    show pureP (outR (xs (C n) (Lb.l_true ix).body [some (.v (toD t)), some (.v (.lst (ws.map D.str))), none] [])) = _
    unfold Lb.l_true
    have ka : (kind t == [97, 110, 100]) = isK true t := kk_k true t
    have ko : (kind t == [111, 114]) = isK false t := kk_k false t
    cases t with
    | word w =>
      simp only [bnd_ok, bnd_ex, bnd_no, out_ok, out_ex, out_no, seq_nx, seq_rt, seq_ex, res_some, res_none, outR_rt, outR_nx, outR_ex, pureP_v, pureP_ex, see_v, ask_str, ask_int, ask_bl, ask_non, eqD_str, eqD_int, eqD_bl, eqD_non, e_var, varK_s, e_chain, chain_i, c2_lt, c2_le, c2_gt, c2_ge, c2_eqs, c2_nes, c2_eqi, c2_nei, c2_eqb, c2_neb, c2_in1, un_lens, un_lenl, un_lent, un_lenc, un_ii, un_ib, un_all, un_neg, un_n0, un_nt, un_nl, op_addi, op_subi, ix_l, ix_t, e_cst, e_op, e_cmp, e_un, e_and, e_or, e_not, e_ifx, e_tup, e_lst, e_new, e_frz, e_idx, e_slc, e_rev, e_call, e_callm, e_calln, e_make, e_attr, e_isi, e_pop0, e_lc, e_seq, e_enum, e_rng, e_nil, e_cons, e_no, e_opt, x_skip, x_seq, x_asg, x_par, x_app, x_ext, x_setI, x_ret, x_ifs, x_for, x_whl, opK_v, cmpK_v, unK_v, idxK_v, slcK_v, revK_v, optK_v, isiK_v, boolK_t, boolK_f, notK_v, ifsK_t, ifsK_f, seqK_s, seqK_l, seqK_t, enumK_l, asgK_n, frz_v, pl_nil, pl_cons, fromP_ok, fromP_ex, Option.map_some, Option.map_none, List.getElem?_cons_zero, List.getElem?_cons_succ, List.set_cons_zero, List.set_cons_succ, Bool.not_true, Bool.not_false, ixT0, kk_wd, ixTw, c2_inl]
      rw [holds]
    | all =>
      simp only [bnd_ok, bnd_ex, bnd_no, out_ok, out_ex, out_no, seq_nx, seq_rt, seq_ex, res_some, res_none, outR_rt, outR_nx, outR_ex, pureP_v, pureP_ex, see_v, ask_str, ask_int, ask_bl, ask_non, eqD_str, eqD_int, eqD_bl, eqD_non, e_var, varK_s, e_chain, chain_i, c2_lt, c2_le, c2_gt, c2_ge, c2_eqs, c2_nes, c2_eqi, c2_nei, c2_eqb, c2_neb, c2_in1, un_lens, un_lenl, un_lent, un_lenc, un_ii, un_ib, un_all, un_neg, un_n0, un_nt, un_nl, op_addi, op_subi, ix_l, ix_t, e_cst, e_op, e_cmp, e_un, e_and, e_or, e_not, e_ifx, e_tup, e_lst, e_new, e_frz, e_idx, e_slc, e_rev, e_call, e_callm, e_calln, e_make, e_attr, e_isi, e_pop0, e_lc, e_seq, e_enum, e_rng, e_nil, e_cons, e_no, e_opt, x_skip, x_seq, x_asg, x_par, x_app, x_ext, x_setI, x_ret, x_ifs, x_for, x_whl, opK_v, cmpK_v, unK_v, idxK_v, slcK_v, revK_v, optK_v, isiK_v, boolK_t, boolK_f, notK_v, ifsK_t, ifsK_f, seqK_s, seqK_l, seqK_t, enumK_l, asgK_n, frz_v, pl_nil, pl_cons, fromP_ok, fromP_ex, Option.map_some, Option.map_none, List.getElem?_cons_zero, List.getElem?_cons_succ, List.set_cons_zero, List.set_cons_succ, Bool.not_true, Bool.not_false, ixT0, kk_wd, kk_not, ka, ko, isK, kk_all]
      rw [holds]
    | none =>
      simp only [bnd_ok, bnd_ex, bnd_no, out_ok, out_ex, out_no, seq_nx, seq_rt, seq_ex, res_some, res_none, outR_rt, outR_nx, outR_ex, pureP_v, pureP_ex, see_v, ask_str, ask_int, ask_bl, ask_non, eqD_str, eqD_int, eqD_bl, eqD_non, e_var, varK_s, e_chain, chain_i, c2_lt, c2_le, c2_gt, c2_ge, c2_eqs, c2_nes, c2_eqi, c2_nei, c2_eqb, c2_neb, c2_in1, un_lens, un_lenl, un_lent, un_lenc, un_ii, un_ib, un_all, un_neg, un_n0, un_nt, un_nl, op_addi, op_subi, ix_l, ix_t, e_cst, e_op, e_cmp, e_un, e_and, e_or, e_not, e_ifx, e_tup, e_lst, e_new, e_frz, e_idx, e_slc, e_rev, e_call, e_callm, e_calln, e_make, e_attr, e_isi, e_pop0, e_lc, e_seq, e_enum, e_rng, e_nil, e_cons, e_no, e_opt, x_skip, x_seq, x_asg, x_par, x_app, x_ext, x_setI, x_ret, x_ifs, x_for, x_whl, opK_v, cmpK_v, unK_v, idxK_v, slcK_v, revK_v, optK_v, isiK_v, boolK_t, boolK_f, notK_v, ifsK_t, ifsK_f, seqK_s, seqK_l, seqK_t, enumK_l, asgK_n, frz_v, pl_nil, pl_cons, fromP_ok, fromP_ex, Option.map_some, Option.map_none, List.getElem?_cons_zero, List.getElem?_cons_succ, List.set_cons_zero, List.set_cons_succ, Bool.not_true, Bool.not_false, ixT0, kk_wd, kk_not, ka, ko, isK, kk_all]
      rw [holds]
    | not t =>
      rw [nd] at hn
      have c1 : ∀ m, callK (C n) ix.l_true [.v (toD t), .v (.lst (ws.map D.str))] m = .ok (.v (.bl (holds ws t))) m := fun m => callK_ok rfl (IH t (by omega))
      simp only [bnd_ok, bnd_ex, bnd_no, out_ok, out_ex, out_no, seq_nx, seq_rt, seq_ex, res_some, res_none, outR_rt, outR_nx, outR_ex, pureP_v, pureP_ex, see_v, ask_str, ask_int, ask_bl, ask_non, eqD_str, eqD_int, eqD_bl, eqD_non, e_var, varK_s, e_chain, chain_i, c2_lt, c2_le, c2_gt, c2_ge, c2_eqs, c2_nes, c2_eqi, c2_nei, c2_eqb, c2_neb, c2_in1, un_lens, un_lenl, un_lent, un_lenc, un_ii, un_ib, un_all, un_neg, un_n0, un_nt, un_nl, op_addi, op_subi, ix_l, ix_t, e_cst, e_op, e_cmp, e_un, e_and, e_or, e_not, e_ifx, e_tup, e_lst, e_new, e_frz, e_idx, e_slc, e_rev, e_call, e_callm, e_calln, e_make, e_attr, e_isi, e_pop0, e_lc, e_seq, e_enum, e_rng, e_nil, e_cons, e_no, e_opt, x_skip, x_seq, x_asg, x_par, x_app, x_ext, x_setI, x_ret, x_ifs, x_for, x_whl, opK_v, cmpK_v, unK_v, idxK_v, slcK_v, revK_v, optK_v, isiK_v, boolK_t, boolK_f, notK_v, ifsK_t, ifsK_f, seqK_s, seqK_l, seqK_t, enumK_l, asgK_n, frz_v, pl_nil, pl_cons, fromP_ok, fromP_ex, Option.map_some, Option.map_none, List.getElem?_cons_zero, List.getElem?_cons_succ, List.set_cons_zero, List.set_cons_succ, Bool.not_true, Bool.not_false, ixT0, kk_wd, kk_not, ixTn, c1]
      rw [holds]
    | op k ts =>
      rw [nd] at hn
      have c1 : ∀ p ∈ ts, ∀ m, callK (C n) ix.l_true [.v (toD p), .v (.lst (ws.map D.str))] m = .ok (.v (.bl (holds ws p))) m := fun p hpp m => callK_ok rfl (IH p (by have := nds_mem hpp; omega))
      have jl : ∀ m, ev (C n) (.lc [2] (.nm 2) (.seq (.idx (.var 0) (.cst (.int 1)))) (.cst (.bl true)) (.call ix.l_true (.cons (.var 2) (.cons (.var 1) .nil)))) [some (.v (toD (.op k ts))), some (.v (.lst (ws.map D.str))), none] m = .ok (.v (.lst ((ts.map (holds ws)).map D.bl))) m := fun m => by
        simp only [bnd_ok, bnd_ex, bnd_no, out_ok, out_ex, out_no, seq_nx, seq_rt, seq_ex, res_some, res_none, outR_rt, outR_nx, outR_ex, pureP_v, pureP_ex, see_v, ask_str, ask_int, ask_bl, ask_non, eqD_str, eqD_int, eqD_bl, eqD_non, e_var, varK_s, e_chain, chain_i, c2_lt, c2_le, c2_gt, c2_ge, c2_eqs, c2_nes, c2_eqi, c2_nei, c2_eqb, c2_neb, c2_in1, un_lens, un_lenl, un_lent, un_lenc, un_ii, un_ib, un_all, un_neg, un_n0, un_nt, un_nl, op_addi, op_subi, ix_l, ix_t, e_cst, e_op, e_cmp, e_un, e_and, e_or, e_not, e_ifx, e_tup, e_lst, e_new, e_frz, e_idx, e_slc, e_rev, e_call, e_callm, e_calln, e_make, e_attr, e_isi, e_pop0, e_lc, e_seq, e_enum, e_rng, e_nil, e_cons, e_no, e_opt, x_skip, x_seq, x_asg, x_par, x_app, x_ext, x_setI, x_ret, x_ifs, x_for, x_whl, opK_v, cmpK_v, unK_v, idxK_v, slcK_v, revK_v, optK_v, isiK_v, boolK_t, boolK_f, notK_v, ifsK_t, ifsK_f, seqK_s, seqK_l, seqK_t, enumK_l, asgK_n, frz_v, pl_nil, pl_cons, fromP_ok, fromP_ex, Option.map_some, Option.map_none, List.getElem?_cons_zero, List.getElem?_cons_succ, List.set_cons_zero, List.set_cons_succ, Bool.not_true, Bool.not_false, ixT1]
        rw [lcL_tr (g := fun p => .bl (holds ws p)) fun p hpp => ?_]
        · simp only [bnd_ok, bnd_ex, bnd_no, out_ok, out_ex, out_no, seq_nx, seq_rt, seq_ex, res_some, res_none, outR_rt, outR_nx, outR_ex, pureP_v, pureP_ex, see_v, ask_str, ask_int, ask_bl, ask_non, eqD_str, eqD_int, eqD_bl, eqD_non, e_var, varK_s, e_chain, chain_i, c2_lt, c2_le, c2_gt, c2_ge, c2_eqs, c2_nes, c2_eqi, c2_nei, c2_eqb, c2_neb, c2_in1, un_lens, un_lenl, un_lent, un_lenc, un_ii, un_ib, un_all, un_neg, un_n0, un_nt, un_nl, op_addi, op_subi, ix_l, ix_t, e_cst, e_op, e_cmp, e_un, e_and, e_or, e_not, e_ifx, e_tup, e_lst, e_new, e_frz, e_idx, e_slc, e_rev, e_call, e_callm, e_calln, e_make, e_attr, e_isi, e_pop0, e_lc, e_seq, e_enum, e_rng, e_nil, e_cons, e_no, e_opt, x_skip, x_seq, x_asg, x_par, x_app, x_ext, x_setI, x_ret, x_ifs, x_for, x_whl, opK_v, cmpK_v, unK_v, idxK_v, slcK_v, revK_v, optK_v, isiK_v, boolK_t, boolK_f, notK_v, ifsK_t, ifsK_f, seqK_s, seqK_l, seqK_t, enumK_l, asgK_n, frz_v, pl_nil, pl_cons, fromP_ok, fromP_ex, Option.map_some, Option.map_none, List.getElem?_cons_zero, List.getElem?_cons_succ, List.set_cons_zero, List.set_cons_succ, Bool.not_true, Bool.not_false]
          rw [List.map_map]
          rfl
        · unfold lcStep
          simp only [wipeR, bindT, bnd_ok, bnd_ex, bnd_no, out_ok, out_ex, out_no, seq_nx, seq_rt, seq_ex, res_some, res_none, outR_rt, outR_nx, outR_ex, pureP_v, pureP_ex, see_v, ask_str, ask_int, ask_bl, ask_non, eqD_str, eqD_int, eqD_bl, eqD_non, e_var, varK_s, e_chain, chain_i, c2_lt, c2_le, c2_gt, c2_ge, c2_eqs, c2_nes, c2_eqi, c2_nei, c2_eqb, c2_neb, c2_in1, un_lens, un_lenl, un_lent, un_lenc, un_ii, un_ib, un_all, un_neg, un_n0, un_nt, un_nl, op_addi, op_subi, ix_l, ix_t, e_cst, e_op, e_cmp, e_un, e_and, e_or, e_not, e_ifx, e_tup, e_lst, e_new, e_frz, e_idx, e_slc, e_rev, e_call, e_callm, e_calln, e_make, e_attr, e_isi, e_pop0, e_lc, e_seq, e_enum, e_rng, e_nil, e_cons, e_no, e_opt, x_skip, x_seq, x_asg, x_par, x_app, x_ext, x_setI, x_ret, x_ifs, x_for, x_whl, opK_v, cmpK_v, unK_v, idxK_v, slcK_v, revK_v, optK_v, isiK_v, boolK_t, boolK_f, notK_v, ifsK_t, ifsK_f, seqK_s, seqK_l, seqK_t, enumK_l, asgK_n, frz_v, pl_nil, pl_cons, fromP_ok, fromP_ex, Option.map_some, Option.map_none, List.getElem?_cons_zero, List.getElem?_cons_succ, List.set_cons_zero, List.set_cons_succ, Bool.not_true, Bool.not_false, c1 p hpp]
      cases k with
      | true =>
        simp only [bnd_ok, bnd_ex, bnd_no, out_ok, out_ex, out_no, seq_nx, seq_rt, seq_ex, res_some, res_none, outR_rt, outR_nx, outR_ex, pureP_v, pureP_ex, see_v, ask_str, ask_int, ask_bl, ask_non, eqD_str, eqD_int, eqD_bl, eqD_non, e_var, varK_s, e_chain, chain_i, c2_lt, c2_le, c2_gt, c2_ge, c2_eqs, c2_nes, c2_eqi, c2_nei, c2_eqb, c2_neb, c2_in1, un_lens, un_lenl, un_lent, un_lenc, un_ii, un_ib, un_all, un_neg, un_n0, un_nt, un_nl, op_addi, op_subi, ix_l, ix_t, e_cst, e_op, e_cmp, e_un, e_and, e_or, e_not, e_ifx, e_tup, e_lst, e_new, e_frz, e_idx, e_slc, e_rev, e_call, e_callm, e_calln, e_make, e_attr, e_isi, e_pop0, e_seq, e_enum, e_rng, e_nil, e_cons, e_no, e_opt, x_skip, x_seq, x_asg, x_par, x_app, x_ext, x_setI, x_ret, x_ifs, x_for, x_whl, opK_v, cmpK_v, unK_v, idxK_v, slcK_v, revK_v, optK_v, isiK_v, boolK_t, boolK_f, notK_v, ifsK_t, ifsK_f, seqK_s, seqK_l, seqK_t, enumK_l, asgK_n, frz_v, pl_nil, pl_cons, fromP_ok, fromP_ex, Option.map_some, Option.map_none, List.getElem?_cons_zero, List.getElem?_cons_succ, List.set_cons_zero, List.set_cons_succ, Bool.not_true, Bool.not_false, ixT0, kk_wd, kk_not, ka, ko, isK, jl, BEq.rfl, c2_ninb]
        rw [holds, holds_and]
      | false =>
        simp only [bnd_ok, bnd_ex, bnd_no, out_ok, out_ex, out_no, seq_nx, seq_rt, seq_ex, res_some, res_none, outR_rt, outR_nx, outR_ex, pureP_v, pureP_ex, see_v, ask_str, ask_int, ask_bl, ask_non, eqD_str, eqD_int, eqD_bl, eqD_non, e_var, varK_s, e_chain, chain_i, c2_lt, c2_le, c2_gt, c2_ge, c2_eqs, c2_nes, c2_eqi, c2_nei, c2_eqb, c2_neb, c2_in1, un_lens, un_lenl, un_lent, un_lenc, un_ii, un_ib, un_all, un_neg, un_n0, un_nt, un_nl, op_addi, op_subi, ix_l, ix_t, e_cst, e_op, e_cmp, e_un, e_and, e_or, e_not, e_ifx, e_tup, e_lst, e_new, e_frz, e_idx, e_slc, e_rev, e_call, e_callm, e_calln, e_make, e_attr, e_isi, e_pop0, e_seq, e_enum, e_rng, e_nil, e_cons, e_no, e_opt, x_skip, x_seq, x_asg, x_par, x_app, x_ext, x_setI, x_ret, x_ifs, x_for, x_whl, opK_v, cmpK_v, unK_v, idxK_v, slcK_v, revK_v, optK_v, isiK_v, boolK_t, boolK_f, notK_v, ifsK_t, ifsK_f, seqK_s, seqK_l, seqK_t, enumK_l, asgK_n, frz_v, pl_nil, pl_cons, fromP_ok, fromP_ex, Option.map_some, Option.map_none, List.getElem?_cons_zero, List.getElem?_cons_succ, List.set_cons_zero, List.set_cons_succ, Bool.not_true, Bool.not_false, ixT0, kk_wd, kk_not, ka, ko, isK, jl, BEq.rfl, c2_inb, show (false == true) = false from rfl]
        rw [holds, holds_or]
/-! ### cells and rows -/
theorem cell_ok (hp : HL C ix) (n : Nat) (ns : List Int) (k : Nat) : ∃ c : Int, (C (n + 1)).fn ix.l_cell [.scr ns, .int (k : Int)] = .ok (.int c) := by
  rw [fn_of_fa hp.lcell n _ rfl]
  show ∃ c : Int, pureP (outR (xs (C n) (Lb.l_cell ix).body [some (.v (.scr ns)), some (.v (.int (k : Int)))] [])) = _
  unfold Lb.l_cell
  by_cases h : k < ns.length
  · have e : idx2 (.scr ns) (.int (k : Int)) = some (.int ns[k]) := by
      show (L2.atI ns (k : Int)).map _ = _
      rw [atI_nat, List.getElem?_eq_getElem h]
      rfl
    have d : decide ((k : Int) < (ns.length : Int)) = true := decide_eq_true (by omega)
    exact ⟨ns[k], by simp only [bnd_ok, bnd_ex, bnd_no, out_ok, out_ex, out_no, seq_nx, seq_rt, seq_ex, res_some, res_none, outR_rt, outR_nx, outR_ex, pureP_v, pureP_ex, see_v, ask_str, ask_int, ask_bl, ask_non, eqD_str, eqD_int, eqD_bl, eqD_non, e_var, varK_s, e_chain, chain_i, c2_lt, c2_le, c2_gt, c2_ge, c2_eqs, c2_nes, c2_eqi, c2_nei, c2_eqb, c2_neb, c2_in1, un_lens, un_lenl, un_lent, un_lenc, un_ii, un_ib, un_all, un_neg, un_n0, un_nt, un_nl, op_addi, op_subi, ix_l, ix_t, e_cst, e_op, e_cmp, e_un, e_and, e_or, e_not, e_ifx, e_tup, e_lst, e_new, e_frz, e_idx, e_slc, e_rev, e_call, e_callm, e_calln, e_make, e_attr, e_isi, e_pop0, e_lc, e_seq, e_enum, e_rng, e_nil, e_cons, e_no, e_opt, x_skip, x_seq, x_asg, x_par, x_app, x_ext, x_setI, x_ret, x_ifs, x_for, x_whl, opK_v, cmpK_v, unK_v, idxK_v, slcK_v, revK_v, optK_v, isiK_v, boolK_t, boolK_f, notK_v, ifsK_t, ifsK_f, seqK_s, seqK_l, seqK_t, enumK_l, asgK_n, frz_v, pl_nil, pl_cons, fromP_ok, fromP_ex, Option.map_some, Option.map_none, List.getElem?_cons_zero, List.getElem?_cons_succ, List.set_cons_zero, List.set_cons_succ, Bool.not_true, Bool.not_false, d, e]⟩
  · have d : decide ((k : Int) < (ns.length : Int)) = false := decide_eq_false (by omega)
    exact ⟨0, by simp only [bnd_ok, bnd_ex, bnd_no, out_ok, out_ex, out_no, seq_nx, seq_rt, seq_ex, res_some, res_none, outR_rt, outR_nx, outR_ex, pureP_v, pureP_ex, see_v, ask_str, ask_int, ask_bl, ask_non, eqD_str, eqD_int, eqD_bl, eqD_non, e_var, varK_s, e_chain, chain_i, c2_lt, c2_le, c2_gt, c2_ge, c2_eqs, c2_nes, c2_eqi, c2_nei, c2_eqb, c2_neb, c2_in1, un_lens, un_lenl, un_lent, un_lenc, un_ii, un_ib, un_all, un_neg, un_n0, un_nt, un_nl, op_addi, op_subi, ix_l, ix_t, e_cst, e_op, e_cmp, e_un, e_and, e_or, e_not, e_ifx, e_tup, e_lst, e_new, e_frz, e_idx, e_slc, e_rev, e_call, e_callm, e_calln, e_make, e_attr, e_isi, e_pop0, e_lc, e_seq, e_enum, e_rng, e_nil, e_cons, e_no, e_opt, x_skip, x_seq, x_asg, x_par, x_app, x_ext, x_setI, x_ret, x_ifs, x_for, x_whl, opK_v, cmpK_v, unK_v, idxK_v, slcK_v, revK_v, optK_v, isiK_v, boolK_t, boolK_f, notK_v, ifsK_t, ifsK_f, seqK_s, seqK_l, seqK_t, enumK_l, asgK_n, frz_v, pl_nil, pl_cons, fromP_ok, fromP_ex, Option.map_some, Option.map_none, List.getElem?_cons_zero, List.getElem?_cons_succ, List.set_cons_zero, List.set_cons_succ, Bool.not_true, Bool.not_false, d]⟩
def cellI (rs : List Int) : Mu := [.lst ((rs.map D.int).map U.v)]
theorem see_cellI (rs : List Int) : see (cellI rs) (.p 0) = some (.lst (rs.map D.int)) := seeM_map _
theorem lstAt_cellI (rs : List Int) : lstAt (cellI rs) (.p 0) = some 0 := rfl
theorem app_cellI {ρ : Ro} (rs : List Int) (i : Int) (h : rs.length < lim) : appK 0 ρ (.v (.int i)) (cellI rs) = .nx ρ (cellI (rs ++ [i])) := by
  show (if ((rs.map D.int).map U.v).length < lim then O.nx ρ [.lst (((rs.map D.int).map U.v) ++ [.v (.int i)])] else .no) = _
  rw [if_pos (by rw [List.length_map, List.length_map]; exact h)]
  unfold cellI
  rw [List.map_append, List.map_append]
  rfl
theorem nwI : newK [] [] = .ok (.p 0) (cellI []) := by
  unfold newK
  rw [if_pos (by show 0 ≤ lim; exact Nat.zero_le _)]
  rfl
/-- numbers below bounds -/
def bdd : List Int → List Nat → Prop
  | [], [] => True
  | r :: rs, s :: ss => 0 ≤ r ∧ r < s ∧ bdd rs ss
  | _, _ => False
def nL (ss : List Nat) : D := .lst (ss.map fun s : Nat => .int (s : Int))
theorem op_mod (a b : Int) (h : b ≠ 0) : op2 .mod (.int a) (.int b) = some (.int (a.fmod b)) := if_pos h
theorem op_fdiv (a b : Int) (h : b ≠ 0) (h2 : b.natAbs < 1073741824) : op2 .fdiv (.int a) (.int b) = some (.int (a.fdiv b)) := if_pos ⟨h, h2⟩
theorem op_mul (a b : Int) (h : a.natAbs < 2 ^ 60 ∨ b.natAbs < 2 ^ 60) : op2 .mul (.int a) (.int b) = some (.int (a * b)) := if_pos h
theorem op_pow (a b : Int) (h : 0 ≤ b ∧ b ≤ 1000000 ∧ a.natAbs < 2 ^ 60) : op2 .pow (.int a) (.int b) = some (.int (a ^ b.toNat)) := if_pos h
theorem row_ok (hp : HL C ix) (n : Nat) (c : Int) (ss : List Nat) (h1 : ∀ s ∈ ss, 0 < s ∧ s < 1000000) (hl : ss.length ≤ 1000) : ∃ rs : List Int, bdd rs ss ∧ (C (n + 1)).fm ix.l_row [.v (.int c), .v (nL ss)] [] = .ok (.p 0) (cellI rs) := by
  rw [hp.lrow n, run_ok rfl]
  show ∃ rs : List Int, bdd rs ss ∧ outR (xs (C n) (Lb.l_row ix).body [some (.v (.int c)), some (.v (nL ss)), none, none, none, none, none] []) = _
  have hlim : lim = 1000000 := rfl
  have p18 : op2 .pow (.int 10) (.int 18) = some (.int 1000000000000000000) := by
    rw [op_pow _ _ (by decide)]
    rfl
  unfold Lb.l_row
  by_cases hc : (1000000000000000000 : Int) ≤ c
  · have key : ∀ (us : List Nat) (rs : List Int) (c : Int) (o : Option U), (∀ s ∈ us, 0 < s ∧ s < 1000000) → rs.length + us.length ≤ 100000 → ∃ (rs' : List Int) (c' : Int) (o' : Option U), bdd rs' us ∧ forL (forK (C n) (.nm 5) (.seq (.app (.var 2) (.op .mod (.un .int (.var 0)) (.var 5))) (.asg (.nm 0) (.op .fdiv (.var 0) (.var 5))))) (us.map fun s : Nat => .int (s : Int)) [some (.v (.int c)), some (.v (nL ss)), some (.p 0), none, none, o, none] (cellI rs) = .nx [some (.v (.int c')), some (.v (nL ss)), some (.p 0), none, none, o', none] (cellI (rs ++ rs')) := by
      intro us
      induction us with
      | nil =>
        intro rs c o _ _
        exact ⟨[], c, o, trivial, by simp [forL]⟩
      | cons s us ih =>
        intro rs c o h hl
        obtain ⟨s0, s1⟩ := h s List.mem_cons_self
        simp at hl
        obtain ⟨rs', c', o', b, e⟩ := ih (rs ++ [c.fmod s]) (c.fdiv s) (some (.v (.int (s : Int)))) (fun s hs => h s (List.mem_cons_of_mem _ hs)) (by simp; omega)
        refine ⟨c.fmod s :: rs', c', o', ⟨Int.fmod_nonneg_of_pos c (by omega), Int.fmod_lt_of_pos c (by omega), b⟩, ?_⟩
        have m1 := op_mod c (s : Int) (by omega)
        have m2 := op_fdiv c (s : Int) (by omega) (by omega)
        have st : forK (C n) (.nm 5) (.seq (.app (.var 2) (.op .mod (.un .int (.var 0)) (.var 5))) (.asg (.nm 0) (.op .fdiv (.var 0) (.var 5)))) (.int (s : Int)) [some (.v (.int c)), some (.v (nL ss)), some (.p 0), none, none, o, none] (cellI rs) = .nx [some (.v (.int (c.fdiv s))), some (.v (nL ss)), some (.p 0), none, none, some (.v (.int (s : Int))), none] (cellI (rs ++ [c.fmod s])) := by
          unfold forK
          simp only [bindT, bnd_ok, bnd_ex, bnd_no, out_ok, out_ex, out_no, seq_nx, seq_rt, seq_ex, res_some, res_none, outR_rt, outR_nx, outR_ex, pureP_v, pureP_ex, see_v, ask_str, ask_int, ask_bl, ask_non, eqD_str, eqD_int, eqD_bl, eqD_non, e_var, varK_s, e_chain, chain_i, c2_lt, c2_le, c2_gt, c2_ge, c2_eqs, c2_nes, c2_eqi, c2_nei, c2_eqb, c2_neb, c2_in1, un_lens, un_lenl, un_lent, un_lenc, un_ii, un_ib, un_all, un_neg, un_n0, un_nt, un_nl, op_addi, op_subi, ix_l, ix_t, e_cst, e_op, e_cmp, e_un, e_and, e_or, e_not, e_ifx, e_tup, e_lst, e_new, e_frz, e_idx, e_slc, e_rev, e_call, e_callm, e_calln, e_make, e_attr, e_isi, e_pop0, e_lc, e_seq, e_enum, e_rng, e_nil, e_cons, e_no, e_opt, x_skip, x_seq, x_asg, x_par, x_app, x_ext, x_setI, x_ret, x_ifs, x_for, x_whl, opK_v, cmpK_v, unK_v, idxK_v, slcK_v, revK_v, optK_v, isiK_v, boolK_t, boolK_f, notK_v, ifsK_t, ifsK_f, seqK_s, seqK_l, seqK_t, enumK_l, asgK_n, frz_v, pl_nil, pl_cons, fromP_ok, fromP_ex, Option.map_some, Option.map_none, List.getElem?_cons_zero, List.getElem?_cons_succ, List.set_cons_zero, List.set_cons_succ, Bool.not_true, Bool.not_false, lstAt_cellI, m1]
          rw [app_cellI _ _ (by omega)]
          simp only [bnd_ok, bnd_ex, bnd_no, out_ok, out_ex, out_no, seq_nx, seq_rt, seq_ex, res_some, res_none, outR_rt, outR_nx, outR_ex, pureP_v, pureP_ex, see_v, ask_str, ask_int, ask_bl, ask_non, eqD_str, eqD_int, eqD_bl, eqD_non, e_var, varK_s, e_chain, chain_i, c2_lt, c2_le, c2_gt, c2_ge, c2_eqs, c2_nes, c2_eqi, c2_nei, c2_eqb, c2_neb, c2_in1, un_lens, un_lenl, un_lent, un_lenc, un_ii, un_ib, un_all, un_neg, un_n0, un_nt, un_nl, op_addi, op_subi, ix_l, ix_t, e_cst, e_op, e_cmp, e_un, e_and, e_or, e_not, e_ifx, e_tup, e_lst, e_new, e_frz, e_idx, e_slc, e_rev, e_call, e_callm, e_calln, e_make, e_attr, e_isi, e_pop0, e_lc, e_seq, e_enum, e_rng, e_nil, e_cons, e_no, e_opt, x_skip, x_seq, x_asg, x_par, x_app, x_ext, x_setI, x_ret, x_ifs, x_for, x_whl, opK_v, cmpK_v, unK_v, idxK_v, slcK_v, revK_v, optK_v, isiK_v, boolK_t, boolK_f, notK_v, ifsK_t, ifsK_f, seqK_s, seqK_l, seqK_t, enumK_l, asgK_n, frz_v, pl_nil, pl_cons, fromP_ok, fromP_ex, Option.map_some, Option.map_none, List.getElem?_cons_zero, List.getElem?_cons_succ, List.set_cons_zero, List.set_cons_succ, Bool.not_true, Bool.not_false, m2]
        rw [List.map_cons, forL, st]
        dsimp only
        rw [e]
        simp
    obtain ⟨rs', c', o', b, e⟩ := key ss [] c none h1 (by simp; omega)
    refine ⟨rs', b, ?_⟩
    have d : decide ((1000000000000000000 : Int) ≤ c) = true := decide_eq_true hc
    simp only [bnd_ok, bnd_ex, bnd_no, out_ok, out_ex, out_no, seq_nx, seq_rt, seq_ex, res_some, res_none, outR_rt, outR_nx, outR_ex, pureP_v, pureP_ex, see_v, ask_str, ask_int, ask_bl, ask_non, eqD_str, eqD_int, eqD_bl, eqD_non, e_var, varK_s, e_chain, chain_i, c2_lt, c2_le, c2_gt, c2_ge, c2_eqs, c2_nes, c2_eqi, c2_nei, c2_eqb, c2_neb, c2_in1, un_lens, un_lenl, un_lent, un_lenc, un_ii, un_ib, un_all, un_neg, un_n0, un_nt, un_nl, op_addi, op_subi, ix_l, ix_t, e_cst, e_op, e_cmp, e_un, e_and, e_or, e_not, e_ifx, e_tup, e_lst, e_new, e_frz, e_idx, e_slc, e_rev, e_call, e_callm, e_calln, e_make, e_attr, e_isi, e_pop0, e_lc, e_seq, e_enum, e_rng, e_nil, e_cons, e_no, e_opt, x_skip, x_seq, x_asg, x_par, x_app, x_ext, x_setI, x_ret, x_ifs, x_for, x_whl, opK_v, cmpK_v, unK_v, idxK_v, slcK_v, revK_v, optK_v, isiK_v, boolK_t, boolK_f, notK_v, ifsK_t, ifsK_f, seqK_s, seqK_l, seqK_t, enumK_l, asgK_n, frz_v, pl_nil, pl_cons, fromP_ok, fromP_ex, Option.map_some, Option.map_none, List.getElem?_cons_zero, List.getElem?_cons_succ, List.set_cons_zero, List.set_cons_succ, Bool.not_true, Bool.not_false, nwI, p18, d, show seqK (.v (nL ss)) = fun m => .ok (ss.map fun s : Nat => .int (s : Int)) m from rfl]
    rw [e]
    simp only [bnd_ok, bnd_ex, bnd_no, out_ok, out_ex, out_no, seq_nx, seq_rt, seq_ex, res_some, res_none, outR_rt, outR_nx, outR_ex, pureP_v, pureP_ex, see_v, ask_str, ask_int, ask_bl, ask_non, eqD_str, eqD_int, eqD_bl, eqD_non, e_var, varK_s, e_chain, chain_i, c2_lt, c2_le, c2_gt, c2_ge, c2_eqs, c2_nes, c2_eqi, c2_nei, c2_eqb, c2_neb, c2_in1, un_lens, un_lenl, un_lent, un_lenc, un_ii, un_ib, un_all, un_neg, un_n0, un_nt, un_nl, op_addi, op_subi, ix_l, ix_t, e_cst, e_op, e_cmp, e_un, e_and, e_or, e_not, e_ifx, e_tup, e_lst, e_new, e_frz, e_idx, e_slc, e_rev, e_call, e_callm, e_calln, e_make, e_attr, e_isi, e_pop0, e_lc, e_seq, e_enum, e_rng, e_nil, e_cons, e_no, e_opt, x_skip, x_seq, x_asg, x_par, x_app, x_ext, x_setI, x_ret, x_ifs, x_for, x_whl, opK_v, cmpK_v, unK_v, idxK_v, slcK_v, revK_v, optK_v, isiK_v, boolK_t, boolK_f, notK_v, ifsK_t, ifsK_f, seqK_s, seqK_l, seqK_t, enumK_l, asgK_n, frz_v, pl_nil, pl_cons, fromP_ok, fromP_ex, Option.map_some, Option.map_none, List.getElem?_cons_zero, List.getElem?_cons_succ, List.set_cons_zero, List.set_cons_succ, Bool.not_true, Bool.not_false, List.nil_append]
  · have d : decide ((1000000000000000000 : Int) ≤ c) = false := decide_eq_false hc
    have m0 := op_mod c 2147483647 (by decide)
    have sd : ∃ seed : Int, c.fmod 2147483647 = seed ∧ 0 ≤ seed ∧ seed < 2147483647 := ⟨_, rfl, Int.fmod_nonneg_of_pos c (by decide), Int.fmod_lt_of_pos c (by decide)⟩
    obtain ⟨seed, e0, s0, s1⟩ := sd
    rw [e0] at m0
    have key : ∀ (us : List Nat) (i : Nat) (rs : List Int) (o4 o6 : Option U), ss.drop i = us → rs.length + us.length ≤ 100000 → ∃ (rs' : List Int) (o4' o6' : Option U), bdd rs' us ∧ forL (forK (C n) (.nm 4) (.seq (.asg (.nm 6) (.op .add (.op .mod (.un .int (.op .pow (.op .add (.op .add (.var 3) (.op .mul (.cst (.int 7919)) (.var 4))) (.cst (.int 104729))) (.cst (.int 5)))) (.cst (.int 2147483647))) (.var 4)))
  (.app (.var 2) (.op .mod (.un .int (.op .mod (.un .int (.op .mul (.var 6) (.cst (.int 40692)))) (.cst (.int 2147483629)))) (.idx (.var 1) (.var 4)))))) ((List.range' i us.length).map fun i : Nat => .int (i : Int)) [some (.v (.int c)), some (.v (nL ss)), some (.p 0), some (.v (.int seed)), o4, none, o6] (cellI rs) = .nx [some (.v (.int c)), some (.v (nL ss)), some (.p 0), some (.v (.int seed)), o4', none, o6'] (cellI (rs ++ rs')) := by
      intro us
      induction us with
      | nil =>
        intro i rs o4 o6 _ _
        exact ⟨[], o4, o6, trivial, by simp [forL]⟩
      | cons s us ih =>
        intro i rs o4 o6 hd hl
        have hs : s ∈ ss := by
          have : s ∈ ss.drop i := by rw [hd]; simp
          exact List.mem_of_mem_drop this
        have il : i < ss.length := by
          have := congrArg List.length hd
          simp at this
          omega
        have hd1 : ss.drop (i + 1) = us := by
          rw [← List.drop_drop, hd]
          rfl
        obtain ⟨z0, z1⟩ := h1 s hs
        simp at hl
        have ixs : idx2 (nL ss) (.int (i : Int)) = some (.int (s : Int)) := by
          show L2.atI (ss.map fun s : Nat => D.int (s : Int)) (i : Int) = _
          rw [atI_nat, List.getElem?_map]
          have : ss[i]? = some s := by
            have e : (ss.drop i)[0]? = some s := by rw [hd]; rfl
            rw [List.getElem?_drop] at e
            simpa using e
          rw [this]
          rfl
        have a1 := op_mul 7919 (i : Int) (.inl (by decide))
        have a2 := op_pow (seed + 7919 * (i : Int) + 104729) 5 ⟨by decide, by decide, by omega⟩
        have a3 := op_mod ((seed + 7919 * (i : Int) + 104729) ^ (5 : Int).toNat) 2147483647 (by decide)
        obtain ⟨mx, em⟩ : ∃ mx : Int, ((seed + 7919 * (i : Int) + 104729) ^ (5 : Int).toNat).fmod 2147483647 + (i : Int) = mx := ⟨_, rfl⟩
        have a4 := op_mul mx 40692 (.inr (by decide))
        have a5 := op_mod (mx * 40692) 2147483629 (by decide)
        have a6 := op_mod ((mx * 40692).fmod 2147483629) (s : Int) (by omega)
        obtain ⟨r, er⟩ : ∃ r : Int, ((mx * 40692).fmod 2147483629).fmod (s : Int) = r := ⟨_, rfl⟩
        have r0 : 0 ≤ r := by rw [← er]; exact Int.fmod_nonneg_of_pos _ (by omega)
        have r1 : r < s := by rw [← er]; exact Int.fmod_lt_of_pos _ (by omega)
        rw [er] at a6
        obtain ⟨rs', o4', o6', b, e⟩ := ih (i + 1) (rs ++ [r]) (some (.v (.int (i : Int)))) (some (.v (.int mx))) hd1 (by simp; omega)
        refine ⟨r :: rs', o4', o6', ⟨r0, r1, b⟩, ?_⟩
        rw [List.length_cons, List.range'_succ, List.map_cons, forL]
        have st : forK (C n) (.nm 4) (.seq (.asg (.nm 6) (.op .add (.op .mod (.un .int (.op .pow (.op .add (.op .add (.var 3) (.op .mul (.cst (.int 7919)) (.var 4))) (.cst (.int 104729))) (.cst (.int 5)))) (.cst (.int 2147483647))) (.var 4)))
  (.app (.var 2) (.op .mod (.un .int (.op .mod (.un .int (.op .mul (.var 6) (.cst (.int 40692)))) (.cst (.int 2147483629)))) (.idx (.var 1) (.var 4))))) (.int (i : Int)) [some (.v (.int c)), some (.v (nL ss)), some (.p 0), some (.v (.int seed)), o4, none, o6] (cellI rs) = .nx [some (.v (.int c)), some (.v (nL ss)), some (.p 0), some (.v (.int seed)), some (.v (.int (i : Int))), none, some (.v (.int mx))] (cellI (rs ++ [r])) := by
          unfold forK
          simp only [bindT, bnd_ok, bnd_ex, bnd_no, out_ok, out_ex, out_no, seq_nx, seq_rt, seq_ex, res_some, res_none, outR_rt, outR_nx, outR_ex, pureP_v, pureP_ex, see_v, ask_str, ask_int, ask_bl, ask_non, eqD_str, eqD_int, eqD_bl, eqD_non, e_var, varK_s, e_chain, chain_i, c2_lt, c2_le, c2_gt, c2_ge, c2_eqs, c2_nes, c2_eqi, c2_nei, c2_eqb, c2_neb, c2_in1, un_lens, un_lenl, un_lent, un_lenc, un_ii, un_ib, un_all, un_neg, un_n0, un_nt, un_nl, op_addi, op_subi, ix_l, ix_t, e_cst, e_op, e_cmp, e_un, e_and, e_or, e_not, e_ifx, e_tup, e_lst, e_new, e_frz, e_idx, e_slc, e_rev, e_call, e_callm, e_calln, e_make, e_attr, e_isi, e_pop0, e_lc, e_seq, e_enum, e_rng, e_nil, e_cons, e_no, e_opt, x_skip, x_seq, x_asg, x_par, x_app, x_ext, x_setI, x_ret, x_ifs, x_for, x_whl, opK_v, cmpK_v, unK_v, idxK_v, slcK_v, revK_v, optK_v, isiK_v, boolK_t, boolK_f, notK_v, ifsK_t, ifsK_f, seqK_s, seqK_l, seqK_t, enumK_l, asgK_n, frz_v, pl_nil, pl_cons, fromP_ok, fromP_ex, Option.map_some, Option.map_none, List.getElem?_cons_zero, List.getElem?_cons_succ, List.set_cons_zero, List.set_cons_succ, Bool.not_true, Bool.not_false, lstAt_cellI, a1, a2, a3, em, a4, a5, a6, ixs]
          rw [app_cellI _ _ (by omega)]
        rw [st]
        dsimp only
        rw [e]
        simp
    obtain ⟨rs', o4', o6', b, e⟩ := key ss 0 [] none none rfl (by simp; omega)
    refine ⟨rs', b, ?_⟩
    have ln : un1 .len (nL ss) = some (.int (ss.length : Int)) := by
      show some (D.int ((ss.map fun s : Nat => D.int (s : Int)).length : Int)) = _
      rw [List.length_map]
    have rg : ∀ m, rngK (.v (.int (ss.length : Int))) m = .ok ((List.range' 0 ss.length).map fun i : Nat => .int (i : Int)) m := fun m => rngK_n ss.length (by omega)
    simp only [bnd_ok, bnd_ex, bnd_no, out_ok, out_ex, out_no, seq_nx, seq_rt, seq_ex, res_some, res_none, outR_rt, outR_nx, outR_ex, pureP_v, pureP_ex, see_v, ask_str, ask_int, ask_bl, ask_non, eqD_str, eqD_int, eqD_bl, eqD_non, e_var, varK_s, e_chain, chain_i, c2_lt, c2_le, c2_gt, c2_ge, c2_eqs, c2_nes, c2_eqi, c2_nei, c2_eqb, c2_neb, c2_in1, un_lens, un_lenl, un_lent, un_lenc, un_ii, un_ib, un_all, un_neg, un_n0, un_nt, un_nl, op_addi, op_subi, ix_l, ix_t, e_cst, e_op, e_cmp, e_un, e_and, e_or, e_not, e_ifx, e_tup, e_lst, e_new, e_frz, e_idx, e_slc, e_rev, e_call, e_callm, e_calln, e_make, e_attr, e_isi, e_pop0, e_lc, e_seq, e_enum, e_rng, e_nil, e_cons, e_no, e_opt, x_skip, x_seq, x_asg, x_par, x_app, x_ext, x_setI, x_ret, x_ifs, x_for, x_whl, opK_v, cmpK_v, unK_v, idxK_v, slcK_v, revK_v, optK_v, isiK_v, boolK_t, boolK_f, notK_v, ifsK_t, ifsK_f, seqK_s, seqK_l, seqK_t, enumK_l, asgK_n, frz_v, pl_nil, pl_cons, fromP_ok, fromP_ex, Option.map_some, Option.map_none, List.getElem?_cons_zero, List.getElem?_cons_succ, List.set_cons_zero, List.set_cons_succ, Bool.not_true, Bool.not_false, nwI, p18, d, m0, ln, rg]
    rw [e]
    simp only [bnd_ok, bnd_ex, bnd_no, out_ok, out_ex, out_no, seq_nx, seq_rt, seq_ex, res_some, res_none, outR_rt, outR_nx, outR_ex, pureP_v, pureP_ex, see_v, ask_str, ask_int, ask_bl, ask_non, eqD_str, eqD_int, eqD_bl, eqD_non, e_var, varK_s, e_chain, chain_i, c2_lt, c2_le, c2_gt, c2_ge, c2_eqs, c2_nes, c2_eqi, c2_nei, c2_eqb, c2_neb, c2_in1, un_lens, un_lenl, un_lent, un_lenc, un_ii, un_ib, un_all, un_neg, un_n0, un_nt, un_nl, op_addi, op_subi, ix_l, ix_t, e_cst, e_op, e_cmp, e_un, e_and, e_or, e_not, e_ifx, e_tup, e_lst, e_new, e_frz, e_idx, e_slc, e_rev, e_call, e_callm, e_calln, e_make, e_attr, e_isi, e_pop0, e_lc, e_seq, e_enum, e_rng, e_nil, e_cons, e_no, e_opt, x_skip, x_seq, x_asg, x_par, x_app, x_ext, x_setI, x_ret, x_ifs, x_for, x_whl, opK_v, cmpK_v, unK_v, idxK_v, slcK_v, revK_v, optK_v, isiK_v, boolK_t, boolK_f, notK_v, ifsK_t, ifsK_f, seqK_s, seqK_l, seqK_t, enumK_l, asgK_n, frz_v, pl_nil, pl_cons, fromP_ok, fromP_ex, Option.map_some, Option.map_none, List.getElem?_cons_zero, List.getElem?_cons_succ, List.set_cons_zero, List.set_cons_succ, Bool.not_true, Bool.not_false, List.nil_append]
end
end At

/-! Trees that are drawn. -/
namespace At
open PySem
section
variable {C : Nat → CE} {ix : Lb.Ix}
/-- a list of numbers in the store -/
def Has (m : Mu) (k : Nat) (ds : List Int) : Prop := m[k]? = some (.lst ((ds.map D.int).map U.v))
theorem has_see {m : Mu} {k : Nat} {ds : List Int} (h : Has m k ds) : see m (.p k) = some (.lst (ds.map D.int)) := by
  show (match m[k]? with
    | some x => seeM x
    | none => none) = _
  rw [h]
  exact seeM_map _
theorem ask_ints (ds : List Int) : askable (.lst (ds.map D.int)) = true := by
  have h1 : plains (ds.map D.int) = true := by
    induction ds with
    | nil => rfl
    | cons y ys ih => exact ih
  have h2 : deeps (ds.map D.int) = 0 := by
    clear h1
    induction ds with
    | nil => rfl
    | cons y ys ih =>
      show max 0 (deeps (ys.map D.int)) = 0
      rw [ih]
      rfl
  show (plains (ds.map D.int) && decide (deeps (ds.map D.int) + 1 ≤ 60)) = true
  rw [h1, h2]
  rfl
theorem has_ne {m : Mu} {k : Nat} {ds : List Int} (h : Has m k ds) : cmpK .ne (.p k) (.v (.lst [])) m = .ok (.v (.bl (!ds.isEmpty))) m := by
  unfold cmpK
  rw [has_see h, see_v]
  dsimp only
  have : cmp2 .ne (.lst (ds.map D.int)) (.lst []) = some (!ds.isEmpty) := by
    show (if (askable (.lst (ds.map D.int)) && askable (.lst [])) = true then some (!eqD (.lst (ds.map D.int)) (.lst [])) else none) = _
    rw [ask_ints]
    cases ds <;> rfl
  rw [this]
  rfl
theorem has_pop {m : Mu} {k : Nat} {d : Int} {ds : List Int} (h : Has m k (d :: ds)) : ∃ m', pop0K (.p k) m = .ok (.v (.int d)) m' ∧ Has m' k ds := by
  have h' : m[k]? = some (.lst (.v (.int d) :: (ds.map D.int).map U.v)) := h
  refine ⟨m.set k (.lst ((ds.map D.int).map U.v)), ?_, ?_⟩
  · unfold pop0K
    have : lstAt m (.p k) = some k := by
      show (match m[k]? with
        | some (.lst _) => some k
        | _ => none) = _
      rw [h']
    rw [this]
    dsimp only
    rw [h']
  · unfold Has
    have hl : k < m.length := by
      rcases List.getElem?_eq_some_iff.mp h' with ⟨hl, _⟩
      exact hl
    rw [List.getElem?_set_self hl]
def tb : Nat → Nat
  | 0 => 1
  | d + 1 => 1 + 3 * tb d
theorem tb_pos : ∀ d, 1 ≤ tb d
  | 0 => Nat.le_refl _
  | d + 1 => by rw [tb]; omega
structure Drawn (ws : List Tok) (d : Nat) (t : Tr) : Prop where
  wf : wf t = true
  nd : nd t ≤ 4 + 4 * d
  sz : sz t ≤ tb d
  ws : ∀ w ∈ words t, w ∈ ws
theorem fmod_nat (a : Int) (b : Nat) (h : 0 < b) : ∃ p : Nat, p < b ∧ a.fmod (b : Int) = (p : Int) := by
  have h0 := Int.fmod_nonneg_of_pos a (b := (b : Int)) (by omega)
  have h1 := Int.fmod_lt_of_pos a (b := (b : Int)) (by omega)
  exact ⟨(a.fmod b).toNat, by omega, by omega⟩
/-- parts drawn one by one -/
theorem lcL_draw {f : U → Mu → R (Option D)} {k : Nat} {P : Tr → Prop} (h : ∀ u m ds, Has m k ds → ∃ t m' ds', f u m = .ok (some (toD t)) m' ∧ Has m' k ds' ∧ P t) : ∀ (us : List U) (m : Mu) (ds : List Int), Has m k ds → ∃ (ts : List Tr) (m' : Mu) (ds' : List Int), lcL f us m = .ok (ts.map toD) m' ∧ Has m' k ds' ∧ ts.length = us.length ∧ ∀ t ∈ ts, P t
  | [], m, ds, hm => ⟨[], m, ds, rfl, hm, rfl, fun t ht => by simp at ht⟩
  | u :: us, m, ds, hm => by
    obtain ⟨t, m1, d1, e1, q1, p1⟩ := h u m ds hm
    obtain ⟨ts, m2, d2, e2, q2, l2, p2⟩ := lcL_draw h us m1 d1 q1
    refine ⟨t :: ts, m2, d2, ?_, q2, by rw [List.length_cons, List.length_cons, l2], fun x hx => ?_⟩
    · rw [lcL, e1]
      dsimp only
      rw [e2]
      rfl
    · rcases List.mem_cons.mp hx with e | hx
      · rw [e]
        exact p1
      · exact p2 x hx
theorem szs_bd : ∀ {ts : List Tr} {b : Nat}, (∀ t ∈ ts, sz t ≤ b) → szs ts ≤ ts.length * b
  | [], b, _ => by simp [szs]
  | t :: ts, b, h => by
    rw [szs, List.length_cons, Nat.add_mul, Nat.one_mul]
    have := h t List.mem_cons_self
    have := szs_bd fun t ht => h t (List.mem_cons_of_mem _ ht)
    omega
theorem drawn_op {ws : List Tok} {d : Nat} {k : Bool} {ts : List Tr} (h : ∀ t ∈ ts, Drawn ws d t) (h2 : 2 ≤ ts.length) (h3 : ts.length ≤ 3) : Drawn ws (d + 1) (.op k ts) := by
  refine ⟨?_, ?_, ?_, ?_⟩
  · rw [wf, decide_eq_true h2, Bool.true_and]
    exact wfL_mem.mpr fun t ht => (h t ht).wf
  · rw [nd]
    have := nds_le (ts := ts) (b := 4 + 4 * d) (by omega) fun t ht => (h t ht).nd
    omega
  · rw [sz, tb]
    have := szs_bd (ts := ts) (b := tb d) fun t ht => (h t ht).sz
    have : ts.length * tb d ≤ 3 * tb d := Nat.mul_le_mul_right _ h3
    omega
  · rw [words, wordsL_flat]
    intro w hw
    obtain ⟨t, ht, hw⟩ := List.mem_flatMap.mp hw
    exact (h t ht).ws w hw
theorem Drawn.mono {ws : List Tok} {d : Nat} {t : Tr} (h : Drawn ws 0 t) : Drawn ws d t := ⟨h.wf, by have := h.nd; omega, by have := h.sz; have := tb_pos d; have : tb 0 = 1 := rfl; omega, h.ws⟩
theorem tree_step (hp : HL C ix) (ws : List Tok) (hw : ∀ w ∈ ws, isWord w = true) (hl : ws.length ≤ 1000) (d n : Nat) (IH : ∀ d', d = d' + 1 → ∀ (m : Mu) (k : Nat) (ds : List Int), Has m k ds → ∃ (t : Tr) (m' : Mu) (ds' : List Int), (C n).fm ix.l_tree [.p k, .v (sL ws), .v (.int (d' : Int))] m = .ok (.v (toD t)) m' ∧ Has m' k ds' ∧ Drawn ws d' t) (m : Mu) (k : Nat) (ds : List Int) (hm : Has m k ds) : ∃ (t : Tr) (m' : Mu) (ds' : List Int), (C (n + 1)).fm ix.l_tree [.p k, .v (sL ws), .v (.int (d : Int))] m = .ok (.v (toD t)) m' ∧ Has m' k ds' ∧ Drawn ws d t := by
  rw [hp.ltree n, run_ok rfl]
  show ∃ (t : Tr) (m' : Mu) (ds' : List Int), outR (xs (C n) (Lb.l_tree ix).body [some (.p k), some (.v (sL ws)), some (.v (.int (d : Int))), none, none, none, none, none] m) = .ok (.v (toD t)) m' ∧ Has m' k ds' ∧ Drawn ws d t
  obtain ⟨draw, m1, ds1, e1, q1⟩ : ∃ (draw : Int) (m1 : Mu) (ds1 : List Int), ev (C n) (.ifx (.cmp .ne (.var 0) (.lst .nil)) (.pop0 (.var 0)) (.cst (.int 0))) [some (.p k), some (.v (sL ws)), some (.v (.int (d : Int))), none, none, none, none, none] m = .ok (.v (.int draw)) m1 ∧ Has m1 k ds1 := by
    simp only [bnd_ok, bnd_ex, bnd_no, out_ok, out_ex, out_no, seq_nx, seq_rt, seq_ex, res_some, res_none, outR_rt, outR_nx, outR_ex, pureP_v, pureP_ex, see_v, ask_str, ask_int, ask_bl, ask_non, eqD_str, eqD_int, eqD_bl, eqD_non, e_var, varK_s, e_chain, chain_i, c2_lt, c2_le, c2_gt, c2_ge, c2_eqs, c2_nes, c2_eqi, c2_nei, c2_eqb, c2_neb, c2_in1, un_lens, un_lenl, un_lent, un_lenc, un_ii, un_ib, un_all, un_neg, un_n0, un_nt, un_nl, op_addi, op_subi, ix_l, ix_t, e_cst, e_op, e_cmp, e_un, e_and, e_or, e_not, e_ifx, e_tup, e_lst, e_new, e_frz, e_idx, e_slc, e_rev, e_call, e_callm, e_calln, e_make, e_attr, e_isi, e_pop0, e_lc, e_seq, e_enum, e_rng, e_nil, e_cons, e_no, e_opt, x_skip, x_seq, x_asg, x_par, x_app, x_ext, x_setI, x_ret, x_ifs, x_for, x_whl, opK_v, cmpK_v, unK_v, idxK_v, slcK_v, revK_v, optK_v, isiK_v, boolK_t, boolK_f, notK_v, ifsK_t, ifsK_f, seqK_s, seqK_l, seqK_t, enumK_l, asgK_n, frz_v, pl_nil, pl_cons, fromP_ok, fromP_ex, Option.map_some, Option.map_none, List.getElem?_cons_zero, List.getElem?_cons_succ, List.set_cons_zero, List.set_cons_succ, Bool.not_true, Bool.not_false, lst0, has_ne hm]
    cases ds with
    | nil => exact ⟨0, m, [], by simp only [List.isEmpty_nil, bnd_ok, bnd_ex, bnd_no, out_ok, out_ex, out_no, seq_nx, seq_rt, seq_ex, res_some, res_none, outR_rt, outR_nx, outR_ex, pureP_v, pureP_ex, see_v, ask_str, ask_int, ask_bl, ask_non, eqD_str, eqD_int, eqD_bl, eqD_non, e_var, varK_s, e_chain, chain_i, c2_lt, c2_le, c2_gt, c2_ge, c2_eqs, c2_nes, c2_eqi, c2_nei, c2_eqb, c2_neb, c2_in1, un_lens, un_lenl, un_lent, un_lenc, un_ii, un_ib, un_all, un_neg, un_n0, un_nt, un_nl, op_addi, op_subi, ix_l, ix_t, e_cst, e_op, e_cmp, e_un, e_and, e_or, e_not, e_ifx, e_tup, e_lst, e_new, e_frz, e_idx, e_slc, e_rev, e_call, e_callm, e_calln, e_make, e_attr, e_isi, e_pop0, e_lc, e_seq, e_enum, e_rng, e_nil, e_cons, e_no, e_opt, x_skip, x_seq, x_asg, x_par, x_app, x_ext, x_setI, x_ret, x_ifs, x_for, x_whl, opK_v, cmpK_v, unK_v, idxK_v, slcK_v, revK_v, optK_v, isiK_v, boolK_t, boolK_f, notK_v, ifsK_t, ifsK_f, seqK_s, seqK_l, seqK_t, enumK_l, asgK_n, frz_v, pl_nil, pl_cons, fromP_ok, fromP_ex, Option.map_some, Option.map_none, List.getElem?_cons_zero, List.getElem?_cons_succ, List.set_cons_zero, List.set_cons_succ, Bool.not_true, Bool.not_false], hm⟩
    | cons d0 ds =>
      obtain ⟨m', h1, h2⟩ := has_pop hm
      exact ⟨d0, m', ds, by simp only [List.isEmpty_cons, bnd_ok, bnd_ex, bnd_no, out_ok, out_ex, out_no, seq_nx, seq_rt, seq_ex, res_some, res_none, outR_rt, outR_nx, outR_ex, pureP_v, pureP_ex, see_v, ask_str, ask_int, ask_bl, ask_non, eqD_str, eqD_int, eqD_bl, eqD_non, e_var, varK_s, e_chain, chain_i, c2_lt, c2_le, c2_gt, c2_ge, c2_eqs, c2_nes, c2_eqi, c2_nei, c2_eqb, c2_neb, c2_in1, un_lens, un_lenl, un_lent, un_lenc, un_ii, un_ib, un_all, un_neg, un_n0, un_nt, un_nl, op_addi, op_subi, ix_l, ix_t, e_cst, e_op, e_cmp, e_un, e_and, e_or, e_not, e_ifx, e_tup, e_lst, e_new, e_frz, e_idx, e_slc, e_rev, e_call, e_callm, e_calln, e_make, e_attr, e_isi, e_pop0, e_lc, e_seq, e_enum, e_rng, e_nil, e_cons, e_no, e_opt, x_skip, x_seq, x_asg, x_par, x_app, x_ext, x_setI, x_ret, x_ifs, x_for, x_whl, opK_v, cmpK_v, unK_v, idxK_v, slcK_v, revK_v, optK_v, isiK_v, boolK_t, boolK_f, notK_v, ifsK_t, ifsK_f, seqK_s, seqK_l, seqK_t, enumK_l, asgK_n, frz_v, pl_nil, pl_cons, fromP_ok, fromP_ex, Option.map_some, Option.map_none, List.getElem?_cons_zero, List.getElem?_cons_succ, List.set_cons_zero, List.set_cons_succ, Bool.not_true, Bool.not_false, h1], h2⟩
  obtain ⟨w, w8, ew⟩ := fmod_nat draw 8 (by decide)
  have m8 := op_mod draw 8 (by decide)
  rw [show draw.fmod 8 = (w : Int) from ew] at m8
  unfold Lb.l_tree
  rw [show xs (C n) (Fn.body ⟨3, 8, _⟩) _ m = _ from x_seq, x_asg, e1]
  simp only [bnd_ok, bnd_ex, bnd_no, out_ok, out_ex, out_no, seq_nx, seq_rt, seq_ex, res_some, res_none, outR_rt, outR_nx, outR_ex, pureP_v, pureP_ex, see_v, ask_str, ask_int, ask_bl, ask_non, eqD_str, eqD_int, eqD_bl, eqD_non, e_var, varK_s, e_chain, chain_i, c2_lt, c2_le, c2_gt, c2_ge, c2_eqs, c2_nes, c2_eqi, c2_nei, c2_eqb, c2_neb, c2_in1, un_lens, un_lenl, un_lent, un_lenc, un_ii, un_ib, un_all, un_neg, un_n0, un_nt, un_nl, op_addi, op_subi, ix_l, ix_t, e_cst, e_op, e_cmp, e_un, e_and, e_or, e_not, e_ifx, e_tup, e_lst, e_new, e_frz, e_idx, e_slc, e_rev, e_call, e_callm, e_calln, e_make, e_attr, e_isi, e_pop0, e_lc, e_seq, e_enum, e_rng, e_nil, e_cons, e_no, e_opt, x_skip, x_seq, x_asg, x_par, x_app, x_ext, x_setI, x_ret, x_ifs, x_for, x_whl, opK_v, cmpK_v, unK_v, idxK_v, slcK_v, revK_v, optK_v, isiK_v, boolK_t, boolK_f, notK_v, ifsK_t, ifsK_f, seqK_s, seqK_l, seqK_t, enumK_l, asgK_n, frz_v, pl_nil, pl_cons, fromP_ok, fromP_ex, Option.map_some, Option.map_none, List.getElem?_cons_zero, List.getElem?_cons_succ, List.set_cons_zero, List.set_cons_succ, Bool.not_true, Bool.not_false, m8]
  have lk : un1 .len (sL ws) = some (.int (ws.length : Int)) := un_lenL ws
  have cd : (((d : Int) == 0) = true ∨ decide ((w : Int) < 4) = true) ↔ (d = 0 ∨ w < 4) := by simp; omega
  by_cases c : d = 0 ∨ w < 4
  · have orr : ∀ m, boolK (fun m => R.ok (U.v (.bl true)) m) (fun m => R.ok (U.v (.bl (decide ((w : Int) < 4)))) m) (U.v (.bl ((d : Int) == 0))) m = .ok (.v (.bl true)) m := fun m => by
      rcases c with rfl | c
      · rfl
      · rw [decide_eq_true (show (w : Int) < 4 by omega)]
        cases ((d : Int) == 0) <;> rfl
    have f8 := op_fdiv draw 8 (by decide) (by decide)
    have f64 := op_fdiv draw 64 (by decide) (by decide)
    obtain ⟨p, pl, ep⟩ := fmod_nat (draw.fdiv 8) (ws.length + 1) (by omega)
    have mp := op_mod (draw.fdiv 8) ((ws.length : Int) + 1) (by omega)
    rw [show (draw.fdiv 8).fmod ((ws.length : Int) + 1) = (p : Int) from ep] at mp
    have m4 := op_mod (draw.fdiv 64) 4 (by decide)
    simp only [bnd_ok, bnd_ex, bnd_no, out_ok, out_ex, out_no, seq_nx, seq_rt, seq_ex, res_some, res_none, outR_rt, outR_nx, outR_ex, pureP_v, pureP_ex, see_v, ask_str, ask_int, ask_bl, ask_non, eqD_str, eqD_int, eqD_bl, eqD_non, e_var, varK_s, e_chain, chain_i, c2_lt, c2_le, c2_gt, c2_ge, c2_eqs, c2_nes, c2_eqi, c2_nei, c2_eqb, c2_neb, c2_in1, un_lens, un_lenl, un_lent, un_lenc, un_ii, un_ib, un_all, un_neg, un_n0, un_nt, un_nl, op_addi, op_subi, ix_l, ix_t, e_cst, e_op, e_cmp, e_un, e_and, e_or, e_not, e_ifx, e_tup, e_lst, e_new, e_frz, e_idx, e_slc, e_rev, e_call, e_callm, e_calln, e_make, e_attr, e_isi, e_pop0, e_lc, e_seq, e_enum, e_rng, e_nil, e_cons, e_no, e_opt, x_skip, x_seq, x_asg, x_par, x_app, x_ext, x_setI, x_ret, x_ifs, x_for, x_whl, opK_v, cmpK_v, unK_v, idxK_v, slcK_v, revK_v, optK_v, isiK_v, boolK_t, boolK_f, notK_v, ifsK_t, ifsK_f, seqK_s, seqK_l, seqK_t, enumK_l, asgK_n, frz_v, pl_nil, pl_cons, fromP_ok, fromP_ex, Option.map_some, Option.map_none, List.getElem?_cons_zero, List.getElem?_cons_succ, List.set_cons_zero, List.set_cons_succ, Bool.not_true, Bool.not_false, orr, f8, lk, mp]
    by_cases hp2 : p < ws.length
    · have dp : decide ((p : Int) < (ws.length : Int)) = true := decide_eq_true (by omega)
      have ixw : idx2 (sL ws) (.int (p : Int)) = some (.str ws[p]) := by
        show L2.atI (ws.map D.str) (p : Int) = _
        rw [atI_nat, List.getElem?_map, List.getElem?_eq_getElem hp2]
        rfl
      refine ⟨.word ws[p], m1, ds1, ?_, q1, Drawn.mono ⟨?_, ?_, ?_, ?_⟩⟩
      · simp only [bnd_ok, bnd_ex, bnd_no, out_ok, out_ex, out_no, seq_nx, seq_rt, seq_ex, res_some, res_none, outR_rt, outR_nx, outR_ex, pureP_v, pureP_ex, see_v, ask_str, ask_int, ask_bl, ask_non, eqD_str, eqD_int, eqD_bl, eqD_non, e_var, varK_s, e_chain, chain_i, c2_lt, c2_le, c2_gt, c2_ge, c2_eqs, c2_nes, c2_eqi, c2_nei, c2_eqb, c2_neb, c2_in1, un_lens, un_lenl, un_lent, un_lenc, un_ii, un_ib, un_all, un_neg, un_n0, un_nt, un_nl, op_addi, op_subi, ix_l, ix_t, e_cst, e_op, e_cmp, e_un, e_and, e_or, e_not, e_ifx, e_tup, e_lst, e_new, e_frz, e_idx, e_slc, e_rev, e_call, e_callm, e_calln, e_make, e_attr, e_isi, e_pop0, e_lc, e_seq, e_enum, e_rng, e_nil, e_cons, e_no, e_opt, x_skip, x_seq, x_asg, x_par, x_app, x_ext, x_setI, x_ret, x_ifs, x_for, x_whl, opK_v, cmpK_v, unK_v, idxK_v, slcK_v, revK_v, optK_v, isiK_v, boolK_t, boolK_f, notK_v, ifsK_t, ifsK_f, seqK_s, seqK_l, seqK_t, enumK_l, asgK_n, frz_v, pl_nil, pl_cons, fromP_ok, fromP_ex, Option.map_some, Option.map_none, List.getElem?_cons_zero, List.getElem?_cons_succ, List.set_cons_zero, List.set_cons_succ, Bool.not_true, Bool.not_false, dp, ixw, tup2]
        rw [toD]
        rfl
      · rw [wf]
        exact hw _ (List.getElem_mem hp2)
      · rw [nd]
        omega
      · rw [sz]
        exact Nat.le_refl _
      · rw [words]
        intro x hx
        simp at hx
        rw [hx]
        exact List.getElem_mem hp2
    · have dp : decide ((p : Int) < (ws.length : Int)) = false := decide_eq_false (by omega)
      have dr : ∀ t : Tr, (t = .all ∨ t = .none) → Drawn ws d t := fun t ht => by
        rcases ht with rfl | rfl
        · exact Drawn.mono ⟨by rw [wf], by rw [nd]; omega, by rw [sz]; exact Nat.le_refl _, by rw [words]; intro w hw; simp at hw⟩
        · exact Drawn.mono ⟨by rw [wf], by rw [nd]; omega, by rw [sz]; exact Nat.le_refl _, by rw [words]; intro w hw; simp at hw⟩
      cases hz : decide ((0 : Int) < (draw.fdiv 64).fmod 4) with
      | true =>
        refine ⟨.all, m1, ds1, ?_, q1, dr _ (.inl rfl)⟩
        simp only [bnd_ok, bnd_ex, bnd_no, out_ok, out_ex, out_no, seq_nx, seq_rt, seq_ex, res_some, res_none, outR_rt, outR_nx, outR_ex, pureP_v, pureP_ex, see_v, ask_str, ask_int, ask_bl, ask_non, eqD_str, eqD_int, eqD_bl, eqD_non, e_var, varK_s, e_chain, chain_i, c2_lt, c2_le, c2_gt, c2_ge, c2_eqs, c2_nes, c2_eqi, c2_nei, c2_eqb, c2_neb, c2_in1, un_lens, un_lenl, un_lent, un_lenc, un_ii, un_ib, un_all, un_neg, un_n0, un_nt, un_nl, op_addi, op_subi, ix_l, ix_t, e_cst, e_op, e_cmp, e_un, e_and, e_or, e_not, e_ifx, e_tup, e_lst, e_new, e_frz, e_idx, e_slc, e_rev, e_call, e_callm, e_calln, e_make, e_attr, e_isi, e_pop0, e_lc, e_seq, e_enum, e_rng, e_nil, e_cons, e_no, e_opt, x_skip, x_seq, x_asg, x_par, x_app, x_ext, x_setI, x_ret, x_ifs, x_for, x_whl, opK_v, cmpK_v, unK_v, idxK_v, slcK_v, revK_v, optK_v, isiK_v, boolK_t, boolK_f, notK_v, ifsK_t, ifsK_f, seqK_s, seqK_l, seqK_t, enumK_l, asgK_n, frz_v, pl_nil, pl_cons, fromP_ok, fromP_ex, Option.map_some, Option.map_none, List.getElem?_cons_zero, List.getElem?_cons_succ, List.set_cons_zero, List.set_cons_succ, Bool.not_true, Bool.not_false, dp, f64, m4, hz, tup1]
        rw [toD]
        rfl
      | false =>
        refine ⟨.none, m1, ds1, ?_, q1, dr _ (.inr rfl)⟩
        simp only [bnd_ok, bnd_ex, bnd_no, out_ok, out_ex, out_no, seq_nx, seq_rt, seq_ex, res_some, res_none, outR_rt, outR_nx, outR_ex, pureP_v, pureP_ex, see_v, ask_str, ask_int, ask_bl, ask_non, eqD_str, eqD_int, eqD_bl, eqD_non, e_var, varK_s, e_chain, chain_i, c2_lt, c2_le, c2_gt, c2_ge, c2_eqs, c2_nes, c2_eqi, c2_nei, c2_eqb, c2_neb, c2_in1, un_lens, un_lenl, un_lent, un_lenc, un_ii, un_ib, un_all, un_neg, un_n0, un_nt, un_nl, op_addi, op_subi, ix_l, ix_t, e_cst, e_op, e_cmp, e_un, e_and, e_or, e_not, e_ifx, e_tup, e_lst, e_new, e_frz, e_idx, e_slc, e_rev, e_call, e_callm, e_calln, e_make, e_attr, e_isi, e_pop0, e_lc, e_seq, e_enum, e_rng, e_nil, e_cons, e_no, e_opt, x_skip, x_seq, x_asg, x_par, x_app, x_ext, x_setI, x_ret, x_ifs, x_for, x_whl, opK_v, cmpK_v, unK_v, idxK_v, slcK_v, revK_v, optK_v, isiK_v, boolK_t, boolK_f, notK_v, ifsK_t, ifsK_f, seqK_s, seqK_l, seqK_t, enumK_l, asgK_n, frz_v, pl_nil, pl_cons, fromP_ok, fromP_ex, Option.map_some, Option.map_none, List.getElem?_cons_zero, List.getElem?_cons_succ, List.set_cons_zero, List.set_cons_succ, Bool.not_true, Bool.not_false, dp, f64, m4, hz, tup1]
        rw [toD]
        rfl
  · have d0 : ((d : Int) == 0) = false := by
      rw [beq_eq_false_iff_ne]
      omega
    have w4 : decide ((w : Int) < 4) = false := decide_eq_false (by omega)
    obtain ⟨d', rfl⟩ : ∃ j, d = j + 1 := ⟨d - 1, by omega⟩
    have ed : ((d' + 1 : Nat) : Int) - 1 = (d' : Int) := by omega
    by_cases e4 : w = 4
    · subst e4
      obtain ⟨t, m2, ds2, c1, q2, dr⟩ := IH d' rfl m1 k ds1 q1
      refine ⟨.not t, m2, ds2, ?_, q2, ⟨?_, ?_, ?_, ?_⟩⟩
      · simp only [bnd_ok, bnd_ex, bnd_no, out_ok, out_ex, out_no, seq_nx, seq_rt, seq_ex, res_some, res_none, outR_rt, outR_nx, outR_ex, pureP_v, pureP_ex, see_v, ask_str, ask_int, ask_bl, ask_non, eqD_str, eqD_int, eqD_bl, eqD_non, e_var, varK_s, e_chain, chain_i, c2_lt, c2_le, c2_gt, c2_ge, c2_eqs, c2_nes, c2_eqi, c2_nei, c2_eqb, c2_neb, c2_in1, un_lens, un_lenl, un_lent, un_lenc, un_ii, un_ib, un_all, un_neg, un_n0, un_nt, un_nl, op_addi, op_subi, ix_l, ix_t, e_cst, e_op, e_cmp, e_un, e_and, e_or, e_not, e_ifx, e_tup, e_lst, e_new, e_frz, e_idx, e_slc, e_rev, e_call, e_callm, e_calln, e_make, e_attr, e_isi, e_pop0, e_lc, e_seq, e_enum, e_rng, e_nil, e_cons, e_no, e_opt, x_skip, x_seq, x_asg, x_par, x_app, x_ext, x_setI, x_ret, x_ifs, x_for, x_whl, opK_v, cmpK_v, unK_v, idxK_v, slcK_v, revK_v, optK_v, isiK_v, boolK_t, boolK_f, notK_v, ifsK_t, ifsK_f, seqK_s, seqK_l, seqK_t, enumK_l, asgK_n, frz_v, pl_nil, pl_cons, fromP_ok, fromP_ex, Option.map_some, Option.map_none, List.getElem?_cons_zero, List.getElem?_cons_succ, List.set_cons_zero, List.set_cons_succ, Bool.not_true, Bool.not_false, d0, w4, show (((4 : Nat) : Int) == 4) = true from rfl, ed, c1, tup2]
        rw [toD]
        rfl
      · rw [wf]
        exact dr.wf
      · rw [nd]
        have := dr.nd
        omega
      · rw [sz, tb]
        have := dr.sz
        omega
      · rw [words]
        exact dr.ws
    · have w4' : ((w : Int) == 4) = false := by
        rw [beq_eq_false_iff_ne]
        omega
      obtain ⟨j, j2, j3, ej⟩ : ∃ j : Nat, 2 ≤ j ∧ j ≤ 3 ∧ (2 : Int) + (if ((w : Int) == 7) = true then 1 else 0) = (j : Int) := by
        cases ((w : Int) == 7)
        · exact ⟨2, by omega, by omega, rfl⟩
        · exact ⟨3, by omega, by omega, rfl⟩
      have hlim : lim = 1000000 := rfl
      have rg : ∀ m, rngK (.v (.int (j : Int))) m = .ok ((List.range' 0 j).map fun i : Nat => .int (i : Int)) m := fun m => rngK_n j (by omega)
      obtain ⟨kk, ek⟩ : ∃ kk : Bool, idx2 (.lst [.str [111, 114], .str [97, 110, 100]]) (.int ((w : Int).fmod 2)) = some (.str (kw kk)) := by
        have : w = 5 ∨ w = 6 ∨ w = 7 := by omega
        rcases this with rfl | rfl | rfl
        · exact ⟨true, rfl⟩
        · exact ⟨false, rfl⟩
        · exact ⟨true, rfl⟩
      have m2 := op_mod (w : Int) 2 (by decide)
      have l2 : ∀ m, lstK [.v (.str [111, 114]), .v (.str [97, 110, 100])] m = .ok (.v (.lst [.str [111, 114], .str [97, 110, 100]])) m := fun m => by
        unfold lstK
        simp only [bnd_ok, bnd_ex, bnd_no, out_ok, out_ex, out_no, seq_nx, seq_rt, seq_ex, res_some, res_none, outR_rt, outR_nx, outR_ex, pureP_v, pureP_ex, see_v, ask_str, ask_int, ask_bl, ask_non, eqD_str, eqD_int, eqD_bl, eqD_non, e_var, varK_s, e_chain, chain_i, c2_lt, c2_le, c2_gt, c2_ge, c2_eqs, c2_nes, c2_eqi, c2_nei, c2_eqb, c2_neb, c2_in1, un_lens, un_lenl, un_lent, un_lenc, un_ii, un_ib, un_all, un_neg, un_n0, un_nt, un_nl, op_addi, op_subi, ix_l, ix_t, e_cst, e_op, e_cmp, e_un, e_and, e_or, e_not, e_ifx, e_tup, e_lst, e_new, e_frz, e_idx, e_slc, e_rev, e_call, e_callm, e_calln, e_make, e_attr, e_isi, e_pop0, e_lc, e_seq, e_enum, e_rng, e_nil, e_cons, e_no, e_opt, x_skip, x_seq, x_asg, x_par, x_app, x_ext, x_setI, x_ret, x_ifs, x_for, x_whl, opK_v, cmpK_v, unK_v, idxK_v, slcK_v, revK_v, optK_v, isiK_v, boolK_t, boolK_f, notK_v, ifsK_t, ifsK_f, seqK_s, seqK_l, seqK_t, enumK_l, asgK_n, frz_v, pl_nil, pl_cons, fromP_ok, fromP_ex, Option.map_some, Option.map_none, List.getElem?_cons_zero, List.getElem?_cons_succ, List.set_cons_zero, List.set_cons_succ, Bool.not_true, Bool.not_false]
        rw [if_pos (by show 2 ≤ lim; decide)]
      have st : ∀ u m ds, Has m k ds → ∃ t m' ds', lcStep (C n) [7] (.nm 7) (.cst (.bl true)) (.callm ix.l_tree (.cons (.var 0) (.cons (.var 1) (.cons (.op .sub (.var 2) (.cst (.int 1))) .nil)))) [some (.p k), some (.v (sL ws)), some (.v (.int ((d' + 1 : Nat) : Int))), some (.v (.int draw)), some (.v (.int (w : Int))), none, none, none] u m = .ok (some (toD t)) m' ∧ Has m' k ds' ∧ Drawn ws d' t := fun u m ds hm => by
        obtain ⟨t, m2, ds2, c1, q2, dr⟩ := IH d' rfl m k ds hm
        refine ⟨t, m2, ds2, ?_, q2, dr⟩
        unfold lcStep
        simp only [wipeR, bindT, bnd_ok, bnd_ex, bnd_no, out_ok, out_ex, out_no, seq_nx, seq_rt, seq_ex, res_some, res_none, outR_rt, outR_nx, outR_ex, pureP_v, pureP_ex, see_v, ask_str, ask_int, ask_bl, ask_non, eqD_str, eqD_int, eqD_bl, eqD_non, e_var, varK_s, e_chain, chain_i, c2_lt, c2_le, c2_gt, c2_ge, c2_eqs, c2_nes, c2_eqi, c2_nei, c2_eqb, c2_neb, c2_in1, un_lens, un_lenl, un_lent, un_lenc, un_ii, un_ib, un_all, un_neg, un_n0, un_nt, un_nl, op_addi, op_subi, ix_l, ix_t, e_cst, e_op, e_cmp, e_un, e_and, e_or, e_not, e_ifx, e_tup, e_lst, e_new, e_frz, e_idx, e_slc, e_rev, e_call, e_callm, e_calln, e_make, e_attr, e_isi, e_pop0, e_lc, e_seq, e_enum, e_rng, e_nil, e_cons, e_no, e_opt, x_skip, x_seq, x_asg, x_par, x_app, x_ext, x_setI, x_ret, x_ifs, x_for, x_whl, opK_v, cmpK_v, unK_v, idxK_v, slcK_v, revK_v, optK_v, isiK_v, boolK_t, boolK_f, notK_v, ifsK_t, ifsK_f, seqK_s, seqK_l, seqK_t, enumK_l, asgK_n, frz_v, pl_nil, pl_cons, fromP_ok, fromP_ex, Option.map_some, Option.map_none, List.getElem?_cons_zero, List.getElem?_cons_succ, List.set_cons_zero, List.set_cons_succ, Bool.not_true, Bool.not_false, ed, c1]
      obtain ⟨ts, m3, ds3, e3, q3, l3, p3⟩ := lcL_draw st (((List.range' 0 j).map fun i : Nat => D.int (i : Int)).map U.v) m1 ds1 q1
      refine ⟨.op kk ts, m3, ds3, ?_, q3, drawn_op p3 (by rw [l3]; simpa using j2) (by rw [l3]; simpa using j3)⟩
      simp only [bnd_ok, bnd_ex, bnd_no, out_ok, out_ex, out_no, seq_nx, seq_rt, seq_ex, res_some, res_none, outR_rt, outR_nx, outR_ex, pureP_v, pureP_ex, see_v, ask_str, ask_int, ask_bl, ask_non, eqD_str, eqD_int, eqD_bl, eqD_non, e_var, varK_s, e_chain, chain_i, c2_lt, c2_le, c2_gt, c2_ge, c2_eqs, c2_nes, c2_eqi, c2_nei, c2_eqb, c2_neb, c2_in1, un_lens, un_lenl, un_lent, un_lenc, un_ii, un_ib, un_all, un_neg, un_n0, un_nt, un_nl, op_addi, op_subi, ix_l, ix_t, e_cst, e_op, e_cmp, e_un, e_and, e_or, e_not, e_ifx, e_tup, e_lst, e_new, e_frz, e_idx, e_slc, e_rev, e_call, e_callm, e_calln, e_make, e_attr, e_isi, e_pop0, e_lc, e_seq, e_enum, e_rng, e_nil, e_cons, e_no, e_opt, x_skip, x_seq, x_asg, x_par, x_app, x_ext, x_setI, x_ret, x_ifs, x_for, x_whl, opK_v, cmpK_v, unK_v, idxK_v, slcK_v, revK_v, optK_v, isiK_v, boolK_t, boolK_f, notK_v, ifsK_t, ifsK_f, seqK_s, seqK_l, seqK_t, enumK_l, asgK_n, frz_v, pl_nil, pl_cons, fromP_ok, fromP_ex, Option.map_some, Option.map_none, List.getElem?_cons_zero, List.getElem?_cons_succ, List.set_cons_zero, List.set_cons_succ, Bool.not_true, Bool.not_false, d0, w4, w4', ej, rg, e3, l2, m2, ek, tup2]
      rw [toD, toDs_map]
theorem tree_ok (hp : HL C ix) (ws : List Tok) (hw : ∀ w ∈ ws, isWord w = true) (hl : ws.length ≤ 1000) : ∀ (d n : Nat), d + 1 ≤ n → ∀ (m : Mu) (k : Nat) (ds : List Int), Has m k ds → ∃ (t : Tr) (m' : Mu) (ds' : List Int), (C n).fm ix.l_tree [.p k, .v (sL ws), .v (.int (d : Int))] m = .ok (.v (toD t)) m' ∧ Has m' k ds' ∧ Drawn ws d t := by
  intro d
  induction d with
  | zero =>
    intro n hn m k ds hm
    obtain ⟨n, rfl⟩ : ∃ j, n = j + 1 := ⟨n - 1, by omega⟩
    exact tree_step hp ws hw hl 0 n (fun d' e => by omega) m k ds hm
  | succ d IH =>
    intro n hn m k ds hm
    obtain ⟨n, rfl⟩ : ∃ j, n = j + 1 := ⟨n - 1, by omega⟩
    exact tree_step hp ws hw hl (d + 1) n (fun d' e => by
      have : d = d' := by omega
      subst this
      exact IH n (by omega)) m k ds hm
end
end At

/-! The first of some choices: by size, then by places. -/
namespace At
open PySem
abbrev Kt := Int ⊕ List Nat
abbrev lx (a b : List Kt) : Bool := PyProof.Rows.lexLt PyProof.Rows.itemOrd a b
/-- size and places -/
def szD (c : List Nat) : D := .tup [.int (c.length : Int), nL c]
def kz (c : List Nat) : List Kt := match c with
  | [] => [.inl 0, .inl 0]
  | x :: c => .inl 1 :: .inl (x : Int) :: kz c
def ltP (c e : List Nat) : Bool := lx (.inl 1 :: .inl (c.length : Int) :: .inl 1 :: kz c) (.inl 1 :: .inl (e.length : Int) :: .inl 1 :: kz e)
theorem kz_toks : ∀ c : List Nat, PySem.W.keyToksAll (toPys (c.map fun s : Nat => .int (s : Int))) ++ [Sum.inl 0] = kz c
  | [] => rfl
  | x :: c => by
    rw [List.map_cons, toPys, kz, ← kz_toks c]
    rfl
theorem key_sz (c : List Nat) : PySem.W.keyToks (toPy (szD c)) = .inl 1 :: .inl (c.length : Int) :: .inl 1 :: kz c := by
  rw [← kz_toks]
  rfl
theorem alike_ints : ∀ c e : List Nat, PySem.W.alikeAll (toPys (c.map fun s : Nat => .int (s : Int))) (toPys (e.map fun s : Nat => .int (s : Int))) = true
  | [], _ => by rw [List.map_nil, toPys]; rfl
  | _ :: _, [] => rfl
  | x :: c, y :: e => by
    rw [List.map_cons, List.map_cons, toPys, toPys]
    show (true && PySem.W.alikeAll _ _) = true
    rw [alike_ints c e]
    rfl
theorem alike_sz (c e : List Nat) : PySem.W.alike (toPy (szD c)) (toPy (szD e)) = true := by
  show (true && (PySem.W.alikeAll (toPys (c.map fun s : Nat => .int (s : Int))) (toPys (e.map fun s : Nat => .int (s : Int))) && true)) = true
  rw [alike_ints]
  rfl
theorem nL_int (c : List Nat) : nL c = .lst ((c.map fun s : Nat => (s : Int)).map D.int) := by
  unfold nL
  rw [List.map_map]
  rfl
theorem ask_sz (c : List Nat) : askable (szD c) = true := by
  have h := ask_ints (c.map fun s : Nat => (s : Int))
  rw [← nL_int] at h
  unfold askable at h ⊢
  obtain ⟨h1, h2⟩ := Bool.and_eq_true_iff.mp h
  have h3 : deep (nL c) ≤ 1 := by
    rw [nL_int]
    have : ∀ l : List Int, deeps (l.map D.int) = 0 := fun l => by
      induction l with
      | nil => rfl
      | cons y ys ih =>
        show max 0 (deeps (ys.map D.int)) = 0
        rw [ih]
        rfl
    show deeps _ + 1 ≤ 1
    rw [this]
    exact Nat.le_refl _
  show ((true && (plain (nL c) && true)) && decide (max 0 (max (deep (nL c)) 0) + 1 ≤ 60)) = true
  rw [h1, decide_eq_true (by omega)]
  rfl
theorem c2_sz (c e : List Nat) : cmp2 .lt (szD c) (szD e) = some (ltP c e) := by
  show ltD (szD c) (szD e) = _
  unfold ltD
  rw [ask_sz, ask_sz, alike_sz]
  show some (PySem.W.dataLt (toPy (szD c)) (toPy (szD e))) = _
  unfold PySem.W.dataLt
  rw [key_sz, key_sz]
  rfl
theorem ltP_trans {a b c : List Nat} (h1 : ltP a b = true) (h2 : ltP b c = true) : ltP a c = true := PyProof.Rows.lex_trans _ _ _ h1 h2
theorem ltP_len {a b : List Nat} (h : a.length < b.length) : ltP a b = true := by
  unfold ltP lx
  rw [PyProof.Rows.lex_self, PyProof.Rows.lex_diff (fun e => by
    have := Sum.inl.inj e
    omega)]
  exact decide_eq_true (by omega)
def Lx (a b : List Nat) : Prop := lx (kz a) (kz b) = true
theorem ltP_lex {a b : List Nat} (h : a.length = b.length) (h2 : Lx a b) : ltP a b = true := by
  unfold ltP lx
  rw [PyProof.Rows.lex_self, h, PyProof.Rows.lex_self, PyProof.Rows.lex_self]
  exact h2
theorem Lx_cons {x : Nat} {a b : List Nat} (h : Lx a b) : Lx (x :: a) (x :: b) := by
  unfold Lx lx
  rw [kz, kz, PyProof.Rows.lex_self, PyProof.Rows.lex_self]
  exact h
theorem Lx_head {x y : Nat} {a b : List Nat} (h : x < y) : Lx (x :: a) (y :: b) := by
  unfold Lx lx
  rw [kz, kz, PyProof.Rows.lex_self, PyProof.Rows.lex_diff (fun e => by
    have := Sum.inl.inj e
    omega)]
  exact decide_eq_true (by omega)
/-! ### choices of places -/
def chI : Nat → Nat → Nat → List (List Nat)
  | 0, _, _ => [[]]
  | _ + 1, _, 0 => []
  | m + 1, lo, j + 1 => (chI m (lo + 1) j).map (lo :: ·) ++ chI (m + 1) (lo + 1) j
def Inc (lo hi : Nat) : List Nat → Prop
  | [] => True
  | x :: c => lo ≤ x ∧ x < hi ∧ Inc (x + 1) hi c
theorem Inc_lo {hi : Nat} : ∀ {lo lo' : Nat} {c : List Nat}, lo' ≤ lo → Inc lo hi c → Inc lo' hi c
  | _, _, [], _, _ => trivial
  | _, _, _ :: _, h, ⟨a, b, c⟩ => ⟨Nat.le_trans h a, b, c⟩
theorem mem_chI : ∀ (m lo j : Nat) (c : List Nat), c ∈ chI m lo j ↔ c.length = m ∧ Inc lo (lo + j) c
  | 0, lo, j, c => by
    rw [chI]
    cases c <;> simp [Inc]
  | m + 1, lo, 0, c => by
    rw [chI]
    cases c with
    | nil => simp
    | cons x c =>
      simp [Inc]
      intros
      omega
  | m + 1, lo, j + 1, c => by
    rw [chI, List.mem_append, mem_chI (m + 1) (lo + 1) j]
    have e : lo + 1 + j = lo + (j + 1) := by omega
    rw [e]
    constructor
    · rintro (h | ⟨h1, h2⟩)
      · obtain ⟨d, hd, rfl⟩ := List.mem_map.mp h
        rw [mem_chI m (lo + 1) j, e] at hd
        exact ⟨by simp [hd.1], Nat.le_refl _, by omega, hd.2⟩
      · exact ⟨h1, Inc_lo (by omega) h2⟩
    · rintro ⟨h1, h2⟩
      cases c with
      | nil => simp at h1
      | cons x c =>
        obtain ⟨a, b, h3⟩ := h2
        by_cases ex : x = lo
        · subst ex
          left
          refine List.mem_map.mpr ⟨c, ?_, rfl⟩
          rw [mem_chI m (x + 1) j, e]
          exact ⟨by simpa using h1, h3⟩
        · right
          exact ⟨h1, by omega, b, h3⟩
theorem pw_chI : ∀ (m lo j : Nat), (chI m lo j).Pairwise Lx
  | 0, lo, j => by rw [chI]; simp
  | m + 1, lo, 0 => by rw [chI]; simp
  | m + 1, lo, j + 1 => by
    rw [chI, List.pairwise_append]
    refine ⟨?_, pw_chI (m + 1) (lo + 1) j, ?_⟩
    · rw [List.pairwise_map]
      exact (pw_chI m (lo + 1) j).imp fun h => Lx_cons h
    · intro a ha b hb
      obtain ⟨d, _, rfl⟩ := List.mem_map.mp ha
      obtain ⟨h1, h2⟩ := (mem_chI (m + 1) (lo + 1) j b).mp hb
      cases b with
      | nil => simp at h1
      | cons y b => exact Lx_head (by have := h2.1; omega)
def allC (n : Nat) : List (List Nat) := (List.range' 0 (n + 1)).flatMap fun m => chI m 0 n
theorem pw_allC (n : Nat) : (allC n).Pairwise fun a b => ltP a b = true := by
  unfold allC
  rw [List.pairwise_flatMap]
  refine ⟨fun m _ => ?_, ?_⟩
  · refine List.Pairwise.imp_of_mem ?_ (pw_chI m 0 n)
    intro a b ha hb h
    exact ltP_lex (by rw [((mem_chI _ _ _ _).mp ha).1, ((mem_chI _ _ _ _).mp hb).1]) h
  · refine (List.pairwise_lt_range' (s := 0) (n := n + 1)).imp ?_
    intro a b hab x hx y hy
    exact ltP_len (by rw [((mem_chI _ _ _ _).mp hx).1, ((mem_chI _ _ _ _).mp hy).1]; exact hab)
theorem Inc_len {hi : Nat} : ∀ {lo : Nat} {c : List Nat}, lo ≤ hi → Inc lo hi c → c.length + lo ≤ hi
  | lo, [], h, _ => by simpa using h
  | lo, x :: c, h, ⟨a, b, q⟩ => by
    have := Inc_len (lo := x + 1) (by omega) q
    rw [List.length_cons]
    omega
theorem mem_allC (n : Nat) (c : List Nat) : c ∈ allC n ↔ Inc 0 n c := by
  unfold allC
  rw [List.mem_flatMap]
  constructor
  · rintro ⟨m, _, h⟩
    have := ((mem_chI _ _ _ _).mp h).2
    rwa [Nat.zero_add] at this
  · intro h
    refine ⟨c.length, ?_, (mem_chI _ _ _ _).mpr ⟨rfl, by rwa [Nat.zero_add]⟩⟩
    have := Inc_len (Nat.zero_le _) h
    rw [List.mem_range'_1]
    omega
def subs : Nat → List (List Nat)
  | 0 => [[]]
  | n + 1 => subs n ++ (subs n).map (· ++ [n])
theorem Inc_snoc {n : Nat} : ∀ {lo : Nat} {c : List Nat}, lo ≤ n → (Inc lo (n + 1) c ↔ Inc lo n c ∨ ∃ d, Inc lo n d ∧ c = d ++ [n])
  | lo, [], h => by simp [Inc]
  | lo, x :: c, h => by
    constructor
    · rintro ⟨a, b, q⟩
      by_cases ex : x = n
      · subst ex
        right
        have := Inc_len (lo := x + 1) (Nat.le_refl _) q
        have : c = [] := List.length_eq_zero_iff.mp (by omega)
        subst this
        exact ⟨[], trivial, rfl⟩
      · rcases (Inc_snoc (lo := x + 1) (c := c) (by omega)).mp q with q | ⟨d, q2, e⟩
        · exact .inl ⟨a, by omega, q⟩
        · exact .inr ⟨x :: d, ⟨a, by omega, q2⟩, by rw [e]; rfl⟩
    · rintro (⟨a, b, q⟩ | ⟨d, q, e⟩)
      · exact ⟨a, by omega, (Inc_snoc (lo := x + 1) (c := c) (by omega)).mpr (.inl q)⟩
      · cases d with
        | nil =>
          cases e
          exact ⟨h, by omega, trivial⟩
        | cons y d =>
          cases e
          obtain ⟨a, b, q⟩ := q
          exact ⟨a, by omega, (Inc_snoc (lo := x + 1) (by omega)).mpr (.inr ⟨d, q, rfl⟩)⟩
theorem mem_subs : ∀ (n : Nat) (c : List Nat), c ∈ subs n ↔ Inc 0 n c
  | 0, c => by
    rw [subs]
    cases c <;> simp [Inc]
  | n + 1, c => by
    rw [subs, List.mem_append, Inc_snoc (Nat.zero_le _), mem_subs n c]
    refine or_congr Iff.rfl ?_
    rw [List.mem_map]
    constructor
    · rintro ⟨d, h, rfl⟩
      exact ⟨d, (mem_subs n d).mp h, rfl⟩
    · rintro ⟨d, h, rfl⟩
      exact ⟨d, (mem_subs n d).mpr h, rfl⟩
theorem subs_len : ∀ n, (subs n).length = 2 ^ n
  | 0 => rfl
  | n + 1 => by
    rw [subs, List.length_append, List.length_map, subs_len n, Nat.pow_succ]
    omega
/-! ### the least -/
def stepM (p : List Nat → Bool) (best : Option (List Nat)) (c : List Nat) : Option (List Nat) := if p c && (match best with
  | none => true
  | some b => ltP c b) then some c else best
structure Least (p : List Nat → Bool) (xs : List (List Nat)) (b : Option (List Nat)) : Prop where
  no : b = none → ∀ c ∈ xs, p c = false
  yes : ∀ c, b = some c → c ∈ xs ∧ p c = true ∧ ∀ e ∈ xs, p e = true → ltP e c = false
theorem least_step {p : List Nat → Bool} {xs : List (List Nat)} {b : Option (List Nat)} {c : List Nat} (h : Least p xs b) : Least p (xs ++ [c]) (stepM p b c) := by
  have irr : ltP c c = false := PyProof.Rows.lex_irrefl _
  unfold stepM
  cases hp : p c with
  | false =>
    rw [Bool.false_and]
    refine ⟨fun e d hd => ?_, fun d e => ?_⟩
    · rcases List.mem_append.mp hd with hd | hd
      · exact h.no e d hd
      · simp at hd
        rw [hd]
        exact hp
    · obtain ⟨a, q, r⟩ := h.yes d e
      refine ⟨List.mem_append_left _ a, q, fun x hx hpx => ?_⟩
      rcases List.mem_append.mp hx with hx | hx
      · exact r x hx hpx
      · simp at hx
        rw [hx, hp] at hpx
        cases hpx
  | true =>
    cases b with
    | none =>
      refine ⟨fun e => (nomatch e), fun d e => ?_⟩
      cases e
      refine ⟨by simp, hp, fun x hx hpx => ?_⟩
      rcases List.mem_append.mp hx with hx | hx
      · have := h.no rfl x hx
        rw [this] at hpx
        cases hpx
      · simp at hx
        rw [hx]
        exact irr
    | some b =>
      obtain ⟨a, q, r⟩ := h.yes b rfl
      dsimp only
      rw [Bool.true_and]
      cases hl : ltP c b with
      | true =>
        refine ⟨fun e => (nomatch e), fun d e => ?_⟩
        cases e
        refine ⟨by simp, hp, fun x hx hpx => ?_⟩
        rcases List.mem_append.mp hx with hx | hx
        · cases hxc : ltP x c with
          | false => rfl
          | true =>
            have := ltP_trans hxc hl
            rw [r x hx hpx] at this
            cases this
        · simp at hx
          rw [hx]
          exact irr
      | false =>
        refine ⟨fun e => (nomatch e), fun d e => ?_⟩
        cases e
        refine ⟨List.mem_append_left _ a, q, fun x hx hpx => ?_⟩
        rcases List.mem_append.mp hx with hx | hx
        · exact r x hx hpx
        · simp at hx
          rw [hx]
          exact hl
theorem least_fold {p : List Nat → Bool} : ∀ (ys xs : List (List Nat)) (b : Option (List Nat)), Least p xs b → Least p (xs ++ ys) (ys.foldl (stepM p) b)
  | [], xs, b, h => by simpa using h
  | y :: ys, xs, b, h => by
    have := least_fold ys (xs ++ [y]) _ (least_step (c := y) h)
    simpa using this
theorem least_find {p : List Nat → Bool} : ∀ {L : List (List Nat)}, (L.Pairwise fun a b => ltP a b = true) → Least p L (L.find? p)
  | [], _ => ⟨fun _ c hc => by simp at hc, fun c e => by simp at e⟩
  | a :: L, h => by
    obtain ⟨h1, h2⟩ := List.pairwise_cons.mp h
    have ih := least_find (p := p) h2
    rw [List.find?_cons]
    cases hp : p a with
    | true =>
      refine ⟨fun e => (nomatch e), fun c e => ?_⟩
      cases e
      refine ⟨List.mem_cons_self, hp, fun x hx hpx => ?_⟩
      rcases List.mem_cons.mp hx with e | hx
      · rw [e]
        exact PyProof.Rows.lex_irrefl _
      · cases hxa : ltP x a with
        | false => rfl
        | true =>
          have := ltP_trans (h1 x hx) hxa
          have irr : ltP a a = false := PyProof.Rows.lex_irrefl _
          rw [irr] at this
          cases this
    | false =>
      refine ⟨fun e c hc => ?_, fun c e => ?_⟩
      · rcases List.mem_cons.mp hc with q | hc
        · rw [q]
          exact hp
        · exact ih.no e c hc
      · obtain ⟨q1, q2, q3⟩ := ih.yes c e
        refine ⟨List.mem_cons_of_mem _ q1, q2, fun x hx hpx => ?_⟩
        rcases List.mem_cons.mp hx with q | hx
        · rw [q, hp] at hpx
          cases hpx
        · exact q3 x hx hpx
theorem tri {L : List (List Nat)} (h : L.Pairwise fun a b => ltP a b = true) : ∀ {a b : List Nat}, a ∈ L → b ∈ L → a = b ∨ ltP a b = true ∨ ltP b a = true := by
  induction L with
  | nil => intro a b ha; simp at ha
  | cons x L ih =>
    obtain ⟨h1, h2⟩ := List.pairwise_cons.mp h
    intro a b ha hb
    rcases List.mem_cons.mp ha with e | ha
    · rcases List.mem_cons.mp hb with e' | hb
      · exact .inl (e.trans e'.symm)
      · rw [e]
        exact .inr (.inl (h1 b hb))
    · rcases List.mem_cons.mp hb with e' | hb
      · rw [e']
        exact .inr (.inr (h1 a ha))
      · exact ih h2 ha hb
theorem first_eq (p : List Nat → Bool) (n : Nat) : (subs n).foldl (stepM p) none = (allC n).find? p := by
  have h1 := least_fold (p := p) (subs n) [] none ⟨fun _ c hc => by simp at hc, fun c e => nomatch e⟩
  rw [List.nil_append] at h1
  have h2 := least_find (p := p) (pw_allC n)
  have mm : ∀ c, c ∈ subs n ↔ c ∈ allC n := fun c => (mem_subs n c).trans (mem_allC n c).symm
  cases e1 : (subs n).foldl (stepM p) none with
  | none =>
    cases e2 : (allC n).find? p with
    | none => rfl
    | some b =>
      obtain ⟨q1, q2, _⟩ := h2.yes b e2
      have := h1.no e1 b ((mm b).mpr q1)
      rw [q2] at this
      cases this
  | some a =>
    obtain ⟨a1, a2, a3⟩ := h1.yes a e1
    cases e2 : (allC n).find? p with
    | none =>
      have := h2.no e2 a ((mm a).mp a1)
      rw [a2] at this
      cases this
    | some b =>
      obtain ⟨b1, b2, b3⟩ := h2.yes b e2
      rcases tri (pw_allC n) ((mm a).mp a1) b1 with e | e | e
      · rw [e]
      · rw [b3 a ((mm a).mp a1) a2] at e
        cases e
      · rw [a3 b ((mm b).mpr b1) b2] at e
        cases e
/-! ### places and words -/
def pick (W : List Tok) (c : List Nat) : List Tok := c.map fun i => W[i]?.getD []
theorem chs_pick (W : List Tok) : ∀ (ws : List Tok) (m lo : Nat), W.drop lo = ws → chs m ws = (chI m lo ws.length).map (pick W)
  | ws, 0, lo, _ => by
    rw [chs, chI]
    rfl
  | [], m + 1, lo, _ => by
    rw [chs, List.length_nil, chI]
    rfl
  | w :: ws, m + 1, lo, h => by
    have h1 : W.drop (lo + 1) = ws := drop_add (u := [w]) h
    have hw : W[lo]? = some w := by
      have e : (W.drop lo)[0]? = some w := by rw [h]; rfl
      rw [List.getElem?_drop] at e
      simpa using e
    rw [chs, List.length_cons, chI, chs_pick W ws m (lo + 1) h1, chs_pick W ws (m + 1) (lo + 1) h1, List.map_append, List.map_map, List.map_map]
    congr 1
    refine List.map_congr_left fun c _ => ?_
    show w :: pick W c = pick W (lo :: c)
    unfold pick
    rw [List.map_cons, hw]
    rfl
theorem findSome_flat {α β γ : Type} (f : α → List β) (g : β → Option γ) : ∀ l : List α, (l.findSome? fun a => (f a).findSome? g) = (l.flatMap f).findSome? g
  | [] => rfl
  | a :: l => by
    rw [List.findSome?_cons, List.flatMap_cons, List.findSome?_append, ← findSome_flat f g l]
    cases (f a).findSome? g <;> rfl
theorem findSome_find {α β : Type} (p : α → Bool) (g : α → β) : ∀ l : List α, (l.findSome? fun a => if p a then some (g a) else none) = (l.find? p).map g
  | [] => rfl
  | a :: l => by
    rw [List.findSome?_cons, List.find?_cons]
    cases p a with
    | true => rfl
    | false => exact findSome_find p g l
def difP (a b : Tr) (c : List Nat) : Bool := !(holds (pick (twoW a b) c) a == holds (pick (twoW a b) c) b)
theorem tch_eq (a b : Tr) : tch a b = ((subs (twoW a b).length).foldl (stepM (difP a b)) none).map (pick (twoW a b)) := by
  rw [first_eq]
  unfold tch
  have e : (fun m => (chs m (twoW a b)).findSome? (diff a b)) = fun m => (chI m 0 (twoW a b).length).findSome? fun c => if difP a b c then some (pick (twoW a b) c) else none := by
    funext m
    rw [chs_pick (twoW a b) (twoW a b) m 0 rfl, List.findSome?_map]
    congr 1
    funext c
    show diff a b (pick (twoW a b) c) = _
    unfold diff difP
    cases holds (pick (twoW a b) c) a == holds (pick (twoW a b) c) b <;> rfl
  rw [e, findSome_flat, findSome_find]
  rfl
end At

/-! k03: what the law reckons. -/
namespace At.k03
open PySem
abbrev C (n : Nat) : CE := pj.C n
abbrev L : Lb.Ix := ix.toIx
theorem fa (i : Nat) (d : DF) (h : pj.df[i]? = some d) (h2 : d.op = false) : Fa C i d.fn := fun n us m => by
  show (match pj.df[i]? with
    | some d => if d.op then R.no else d.fn.run (pj.ce (pj.fm n)) us m
    | none => .no) = _
  rw [h]
  dsimp only
  rw [h2]
  rfl
theorem hl : HL C L where
  kn := ⟨fun n k hk => by
      simp only [List.mem_cons, List.not_mem_nil, or_false] at hk
      rcases hk with rfl | rfl | rfl | rfl | rfl | rfl | rfl | rfl <;> rfl, fun n k hk => by
      simp only [List.mem_cons, List.not_mem_nil, or_false] at hk
      rcases hk with rfl | rfl | rfl | rfl | rfl | rfl | rfl | rfl <;> rfl⟩
  letters := fa 0 df0 rfl rfl
  name := fa 1 df1 rfl rfl
  parts := fa 2 df2 rfl rfl
  word := fa 3 df3 rfl rfl
  signs := fa 4 df4 rfl rfl
  any := fa 5 df5 rfl rfl
  joined := fa 6 df6 rfl rfl
  single := fa 7 df7 rfl rfl
  treeof := fa 8 df8 rfl rfl
  tree := fa 9 df9 rfl rfl
  words := fa 10 df10 rfl rfl
  unlike := fa 11 df11 rfl rfl
  holds := fa 12 df12 rfl rfl
  init := fa 13 df13 rfl rfl
  eq := fa 14 df14 rfl rfl
  chosen := fa 15 df15 rfl rfl
  tchoice := fa 16 df16 rfl rfl
  choice := fa 17 df17 rfl rfl
  fof := fa 18 df18 rfl rfl
  mkF := fun n ds => rfl
  fld := fun n => rfl
  lcell := fa 19 df19 rfl rfl
  lrow := fa 20 df20 rfl rfl
  ltree := fa 21 df21 rfl rfl
  ltrue := fa 22 df22 rfl rfl
  lflat := fa 23 df23 rfl rfl
  ltext := fa 24 df24 rfl rfl
  lclose := fa 25 df25 rfl rfl
theorem bad : Bad C L 0 := fun n d => rfl
theorem f26 : Fa C 26 g26 := fa 26 df26 rfl rfl
theorem f27 : Fa C 27 g27 := fa 27 df27 rfl rfl
theorem f28 : Fa C 28 g28 := fa 28 df28 rfl rfl
theorem f30 : Fa C 30 g30 := fa 30 df30 rfl rfl
/-! ### words -/
theorem mem_addW {acc : List Tok} {w x : Tok} : x ∈ addW acc w ↔ x ∈ acc ∨ x = w := by
  unfold addW
  split
  · rename_i h
    have := List.contains_iff_mem.mp h
    constructor
    · exact .inl
    · rintro (h | rfl)
      · exact h
      · exact this
  · simp
theorem mem_fold : ∀ (ws acc : List Tok) (x : Tok), x ∈ ws.foldl addW acc ↔ x ∈ acc ∨ x ∈ ws
  | [], acc, x => by simp
  | w :: ws, acc, x => by
    rw [List.foldl_cons, mem_fold ws, mem_addW]
    simp [or_assoc]
theorem nodup_fold : ∀ (ws acc : List Tok), acc.Nodup → (ws.foldl addW acc).Nodup
  | [], acc, h => h
  | w :: ws, acc, h => by
    rw [List.foldl_cons]
    refine nodup_fold ws _ ?_
    unfold addW
    split
    · exact h
    · rename_i e
      rw [List.nodup_append]
      refine ⟨h, by simp, fun a ha b hb => ?_⟩
      simp at hb
      subst hb
      rintro rfl
      exact e (List.contains_iff_mem.mpr ha)
theorem snocI {α : Type} {P : List α → Prop} (h0 : P []) (h1 : ∀ l a, P l → P (l ++ [a])) (l : List α) : P l := by
  have : ∀ r : List α, P r.reverse := fun r => by
    induction r with
    | nil => exact h0
    | cons a r ih =>
      rw [List.reverse_cons]
      exact h1 _ _ ih
  have q := this l.reverse
  rwa [List.reverse_reverse] at q
theorem fold_filter : ∀ (ws : List Tok) (acc : List Tok), ws.foldl addW acc = acc ++ (uniq ws).filter fun w => !acc.contains w := by
  intro ws
  refine snocI (P := fun ws => ∀ acc : List Tok, ws.foldl addW acc = acc ++ (uniq ws).filter fun w => !acc.contains w) ?_ ?_ ws
  · intro acc; simp [uniq]
  · intro ws w ih acc
    unfold uniq
    rw [List.foldl_append, List.foldl_append, List.foldl_cons, List.foldl_nil, List.foldl_cons, List.foldl_nil, ih acc]
    show addW _ w = acc ++ (addW (uniq ws) w).filter _
    by_cases h1 : w ∈ uniq ws
    · have e1 : addW (uniq ws) w = uniq ws := if_pos (List.contains_iff_mem.mpr h1)
      rw [e1]
      refine if_pos (List.contains_iff_mem.mpr ?_)
      by_cases h2 : w ∈ acc
      · exact List.mem_append_left _ h2
      · refine List.mem_append_right _ (List.mem_filter.mpr ⟨h1, ?_⟩)
        simp [h2]
    · have e1 : addW (uniq ws) w = uniq ws ++ [w] := if_neg (by simpa using h1)
      rw [e1, List.filter_append]
      by_cases h2 : w ∈ acc
      · have : [w].filter (fun w => !acc.contains w) = [] := by simp [h2]
        rw [this, List.append_nil]
        exact if_pos (List.contains_iff_mem.mpr (List.mem_append_left _ h2))
      · have : [w].filter (fun w => !acc.contains w) = [w] := by simp [h2]
        rw [this, ← List.append_assoc]
        refine if_neg fun h => ?_
        rcases List.mem_append.mp (List.contains_iff_mem.mp h) with h | h
        · exact h2 h
        · exact h1 (List.mem_filter.mp h).1
theorem lcL_strs {f : U → Mu → R (Option D)} {m : Mu} {q : Tok → Bool} : ∀ {ws : List Tok}, (∀ w ∈ ws, f (.v (.str w)) m = .ok (if q w = true then some (.str w) else none) m) → lcL f ((ws.map D.str).map U.v) m = .ok ((ws.filter q).map D.str) m
  | [], _ => rfl
  | w :: ws, h => by
    rw [List.map_cons, List.map_cons, lcL, h w List.mem_cons_self]
    dsimp only
    rw [lcL_strs fun e he => h e (List.mem_cons_of_mem _ he)]
    by_cases c : q w = true
    · rw [if_pos c, List.filter_cons_of_pos c]
      rfl
    · rw [if_neg c, List.filter_cons_of_neg c]
theorem uniq_len (ws : List Tok) : (uniq ws).length ≤ ws.length := by
  have := addW_len ws []
  rw [List.length_nil, Nat.zero_add] at this
  exact this
theorem nin_cell (u : Tok) (acc : List Tok) : cmpK .nin (.v (.str u)) (.p 0) (cellS acc) = .ok (.v (.bl (!acc.contains u))) (cellS acc) := by
  unfold cmpK
  rw [see_cellS, see_v]
  dsimp only
  rw [c2_ninl]
  rfl
theorem words_of_ok : ∀ (n : Nat) (t : Tr), nd t ≤ n → sz t ≤ 10000 → (C n).fn 26 [toD t] = .ok (sL (uniq (words t))) := by
  intro n
  induction n with
  | zero =>
    intro t hn
    have := nd_ge t
    omega
  | succ n IH =>
    intro t hn hs
    rw [fn_of_fa f26 n _ rfl]
    show pureP (outR (xs (C n) g26.body [some (.v (toD t)), none, none, none] [])) = _
    unfold g26
    cases t with
    | word w =>
      simp only [bnd_ok, bnd_ex, bnd_no, out_ok, out_ex, out_no, seq_nx, seq_rt, seq_ex, res_some, res_none, outR_rt, outR_nx, outR_ex, pureP_v, pureP_ex, see_v, ask_str, ask_int, ask_bl, ask_non, eqD_str, eqD_int, eqD_bl, eqD_non, e_var, varK_s, e_chain, chain_i, c2_lt, c2_le, c2_gt, c2_ge, c2_eqs, c2_nes, c2_eqi, c2_nei, c2_eqb, c2_neb, c2_in1, un_lens, un_lenl, un_lent, un_lenc, un_ii, un_ib, un_all, un_neg, un_n0, un_nt, un_nl, op_addi, op_subi, ix_l, ix_t, e_cst, e_op, e_cmp, e_un, e_and, e_or, e_not, e_ifx, e_tup, e_lst, e_new, e_frz, e_idx, e_slc, e_rev, e_call, e_callm, e_calln, e_make, e_attr, e_isi, e_pop0, e_lc, e_seq, e_enum, e_rng, e_nil, e_cons, e_no, e_opt, x_skip, x_seq, x_asg, x_par, x_app, x_ext, x_setI, x_ret, x_ifs, x_for, x_whl, opK_v, cmpK_v, unK_v, idxK_v, slcK_v, revK_v, optK_v, isiK_v, boolK_t, boolK_f, notK_v, ifsK_t, ifsK_f, seqK_s, seqK_l, seqK_t, enumK_l, asgK_n, frz_v, pl_nil, pl_cons, fromP_ok, fromP_ex, Option.map_some, Option.map_none, List.getElem?_cons_zero, List.getElem?_cons_succ, List.set_cons_zero, List.set_cons_succ, Bool.not_true, Bool.not_false, ixT0, kk_wd, ixTw, lst1]
      rw [words]
      rfl
    | all =>
      simp only [bnd_ok, bnd_ex, bnd_no, out_ok, out_ex, out_no, seq_nx, seq_rt, seq_ex, res_some, res_none, outR_rt, outR_nx, outR_ex, pureP_v, pureP_ex, see_v, ask_str, ask_int, ask_bl, ask_non, eqD_str, eqD_int, eqD_bl, eqD_non, e_var, varK_s, e_chain, chain_i, c2_lt, c2_le, c2_gt, c2_ge, c2_eqs, c2_nes, c2_eqi, c2_nei, c2_eqb, c2_neb, c2_in1, un_lens, un_lenl, un_lent, un_lenc, un_ii, un_ib, un_all, un_neg, un_n0, un_nt, un_nl, op_addi, op_subi, ix_l, ix_t, e_cst, e_op, e_cmp, e_un, e_and, e_or, e_not, e_ifx, e_tup, e_lst, e_new, e_frz, e_idx, e_slc, e_rev, e_call, e_callm, e_calln, e_make, e_attr, e_isi, e_pop0, e_lc, e_seq, e_enum, e_rng, e_nil, e_cons, e_no, e_opt, x_skip, x_seq, x_asg, x_par, x_app, x_ext, x_setI, x_ret, x_ifs, x_for, x_whl, opK_v, cmpK_v, unK_v, idxK_v, slcK_v, revK_v, optK_v, isiK_v, boolK_t, boolK_f, notK_v, ifsK_t, ifsK_f, seqK_s, seqK_l, seqK_t, enumK_l, asgK_n, frz_v, pl_nil, pl_cons, fromP_ok, fromP_ex, Option.map_some, Option.map_none, List.getElem?_cons_zero, List.getElem?_cons_succ, List.set_cons_zero, List.set_cons_succ, Bool.not_true, Bool.not_false, ixT0, kk_wd, kk_not, nw0, tup2, c2_ino, kk_op, isOp, lst0, forL]
      rw [words]
      rfl
    | none =>
      simp only [bnd_ok, bnd_ex, bnd_no, out_ok, out_ex, out_no, seq_nx, seq_rt, seq_ex, res_some, res_none, outR_rt, outR_nx, outR_ex, pureP_v, pureP_ex, see_v, ask_str, ask_int, ask_bl, ask_non, eqD_str, eqD_int, eqD_bl, eqD_non, e_var, varK_s, e_chain, chain_i, c2_lt, c2_le, c2_gt, c2_ge, c2_eqs, c2_nes, c2_eqi, c2_nei, c2_eqb, c2_neb, c2_in1, un_lens, un_lenl, un_lent, un_lenc, un_ii, un_ib, un_all, un_neg, un_n0, un_nt, un_nl, op_addi, op_subi, ix_l, ix_t, e_cst, e_op, e_cmp, e_un, e_and, e_or, e_not, e_ifx, e_tup, e_lst, e_new, e_frz, e_idx, e_slc, e_rev, e_call, e_callm, e_calln, e_make, e_attr, e_isi, e_pop0, e_lc, e_seq, e_enum, e_rng, e_nil, e_cons, e_no, e_opt, x_skip, x_seq, x_asg, x_par, x_app, x_ext, x_setI, x_ret, x_ifs, x_for, x_whl, opK_v, cmpK_v, unK_v, idxK_v, slcK_v, revK_v, optK_v, isiK_v, boolK_t, boolK_f, notK_v, ifsK_t, ifsK_f, seqK_s, seqK_l, seqK_t, enumK_l, asgK_n, frz_v, pl_nil, pl_cons, fromP_ok, fromP_ex, Option.map_some, Option.map_none, List.getElem?_cons_zero, List.getElem?_cons_succ, List.set_cons_zero, List.set_cons_succ, Bool.not_true, Bool.not_false, ixT0, kk_wd, kk_not, nw0, tup2, c2_ino, kk_op, isOp, lst0, forL]
      rw [words]
      rfl
    | not t =>
      rw [nd] at hn
      rw [sz] at hs
      have c1 : ∀ m, callK (C n) ix.l_words_of [.v (toD t)] m = .ok (.v (sL (uniq (words t)))) m := fun m => callK_ok rfl (IH t (by omega) (by omega))
      simp only [bnd_ok, bnd_ex, bnd_no, out_ok, out_ex, out_no, seq_nx, seq_rt, seq_ex, res_some, res_none, outR_rt, outR_nx, outR_ex, pureP_v, pureP_ex, see_v, ask_str, ask_int, ask_bl, ask_non, eqD_str, eqD_int, eqD_bl, eqD_non, e_var, varK_s, e_chain, chain_i, c2_lt, c2_le, c2_gt, c2_ge, c2_eqs, c2_nes, c2_eqi, c2_nei, c2_eqb, c2_neb, c2_in1, un_lens, un_lenl, un_lent, un_lenc, un_ii, un_ib, un_all, un_neg, un_n0, un_nt, un_nl, op_addi, op_subi, ix_l, ix_t, e_cst, e_op, e_cmp, e_un, e_and, e_or, e_not, e_ifx, e_tup, e_lst, e_new, e_frz, e_idx, e_slc, e_rev, e_call, e_callm, e_calln, e_make, e_attr, e_isi, e_pop0, e_lc, e_seq, e_enum, e_rng, e_nil, e_cons, e_no, e_opt, x_skip, x_seq, x_asg, x_par, x_app, x_ext, x_setI, x_ret, x_ifs, x_for, x_whl, opK_v, cmpK_v, unK_v, idxK_v, slcK_v, revK_v, optK_v, isiK_v, boolK_t, boolK_f, notK_v, ifsK_t, ifsK_f, seqK_s, seqK_l, seqK_t, enumK_l, asgK_n, frz_v, pl_nil, pl_cons, fromP_ok, fromP_ex, Option.map_some, Option.map_none, List.getElem?_cons_zero, List.getElem?_cons_succ, List.set_cons_zero, List.set_cons_succ, Bool.not_true, Bool.not_false, ixT0, kk_wd, kk_not, ixTn, c1]
      rw [words]
    | op k ts =>
      rw [nd] at hn
      rw [sz] at hs
      simp only [bnd_ok, bnd_ex, bnd_no, out_ok, out_ex, out_no, seq_nx, seq_rt, seq_ex, res_some, res_none, outR_rt, outR_nx, outR_ex, pureP_v, pureP_ex, see_v, ask_str, ask_int, ask_bl, ask_non, eqD_str, eqD_int, eqD_bl, eqD_non, e_var, varK_s, e_chain, chain_i, c2_lt, c2_le, c2_gt, c2_ge, c2_eqs, c2_nes, c2_eqi, c2_nei, c2_eqb, c2_neb, c2_in1, un_lens, un_lenl, un_lent, un_lenc, un_ii, un_ib, un_all, un_neg, un_n0, un_nt, un_nl, op_addi, op_subi, ix_l, ix_t, e_cst, e_op, e_cmp, e_un, e_and, e_or, e_not, e_ifx, e_tup, e_lst, e_new, e_frz, e_idx, e_slc, e_rev, e_call, e_callm, e_calln, e_make, e_attr, e_isi, e_pop0, e_lc, e_seq, e_enum, e_rng, e_nil, e_cons, e_no, e_opt, x_skip, x_seq, x_asg, x_par, x_app, x_ext, x_setI, x_ret, x_ifs, x_for, x_whl, opK_v, cmpK_v, unK_v, idxK_v, slcK_v, revK_v, optK_v, isiK_v, boolK_t, boolK_f, notK_v, ifsK_t, ifsK_f, seqK_s, seqK_l, seqK_t, enumK_l, asgK_n, frz_v, pl_nil, pl_cons, fromP_ok, fromP_ex, Option.map_some, Option.map_none, List.getElem?_cons_zero, List.getElem?_cons_succ, List.set_cons_zero, List.set_cons_succ, Bool.not_true, Bool.not_false, ixT0, kk_wd, kk_not, nw0, tup2, c2_ino, kk_op, isOp, ixT1]
      have key : ∀ (us : List Tr) (acc : List Tok) (o : Option U), (∀ t ∈ us, t ∈ ts) → acc.length + (wordsL us).length ≤ 100000 → ∃ o', forL (forK (C n) (.nm 2) (.ext (.var 1) (.lc [3] (.nm 3) (.seq (.call ix.l_words_of (.cons (.var 2) .nil))) (.cmp .nin (.var 3) (.var 1)) (.var 3)))) (us.map toD) [some (.v (toD (.op k ts))), some (.p 0), o, none] (cellS acc) = .nx [some (.v (toD (.op k ts))), some (.p 0), o', none] (cellS ((wordsL us).foldl addW acc)) := by
        intro us
        induction us with
        | nil =>
          intro acc o _ _
          refine ⟨o, ?_⟩
          rw [wordsL]
          simp [forL]
        | cons u us ih =>
          intro acc o hm hl
          rw [wordsL, List.length_append] at hl
          have hlim : lim = 1000000 := rfl
          have hu := hm u List.mem_cons_self
          have c1 : ∀ m, callK (C n) ix.l_words_of [.v (toD u)] m = .ok (.v (.lst ((uniq (words u)).map D.str))) m := fun m => callK_ok rfl (IH u (by have := nds_mem hu; omega) (by have := szs_mem hu; omega))
          have al := addW_len (words u) acc
          have fl := uniq_len (words u)
          have gl := List.length_filter_le (fun w => !acc.contains w) (uniq (words u))
          obtain ⟨o', hi⟩ := ih ((words u).foldl addW acc) (some (.v (toD u))) (fun t ht => hm t (List.mem_cons_of_mem _ ht)) (by omega)
          refine ⟨o', ?_⟩
          rw [List.map_cons, forL]
          have st : forK (C n) (.nm 2) (.ext (.var 1) (.lc [3] (.nm 3) (.seq (.call ix.l_words_of (.cons (.var 2) .nil))) (.cmp .nin (.var 3) (.var 1)) (.var 3))) (toD u) [some (.v (toD (.op k ts))), some (.p 0), o, none] (cellS acc) = .nx [some (.v (toD (.op k ts))), some (.p 0), some (.v (toD u)), none] (cellS ((words u).foldl addW acc)) := by
            unfold forK
            simp only [bindT, bnd_ok, bnd_ex, bnd_no, out_ok, out_ex, out_no, seq_nx, seq_rt, seq_ex, res_some, res_none, outR_rt, outR_nx, outR_ex, pureP_v, pureP_ex, see_v, ask_str, ask_int, ask_bl, ask_non, eqD_str, eqD_int, eqD_bl, eqD_non, e_var, varK_s, e_chain, chain_i, c2_lt, c2_le, c2_gt, c2_ge, c2_eqs, c2_nes, c2_eqi, c2_nei, c2_eqb, c2_neb, c2_in1, un_lens, un_lenl, un_lent, un_lenc, un_ii, un_ib, un_all, un_neg, un_n0, un_nt, un_nl, op_addi, op_subi, ix_l, ix_t, e_cst, e_op, e_cmp, e_un, e_and, e_or, e_not, e_ifx, e_tup, e_lst, e_new, e_frz, e_idx, e_slc, e_rev, e_call, e_callm, e_calln, e_make, e_attr, e_isi, e_pop0, e_lc, e_seq, e_enum, e_rng, e_nil, e_cons, e_no, e_opt, x_skip, x_seq, x_asg, x_par, x_app, x_ext, x_setI, x_ret, x_ifs, x_for, x_whl, opK_v, cmpK_v, unK_v, idxK_v, slcK_v, revK_v, optK_v, isiK_v, boolK_t, boolK_f, notK_v, ifsK_t, ifsK_f, seqK_s, seqK_l, seqK_t, enumK_l, asgK_n, frz_v, pl_nil, pl_cons, fromP_ok, fromP_ex, Option.map_some, Option.map_none, List.getElem?_cons_zero, List.getElem?_cons_succ, List.set_cons_zero, List.set_cons_succ, Bool.not_true, Bool.not_false, lstAt_cellS, c1]
            rw [lcL_strs (q := fun w => !acc.contains w) fun w _ => ?_]
            · simp only [bnd_ok, bnd_ex, bnd_no, out_ok, out_ex, out_no, seq_nx, seq_rt, seq_ex, res_some, res_none, outR_rt, outR_nx, outR_ex, pureP_v, pureP_ex, see_v, ask_str, ask_int, ask_bl, ask_non, eqD_str, eqD_int, eqD_bl, eqD_non, e_var, varK_s, e_chain, chain_i, c2_lt, c2_le, c2_gt, c2_ge, c2_eqs, c2_nes, c2_eqi, c2_nei, c2_eqb, c2_neb, c2_in1, un_lens, un_lenl, un_lent, un_lenc, un_ii, un_ib, un_all, un_neg, un_n0, un_nt, un_nl, op_addi, op_subi, ix_l, ix_t, e_cst, e_op, e_cmp, e_un, e_and, e_or, e_not, e_ifx, e_tup, e_lst, e_new, e_frz, e_idx, e_slc, e_rev, e_call, e_callm, e_calln, e_make, e_attr, e_isi, e_pop0, e_lc, e_seq, e_enum, e_rng, e_nil, e_cons, e_no, e_opt, x_skip, x_seq, x_asg, x_par, x_app, x_ext, x_setI, x_ret, x_ifs, x_for, x_whl, opK_v, cmpK_v, unK_v, idxK_v, slcK_v, revK_v, optK_v, isiK_v, boolK_t, boolK_f, notK_v, ifsK_t, ifsK_f, seqK_s, seqK_l, seqK_t, enumK_l, asgK_n, frz_v, pl_nil, pl_cons, fromP_ok, fromP_ex, Option.map_some, Option.map_none, List.getElem?_cons_zero, List.getElem?_cons_succ, List.set_cons_zero, List.set_cons_succ, Bool.not_true, Bool.not_false]
              rw [ext_cellS _ _ (by omega), fold_filter (words u) acc]
            · unfold lcStep
              simp only [wipeR, bindT, bnd_ok, bnd_ex, bnd_no, out_ok, out_ex, out_no, seq_nx, seq_rt, seq_ex, res_some, res_none, outR_rt, outR_nx, outR_ex, pureP_v, pureP_ex, see_v, ask_str, ask_int, ask_bl, ask_non, eqD_str, eqD_int, eqD_bl, eqD_non, e_var, varK_s, e_chain, chain_i, c2_lt, c2_le, c2_gt, c2_ge, c2_eqs, c2_nes, c2_eqi, c2_nei, c2_eqb, c2_neb, c2_in1, un_lens, un_lenl, un_lent, un_lenc, un_ii, un_ib, un_all, un_neg, un_n0, un_nt, un_nl, op_addi, op_subi, ix_l, ix_t, e_cst, e_op, e_cmp, e_un, e_and, e_or, e_not, e_ifx, e_tup, e_lst, e_new, e_frz, e_idx, e_slc, e_rev, e_call, e_callm, e_calln, e_make, e_attr, e_isi, e_pop0, e_lc, e_seq, e_enum, e_rng, e_nil, e_cons, e_no, e_opt, x_skip, x_seq, x_asg, x_par, x_app, x_ext, x_setI, x_ret, x_ifs, x_for, x_whl, opK_v, cmpK_v, unK_v, idxK_v, slcK_v, revK_v, optK_v, isiK_v, boolK_t, boolK_f, notK_v, ifsK_t, ifsK_f, seqK_s, seqK_l, seqK_t, enumK_l, asgK_n, frz_v, pl_nil, pl_cons, fromP_ok, fromP_ex, Option.map_some, Option.map_none, List.getElem?_cons_zero, List.getElem?_cons_succ, List.set_cons_zero, List.set_cons_succ, Bool.not_true, Bool.not_false, nin_cell]
              cases acc.contains w <;> rfl
          rw [st]
          dsimp only
          rw [hi, wordsL, List.foldl_append]
      have wl := wordsL_len ts
      obtain ⟨o', h⟩ := key ts [] none (fun t ht => ht) (by simp; omega)
      rw [h]
      simp only [bnd_ok, bnd_ex, bnd_no, out_ok, out_ex, out_no, seq_nx, seq_rt, seq_ex, res_some, res_none, outR_rt, outR_nx, outR_ex, pureP_v, pureP_ex, see_v, ask_str, ask_int, ask_bl, ask_non, eqD_str, eqD_int, eqD_bl, eqD_non, e_var, varK_s, e_chain, chain_i, c2_lt, c2_le, c2_gt, c2_ge, c2_eqs, c2_nes, c2_eqi, c2_nei, c2_eqb, c2_neb, c2_in1, un_lens, un_lenl, un_lent, un_lenc, un_ii, un_ib, un_all, un_neg, un_n0, un_nt, un_nl, op_addi, op_subi, ix_l, ix_t, e_cst, e_op, e_cmp, e_un, e_and, e_or, e_not, e_ifx, e_tup, e_lst, e_new, e_frz, e_idx, e_slc, e_rev, e_call, e_callm, e_calln, e_make, e_attr, e_isi, e_pop0, e_lc, e_seq, e_enum, e_rng, e_nil, e_cons, e_no, e_opt, x_skip, x_seq, x_asg, x_par, x_app, x_ext, x_setI, x_ret, x_ifs, x_for, x_whl, opK_v, cmpK_v, unK_v, idxK_v, slcK_v, revK_v, optK_v, isiK_v, boolK_t, boolK_f, notK_v, ifsK_t, ifsK_f, seqK_s, seqK_l, seqK_t, enumK_l, asgK_n, frz_v, pl_nil, pl_cons, fromP_ok, fromP_ex, Option.map_some, Option.map_none, List.getElem?_cons_zero, List.getElem?_cons_succ, List.set_cons_zero, List.set_cons_succ, Bool.not_true, Bool.not_false]
      rw [pureP_ok (see_cellS _), words]
      rfl
/-! ### another way of writing -/
mutual
def trn : Tr → Tr
  | .word w => .word w
  | .all => .all
  | .none => .none
  | .not t => .not t
  | .op k ts => .not (.op (!k) (trnL ts).reverse)
def trnL : List Tr → List Tr
  | [] => []
  | t :: ts => .not (trn t) :: trnL ts
end
theorem trnL_map : ∀ ts : List Tr, trnL ts = ts.map fun t => .not (trn t)
  | [] => by rw [trnL]; rfl
  | t :: ts => by rw [trnL, trnL_map ts]; rfl
def extra : Tok := [101, 120, 116, 114, 97]
def turn (way : Nat) (t : Tr) : Tr := match way with
  | 0 => .not (.not t)
  | 1 => .op false [t, .none, .op true [t, .word extra]]
  | _ => trn t
theorem szs_rev (ts : List Tr) : szs ts.reverse = szs ts := by
  induction ts with
  | nil => rfl
  | cons t ts ih =>
    rw [List.reverse_cons, szs_app, ih, szs, szs, szs]
    omega
mutual
theorem trn_sz : ∀ t : Tr, sz (trn t) + 1 ≤ 4 * sz t
  | .word w => by rw [trn, sz]; omega
  | .all => by rw [trn, sz]; omega
  | .none => by rw [trn, sz]; omega
  | .not t => by
    rw [trn, sz]
    have := sz_pos t
    omega
  | .op k ts => by
    rw [trn, sz, sz, sz, szs_rev]
    have := trnL_sz ts
    omega
theorem trnL_sz : ∀ ts : List Tr, szs (trnL ts) ≤ 4 * szs ts
  | [] => by rw [trnL]; exact Nat.zero_le _
  | t :: ts => by
    rw [trnL, szs, szs, sz]
    have := trn_sz t
    have := trnL_sz ts
    omega
end
mutual
theorem trn_nd : ∀ t : Tr, nd (trn t) ≤ 2 * nd t
  | .word w => by rw [trn]; omega
  | .all => by rw [trn]; omega
  | .none => by rw [trn]; omega
  | .not t => by rw [trn]; omega
  | .op k ts => by
    rw [trn, nd, nd, nd]
    have n4 := nds_ge ts
    have := nds_le (ts := (trnL ts).reverse) (b := 2 * nd.nds ts + 2) (by omega) fun u hu => trnL_nd ts u (List.mem_reverse.mp hu)
    omega
theorem trnL_nd : ∀ ts : List Tr, ∀ u ∈ trnL ts, nd u ≤ 2 * nd.nds ts + 2
  | [] => by rw [trnL]; intro u hu; simp at hu
  | t :: ts => by
    rw [trnL, nd.nds]
    intro u hu
    rcases List.mem_cons.mp hu with e | hu
    · rw [e, nd]
      have := trn_nd t
      omega
    · have := trnL_nd ts u hu
      omega
end
mutual
theorem trn_wf : ∀ t : Tr, wf t = true → wf (trn t) = true
  | .word w, h => by rw [trn]; exact h
  | .all, h => by rw [trn]; exact h
  | .none, h => by rw [trn]; exact h
  | .not t, h => by rw [trn]; exact h
  | .op k ts, h => by
    rw [wf] at h
    simp at h
    rw [trn, wf, wf, Bool.and_eq_true_iff]
    refine ⟨decide_eq_true ?_, wfL_mem.mpr fun u hu => trnL_wf ts h.2 u (List.mem_reverse.mp hu)⟩
    rw [List.length_reverse, trnL_map, List.length_map]
    exact h.1
theorem trnL_wf : ∀ ts : List Tr, wfL ts = true → ∀ u ∈ trnL ts, wf u = true
  | [], _ => by rw [trnL]; intro u hu; simp at hu
  | t :: ts, h => by
    rw [wfL] at h
    simp at h
    rw [trnL]
    intro u hu
    rcases List.mem_cons.mp hu with e | hu
    · rw [e, wf]
      exact trn_wf t h.1
    · exact trnL_wf ts h.2 u hu
end
mutual
theorem trn_words : ∀ t : Tr, ∀ w ∈ words (trn t), w ∈ words t
  | .word w => by rw [trn]; exact fun _ h => h
  | .all => by rw [trn]; exact fun _ h => h
  | .none => by rw [trn]; exact fun _ h => h
  | .not t => by rw [trn]; exact fun _ h => h
  | .op k ts => by
    rw [trn, words, words, words, wordsL_flat, wordsL_flat]
    intro w hw
    obtain ⟨u, hu, hw⟩ := List.mem_flatMap.mp hw
    exact List.mem_flatMap.mpr (trnL_words ts u (List.mem_reverse.mp hu) w hw)
theorem trnL_words : ∀ ts : List Tr, ∀ u ∈ trnL ts, ∀ w ∈ words u, ∃ t ∈ ts, w ∈ words t
  | [] => by rw [trnL]; intro u hu; simp at hu
  | t :: ts => by
    rw [trnL]
    intro u hu w hw
    rcases List.mem_cons.mp hu with e | hu
    · rw [e, words] at hw
      exact ⟨t, List.mem_cons_self, trn_words t w hw⟩
    · obtain ⟨x, hx, hw⟩ := trnL_words ts u hu w hw
      exact ⟨x, List.mem_cons_of_mem _ hx, hw⟩
end
theorem lst2 {m : Mu} (d e : D) : lstK [.v d, .v e] m = .ok (.v (.lst [d, e])) m := by
  unfold lstK
  simp only [bnd_ok, bnd_ex, bnd_no, out_ok, out_ex, out_no, seq_nx, seq_rt, seq_ex, res_some, res_none, outR_rt, outR_nx, outR_ex, pureP_v, pureP_ex, see_v, ask_str, ask_int, ask_bl, ask_non, eqD_str, eqD_int, eqD_bl, eqD_non, e_var, varK_s, e_chain, chain_i, c2_lt, c2_le, c2_gt, c2_ge, c2_eqs, c2_nes, c2_eqi, c2_nei, c2_eqb, c2_neb, c2_in1, un_lens, un_lenl, un_lent, un_lenc, un_ii, un_ib, un_all, un_neg, un_n0, un_nt, un_nl, op_addi, op_subi, ix_l, ix_t, e_cst, e_op, e_cmp, e_un, e_and, e_or, e_not, e_ifx, e_tup, e_lst, e_new, e_frz, e_idx, e_slc, e_rev, e_call, e_callm, e_calln, e_make, e_attr, e_isi, e_pop0, e_lc, e_seq, e_enum, e_rng, e_nil, e_cons, e_no, e_opt, x_skip, x_seq, x_asg, x_par, x_app, x_ext, x_setI, x_ret, x_ifs, x_for, x_whl, opK_v, cmpK_v, unK_v, idxK_v, slcK_v, revK_v, optK_v, isiK_v, boolK_t, boolK_f, notK_v, ifsK_t, ifsK_f, seqK_s, seqK_l, seqK_t, enumK_l, asgK_n, frz_v, pl_nil, pl_cons, fromP_ok, fromP_ex, Option.map_some, Option.map_none, List.getElem?_cons_zero, List.getElem?_cons_succ, List.set_cons_zero, List.set_cons_succ, Bool.not_true, Bool.not_false]
  rw [if_pos (by show 2 ≤ lim; decide)]
theorem lst3 {m : Mu} (d e f : D) : lstK [.v d, .v e, .v f] m = .ok (.v (.lst [d, e, f])) m := by
  unfold lstK
  simp only [bnd_ok, bnd_ex, bnd_no, out_ok, out_ex, out_no, seq_nx, seq_rt, seq_ex, res_some, res_none, outR_rt, outR_nx, outR_ex, pureP_v, pureP_ex, see_v, ask_str, ask_int, ask_bl, ask_non, eqD_str, eqD_int, eqD_bl, eqD_non, e_var, varK_s, e_chain, chain_i, c2_lt, c2_le, c2_gt, c2_ge, c2_eqs, c2_nes, c2_eqi, c2_nei, c2_eqb, c2_neb, c2_in1, un_lens, un_lenl, un_lent, un_lenc, un_ii, un_ib, un_all, un_neg, un_n0, un_nt, un_nl, op_addi, op_subi, ix_l, ix_t, e_cst, e_op, e_cmp, e_un, e_and, e_or, e_not, e_ifx, e_tup, e_lst, e_new, e_frz, e_idx, e_slc, e_rev, e_call, e_callm, e_calln, e_make, e_attr, e_isi, e_pop0, e_lc, e_seq, e_enum, e_rng, e_nil, e_cons, e_no, e_opt, x_skip, x_seq, x_asg, x_par, x_app, x_ext, x_setI, x_ret, x_ifs, x_for, x_whl, opK_v, cmpK_v, unK_v, idxK_v, slcK_v, revK_v, optK_v, isiK_v, boolK_t, boolK_f, notK_v, ifsK_t, ifsK_f, seqK_s, seqK_l, seqK_t, enumK_l, asgK_n, frz_v, pl_nil, pl_cons, fromP_ok, fromP_ex, Option.map_some, Option.map_none, List.getElem?_cons_zero, List.getElem?_cons_succ, List.set_cons_zero, List.set_cons_succ, Bool.not_true, Bool.not_false]
  rw [if_pos (by show 3 ≤ lim; decide)]
theorem turn0_ok (n : Nat) (t : Tr) : (C (n + 1)).fn 27 [toD t, .int 0] = .ok (toD (turn 0 t)) := by
  rw [fn_of_fa f27 n _ rfl]
  show pureP (outR (xs (C n) g27.body [some (.v (toD t)), some (.v (.int 0)), none, none] [])) = _
  unfold g27
  simp only [bnd_ok, bnd_ex, bnd_no, out_ok, out_ex, out_no, seq_nx, seq_rt, seq_ex, res_some, res_none, outR_rt, outR_nx, outR_ex, pureP_v, pureP_ex, see_v, ask_str, ask_int, ask_bl, ask_non, eqD_str, eqD_int, eqD_bl, eqD_non, e_var, varK_s, e_chain, chain_i, c2_lt, c2_le, c2_gt, c2_ge, c2_eqs, c2_nes, c2_eqi, c2_nei, c2_eqb, c2_neb, c2_in1, un_lens, un_lenl, un_lent, un_lenc, un_ii, un_ib, un_all, un_neg, un_n0, un_nt, un_nl, op_addi, op_subi, ix_l, ix_t, e_cst, e_op, e_cmp, e_un, e_and, e_or, e_not, e_ifx, e_tup, e_lst, e_new, e_frz, e_idx, e_slc, e_rev, e_call, e_callm, e_calln, e_make, e_attr, e_isi, e_pop0, e_lc, e_seq, e_enum, e_rng, e_nil, e_cons, e_no, e_opt, x_skip, x_seq, x_asg, x_par, x_app, x_ext, x_setI, x_ret, x_ifs, x_for, x_whl, opK_v, cmpK_v, unK_v, idxK_v, slcK_v, revK_v, optK_v, isiK_v, boolK_t, boolK_f, notK_v, ifsK_t, ifsK_f, seqK_s, seqK_l, seqK_t, enumK_l, asgK_n, frz_v, pl_nil, pl_cons, fromP_ok, fromP_ex, Option.map_some, Option.map_none, List.getElem?_cons_zero, List.getElem?_cons_succ, List.set_cons_zero, List.set_cons_succ, Bool.not_true, Bool.not_false, show ((0 : Int) == 0) = true from rfl, tup2]
  have e : toD (turn 0 t) = .tup [.str wNot, .tup [.str wNot, toD t]] := by
    show toD (.not (.not t)) = _
    rw [toD, toD]
  rw [e]
  rfl
theorem turn1_ok (n : Nat) (t : Tr) : (C (n + 1)).fn 27 [toD t, .int 1] = .ok (toD (turn 1 t)) := by
  rw [fn_of_fa f27 n _ rfl]
  show pureP (outR (xs (C n) g27.body [some (.v (toD t)), some (.v (.int 1)), none, none] [])) = _
  unfold g27
  simp only [bnd_ok, bnd_ex, bnd_no, out_ok, out_ex, out_no, seq_nx, seq_rt, seq_ex, res_some, res_none, outR_rt, outR_nx, outR_ex, pureP_v, pureP_ex, see_v, ask_str, ask_int, ask_bl, ask_non, eqD_str, eqD_int, eqD_bl, eqD_non, e_var, varK_s, e_chain, chain_i, c2_lt, c2_le, c2_gt, c2_ge, c2_eqs, c2_nes, c2_eqi, c2_nei, c2_eqb, c2_neb, c2_in1, un_lens, un_lenl, un_lent, un_lenc, un_ii, un_ib, un_all, un_neg, un_n0, un_nt, un_nl, op_addi, op_subi, ix_l, ix_t, e_cst, e_op, e_cmp, e_un, e_and, e_or, e_not, e_ifx, e_tup, e_lst, e_new, e_frz, e_idx, e_slc, e_rev, e_call, e_callm, e_calln, e_make, e_attr, e_isi, e_pop0, e_lc, e_seq, e_enum, e_rng, e_nil, e_cons, e_no, e_opt, x_skip, x_seq, x_asg, x_par, x_app, x_ext, x_setI, x_ret, x_ifs, x_for, x_whl, opK_v, cmpK_v, unK_v, idxK_v, slcK_v, revK_v, optK_v, isiK_v, boolK_t, boolK_f, notK_v, ifsK_t, ifsK_f, seqK_s, seqK_l, seqK_t, enumK_l, asgK_n, frz_v, pl_nil, pl_cons, fromP_ok, fromP_ex, Option.map_some, Option.map_none, List.getElem?_cons_zero, List.getElem?_cons_succ, List.set_cons_zero, List.set_cons_succ, Bool.not_true, Bool.not_false, show ((1 : Int) == 0) = false from rfl, show ((1 : Int) == 1) = true from rfl, tup2, tup1, lst2, lst3]
  have e : toD (turn 1 t) = .tup [.str (kw false), .lst [toD t, .tup [.str wNone], .tup [.str (kw true), .lst [toD t, .tup [.str wWord, .str extra]]]]] := by
    show toD (.op false [t, .none, .op true [t, .word extra]]) = _
    have e1 : toD (.word extra) = .tup [.str wWord, .str extra] := by rw [toD]
    have e2 : toD .none = .tup [.str wNone] := by rw [toD]
    have e3 : toD (.op true [t, .word extra]) = .tup [.str (kw true), .lst [toD t, .tup [.str wWord, .str extra]]] := by
      rw [toD, toDs_map, List.map_cons, List.map_cons, List.map_nil, e1]
    rw [toD, toDs_map, List.map_cons, List.map_cons, List.map_cons, List.map_nil, e2, e3]
  rw [e]
  rfl
theorem turn2_ok : ∀ (n : Nat) (t : Tr), nd t ≤ n → (C n).fn 27 [toD t, .int 2] = .ok (toD (turn 2 t)) := by
  intro n
  induction n with
  | zero =>
    intro t hn
    have := nd_ge t
    omega
  | succ n IH =>
    intro t hn
    rw [fn_of_fa f27 n _ rfl]
    show pureP (outR (xs (C n) g27.body [some (.v (toD t)), some (.v (.int 2)), none, none] [])) = .ok (toD (trn t))
    unfold g27
    simp only [bnd_ok, bnd_ex, bnd_no, out_ok, out_ex, out_no, seq_nx, seq_rt, seq_ex, res_some, res_none, outR_rt, outR_nx, outR_ex, pureP_v, pureP_ex, see_v, ask_str, ask_int, ask_bl, ask_non, eqD_str, eqD_int, eqD_bl, eqD_non, e_var, varK_s, e_chain, chain_i, c2_lt, c2_le, c2_gt, c2_ge, c2_eqs, c2_nes, c2_eqi, c2_nei, c2_eqb, c2_neb, c2_in1, un_lens, un_lenl, un_lent, un_lenc, un_ii, un_ib, un_all, un_neg, un_n0, un_nt, un_nl, op_addi, op_subi, ix_l, ix_t, e_cst, e_op, e_cmp, e_un, e_and, e_or, e_not, e_ifx, e_tup, e_lst, e_new, e_frz, e_idx, e_slc, e_rev, e_call, e_callm, e_calln, e_make, e_attr, e_isi, e_pop0, e_seq, e_enum, e_rng, e_nil, e_cons, e_no, e_opt, x_skip, x_seq, x_asg, x_par, x_app, x_ext, x_setI, x_ret, x_ifs, x_for, x_whl, opK_v, cmpK_v, unK_v, idxK_v, slcK_v, revK_v, optK_v, isiK_v, boolK_t, boolK_f, notK_v, ifsK_t, ifsK_f, seqK_s, seqK_l, seqK_t, enumK_l, asgK_n, frz_v, pl_nil, pl_cons, fromP_ok, fromP_ex, Option.map_some, Option.map_none, List.getElem?_cons_zero, List.getElem?_cons_succ, List.set_cons_zero, List.set_cons_succ, Bool.not_true, Bool.not_false, show ((2 : Int) == 0) = false from rfl, show ((2 : Int) == 1) = false from rfl, ixT0, tup2, c2_ino, kk_op]
    cases t with
    | op k ts =>
      rw [nd] at hn
      have e2 : (kind (.op k ts) == [97, 110, 100]) = k := by cases k <;> rfl
      have bk : ∀ m, boolK (fun m => R.ok (U.v (D.str [111, 114])) m) (fun m => R.ok (U.v (D.str [97, 110, 100])) m) (.v (.bl k)) m = .ok (.v (.str (kw !k))) m := fun m => by cases k <;> rfl
      have c1 : ∀ p ∈ ts, ∀ m, callK (C n) ix.l_turned [.v (toD p), .v (.int 2)] m = .ok (.v (toD (trn p))) m := fun p hp m => callK_ok rfl (IH p (by have := nds_mem hp; omega))
      have rv : revD (.lst (ts.map toD)) = some (.lst (ts.reverse.map toD)) := by
        show some (D.lst (ts.map toD).reverse) = _
        rw [List.map_reverse]
      have jl : ∀ m, ev (C n) (.lc [3] (.nm 3) (.seq (.rev (.idx (.var 0) (.cst (.int 1))))) (.cst (.bl true)) (.tup (.cons (.cst (.str [110, 111, 116])) (.cons (.call ix.l_turned (.cons (.var 3) (.cons (.var 1) .nil))) .nil)))) [some (.v (toD (.op k ts))), some (.v (.int 2)), some (.v (.str (kw !k))), none] m = .ok (.v (.lst ((trnL ts).reverse.map toD))) m := fun m => by
        simp only [bnd_ok, bnd_ex, bnd_no, out_ok, out_ex, out_no, seq_nx, seq_rt, seq_ex, res_some, res_none, outR_rt, outR_nx, outR_ex, pureP_v, pureP_ex, see_v, ask_str, ask_int, ask_bl, ask_non, eqD_str, eqD_int, eqD_bl, eqD_non, e_var, varK_s, e_chain, chain_i, c2_lt, c2_le, c2_gt, c2_ge, c2_eqs, c2_nes, c2_eqi, c2_nei, c2_eqb, c2_neb, c2_in1, un_lens, un_lenl, un_lent, un_lenc, un_ii, un_ib, un_all, un_neg, un_n0, un_nt, un_nl, op_addi, op_subi, ix_l, ix_t, e_cst, e_op, e_cmp, e_un, e_and, e_or, e_not, e_ifx, e_tup, e_lst, e_new, e_frz, e_idx, e_slc, e_rev, e_call, e_callm, e_calln, e_make, e_attr, e_isi, e_pop0, e_lc, e_seq, e_enum, e_rng, e_nil, e_cons, e_no, e_opt, x_skip, x_seq, x_asg, x_par, x_app, x_ext, x_setI, x_ret, x_ifs, x_for, x_whl, opK_v, cmpK_v, unK_v, idxK_v, slcK_v, revK_v, optK_v, isiK_v, boolK_t, boolK_f, notK_v, ifsK_t, ifsK_f, seqK_s, seqK_l, seqK_t, enumK_l, asgK_n, frz_v, pl_nil, pl_cons, fromP_ok, fromP_ex, Option.map_some, Option.map_none, List.getElem?_cons_zero, List.getElem?_cons_succ, List.set_cons_zero, List.set_cons_succ, Bool.not_true, Bool.not_false, ixT1, rv]
        rw [lcL_tr (g := fun p => toD (.not (trn p))) fun p hp => ?_]
        · simp only [bnd_ok, bnd_ex, bnd_no, out_ok, out_ex, out_no, seq_nx, seq_rt, seq_ex, res_some, res_none, outR_rt, outR_nx, outR_ex, pureP_v, pureP_ex, see_v, ask_str, ask_int, ask_bl, ask_non, eqD_str, eqD_int, eqD_bl, eqD_non, e_var, varK_s, e_chain, chain_i, c2_lt, c2_le, c2_gt, c2_ge, c2_eqs, c2_nes, c2_eqi, c2_nei, c2_eqb, c2_neb, c2_in1, un_lens, un_lenl, un_lent, un_lenc, un_ii, un_ib, un_all, un_neg, un_n0, un_nt, un_nl, op_addi, op_subi, ix_l, ix_t, e_cst, e_op, e_cmp, e_un, e_and, e_or, e_not, e_ifx, e_tup, e_lst, e_new, e_frz, e_idx, e_slc, e_rev, e_call, e_callm, e_calln, e_make, e_attr, e_isi, e_pop0, e_lc, e_seq, e_enum, e_rng, e_nil, e_cons, e_no, e_opt, x_skip, x_seq, x_asg, x_par, x_app, x_ext, x_setI, x_ret, x_ifs, x_for, x_whl, opK_v, cmpK_v, unK_v, idxK_v, slcK_v, revK_v, optK_v, isiK_v, boolK_t, boolK_f, notK_v, ifsK_t, ifsK_f, seqK_s, seqK_l, seqK_t, enumK_l, asgK_n, frz_v, pl_nil, pl_cons, fromP_ok, fromP_ex, Option.map_some, Option.map_none, List.getElem?_cons_zero, List.getElem?_cons_succ, List.set_cons_zero, List.set_cons_succ, Bool.not_true, Bool.not_false]
          rw [trnL_map, ← List.map_reverse, List.map_map]
          rfl
        · unfold lcStep
          simp only [wipeR, bindT, bnd_ok, bnd_ex, bnd_no, out_ok, out_ex, out_no, seq_nx, seq_rt, seq_ex, res_some, res_none, outR_rt, outR_nx, outR_ex, pureP_v, pureP_ex, see_v, ask_str, ask_int, ask_bl, ask_non, eqD_str, eqD_int, eqD_bl, eqD_non, e_var, varK_s, e_chain, chain_i, c2_lt, c2_le, c2_gt, c2_ge, c2_eqs, c2_nes, c2_eqi, c2_nei, c2_eqb, c2_neb, c2_in1, un_lens, un_lenl, un_lent, un_lenc, un_ii, un_ib, un_all, un_neg, un_n0, un_nt, un_nl, op_addi, op_subi, ix_l, ix_t, e_cst, e_op, e_cmp, e_un, e_and, e_or, e_not, e_ifx, e_tup, e_lst, e_new, e_frz, e_idx, e_slc, e_rev, e_call, e_callm, e_calln, e_make, e_attr, e_isi, e_pop0, e_lc, e_seq, e_enum, e_rng, e_nil, e_cons, e_no, e_opt, x_skip, x_seq, x_asg, x_par, x_app, x_ext, x_setI, x_ret, x_ifs, x_for, x_whl, opK_v, cmpK_v, unK_v, idxK_v, slcK_v, revK_v, optK_v, isiK_v, boolK_t, boolK_f, notK_v, ifsK_t, ifsK_f, seqK_s, seqK_l, seqK_t, enumK_l, asgK_n, frz_v, pl_nil, pl_cons, fromP_ok, fromP_ex, Option.map_some, Option.map_none, List.getElem?_cons_zero, List.getElem?_cons_succ, List.set_cons_zero, List.set_cons_succ, Bool.not_true, Bool.not_false, c1 p (List.mem_reverse.mp hp), tup2]
          rw [toD]
          rfl
      simp only [bnd_ok, bnd_ex, bnd_no, out_ok, out_ex, out_no, seq_nx, seq_rt, seq_ex, res_some, res_none, outR_rt, outR_nx, outR_ex, pureP_v, pureP_ex, see_v, ask_str, ask_int, ask_bl, ask_non, eqD_str, eqD_int, eqD_bl, eqD_non, e_var, varK_s, e_chain, chain_i, c2_lt, c2_le, c2_gt, c2_ge, c2_eqs, c2_nes, c2_eqi, c2_nei, c2_eqb, c2_neb, c2_in1, un_lens, un_lenl, un_lent, un_lenc, un_ii, un_ib, un_all, un_neg, un_n0, un_nt, un_nl, op_addi, op_subi, ix_l, ix_t, e_cst, e_op, e_cmp, e_un, e_and, e_or, e_not, e_ifx, e_tup, e_lst, e_new, e_frz, e_idx, e_slc, e_rev, e_call, e_callm, e_calln, e_make, e_attr, e_isi, e_pop0, e_seq, e_enum, e_rng, e_nil, e_cons, e_no, e_opt, x_skip, x_seq, x_asg, x_par, x_app, x_ext, x_setI, x_ret, x_ifs, x_for, x_whl, opK_v, cmpK_v, unK_v, idxK_v, slcK_v, revK_v, optK_v, isiK_v, boolK_t, boolK_f, notK_v, ifsK_t, ifsK_f, seqK_s, seqK_l, seqK_t, enumK_l, asgK_n, frz_v, pl_nil, pl_cons, fromP_ok, fromP_ex, Option.map_some, Option.map_none, List.getElem?_cons_zero, List.getElem?_cons_succ, List.set_cons_zero, List.set_cons_succ, Bool.not_true, Bool.not_false, isOp, e2, bk, jl, tup2, ixT0]
      rw [trn, toD, toD, toDs_map]
      rfl
    | word w => simp only [bnd_ok, bnd_ex, bnd_no, out_ok, out_ex, out_no, seq_nx, seq_rt, seq_ex, res_some, res_none, outR_rt, outR_nx, outR_ex, pureP_v, pureP_ex, see_v, ask_str, ask_int, ask_bl, ask_non, eqD_str, eqD_int, eqD_bl, eqD_non, e_var, varK_s, e_chain, chain_i, c2_lt, c2_le, c2_gt, c2_ge, c2_eqs, c2_nes, c2_eqi, c2_nei, c2_eqb, c2_neb, c2_in1, un_lens, un_lenl, un_lent, un_lenc, un_ii, un_ib, un_all, un_neg, un_n0, un_nt, un_nl, op_addi, op_subi, ix_l, ix_t, e_cst, e_op, e_cmp, e_un, e_and, e_or, e_not, e_ifx, e_tup, e_lst, e_new, e_frz, e_idx, e_slc, e_rev, e_call, e_callm, e_calln, e_make, e_attr, e_isi, e_pop0, e_lc, e_seq, e_enum, e_rng, e_nil, e_cons, e_no, e_opt, x_skip, x_seq, x_asg, x_par, x_app, x_ext, x_setI, x_ret, x_ifs, x_for, x_whl, opK_v, cmpK_v, unK_v, idxK_v, slcK_v, revK_v, optK_v, isiK_v, boolK_t, boolK_f, notK_v, ifsK_t, ifsK_f, seqK_s, seqK_l, seqK_t, enumK_l, asgK_n, frz_v, pl_nil, pl_cons, fromP_ok, fromP_ex, Option.map_some, Option.map_none, List.getElem?_cons_zero, List.getElem?_cons_succ, List.set_cons_zero, List.set_cons_succ, Bool.not_true, Bool.not_false, isOp]; rw [trn]
    | all => simp only [bnd_ok, bnd_ex, bnd_no, out_ok, out_ex, out_no, seq_nx, seq_rt, seq_ex, res_some, res_none, outR_rt, outR_nx, outR_ex, pureP_v, pureP_ex, see_v, ask_str, ask_int, ask_bl, ask_non, eqD_str, eqD_int, eqD_bl, eqD_non, e_var, varK_s, e_chain, chain_i, c2_lt, c2_le, c2_gt, c2_ge, c2_eqs, c2_nes, c2_eqi, c2_nei, c2_eqb, c2_neb, c2_in1, un_lens, un_lenl, un_lent, un_lenc, un_ii, un_ib, un_all, un_neg, un_n0, un_nt, un_nl, op_addi, op_subi, ix_l, ix_t, e_cst, e_op, e_cmp, e_un, e_and, e_or, e_not, e_ifx, e_tup, e_lst, e_new, e_frz, e_idx, e_slc, e_rev, e_call, e_callm, e_calln, e_make, e_attr, e_isi, e_pop0, e_lc, e_seq, e_enum, e_rng, e_nil, e_cons, e_no, e_opt, x_skip, x_seq, x_asg, x_par, x_app, x_ext, x_setI, x_ret, x_ifs, x_for, x_whl, opK_v, cmpK_v, unK_v, idxK_v, slcK_v, revK_v, optK_v, isiK_v, boolK_t, boolK_f, notK_v, ifsK_t, ifsK_f, seqK_s, seqK_l, seqK_t, enumK_l, asgK_n, frz_v, pl_nil, pl_cons, fromP_ok, fromP_ex, Option.map_some, Option.map_none, List.getElem?_cons_zero, List.getElem?_cons_succ, List.set_cons_zero, List.set_cons_succ, Bool.not_true, Bool.not_false, isOp]; rw [trn]
    | none => simp only [bnd_ok, bnd_ex, bnd_no, out_ok, out_ex, out_no, seq_nx, seq_rt, seq_ex, res_some, res_none, outR_rt, outR_nx, outR_ex, pureP_v, pureP_ex, see_v, ask_str, ask_int, ask_bl, ask_non, eqD_str, eqD_int, eqD_bl, eqD_non, e_var, varK_s, e_chain, chain_i, c2_lt, c2_le, c2_gt, c2_ge, c2_eqs, c2_nes, c2_eqi, c2_nei, c2_eqb, c2_neb, c2_in1, un_lens, un_lenl, un_lent, un_lenc, un_ii, un_ib, un_all, un_neg, un_n0, un_nt, un_nl, op_addi, op_subi, ix_l, ix_t, e_cst, e_op, e_cmp, e_un, e_and, e_or, e_not, e_ifx, e_tup, e_lst, e_new, e_frz, e_idx, e_slc, e_rev, e_call, e_callm, e_calln, e_make, e_attr, e_isi, e_pop0, e_lc, e_seq, e_enum, e_rng, e_nil, e_cons, e_no, e_opt, x_skip, x_seq, x_asg, x_par, x_app, x_ext, x_setI, x_ret, x_ifs, x_for, x_whl, opK_v, cmpK_v, unK_v, idxK_v, slcK_v, revK_v, optK_v, isiK_v, boolK_t, boolK_f, notK_v, ifsK_t, ifsK_f, seqK_s, seqK_l, seqK_t, enumK_l, asgK_n, frz_v, pl_nil, pl_cons, fromP_ok, fromP_ex, Option.map_some, Option.map_none, List.getElem?_cons_zero, List.getElem?_cons_succ, List.set_cons_zero, List.set_cons_succ, Bool.not_true, Bool.not_false, isOp]; rw [trn]
    | not t => simp only [bnd_ok, bnd_ex, bnd_no, out_ok, out_ex, out_no, seq_nx, seq_rt, seq_ex, res_some, res_none, outR_rt, outR_nx, outR_ex, pureP_v, pureP_ex, see_v, ask_str, ask_int, ask_bl, ask_non, eqD_str, eqD_int, eqD_bl, eqD_non, e_var, varK_s, e_chain, chain_i, c2_lt, c2_le, c2_gt, c2_ge, c2_eqs, c2_nes, c2_eqi, c2_nei, c2_eqb, c2_neb, c2_in1, un_lens, un_lenl, un_lent, un_lenc, un_ii, un_ib, un_all, un_neg, un_n0, un_nt, un_nl, op_addi, op_subi, ix_l, ix_t, e_cst, e_op, e_cmp, e_un, e_and, e_or, e_not, e_ifx, e_tup, e_lst, e_new, e_frz, e_idx, e_slc, e_rev, e_call, e_callm, e_calln, e_make, e_attr, e_isi, e_pop0, e_lc, e_seq, e_enum, e_rng, e_nil, e_cons, e_no, e_opt, x_skip, x_seq, x_asg, x_par, x_app, x_ext, x_setI, x_ret, x_ifs, x_for, x_whl, opK_v, cmpK_v, unK_v, idxK_v, slcK_v, revK_v, optK_v, isiK_v, boolK_t, boolK_f, notK_v, ifsK_t, ifsK_f, seqK_s, seqK_l, seqK_t, enumK_l, asgK_n, frz_v, pl_nil, pl_cons, fromP_ok, fromP_ex, Option.map_some, Option.map_none, List.getElem?_cons_zero, List.getElem?_cons_succ, List.set_cons_zero, List.set_cons_succ, Bool.not_true, Bool.not_false, isOp]; rw [trn]
/-! ### the first choice -/
theorem lcL_any {α : Type} {f : U → Mu → R (Option D)} {m : Mu} (enc : α → D) {g : α → D} : ∀ {ts : List α}, (∀ t ∈ ts, f (.v (enc t)) m = .ok (some (g t)) m) → lcL f ((ts.map enc).map U.v) m = .ok (ts.map g) m
  | [], _ => rfl
  | t :: ts, h => by
    rw [List.map_cons, List.map_cons, lcL, h t List.mem_cons_self]
    dsimp only
    rw [lcL_any enc fun e he => h e (List.mem_cons_of_mem _ he)]
    rfl
theorem Inc_lt {hi : Nat} : ∀ {lo : Nat} {c : List Nat}, Inc lo hi c → ∀ i ∈ c, i < hi
  | _, [], _, i, h => by simp at h
  | _, x :: c, ⟨_, b, q⟩, i, h => by
    rcases List.mem_cons.mp h with rfl | h
    · exact b
    · exact Inc_lt q i h
def bestD (W : List Tok) : Option (List Nat) → D
  | none => .non
  | some c => .tup [szD c, sL (pick W c)]
theorem un_best (W : List Tok) (b : Option (List Nat)) : un1 .isN (bestD W b) = some (.bl b.isNone) := by
  cases b <;> rfl
theorem first_ok {a b : Tr} {n : Nat} (na : nd a ≤ n) (nb : nd b ≤ n) (sa : sz a ≤ 10000) (sb : sz b ≤ 10000) (hw : (twoW a b).length ≤ 18) : (C (n + 1)).fn 28 [toD a, toD b] = .ok (oD (tch a b)) := by
  rw [fn_of_fa f28 n _ rfl]
  show pureP (outR (xs (C n) g28.body [some (.v (toD a)), some (.v (toD b)), none, none, none, none, none, none, none, none] [])) = _
  have hlim : lim = 1000000 := rfl
  have wa := words_len a
  have wb := words_len b
  have ua := uniq_len (words a)
  have ub := uniq_len (words b)
  have gl := List.length_filter_le (fun w => !(uniq (words a)).contains w) (uniq (words b))
  have c1 : ∀ m, callK (C n) ix.l_words_of [.v (toD a)] m = .ok (.v (.lst ((uniq (words a)).map D.str))) m := fun m => callK_ok rfl (words_of_ok n a na sa)
  have c2 : ∀ m, callK (C n) ix.l_words_of [.v (toD b)] m = .ok (.v (.lst ((uniq (words b)).map D.str))) m := fun m => callK_ok rfl (words_of_ok n b nb sb)
  have tw : twoW a b = uniq (words a) ++ (uniq (words b)).filter fun w => !(uniq (words a)).contains w := by
    unfold twoW
    show (words a ++ words b).foldl addW [] = _
    rw [List.foldl_append, fold_filter (words b)]
    rfl
  obtain ⟨W, eW⟩ : ∃ W, twoW a b = W := ⟨_, rfl⟩
  have ct : ∀ m s, callK (C n) ix.l_true [.v (toD a), .v (sL s)] m = .ok (.v (.bl (holds s a))) m := fun m s => callK_ok rfl (ltrue_ok hl s n a na)
  have cu : ∀ m s, callK (C n) ix.l_true [.v (toD b), .v (sL s)] m = .ok (.v (.bl (holds s b))) m := fun m s => callK_ok rfl (ltrue_ok hl s n b nb)
  unfold g28
  have jl : ∀ m, ev (C n) (.lc [9] (.nm 9) (.seq (.call ix.l_words_of (.cons (.var 1) .nil))) (.cmp .nin (.var 9) (.var 2)) (.var 9)) [some (.v (toD a)), some (.v (toD b)), some (.v (.lst ((uniq (words a)).map D.str))), none, none, none, none, none, none, none] m = .ok (.v (.lst (((uniq (words b)).filter fun w => !(uniq (words a)).contains w).map D.str))) m := fun m => by
    simp only [bnd_ok, bnd_ex, bnd_no, out_ok, out_ex, out_no, seq_nx, seq_rt, seq_ex, res_some, res_none, outR_rt, outR_nx, outR_ex, pureP_v, pureP_ex, see_v, ask_str, ask_int, ask_bl, ask_non, eqD_str, eqD_int, eqD_bl, eqD_non, e_var, varK_s, e_chain, chain_i, c2_lt, c2_le, c2_gt, c2_ge, c2_eqs, c2_nes, c2_eqi, c2_nei, c2_eqb, c2_neb, c2_in1, un_lens, un_lenl, un_lent, un_lenc, un_ii, un_ib, un_all, un_neg, un_n0, un_nt, un_nl, op_addi, op_subi, ix_l, ix_t, e_cst, e_op, e_cmp, e_un, e_and, e_or, e_not, e_ifx, e_tup, e_lst, e_new, e_frz, e_idx, e_slc, e_rev, e_call, e_callm, e_calln, e_make, e_attr, e_isi, e_pop0, e_lc, e_seq, e_enum, e_rng, e_nil, e_cons, e_no, e_opt, x_skip, x_seq, x_asg, x_par, x_app, x_ext, x_setI, x_ret, x_ifs, x_for, x_whl, opK_v, cmpK_v, unK_v, idxK_v, slcK_v, revK_v, optK_v, isiK_v, boolK_t, boolK_f, notK_v, ifsK_t, ifsK_f, seqK_s, seqK_l, seqK_t, enumK_l, asgK_n, frz_v, pl_nil, pl_cons, fromP_ok, fromP_ex, Option.map_some, Option.map_none, List.getElem?_cons_zero, List.getElem?_cons_succ, List.set_cons_zero, List.set_cons_succ, Bool.not_true, Bool.not_false, c2]
    rw [lcL_strs (q := fun w => !(uniq (words a)).contains w) fun w _ => ?_]
    · simp only [bnd_ok, bnd_ex, bnd_no, out_ok, out_ex, out_no, seq_nx, seq_rt, seq_ex, res_some, res_none, outR_rt, outR_nx, outR_ex, pureP_v, pureP_ex, see_v, ask_str, ask_int, ask_bl, ask_non, eqD_str, eqD_int, eqD_bl, eqD_non, e_var, varK_s, e_chain, chain_i, c2_lt, c2_le, c2_gt, c2_ge, c2_eqs, c2_nes, c2_eqi, c2_nei, c2_eqb, c2_neb, c2_in1, un_lens, un_lenl, un_lent, un_lenc, un_ii, un_ib, un_all, un_neg, un_n0, un_nt, un_nl, op_addi, op_subi, ix_l, ix_t, e_cst, e_op, e_cmp, e_un, e_and, e_or, e_not, e_ifx, e_tup, e_lst, e_new, e_frz, e_idx, e_slc, e_rev, e_call, e_callm, e_calln, e_make, e_attr, e_isi, e_pop0, e_lc, e_seq, e_enum, e_rng, e_nil, e_cons, e_no, e_opt, x_skip, x_seq, x_asg, x_par, x_app, x_ext, x_setI, x_ret, x_ifs, x_for, x_whl, opK_v, cmpK_v, unK_v, idxK_v, slcK_v, revK_v, optK_v, isiK_v, boolK_t, boolK_f, notK_v, ifsK_t, ifsK_f, seqK_s, seqK_l, seqK_t, enumK_l, asgK_n, frz_v, pl_nil, pl_cons, fromP_ok, fromP_ex, Option.map_some, Option.map_none, List.getElem?_cons_zero, List.getElem?_cons_succ, List.set_cons_zero, List.set_cons_succ, Bool.not_true, Bool.not_false]
    · unfold lcStep
      simp only [wipeR, bindT, bnd_ok, bnd_ex, bnd_no, out_ok, out_ex, out_no, seq_nx, seq_rt, seq_ex, res_some, res_none, outR_rt, outR_nx, outR_ex, pureP_v, pureP_ex, see_v, ask_str, ask_int, ask_bl, ask_non, eqD_str, eqD_int, eqD_bl, eqD_non, e_var, varK_s, e_chain, chain_i, c2_lt, c2_le, c2_gt, c2_ge, c2_eqs, c2_nes, c2_eqi, c2_nei, c2_eqb, c2_neb, c2_in1, un_lens, un_lenl, un_lent, un_lenc, un_ii, un_ib, un_all, un_neg, un_n0, un_nt, un_nl, op_addi, op_subi, ix_l, ix_t, e_cst, e_op, e_cmp, e_un, e_and, e_or, e_not, e_ifx, e_tup, e_lst, e_new, e_frz, e_idx, e_slc, e_rev, e_call, e_callm, e_calln, e_make, e_attr, e_isi, e_pop0, e_lc, e_seq, e_enum, e_rng, e_nil, e_cons, e_no, e_opt, x_skip, x_seq, x_asg, x_par, x_app, x_ext, x_setI, x_ret, x_ifs, x_for, x_whl, opK_v, cmpK_v, unK_v, idxK_v, slcK_v, revK_v, optK_v, isiK_v, boolK_t, boolK_f, notK_v, ifsK_t, ifsK_f, seqK_s, seqK_l, seqK_t, enumK_l, asgK_n, frz_v, pl_nil, pl_cons, fromP_ok, fromP_ex, Option.map_some, Option.map_none, List.getElem?_cons_zero, List.getElem?_cons_succ, List.set_cons_zero, List.set_cons_succ, Bool.not_true, Bool.not_false, c2_ninl]
      cases (uniq (words a)).contains w <;> rfl
  have ad : op2 .add (.lst ((uniq (words a)).map D.str)) (.lst (((uniq (words b)).filter fun w => !(uniq (words a)).contains w).map D.str)) = some (sL W) := by
    rw [op_addl _ _ (by rw [List.length_map, List.length_map]; omega), ← List.map_append, ← tw, eW]
    rfl
  have wl : W.length ≤ 18 := by rw [← eW]; exact hw
  have rg : ∀ m, rngK (.v (.int (W.length : Int))) m = .ok ((List.range' 0 W.length).map fun i : Nat => .int (i : Int)) m := fun m => rngK_n W.length (by omega)
  have ls : ∀ m, lstK [.v (.lst [])] m = .ok (.v (.lst ((subs 0).map nL))) m := fun m => lst1 _
  simp only [bnd_ok, bnd_ex, bnd_no, out_ok, out_ex, out_no, seq_nx, seq_rt, seq_ex, res_some, res_none, outR_rt, outR_nx, outR_ex, pureP_v, pureP_ex, see_v, ask_str, ask_int, ask_bl, ask_non, eqD_str, eqD_int, eqD_bl, eqD_non, e_var, varK_s, e_chain, chain_i, c2_lt, c2_le, c2_gt, c2_ge, c2_eqs, c2_nes, c2_eqi, c2_nei, c2_eqb, c2_neb, c2_in1, un_lens, un_lenl, un_lent, un_lenc, un_ii, un_ib, un_all, un_neg, un_n0, un_nt, un_nl, op_addi, op_subi, ix_l, ix_t, e_cst, e_op, e_cmp, e_un, e_and, e_or, e_not, e_ifx, e_tup, e_lst, e_new, e_frz, e_idx, e_slc, e_rev, e_call, e_callm, e_calln, e_make, e_attr, e_isi, e_pop0, e_seq, e_enum, e_rng, e_nil, e_cons, e_no, e_opt, x_skip, x_seq, x_asg, x_par, x_app, x_ext, x_setI, x_ret, x_ifs, x_for, x_whl, opK_v, cmpK_v, unK_v, idxK_v, slcK_v, revK_v, optK_v, isiK_v, boolK_t, boolK_f, notK_v, ifsK_t, ifsK_f, seqK_s, seqK_l, seqK_t, enumK_l, asgK_n, frz_v, pl_nil, pl_cons, fromP_ok, fromP_ex, Option.map_some, Option.map_none, List.getElem?_cons_zero, List.getElem?_cons_succ, List.set_cons_zero, List.set_cons_succ, Bool.not_true, Bool.not_false, c1, jl, ad, lst0, ls, un_lenL, rg]
  have k1 : ∀ (j i : Nat) (o5 : Option U), i + j ≤ 18 → ∃ o5', forL (forK (C n) (.nm 5) (.asg (.nm 4) (.op .add (.var 4) (.lc [6] (.nm 6) (.seq (.var 4)) (.cst (.bl true)) (.op .add (.var 6) (.lst (.cons (.var 5) .nil))))))) ((List.range' i j).map fun i : Nat => .int (i : Int)) [some (.v (toD a)), some (.v (toD b)), some (.v (sL W)), some (.v .non), some (.v (.lst ((subs i).map nL))), o5, none, none, none, none] [] = .nx [some (.v (toD a)), some (.v (toD b)), some (.v (sL W)), some (.v .non), some (.v (.lst ((subs (i + j)).map nL))), o5', none, none, none, none] [] := by
    intro j
    induction j with
    | zero =>
      intro i o5 _
      exact ⟨o5, rfl⟩
    | succ j ih =>
      intro i o5 hj
      obtain ⟨o5', e⟩ := ih (i + 1) (some (.v (.int (i : Int)))) (by omega)
      refine ⟨o5', ?_⟩
      rw [List.range'_succ, List.map_cons, forL]
      have p1 : (2 : Nat) ^ i ≤ 2 ^ 17 := Nat.pow_le_pow_right (by decide) (by omega)
      have p2 : (2 : Nat) ^ 17 = 131072 := by decide
      have sl := subs_len i
      have ad2 : op2 .add (.lst ((subs i).map nL)) (.lst (((subs i).map (· ++ [i])).map nL)) = some (.lst ((subs (i + 1)).map nL)) := by
        rw [op_addl _ _ (by rw [List.length_map, List.length_map, List.length_map]; omega), subs, List.map_append]
      have st : forK (C n) (.nm 5) (.asg (.nm 4) (.op .add (.var 4) (.lc [6] (.nm 6) (.seq (.var 4)) (.cst (.bl true)) (.op .add (.var 6) (.lst (.cons (.var 5) .nil)))))) (.int (i : Int)) [some (.v (toD a)), some (.v (toD b)), some (.v (sL W)), some (.v .non), some (.v (.lst ((subs i).map nL))), o5, none, none, none, none] [] = .nx [some (.v (toD a)), some (.v (toD b)), some (.v (sL W)), some (.v .non), some (.v (.lst ((subs (i + 1)).map nL))), some (.v (.int (i : Int))), none, none, none, none] [] := by
        unfold forK
        simp only [bindT, bnd_ok, bnd_ex, bnd_no, out_ok, out_ex, out_no, seq_nx, seq_rt, seq_ex, res_some, res_none, outR_rt, outR_nx, outR_ex, pureP_v, pureP_ex, see_v, ask_str, ask_int, ask_bl, ask_non, eqD_str, eqD_int, eqD_bl, eqD_non, e_var, varK_s, e_chain, chain_i, c2_lt, c2_le, c2_gt, c2_ge, c2_eqs, c2_nes, c2_eqi, c2_nei, c2_eqb, c2_neb, c2_in1, un_lens, un_lenl, un_lent, un_lenc, un_ii, un_ib, un_all, un_neg, un_n0, un_nt, un_nl, op_addi, op_subi, ix_l, ix_t, e_cst, e_op, e_cmp, e_un, e_and, e_or, e_not, e_ifx, e_tup, e_lst, e_new, e_frz, e_idx, e_slc, e_rev, e_call, e_callm, e_calln, e_make, e_attr, e_isi, e_pop0, e_lc, e_seq, e_enum, e_rng, e_nil, e_cons, e_no, e_opt, x_skip, x_seq, x_asg, x_par, x_app, x_ext, x_setI, x_ret, x_ifs, x_for, x_whl, opK_v, cmpK_v, unK_v, idxK_v, slcK_v, revK_v, optK_v, isiK_v, boolK_t, boolK_f, notK_v, ifsK_t, ifsK_f, seqK_s, seqK_l, seqK_t, enumK_l, asgK_n, frz_v, pl_nil, pl_cons, fromP_ok, fromP_ex, Option.map_some, Option.map_none, List.getElem?_cons_zero, List.getElem?_cons_succ, List.set_cons_zero, List.set_cons_succ, Bool.not_true, Bool.not_false]
        rw [lcL_any nL (g := fun c => nL (c ++ [i])) fun c hc => ?_]
        · rw [show ((subs i).map fun c => nL (c ++ [i])) = ((subs i).map (· ++ [i])).map nL by rw [List.map_map]; rfl]
          simp only [bnd_ok, bnd_ex, bnd_no, out_ok, out_ex, out_no, seq_nx, seq_rt, seq_ex, res_some, res_none, outR_rt, outR_nx, outR_ex, pureP_v, pureP_ex, see_v, ask_str, ask_int, ask_bl, ask_non, eqD_str, eqD_int, eqD_bl, eqD_non, e_var, varK_s, e_chain, chain_i, c2_lt, c2_le, c2_gt, c2_ge, c2_eqs, c2_nes, c2_eqi, c2_nei, c2_eqb, c2_neb, c2_in1, un_lens, un_lenl, un_lent, un_lenc, un_ii, un_ib, un_all, un_neg, un_n0, un_nt, un_nl, op_addi, op_subi, ix_l, ix_t, e_cst, e_op, e_cmp, e_un, e_and, e_or, e_not, e_ifx, e_tup, e_lst, e_new, e_frz, e_idx, e_slc, e_rev, e_call, e_callm, e_calln, e_make, e_attr, e_isi, e_pop0, e_lc, e_seq, e_enum, e_rng, e_nil, e_cons, e_no, e_opt, x_skip, x_seq, x_asg, x_par, x_app, x_ext, x_setI, x_ret, x_ifs, x_for, x_whl, opK_v, cmpK_v, unK_v, idxK_v, slcK_v, revK_v, optK_v, isiK_v, boolK_t, boolK_f, notK_v, ifsK_t, ifsK_f, seqK_s, seqK_l, seqK_t, enumK_l, asgK_n, frz_v, pl_nil, pl_cons, fromP_ok, fromP_ex, Option.map_some, Option.map_none, List.getElem?_cons_zero, List.getElem?_cons_succ, List.set_cons_zero, List.set_cons_succ, Bool.not_true, Bool.not_false, ad2]
        · have cl := Inc_len (Nat.zero_le _) ((mem_subs i c).mp hc)
          have ad3 : op2 .add (nL c) (.lst [.int (i : Int)]) = some (nL (c ++ [i])) := by
            unfold nL
            rw [op_addl _ _ (by rw [List.length_map]; simp; omega), List.map_append]
            rfl
          unfold lcStep
          simp only [wipeR, bindT, bnd_ok, bnd_ex, bnd_no, out_ok, out_ex, out_no, seq_nx, seq_rt, seq_ex, res_some, res_none, outR_rt, outR_nx, outR_ex, pureP_v, pureP_ex, see_v, ask_str, ask_int, ask_bl, ask_non, eqD_str, eqD_int, eqD_bl, eqD_non, e_var, varK_s, e_chain, chain_i, c2_lt, c2_le, c2_gt, c2_ge, c2_eqs, c2_nes, c2_eqi, c2_nei, c2_eqb, c2_neb, c2_in1, un_lens, un_lenl, un_lent, un_lenc, un_ii, un_ib, un_all, un_neg, un_n0, un_nt, un_nl, op_addi, op_subi, ix_l, ix_t, e_cst, e_op, e_cmp, e_un, e_and, e_or, e_not, e_ifx, e_tup, e_lst, e_new, e_frz, e_idx, e_slc, e_rev, e_call, e_callm, e_calln, e_make, e_attr, e_isi, e_pop0, e_lc, e_seq, e_enum, e_rng, e_nil, e_cons, e_no, e_opt, x_skip, x_seq, x_asg, x_par, x_app, x_ext, x_setI, x_ret, x_ifs, x_for, x_whl, opK_v, cmpK_v, unK_v, idxK_v, slcK_v, revK_v, optK_v, isiK_v, boolK_t, boolK_f, notK_v, ifsK_t, ifsK_f, seqK_s, seqK_l, seqK_t, enumK_l, asgK_n, frz_v, pl_nil, pl_cons, fromP_ok, fromP_ex, Option.map_some, Option.map_none, List.getElem?_cons_zero, List.getElem?_cons_succ, List.set_cons_zero, List.set_cons_succ, Bool.not_true, Bool.not_false, lst1, ad3]
      rw [st]
      dsimp only
      rw [e, show i + 1 + j = i + (j + 1) by omega]
  obtain ⟨o5, e1⟩ := k1 W.length 0 none (by omega)
  rw [e1, Nat.zero_add]
  simp only [bnd_ok, bnd_ex, bnd_no, out_ok, out_ex, out_no, seq_nx, seq_rt, seq_ex, res_some, res_none, outR_rt, outR_nx, outR_ex, pureP_v, pureP_ex, see_v, ask_str, ask_int, ask_bl, ask_non, eqD_str, eqD_int, eqD_bl, eqD_non, e_var, varK_s, e_chain, chain_i, c2_lt, c2_le, c2_gt, c2_ge, c2_eqs, c2_nes, c2_eqi, c2_nei, c2_eqb, c2_neb, c2_in1, un_lens, un_lenl, un_lent, un_lenc, un_ii, un_ib, un_all, un_neg, un_n0, un_nt, un_nl, op_addi, op_subi, ix_l, ix_t, e_cst, e_op, e_cmp, e_un, e_and, e_or, e_not, e_ifx, e_tup, e_lst, e_new, e_frz, e_idx, e_slc, e_rev, e_call, e_callm, e_calln, e_make, e_attr, e_isi, e_pop0, e_seq, e_enum, e_rng, e_nil, e_cons, e_no, e_opt, x_skip, x_seq, x_asg, x_par, x_app, x_ext, x_setI, x_ret, x_ifs, x_for, x_whl, opK_v, cmpK_v, unK_v, idxK_v, slcK_v, revK_v, optK_v, isiK_v, boolK_t, boolK_f, notK_v, ifsK_t, ifsK_f, seqK_s, seqK_l, seqK_t, enumK_l, asgK_n, frz_v, pl_nil, pl_cons, fromP_ok, fromP_ex, Option.map_some, Option.map_none, List.getElem?_cons_zero, List.getElem?_cons_succ, List.set_cons_zero, List.set_cons_succ, Bool.not_true, Bool.not_false]
  have k2 : ∀ (cs : List (List Nat)) (best : Option (List Nat)) (o6 o7 o8 : Option U), (∀ c ∈ cs, Inc 0 W.length c) → ∃ o6' o7' o8', forL (forK (C n) (.nm 6) (.seq (.par 7 8 (.lc [5] (.nm 5) (.seq (.var 6)) (.cst (.bl true)) (.idx (.var 2) (.var 5))) (.tup (.cons (.un .len (.var 6)) (.cons (.var 6) .nil))))
  (.ifs (.and_ (.cmp .ne (.call ix.l_true (.cons (.var 0) (.cons (.var 7) .nil))) (.call ix.l_true (.cons (.var 1) (.cons (.var 7) .nil)))) (.or_ (.un .isN (.var 3)) (.cmp .lt (.var 8) (.idx (.var 3) (.cst (.int 0)))))) (.asg (.nm 3) (.tup (.cons (.var 8) (.cons (.var 7) .nil)))) .skip))) (cs.map nL) [some (.v (toD a)), some (.v (toD b)), some (.v (sL W)), some (.v (bestD W best)), some (.v (.lst ((subs W.length).map nL))), o5, o6, o7, o8, none] [] = .nx [some (.v (toD a)), some (.v (toD b)), some (.v (sL W)), some (.v (bestD W (cs.foldl (stepM (difP a b)) best))), some (.v (.lst ((subs W.length).map nL))), o5, o6', o7', o8', none] [] := by
    intro cs
    induction cs with
    | nil =>
      intro best o6 o7 o8 _
      exact ⟨o6, o7, o8, rfl⟩
    | cons c cs ih =>
      intro best o6 o7 o8 hc
      have hi := hc c List.mem_cons_self
      obtain ⟨o6', o7', o8', e⟩ := ih (stepM (difP a b) best c) (some (.v (nL c))) (some (.v (sL (pick W c)))) (some (.v (szD c))) fun c hc' => hc c (List.mem_cons_of_mem _ hc')
      refine ⟨o6', o7', o8', ?_⟩
      rw [List.map_cons, forL]
      have st : forK (C n) (.nm 6) (.seq (.par 7 8 (.lc [5] (.nm 5) (.seq (.var 6)) (.cst (.bl true)) (.idx (.var 2) (.var 5))) (.tup (.cons (.un .len (.var 6)) (.cons (.var 6) .nil))))
  (.ifs (.and_ (.cmp .ne (.call ix.l_true (.cons (.var 0) (.cons (.var 7) .nil))) (.call ix.l_true (.cons (.var 1) (.cons (.var 7) .nil)))) (.or_ (.un .isN (.var 3)) (.cmp .lt (.var 8) (.idx (.var 3) (.cst (.int 0)))))) (.asg (.nm 3) (.tup (.cons (.var 8) (.cons (.var 7) .nil)))) .skip)) (nL c) [some (.v (toD a)), some (.v (toD b)), some (.v (sL W)), some (.v (bestD W best)), some (.v (.lst ((subs W.length).map nL))), o5, o6, o7, o8, none] [] = .nx [some (.v (toD a)), some (.v (toD b)), some (.v (sL W)), some (.v (bestD W (stepM (difP a b) best c))), some (.v (.lst ((subs W.length).map nL))), o5, some (.v (nL c)), some (.v (sL (pick W c))), some (.v (szD c)), none] [] := by
        have j2 : ∀ m, ev (C n) (.lc [5] (.nm 5) (.seq (.var 6)) (.cst (.bl true)) (.idx (.var 2) (.var 5))) [some (.v (toD a)), some (.v (toD b)), some (.v (sL W)), some (.v (bestD W best)), some (.v (.lst ((subs W.length).map nL))), o5, some (.v (nL c)), o7, o8, none] m = .ok (.v (sL (pick W c))) m := fun m => by
          simp only [bnd_ok, bnd_ex, bnd_no, out_ok, out_ex, out_no, seq_nx, seq_rt, seq_ex, res_some, res_none, outR_rt, outR_nx, outR_ex, pureP_v, pureP_ex, see_v, ask_str, ask_int, ask_bl, ask_non, eqD_str, eqD_int, eqD_bl, eqD_non, e_var, varK_s, e_chain, chain_i, c2_lt, c2_le, c2_gt, c2_ge, c2_eqs, c2_nes, c2_eqi, c2_nei, c2_eqb, c2_neb, c2_in1, un_lens, un_lenl, un_lent, un_lenc, un_ii, un_ib, un_all, un_neg, un_n0, un_nt, un_nl, op_addi, op_subi, ix_l, ix_t, e_cst, e_op, e_cmp, e_un, e_and, e_or, e_not, e_ifx, e_tup, e_lst, e_new, e_frz, e_idx, e_slc, e_rev, e_call, e_callm, e_calln, e_make, e_attr, e_isi, e_pop0, e_lc, e_seq, e_enum, e_rng, e_nil, e_cons, e_no, e_opt, x_skip, x_seq, x_asg, x_par, x_app, x_ext, x_setI, x_ret, x_ifs, x_for, x_whl, opK_v, cmpK_v, unK_v, idxK_v, slcK_v, revK_v, optK_v, isiK_v, boolK_t, boolK_f, notK_v, ifsK_t, ifsK_f, seqK_s, seqK_l, seqK_t, enumK_l, asgK_n, frz_v, pl_nil, pl_cons, fromP_ok, fromP_ex, Option.map_some, Option.map_none, List.getElem?_cons_zero, List.getElem?_cons_succ, List.set_cons_zero, List.set_cons_succ, Bool.not_true, Bool.not_false, show seqK (.v (nL c)) = fun m => .ok (c.map fun s : Nat => .int (s : Int)) m from rfl]
          rw [lcL_any (fun s : Nat => D.int (s : Int)) (g := fun i => .str (W[i]?.getD [])) fun i hi' => ?_]
          · simp only [bnd_ok, bnd_ex, bnd_no, out_ok, out_ex, out_no, seq_nx, seq_rt, seq_ex, res_some, res_none, outR_rt, outR_nx, outR_ex, pureP_v, pureP_ex, see_v, ask_str, ask_int, ask_bl, ask_non, eqD_str, eqD_int, eqD_bl, eqD_non, e_var, varK_s, e_chain, chain_i, c2_lt, c2_le, c2_gt, c2_ge, c2_eqs, c2_nes, c2_eqi, c2_nei, c2_eqb, c2_neb, c2_in1, un_lens, un_lenl, un_lent, un_lenc, un_ii, un_ib, un_all, un_neg, un_n0, un_nt, un_nl, op_addi, op_subi, ix_l, ix_t, e_cst, e_op, e_cmp, e_un, e_and, e_or, e_not, e_ifx, e_tup, e_lst, e_new, e_frz, e_idx, e_slc, e_rev, e_call, e_callm, e_calln, e_make, e_attr, e_isi, e_pop0, e_lc, e_seq, e_enum, e_rng, e_nil, e_cons, e_no, e_opt, x_skip, x_seq, x_asg, x_par, x_app, x_ext, x_setI, x_ret, x_ifs, x_for, x_whl, opK_v, cmpK_v, unK_v, idxK_v, slcK_v, revK_v, optK_v, isiK_v, boolK_t, boolK_f, notK_v, ifsK_t, ifsK_f, seqK_s, seqK_l, seqK_t, enumK_l, asgK_n, frz_v, pl_nil, pl_cons, fromP_ok, fromP_ex, Option.map_some, Option.map_none, List.getElem?_cons_zero, List.getElem?_cons_succ, List.set_cons_zero, List.set_cons_succ, Bool.not_true, Bool.not_false]
            unfold sL pick
            rw [List.map_map]
            rfl
          · have lt := Inc_lt hi i hi'
            have ixw : idx2 (sL W) (.int (i : Int)) = some (.str (W[i]?.getD [])) := by
              show L2.atI (W.map D.str) (i : Int) = _
              rw [atI_nat, List.getElem?_map, List.getElem?_eq_getElem lt]
              rfl
            unfold lcStep
            simp only [wipeR, bindT, bnd_ok, bnd_ex, bnd_no, out_ok, out_ex, out_no, seq_nx, seq_rt, seq_ex, res_some, res_none, outR_rt, outR_nx, outR_ex, pureP_v, pureP_ex, see_v, ask_str, ask_int, ask_bl, ask_non, eqD_str, eqD_int, eqD_bl, eqD_non, e_var, varK_s, e_chain, chain_i, c2_lt, c2_le, c2_gt, c2_ge, c2_eqs, c2_nes, c2_eqi, c2_nei, c2_eqb, c2_neb, c2_in1, un_lens, un_lenl, un_lent, un_lenc, un_ii, un_ib, un_all, un_neg, un_n0, un_nt, un_nl, op_addi, op_subi, ix_l, ix_t, e_cst, e_op, e_cmp, e_un, e_and, e_or, e_not, e_ifx, e_tup, e_lst, e_new, e_frz, e_idx, e_slc, e_rev, e_call, e_callm, e_calln, e_make, e_attr, e_isi, e_pop0, e_lc, e_seq, e_enum, e_rng, e_nil, e_cons, e_no, e_opt, x_skip, x_seq, x_asg, x_par, x_app, x_ext, x_setI, x_ret, x_ifs, x_for, x_whl, opK_v, cmpK_v, unK_v, idxK_v, slcK_v, revK_v, optK_v, isiK_v, boolK_t, boolK_f, notK_v, ifsK_t, ifsK_f, seqK_s, seqK_l, seqK_t, enumK_l, asgK_n, frz_v, pl_nil, pl_cons, fromP_ok, fromP_ex, Option.map_some, Option.map_none, List.getElem?_cons_zero, List.getElem?_cons_succ, List.set_cons_zero, List.set_cons_succ, Bool.not_true, Bool.not_false, ixw]
        have ln : un1 .len (nL c) = some (.int (c.length : Int)) := by
          show some (D.int ((c.map fun s : Nat => D.int (s : Int)).length : Int)) = _
          rw [List.length_map]
        have tu : ∀ m, tupK [.v (.int (c.length : Int)), .v (nL c)] m = .ok (.v (szD c)) m := fun m => tup2 _ _
        unfold forK
        simp only [bindT, bnd_ok, bnd_ex, bnd_no, out_ok, out_ex, out_no, seq_nx, seq_rt, seq_ex, res_some, res_none, outR_rt, outR_nx, outR_ex, pureP_v, pureP_ex, see_v, ask_str, ask_int, ask_bl, ask_non, eqD_str, eqD_int, eqD_bl, eqD_non, e_var, varK_s, e_chain, chain_i, c2_lt, c2_le, c2_gt, c2_ge, c2_eqs, c2_nes, c2_eqi, c2_nei, c2_eqb, c2_neb, c2_in1, un_lens, un_lenl, un_lent, un_lenc, un_ii, un_ib, un_all, un_neg, un_n0, un_nt, un_nl, op_addi, op_subi, ix_l, ix_t, e_cst, e_op, e_cmp, e_un, e_and, e_or, e_not, e_ifx, e_tup, e_lst, e_new, e_frz, e_idx, e_slc, e_rev, e_call, e_callm, e_calln, e_make, e_attr, e_isi, e_pop0, e_seq, e_enum, e_rng, e_nil, e_cons, e_no, e_opt, x_skip, x_seq, x_asg, x_par, x_app, x_ext, x_setI, x_ret, x_ifs, x_for, x_whl, opK_v, cmpK_v, unK_v, idxK_v, slcK_v, revK_v, optK_v, isiK_v, boolK_t, boolK_f, notK_v, ifsK_t, ifsK_f, seqK_s, seqK_l, seqK_t, enumK_l, asgK_n, frz_v, pl_nil, pl_cons, fromP_ok, fromP_ex, Option.map_some, Option.map_none, List.getElem?_cons_zero, List.getElem?_cons_succ, List.set_cons_zero, List.set_cons_succ, Bool.not_true, Bool.not_false, j2, ln, tu, ct, cu]
        have hd : (!(holds (pick W c) a == holds (pick W c) b)) = difP a b c := by
          unfold difP
          rw [eW]
        rw [hd]
        unfold stepM
        cases difP a b c with
        | false => simp only [bnd_ok, bnd_ex, bnd_no, out_ok, out_ex, out_no, seq_nx, seq_rt, seq_ex, res_some, res_none, outR_rt, outR_nx, outR_ex, pureP_v, pureP_ex, see_v, ask_str, ask_int, ask_bl, ask_non, eqD_str, eqD_int, eqD_bl, eqD_non, e_var, varK_s, e_chain, chain_i, c2_lt, c2_le, c2_gt, c2_ge, c2_eqs, c2_nes, c2_eqi, c2_nei, c2_eqb, c2_neb, c2_in1, un_lens, un_lenl, un_lent, un_lenc, un_ii, un_ib, un_all, un_neg, un_n0, un_nt, un_nl, op_addi, op_subi, ix_l, ix_t, e_cst, e_op, e_cmp, e_un, e_and, e_or, e_not, e_ifx, e_tup, e_lst, e_new, e_frz, e_idx, e_slc, e_rev, e_call, e_callm, e_calln, e_make, e_attr, e_isi, e_pop0, e_lc, e_seq, e_enum, e_rng, e_nil, e_cons, e_no, e_opt, x_skip, x_seq, x_asg, x_par, x_app, x_ext, x_setI, x_ret, x_ifs, x_for, x_whl, opK_v, cmpK_v, unK_v, idxK_v, slcK_v, revK_v, optK_v, isiK_v, boolK_t, boolK_f, notK_v, ifsK_t, ifsK_f, seqK_s, seqK_l, seqK_t, enumK_l, asgK_n, frz_v, pl_nil, pl_cons, fromP_ok, fromP_ex, Option.map_some, Option.map_none, List.getElem?_cons_zero, List.getElem?_cons_succ, List.set_cons_zero, List.set_cons_succ, Bool.not_true, Bool.not_false, Bool.false_and]; rfl
        | true =>
          simp only [bnd_ok, bnd_ex, bnd_no, out_ok, out_ex, out_no, seq_nx, seq_rt, seq_ex, res_some, res_none, outR_rt, outR_nx, outR_ex, pureP_v, pureP_ex, see_v, ask_str, ask_int, ask_bl, ask_non, eqD_str, eqD_int, eqD_bl, eqD_non, e_var, varK_s, e_chain, chain_i, c2_lt, c2_le, c2_gt, c2_ge, c2_eqs, c2_nes, c2_eqi, c2_nei, c2_eqb, c2_neb, c2_in1, un_lens, un_lenl, un_lent, un_lenc, un_ii, un_ib, un_all, un_neg, un_n0, un_nt, un_nl, op_addi, op_subi, ix_l, ix_t, e_cst, e_op, e_cmp, e_un, e_and, e_or, e_not, e_ifx, e_tup, e_lst, e_new, e_frz, e_idx, e_slc, e_rev, e_call, e_callm, e_calln, e_make, e_attr, e_isi, e_pop0, e_lc, e_seq, e_enum, e_rng, e_nil, e_cons, e_no, e_opt, x_skip, x_seq, x_asg, x_par, x_app, x_ext, x_setI, x_ret, x_ifs, x_for, x_whl, opK_v, cmpK_v, unK_v, idxK_v, slcK_v, revK_v, optK_v, isiK_v, boolK_t, boolK_f, notK_v, ifsK_t, ifsK_f, seqK_s, seqK_l, seqK_t, enumK_l, asgK_n, frz_v, pl_nil, pl_cons, fromP_ok, fromP_ex, Option.map_some, Option.map_none, List.getElem?_cons_zero, List.getElem?_cons_succ, List.set_cons_zero, List.set_cons_succ, Bool.not_true, Bool.not_false, Bool.true_and, un_best]
          cases best with
          | none =>
            simp only [Option.isNone_none, bnd_ok, bnd_ex, bnd_no, out_ok, out_ex, out_no, seq_nx, seq_rt, seq_ex, res_some, res_none, outR_rt, outR_nx, outR_ex, pureP_v, pureP_ex, see_v, ask_str, ask_int, ask_bl, ask_non, eqD_str, eqD_int, eqD_bl, eqD_non, e_var, varK_s, e_chain, chain_i, c2_lt, c2_le, c2_gt, c2_ge, c2_eqs, c2_nes, c2_eqi, c2_nei, c2_eqb, c2_neb, c2_in1, un_lens, un_lenl, un_lent, un_lenc, un_ii, un_ib, un_all, un_neg, un_n0, un_nt, un_nl, op_addi, op_subi, ix_l, ix_t, e_cst, e_op, e_cmp, e_un, e_and, e_or, e_not, e_ifx, e_tup, e_lst, e_new, e_frz, e_idx, e_slc, e_rev, e_call, e_callm, e_calln, e_make, e_attr, e_isi, e_pop0, e_lc, e_seq, e_enum, e_rng, e_nil, e_cons, e_no, e_opt, x_skip, x_seq, x_asg, x_par, x_app, x_ext, x_setI, x_ret, x_ifs, x_for, x_whl, opK_v, cmpK_v, unK_v, idxK_v, slcK_v, revK_v, optK_v, isiK_v, boolK_t, boolK_f, notK_v, ifsK_t, ifsK_f, seqK_s, seqK_l, seqK_t, enumK_l, asgK_n, frz_v, pl_nil, pl_cons, fromP_ok, fromP_ex, Option.map_some, Option.map_none, List.getElem?_cons_zero, List.getElem?_cons_succ, List.set_cons_zero, List.set_cons_succ, Bool.not_true, Bool.not_false, tup2]
            rfl
          | some bb =>
            have ix0 : idx2 (bestD W (some bb)) (.int 0) = some (szD bb) := by
              show idx2 (.tup [szD bb, sL (pick W bb)]) (.int 0) = _
              rw [ix_t, at0]
            simp only [Option.isNone_some, bnd_ok, bnd_ex, bnd_no, out_ok, out_ex, out_no, seq_nx, seq_rt, seq_ex, res_some, res_none, outR_rt, outR_nx, outR_ex, pureP_v, pureP_ex, see_v, ask_str, ask_int, ask_bl, ask_non, eqD_str, eqD_int, eqD_bl, eqD_non, e_var, varK_s, e_chain, chain_i, c2_lt, c2_le, c2_gt, c2_ge, c2_eqs, c2_nes, c2_eqi, c2_nei, c2_eqb, c2_neb, c2_in1, un_lens, un_lenl, un_lent, un_lenc, un_ii, un_ib, un_all, un_neg, un_n0, un_nt, un_nl, op_addi, op_subi, ix_l, ix_t, e_cst, e_op, e_cmp, e_un, e_and, e_or, e_not, e_ifx, e_tup, e_lst, e_new, e_frz, e_idx, e_slc, e_rev, e_call, e_callm, e_calln, e_make, e_attr, e_isi, e_pop0, e_lc, e_seq, e_enum, e_rng, e_nil, e_cons, e_no, e_opt, x_skip, x_seq, x_asg, x_par, x_app, x_ext, x_setI, x_ret, x_ifs, x_for, x_whl, opK_v, cmpK_v, unK_v, idxK_v, slcK_v, revK_v, optK_v, isiK_v, boolK_t, boolK_f, notK_v, ifsK_t, ifsK_f, seqK_s, seqK_l, seqK_t, enumK_l, asgK_n, frz_v, pl_nil, pl_cons, fromP_ok, fromP_ex, Option.map_some, Option.map_none, List.getElem?_cons_zero, List.getElem?_cons_succ, List.set_cons_zero, List.set_cons_succ, Bool.not_true, Bool.not_false, ix0, c2_sz]
            by_cases hlt : ltP c bb = true
            · rw [if_pos hlt, hlt]
              simp only [bnd_ok, bnd_ex, bnd_no, out_ok, out_ex, out_no, seq_nx, seq_rt, seq_ex, res_some, res_none, outR_rt, outR_nx, outR_ex, pureP_v, pureP_ex, see_v, ask_str, ask_int, ask_bl, ask_non, eqD_str, eqD_int, eqD_bl, eqD_non, e_var, varK_s, e_chain, chain_i, c2_lt, c2_le, c2_gt, c2_ge, c2_eqs, c2_nes, c2_eqi, c2_nei, c2_eqb, c2_neb, c2_in1, un_lens, un_lenl, un_lent, un_lenc, un_ii, un_ib, un_all, un_neg, un_n0, un_nt, un_nl, op_addi, op_subi, ix_l, ix_t, e_cst, e_op, e_cmp, e_un, e_and, e_or, e_not, e_ifx, e_tup, e_lst, e_new, e_frz, e_idx, e_slc, e_rev, e_call, e_callm, e_calln, e_make, e_attr, e_isi, e_pop0, e_lc, e_seq, e_enum, e_rng, e_nil, e_cons, e_no, e_opt, x_skip, x_seq, x_asg, x_par, x_app, x_ext, x_setI, x_ret, x_ifs, x_for, x_whl, opK_v, cmpK_v, unK_v, idxK_v, slcK_v, revK_v, optK_v, isiK_v, boolK_t, boolK_f, notK_v, ifsK_t, ifsK_f, seqK_s, seqK_l, seqK_t, enumK_l, asgK_n, frz_v, pl_nil, pl_cons, fromP_ok, fromP_ex, Option.map_some, Option.map_none, List.getElem?_cons_zero, List.getElem?_cons_succ, List.set_cons_zero, List.set_cons_succ, Bool.not_true, Bool.not_false, tup2]
              rfl
            · have hlf : ltP c bb = false := by simpa using hlt
              rw [if_neg hlt, hlf]
              simp only [bnd_ok, bnd_ex, bnd_no, out_ok, out_ex, out_no, seq_nx, seq_rt, seq_ex, res_some, res_none, outR_rt, outR_nx, outR_ex, pureP_v, pureP_ex, see_v, ask_str, ask_int, ask_bl, ask_non, eqD_str, eqD_int, eqD_bl, eqD_non, e_var, varK_s, e_chain, chain_i, c2_lt, c2_le, c2_gt, c2_ge, c2_eqs, c2_nes, c2_eqi, c2_nei, c2_eqb, c2_neb, c2_in1, un_lens, un_lenl, un_lent, un_lenc, un_ii, un_ib, un_all, un_neg, un_n0, un_nt, un_nl, op_addi, op_subi, ix_l, ix_t, e_cst, e_op, e_cmp, e_un, e_and, e_or, e_not, e_ifx, e_tup, e_lst, e_new, e_frz, e_idx, e_slc, e_rev, e_call, e_callm, e_calln, e_make, e_attr, e_isi, e_pop0, e_lc, e_seq, e_enum, e_rng, e_nil, e_cons, e_no, e_opt, x_skip, x_seq, x_asg, x_par, x_app, x_ext, x_setI, x_ret, x_ifs, x_for, x_whl, opK_v, cmpK_v, unK_v, idxK_v, slcK_v, revK_v, optK_v, isiK_v, boolK_t, boolK_f, notK_v, ifsK_t, ifsK_f, seqK_s, seqK_l, seqK_t, enumK_l, asgK_n, frz_v, pl_nil, pl_cons, fromP_ok, fromP_ex, Option.map_some, Option.map_none, List.getElem?_cons_zero, List.getElem?_cons_succ, List.set_cons_zero, List.set_cons_succ, Bool.not_true, Bool.not_false]
      rw [st]
      dsimp only
      rw [e]
      rfl
  obtain ⟨o6, o7, o8, e2⟩ := k2 (subs W.length) none none none none fun c hc => (mem_subs _ c).mp hc
  rw [show (some (U.v D.non)) = some (.v (bestD W none)) from rfl, e2]
  simp only [bnd_ok, bnd_ex, bnd_no, out_ok, out_ex, out_no, seq_nx, seq_rt, seq_ex, res_some, res_none, outR_rt, outR_nx, outR_ex, pureP_v, pureP_ex, see_v, ask_str, ask_int, ask_bl, ask_non, eqD_str, eqD_int, eqD_bl, eqD_non, e_var, varK_s, e_chain, chain_i, c2_lt, c2_le, c2_gt, c2_ge, c2_eqs, c2_nes, c2_eqi, c2_nei, c2_eqb, c2_neb, c2_in1, un_lens, un_lenl, un_lent, un_lenc, un_ii, un_ib, un_all, un_neg, un_n0, un_nt, un_nl, op_addi, op_subi, ix_l, ix_t, e_cst, e_op, e_cmp, e_un, e_and, e_or, e_not, e_ifx, e_tup, e_lst, e_new, e_frz, e_idx, e_slc, e_rev, e_call, e_callm, e_calln, e_make, e_attr, e_isi, e_pop0, e_seq, e_enum, e_rng, e_nil, e_cons, e_no, e_opt, x_skip, x_seq, x_asg, x_par, x_app, x_ext, x_setI, x_ret, x_ifs, x_for, x_whl, opK_v, cmpK_v, unK_v, idxK_v, slcK_v, revK_v, optK_v, isiK_v, boolK_t, boolK_f, notK_v, ifsK_t, ifsK_f, seqK_s, seqK_l, seqK_t, enumK_l, asgK_n, frz_v, pl_nil, pl_cons, fromP_ok, fromP_ex, Option.map_some, Option.map_none, List.getElem?_cons_zero, List.getElem?_cons_succ, List.set_cons_zero, List.set_cons_succ, Bool.not_true, Bool.not_false, un_best]
  rw [tch_eq, eW]
  cases (subs W.length).foldl (stepM (difP a b)) none with
  | none =>
    simp only [Option.isNone_none, bnd_ok, bnd_ex, bnd_no, out_ok, out_ex, out_no, seq_nx, seq_rt, seq_ex, res_some, res_none, outR_rt, outR_nx, outR_ex, pureP_v, pureP_ex, see_v, ask_str, ask_int, ask_bl, ask_non, eqD_str, eqD_int, eqD_bl, eqD_non, e_var, varK_s, e_chain, chain_i, c2_lt, c2_le, c2_gt, c2_ge, c2_eqs, c2_nes, c2_eqi, c2_nei, c2_eqb, c2_neb, c2_in1, un_lens, un_lenl, un_lent, un_lenc, un_ii, un_ib, un_all, un_neg, un_n0, un_nt, un_nl, op_addi, op_subi, ix_l, ix_t, e_cst, e_op, e_cmp, e_un, e_and, e_or, e_not, e_ifx, e_tup, e_lst, e_new, e_frz, e_idx, e_slc, e_rev, e_call, e_callm, e_calln, e_make, e_attr, e_isi, e_pop0, e_lc, e_seq, e_enum, e_rng, e_nil, e_cons, e_no, e_opt, x_skip, x_seq, x_asg, x_par, x_app, x_ext, x_setI, x_ret, x_ifs, x_for, x_whl, opK_v, cmpK_v, unK_v, idxK_v, slcK_v, revK_v, optK_v, isiK_v, boolK_t, boolK_f, notK_v, ifsK_t, ifsK_f, seqK_s, seqK_l, seqK_t, enumK_l, asgK_n, frz_v, pl_nil, pl_cons, fromP_ok, fromP_ex, Option.map_some, Option.map_none, List.getElem?_cons_zero, List.getElem?_cons_succ, List.set_cons_zero, List.set_cons_succ, Bool.not_true, Bool.not_false]
    rfl
  | some c =>
    have ix1 : idx2 (bestD W (some c)) (.int 1) = some (sL (pick W c)) := by
      show idx2 (.tup [szD c, sL (pick W c)]) (.int 1) = _
      rw [ix_t, at1]
    simp only [Option.isNone_some, bnd_ok, bnd_ex, bnd_no, out_ok, out_ex, out_no, seq_nx, seq_rt, seq_ex, res_some, res_none, outR_rt, outR_nx, outR_ex, pureP_v, pureP_ex, see_v, ask_str, ask_int, ask_bl, ask_non, eqD_str, eqD_int, eqD_bl, eqD_non, e_var, varK_s, e_chain, chain_i, c2_lt, c2_le, c2_gt, c2_ge, c2_eqs, c2_nes, c2_eqi, c2_nei, c2_eqb, c2_neb, c2_in1, un_lens, un_lenl, un_lent, un_lenc, un_ii, un_ib, un_all, un_neg, un_n0, un_nt, un_nl, op_addi, op_subi, ix_l, ix_t, e_cst, e_op, e_cmp, e_un, e_and, e_or, e_not, e_ifx, e_tup, e_lst, e_new, e_frz, e_idx, e_slc, e_rev, e_call, e_callm, e_calln, e_make, e_attr, e_isi, e_pop0, e_lc, e_seq, e_enum, e_rng, e_nil, e_cons, e_no, e_opt, x_skip, x_seq, x_asg, x_par, x_app, x_ext, x_setI, x_ret, x_ifs, x_for, x_whl, opK_v, cmpK_v, unK_v, idxK_v, slcK_v, revK_v, optK_v, isiK_v, boolK_t, boolK_f, notK_v, ifsK_t, ifsK_f, seqK_s, seqK_l, seqK_t, enumK_l, asgK_n, frz_v, pl_nil, pl_cons, fromP_ok, fromP_ex, Option.map_some, Option.map_none, List.getElem?_cons_zero, List.getElem?_cons_succ, List.set_cons_zero, List.set_cons_succ, Bool.not_true, Bool.not_false, ix1]
    rfl
end At.k03

/-! k03: the law. -/
namespace At.k03
open PySem
def tenW : List Tok := [[111, 112, 101, 110], [109, 105, 110, 101], [116, 104, 101, 114, 101], [111, 112, 101, 110, 64, 115, 104, 111, 119, 110], [116, 104, 101, 114, 101, 64, 100, 111, 110, 101], [97], [111, 108, 100], [98, 64, 99], [110, 111, 116, 101], [122]]
def allW : List Tok := extra :: tenW
/-- what is known of a tree -/
structure Ft (t : Tr) : Prop where
  wf : wf t = true
  nd : nd t ≤ 40
  sz : sz t ≤ 300
  ws : ∀ w ∈ words t, w ∈ allW
theorem Ft.wd {t : Tr} (h : Ft t) : Wd t := ⟨h.wf, by have := h.nd; omega, by have := h.sz; omega⟩
theorem len_sub : ∀ (l W : List Tok), l.Nodup → (∀ x ∈ l, x ∈ W) → l.length ≤ W.length
  | [], _, _, _ => Nat.zero_le _
  | a :: l, W, h, hs => by
    obtain ⟨h1, h2⟩ := List.nodup_cons.mp h
    have ha := hs a List.mem_cons_self
    have := len_sub l (W.erase a) h2 fun x hx => by
      refine (List.mem_erase_of_ne ?_).mpr (hs x (List.mem_cons_of_mem _ hx))
      rintro rfl
      exact h1 hx
    rw [List.length_erase_of_mem ha] at this
    have : 0 < W.length := List.length_pos_of_mem ha
    rw [List.length_cons]
    omega
theorem two_len {a b : Tr} (ha : Ft a) (hb : Ft b) : (twoW a b).length ≤ 11 := by
  refine len_sub (twoW a b) allW (nodup_fold _ _ List.nodup_nil) fun x hx => ?_
  rcases (mem_fold _ _ x).mp hx with h | h
  · simp at h
  · rcases List.mem_append.mp h with h | h
    · exact ha.ws x h
    · exact hb.ws x h
theorem two_fl (a b : Tr) : twoW (flat a) (flat b) = twoW a b := by
  unfold twoW
  rw [words_fl, words_fl]
theorem tch_fl (a b : Tr) : tch (flat a) (flat b) = tch a b := by
  unfold tch
  rw [two_fl]
  have : diff (flat a) (flat b) = diff a b := by
    funext s
    unfold diff
    rw [holds_fl, holds_fl]
  rw [this]
theorem tch_self (a : Tr) : tch a a = none := by
  unfold tch
  have : diff a a = fun _ => none := by
    funext s
    unfold diff
    simp
  rw [this]
  simp [List.findSome?_eq_none_iff]
theorem cp {a b : Tr} (ha : Ft a) (hb : Ft b) : Cp (flat a) (flat b) 54 := by
  have w := two_len ha hb
  rw [← two_fl] at w
  have := nd_fl a
  have := nd_fl b
  have := sz_fl a
  have := sz_fl b
  have := ha.nd
  have := hb.nd
  have := ha.sz
  have := hb.sz
  exact ⟨by omega, by omega, by omega, by omega, by omega, by omega⟩
/-! ### expressions of the law alone -/
def eqoK (C : CE) (g : Nat) (x y : U) (m : Mu) : R U := match x with
  | .v (.obj c fs) => match y with
    | .v d => match C.mt c g with
      | some f => match kindD d with
        | some k => match C.isa k (20 + c) with
          | some _ => fromP m (C.fn f [.obj c fs, d])
          | none => .no
        | none => .no
      | none => .no
    | .p _ => .no
  | _ => .no
theorem e_eqo {C : CE} {g : Nat} {a b : E} {ρ : Ro} {m : Mu} : ev C (.eqo g a b) ρ m = (ev C a ρ m).bnd fun x m => (ev C b ρ m).bnd fun y m => eqoK C g x y m := by rw [ev]; rfl
def lamtK (C : CE) (hs : E) (r : R U) : R U := match r with
  | .ok u m' => .ok u m'
  | .ex c fs m' => match pickH C c hs with
    | some h => Res ((hvE fs h).map U.v) m'
    | none => .no
  | .no => .no
theorem e_lamt {C : CE} {hs e : E} {ρ : Ro} {m : Mu} : ev C (.lamt hs e) ρ m = lamtK C hs (ev C e ρ m) := by rw [ev]; rfl
theorem eqo_ok {d : D} {k : Nat} {t : Tr} {b : Bool} {m : Mu} (hk : kindD d = some k) (h2 : k ≤ 5 ∨ k = 22) (h : (C 55).fn 14 [oF L t, d] = .ok (.bl b)) : eqoK (C 55) ix.m_eq (.v (oF L t)) (.v d) m = .ok (.v (.bl b)) m := by
  show (match (C 55).mt 2 0 with
    | some f => match kindD d with
      | some k => match (C 55).isa k 22 with
        | some _ => fromP m ((C 55).fn f [oF L t, d])
        | none => R.no
      | none => .no
    | none => .no) = _
  rw [show (C 55).mt 2 0 = some 14 from rfl, hk]
  have : ∃ z, (C 55).isa k 22 = some z := by
    rcases h2 with h2 | rfl
    · have : k = 0 ∨ k = 1 ∨ k = 2 ∨ k = 3 ∨ k = 4 ∨ k = 5 := by omega
      rcases this with rfl | rfl | rfl | rfl | rfl | rfl <;> exact ⟨_, rfl⟩
    · exact ⟨_, rfl⟩
  obtain ⟨z, hz⟩ := this
  dsimp only
  rw [hz]
  dsimp only
  rw [h]
  rfl
theorem ne_oD (o : Option (List Tok)) : cmp2 .ne (oD o) (oD o) = some false := by
  cases o with
  | none => rfl
  | some s =>
    show (if (askable (.lst (s.map D.str)) && askable (.lst (s.map D.str))) = true then some (!eqDs (s.map D.str) (s.map D.str)) else none) = _
    rw [(ask_strs_t s).2, eqDs_strs]
    simp
theorem lcL_all {f : U → Mu → R (Option D)} {m : Mu} {d : D} : ∀ {us : List U}, (∀ u ∈ us, f u m = .ok (some d) m) → lcL f us m = .ok (List.replicate us.length d) m
  | [], _ => rfl
  | u :: us, h => by
    rw [lcL, h u List.mem_cons_self]
    dsimp only
    rw [lcL_all fun e he => h e (List.mem_cons_of_mem _ he)]
    rfl
theorem tup5 {m : Mu} (a b c d e : D) : tupK [.v a, .v b, .v c, .v d, .v e] m = .ok (.v (.tup [a, b, c, d, e])) m := by
  unfold tupK
  simp only [bnd_ok, bnd_ex, bnd_no, out_ok, out_ex, out_no, seq_nx, seq_rt, seq_ex, res_some, res_none, outR_rt, outR_nx, outR_ex, pureP_v, pureP_ex, see_v, ask_str, ask_int, ask_bl, ask_non, eqD_str, eqD_int, eqD_bl, eqD_non, e_var, varK_s, e_chain, chain_i, c2_lt, c2_le, c2_gt, c2_ge, c2_eqs, c2_nes, c2_eqi, c2_nei, c2_eqb, c2_neb, c2_in1, un_lens, un_lenl, un_lent, un_lenc, un_ii, un_ib, un_all, un_neg, un_n0, un_nt, un_nl, op_addi, op_subi, ix_l, ix_t, e_cst, e_op, e_cmp, e_un, e_and, e_or, e_not, e_ifx, e_tup, e_lst, e_new, e_frz, e_idx, e_slc, e_rev, e_call, e_callm, e_calln, e_make, e_attr, e_isi, e_pop0, e_lc, e_seq, e_enum, e_rng, e_nil, e_cons, e_no, e_opt, x_skip, x_seq, x_asg, x_par, x_app, x_ext, x_setI, x_ret, x_ifs, x_for, x_whl, opK_v, cmpK_v, unK_v, idxK_v, slcK_v, revK_v, optK_v, isiK_v, boolK_t, boolK_f, notK_v, ifsK_t, ifsK_f, seqK_s, seqK_l, seqK_t, enumK_l, asgK_n, frz_v, pl_nil, pl_cons, fromP_ok, fromP_ex, Option.map_some, Option.map_none, List.getElem?_cons_zero, List.getElem?_cons_succ, List.set_cons_zero, List.set_cons_succ, Bool.not_true, Bool.not_false]
  rw [if_pos (by show 5 ≤ lim; decide)]
theorem un_notN0 : un1 .notN .non = some (.bl false) := rfl
theorem beq_b (x : Bool) : (!(x == x)) = false := by cases x <;> rfl
theorem beq_n (x : Bool) : ((!x) == x) = false := by cases x <;> rfl
theorem un_anyl (x : List D) : un1 .any (.lst x) = (bools x).map fun bs => .bl (bs.any id) := rfl
def tailS : S := (.seq (.asg (.nm 5) (.tup (.cons (.call ix.l_text (.cons (.var 3) .nil)) (.cons (.call ix.l_text (.cons (.var 4) .nil)) .nil))))
  (.seq (.asg (.tp (.cons (.nm 6) (.cons (.nm 7) .nil))) (.tup (.cons (.make ix.c_Formula (.cons (.idx (.var 5) (.cst (.int 0))) .nil)) (.cons (.make ix.c_Formula (.cons (.idx (.var 5) (.cst (.int 1))) .nil)) .nil))))
  (.seq (.asg (.nm 8) (.call ix.l_first (.cons (.var 3) (.cons (.var 4) .nil))))
  (.seq (.ifs (.or_ (.cmp .ne (.call ix.choice (.cons (.var 6) (.cons (.var 7) .nil))) (.var 8)) (.cmp .ne (.eqo ix.m_eq (.var 6) (.var 7)) (.un .isN (.var 8)))) (.ret (.cst (.bl false))) .skip)
  (.seq (.ifs (.cmp .eq (.not_ (.eqo ix.m_eq (.var 6) (.var 7))) (.un .isN (.var 8))) (.ret (.cst (.bl false))) .skip)
  (.seq (.ifs (.or_ (.cmp .ne (.call ix.choice (.cons (.var 7) (.cons (.var 6) .nil))) (.call ix.l_first (.cons (.var 4) (.cons (.var 3) .nil)))) (.un .notN (.call ix.choice (.cons (.var 6) (.cons (.var 6) .nil))))) (.ret (.cst (.bl false))) .skip)
  (.seq (.ifs (.or_ (.cmp .ne (.call ix.choice (.cons (.idx (.var 5) (.cst (.int 0))) (.cons (.var 7) .nil))) (.var 8)) (.cmp .ne (.call ix.choice (.cons (.var 6) (.cons (.idx (.var 5) (.cst (.int 1))) .nil))) (.var 8))) (.ret (.cst (.bl false))) .skip)
  (.seq (.ifs (.cmp .ne (.lamt (.hdl ix.c_BadFormula (.tup (.cons (.cst (.str [102, 111, 114, 109, 117, 108, 97])) (.cons (.exf ix.f_text) .nil))) .nil) (.call ix.choice (.cons (.cst (.str [97, 32, 111, 114])) (.cons (.cst .non) .nil)))) (.tup (.cons (.cst (.str [102, 111, 114, 109, 117, 108, 97])) (.cons (.cst (.str [97, 32, 111, 114])) .nil)))) (.ret (.cst (.bl false))) .skip)
  (.seq (.ifs (.cmp .ne (.lamt (.hdl ix.c_BadFormula (.tup (.cons (.cst (.str [102, 111, 114, 109, 117, 108, 97])) (.cons (.exf ix.f_text) .nil))) .nil) (.call ix.choice (.cons (.var 6) (.cons (.cst (.int 5)) .nil)))) (.tup (.cons (.cst (.str [102, 111, 114, 109, 117, 108, 97])) (.cons (.cst (.int 5)) .nil)))) (.ret (.cst (.bl false))) .skip)
  (.ret (.not_ (.un .any (.lc [9] (.nm 9) (.seq (.tup (.cons (.idx (.var 5) (.cst (.int 0))) (.cons (.cst .non) (.cons (.cst (.bl true)) (.cons (.lst (.cons (.var 6) .nil)) (.cons (.tup (.cons (.cst (.str [119, 111, 114, 100])) (.cons (.cst (.str [97])) .nil))) .nil))))))) (.cst (.bl true)) (.eqo ix.m_eq (.var 6) (.var 9)))))))))))))))
theorem tail_ok {a b : Tr} (ha : Ft a) (hb : Ft b) (d0 d1 d2 : D) (m : Mu) : pureP (outR (xs (C 55) tailS [some (.v d0), some (.v d1), some (.v d2), some (.v (toD a)), some (.v (toD b)), none, none, none, none, none] m)) = .ok (.bl true) := by
  have na := ha.nd
  have nb := hb.nd
  have sa := ha.sz
  have sb := hb.sz
  have fa := nd_fl a
  have fb := nd_fl b
  have ga := ha.wd.gd
  have gb := hb.wd.gd
  have t1 : ∀ m, callK (C 55) ix.l_text [.v (toD a)] m = .ok (.v (.str (tx (flat a)))) m := fun m => callK_ok rfl (text_ok hl 55 a (by omega) (by omega) ha.wf)
  have t2 : ∀ m, callK (C 55) ix.l_text [.v (toD b)] m = .ok (.v (.str (tx (flat b)))) m := fun m => callK_ok rfl (text_ok hl 55 b (by omega) (by omega) hb.wf)
  have k1 : ∀ m, makeK (C 55) ix.c_Formula [.v (.str (tx (flat a)))] m = .ok (.v (oF L (flat a))) m := fun m => makeK_ok rfl (make_ok hl.toHQ ga 55 (by omega))
  have k2 : ∀ m, makeK (C 55) ix.c_Formula [.v (.str (tx (flat b)))] m = .ok (.v (oF L (flat b))) m := fun m => makeK_ok rfl (make_ok hl.toHQ gb 55 (by omega))
  have l1 : ∀ m, callK (C 55) ix.l_first [.v (toD a), .v (toD b)] m = .ok (.v (oD (tch a b))) m := fun m => callK_ok rfl (first_ok (n := 54) (by omega) (by omega) (by omega) (by omega) (by have := two_len ha hb; omega))
  have l2 : ∀ m, callK (C 55) ix.l_first [.v (toD b), .v (toD a)] m = .ok (.v (oD (tch b a))) m := fun m => callK_ok rfl (first_ok (n := 54) (by omega) (by omega) (by omega) (by omega) (by have := two_len hb ha; omega))
  have oa : Fml C L 54 (oF L (flat a)) (flat a) := fml_obj hl.toHQ 53 _
  have ob : Fml C L 54 (oF L (flat b)) (flat b) := fml_obj hl.toHQ 53 _
  have xa : Fml C L 54 (.str (tx (flat a))) (flat a) := fml_text hl.toHQ ga 53 (by omega)
  have xb : Fml C L 54 (.str (tx (flat b))) (flat b) := fml_text hl.toHQ gb 53 (by omega)
  have c1 : ∀ m, callK (C 55) ix.choice [.v (oF L (flat a)), .v (oF L (flat b))] m = .ok (.v (oD (tch a b))) m := fun m => callK_ok rfl (by rw [← tch_fl]; exact choice_ok hl.toHQ (cp ha hb) oa ob)
  have c2 : ∀ m, callK (C 55) ix.choice [.v (oF L (flat b)), .v (oF L (flat a))] m = .ok (.v (oD (tch b a))) m := fun m => callK_ok rfl (by rw [← tch_fl]; exact choice_ok hl.toHQ (cp hb ha) ob oa)
  have c3 : ∀ m, callK (C 55) ix.choice [.v (oF L (flat a)), .v (oF L (flat a))] m = .ok (.v .non) m := fun m => callK_ok rfl (by
    have := choice_ok hl.toHQ (cp ha ha) oa oa
    rw [tch_self] at this
    exact this)
  have c4 : ∀ m, callK (C 55) ix.choice [.v (.str (tx (flat a))), .v (oF L (flat b))] m = .ok (.v (oD (tch a b))) m := fun m => callK_ok rfl (by rw [← tch_fl]; exact choice_ok hl.toHQ (cp ha hb) xa ob)
  have c5 : ∀ m, callK (C 55) ix.choice [.v (oF L (flat a)), .v (.str (tx (flat b)))] m = .ok (.v (oD (tch a b))) m := fun m => callK_ok rfl (by rw [← tch_fl]; exact choice_ok hl.toHQ (cp ha hb) oa xb)
  have c6 : ∀ m, callK (C 55) ix.choice [.v (.str [97, 32, 111, 114]), .v .non] m = .ex 1 [(0, .str [97, 32, 111, 114])] m := fun m => callK_ex rfl (choice_bad1 (n := 54) hl.toHQ (fof_bad hl.toHQ bad 52 (.inl ⟨_, rfl, aOr_bad hl.toHP 52 (by decide)⟩)))
  have c7 : ∀ m, callK (C 55) ix.choice [.v (oF L (flat a)), .v (.int 5)] m = .ex 1 [(0, .int 5)] m := fun m => callK_ex rfl (choice_bad2 (n := 54) hl.toHQ oa (fof_bad hl.toHQ bad 52 (.inr ⟨_, rfl⟩)))
  have q1 : ∀ m, eqoK (C 55) ix.m_eq (.v (oF L (flat a))) (.v (oF L (flat b))) m = .ok (.v (.bl (tch a b).isNone)) m := fun m => eqo_ok rfl (.inr rfl) (by rw [← tch_fl]; exact feq_ok hl.toHQ (cp ha hb))
  have h6 : ∀ m, lamtK (C 55) (.hdl ix.c_BadFormula (.tup (.cons (.cst (.str [102, 111, 114, 109, 117, 108, 97])) (.cons (.exf ix.f_text) .nil))) .nil) (.ex 1 [(0, .str [97, 32, 111, 114])] m) = .ok (.v (.tup [.str [102, 111, 114, 109, 117, 108, 97], .str [97, 32, 111, 114]])) m := fun m => rfl
  have h7 : ∀ m, lamtK (C 55) (.hdl ix.c_BadFormula (.tup (.cons (.cst (.str [102, 111, 114, 109, 117, 108, 97])) (.cons (.exf ix.f_text) .nil))) .nil) (.ex 1 [(0, .int 5)] m) = .ok (.v (.tup [.str [102, 111, 114, 109, 117, 108, 97], .int 5])) m := fun m => rfl
  have n6 : cmp2 .ne (.tup [.str [102, 111, 114, 109, 117, 108, 97], .str [97, 32, 111, 114]]) (.tup [.str [102, 111, 114, 109, 117, 108, 97], .str [97, 32, 111, 114]]) = some false := rfl
  have n7 : cmp2 .ne (.tup [.str [102, 111, 114, 109, 117, 108, 97], .int 5]) (.tup [.str [102, 111, 114, 109, 117, 108, 97], .int 5]) = some false := rfl
  have jl : ∀ m, ev (C 55) (.lc [9] (.nm 9) (.seq (.tup (.cons (.idx (.var 5) (.cst (.int 0))) (.cons (.cst .non) (.cons (.cst (.bl true)) (.cons (.lst (.cons (.var 6) .nil)) (.cons (.tup (.cons (.cst (.str [119, 111, 114, 100])) (.cons (.cst (.str [97])) .nil))) .nil))))))) (.cst (.bl true)) (.eqo ix.m_eq (.var 6) (.var 9))) [some (.v d0), some (.v d1), some (.v d2), some (.v (toD a)), some (.v (toD b)), some (.v (.tup [.str (tx (flat a)), .str (tx (flat b))])), some (.v (oF L (flat a))), some (.v (oF L (flat b))), some (.v (oD (tch a b))), none] m = .ok (.v (.lst (List.replicate 5 (.bl false)))) m := fun m => by
    simp only [bnd_ok, bnd_ex, bnd_no, out_ok, out_ex, out_no, seq_nx, seq_rt, seq_ex, res_some, res_none, outR_rt, outR_nx, outR_ex, pureP_v, pureP_ex, see_v, ask_str, ask_int, ask_bl, ask_non, eqD_str, eqD_int, eqD_bl, eqD_non, e_var, varK_s, e_chain, chain_i, c2_lt, c2_le, c2_gt, c2_ge, c2_eqs, c2_nes, c2_eqi, c2_nei, c2_eqb, c2_neb, c2_in1, un_lens, un_lenl, un_lent, un_lenc, un_ii, un_ib, un_all, un_neg, un_n0, un_nt, un_nl, op_addi, op_subi, ix_l, ix_t, e_cst, e_op, e_cmp, e_un, e_and, e_or, e_not, e_ifx, e_tup, e_lst, e_new, e_frz, e_idx, e_slc, e_rev, e_call, e_callm, e_calln, e_make, e_attr, e_isi, e_pop0, e_lc, e_seq, e_enum, e_rng, e_nil, e_cons, e_no, e_opt, x_skip, x_seq, x_asg, x_par, x_app, x_ext, x_setI, x_ret, x_ifs, x_for, x_whl, opK_v, cmpK_v, unK_v, idxK_v, slcK_v, revK_v, optK_v, isiK_v, boolK_t, boolK_f, notK_v, ifsK_t, ifsK_f, seqK_s, seqK_l, seqK_t, enumK_l, asgK_n, frz_v, pl_nil, pl_cons, fromP_ok, fromP_ex, Option.map_some, Option.map_none, List.getElem?_cons_zero, List.getElem?_cons_succ, List.set_cons_zero, List.set_cons_succ, Bool.not_true, Bool.not_false, at0, at1, lst1, tup2, tup5]
    rw [lcL_all (d := .bl false) fun u hu => ?_]
    · rfl
    · have key : ∀ {d : D} {k : Nat}, kindD d = some k → k ≤ 5 → lcStep (C 55) [9] (.nm 9) (.cst (.bl true)) (.eqo ix.m_eq (.var 6) (.var 9)) [some (.v d0), some (.v d1), some (.v d2), some (.v (toD a)), some (.v (toD b)), some (.v (.tup [.str (tx (flat a)), .str (tx (flat b))])), some (.v (oF L (flat a))), some (.v (oF L (flat b))), some (.v (oD (tch a b))), none] (.v d) m = .ok (some (.bl false)) m := fun {d k} hk h5 => by
        have q := eqo_ok (m := m) hk (.inl h5) (feq_no hl.toHQ (a := flat a) (n := 54) hk h5)
        unfold lcStep
        simp only [wipeR, bindT, bnd_ok, bnd_ex, bnd_no, out_ok, out_ex, out_no, seq_nx, seq_rt, seq_ex, res_some, res_none, outR_rt, outR_nx, outR_ex, pureP_v, pureP_ex, see_v, ask_str, ask_int, ask_bl, ask_non, eqD_str, eqD_int, eqD_bl, eqD_non, e_var, varK_s, e_chain, chain_i, c2_lt, c2_le, c2_gt, c2_ge, c2_eqs, c2_nes, c2_eqi, c2_nei, c2_eqb, c2_neb, c2_in1, un_lens, un_lenl, un_lent, un_lenc, un_ii, un_ib, un_all, un_neg, un_n0, un_nt, un_nl, op_addi, op_subi, ix_l, ix_t, e_cst, e_op, e_cmp, e_un, e_and, e_or, e_not, e_ifx, e_tup, e_lst, e_new, e_frz, e_idx, e_slc, e_rev, e_call, e_callm, e_calln, e_make, e_attr, e_isi, e_pop0, e_lc, e_seq, e_enum, e_rng, e_nil, e_cons, e_no, e_opt, x_skip, x_seq, x_asg, x_par, x_app, x_ext, x_setI, x_ret, x_ifs, x_for, x_whl, opK_v, cmpK_v, unK_v, idxK_v, slcK_v, revK_v, optK_v, isiK_v, boolK_t, boolK_f, notK_v, ifsK_t, ifsK_f, seqK_s, seqK_l, seqK_t, enumK_l, asgK_n, frz_v, pl_nil, pl_cons, fromP_ok, fromP_ex, Option.map_some, Option.map_none, List.getElem?_cons_zero, List.getElem?_cons_succ, List.set_cons_zero, List.set_cons_succ, Bool.not_true, Bool.not_false, e_eqo, q]
      simp only [List.map_cons, List.map_nil, List.mem_cons, List.not_mem_nil, or_false] at hu
      rcases hu with rfl | rfl | rfl | rfl | rfl
      · exact key (k := 3) rfl (by decide)
      · exact key (k := 0) rfl (by decide)
      · exact key (k := 1) rfl (by decide)
      · exact key (k := 4) rfl (by decide)
      · exact key (k := 5) rfl (by decide)
  unfold tailS
  simp only [bnd_ok, bnd_ex, bnd_no, out_ok, out_ex, out_no, seq_nx, seq_rt, seq_ex, res_some, res_none, outR_rt, outR_nx, outR_ex, pureP_v, pureP_ex, see_v, ask_str, ask_int, ask_bl, ask_non, eqD_str, eqD_int, eqD_bl, eqD_non, e_var, varK_s, e_chain, chain_i, c2_lt, c2_le, c2_gt, c2_ge, c2_eqs, c2_nes, c2_eqi, c2_nei, c2_eqb, c2_neb, c2_in1, un_lens, un_lenl, un_lent, un_lenc, un_ii, un_ib, un_all, un_neg, un_n0, un_nt, un_nl, op_addi, op_subi, ix_l, ix_t, e_cst, e_op, e_cmp, e_un, e_and, e_or, e_not, e_ifx, e_tup, e_lst, e_new, e_frz, e_idx, e_slc, e_rev, e_call, e_callm, e_calln, e_make, e_attr, e_isi, e_pop0, e_seq, e_enum, e_rng, e_nil, e_cons, e_no, e_opt, x_skip, x_seq, x_asg, x_par, x_app, x_ext, x_setI, x_ret, x_ifs, x_for, x_whl, opK_v, cmpK_v, unK_v, idxK_v, slcK_v, revK_v, optK_v, isiK_v, boolK_t, boolK_f, notK_v, ifsK_t, ifsK_f, seqK_s, seqK_l, seqK_t, enumK_l, asgK_n, frz_v, pl_nil, pl_cons, fromP_ok, fromP_ex, Option.map_some, Option.map_none, List.getElem?_cons_zero, List.getElem?_cons_succ, List.set_cons_zero, List.set_cons_succ, Bool.not_true, Bool.not_false, t1, t2, tup2, at0, at1, k1, k2, asg2, l1, l2, c1, c2, c3, c4, c5, e_eqo, q1, un_isN, ne_oD, beq_b, beq_n, un_notN0, e_lamt, c6, c7, h6, h7, n6, n7, jl, un_anyl]
  rfl
end At.k03

/-! k03: the law's start. -/
namespace At.k03
open PySem
theorem body_eq : g30.body = (.seq (.asg (.nm 1) (.lst (.cons (.cst (.str [111, 112, 101, 110])) (.cons (.cst (.str [109, 105, 110, 101])) (.cons (.cst (.str [116, 104, 101, 114, 101])) (.cons (.cst (.str [111, 112, 101, 110, 64, 115, 104, 111, 119, 110])) (.cons (.cst (.str [116, 104, 101, 114, 101, 64, 100, 111, 110, 101])) (.cons (.cst (.str [97])) (.cons (.cst (.str [111, 108, 100])) (.cons (.cst (.str [98, 64, 99])) (.cons (.cst (.str [110, 111, 116, 101])) (.cons (.cst (.str [122])) .nil))))))))))))
  (.seq (.asg (.nm 2) (.call ix.l_row (.cons (.call ix.l_cell (.cons (.var 0) (.cons (.cst (.int 2)) .nil))) (.cons (.lst (.cons (.cst (.int 6)) (.cons (.cst (.int 8)) (.cons (.cst (.int 8)) .nil)))) .nil))))
  (.seq (.asg (.nm 3) (.callm ix.l_tree (.cons (.calln ix.l_row (.cons (.call ix.l_cell (.cons (.var 0) (.cons (.cst (.int 0)) .nil))) (.cons (.op .mul (.lst (.cons (.cst (.int 512)) .nil)) (.cst (.int 30))) .nil))) (.cons (.slc (.var 1) .nil (.opt (.idx (.var 2) (.cst (.int 1))))) (.cons (.cst (.int 3)) .nil)))))
  (.seq (.asg (.nm 4) (.callm ix.l_tree (.cons (.calln ix.l_row (.cons (.call ix.l_cell (.cons (.var 0) (.cons (.cst (.int 1)) .nil))) (.cons (.op .mul (.lst (.cons (.cst (.int 512)) .nil)) (.cst (.int 30))) .nil))) (.cons (.slc (.var 1) (.opt (.op .sub (.cst (.int 10)) (.idx (.var 2) (.cst (.int 2))))) .nil) (.cons (.cst (.int 3)) .nil)))))
  (.seq (.ifs (.cmp .lt (.idx (.var 2) (.cst (.int 0))) (.cst (.int 3))) (.asg (.nm 4) (.call ix.l_turned (.cons (.var 3) (.cons (.idx (.var 2) (.cst (.int 0))) .nil)))) .skip)
  tailS))))) := rfl
theorem at2 {α : Type} (a b c : α) (l : List α) : atD (a :: b :: c :: l) 2 = some c := by
  unfold atD
  exact atI_nat (a :: b :: c :: l) 2
theorem cut_map {α β : Type} (f : α → β) (xs : List α) (lo hi : Option Int) : cutD (xs.map f) lo hi = (cutD xs lo hi).map f := by
  unfold cutD
  rw [List.length_map, List.map_take, List.map_drop]
theorem cut_mem {α : Type} {xs : List α} {lo hi : Option Int} {x : α} (h : x ∈ cutD xs lo hi) : x ∈ xs := List.mem_of_mem_drop (List.mem_of_mem_take h)
theorem cut_len {α : Type} (xs : List α) (lo hi : Option Int) : (cutD xs lo hi).length ≤ xs.length := by
  unfold cutD
  simp
  omega
theorem sl_any (W : List Tok) (lo hi : Option Int) : slc2 (sL W) lo hi = some (sL (cutD W lo hi)) := by
  show some (D.lst (cutD (W.map D.str) lo hi)) = _
  rw [cut_map]
  rfl
theorem ten_ok : ∀ w ∈ tenW, isWord w = true := by decide
theorem has_new {m : Mu} {rs : List Int} : Has (m ++ [.lst ((rs.map D.int).map U.v)]) m.length rs := by
  unfold Has
  simp
theorem calln_row {n : Nat} {c : Int} {ss : List Nat} {rs : List Int} (h : (C n).fm 20 [.v (.int c), .v (nL ss)] [] = .ok (.p 0) (cellI rs)) (m : Mu) : callnK (C n) ix.l_row [.v (.int c), .v (nL ss)] m = .ok (.p m.length) (m ++ [.lst ((rs.map D.int).map U.v)]) := by
  show (match newP ((C n).fm 20 [.v (.int c), .v (nL ss)] []) with
    | some (.ok xs _) => R.ok (U.p m.length) (m ++ [M.lst (xs.map U.v)])
    | some (.ex c fs _) => .ex c fs m
    | _ => .no) = _
  rw [h]
  have : newP (.ok (.p 0) (cellI rs)) = some (.ok (rs.map D.int) []) := by
    show (plainU ((rs.map D.int).map U.v)).map (fun ds => R.ok ds []) = _
    rw [plainU_map]
    rfl
  rw [this]
theorem call_row {n : Nat} {c : Int} {ss : List Nat} {rs : List Int} (h : (C n).fm 20 [.v (.int c), .v (nL ss)] [] = .ok (.p 0) (cellI rs)) (m : Mu) : callK (C n) ix.l_row [.v (.int c), .v (nL ss)] m = .ok (.v (.lst (rs.map D.int))) m := by
  refine callK_ok (ds := [.int c, nL ss]) rfl ?_
  show pureP ((C n).fm 20 [.v (.int c), .v (nL ss)] []) = _
  rw [h, pureP_ok (see_cellI rs)]
theorem lst10 {m : Mu} : lstK [.v (.str [111, 112, 101, 110]), .v (.str [109, 105, 110, 101]), .v (.str [116, 104, 101, 114, 101]), .v (.str [111, 112, 101, 110, 64, 115, 104, 111, 119, 110]), .v (.str [116, 104, 101, 114, 101, 64, 100, 111, 110, 101]), .v (.str [97]), .v (.str [111, 108, 100]), .v (.str [98, 64, 99]), .v (.str [110, 111, 116, 101]), .v (.str [122])] m = .ok (.v (sL tenW)) m := by
  unfold lstK
  simp only [bnd_ok, bnd_ex, bnd_no, out_ok, out_ex, out_no, seq_nx, seq_rt, seq_ex, res_some, res_none, outR_rt, outR_nx, outR_ex, pureP_v, pureP_ex, see_v, ask_str, ask_int, ask_bl, ask_non, eqD_str, eqD_int, eqD_bl, eqD_non, e_var, varK_s, e_chain, chain_i, c2_lt, c2_le, c2_gt, c2_ge, c2_eqs, c2_nes, c2_eqi, c2_nei, c2_eqb, c2_neb, c2_in1, un_lens, un_lenl, un_lent, un_lenc, un_ii, un_ib, un_all, un_neg, un_n0, un_nt, un_nl, op_addi, op_subi, ix_l, ix_t, e_cst, e_op, e_cmp, e_un, e_and, e_or, e_not, e_ifx, e_tup, e_lst, e_new, e_frz, e_idx, e_slc, e_rev, e_call, e_callm, e_calln, e_make, e_attr, e_isi, e_pop0, e_lc, e_seq, e_enum, e_rng, e_nil, e_cons, e_no, e_opt, x_skip, x_seq, x_asg, x_par, x_app, x_ext, x_setI, x_ret, x_ifs, x_for, x_whl, opK_v, cmpK_v, unK_v, idxK_v, slcK_v, revK_v, optK_v, isiK_v, boolK_t, boolK_f, notK_v, ifsK_t, ifsK_f, seqK_s, seqK_l, seqK_t, enumK_l, asgK_n, frz_v, pl_nil, pl_cons, fromP_ok, fromP_ex, Option.map_some, Option.map_none, List.getElem?_cons_zero, List.getElem?_cons_succ, List.set_cons_zero, List.set_cons_succ, Bool.not_true, Bool.not_false]
  rw [if_pos (by show 10 ≤ lim; decide)]
  rfl
theorem ft_of {ws : List Tok} {t : Tr} (h : Drawn ws 3 t) (hs : ∀ w ∈ ws, w ∈ tenW) : Ft t ∧ nd t ≤ 16 ∧ sz t ≤ 40 := by
  have h1 := h.nd
  have h2 := h.sz
  have : tb 3 = 40 := rfl
  exact ⟨⟨h.wf, by omega, by omega, fun w hw => List.mem_cons_of_mem _ (hs w (h.ws w hw))⟩, by omega, by omega⟩
theorem ft_turn0 {t : Tr} (h : Ft t) (h1 : nd t ≤ 16) (h2 : sz t ≤ 40) : Ft (turn 0 t) := by
  show Ft (.not (.not t))
  refine ⟨by rw [wf, wf]; exact h.wf, by rw [nd, nd]; omega, by rw [sz, sz]; omega, ?_⟩
  rw [words, words]
  exact h.ws
theorem ft_turn1 {t : Tr} (h : Ft t) (h1 : nd t ≤ 16) (h2 : sz t ≤ 40) : Ft (turn 1 t) := by
  show Ft (.op false [t, .none, .op true [t, .word extra]])
  refine ⟨?_, ?_, ?_, ?_⟩
  · simp only [wf, wfL, h.wf, show isWord extra = true by decide]
    rfl
  · simp only [nd, nd.nds]
    omega
  · simp only [sz, szs]
    omega
  · simp only [words, wordsL]
    intro w hw
    simp only [List.mem_append, List.not_mem_nil, or_false, false_or, List.mem_cons] at hw
    rcases hw with hw | hw | hw
    · exact h.ws w hw
    · exact h.ws w hw
    · rw [hw]
      exact List.mem_cons_self
theorem ft_turn2 {t : Tr} (h : Ft t) (h1 : nd t ≤ 16) (h2 : sz t ≤ 40) : Ft (turn 2 t) := by
  show Ft (trn t)
  have a := trn_nd t
  have b := trn_sz t
  exact ⟨trn_wf t h.wf, by omega, by omega, fun w hw => h.ws w (trn_words t w hw)⟩
theorem law_ok (ns : List Int) (_ : ns.length ≤ 63) : pureP (pj.fm 56 30 [.v (.scr ns)] []) = .ok (.bl true) := by
  show pureP ((C (55 + 1)).fm 30 [.v (.scr ns)] []) = _
  rw [f30 55, run_ok rfl]
  show pureP (outR (xs (C 55) g30.body [some (.v (.scr ns)), none, none, none, none, none, none, none, none, none] [])) = _
  rw [body_eq]
  obtain ⟨c2, e2⟩ := cell_ok hl 54 ns 2
  obtain ⟨c0, e0⟩ := cell_ok hl 54 ns 0
  obtain ⟨c1, e1⟩ := cell_ok hl 54 ns 1
  have k2 : ∀ m, callK (C 55) ix.l_cell [.v (.scr ns), .v (.int 2)] m = .ok (.v (.int c2)) m := fun m => callK_ok rfl e2
  have k0 : ∀ m, callK (C 55) ix.l_cell [.v (.scr ns), .v (.int 0)] m = .ok (.v (.int c0)) m := fun m => callK_ok rfl e0
  have k1 : ∀ m, callK (C 55) ix.l_cell [.v (.scr ns), .v (.int 1)] m = .ok (.v (.int c1)) m := fun m => callK_ok rfl e1
  obtain ⟨rs, b, er⟩ := row_ok hl 54 c2 [6, 8, 8] (by decide) (by decide)
  obtain ⟨r0, r1, r2, ers, b0, b1⟩ : ∃ r0 r1 r2 : Int, rs = [r0, r1, r2] ∧ 0 ≤ r0 ∧ r0 < 6 := by
    match rs, b with
    | [r0, r1, r2], ⟨p, q, _⟩ => exact ⟨r0, r1, r2, rfl, p, q⟩
  have r3 := call_row er
  rw [ers] at r3
  have r3' : ∀ m, callK (C 55) ix.l_row [.v (.int c2), .v (.lst [.int 6, .int 8, .int 8])] m = .ok (.v (.lst [.int r0, .int r1, .int r2])) m := r3
  obtain ⟨ra, _, ea⟩ := row_ok hl 54 c0 (List.replicate 30 512) (by decide) (by decide)
  obtain ⟨rb, _, eb⟩ := row_ok hl 54 c1 (List.replicate 30 512) (by decide) (by decide)
  have na := calln_row ea
  have nb := calln_row eb
  have mu : op2 .mul (.lst [.int 512]) (.int 30) = some (nL (List.replicate 30 512)) := rfl
  have wa : ∀ w ∈ cutD tenW none (some r1), w ∈ tenW := fun w hw => cut_mem hw
  have wb : ∀ w ∈ cutD tenW (some (10 - r2)) none, w ∈ tenW := fun w hw => cut_mem hw
  have la := cut_len tenW none (some r1)
  have lb := cut_len tenW (some (10 - r2)) none
  have lt : tenW.length = 10 := rfl
  obtain ⟨a, m1, ds1, ta, _, da⟩ := tree_ok hl (cutD tenW none (some r1)) (fun w hw => ten_ok w (wa w hw)) (by omega) 3 55 (by decide) ([] ++ [.lst ((ra.map D.int).map U.v)]) ([] : Mu).length ra has_new
  obtain ⟨b', m2, ds2, tbb, _, db⟩ := tree_ok hl (cutD tenW (some (10 - r2)) none) (fun w hw => ten_ok w (wb w hw)) (by omega) 3 55 (by decide) (m1 ++ [.lst ((rb.map D.int).map U.v)]) m1.length rb has_new
  have ta' : (C 55).fm ix.l_tree [.p ([] : Mu).length, .v (sL (cutD tenW none (some r1))), .v (.int 3)] ([] ++ [.lst ((ra.map D.int).map U.v)]) = .ok (.v (toD a)) m1 := ta
  have tb' : (C 55).fm ix.l_tree [.p m1.length, .v (sL (cutD tenW (some (10 - r2)) none)), .v (.int 3)] (m1 ++ [.lst ((rb.map D.int).map U.v)]) = .ok (.v (toD b')) m2 := tbb
  obtain ⟨fa, fa1, fa2⟩ := ft_of da wa
  obtain ⟨fb, _, _⟩ := ft_of db wb
  simp only [bnd_ok, bnd_ex, bnd_no, out_ok, out_ex, out_no, seq_nx, seq_rt, seq_ex, res_some, res_none, outR_rt, outR_nx, outR_ex, pureP_v, pureP_ex, see_v, ask_str, ask_int, ask_bl, ask_non, eqD_str, eqD_int, eqD_bl, eqD_non, e_var, varK_s, e_chain, chain_i, c2_lt, c2_le, c2_gt, c2_ge, c2_eqs, c2_nes, c2_eqi, c2_nei, c2_eqb, c2_neb, c2_in1, un_lens, un_lenl, un_lent, un_lenc, un_ii, un_ib, un_all, un_neg, un_n0, un_nt, un_nl, op_addi, op_subi, ix_l, ix_t, e_cst, e_op, e_cmp, e_un, e_and, e_or, e_not, e_ifx, e_tup, e_lst, e_new, e_frz, e_idx, e_slc, e_rev, e_call, e_callm, e_calln, e_make, e_attr, e_isi, e_pop0, e_lc, e_seq, e_enum, e_rng, e_nil, e_cons, e_no, e_opt, x_skip, x_seq, x_asg, x_par, x_app, x_ext, x_setI, x_ret, x_ifs, x_for, x_whl, opK_v, cmpK_v, unK_v, idxK_v, slcK_v, revK_v, optK_v, isiK_v, boolK_t, boolK_f, notK_v, ifsK_t, ifsK_f, seqK_s, seqK_l, seqK_t, enumK_l, asgK_n, frz_v, pl_nil, pl_cons, fromP_ok, fromP_ex, Option.map_some, Option.map_none, List.getElem?_cons_zero, List.getElem?_cons_succ, List.set_cons_zero, List.set_cons_succ, Bool.not_true, Bool.not_false, lst10, k2, k0, k1, lst3, r3', lst1, mu, na, nb, at0, at1, at2, sl_any, ta', tb']
  by_cases h3 : r0 < 3
  · have d3 : decide (r0 < 3) = true := decide_eq_true h3
    have hr : r0 = 0 ∨ r0 = 1 ∨ r0 = 2 := by omega
    rcases hr with rfl | rfl | rfl
    · have ct : ∀ m, callK (C 55) ix.l_turned [.v (toD a), .v (.int 0)] m = .ok (.v (toD (turn 0 a))) m := fun m => callK_ok rfl (turn0_ok 54 a)
      simp only [bnd_ok, bnd_ex, bnd_no, out_ok, out_ex, out_no, seq_nx, seq_rt, seq_ex, res_some, res_none, outR_rt, outR_nx, outR_ex, pureP_v, pureP_ex, see_v, ask_str, ask_int, ask_bl, ask_non, eqD_str, eqD_int, eqD_bl, eqD_non, e_var, varK_s, e_chain, chain_i, c2_lt, c2_le, c2_gt, c2_ge, c2_eqs, c2_nes, c2_eqi, c2_nei, c2_eqb, c2_neb, c2_in1, un_lens, un_lenl, un_lent, un_lenc, un_ii, un_ib, un_all, un_neg, un_n0, un_nt, un_nl, op_addi, op_subi, ix_l, ix_t, e_cst, e_op, e_cmp, e_un, e_and, e_or, e_not, e_ifx, e_tup, e_lst, e_new, e_frz, e_idx, e_slc, e_rev, e_call, e_callm, e_calln, e_make, e_attr, e_isi, e_pop0, e_lc, e_seq, e_enum, e_rng, e_nil, e_cons, e_no, e_opt, x_skip, x_seq, x_asg, x_par, x_app, x_ext, x_setI, x_ret, x_ifs, x_for, x_whl, opK_v, cmpK_v, unK_v, idxK_v, slcK_v, revK_v, optK_v, isiK_v, boolK_t, boolK_f, notK_v, ifsK_t, ifsK_f, seqK_s, seqK_l, seqK_t, enumK_l, asgK_n, frz_v, pl_nil, pl_cons, fromP_ok, fromP_ex, Option.map_some, Option.map_none, List.getElem?_cons_zero, List.getElem?_cons_succ, List.set_cons_zero, List.set_cons_succ, Bool.not_true, Bool.not_false, d3, ct, at0]
      exact tail_ok fa (ft_turn0 fa fa1 fa2) _ _ _ _
    · have ct : ∀ m, callK (C 55) ix.l_turned [.v (toD a), .v (.int 1)] m = .ok (.v (toD (turn 1 a))) m := fun m => callK_ok rfl (turn1_ok 54 a)
      simp only [bnd_ok, bnd_ex, bnd_no, out_ok, out_ex, out_no, seq_nx, seq_rt, seq_ex, res_some, res_none, outR_rt, outR_nx, outR_ex, pureP_v, pureP_ex, see_v, ask_str, ask_int, ask_bl, ask_non, eqD_str, eqD_int, eqD_bl, eqD_non, e_var, varK_s, e_chain, chain_i, c2_lt, c2_le, c2_gt, c2_ge, c2_eqs, c2_nes, c2_eqi, c2_nei, c2_eqb, c2_neb, c2_in1, un_lens, un_lenl, un_lent, un_lenc, un_ii, un_ib, un_all, un_neg, un_n0, un_nt, un_nl, op_addi, op_subi, ix_l, ix_t, e_cst, e_op, e_cmp, e_un, e_and, e_or, e_not, e_ifx, e_tup, e_lst, e_new, e_frz, e_idx, e_slc, e_rev, e_call, e_callm, e_calln, e_make, e_attr, e_isi, e_pop0, e_lc, e_seq, e_enum, e_rng, e_nil, e_cons, e_no, e_opt, x_skip, x_seq, x_asg, x_par, x_app, x_ext, x_setI, x_ret, x_ifs, x_for, x_whl, opK_v, cmpK_v, unK_v, idxK_v, slcK_v, revK_v, optK_v, isiK_v, boolK_t, boolK_f, notK_v, ifsK_t, ifsK_f, seqK_s, seqK_l, seqK_t, enumK_l, asgK_n, frz_v, pl_nil, pl_cons, fromP_ok, fromP_ex, Option.map_some, Option.map_none, List.getElem?_cons_zero, List.getElem?_cons_succ, List.set_cons_zero, List.set_cons_succ, Bool.not_true, Bool.not_false, d3, ct, at0]
      exact tail_ok fa (ft_turn1 fa fa1 fa2) _ _ _ _
    · have ct : ∀ m, callK (C 55) ix.l_turned [.v (toD a), .v (.int 2)] m = .ok (.v (toD (turn 2 a))) m := fun m => callK_ok rfl (turn2_ok 55 a (by omega))
      simp only [bnd_ok, bnd_ex, bnd_no, out_ok, out_ex, out_no, seq_nx, seq_rt, seq_ex, res_some, res_none, outR_rt, outR_nx, outR_ex, pureP_v, pureP_ex, see_v, ask_str, ask_int, ask_bl, ask_non, eqD_str, eqD_int, eqD_bl, eqD_non, e_var, varK_s, e_chain, chain_i, c2_lt, c2_le, c2_gt, c2_ge, c2_eqs, c2_nes, c2_eqi, c2_nei, c2_eqb, c2_neb, c2_in1, un_lens, un_lenl, un_lent, un_lenc, un_ii, un_ib, un_all, un_neg, un_n0, un_nt, un_nl, op_addi, op_subi, ix_l, ix_t, e_cst, e_op, e_cmp, e_un, e_and, e_or, e_not, e_ifx, e_tup, e_lst, e_new, e_frz, e_idx, e_slc, e_rev, e_call, e_callm, e_calln, e_make, e_attr, e_isi, e_pop0, e_lc, e_seq, e_enum, e_rng, e_nil, e_cons, e_no, e_opt, x_skip, x_seq, x_asg, x_par, x_app, x_ext, x_setI, x_ret, x_ifs, x_for, x_whl, opK_v, cmpK_v, unK_v, idxK_v, slcK_v, revK_v, optK_v, isiK_v, boolK_t, boolK_f, notK_v, ifsK_t, ifsK_f, seqK_s, seqK_l, seqK_t, enumK_l, asgK_n, frz_v, pl_nil, pl_cons, fromP_ok, fromP_ex, Option.map_some, Option.map_none, List.getElem?_cons_zero, List.getElem?_cons_succ, List.set_cons_zero, List.set_cons_succ, Bool.not_true, Bool.not_false, d3, ct, at0]
      exact tail_ok fa (ft_turn2 fa fa1 fa2) _ _ _ _
  · have d3 : decide (r0 < 3) = false := decide_eq_false h3
    simp only [bnd_ok, bnd_ex, bnd_no, out_ok, out_ex, out_no, seq_nx, seq_rt, seq_ex, res_some, res_none, outR_rt, outR_nx, outR_ex, pureP_v, pureP_ex, see_v, ask_str, ask_int, ask_bl, ask_non, eqD_str, eqD_int, eqD_bl, eqD_non, e_var, varK_s, e_chain, chain_i, c2_lt, c2_le, c2_gt, c2_ge, c2_eqs, c2_nes, c2_eqi, c2_nei, c2_eqb, c2_neb, c2_in1, un_lens, un_lenl, un_lent, un_lenc, un_ii, un_ib, un_all, un_neg, un_n0, un_nt, un_nl, op_addi, op_subi, ix_l, ix_t, e_cst, e_op, e_cmp, e_un, e_and, e_or, e_not, e_ifx, e_tup, e_lst, e_new, e_frz, e_idx, e_slc, e_rev, e_call, e_callm, e_calln, e_make, e_attr, e_isi, e_pop0, e_lc, e_seq, e_enum, e_rng, e_nil, e_cons, e_no, e_opt, x_skip, x_seq, x_asg, x_par, x_app, x_ext, x_setI, x_ret, x_ifs, x_for, x_whl, opK_v, cmpK_v, unK_v, idxK_v, slcK_v, revK_v, optK_v, isiK_v, boolK_t, boolK_f, notK_v, ifsK_t, ifsK_f, seqK_s, seqK_l, seqK_t, enumK_l, asgK_n, frz_v, pl_nil, pl_cons, fromP_ok, fromP_ex, Option.map_some, Option.map_none, List.getElem?_cons_zero, List.getElem?_cons_succ, List.set_cons_zero, List.set_cons_succ, Bool.not_true, Bool.not_false, d3]
    exact tail_ok fa fb _ _ _ _
end At.k03

namespace At.k03
open PySem L2 Evl He
open PySem.W PySem.Calls PyProof.Rows
abbrev Rw : PySem.W.OpenRow := PySem.W.OpenLaw.row PySem.Challenge.rw_allticked_k03_whole_formulas_compared
abbrev hk : PySem.W.Hook := px.hook Pg 4
def ob (s : PySem.W.SharedT) : AlX × Bool := px.obsG Pg 4 (HandSHeadRun.getT s)
theorem ob_eq (s : PySem.W.SharedT) : ob s = hk.obs s.abs := PX.obs_eq (HandSHeadRun.getT_eq s)
def loose0 : List PySem.Str := ["__name__", "TickError", "BadFormula", "__name__", "LETTERS", "LONGEST", "TAKEN_WORDS", "CONSTANTS", "is_letters", "is_name", "parts_at", "is_word", "signs_of", "read_any", "read_joined", "read_single"]
def loose1 : List PySem.Str := ["tree_of", "read_tree", "tree_words", "unlike_words", "tree_holds", "tree_text", "closed_text", "Formula", "chosen", "tree_choice", "choice", "formula_of", "__name__", "_law_cell", "_law_row", "_law_tree"]
def loose2 : List PySem.Str := ["_law_true", "_law_flat", "_law_text", "_law_close", "_law_words_of", "_law_turned", "_law_first", "_law_met"]
def loose : List PySem.Str := loose0 ++ loose1 ++ loose2
theorem run (w : World) : HandSHeadRun.RunEq Rw (PySem.W.view Rw.prog [40]) hk ob 8000 loose w := by
  intro os
  kernel_rfl
end At.k03
open PySem PySem.W PySem.Calls PyProof.Rows
theorem PySem.Challenge.cw_allticked_k03_whole_formulas_compared_holds : PySem.Challenge.rw_allticked_k03_whole_formulas_compared.Holds := by
  w_on; o_law
  refine HandSHeadRun.head_any (r := OpenLaw.row PySem.Challenge.rw_allticked_k03_whole_formulas_compared) (q := view (OpenLaw.row PySem.Challenge.rw_allticked_k03_whole_formulas_compared).prog [40]) (H := At.k03.hk) (ob := At.k03.ob) (M := 8000) (loose := At.k03.loose) (d := HandSHeadRun.topDef (OpenLaw.row PySem.Challenge.rw_allticked_k03_whole_formulas_compared).prog 40) (kwd := []) At.k03.ob_eq
    (by kernel_rfl) (fun s => by kernel_rfl) At.k03.run (by kernel_rfl) (by kernel_rfl) (by kernel_rfl) (by rfl) (by first | assumption | decide +kernel) (by decide +kernel) ⟨rfl, rfl, rfl, rfl, rfl, by decide +kernel⟩ ?hw ?hc
  case hw => w_witness2
  case hc =>
    exact At.walk_px (l := PySem.Challenge.rw_allticked_k03_whole_formulas_compared) (x := At.k03.px) (n := 56) (i := 30) (m := 4) (df0 := At.k03.df30) (a0 := "_law_script") rfl At.k03.pxok rfl (by kernel_rfl) rfl rfl (by kernel_rfl) ⟨rfl, by decide, by decide⟩ At.k03.law_ok

