import PyProof.Rows.All
import Wide.All
import OpenK.AllK
import Wide.FinOn
import HandS.ForMost
import HandS.Exc
import HandS.Flow
import HandS.Evl
import HandS.Text
import HandS.Walk
import HandS.CallSlots
import HandS.Defaults
import HandS.IsInst
import HandS.ExcOwn
import HandS.HeadHook2
import HandS.ExcValue
import HandS.TupAny
import HandS.Deep
import KE.KExcSuper
import KE.KExcMake
import HandS.ExcSuper
import KE.KExcIs
import HandS.ExcField
import HandS.RaiseMore
import HandS.Ends
import HandS.HeadEnd
import KE.KStateDown
import HandS.More
import HandS.Words
import HandS.WordsExc
import HandS.Head0
import HandS.Head1
import HandS.Head2
import PySem.Challenge.RW_allticked_k01_errors
set_option Elab.async false
set_option linter.all false
set_option maxRecDepth 100000
set_option maxHeartbeats 0
set_option autoImplicit false
/-! A small language over plain data, its evaluator. Frozen data are trees (D); what may still be changed stands in a store (Mu). -/
namespace At
open PySem

inductive D where
  | non | bl (b : Bool) | int (i : Int) | str (x : List Nat) | lst (xs : List D) | tup (xs : List D) | dic (kvs : List (D × D)) | obj (c : Nat) (fs : List (Nat × D)) | scr (ns : List Int)

inductive U where
  | v (d : D) | p (k : Nat)

inductive M where
  | lst (us : List U) | obj (c : Nat) (fs : List (Nat × U)) | fz (d : D)

abbrev Mu := List M
abbrev Ro := List (Option U)

inductive P where
  | ok (d : D) | ex (c : Nat) (fs : List (Nat × D)) | no

inductive R (α : Type) where
  | ok (a : α) (m : Mu) | ex (c : Nat) (fs : List (Nat × D)) (m : Mu) | no

def R.bnd {α β : Type} (r : R α) (f : α → Mu → R β) : R β := match r with
  | .ok a m => f a m
  | .ex c fs m => .ex c fs m
  | .no => .no

def Res {α : Type} (o : Option α) (m : Mu) : R α := match o with
  | some a => .ok a m
  | none => .no

/-! ### data -/
def lim : Nat := 1000000

mutual
def plain : D → Bool
  | .lst xs => plains xs
  | .tup xs => plains xs
  | .dic _ => false
  | .obj _ _ => false
  | .scr _ => false
  | _ => true
def plains : List D → Bool
  | [] => true
  | d :: ds => plain d && plains ds
end

mutual
def eqD : D → D → Bool
  | .non, .non => true
  | .bl a, .bl b => a == b
  | .bl a, .int j => (if a then 1 else 0) == j
  | .int i, .bl b => i == (if b then 1 else 0)
  | .int i, .int j => i == j
  | .str x, .str y => x == y
  | .lst xs, .lst ys => eqDs xs ys
  | .tup xs, .tup ys => eqDs xs ys
  | _, _ => false
def eqDs : List D → List D → Bool
  | [], [] => true
  | x :: xs, y :: ys => eqD x y && eqDs xs ys
  | _, _ => false
end

mutual
def deep : D → Nat
  | .lst xs => deeps xs + 1
  | .tup xs => deeps xs + 1
  | _ => 0
def deeps : List D → Nat
  | [] => 0
  | d :: ds => max (deep d) (deeps ds)
end

/-- data that == may be asked of -/
def askable (d : D) : Bool := plain d && decide (deep d ≤ 60)

/-- what is seen of a value -/
def plainU : List U → Option (List D)
  | [] => some []
  | .v d :: us => (plainU us).map (d :: ·)
  | .p _ :: _ => none
def plainF : List (Nat × U) → Option (List (Nat × D))
  | [] => some []
  | (f, .v d) :: us => (plainF us).map ((f, d) :: ·)
  | (_, .p _) :: _ => none
def seeM : M → Option D
  | .lst us => (plainU us).map D.lst
  | .obj c fs => (plainF fs).map (D.obj c)
  | .fz d => some d
def see (m : Mu) : U → Option D
  | .v d => some d
  | .p k => match m[k]? with
    | some x => seeM x
    | none => none
def sees (m : Mu) : List U → Option (List D)
  | [] => some []
  | u :: us => match see m u with
    | some d => (sees m us).map (d :: ·)
    | none => none

/-! ### operations -/
inductive Op where
  | add | sub | mul | fdiv | mod | pow
inductive Cm where
  | eq | ne | lt | le | gt | ge | in_ | nin
inductive Un where
  | len | int | str | tuple | list | all | any | sum | neg | isN | notN

def op2 : Op → D → D → Option D
  | .add, .int a, .int b => some (.int (a + b))
  | .add, .str x, .str y => if x.length + y.length ≤ lim then some (.str (x ++ y)) else none
  | .add, .lst x, .lst y => if x.length + y.length ≤ lim then some (.lst (x ++ y)) else none
  | .add, .tup x, .tup y => if x.length + y.length ≤ lim then some (.tup (x ++ y)) else none
  | .sub, .int a, .int b => some (.int (a - b))
  | .mul, .int a, .int b => if a.natAbs < 2 ^ 60 ∨ b.natAbs < 2 ^ 60 then some (.int (a * b)) else none
  | .mul, .lst x, .int k => if k.natAbs ≤ lim ∧ x.length * k.toNat ≤ lim then some (.lst (List.replicate k.toNat x).flatten) else none
  | .fdiv, .int a, .int b => if b ≠ 0 ∧ b.natAbs < 1073741824 then some (.int (a.fdiv b)) else none
  | .mod, .int a, .int b => if b ≠ 0 then some (.int (a.fmod b)) else none
  | .pow, .int a, .int b => if 0 ≤ b ∧ b ≤ 1000000 ∧ a.natAbs < 2 ^ 60 then some (.int (a ^ b.toNat)) else none
  | _, _, _ => none

/-- x in xs: the items, each == x -/
def inD (x : D) (xs : List D) : Bool := xs.any fun y => eqD y x
def cmp2 : Cm → D → D → Option Bool
  | .eq, x, y => if askable x && askable y then some (eqD x y) else none
  | .ne, x, y => if askable x && askable y then some (!eqD x y) else none
  | .lt, .int a, .int b => some (decide (a < b))
  | .le, .int a, .int b => some (decide (a ≤ b))
  | .gt, .int a, .int b => some (decide (b < a))
  | .ge, .int a, .int b => some (decide (b ≤ a))
  | .in_, .str [c], .str y => some (decide (c ∈ y))
  | .nin, .str [c], .str y => some (!decide (c ∈ y))
  | .in_, x, .lst ys => if askable x && askable (.lst ys) then some (inD x ys) else none
  | .nin, x, .lst ys => if askable x && askable (.lst ys) then some (!inD x ys) else none
  | .in_, x, .tup ys => if askable x && askable (.tup ys) then some (inD x ys) else none
  | .nin, x, .tup ys => if askable x && askable (.tup ys) then some (!inD x ys) else none
  | _, _, _ => none

def bools : List D → Option (List Bool)
  | [] => some []
  | .bl b :: r => (bools r).map (b :: ·)
  | _ :: _ => none
def intsD : List D → Option (List Int)
  | [] => some []
  | .int b :: r => (intsD r).map (b :: ·)
  | _ :: _ => none
/-- the digits of a number, as Python writes it -/
def digits (i : Int) : List Nat := (PySem.Str.ofString (toString i)).cps.toList
def un1 : Un → D → Option D
  | .len, .str x => some (.int x.length)
  | .len, .lst x => some (.int x.length)
  | .len, .tup x => some (.int x.length)
  | .len, .scr x => some (.int x.length)
  | .int, .int i => some (.int i)
  | .int, .bl b => some (.int (if b then 1 else 0))
  | .str, .int i => if i.natAbs < 2 ^ 100 ∧ (digits i).length ≤ lim ∧ (digits i).all (· < 0x110000) = true then some (.str (digits i)) else none
  | .str, .str x => some (.str x)
  | .tuple, .lst x => some (.tup x)
  | .tuple, .tup x => some (.tup x)
  | .list, .lst x => some (.lst x)
  | .list, .tup x => some (.lst x)
  | .all, .lst x => (bools x).map fun bs => .bl (bs.all id)
  | .any, .lst x => (bools x).map fun bs => .bl (bs.any id)
  | .sum, .lst x => (intsD x).map fun bs => .int bs.sum
  | .neg, .int i => some (.int (-i))
  | .isN, x => some (.bl (match x with | .non => true | _ => false))
  | .notN, x => some (.bl (match x with | .non => false | _ => true))
  | _, _ => none

def atD {α : Type} (xs : List α) (i : Int) : Option α := L2.atI xs i
def idx2 : D → D → Option D
  | .lst xs, .int i => atD xs i
  | .tup xs, .int i => atD xs i
  | .str x, .int i => (atD x i).map fun c => .str [c]
  | .scr x, .int i => (atD x i).map fun c => .int c
  | _, _ => none
def cutD {α : Type} (xs : List α) (lo hi : Option Int) : List α := (xs.drop (HT.sIx xs.length 0 lo)).take (HT.sIx xs.length xs.length hi - HT.sIx xs.length 0 lo)
def slc2 : D → Option Int → Option Int → Option D
  | .lst xs, lo, hi => some (.lst (cutD xs lo hi))
  | .tup xs, lo, hi => some (.tup (cutD xs lo hi))
  | .str xs, lo, hi => some (.str (cutD xs lo hi))
  | _, _, _ => none

/-! ### the language -/
inductive Tg where
  | nm (i : Nat) | tp (a : Tg) | nil | cons (a r : Tg)

inductive E where
  | var (i : Nat) | cst (d : D) | nil | cons (a r : E)
  | op (o : Op) (a b : E) | cmp (c : Cm) (a b : E) | chain (c c' : Cm) (a b z : E) | un (o : Un) (a : E)
  | and_ (a b : E) | or_ (a b : E) | not_ (a : E) | ifx (t a b : E)
  | tup (a : E) | lst (a : E) | new (a : E) | frz (a : E)
  | idx (a i : E) | slc (a lo hi : E) | opt (a : E)
  | call (f : Nat) (a : E) | make (c : Nat) (a : E) | meth (g : Nat) (a r : E) | attr (a : E) (f : Nat)
  | isi (a : E) (t : List Nat) | count (a b : E) | pop0 (a : E) | pop (a : E) | join (s a : E) | fst (a : E)
  | lc (vs : List Nat) (t : Tg) (it c e : E)
  | seq (a : E) | enum (a : E) | rng (a : E) | rng2 (a b : E) | zip (a b : E)

inductive S where
  | skip | seq (s t : S) | asg (t : Tg) (e : E) | par (i j : Nat) (a b : E) | exp (e : E)
  | app (a e : E) | ext (a e : E) | setI (a i e : E) | setF (a : E) (f : Nat) (e : E)
  | ret (e : E) | retN | ifs (t : E) (s u : S) | for_ (t : Tg) (it : E) (s : S) | whl (t : E) (s : S) | brk | ctn
  | rai (c : Nat) (a : E) | tryA (s : S) (c i : Nat) (h : S)

structure CE where
  fn : Nat → List D → P
  mkr : Nat → List D → P
  mt : Nat → Nat → Option Nat
  isa : Nat → Nat → Option Bool
  fld : Nat → Nat → Bool

/-- the kind of a datum; own classes behind 20 -/
def kindD : D → Option Nat
  | .non => some 0 | .bl _ => some 1 | .int _ => some 2 | .str _ => some 3 | .lst _ => some 4 | .tup _ => some 5 | .obj c _ => some (20 + c) | _ => none
def isiK (C : CE) (k : Nat) : List Nat → Option Bool
  | [] => some false
  | t :: r => match C.isa k t with
    | some true => some true
    | some false => isiK C k r
    | none => none
def isiD (C : CE) (ts : List Nat) (d : D) : Option Bool := match kindD d with
  | some k => isiK C k ts
  | none => none

mutual
def bindT : Tg → U → Ro → Option Ro
  | .nm i, u, ρ => some (ρ.set i (some u))
  | .tp a, .v (.tup ds), ρ => bindTs a ds ρ
  | _, _, _ => none
def bindTs : Tg → List D → Ro → Option Ro
  | .nil, [], ρ => some ρ
  | .cons a r, d :: ds, ρ => match bindT a (.v d) ρ with
    | some ρ' => bindTs r ds ρ'
    | none => none
  | _, _, _ => none
end
def wipeR (ρ : Ro) : List Nat → Ro
  | [] => ρ
  | v :: vs => (wipeR ρ vs).set v none

def fromP (m : Mu) : P → R U
  | .ok d => .ok (.v d) m
  | .ex c fs => .ex c fs m
  | .no => .no
def frzU (m : Mu) : U → R U
  | .v d => .ok (.v d) m
  | .p k => match m[k]? with
    | some x => match seeM x with
      | some d => .ok (.v d) (m.set k (.fz d))
      | none => .no
    | none => .no
/-- the items of a comprehension; no error leaves it -/
def lcL (f : U → Mu → R (Option D)) : List U → Mu → R (List D)
  | [], m => .ok [] m
  | u :: us, m => match f u m with
    | .ok o m1 => match lcL f us m1 with
      | .ok ds m2 => .ok (match o with | some d => d :: ds | none => ds) m2
      | _ => .no
    | _ => .no
def numbered : Nat → List D → List D
  | _, [] => []
  | n, d :: ds => .tup [.int n, d] :: numbered (n + 1) ds
def itemsD : D → Option (List D)
  | .lst xs => some xs
  | .tup xs => some xs
  | .str xs => some (xs.map fun c => .str [c])
  | _ => none
def rangeD (lo : Int) : Nat → List D
  | 0 => []
  | n + 1 => .int lo :: rangeD (lo + 1) n
def joinS (s : List Nat) : List (List Nat) → List Nat
  | [] => []
  | [x] => x
  | x :: y :: r => x ++ s ++ joinS s (y :: r)
def texts : List D → Option (List (List Nat))
  | [] => some []
  | .str x :: r => (texts r).map (x :: ·)
  | _ :: _ => none

/-- the place of a list in the store -/
def lstAt (m : Mu) : U → Option Nat
  | .p k => match m[k]? with
    | some (.lst _) => some k
    | _ => none
  | _ => none
mutual
def ev (C : CE) : E → Ro → Mu → R U
  | .var i, ρ, m => match ρ[i]? with
    | some (some u) => .ok u m
    | _ => .no
  | .cst d, _, m => .ok (.v d) m
  | .op o a b, ρ, m => (ev C a ρ m).bnd fun x m => (ev C b ρ m).bnd fun y m => match see m x, see m y with
    | some d, some e => Res ((op2 o d e).map U.v) m
    | _, _ => .no
  | .cmp c a b, ρ, m => (ev C a ρ m).bnd fun x m => (ev C b ρ m).bnd fun y m => match see m x, see m y with
    | some d, some e => Res (((cmp2 c d e).map D.bl).map U.v) m
    | _, _ => .no
  | .chain c c' a b z, ρ, m => (ev C a ρ m).bnd fun x m => (ev C b ρ m).bnd fun y m => match see m x, see m y with
    | some d, some e => match cmp2 c d e with
      | some true => (ev C z ρ m).bnd fun w m => match see m w with
        | some g => Res (((cmp2 c' e g).map D.bl).map U.v) m
        | none => .no
      | some false => .ok (.v (.bl false)) m
      | none => .no
    | _, _ => .no
  | .un o a, ρ, m => (ev C a ρ m).bnd fun x m => match see m x with
    | some d => Res ((un1 o d).map U.v) m
    | none => .no
  | .and_ a b, ρ, m => (ev C a ρ m).bnd fun x m => match x with
    | .v (.bl true) => ev C b ρ m
    | .v (.bl false) => .ok (.v (.bl false)) m
    | _ => .no
  | .or_ a b, ρ, m => (ev C a ρ m).bnd fun x m => match x with
    | .v (.bl true) => .ok (.v (.bl true)) m
    | .v (.bl false) => ev C b ρ m
    | _ => .no
  | .not_ a, ρ, m => (ev C a ρ m).bnd fun x m => match x with
    | .v (.bl b) => .ok (.v (.bl !b)) m
    | _ => .no
  | .ifx t a b, ρ, m => (ev C t ρ m).bnd fun x m => match x with
    | .v (.bl true) => ev C a ρ m
    | .v (.bl false) => ev C b ρ m
    | _ => .no
  | .tup a, ρ, m => (evs C a ρ m).bnd fun us m => match plainU us with
    | some ds => if ds.length ≤ lim then .ok (.v (.tup ds)) m else .no
    | none => .no
  | .lst a, ρ, m => (evs C a ρ m).bnd fun us m => match plainU us with
    | some ds => if ds.length ≤ lim then .ok (.v (.lst ds)) m else .no
    | none => .no
  | .new a, ρ, m => (evs C a ρ m).bnd fun us m => if us.length ≤ lim then .ok (.p m.length) (m ++ [.lst us]) else .no
  | .frz a, ρ, m => (ev C a ρ m).bnd fun x m => frzU m x
  | .idx a i, ρ, m => (ev C a ρ m).bnd fun x m => (ev C i ρ m).bnd fun y m => match see m x, see m y with
    | some d, some e => Res ((idx2 d e).map U.v) m
    | _, _ => .no
  | .slc a lo hi, ρ, m => (ev C a ρ m).bnd fun x m => (evo C lo ρ m).bnd fun i m => (evo C hi ρ m).bnd fun j m => match see m x with
    | some d => Res ((slc2 d i j).map U.v) m
    | none => .no
  | .call f a, ρ, m => (evs C a ρ m).bnd fun us m => match plainU us with
    | some ds => fromP m (C.fn f ds)
    | none => .no
  | .make c a, ρ, m => (evs C a ρ m).bnd fun us m => match plainU us with
    | some ds => fromP m (C.mkr c ds)
    | none => .no
  | .meth g a r, ρ, m => (ev C a ρ m).bnd fun x m => match x with
    | .v (.obj c fs) => match C.mt c g with
      | some f => (evs C r ρ m).bnd fun us m => match plainU us with
        | some ds => fromP m (C.fn f (.obj c fs :: ds))
        | none => .no
      | none => .no
    | _ => .no
  | .attr a f, ρ, m => (ev C a ρ m).bnd fun x m => match see m x with
    | some (.obj c fs) => if C.fld c f = true then Res ((fs.lookup f).map U.v) m else .no
    | _ => .no
  | .isi a t, ρ, m => (ev C a ρ m).bnd fun x m => match see m x with
    | some d => Res (((isiD C t d).map D.bl).map U.v) m
    | none => .no
  | .count a b, ρ, m => (ev C a ρ m).bnd fun x m => match x with
    | .v (.lst xs) => (ev C b ρ m).bnd fun y m => match y with
      | .v e => if askable (.lst xs) && askable e then .ok (.v (.int (xs.countP fun y => eqD y e : Nat))) m else .no
      | .p _ => .no
    | _ => .no
  | .pop0 a, ρ, m => (ev C a ρ m).bnd fun x m => match lstAt m x with
    | some k => match m[k]? with
      | some (.lst (u :: us)) => .ok u (m.set k (.lst us))
      | _ => .no
    | none => .no
  | .pop a, ρ, m => (ev C a ρ m).bnd fun x m => match lstAt m x with
    | some k => match m[k]? with
      | some (.lst us) => match us.getLast? with
        | some u => .ok u (m.set k (.lst us.dropLast))
        | none => .no
      | _ => .no
    | none => .no
  | .join s a, ρ, m => (ev C s ρ m).bnd fun x m => (ev C a ρ m).bnd fun y m => match x, see m y with
    | .v (.str t), some (.lst xs) => match texts xs with
      | some ts => if (joinS t ts).length ≤ lim then .ok (.v (.str (joinS t ts))) m else .no
      | none => .no
    | _, _ => .no
  | .fst a, ρ, m => (evs C a ρ m).bnd fun us m => match plainU us with
    | some ds => match texts ds with
      | some ts => if ts.flatten.length ≤ lim then .ok (.v (.str ts.flatten)) m else .no
      | none => .no
    | none => .no
  | .lc vs t it c e, ρ, m => (evi C it ρ m).bnd fun ds m => (lcL (fun u m => match bindT t u (wipeR ρ vs) with
      | some ρ' => (ev C c ρ' m).bnd fun b m => match b with
        | .v (.bl true) => (ev C e ρ' m).bnd fun z m => match z with
          | .v d => .ok (some d) m
          | .p _ => .no
        | .v (.bl false) => .ok none m
        | _ => .no
      | none => .no) (ds.map U.v) m).bnd fun xs m => .ok (.v (.lst xs)) m
  | _, _, _ => .no
def evs (C : CE) : E → Ro → Mu → R (List U)
  | .nil, _, m => .ok [] m
  | .cons a r, ρ, m => (ev C a ρ m).bnd fun u m => (evs C r ρ m).bnd fun us m => .ok (u :: us) m
  | _, _, _ => .no
def evo (C : CE) : E → Ro → Mu → R (Option Int)
  | .nil, _, m => .ok none m
  | .opt a, ρ, m => (ev C a ρ m).bnd fun u m => match u with
    | .v (.int i) => .ok (some i) m
    | _ => .no
  | _, _, _ => .no
def evi (C : CE) : E → Ro → Mu → R (List D)
  | .enum a, ρ, m => (ev C a ρ m).bnd fun u m => match u with
    | .v d => match d with
      | .lst xs => .ok (numbered 0 xs) m
      | _ => .no
    | _ => .no
  | .rng a, ρ, m => (ev C a ρ m).bnd fun u m => match u with
    | .v (.int i) => if i.natAbs ≤ lim then .ok (rangeD 0 i.toNat) m else .no
    | _ => .no
  | .rng2 a b, ρ, m => (ev C a ρ m).bnd fun u m => (ev C b ρ m).bnd fun w m => match u, w with
    | .v (.int i), .v (.int j) => if i.natAbs ≤ lim ∧ j.natAbs ≤ lim then .ok (rangeD i (j - i).toNat) m else .no
    | _, _ => .no
  | .zip a b, ρ, m => (ev C a ρ m).bnd fun u m => (ev C b ρ m).bnd fun w m => match u, w with
    | .v (.lst xs), .v (.lst ys) => .ok ((xs.zip ys).map fun q => .tup [q.1, q.2]) m
    | _, _ => .no
  | .seq a, ρ, m => (ev C a ρ m).bnd fun u m => match u with
    | .v d => Res (itemsD d) m
    | _ => .no
  | _, _, _ => .no
end

/-! ### statements -/
inductive O where
  | nx (ρ : Ro) (m : Mu) | rt (u : U) (m : Mu) | bk (ρ : Ro) (m : Mu) | ct (ρ : Ro) (m : Mu) | ex (c : Nat) (fs : List (Nat × D)) (ρ : Ro) (m : Mu) | no

def R.out {α : Type} (r : R α) (ρ : Ro) (f : α → Mu → O) : O := match r with
  | .ok a m => f a m
  | .ex c fs m => .ex c fs ρ m
  | .no => .no
def O.seq (o : O) (f : Ro → Mu → O) : O := match o with
  | .nx ρ m => f ρ m
  | o => o
def forL (f : D → Ro → Mu → O) : List D → Ro → Mu → O
  | [], ρ, m => .nx ρ m
  | d :: ds, ρ, m => match f d ρ m with
    | .nx ρ' m' => forL f ds ρ' m'
    | .ct ρ' m' => forL f ds ρ' m'
    | .bk ρ' m' => .nx ρ' m'
    | o => o
def whlL (t : Ro → Mu → R U) (f : Ro → Mu → O) : Nat → Ro → Mu → O
  | 0, _, _ => .no
  | n + 1, ρ, m => match t ρ m with
    | .ok u m => match u with
      | .v (.bl true) => match f ρ m with
        | .nx ρ' m' => whlL t f n ρ' m'
        | .ct ρ' m' => whlL t f n ρ' m'
        | .bk ρ' m' => .nx ρ' m'
        | o => o
      | .v (.bl false) => .nx ρ m
      | _ => .no
    | .ex c fs m => .ex c fs ρ m
    | .no => .no
def putF (fs : List (Nat × U)) (f : Nat) (u : U) : List (Nat × U) := match fs with
  | [] => [(f, u)]
  | (g, w) :: r => if g = f then (g, u) :: r else (g, w) :: putF r f u
/-- the turns of a while at most -/
def turns : Nat := 1000000

def xs (C : CE) : S → Ro → Mu → O
  | .skip, ρ, m => .nx ρ m
  | .seq s t, ρ, m => (xs C s ρ m).seq fun ρ m => xs C t ρ m
  | .asg t e, ρ, m => (ev C e ρ m).out ρ fun u m => match bindT t u ρ with
    | some ρ' => .nx ρ' m
    | none => .no
  | .par i j a b, ρ, m => (ev C a ρ m).out ρ fun u m => (ev C b ρ m).out ρ fun w m => .nx ((ρ.set i (some u)).set j (some w)) m
  | .exp e, ρ, m => (ev C e ρ m).out ρ fun _ m => .nx ρ m
  | .app a e, ρ, m => (ev C a ρ m).out ρ fun u m => match lstAt m u with
    | some k => (ev C e ρ m).out ρ fun w m => match m[k]? with
      | some (.lst us) => if us.length < lim then .nx ρ (m.set k (.lst (us ++ [w]))) else .no
      | _ => .no
    | none => .no
  | .ext a e, ρ, m => (ev C a ρ m).out ρ fun u m => match lstAt m u with
    | some k => (ev C e ρ m).out ρ fun w m => match m[k]?, see m w with
      | some (.lst us), some (.lst ds) => if us.length + ds.length ≤ lim then .nx ρ (m.set k (.lst (us ++ ds.map U.v))) else .no
      | _, _ => .no
    | none => .no
  | .setI a i e, ρ, m => (ev C e ρ m).out ρ fun w m => (ev C a ρ m).out ρ fun u m => (ev C i ρ m).out ρ fun j m => match u, j with
    | .p k, .v (.int i) => match m[k]? with
      | some (.lst us) => match L2.ixN us.length i with
        | some n => .nx ρ (m.set k (.lst (us.set n w)))
        | none => .no
      | _ => .no
    | _, _ => .no
  | .setF a f e, ρ, m => (ev C e ρ m).out ρ fun w m => (ev C a ρ m).out ρ fun u m => match u with
    | .p k => match m[k]? with
      | some (.obj c fs) => if C.fld c f = true ∧ fs.length < 100 then .nx ρ (m.set k (.obj c (putF fs f w))) else .no
      | _ => .no
    | _ => .no
  | .ret e, ρ, m => (ev C e ρ m).out ρ fun u m => .rt u m
  | .retN, _, m => .rt (.v .non) m
  | .ifs t s u, ρ, m => (ev C t ρ m).out ρ fun x m => match x with
    | .v (.bl true) => xs C s ρ m
    | .v (.bl false) => xs C u ρ m
    | _ => .no
  | .for_ t it s, ρ, m => (evi C it ρ m).out ρ fun ds m => forL (fun d ρ m => match bindT t (.v d) ρ with
      | some ρ' => xs C s ρ' m
      | none => .no) ds ρ m
  | .whl t s, ρ, m => whlL (fun ρ m => ev C t ρ m) (fun ρ m => xs C s ρ m) turns ρ m
  | .brk, ρ, m => .bk ρ m
  | .ctn, ρ, m => .ct ρ m
  | .rai c a, ρ, m => (evs C a ρ m).out ρ fun us m => match plainU us with
    | some ds => match C.mkr c ds with
      | .ok (.obj c' fs) => .ex c' fs ρ m
      | _ => .no
    | none => .no
  | .tryA s c i h, ρ, m => .no

/-- the body of a def: its slots, its parameters -/
structure Fn where
  ar : Nat
  slots : Nat
  body : S
def startR (n : Nat) (ds : List D) : Ro := ds.map (fun d => some (U.v d)) ++ List.replicate (n - ds.length) none
def runP (o : O) : P := match o with
  | .nx _ _ => .ok .non
  | .rt (.v d) _ => .ok d
  | .ex c fs _ _ => .ex c fs
  | _ => .no
def Fn.run (C : CE) (f : Fn) (ds : List D) : P := if ds.length = f.ar then runP (xs C f.body (startR f.slots ds) []) else .no
end At

/-! What a value of the heap stands for. -/
namespace At
open PySem L2 Evl
abbrev Fg := PySem.W.Frag

/-- names of classes and of fields -/
structure Tb where
  cn : Nat → Str
  fn : Nat → Str
  /-- an error's class -/
  ix : Nat → Bool
def cl (K : Fg) (T : Tb) (c : Nat) : Addr := He.ga K (T.cn c)

/-- an exception that is held as a value: its object, its own dict at d -/
def XO (cls : Value) (d : Addr) (a : Addr) : HO := .ext fun h => ∃ (oe : Obj) (vs : Array Value), h.get? a = some oe ∧ Zc cls (some d) oe ∧ oe.data = .fields vs ∧ vs[1]? = some .none ∧ vs[2]? = some .none ∧ 4 < vs.size

mutual
inductive Rp (K : Fg) (T : Tb) (B : Hp) : V → D → Prop
  | non : Rp K T B .non .non
  | bl (b : Bool) : Rp K T B (.bl b) (.bl b)
  | int (i : Int) : Rp K T B (.int i) (.int i)
  | str (x : Str) : x.length ≤ lim → PyData.strOk x = true → Rp K T B (.str x) (.str x.cps.toList)
  | scr {a : Addr} {ns : List Int} : SqL K B a (ns.map V.int) → Rp K T B (.ref a) (.scr ns)
  | lst {a : Addr} {xs : List V} {ds : List D} : B a = some (.lst xs) → xs.length ≤ lim → Rps K T B xs ds → Rp K T B (.ref a) (.lst ds)
  | tup {a : Addr} {xs : List V} {ds : List D} : SqT K B a xs → xs.length ≤ lim → Rps K T B xs ds → Rp K T B (.ref a) (.tup ds)
  | obj {a dx : Addr} {c : Nat} {fv : List (Str × V)} {fs : List (Nat × D)} : T.ix c = false → B a = some (.ins (cl K T c) dx fv) → B dx = some (.own a) → Rpf K T B fv fs → Rp K T B (.ref a) (.obj c fs)
  | exc {a dx : Addr} {c : Nat} {fv : List (Str × V)} {fs : List (Nat × D)} : T.ix c = true → B a = some (XO (.ref (cl K T c)) dx a) → B dx = some (.xd fv) → Rpf K T B fv fs → Rp K T B (.ref a) (.obj c fs)
  | ex0 {a : Addr} {c : Nat} : T.ix c = true → B a = some (ExO (.ref (cl K T c)) a) → Rp K T B (.ref a) (.obj c [])
inductive Rps (K : Fg) (T : Tb) (B : Hp) : List V → List D → Prop
  | nil : Rps K T B [] []
  | cons {v : V} {vs : List V} {d : D} {ds : List D} : Rp K T B v d → Rps K T B vs ds → Rps K T B (v :: vs) (d :: ds)
inductive Rpf (K : Fg) (T : Tb) (B : Hp) : List (Str × V) → List (Nat × D) → Prop
  | nil : Rpf K T B [] []
  | cons {f : Nat} {v : V} {vs : List (Str × V)} {d : D} {ds : List (Nat × D)} : Rp K T B v d → Rpf K T B vs ds → Rpf K T B ((T.fn f, v) :: vs) ((f, d) :: ds)
end

section
variable {K : Fg} {T : Tb} {B B' : Hp}
mutual
theorem Rp.mono (e : Ex B B') : ∀ {d : D} {v : V}, Rp K T B v d → Rp K T B' v d
  | _, _, .non => .non
  | _, _, .bl b => .bl b
  | _, _, .int i => .int i
  | _, _, .str x h o => .str x h o
  | _, _, .scr h => .scr (ex_l e h)
  | _, _, .lst h z r => .lst (e _ _ h) z (Rps.mono e r)
  | _, _, .tup h z r => .tup (ex_t e h) z (Rps.mono e r)
  | _, _, .obj i h g r => .obj i (e _ _ h) (e _ _ g) (Rpf.mono e r)
  | _, _, .exc i h g r => .exc i (e _ _ h) (e _ _ g) (Rpf.mono e r)
  | _, _, .ex0 i h => .ex0 i (e _ _ h)
theorem Rps.mono (e : Ex B B') : ∀ {ds : List D} {vs : List V}, Rps K T B vs ds → Rps K T B' vs ds
  | _, _, .nil => .nil
  | _, _, .cons r q => .cons (Rp.mono e r) (Rps.mono e q)
theorem Rpf.mono (e : Ex B B') : ∀ {ds : List (Nat × D)} {vs : List (Str × V)}, Rpf K T B vs ds → Rpf K T B' vs ds
  | _, _, .nil => .nil
  | _, _, .cons r q => .cons (Rp.mono e r) (Rpf.mono e q)
end
theorem Rps.len : ∀ {vs : List V} {ds : List D}, Rps K T B vs ds → vs.length = ds.length
  | _, _, .nil => rfl
  | _, _, .cons _ q => by rw [List.length_cons, List.length_cons, Rps.len q]
theorem Rps.get : ∀ {vs : List V} {ds : List D} {i : Nat} {d : D}, Rps K T B vs ds → ds[i]? = some d → ∃ v, vs[i]? = some v ∧ Rp K T B v d
  | _, _, _, _, .nil, e => by simp at e
  | _, _, 0, _, .cons r _, e => by simp at e; subst e; exact ⟨_, rfl, r⟩
  | _, _, i + 1, _, .cons _ q, e => by
    obtain ⟨v, h1, h2⟩ := Rps.get (i := i) q (by simpa using e)
    exact ⟨v, by simpa using h1, h2⟩
theorem Rps.app : ∀ {vs ws : List V} {ds es : List D}, Rps K T B vs ds → Rps K T B ws es → Rps K T B (vs ++ ws) (ds ++ es)
  | _, _, _, _, .nil, q => q
  | _, _, _, _, .cons r t, q => .cons r (Rps.app t q)
theorem Rps.take : ∀ {vs : List V} {ds : List D} (n : Nat), Rps K T B vs ds → Rps K T B (vs.take n) (ds.take n)
  | _, _, 0, _ => .nil
  | _, _, _ + 1, .nil => .nil
  | _, _, n + 1, .cons r q => .cons r (Rps.take n q)
theorem Rps.drop : ∀ {vs : List V} {ds : List D} (n : Nat), Rps K T B vs ds → Rps K T B (vs.drop n) (ds.drop n)
  | _, _, 0, r => r
  | _, _, _ + 1, .nil => .nil
  | _, _, n + 1, .cons _ q => Rps.drop n q
theorem Rps.set {v : V} {d : D} (r : Rp K T B v d) : ∀ {vs : List V} {ds : List D} (n : Nat), Rps K T B vs ds → Rps K T B (vs.set n v) (ds.set n d)
  | _, _, _, .nil => .nil
  | _, _, 0, .cons _ q => .cons r q
  | _, _, n + 1, .cons x q => .cons x (Rps.set r n q)
end

/-! ### values that may point into the store -/
def Ru (K : Fg) (T : Tb) (n : Nat) (π : Nat → Addr) (B : Hp) : V → U → Prop
  | v, .v d => Rp K T B v d
  | v, .p k => k < n ∧ v = .ref (π k)
abbrev Rus (K : Fg) (T : Tb) (n : Nat) (π : Nat → Addr) (B : Hp) : List V → List U → Prop := Paired (Ru K T n π B)
abbrev Ruf (K : Fg) (T : Tb) (n : Nat) (π : Nat → Addr) (B : Hp) : List (Str × V) → List (Nat × U) → Prop := Paired fun p q => p.1 = T.fn q.1 ∧ Ru K T n π B p.2 q.2

def Cell (K : Fg) (T : Tb) (n : Nat) (π : Nat → Addr) (B H : Hp) (a : Addr) : M → Prop
  | .lst us => B a = none ∧ ∃ xs, H a = some (.lst xs) ∧ xs.length ≤ lim ∧ Rus K T n π B xs us
  | .obj c fs => B a = none ∧ T.ix c = false ∧ ∃ dx fv, H a = some (.ins (cl K T c) dx fv) ∧ H dx = some (.own a) ∧ Ruf K T n π B fv fs
  | .fz d => Rp K T B (.ref a) d

structure Sto (K : Fg) (T : Tb) (π : Nat → Addr) (B H : Hp) (m : Mu) : Prop where
  ex : Ex B H
  inj : ∀ i j, i < m.length → j < m.length → π i = π j → i = j
  dom : ∀ k, k < m.length → ∃ o, H (π k) = some o ∧ ∀ y, o ≠ .own y
  cell : ∀ k x, m[k]? = some x → Cell K T m.length π B H (π k) x

structure Step (K : Fg) (T : Tb) (π : Nat → Addr) (B H : Hp) (m : Mu) (π' : Nat → Addr) (B' H' : Hp) (m' : Mu) : Prop where
  st : Sto K T π' B' H' m'
  pi : ∀ k, k < m.length → π' k = π k
  len : m.length ≤ m'.length
  ex : Ex B B'
  keep : ∀ a o, H a = some o → (∀ k, k < m.length → a ≠ π k) → H' a = some o
  new : ∀ k, m.length ≤ k → k < m'.length → H (π' k) = none
  noab : ∀ a o, H a = some o → (∀ k, k < m.length → a ≠ π k) → (∀ y, o ≠ .own y) → B' a = B a

section
variable {K : Fg} {T : Tb} {n n' : Nat} {π π' π2 : Nat → Addr} {B B' B2 H H' H2 : Hp} {m m' m2 : Mu} {v : V} {u : U}
theorem Ru.mono (hn : n ≤ n') (hp : ∀ k, k < n → π' k = π k) (e : Ex B B') (r : Ru K T n π B v u) : Ru K T n' π' B' v u := by
  cases u with
  | v d => exact Rp.mono e r
  | p k =>
    obtain ⟨h1, h2⟩ := r
    exact ⟨Nat.lt_of_lt_of_le h1 hn, by rw [h2, hp k h1]⟩
theorem Rus.mono (hn : n ≤ n') (hp : ∀ k, k < n → π' k = π k) (e : Ex B B') {vs : List V} {us : List U} (r : Rus K T n π B vs us) : Rus K T n' π' B' vs us := L2.Paired.mapP r fun _ _ q => Ru.mono hn hp e q
theorem Ruf.mono (hn : n ≤ n') (hp : ∀ k, k < n → π' k = π k) (e : Ex B B') {vs : List (Str × V)} {us : List (Nat × U)} (r : Ruf K T n π B vs us) : Ruf K T n' π' B' vs us := L2.Paired.mapP r fun _ _ q => ⟨q.1, Ru.mono hn hp e q.2⟩
theorem Step.ru (s : Step K T π B H m π' B' H' m') (r : Ru K T m.length π B v u) : Ru K T m'.length π' B' v u := Ru.mono s.len s.pi s.ex r
theorem Step.refl (s : Sto K T π B H m) : Step K T π B H m π B H m := ⟨s, fun _ _ => rfl, Nat.le_refl _, Ex.refl B, fun _ _ h _ => h, fun k h1 h2 => absurd h2 (Nat.not_lt.mpr h1), fun _ _ _ _ _ => rfl⟩
theorem Step.trans (s : Step K T π B H m π' B' H' m') (t : Step K T π' B' H' m' π2 B2 H2 m2) : Step K T π B H m π2 B2 H2 m2 := by
  have out : ∀ a o, H a = some o → (∀ k, k < m.length → a ≠ π k) → ∀ k, k < m'.length → a ≠ π' k := fun a o h hk k hk' e => by
    by_cases c : k < m.length
    · rw [s.pi k c] at e
      exact hk k c e
    · rw [e, s.new k (Nat.le_of_not_lt c) hk'] at h
      cases h
  refine ⟨t.st, fun k hk => by rw [t.pi k (Nat.lt_of_lt_of_le hk s.len), s.pi k hk], Nat.le_trans s.len t.len, s.ex.trans t.ex, fun a o h hk => t.keep a o (s.keep a o h hk) (out a o h hk), fun k h1 h2 => ?_, fun a o h hk ho => ?_⟩
  · by_cases c : k < m'.length
    · rw [t.pi k c]
      exact s.new k h1 c
    · cases e : H (π2 k) with
      | none => rfl
      | some o =>
        by_cases d : ∃ j, j < m.length ∧ π2 k = π j
        · obtain ⟨j, hj, ej⟩ := d
          have hj' : j < m'.length := Nat.lt_of_lt_of_le hj s.len
          have e3 : π2 k = π2 j := by rw [ej, t.pi j hj', s.pi j hj]
          have := t.st.inj k j h2 (Nat.lt_of_lt_of_le hj' t.len) e3
          omega
        · have hk : ∀ j, j < m.length → π2 k ≠ π j := fun j hj z => d ⟨j, hj, z⟩
          have q := s.keep _ _ e hk
          rw [t.new k (Nat.le_of_not_lt c) h2] at q
          cases q
  · rw [t.noab a o (s.keep a o h hk) (out a o h hk) ho]
    exact s.noab a o h hk ho
end
end At

/-! Readings by the evaluator; expressions. -/
namespace At
open PySem L2 Evl
abbrev Jt := L2.St → Hp → Prop

structure Slots (K : Fg) (T : Tb) (n : Nat) (π : Nat → Addr) (B : Hp) (σ : L2.St) (ρ : Ro) : Prop where
  len : σ.length = ρ.length
  at_ : ∀ (i : Nat) (u : U), ρ[i]? = some (some u) → ∃ v, σ[i]? = some (some v) ∧ Ru K T n π B v u

structure Bs (K : Fg) (T : Tb) (J : Jt) (π : Nat → Addr) (B H : Hp) (m : Mu) (σ : L2.St) (ρ : Ro) : Prop where
  st : Sto K T π B H m
  sl : Slots K T m.length π B σ ρ
  j : J σ B

def Mono (J : Jt) : Prop := ∀ σ B B', Ex B B' → J σ B → J σ B'
def J0 : Jt := fun _ _ => True
theorem mono0 : Mono J0 := fun _ _ _ _ h => h

abbrev Rel (α β : Type) := Nat → (Nat → Addr) → Hp → β → α → Prop

def Want {α β : Type} (rel : Rel α β) (K : Fg) (T : Tb) (W : WX) (σ : L2.St) (π : Nat → Addr) (B H : Hp) (m : Mu) (r : R α) (Q : β → Hp → Prop) : Prop := match r with
  | .ok a m' => ∀ b H' π' B', Step K T π B H m π' B' H' m' → rel m'.length π' B' b a → Q b H'
  | .ex c fs m' => ∀ x xs H' π' B', Step K T π B H m π' B' H' m' → B' x = some (.xd xs) → Rpf K T B' xs fs → W (.ref (cl K T c)) (some x) σ H'
  | .no => False

section
variable {K : Fg} {T : Tb} {C : CE} {W : WX} {J : Jt} {σ : L2.St} {ρ : Ro} {π π' : Nat → Addr} {B B' H H' : Hp} {m m' : Mu} {α β γ δ : Type}

theorem Slots.step (s : Step K T π B H m π' B' H' m') (h : Slots K T m.length π B σ ρ) : Slots K T m'.length π' B' σ ρ :=
  ⟨h.len, fun i u e => let ⟨v, h1, h2⟩ := h.at_ i u e; ⟨v, h1, s.ru h2⟩⟩
theorem Bs.step (hJ : Mono J) (b : Bs K T J π B H m σ ρ) (s : Step K T π B H m π' B' H' m') : Bs K T J π' B' H' m' σ ρ := ⟨s.st, b.sl.step s, hJ _ _ _ s.ex b.j⟩
theorem Want.rebase {rel : Rel α β} {r : R α} {Q : β → Hp → Prop} (w : Want rel K T W σ π B H m r Q) (s : Step K T π B H m π' B' H' m') : Want rel K T W σ π' B' H' m' r Q := by
  cases r with
  | ok a m2 => exact fun b H2 π2 B2 t q => w b H2 π2 B2 (s.trans t) q
  | ex c fs m2 => exact fun x xs H2 π2 B2 t q1 q2 => w x xs H2 π2 B2 (s.trans t) q1 q2
  | no => exact w
theorem Want.imp {rel : Rel α β} {r : R α} {Q Q' : β → Hp → Prop} (w : Want rel K T W σ π B H m r Q) (h : ∀ b H', Q b H' → Q' b H') : Want rel K T W σ π B H m r Q' := by
  cases r with
  | ok a m2 => exact fun b H2 π2 B2 t q => h _ _ (w b H2 π2 B2 t q)
  | ex c fs m2 => exact w
  | no => exact w
/-- a first part, then the rest -/
theorem Want.bnd {rel : Rel α β} {rel2 : Rel γ δ} {r : R α} {f : α → Mu → R γ} {Q : δ → Hp → Prop} {G : β → Hp → Prop} (w : Want rel2 K T W σ π B H m (r.bnd f) Q)
    (k : ∀ b H1 π1 B1 m1 a, Step K T π B H m π1 B1 H1 m1 → rel m1.length π1 B1 b a → Want rel2 K T W σ π1 B1 H1 m1 (f a m1) Q → G b H1) : Want rel K T W σ π B H m r G := by
  cases r with
  | ok a m1 => exact fun b H1 π1 B1 s q => k b H1 π1 B1 m1 a s q (Want.rebase (show Want rel2 K T W σ π B H m (f a m1) Q from w) s)
  | ex c fs m2 => exact w
  | no => exact w

def RU (K : Fg) (T : Tb) : Rel U V := fun n π B v u => Ru K T n π B v u
def RUs (K : Fg) (T : Tb) : Rel (List U) (List V) := fun n π B v u => Rus K T n π B v u

def tE (K : Fg) (T : Tb) (C : CE) (W : WX) (J : Jt) (e : E) : TE := fun σ H Q => ∃ π B m ρ, Bs K T J π B H m σ ρ ∧ Want (RU K T) K T W σ π B H m (ev C e ρ m) Q
def tEs (K : Fg) (T : Tb) (C : CE) (W : WX) (J : Jt) (e : E) : TA := fun σ H Q => ∃ π B m ρ, Bs K T J π B H m σ ρ ∧ Want (RUs K T) K T W σ π B H m (evs C e ρ m) Q

theorem tE_bnd (hJ : Mono J) {rel : Rel γ δ} {e : E} {f : U → Mu → R γ} {Q : δ → Hp → Prop} {G : V → Hp → Prop} (b : Bs K T J π B H m σ ρ) (w : Want rel K T W σ π B H m ((ev C e ρ m).bnd f) Q)
    (k : ∀ v H1 π1 B1 m1 u, Step K T π B H m π1 B1 H1 m1 → Bs K T J π1 B1 H1 m1 σ ρ → Ru K T m1.length π1 B1 v u → Want rel K T W σ π1 B1 H1 m1 (f u m1) Q → G v H1) : tE K T C W J e σ H G :=
  ⟨π, B, m, ρ, b, w.bnd fun v H1 π1 B1 m1 u s q w1 => k v H1 π1 B1 m1 u s (b.step hJ s) q w1⟩
theorem tEs_bnd (hJ : Mono J) {rel : Rel γ δ} {e : E} {f : List U → Mu → R γ} {Q : δ → Hp → Prop} {G : List V → Hp → Prop} (b : Bs K T J π B H m σ ρ) (w : Want rel K T W σ π B H m ((evs C e ρ m).bnd f) Q)
    (k : ∀ v H1 π1 B1 m1 u, Step K T π B H m π1 B1 H1 m1 → Bs K T J π1 B1 H1 m1 σ ρ → Rus K T m1.length π1 B1 v u → Want rel K T W σ π1 B1 H1 m1 (f u m1) Q → G v H1) : tEs K T C W J e σ H G :=
  ⟨π, B, m, ρ, b, w.bnd fun v H1 π1 B1 m1 u s q w1 => k v H1 π1 B1 m1 u s (b.step hJ s) q w1⟩

/-! ### new frozen things -/
structure New (B H B' H' : Hp) : Prop where
  ex : Ex B B'
  exH : Ex H H'
  sub : Ex B' H'
  noab : ∀ a o, H a = some o → (∀ y, o ≠ .own y) → B' a = B a
theorem New.refl (h : Ex B H) : New B H B H := ⟨Ex.refl _, Ex.refl _, h, fun _ _ _ _ => rfl⟩
theorem New.one (h : Ex B H) {p : Addr} {o : HO} (hp : H p = none) : New B H (upd B p o) (upd H p o) where
  ex := Ex.new (fresh_back h hp)
  exH := Ex.new hp
  sub := fun a u e => by
    by_cases c : a = p
    · subst c
      rw [upd_same] at e ⊢
      exact e
    · rw [upd_ne c] at e ⊢
      exact h a u e
  noab := fun a u e _ => upd_ne (ne_of_none e hp)
theorem Sto.new (s : Sto K T π B H m) (w : New B H B' H') : Sto K T π B' H' m where
  ex := w.sub
  inj := s.inj
  dom := fun k hk => let ⟨o, h, n⟩ := s.dom k hk; ⟨o, w.exH _ _ h, n⟩
  cell := fun k x e => by
    have h := s.cell k x e
    cases x with
    | lst us =>
      obtain ⟨h1, xs, h2, h3, h4⟩ := h
      exact ⟨(w.noab _ _ h2 fun _ z => nomatch z).trans h1, xs, w.exH _ _ h2, h3, Rus.mono (Nat.le_refl _) (fun _ _ => rfl) w.ex h4⟩
    | obj c fs =>
      obtain ⟨h1, hi, dx, fv, h2, h3, h4⟩ := h
      exact ⟨(w.noab _ _ h2 fun _ z => nomatch z).trans h1, hi, dx, fv, w.exH _ _ h2, w.exH _ _ h3, Ruf.mono (Nat.le_refl _) (fun _ _ => rfl) w.ex h4⟩
    | fz d => exact Rp.mono w.ex h
theorem New.step (s : Sto K T π B H m) (w : New B H B' H') : Step K T π B H m π B' H' m :=
  ⟨s.new w, fun _ _ => rfl, Nat.le_refl _, w.ex, fun a o h _ => w.exH a o h, fun k h1 h2 => absurd h2 (Nat.not_lt.mpr h1), fun a o h _ hn => w.noab a o h hn⟩

/-! ### what is seen -/
/-- shallow in H, the parts in B -/
inductive Rq (K : Fg) (T : Tb) (B H : Hp) : V → D → Prop
  | non : Rq K T B H .non .non
  | bl (b : Bool) : Rq K T B H (.bl b) (.bl b)
  | int (i : Int) : Rq K T B H (.int i) (.int i)
  | str (x : Str) : x.length ≤ lim → PyData.strOk x = true → Rq K T B H (.str x) (.str x.cps.toList)
  | scr {a : Addr} {ns : List Int} : SqL K H a (ns.map V.int) → Rq K T B H (.ref a) (.scr ns)
  | lst {a : Addr} {xs : List V} {ds : List D} : H a = some (.lst xs) → xs.length ≤ lim → Rps K T B xs ds → Rq K T B H (.ref a) (.lst ds)
  | tup {a : Addr} {xs : List V} {ds : List D} : SqT K B a xs → xs.length ≤ lim → Rps K T B xs ds → Rq K T B H (.ref a) (.tup ds)
  | obj {a dx : Addr} {c : Nat} {fv : List (Str × V)} {fs : List (Nat × D)} : T.ix c = false → H a = some (.ins (cl K T c) dx fv) → H dx = some (.own a) → Rpf K T B fv fs → Rq K T B H (.ref a) (.obj c fs)
  | exc {a dx : Addr} {c : Nat} {fv : List (Str × V)} {fs : List (Nat × D)} : T.ix c = true → H a = some (XO (.ref (cl K T c)) dx a) → H dx = some (.xd fv) → Rpf K T B fv fs → Rq K T B H (.ref a) (.obj c fs)
  | ex0 {a : Addr} {c : Nat} : T.ix c = true → H a = some (ExO (.ref (cl K T c)) a) → Rq K T B H (.ref a) (.obj c [])
theorem Rp.rq {v : V} {d : D} (e : Ex B H) (h : Rp K T B v d) : Rq K T B H v d := by
  cases h with
  | non => exact .non
  | bl b => exact .bl b
  | int i => exact .int i
  | str x h o => exact .str x h o
  | scr h => exact .scr (ex_l e h)
  | lst h z r => exact .lst (e _ _ h) z r
  | tup h z r => exact .tup h z r
  | obj i h g r => exact .obj i (e _ _ h) (e _ _ g) r
  | exc i h g r => exact .exc i (e _ _ h) (e _ _ g) r
  | ex0 i h => exact .ex0 i (e _ _ h)
theorem Rq.rp {v : V} {d : D} (e : Ex B H) (h : Rq K T B H v d) : Rp K T H v d := by
  cases h with
  | non => exact .non
  | bl b => exact .bl b
  | int i => exact .int i
  | str x h o => exact .str x h o
  | scr h => exact .scr h
  | lst h z r => exact .lst h z (r.mono e)
  | tup h z r => exact .tup (ex_t e h) z (r.mono e)
  | obj i h g r => exact .obj i h g (r.mono e)
  | exc i h g r => exact .exc i h g (r.mono e)
  | ex0 i h => exact .ex0 i h
theorem plainU_ok {n : Nat} : ∀ {xs : List V} {us : List U} {ds : List D}, Rus K T n π B xs us → plainU us = some ds → Rps K T B xs ds
  | _, _, _, .nil, e => by cases e; exact .nil
  | _, _, _, .cons (a := v) (b := u) r q, e => by
    cases u with
    | v d =>
      unfold plainU at e
      obtain ⟨r', e1, e2⟩ := Option.map_eq_some_iff.mp e
      subst e2
      exact .cons r (plainU_ok q e1)
    | p k => cases e
theorem plainF_ok {n : Nat} : ∀ {xs : List (Str × V)} {us : List (Nat × U)} {ds : List (Nat × D)}, Ruf K T n π B xs us → plainF us = some ds → Rpf K T B xs ds
  | _, _, _, .nil, e => by cases e; exact .nil
  | _, _, _, .cons (a := ⟨x, v⟩) (b := ⟨f, u⟩) r q, e => by
    obtain ⟨r1, r2⟩ := r
    dsimp only at r1 r2
    subst r1
    cases u with
    | v d =>
      unfold plainF at e
      obtain ⟨r', e1, e2⟩ := Option.map_eq_some_iff.mp e
      subst e2
      exact .cons r2 (plainF_ok q e1)
    | p k => cases e
theorem see_ok {v : V} {u : U} {d : D} (s : Sto K T π B H m) (r : Ru K T m.length π B v u) (e : see m u = some d) : Rq K T B H v d := by
  cases u with
  | v d' =>
    cases e
    exact Rp.rq s.ex r
  | p k =>
    obtain ⟨hk, rfl⟩ := r
    replace e : (match m[k]? with | some x => seeM x | none => none) = some d := e
    cases q : m[k]? with
    | none =>
      rw [q] at e
      cases e
    | some x =>
      rw [q] at e
      have c := s.cell k x q
      have e' : seeM x = some d := e
      cases x with
      | lst us =>
        obtain ⟨_, xs, h2, h3, h4⟩ := c
        obtain ⟨ds, e1, e2⟩ := Option.map_eq_some_iff.mp e'
        subst e2
        exact .lst h2 h3 (plainU_ok h4 e1)
      | obj c' fs =>
        obtain ⟨_, hi, dx, fv, h2, h3, h4⟩ := c
        obtain ⟨ds, e1, e2⟩ := Option.map_eq_some_iff.mp e'
        subst e2
        exact .obj hi h2 h3 (plainF_ok h4 e1)
      | fz d' =>
        cases e'
        exact Rp.rq s.ex c
end

/-! ### operations by what they do to data -/
def Sem2 (K : Fg) (T : Tb) (r : R2) (f : D → D → Option D) : Prop := ∀ (B H : Hp) (x y : V) (d1 d2 d : D) (Q : VK), Ex B H → Rq K T B H x d1 → Rq K T B H y d2 → f d1 d2 = some d →
  (∀ v H' B', New B H B' H' → Rp K T B' v d → Q v H') → r x y H Q
def Sem1 (K : Fg) (T : Tb) (r : V → Hp → VK → Prop) (f : D → Option D) : Prop := ∀ (B H : Hp) (x : V) (d1 d : D) (Q : VK), Ex B H → Rq K T B H x d1 → f d1 = some d →
  (∀ v H' B', New B H B' H' → Rp K T B' v d → Q v H') → r x H Q
def SemL (K : Fg) (T : Tb) (r : List V → Hp → VK → Prop) (f : D → Option D) : Prop := ∀ (B H : Hp) (x : V) (d1 d : D) (Q : VK), Ex B H → Rq K T B H x d1 → f d1 = some d →
  (∀ v H' B', New B H B' H' → Rp K T B' v d → Q v H') → r [x] H Q

section
variable {X : Cx} {T : Tb} {C : CE} {W : WX} {J : Jt} {a b e z : Expr} {a' b' e' z' : E} {pos : Pos}
abbrev PD (X : Cx) (T : Tb) (C : CE) (W : WX) (J : Jt) (e : Expr) (e' : E) : Prop := PE X e (tE X.K T C W J e')
abbrev PDs (X : Cx) (T : Tb) (C : CE) (W : WX) (J : Jt) (es : List Expr) (e' : E) : Prop := PA X es (tEs X.K T C W J e')

theorem PE.weak {t u : TE} (h : PE X e t) (k : ∀ σ H Q, u σ H Q → t σ H Q) : PE X e u := ⟨fun pins s σ H Q I q => h.run pins s σ H Q I (k σ H Q q)⟩
theorem PT.weak {t u : TT} (h : PT X e t) (k : ∀ σ H Q, u σ H Q → t σ H Q) : PT X e u := ⟨fun pins s σ H Q I q => h.run pins s σ H Q I (k σ H Q q)⟩
theorem PA.weak {es : List Expr} {t u : TA} (h : PA X es t) (k : ∀ σ H Q, u σ H Q → t σ H Q) : PA X es u := ⟨fun pos pins s σ H Q I q => h.run pos pins s σ H Q I (k σ H Q q)⟩

theorem want_ok {K : Fg} {σ : L2.St} {π : Nat → Addr} {B H : Hp} {m : Mu} {u : U} {Q : VK} {v : V} (w : Want (RU K T) K T W σ π B H m (.ok u m) Q) (s : Sto K T π B H m) (r : Ru K T m.length π B v u) : Q v H := w v H π B (Step.refl s) r

theorem pd_var (i : Nat) {x : Str} {pos : Pos} (hN : X.N[i]? = some x := by rfl) (hv : Vis X.env.scope x := by first | exact Or.inl rfl | exact Or.inr (Or.inl rfl) | exact Or.inr (Or.inr rfl)) (hd : (x == ("__debug__" : Str)) = false := by decide)
    (hcd : (x == ("__classdict__" : Str)) = false := by decide) : PD X T C W J (.Name x pos) (.var i) := by
  refine PE.weak (pv i hN hv hd hcd) fun σ H Q h => ?_
  obtain ⟨π, B, m, ρ, b, w⟩ := h
  show ∃ v, σ[i]? = some (some v) ∧ Q v H
  unfold ev at w
  cases e : ρ[i]? with
  | none =>
    rw [e] at w
    exact w.elim
  | some o =>
    cases o with
    | none =>
      rw [e] at w
      exact w.elim
    | some u =>
      rw [e] at w
      obtain ⟨v, h1, h2⟩ := b.sl.at_ i u e
      exact ⟨v, h1, want_ok w b.st h2⟩
theorem pd_cst {v : V} {d : D} (h : PE X e (tC v)) (r : ∀ B, Rp X.K T B v d) : PD X T C W J e (.cst d) := by
  refine PE.weak h fun σ H Q h => ?_
  obtain ⟨π, B, m, ρ, b, w⟩ := h
  unfold ev at w
  exact want_ok w b.st (r B)
theorem pd_int {i j pos} : PD X T C W J (.Constant (.int i) j pos) (.cst (.int i)) := pd_cst pe_int fun _ => .int i
theorem pd_bl {i j pos} : PD X T C W J (.Constant (.bool i) j pos) (.cst (.bl i)) := pd_cst pe_bl fun _ => .bl i
theorem pd_non {j pos} : PD X T C W J (.Constant .none j pos) (.cst .non) := pd_cst pe_non fun _ => .non
theorem pd_str {x : Str} {l : List Nat} {j pos} (hl : x.cps.toList = l := by rfl) (hz : (decide (l.length ≤ lim) && l.all (· < 0x110000)) = true := by decide) : PD X T C W J (.Constant (.str x) j pos) (.cst (.str l)) := by
  subst hl
  obtain ⟨h1, h2⟩ := Bool.and_eq_true_iff.mp hz
  refine pd_cst pe_str fun _ => .str x (of_decide_eq_true h1) ?_
  unfold PyData.strOk
  rw [← Array.all_toList]
  exact h2

/-- two operands -/
theorem pd_two {op : E} {t : TE → TE → TE} {r : R2} {f : D → D → Option D} (hJ : Mono J) (ht : ∀ ta tb σ H Q, (ta σ H fun x H1 => tb σ H1 fun y H2 => r x y H2 Q) → t ta tb σ H Q) (hs : Sem2 X.K T r f)
    (hev : ∀ ρ m, ev C op ρ m = (ev C a' ρ m).bnd fun x m => (ev C b' ρ m).bnd fun y m => match see m x, see m y with
      | some d, some e => Res ((f d e).map U.v) m
      | _, _ => .no) (σ : L2.St) (H : Hp) (Q : VK) (h : tE X.K T C W J op σ H Q) : t (tE X.K T C W J a') (tE X.K T C W J b') σ H Q := by
  obtain ⟨π, B, m, ρ, b, w⟩ := h
  rw [hev] at w
  refine ht _ _ _ _ _ (tE_bnd hJ b w fun x H1 π1 B1 m1 u1 s1 b1 r1 w1 => tE_bnd hJ b1 w1 fun y H2 π2 B2 m2 u2 s2 b2 r2 w2 => ?_)
  cases e1 : see m2 u1 with
  | none =>
    rw [e1] at w2
    exact w2.elim
  | some d1 =>
    rw [e1] at w2
    cases e2 : see m2 u2 with
    | none =>
      rw [e2] at w2
      exact w2.elim
    | some d2 =>
      rw [e2] at w2
      dsimp only at w2
      cases e3 : f d1 d2 with
      | none =>
        rw [e3] at w2
        exact w2.elim
      | some d =>
        rw [e3] at w2
        exact hs B2 H2 x y d1 d2 d Q b2.st.ex (see_ok b2.st (s2.ru r1) e1) (see_ok b2.st r2 e2) e3 fun v H' B' nw rv => w2 v H' π2 B' (nw.step b2.st) rv
theorem pd_one {op : E} {t : TE → TE} {r : V → Hp → VK → Prop} {f : D → Option D} (hJ : Mono J) (ht : ∀ ta σ H Q, (ta σ H fun x H1 => r x H1 Q) → t ta σ H Q) (hs : Sem1 X.K T r f)
    (hev : ∀ ρ m, ev C op ρ m = (ev C a' ρ m).bnd fun x m => match see m x with
      | some d => Res ((f d).map U.v) m
      | none => .no) (σ : L2.St) (H : Hp) (Q : VK) (h : tE X.K T C W J op σ H Q) : t (tE X.K T C W J a') σ H Q := by
  obtain ⟨π, B, m, ρ, b, w⟩ := h
  rw [hev] at w
  refine ht _ _ _ _ (tE_bnd hJ b w fun x H1 π1 B1 m1 u1 s1 b1 r1 w1 => ?_)
  cases e1 : see m1 u1 with
  | none =>
    rw [e1] at w1
    exact w1.elim
  | some d1 =>
    rw [e1] at w1
    dsimp only at w1
    cases e3 : f d1 with
    | none =>
      rw [e3] at w1
      exact w1.elim
    | some d =>
      rw [e3] at w1
      exact hs B1 H1 x d1 d Q b1.st.ex (see_ok b1.st r1 e1) e3 fun v H' B' nw rv => w1 v H' π1 B' (nw.step b1.st) rv
end
end At

/-! Operators and comparisons. -/
namespace At
open PySem L2 Evl

theorem OpR.or {X : Cx} {f : Value → Value → Sem Value} {r q : R2} (h1 : OpR X f r) (h2 : OpR X f q) : OpR X f (fun x y H Q => r x y H Q ∨ q x y H Q) :=
  fun pins s σ H x y v u Q I rx ry h => h.elim (fun z => h1 pins s σ H x y v u Q I rx ry z) fun z => h2 pins s σ H x y v u Q I rx ry z
theorem CallR.or {X : Cx} {f : Value} {r q : List V → Hp → VK → Prop} (h1 : CallR X f r) (h2 : CallR X f q) : CallR X f (fun x H Q => r x H Q ∨ q x H Q) :=
  fun pins s σ H xs us Q I rx h => h.elim (fun z => h1 pins s σ H xs us Q I rx z) fun z => h2 pins s σ H xs us Q I rx z

theorem lim_size {n : Nat} (h : n ≤ lim) : n ≤ sizeLine := Nat.le_trans h (by decide)
theorem lim_lt {n : Nat} (h : n < lim) : n < sizeLine := Nat.lt_of_lt_of_le h (by decide)

section
variable {K : Fg} {T : Tb} {B H : Hp}
theorem Rp.text {z : Str} {l : List Nat} (e : z.cps.toList = l) (h : l.length ≤ lim) (o : l.all (· < 0x110000) = true) : Rp K T B (.str z) (.str l) := by
  subst e
  refine .str z h ?_
  unfold PyData.strOk
  rw [← Array.all_toList]
  exact o
theorem strOk_list {x : Str} (o : PyData.strOk x = true) : x.cps.toList.all (· < 0x110000) = true := by
  unfold PyData.strOk at o
  rw [← Array.all_toList] at o
  exact o
theorem len_list (x : Str) : x.cps.toList.length = x.length := Array.length_toList
theorem app_list (x y : Str) : (x ++ y).cps.toList = x.cps.toList ++ y.cps.toList := by
  show (x.cps ++ y.cps).toList = _
  rw [Array.toList_append]

def rAddD (K : Fg) : R2 := fun x y H Q => (((rI0 fun i j => .int (i + j)) x y H Q ∨ (∃ i j, x = .str i ∧ y = .str j ∧ i.length + j.length ≤ sizeLine ∧ Q (.str (i ++ j)) H)) ∨ rCat x y H Q) ∨ rCatA K x y H Q
theorem opr_add {X : Cx} : OpR X (binaryOp .Add) (rAddD X.K) := OpR.or (OpR.or (OpR.or op_add op_add_str) op_cat) op_catA
theorem sem_add : Sem2 K T (rAddD K) (op2 .add) := by
  intro B H x y d1 d2 d Q e r1 r2 hf k
  cases r1 with
  | int i =>
    cases r2 with
    | int j =>
      cases hf
      exact .inl (.inl (.inl ⟨i, j, rfl, rfl, k _ _ _ (New.refl e) (.int _)⟩))
    | _ => cases hf
  | str x h1 o1 =>
    cases r2 with
    | str y h2 o2 =>
      have hf' : (if x.cps.toList.length + y.cps.toList.length ≤ lim then some (D.str (x.cps.toList ++ y.cps.toList)) else none) = some d := hf
      by_cases c : x.cps.toList.length + y.cps.toList.length ≤ lim
      · rw [if_pos c] at hf'
        cases hf'
        rw [len_list, len_list] at c
        refine .inl (.inl (.inr ⟨x, y, rfl, rfl, lim_size c, k _ _ _ (New.refl e) (Rp.text (app_list x y) ?_ ?_)⟩))
        · rw [List.length_append, len_list, len_list]
          exact c
        · rw [List.all_append, strOk_list o1, strOk_list o2]
          rfl
      · rw [if_neg c] at hf'
        cases hf'
    | _ => cases hf
  | lst h1 z1 q1 =>
    cases r2 with
    | lst h2 z2 q2 =>
      rename_i a xs ds b ys es
      have hf' : (if ds.length + es.length ≤ lim then some (D.lst (ds ++ es)) else none) = some d := hf
      by_cases c : ds.length + es.length ≤ lim
      · rw [if_pos c] at hf'
        cases hf'
        rw [← q1.len, ← q2.len] at c
        refine .inl (.inr ⟨a, b, xs, ys, rfl, rfl, h1, h2, lim_size c, fun p hp => k _ _ _ (New.one e hp) (.lst upd_same ?_ ((q1.app q2).mono (New.one e hp).ex))⟩)
        rw [List.length_append]
        exact c
      · rw [if_neg c] at hf'
        cases hf'
    | _ => cases hf
  | tup h1 z1 q1 =>
    cases r2 with
    | tup h2 z2 q2 =>
      rename_i a xs ds b ys es
      have hf' : (if ds.length + es.length ≤ lim then some (D.tup (ds ++ es)) else none) = some d := hf
      by_cases c : ds.length + es.length ≤ lim
      · rw [if_pos c] at hf'
        cases hf'
        rw [← q1.len, ← q2.len] at c
        refine .inr ⟨a, b, xs, ys, rfl, rfl, ex_t e h1, ex_t e h2, lim_size c, fun z => ?_, fun _ z => ?_, fun _ _ p hp => k _ _ _ (New.one e hp) (.tup (SqT.of upd_same) (by rw [List.length_append]; exact c) ((q1.app q2).mono (New.one e hp).ex))⟩
        · subst z
          cases q1
          exact k _ _ _ (New.refl e) (.tup h2 z2 q2)
        · subst z
          cases q2
          rw [List.append_nil] at k
          exact k _ _ _ (New.refl e) (.tup h1 z1 q1)
      · rw [if_neg c] at hf'
        cases hf'
    | _ => cases hf
  | _ => cases hf

theorem sem_int {g : Int → Int → V} {c : Int → Int → Prop} {f : D → D → Option D} (hg : ∀ i j d, f (.int i) (.int j) = some d → c i j ∧ ∀ B, Rp K T B (g i j) d) (hn : ∀ x y d, f x y = some d → ∃ i j, x = .int i ∧ y = .int j) : Sem2 K T (rI c g) f := by
  intro B H x y d1 d2 d Q e r1 r2 hf k
  obtain ⟨i, j, rfl, rfl⟩ := hn _ _ _ hf
  cases r1
  cases r2
  obtain ⟨h1, h2⟩ := hg i j d hf
  exact ⟨i, j, rfl, rfl, h1, k _ _ _ (New.refl e) (h2 B)⟩
theorem sem_int0 {g : Int → Int → V} {f : D → D → Option D} (hg : ∀ i j d, f (.int i) (.int j) = some d → ∀ B, Rp K T B (g i j) d) (hn : ∀ x y d, f x y = some d → ∃ i j, x = .int i ∧ y = .int j) : Sem2 K T (rI0 g) f := by
  intro B H x y d1 d2 d Q e r1 r2 hf k
  obtain ⟨i, j, rfl, rfl⟩ := hn _ _ _ hf
  cases r1
  cases r2
  exact ⟨i, j, rfl, rfl, k _ _ _ (New.refl e) (hg i j d hf B)⟩
theorem sem_sub : Sem2 K T (rI0 fun i j => .int (i - j)) (op2 .sub) := sem_int0 (fun i j d h B => by cases h; exact .int _) fun x y d h => by
  cases x <;> cases y <;> first | exact ⟨_, _, rfl, rfl⟩ | cases h
theorem sem_fdiv : Sem2 K T (rI CDivN fun i j => .int (i.fdiv j)) (op2 .fdiv) := sem_int (fun i j d h => by
  have h' : (if j ≠ 0 ∧ j.natAbs < 1073741824 then some (D.int (i.fdiv j)) else none) = some d := h
  by_cases c : j ≠ 0 ∧ j.natAbs < 1073741824
  · rw [if_pos c] at h'
    cases h'
    exact ⟨c, fun B => .int _⟩
  · rw [if_neg c] at h'
    cases h') fun x y d h => by
  cases x <;> cases y <;> first | exact ⟨_, _, rfl, rfl⟩ | cases h
theorem sem_mod : Sem2 K T (rI (fun _ j => j ≠ 0) fun i j => .int (i.fmod j)) (op2 .mod) := sem_int (fun i j d h => by
  have h' : (if j ≠ 0 then some (D.int (i.fmod j)) else none) = some d := h
  by_cases c : j ≠ 0
  · rw [if_pos c] at h'
    cases h'
    exact ⟨c, fun B => .int _⟩
  · rw [if_neg c] at h'
    cases h') fun x y d h => by
  cases x <;> cases y <;> first | exact ⟨_, _, rfl, rfl⟩ | cases h
theorem sem_pow : Sem2 K T (rI CPow fun i j => .int (i ^ j.toNat)) (op2 .pow) := sem_int (fun i j d h => by
  have h' : (if 0 ≤ j ∧ j ≤ 1000000 ∧ i.natAbs < 2 ^ 60 then some (D.int (i ^ j.toNat)) else none) = some d := h
  by_cases c : 0 ≤ j ∧ j ≤ 1000000 ∧ i.natAbs < 2 ^ 60
  · rw [if_pos c] at h'
    cases h'
    exact ⟨⟨c.1, c.2.1, Nat.lt_trans c.2.2 (by decide)⟩, fun B => .int _⟩
  · rw [if_neg c] at h'
    cases h') fun x y d h => by
  cases x <;> cases y <;> first | exact ⟨_, _, rfl, rfl⟩ | cases h
def rMulD : R2 := fun x y H Q => (rI CMul fun i j => .int (i * j)) x y H Q ∨ rRep x y H Q
theorem opr_mul {X : Cx} : OpR X (binaryOp .Mult) rMulD := OpR.or op_mul op_rep
theorem sem_mul : Sem2 K T rMulD (op2 .mul) := by
  intro B H x y d1 d2 d Q e r1 r2 hf k
  cases r1 with
  | int i =>
    cases r2 with
    | int j =>
      have h' : (if i.natAbs < 2 ^ 60 ∨ j.natAbs < 2 ^ 60 then some (D.int (i * j)) else none) = some d := hf
      by_cases c : i.natAbs < 2 ^ 60 ∨ j.natAbs < 2 ^ 60
      · rw [if_pos c] at h'
        cases h'
        refine .inl ⟨i, j, rfl, rfl, ?_, k _ _ _ (New.refl e) (.int _)⟩
        rcases c with c | c
        · exact .inl ⟨by omega, by omega⟩
        · exact .inr ⟨by omega, by omega⟩
      · rw [if_neg c] at h'
        cases h'
    | _ => cases hf
  | lst h1 z1 q1 =>
    cases r2 with
    | int j =>
      rename_i a xs ds
      have h' : (if j.natAbs ≤ lim ∧ ds.length * j.toNat ≤ lim then some (D.lst (List.replicate j.toNat ds).flatten) else none) = some d := hf
      by_cases c : j.natAbs ≤ lim ∧ ds.length * j.toNat ≤ lim
      · rw [if_pos c] at h'
        cases h'
        rw [← q1.len] at c
        have cl : j.natAbs ≤ 1000000 := c.1
        refine .inr ⟨a, j, xs, rfl, rfl, h1, by omega, by omega, lim_size c.2, fun p hp => k _ _ _ (New.one e hp) (.lst upd_same ?_ (Rps.mono (New.one e hp).ex ?_))⟩
        · rw [List.length_flatten]
          simp only [List.map_replicate, List.sum_replicate_nat]
          rw [Nat.mul_comm]
          exact c.2
        · have rep : ∀ n : Nat, Rps K T B (List.replicate n xs).flatten (List.replicate n ds).flatten := by
            intro n
            induction n with
            | zero => exact .nil
            | succ n ih =>
              rw [List.replicate_succ, List.replicate_succ, List.flatten_cons, List.flatten_cons]
              exact q1.app ih
          exact rep _
      · rw [if_neg c] at h'
        cases h'
    | _ => cases hf
  | _ => cases hf
end
section
variable {X : Cx} {T : Tb} {C : CE} {W : WX} {J : Jt} {a b : Expr} {a' b' : E} {pos : Pos}
theorem pd_bin {op : Operator} {o : Op} {r : R2} (ho : OpR X (binaryOp op) r) (hs : Sem2 X.K T r (op2 o)) (hJ : Mono J) (ha : PD X T C W J a a') (hb : PD X T C W J b b') : PD X T C W J (.BinOp a op b pos) (.op o a' b') :=
  PE.weak (pe_op ho ha hb) (pd_two (t := tOp r) hJ (fun _ _ _ _ _ h => h) hs fun ρ m => by rw [ev] <;> rfl)
theorem pd_add (hJ : Mono J) (ha : PD X T C W J a a') (hb : PD X T C W J b b') : PD X T C W J (.BinOp a .Add b pos) (.op .add a' b') := pd_bin opr_add sem_add hJ ha hb
theorem pd_sub (hJ : Mono J) (ha : PD X T C W J a a') (hb : PD X T C W J b b') : PD X T C W J (.BinOp a .Sub b pos) (.op .sub a' b') := pd_bin op_sub sem_sub hJ ha hb
theorem pd_mul (hJ : Mono J) (ha : PD X T C W J a a') (hb : PD X T C W J b b') : PD X T C W J (.BinOp a .Mult b pos) (.op .mul a' b') := pd_bin opr_mul sem_mul hJ ha hb
theorem pd_fdiv (hJ : Mono J) (ha : PD X T C W J a a') (hb : PD X T C W J b b') : PD X T C W J (.BinOp a .FloorDiv b pos) (.op .fdiv a' b') := pd_bin op_fdivN sem_fdiv hJ ha hb
theorem pd_mod (hJ : Mono J) (ha : PD X T C W J a a') (hb : PD X T C W J b b') : PD X T C W J (.BinOp a .Mod b pos) (.op .mod a' b') := pd_bin op_modN sem_mod hJ ha hb
theorem pd_pow (hJ : Mono J) (ha : PD X T C W J a a') (hb : PD X T C W J b b') : PD X T C W J (.BinOp a .Pow b pos) (.op .pow a' b') := pd_bin op_pow sem_pow hJ ha hb
end
end At

/-! Comparisons, tests. -/
namespace At
open PySem L2 Evl

mutual
def toPy : D → PyData
  | .non => .none
  | .bl b => .bool b
  | .int i => .int i
  | .str x => .str ⟨x.toArray⟩
  | .lst xs => .list (toPys xs)
  | .tup xs => .tuple (toPys xs)
  | _ => .dict []
def toPys : List D → List PyData
  | [] => []
  | d :: ds => toPy d :: toPys ds
end
section
variable {K : Fg} {T : Tb} {B H : Hp}
mutual
theorem dp_of : ∀ {d : D} {v : V}, plain d = true → Rp K T B v d → Dp K B v (toPy d) ∧ (toPy d).canLay0 = true ∧ (toPy d).depth = deep d
  | .non, _, _, .non => ⟨.non, rfl, rfl⟩
  | .bl b, _, _, .bl _ => ⟨.bl b, rfl, rfl⟩
  | .int i, _, _, .int _ => ⟨.int i, rfl, rfl⟩
  | .str _, _, _, .str x _ o => by
    have e : toPy (.str x.cps.toList) = .str x := by
      show PyData.str ⟨x.cps.toList.toArray⟩ = _
      rw [Array.toArray_toList]
    rw [e]
    exact ⟨.str x, o, rfl⟩
  | .lst ds, _, h, .lst hh _ r => by
    obtain ⟨h1, h2, h3⟩ := dps_of (show plains ds = true from h) r
    refine ⟨.lst (SqL.of hh) h1, ?_, ?_⟩
    · show PyData.canLayAll0 (toPys ds) = true
      exact h2
    · show PyData.depthAll (toPys ds) + 1 = deeps ds + 1
      rw [h3]
  | .tup ds, _, h, .tup hh _ r => by
    obtain ⟨h1, h2, h3⟩ := dps_of (show plains ds = true from h) r
    refine ⟨.tup hh h1, ?_, ?_⟩
    · show PyData.canLayAll0 (toPys ds) = true
      exact h2
    · show PyData.depthAll (toPys ds) + 1 = deeps ds + 1
      rw [h3]
theorem dps_of : ∀ {ds : List D} {vs : List V}, plains ds = true → Rps K T B vs ds → DpAll K B vs (toPys ds) ∧ PyData.canLayAll0 (toPys ds) = true ∧ PyData.depthAll (toPys ds) = deeps ds
  | [], _, _, .nil => ⟨.nil, rfl, rfl⟩
  | d :: ds, _, h, .cons r q => by
    obtain ⟨p1, p2⟩ := Bool.and_eq_true_iff.mp (show (plain d && plains ds) = true from h)
    obtain ⟨h1, h2, h3⟩ := dp_of p1 r
    obtain ⟨g1, g2, g3⟩ := dps_of p2 q
    refine ⟨.cons h1 g1, ?_, ?_⟩
    · show ((toPy d).canLay0 && PyData.canLayAll0 (toPys ds)) = true
      rw [h2, g2]
      rfl
    · show max (toPy d).depth (PyData.depthAll (toPys ds)) = max (deep d) (deeps ds)
      rw [h3, g3]
end
theorem str_beq (x y : List Nat) : ((⟨x.toArray⟩ : Str) == ⟨y.toArray⟩) = (x == y) := by
  by_cases e : x = y
  · subst e
    simp
  · have h : ¬ (⟨x.toArray⟩ : Str) = ⟨y.toArray⟩ := fun q => e (by injection q with q; simpa using congrArg Array.toList q)
    rw [beq_eq_false_iff_ne.mpr h, beq_eq_false_iff_ne.mpr e]
mutual
theorem eqv_of : ∀ (d e : D), plain d = true → plain e = true → PyData.eqv (toPy d) (toPy e) = eqD d e
  | .non, e, _, h => by cases e <;> first | rfl | cases h
  | .bl b, e, _, h => by cases e <;> first | rfl | cases h
  | .int b, e, _, h => by cases e <;> first | rfl | cases h
  | .str x, e, _, h => by
    cases e with
    | str y => exact str_beq x y
    | _ => first | rfl | cases h
  | .lst xs, e, h1, h => by
    cases e with
    | lst ys => exact eqvs_of xs ys h1 h
    | _ => first | rfl | cases h
  | .tup xs, e, h1, h => by
    cases e with
    | tup ys => exact eqvs_of xs ys h1 h
    | _ => first | rfl | cases h
  | .dic _, _, h, _ => by cases h
  | .obj _ _, _, h, _ => by cases h
  | .scr _, _, h, _ => by cases h
theorem eqvs_of : ∀ (d e : List D), plains d = true → plains e = true → PyData.eqvAll (toPys d) (toPys e) = eqDs d e
  | [], [], _, _ => rfl
  | [], _ :: _, _, _ => rfl
  | _ :: _, [], _, _ => rfl
  | d :: ds, e :: es, h1, h2 => by
    obtain ⟨p1, p2⟩ := Bool.and_eq_true_iff.mp (show (plain d && plains ds) = true from h1)
    obtain ⟨q1, q2⟩ := Bool.and_eq_true_iff.mp (show (plain e && plains es) = true from h2)
    show (PyData.eqv (toPy d) (toPy e) && PyData.eqvAll (toPys ds) (toPys es)) = (eqD d e && eqDs ds es)
    rw [eqv_of d e p1 q1, eqvs_of ds es p2 q2]
end
theorem ask_of {d : D} {v : V} (e : Ex B H) (a : askable d = true) (r : Rq K T B H v d) : Dp K H v (toPy d) ∧ SeqAt.shaped (toPy d) = true := by
  obtain ⟨a1, a2⟩ := Bool.and_eq_true_iff.mp a
  obtain ⟨h1, h2, h3⟩ := dp_of a1 (r.rp e)
  refine ⟨h1, ?_⟩
  unfold SeqAt.shaped
  rw [h2, h3]
  have := of_decide_eq_true a2
  exact decide_eq_true (Nat.le_trans this (by decide))
theorem ask_if {x y : D} {b : Bool} {d : D} (h : ((if (askable x && askable y) = true then some b else none).map D.bl) = some d) : askable x = true ∧ askable y = true ∧ d = .bl b := by
  by_cases c : (askable x && askable y) = true
  · rw [if_pos c] at h
    cases h
    obtain ⟨h1, h2⟩ := Bool.and_eq_true_iff.mp c
    exact ⟨h1, h2, rfl⟩
  · rw [if_neg c] at h
    cases h
def cmpD (c : Cm) (x y : D) : Option D := (cmp2 c x y).map D.bl
theorem sem_eq : Sem2 K T (rEqD K) (cmpD .eq) := by
  intro B H x y d1 d2 d Q e r1 r2 hf k
  obtain ⟨a1, a2, rfl⟩ := ask_if (x := d1) (y := d2) hf
  obtain ⟨p1, s1⟩ := ask_of e a1 r1
  obtain ⟨p2, s2⟩ := ask_of e a2 r2
  refine ⟨_, _, p1, p2, s1, s2, ?_⟩
  rw [eqv_of _ _ (Bool.and_eq_true_iff.mp a1).1 (Bool.and_eq_true_iff.mp a2).1]
  exact k _ _ _ (New.refl e) (.bl _)
theorem sem_ne : Sem2 K T (rNeD K) (cmpD .ne) := by
  intro B H x y d1 d2 d Q e r1 r2 hf k
  obtain ⟨a1, a2, rfl⟩ := ask_if (x := d1) (y := d2) hf
  obtain ⟨p1, s1⟩ := ask_of e a1 r1
  obtain ⟨p2, s2⟩ := ask_of e a2 r2
  refine ⟨_, _, p1, p2, s1, s2, ?_⟩
  rw [eqv_of _ _ (Bool.and_eq_true_iff.mp a1).1 (Bool.and_eq_true_iff.mp a2).1]
  exact k _ _ _ (New.refl e) (.bl _)
theorem sem_lt : Sem2 K T (rI0 fun i j => .bl (decide (i < j))) (cmpD .lt) := sem_int0 (fun i j d h B => by cases h; exact .bl _) fun x y d h => by
  cases x <;> cases y <;> first | exact ⟨_, _, rfl, rfl⟩ | cases h
theorem sem_le : Sem2 K T (rI0 fun i j => .bl (decide (i ≤ j))) (cmpD .le) := sem_int0 (fun i j d h B => by cases h; exact .bl _) fun x y d h => by
  cases x <;> cases y <;> first | exact ⟨_, _, rfl, rfl⟩ | cases h
theorem sem_gt : Sem2 K T (rI0 fun i j => .bl (decide (j < i))) (cmpD .gt) := sem_int0 (fun i j d h B => by cases h; exact .bl _) fun x y d h => by
  cases x <;> cases y <;> first | exact ⟨_, _, rfl, rfl⟩ | cases h
theorem sem_ge : Sem2 K T (rI0 fun i j => .bl (decide (j ≤ i))) (cmpD .ge) := sem_int0 (fun i j d h B => by cases h; exact .bl _) fun x y d h => by
  cases x <;> cases y <;> first | exact ⟨_, _, rfl, rfl⟩ | cases h

/-! ### in -/
theorem any_of (x : D) (hx : plain x = true) : ∀ ys : List D, plains ys = true → ((toPys ys).any fun z => PyData.eqv z (toPy x)) = inD x ys
  | [], _ => rfl
  | y :: ys, h => by
    obtain ⟨p1, p2⟩ := Bool.and_eq_true_iff.mp (show (plain y && plains ys) = true from h)
    show (PyData.eqv (toPy y) (toPy x) || (toPys ys).any fun z => PyData.eqv z (toPy x)) = (eqD y x || inD x ys)
    rw [eqv_of y x p1 hx, any_of x hx ys p2]
def rInT (K : PySem.W.Frag) (neg : Bool) : R2 := fun x y H Q => ∃ d ds, Dp K H x d ∧ Dp K H y (.tuple ds) ∧ SeqAt.shaped d = true ∧ SeqAt.shaped (.tuple ds) = true ∧ Q (.bl (if neg then !(ds.any fun z => PyData.eqv z d) else ds.any fun z => PyData.eqv z d)) H
theorem op_inT {X : Cx} (hu : X.A.units + 65 < cLine) : OpR X (compareOp .In) (rInT X.K false) := by
  intro pins s σ H x y v u Q I rx ry h
  obtain ⟨d, ds, hd, he, sd, se, q⟩ := h
  obtain ⟨as, r1⟩ := Dp.reads I d x v hd rx
  obtain ⟨bs, r2⟩ := Dp.reads I (.tuple ds) y u he ry
  exact SeqAt.in_tuple_reads r2 r1 (SeqAt.canLay_of_shaped se) (SeqAt.canLay_of_shaped sd) (PyProof.Rows.room_in_shaped sd hu) ⟨.bl _, H, I, rfl, q⟩
theorem op_notInT {X : Cx} (hu : X.A.units + 65 < cLine) : OpR X (compareOp .NotIn) (rInT X.K true) := by
  intro pins s σ H x y v u Q I rx ry h
  obtain ⟨d, ds, hd, he, sd, se, q⟩ := h
  obtain ⟨as, r1⟩ := Dp.reads I d x v hd rx
  obtain ⟨bs, r2⟩ := Dp.reads I (.tuple ds) y u he ry
  exact SeqAt.notIn_tuple_reads r2 r1 (SeqAt.canLay_of_shaped se) (SeqAt.canLay_of_shaped sd) (PyProof.Rows.room_in_shaped sd hu) ⟨.bl _, H, I, rfl, q⟩

def rInA (K : Fg) : R2 := fun x y H Q => ((∃ (c : Nat) (z : Str), x = .str ⟨#[c]⟩ ∧ y = .str z ∧ Q (.bl (decide (c ∈ z.cps.toList))) H) ∨ rInD K x y H Q) ∨ rInT K false x y H Q
def rNinA (K : Fg) : R2 := fun x y H Q => ((∃ (c : Nat) (z : Str), x = .str ⟨#[c]⟩ ∧ y = .str z ∧ Q (.bl (!decide (c ∈ z.cps.toList))) H) ∨ rNotInD K x y H Q) ∨ rInT K true x y H Q
theorem one_sign {x : Str} {c : Nat} (h : x.cps.toList = [c]) : x = ⟨#[c]⟩ := by
  obtain ⟨a⟩ := x
  have : a = [c].toArray := by
    rw [← h]
  subst this
  rfl
theorem sem_in : Sem2 K T (rInA K) (cmpD .in_) := by
  intro B H x y d1 d2 d Q e r1 r2 hf k
  cases d2 with
  | str t =>
    cases r1 with
    | str x h o =>
      cases r2 with
      | str y h2 o2 =>
        match hx : x.cps.toList, hf with
        | [c], hf =>
          cases hf
          exact .inl (.inl ⟨c, y, by rw [one_sign hx], rfl, k _ _ _ (New.refl e) (.bl _)⟩)
        | [], hf => cases hf
        | _ :: _ :: _, hf => cases hf
    | _ => cases hf
  | lst ys =>
    have hf' : ((if (askable d1 && askable (.lst ys)) = true then some (inD d1 ys) else none).map D.bl) = some d := by
      cases d1 with
      | str t => match t, hf with
        | [], hf => exact hf
        | [_], hf => exact hf
        | _ :: _ :: _, hf => exact hf
      | _ => exact hf
    obtain ⟨a1, a2, rfl⟩ := ask_if hf'
    obtain ⟨p1, s1⟩ := ask_of e a1 r1
    obtain ⟨p2, s2⟩ := ask_of e a2 r2
    refine .inl (.inr ⟨_, _, p1, p2, s1, s2, ?_⟩)
    rw [any_of d1 (Bool.and_eq_true_iff.mp a1).1 ys (Bool.and_eq_true_iff.mp a2).1]
    exact k _ _ _ (New.refl e) (.bl _)
  | tup ys =>
    have hf' : ((if (askable d1 && askable (.tup ys)) = true then some (inD d1 ys) else none).map D.bl) = some d := by
      cases d1 with
      | str t => match t, hf with
        | [], hf => exact hf
        | [_], hf => exact hf
        | _ :: _ :: _, hf => exact hf
      | _ => exact hf
    obtain ⟨a1, a2, rfl⟩ := ask_if hf'
    obtain ⟨p1, s1⟩ := ask_of e a1 r1
    obtain ⟨p2, s2⟩ := ask_of e a2 r2
    refine .inr ⟨_, _, p1, p2, s1, s2, ?_⟩
    rw [if_neg Bool.false_ne_true, any_of d1 (Bool.and_eq_true_iff.mp a1).1 ys (Bool.and_eq_true_iff.mp a2).1]
    exact k _ _ _ (New.refl e) (.bl _)
  | _ => cases d1 with
    | str t => match t, hf with
      | [], hf => cases hf
      | [_], hf => cases hf
      | _ :: _ :: _, hf => cases hf
    | _ => cases hf
theorem sem_nin : Sem2 K T (rNinA K) (cmpD .nin) := by
  intro B H x y d1 d2 d Q e r1 r2 hf k
  cases d2 with
  | str t =>
    cases r1 with
    | str x h o =>
      cases r2 with
      | str y h2 o2 =>
        match hx : x.cps.toList, hf with
        | [c], hf =>
          cases hf
          exact .inl (.inl ⟨c, y, by rw [one_sign hx], rfl, k _ _ _ (New.refl e) (.bl _)⟩)
        | [], hf => cases hf
        | _ :: _ :: _, hf => cases hf
    | _ => cases hf
  | lst ys =>
    have hf' : ((if (askable d1 && askable (.lst ys)) = true then some (!inD d1 ys) else none).map D.bl) = some d := by
      cases d1 with
      | str t => match t, hf with
        | [], hf => exact hf
        | [_], hf => exact hf
        | _ :: _ :: _, hf => exact hf
      | _ => exact hf
    obtain ⟨a1, a2, rfl⟩ := ask_if hf'
    obtain ⟨p1, s1⟩ := ask_of e a1 r1
    obtain ⟨p2, s2⟩ := ask_of e a2 r2
    refine .inl (.inr ⟨_, _, p1, p2, s1, s2, ?_⟩)
    rw [any_of d1 (Bool.and_eq_true_iff.mp a1).1 ys (Bool.and_eq_true_iff.mp a2).1]
    exact k _ _ _ (New.refl e) (.bl _)
  | tup ys =>
    have hf' : ((if (askable d1 && askable (.tup ys)) = true then some (!inD d1 ys) else none).map D.bl) = some d := by
      cases d1 with
      | str t => match t, hf with
        | [], hf => exact hf
        | [_], hf => exact hf
        | _ :: _ :: _, hf => exact hf
      | _ => exact hf
    obtain ⟨a1, a2, rfl⟩ := ask_if hf'
    obtain ⟨p1, s1⟩ := ask_of e a1 r1
    obtain ⟨p2, s2⟩ := ask_of e a2 r2
    refine .inr ⟨_, _, p1, p2, s1, s2, ?_⟩
    rw [if_pos rfl, any_of d1 (Bool.and_eq_true_iff.mp a1).1 ys (Bool.and_eq_true_iff.mp a2).1]
    exact k _ _ _ (New.refl e) (.bl _)
  | _ => cases d1 with
    | str t => match t, hf with
      | [], hf => cases hf
      | [_], hf => cases hf
      | _ :: _ :: _, hf => cases hf
    | _ => cases hf
theorem sem_isN : Sem1 K T (fun x H Q => Q (.bl (decide (x = .non))) H) (un1 .isN) := by
  intro B H x d1 d Q e r1 hf k
  cases r1 <;> (cases hf; exact k _ _ _ (New.refl e) (.bl _))
theorem sem_notN : Sem1 K T (fun x H Q => Q (.bl (!decide (x = .non))) H) (un1 .notN) := by
  intro B H x d1 d Q e r1 hf k
  cases r1 <;> (cases hf; exact k _ _ _ (New.refl e) (.bl _))
end

/-! ### the comparisons' rules -/
/-- op is c's -/
structure Cmp (X : Cx) (T : Tb) (op : CmpOp) (c : Cm) : Prop where
  to : ∃ r : R2, OpR X (compareOp op) r ∧ Sem2 X.K T r (cmpD c)
section
variable {X : Cx} {T : Tb} {C : CE} {W : WX} {J : Jt} {a b e : Expr} {a' b' e' : E} {pos : Pos} {k : Nat}
def tT (K : Fg) (T : Tb) (C : CE) (W : WX) (J : Jt) (e : E) : TT := fun σ H Q => tE K T C W J e σ H fun v H' => ∃ k, v = .bl k ∧ Q k H'
abbrev PDt (X : Cx) (T : Tb) (C : CE) (W : WX) (J : Jt) (e : Expr) (e' : E) : Prop := PT X e (tT X.K T C W J e')
theorem u64 (hr : Room k X.A) : X.A.units + 64 < cLine := hr.units
theorem u65 (hr : Room k X.A) : X.A.units + 65 < cLine := by have := hr.un; omega
theorem cm_eq (hr : Room k X.A) : Cmp X T .Eq .eq := ⟨_, op_eqD (u64 hr), sem_eq⟩
theorem cm_ne (hr : Room k X.A) : Cmp X T .NotEq .ne := ⟨_, op_neD (u64 hr), sem_ne⟩
theorem cm_lt : Cmp X T .Lt .lt := ⟨_, op_lt, sem_lt⟩
theorem cm_le : Cmp X T .LtE .le := ⟨_, op_le, sem_le⟩
theorem cm_gt : Cmp X T .Gt .gt := ⟨_, op_gt, sem_gt⟩
theorem cm_ge : Cmp X T .GtE .ge := ⟨_, op_ge, sem_ge⟩
theorem cm_in (hr : Room k X.A) : Cmp X T .In .in_ := ⟨_, OpR.or (OpR.or op_in_sign (op_inD (u65 hr))) (op_inT (u65 hr)), sem_in⟩
theorem cm_nin (hr : Room k X.A) : Cmp X T .NotIn .nin := ⟨_, OpR.or (OpR.or op_notIn_sign (op_notInD (u65 hr))) (op_notInT (u65 hr)), sem_nin⟩
theorem ev_cmp (C : CE) (c : Cm) (a b : E) (ρ : Ro) (m : Mu) : ev C (.cmp c a b) ρ m = (ev C a ρ m).bnd fun x m => (ev C b ρ m).bnd fun y m => match see m x, see m y with
    | some d, some e => Res ((cmpD c d e).map U.v) m
    | _, _ => .no := by rw [ev] <;> rfl
theorem pd_cmp {op : CmpOp} {c : Cm} (hc : Cmp X T op c) (hJ : Mono J) (ha : PD X T C W J a a') (hb : PD X T C W J b b') (hm : behindInMarks op b = false) : PD X T C W J (.Compare a [op] [b] pos) (.cmp c a' b') := by
  obtain ⟨r, h1, h2⟩ := hc.to
  exact PE.weak (pe_cmpR h1 ha hb hm) (pd_two (t := tOp r) hJ (fun _ _ _ _ _ h => h) h2 fun ρ m => ev_cmp C c a' b' ρ m)
theorem pt_cmp' {op : CmpOp} {c : Cm} (hc : Cmp X T op c) (hJ : Mono J) (ha : PD X T C W J a a') (hb : PD X T C W J b b') (hm : behindInMarks op b = false) : PDt X T C W J (.Compare a [op] [b] pos) (.cmp c a' b') := by
  obtain ⟨r, h1, h2⟩ := hc.to
  exact PT.weak (pt_cmpR h1 ha hb hm) fun σ H Q h => pd_two (t := tOp r) hJ (fun _ _ _ _ _ h => h) h2 (fun ρ m => ev_cmp C c a' b' ρ m) σ H _ h
theorem ev_un (C : CE) (o : Un) (a : E) (ρ : Ro) (m : Mu) : ev C (.un o a) ρ m = (ev C a ρ m).bnd fun x m => match see m x with
    | some d => Res ((un1 o d).map U.v) m
    | none => .no := by rw [ev] <;> rfl
theorem pd_isN {j pos'} (hJ : Mono J) (ha : PD X T C W J a a') : PD X T C W J (.Compare a [.Is] [.Constant .none j pos'] pos) (.un .isN a') :=
  PE.weak (pe_cmp (pc_isN ha)) (pd_one (t := tIsN) hJ (fun _ _ _ _ h => h) sem_isN fun ρ m => ev_un C .isN a' ρ m)
theorem pd_notN {j pos'} (hJ : Mono J) (ha : PD X T C W J a a') : PD X T C W J (.Compare a [.IsNot] [.Constant .none j pos'] pos) (.un .notN a') :=
  PE.weak (pe_cmp (pc_notN ha)) (pd_one (t := tNotN) hJ (fun _ _ _ _ h => h) sem_notN fun ρ m => ev_un C .notN a' ρ m)
theorem pt_isN {j pos'} (hJ : Mono J) (ha : PD X T C W J a a') : PDt X T C W J (.Compare a [.Is] [.Constant .none j pos'] pos) (.un .isN a') :=
  PT.weak (pt_cmp (pc_isN ha)) fun σ H Q h => pd_one (t := tIsN) hJ (fun _ _ _ _ h => h) sem_isN (fun ρ m => ev_un C .isN a' ρ m) σ H _ h
theorem pt_notN {j pos'} (hJ : Mono J) (ha : PD X T C W J a a') : PDt X T C W J (.Compare a [.IsNot] [.Constant .none j pos'] pos) (.un .notN a') :=
  PT.weak (pt_cmp (pc_notN ha)) fun σ H Q h => pd_one (t := tNotN) hJ (fun _ _ _ _ h => h) sem_notN (fun ρ m => ev_un C .notN a' ρ m) σ H _ h

/-! ### and, or, not, if .. else -/
theorem bl_of {K : Fg} {n : Nat} {π : Nat → Addr} {B : Hp} {v : V} {b : Bool} (r : Ru K T n π B v (.v (.bl b))) : v = .bl b := by
  cases r
  rfl
theorem pt_val' (h : PD X T C W J e e') (he : ∀ whole, isTrue e X.env whole = (do let v ← whole; standAt e.pos; holding [v] (truthy v)) := by intro _; rfl) : PDt X T C W J e e' :=
  PT.weak (pt_val h he) fun σ H Q q => q
/-- what a bool does -/
theorem bool_bnd {e : E} {γ : Type} {δ : Type} {rel : Rel γ δ} {K : Fg} {π : Nat → Addr} {B H : Hp} {m : Mu} {σ : L2.St} {ρ : Ro} {f : U → Mu → R γ} {g : Bool → Mu → R γ} {Q : δ → Hp → Prop} {G : Bool → Hp → Prop} (hJ : Mono J)
    (b : Bs K T J π B H m σ ρ) (w : Want rel K T W σ π B H m ((ev C e ρ m).bnd f) Q) (hf : ∀ u m, (∃ c, u = .v (.bl c) ∧ f u m = g c m) ∨ f u m = .no)
    (k : ∀ c H1 π1 B1 m1, Bs K T J π1 B1 H1 m1 σ ρ → Want rel K T W σ π1 B1 H1 m1 (g c m1) Q → G c H1) : tE K T C W J e σ H fun v H' => ∃ k, v = .bl k ∧ G k H' :=
  tE_bnd hJ b w fun v H1 π1 B1 m1 u s1 b1 r1 w1 => by
    rcases hf u m1 with ⟨c, rfl, h2⟩ | h2
    · rw [h2] at w1
      exact ⟨c, bl_of r1, k c H1 π1 B1 m1 b1 w1⟩
    · rw [h2] at w1
      exact w1.elim
theorem ifs_cases {γ : Type} (p q : Mu → R γ) (u : U) (m : Mu) : (∃ c, u = .v (.bl c) ∧ (match u with
    | .v (.bl true) => p m
    | .v (.bl false) => q m
    | _ => .no) = (match c with | true => p m | false => q m)) ∨ (match u with
    | .v (.bl true) => p m
    | .v (.bl false) => q m
    | _ => (R.no : R γ)) = .no := by
  cases u with
  | p k => exact .inr rfl
  | v d => cases d with
    | bl b => cases b <;> exact .inl ⟨_, rfl, rfl⟩
    | _ => exact .inr rfl
theorem not_cases (u : U) (m : Mu) : (∃ c, u = .v (.bl c) ∧ (match u with
    | .v (.bl b) => R.ok (U.v (.bl !b)) m
    | _ => .no) = R.ok (U.v (.bl !c)) m) ∨ (match u with
    | .v (.bl b) => R.ok (U.v (.bl !b)) m
    | _ => .no) = .no := by
  cases u with
  | p k => exact .inr rfl
  | v d => cases d with
    | bl b => exact .inl ⟨_, rfl, rfl⟩
    | _ => exact .inr rfl
theorem pd_not (hJ : Mono J) (ha : PD X T C W J a a') : PD X T C W J (.UnaryOp .Not a pos) (.not_ a') := by
  refine PE.weak (pe_not ha) fun σ H Q h => ?_
  obtain ⟨π, B, m, ρ, b, w⟩ := h
  rw [ev] at w
  exact bool_bnd (g := fun c m => R.ok (U.v (.bl !c)) m) hJ b w not_cases fun c H1 π1 B1 m1 b1 w1 => want_ok w1 b1.st (.bl _)
theorem ptw_not (hJ : Mono J) (ha : PDt X T C W J a a') : PDt X T C W J (.UnaryOp .Not a pos) (.not_ a') := by
  refine PT.weak (pt_not ha) fun σ H Q h => ?_
  obtain ⟨π, B, m, ρ, b, w⟩ := h
  rw [ev] at w
  refine bool_bnd (g := fun c m => R.ok (U.v (.bl !c)) m) hJ b w not_cases fun c H1 π1 B1 m1 b1 w1 => ?_
  obtain ⟨k, e, q⟩ := want_ok w1 b1.st (.bl _)
  cases e
  exact q
theorem pd_and {rest : List Expr} (hJ : Mono J) (ha : PD X T C W J a a') (hb : PD X T C W J (.BoolOp .And (b :: rest) pos) b') : PD X T C W J (.BoolOp .And (a :: b :: rest) pos) (.and_ a' b') := by
  refine PE.weak (pe_and ha hb) fun σ H Q h => ?_
  obtain ⟨π, B, m, ρ, b, w⟩ := h
  rw [ev] at w
  refine bool_bnd (g := fun c m => match c with | true => ev C b' ρ m | false => R.ok (U.v (.bl false)) m) hJ b w (ifs_cases _ _) fun c H1 π1 B1 m1 b1 w1 => ?_
  cases c with
  | true => exact iteT ⟨π1, B1, m1, ρ, b1, w1⟩
  | false => exact iteF (want_ok w1 b1.st (.bl _))
theorem pd_or {rest : List Expr} (hJ : Mono J) (ha : PD X T C W J a a') (hb : PD X T C W J (.BoolOp .Or (b :: rest) pos) b') : PD X T C W J (.BoolOp .Or (a :: b :: rest) pos) (.or_ a' b') := by
  refine PE.weak (pe_or ha hb) fun σ H Q h => ?_
  obtain ⟨π, B, m, ρ, b, w⟩ := h
  rw [ev] at w
  refine bool_bnd (g := fun c m => match c with | true => R.ok (U.v (.bl true)) m | false => ev C b' ρ m) hJ b w (ifs_cases _ _) fun c H1 π1 B1 m1 b1 w1 => ?_
  cases c with
  | true => exact iteT (want_ok w1 b1.st (.bl _))
  | false => exact iteF ⟨π1, B1, m1, ρ, b1, w1⟩
theorem pd_one1 {op} (h : PD X T C W J a a') : PD X T C W J (.BoolOp op [a] pos) a' := pe_one h
/-- in tests -/
abbrev PDw (X : Cx) (T : Tb) (C : CE) (W : WX) (J : Jt) (e : Expr) (e' : E) : Prop := PW X e (tT X.K T C W J e')
theorem PW.weak {t u : TT} (h : PW X e t) (k : ∀ σ H Q, u σ H Q → t σ H Q) : PW X e u := ⟨fun whole pins s σ H Q I q => h.run whole pins s σ H Q I (k σ H Q q)⟩
theorem ptw_and {rest : List Expr} (hJ : Mono J) (ha : PDt X T C W J a a') (hb : PDw X T C W J (.BoolOp .And (b :: rest) pos) b') : PDw X T C W J (.BoolOp .And (a :: b :: rest) pos) (.and_ a' b') := by
  refine PW.weak (pw_and ha hb) fun σ H Q h => ?_
  obtain ⟨π, B, m, ρ, b, w⟩ := h
  rw [ev] at w
  refine bool_bnd (g := fun c m => match c with | true => ev C b' ρ m | false => R.ok (U.v (.bl false)) m) hJ b w (ifs_cases _ _) fun c H1 π1 B1 m1 b1 w1 => ?_
  cases c with
  | true => exact iteT ⟨π1, B1, m1, ρ, b1, w1⟩
  | false =>
    obtain ⟨k, e, q⟩ := want_ok w1 b1.st (.bl _)
    cases e
    exact iteF q
theorem ptw_or {rest : List Expr} (hJ : Mono J) (ha : PDt X T C W J a a') (hb : PDw X T C W J (.BoolOp .Or (b :: rest) pos) b') : PDw X T C W J (.BoolOp .Or (a :: b :: rest) pos) (.or_ a' b') := by
  refine PW.weak (pw_or ha hb) fun σ H Q h => ?_
  obtain ⟨π, B, m, ρ, b, w⟩ := h
  rw [ev] at w
  refine bool_bnd (g := fun c m => match c with | true => R.ok (U.v (.bl true)) m | false => ev C b' ρ m) hJ b w (ifs_cases _ _) fun c H1 π1 B1 m1 b1 w1 => ?_
  cases c with
  | true =>
    obtain ⟨k, e, q⟩ := want_ok w1 b1.st (.bl _)
    cases e
    exact iteT q
  | false => exact iteF ⟨π1, B1, m1, ρ, b1, w1⟩
theorem ptw_and1 (ha : PDt X T C W J a a') : PDw X T C W J (.BoolOp .And [a] pos) a' := pw_and1 ha
theorem ptw_or1 (ha : PDt X T C W J a a') : PDw X T C W J (.BoolOp .Or [a] pos) a' := pw_or1 ha
theorem pd_ifx {c : Expr} {c' : E} (hJ : Mono J) (hc : PDt X T C W J c c') (ha : PD X T C W J a a') (hb : PD X T C W J b b') : PD X T C W J (.IfExp c a b pos) (.ifx c' a' b') := by
  refine PE.weak (pe_ifExp hc ha hb) fun σ H Q h => ?_
  obtain ⟨π, B, m, ρ, b, w⟩ := h
  rw [ev] at w
  refine bool_bnd (g := fun c m => match c with | true => ev C a' ρ m | false => ev C b' ρ m) hJ b w (ifs_cases _ _) fun c H1 π1 B1 m1 b1 w1 => ?_
  cases c with
  | true => exact iteT ⟨π1, B1, m1, ρ, b1, w1⟩
  | false => exact iteF ⟨π1, B1, m1, ρ, b1, w1⟩
end
end At

/-! Displays, the store, subscripts, built-in functions. -/
namespace At
open PySem L2 Evl

section
variable {K : Fg} {T : Tb} {π π' : Nat → Addr} {B B' H H' : Hp} {m m' : Mu}
/-- a new thing of the store -/
theorem Step.push {x : M} {o : HO} (s : Sto K T π B H m) {p : Addr} (hp : H p = none) (ho : ∀ y, o ≠ .own y)
    (hc : Cell K T (m ++ [x]).length (fun k => if k = m.length then p else π k) B (upd H p o) p x) :
    Step K T π B H m (fun k => if k = m.length then p else π k) B (upd H p o) (m ++ [x]) := by
  have ln : (m ++ [x]).length = m.length + 1 := by simp
  have old : ∀ k, k < m.length → (fun k => if k = m.length then p else π k) k = π k := fun k hk => if_neg (Nat.ne_of_lt hk)
  have hpk : ∀ k, k < m.length → p ≠ π k := fun k hk z => by
    obtain ⟨o, h, _⟩ := s.dom k hk
    rw [← z, hp] at h
    cases h
  have ex : Ex B (upd H p o) := fun a u e => by
    rw [upd_ne (ne_of_none (s.ex a u e) hp)]
    exact s.ex a u e
  refine ⟨⟨ex, fun i j hi hj e => ?_, fun k hk => ?_, fun k y e => ?_⟩, old, by rw [ln]; exact Nat.le_succ _, Ex.refl B, fun a u h _ => ?_, fun k h1 h2 => ?_, fun _ _ _ _ _ => rfl⟩
  · rw [ln] at hi hj
    by_cases ci : i = m.length
    · by_cases cj : j = m.length
      · rw [ci, cj]
      · rw [if_pos ci, if_neg cj] at e
        exact absurd e (hpk j (by omega))
    · by_cases cj : j = m.length
      · rw [if_neg ci, if_pos cj] at e
        exact absurd e.symm (hpk i (by omega))
      · rw [if_neg ci, if_neg cj] at e
        exact s.inj i j (by omega) (by omega) e
  · rw [ln] at hk
    by_cases c : k = m.length
    · rw [if_pos c]
      exact ⟨o, upd_same, ho⟩
    · rw [if_neg c]
      obtain ⟨u, h, n⟩ := s.dom k (by omega)
      exact ⟨u, by rw [upd_ne (Ne.symm (hpk k (by omega)))]; exact h, n⟩
  · by_cases c : k < m.length
    · rw [List.getElem?_append_left c] at e
      have h := s.cell k y e
      have hl : m.length ≤ (m ++ [x]).length := by rw [ln]; exact Nat.le_succ _
      show Cell K T _ _ B _ ((fun k => if k = m.length then p else π k) k) y
      rw [old k c]
      cases y with
      | lst us =>
        obtain ⟨h1, xs, h2, h3, h4⟩ := h
        exact ⟨h1, xs, by rw [upd_ne (Ne.symm (hpk k c))]; exact h2, h3, Rus.mono hl old (Ex.refl B) h4⟩
      | obj c' fs =>
        obtain ⟨h1, hi, dx, fv, h2, h3, h4⟩ := h
        exact ⟨h1, hi, dx, fv, by rw [upd_ne (Ne.symm (hpk k c))]; exact h2, by rw [upd_ne (ne_of_none h3 hp)]; exact h3, Ruf.mono hl old (Ex.refl B) h4⟩
      | fz d => exact h
    · have hk : k = m.length := by
        have := (List.getElem?_eq_some_iff.mp e).1
        rw [ln] at this
        omega
      subst hk
      rw [List.getElem?_append_right (Nat.le_refl _), Nat.sub_self] at e
      cases e
      show Cell K T _ _ B _ ((fun k => if k = m.length then p else π k) m.length) x
      dsimp only
      rw [if_pos rfl]
      exact hc
  · rw [upd_ne (ne_of_none h hp)]
    exact h
  · have hk : k = m.length := by
      rw [ln] at h2
      omega
    rw [if_pos hk]
    exact hp
theorem Step.alloc {xs : List V} {us : List U} (s : Sto K T π B H m) {p : Addr} (hp : H p = none) (hz : xs.length ≤ lim) (r : Rus K T m.length π B xs us) :
    Step K T π B H m (fun k => if k = m.length then p else π k) B (upd H p (.lst xs)) (m ++ [.lst us]) :=
  Step.push s hp (fun _ z => nomatch z) ⟨fresh_back s.ex hp, xs, upd_same, hz, Rus.mono (by simp) (fun k hk => if_neg (Nat.ne_of_lt hk)) (Ex.refl B) r⟩
/-- a thing of the store is changed -/
theorem Step.put {k : Nat} {x : M} {o : HO} (s : Sto K T π B H m) (hk : k < m.length) (hB : B (π k) = none) (ho : ∀ y, o ≠ .own y) (hc : Cell K T (m.set k x).length π B (upd H (π k) o) (π k) x) : Step K T π B H m π B (upd H (π k) o) (m.set k x) := by
  have ln : (m.set k x).length = m.length := List.length_set
  have ex : Ex B (upd H (π k) o) := fun a u e => by
    have : a ≠ π k := fun z => by rw [z, hB] at e; cases e
    rw [upd_ne this]
    exact s.ex a u e
  refine ⟨⟨ex, fun i j hi hj e => ?_, fun j hj => ?_, fun j y e => ?_⟩, fun _ _ => rfl, by rw [ln]; exact Nat.le_refl _, Ex.refl B, fun a u h hn => ?_, fun j h1 h2 => ?_, fun _ _ _ _ _ => rfl⟩
  · rw [ln] at hi hj
    exact s.inj i j hi hj e
  · rw [ln] at hj
    by_cases c : π j = π k
    · rw [c]
      exact ⟨o, upd_same, ho⟩
    · obtain ⟨u, h, n⟩ := s.dom j hj
      exact ⟨u, by rw [upd_ne c]; exact h, n⟩
  · by_cases c : j = k
    · subst c
      rw [List.getElem?_set_self hk] at e
      cases e
      exact hc
    · rw [List.getElem?_set_ne (Ne.symm c)] at e
      have hj : j < m.length := (List.getElem?_eq_some_iff.mp e).1
      have ne : π j ≠ π k := fun z => c (s.inj j k hj hk z)
      have h := s.cell j y e
      rw [ln]
      cases y with
      | lst us =>
        obtain ⟨h1, xs, h2, h3, h4⟩ := h
        exact ⟨h1, xs, by rw [upd_ne ne]; exact h2, h3, h4⟩
      | obj c' fs =>
        obtain ⟨h1, hi, dx, fv, h2, h3, h4⟩ := h
        have hd : dx ≠ π k := fun z => by
          obtain ⟨u, hu, n⟩ := s.dom k hk
          rw [← z, h3] at hu
          cases hu
          exact n _ rfl
        exact ⟨h1, hi, dx, fv, by rw [upd_ne ne]; exact h2, by rw [upd_ne hd]; exact h3, h4⟩
      | fz d => exact h
  · rw [upd_ne (hn k hk)]
    exact h
  · rw [ln] at h2
    omega
/-- a thing of the store stays as it is from now on -/
theorem Step.freeze {k : Nat} {x : M} {d : D} (s : Sto K T π B H m) (hx : m[k]? = some x) (hd : seeM x = some d) : ∃ B', Step K T π B H m π B' H (m.set k (.fz d)) ∧ Rp K T B' (.ref (π k)) d := by
  have hk : k < m.length := (List.getElem?_eq_some_iff.mp hx).1
  have ln : (m.set k (M.fz d)).length = m.length := List.length_set
  have h := s.cell k x hx
  have fin : ∀ B', Ex B B' → Ex B' H → Rp K T B' (.ref (π k)) d → (∀ j, j < m.length → j ≠ k → B' (π j) = B (π j)) → (∀ a o, H a = some o → (∀ k, k < m.length → a ≠ π k) → (∀ y, o ≠ .own y) → B' a = B a) → ∃ B', Step K T π B H m π B' H (m.set k (.fz d)) ∧ Rp K T B' (.ref (π k)) d := by
    intro B' e1 e2 r hj hn
    refine ⟨B', ⟨⟨e2, fun i j hi hj e => ?_, fun j hj => ?_, fun j y e => ?_⟩, fun _ _ => rfl, by rw [ln]; exact Nat.le_refl _, e1, fun a u h _ => h, fun j h1 h2 => ?_, hn⟩, r⟩
    · rw [ln] at hi hj
      exact s.inj i j hi hj e
    · rw [ln] at hj
      exact s.dom j hj
    · by_cases c : j = k
      · subst c
        rw [List.getElem?_set_self hk] at e
        cases e
        exact r
      · rw [List.getElem?_set_ne (Ne.symm c)] at e
        have hj' : j < m.length := (List.getElem?_eq_some_iff.mp e).1
        have h := s.cell j y e
        rw [ln]
        cases y with
        | lst us =>
          obtain ⟨h1, xs, h2, h3, h4⟩ := h
          exact ⟨(hj j hj' c).trans h1, xs, h2, h3, Rus.mono (Nat.le_refl _) (fun _ _ => rfl) e1 h4⟩
        | obj c' fs =>
          obtain ⟨h1, hi, dx, fv, h2, h3, h4⟩ := h
          exact ⟨(hj j hj' c).trans h1, hi, dx, fv, h2, h3, Ruf.mono (Nat.le_refl _) (fun _ _ => rfl) e1 h4⟩
        | fz d => exact Rp.mono e1 h
    · rw [ln] at h2
      omega
  cases x with
  | lst us =>
    obtain ⟨h1, xs, h2, h3, h4⟩ := h
    obtain ⟨ds, q1, q2⟩ := Option.map_eq_some_iff.mp hd
    subst q2
    have e1 : Ex B (upd B (π k) (.lst xs)) := Ex.new h1
    refine fin (upd B (π k) (.lst xs)) e1 (fun a u e => ?_) (.lst upd_same h3 ((plainU_ok h4 q1).mono e1)) (fun j hj c => upd_ne fun z => c (s.inj j k hj hk z)) fun a o _ hn _ => upd_ne (hn k hk)
    by_cases c : a = π k
    · subst c
      rw [upd_same] at e
      rw [h2]
      exact e
    · rw [upd_ne c] at e
      exact s.ex a u e
  | obj c' fs =>
    obtain ⟨h1, hi, dx, fv, h2, h3, h4⟩ := h
    obtain ⟨ds, q1, q2⟩ := Option.map_eq_some_iff.mp hd
    subst q2
    have hdk : dx ≠ π k := fun z => by rw [z, h2] at h3; cases h3
    have e1 : Ex B (upd (upd B (π k) (.ins (cl K T c') dx fv)) dx (.own (π k))) := fun a u e => by
      by_cases c : a = dx
      · subst c
        have := s.ex _ _ e
        rw [h3] at this
        rw [upd_same]
        exact this
      · rw [upd_ne c]
        exact Ex.new h1 a u e
    refine fin _ e1 (fun a u e => ?_) (.obj hi (by rw [upd_ne (Ne.symm hdk)]; exact upd_same) upd_same ((plainF_ok h4 q1).mono e1)) (fun j hj c => ?_) fun a o ha hn ho => ?_
    · by_cases c : a = dx
      · subst c
        rw [upd_same] at e
        rw [h3]
        exact e
      · rw [upd_ne c] at e
        by_cases c2 : a = π k
        · subst c2
          rw [upd_same] at e
          rw [h2]
          exact e
        · rw [upd_ne c2] at e
          exact s.ex a u e
    · have nd : π j ≠ dx := fun z => by
        obtain ⟨u, hu, n⟩ := s.dom j hj
        rw [z, h3] at hu
        cases hu
        exact n _ rfl
      rw [upd_ne nd, upd_ne fun z => c (s.inj j k hj hk z)]
    · have : a ≠ dx := fun z => by
        rw [z, h3] at ha
        cases ha
        exact ho _ rfl
      rw [upd_ne this, upd_ne (hn k hk)]
  | fz d' =>
    cases hd
    exact fin B (Ex.refl B) s.ex h (fun _ _ _ => rfl) fun _ _ _ _ _ => rfl
end
end At

/-! Displays, subscripts, built-in functions. -/
namespace At
open PySem L2 Evl

section
variable {X : Cx} {T : Tb} {C : CE} {W : WX} {J : Jt} {a b e : Expr} {a' b' e' : E} {es : List Expr} {es' : E} {pos : Pos}
theorem pds_nil : PDs X T C W J [] .nil := PA.weak pa_nil fun σ H Q h => by
  obtain ⟨π, B, m, ρ, b, w⟩ := h
  rw [evs] at w
  exact w [] H π B (Step.refl b.st) .nil
theorem pds_cons (hJ : Mono J) (ha : PD X T C W J a a') (hr : PDs X T C W J es es') (hs : starEach (a :: es) X.env = (false, eval a X.env) :: starEach es X.env := by rfl) : PDs X T C W J (a :: es) (.cons a' es') :=
  PA.weak (pa_cons ha hr hs) fun σ H Q h => by
    obtain ⟨π, B, m, ρ, b, w⟩ := h
    rw [evs] at w
    exact tE_bnd hJ b w fun x H1 π1 B1 m1 u1 s1 b1 r1 w1 => tEs_bnd hJ b1 w1 fun xs H2 π2 B2 m2 us s2 b2 r2 w2 => w2 (x :: xs) H2 π2 B2 (Step.refl b2.st) (.cons (s2.ru r1) r2)

theorem rus_len {K : Fg} {n : Nat} {π : Nat → Addr} {B : Hp} {xs : List V} {us : List U} (r : Rus K T n π B xs us) : xs.length = us.length := Paired.length r
theorem plainU_len : ∀ {us : List U} {ds : List D}, plainU us = some ds → us.length = ds.length
  | [], _, e => by cases e; rfl
  | .v d :: us, _, e => by
    obtain ⟨r, h1, h2⟩ := Option.map_eq_some_iff.mp (show (plainU us).map (d :: ·) = _ from e)
    subst h2
    rw [List.length_cons, List.length_cons, plainU_len h1]
  | .p k :: us, _, e => by cases e

theorem pd_tup {x1} (hJ : Mono J) (h : PDs X T C W J es es') : PD X T C W J (.Tuple es x1 pos) (.tup es') := by
  refine PE.weak (pe_tup h) fun σ H Q h => ?_
  obtain ⟨π, B, m, ρ, b, w⟩ := h
  rw [ev] at w
  refine tEs_bnd hJ b w fun xs H1 π1 B1 m1 us s1 b1 r1 w1 => ?_
  cases e : plainU us with
  | none =>
    rw [e] at w1
    exact w1.elim
  | some ds =>
    rw [e] at w1
    dsimp only at w1
    have rp := plainU_ok r1 e
    by_cases c : ds.length ≤ lim
    · rw [if_pos c] at w1
      rw [← rp.len] at c
      refine ⟨lim_size c, fun p hp => w1 _ _ π1 _ ((New.one b1.st.ex hp).step b1.st) (.tup (SqT.of upd_same) c (rp.mono (New.one b1.st.ex hp).ex))⟩
    · rw [if_neg c] at w1
      exact w1.elim
theorem pd_lst (hJ : Mono J) (h : PDs X T C W J es es') : PD X T C W J (.List es pos) (.lst es') := by
  refine PE.weak (pe_lst h) fun σ H Q h => ?_
  obtain ⟨π, B, m, ρ, b, w⟩ := h
  rw [ev] at w
  refine tEs_bnd hJ b w fun xs H1 π1 B1 m1 us s1 b1 r1 w1 => ?_
  cases e : plainU us with
  | none =>
    rw [e] at w1
    exact w1.elim
  | some ds =>
    rw [e] at w1
    dsimp only at w1
    have rp := plainU_ok r1 e
    by_cases c : ds.length ≤ lim
    · rw [if_pos c] at w1
      rw [← rp.len] at c
      refine ⟨lim_size c, fun p hp => w1 _ _ π1 _ ((New.one b1.st.ex hp).step b1.st) (.lst upd_same c (rp.mono (New.one b1.st.ex hp).ex))⟩
    · rw [if_neg c] at w1
      exact w1.elim
/-- a list that will be changed -/
theorem pd_new (hJ : Mono J) (h : PDs X T C W J es es') : PD X T C W J (.List es pos) (.new es') := by
  refine PE.weak (pe_lst h) fun σ H Q h => ?_
  obtain ⟨π, B, m, ρ, b, w⟩ := h
  rw [ev] at w
  refine tEs_bnd hJ b w fun xs H1 π1 B1 m1 us s1 b1 r1 w1 => ?_
  by_cases c : us.length ≤ lim
  · rw [if_pos c] at w1
    rw [← rus_len r1] at c
    refine ⟨lim_size c, fun p hp => w1 _ _ _ _ (Step.alloc b1.st hp c r1) ⟨by simp, ?_⟩⟩
    show V.ref p = V.ref (if m1.length = m1.length then p else π1 m1.length)
    rw [if_pos rfl]
  · rw [if_neg c] at w1
    exact w1.elim
/-- no word of Python's: the list is no more changed -/
theorem pd_frz (hJ : Mono J) (h : PD X T C W J e e') : PD X T C W J e (.frz e') := by
  refine PE.weak h fun σ H Q h => ?_
  obtain ⟨π, B, m, ρ, b, w⟩ := h
  rw [ev] at w
  refine tE_bnd hJ b w fun x H1 π1 B1 m1 u s1 b1 r1 w1 => ?_
  cases u with
  | v d => exact want_ok w1 b1.st r1
  | p k =>
    obtain ⟨hk, rfl⟩ := r1
    have w2 : Want (RU X.K T) X.K T W σ π1 B1 H1 m1 (match m1[k]? with
      | some x => match seeM x with
        | some d => .ok (.v d) (m1.set k (.fz d))
        | none => .no
      | none => .no) Q := w1
    cases hx : m1[k]? with
    | none =>
      rw [hx] at w2
      exact w2.elim
    | some x =>
      rw [hx] at w2
      dsimp only at w2
      cases hd : seeM x with
      | none =>
        rw [hd] at w2
        exact w2.elim
      | some d =>
        rw [hd] at w2
        obtain ⟨B', st, rp⟩ := Step.freeze b1.st hx hd
        exact w2 _ H1 π1 B' st rp

/-! ### subscripts -/
theorem rps_at {K : Fg} {B : Hp} {xs : List V} {ds : List D} {i : Int} {d : D} (r : Rps K T B xs ds) (h : atD ds i = some d) : ∃ v, atI xs i = some v ∧ Rp K T B v d := by
  unfold atD atI at h
  rw [← r.len] at h
  unfold atI
  cases q : ixN xs.length i with
  | none =>
    rw [q] at h
    cases h
  | some j =>
    rw [q] at h
    exact r.get h
theorem sem_idx {K : Fg} : Sem2 K T (rIx K) idx2 := by
  intro B H x y d1 d2 d Q e r1 r2 hf k
  cases r1 with
  | lst h z q =>
    cases r2 with
    | int i =>
      obtain ⟨v, h1, h2⟩ := rps_at q hf
      exact .inl ⟨_, _, i, v, rfl, rfl, SqL.of h, h1, k _ _ _ (New.refl e) h2⟩
    | _ => cases hf
  | tup h z q =>
    cases r2 with
    | int i =>
      obtain ⟨v, h1, h2⟩ := rps_at q hf
      exact .inr (.inl ⟨_, _, i, v, rfl, rfl, ex_t e h, h1, k _ _ _ (New.refl e) h2⟩)
    | _ => cases hf
  | str x h o =>
    cases r2 with
    | int i =>
      obtain ⟨c, h1, h2⟩ := Option.map_eq_some_iff.mp (show (atD x.cps.toList i).map (fun c => D.str [c]) = some d from hf)
      subst h2
      have hm : c ∈ x.cps.toList := by
        obtain ⟨j, _, hj, _⟩ := atI_get (show atI x.cps.toList i = some c from h1)
        exact List.mem_of_getElem? hj
      refine .inr (.inr ⟨x, i, c, rfl, rfl, lim_size h, h1, k _ _ _ (New.refl e) (Rp.text rfl (by show 1 ≤ lim; decide) ?_)⟩)
      have := List.all_eq_true.mp (strOk_list o) c hm
      show (decide (c < 0x110000) && true) = true
      rw [this]
      rfl
    | _ => cases hf
  | scr h =>
    cases r2 with
    | int i =>
      rename_i a ns
      obtain ⟨c, h1, h2⟩ := Option.map_eq_some_iff.mp (show (atD ns i).map (fun c => D.int c) = some d from hf)
      subst h2
      have h3 : atI (ns.map V.int) i = some (V.int c) := by
        unfold atD atI at h1
        unfold atI
        rw [List.length_map]
        cases q : ixN ns.length i with
        | none =>
          rw [q] at h1
          cases h1
        | some j =>
          rw [q] at h1
          have h1' : ns[j]? = some c := h1
          show (ns.map V.int)[j]? = some (V.int c)
          rw [List.getElem?_map, h1']
          rfl
      exact .inl ⟨_, _, i, _, rfl, rfl, h, h3, k _ _ _ (New.refl e) (.int c)⟩
    | _ => cases hf
  | _ => cases hf
theorem pd_idx (hJ : Mono J) (ha : PD X T C W J a a') (hb : PD X T C W J b b') (hs : PlainIx b := by intro _ _; rfl) : PD X T C W J (.Subscript a b pos) (.idx a' b') :=
  PE.weak (pe_ix ix_seq ha hb hs) (pd_two (t := tOp (rIx X.K)) hJ (fun _ _ _ _ _ h => h) sem_idx fun ρ m => by rw [ev] <;> rfl)

theorem rps_cut {K : Fg} {B : Hp} {xs : List V} {ds : List D} (r : Rps K T B xs ds) (lo hi : Option Int) : Rps K T B (cutV xs lo hi) (cutD ds lo hi) := by
  unfold cutV cutD
  rw [← r.len]
  exact (r.drop _).take _
theorem cut_len {α : Type} (xs : List α) (lo hi : Option Int) : (cutD xs lo hi).length ≤ xs.length := by
  unfold cutD
  rw [List.length_take, List.length_drop]
  omega
def rSlc (K : Fg) : V → Option Int → Option Int → Hp → VK → Prop := fun x lo hi H Q => (rSlL K x lo hi H Q ∨ rSlA K x lo hi H Q) ∨ rSlS x lo hi H Q
theorem sl_all : SlR X (rSlc X.K) := SlR.or (SlR.or sl_list sl_tupA) sl_str
theorem sem_slc {K : Fg} {B H : Hp} {x : V} {d1 d : D} {lo hi : Option Int} {Q : VK} (e : Ex B H) (r1 : Rq K T B H x d1) (hf : slc2 d1 lo hi = some d) (k : ∀ v H' B', New B H B' H' → Rp K T B' v d → Q v H') : rSlc K x lo hi H Q := by
  cases r1 with
  | lst h z q =>
    cases hf
    refine .inl (.inl ⟨_, _, rfl, SqL.of h, fun p hp => k _ _ _ (New.one e hp) (.lst upd_same ?_ ((rps_cut q lo hi).mono (New.one e hp).ex))⟩)
    rw [(rps_cut q lo hi).len]
    exact Nat.le_trans (cut_len _ _ _) (by rw [← q.len]; exact z)
  | tup h z q =>
    rename_i a xs ds
    cases hf
    have hz : (cutV xs lo hi).length ≤ lim := by
      rw [(rps_cut q lo hi).len]
      exact Nat.le_trans (cut_len _ _ _) (by rw [← q.len]; exact z)
    refine .inl (.inr ⟨_, _, rfl, ex_t e h, fun w => ?_, fun _ p hp => k _ _ _ (New.one e hp) (.tup (SqT.of upd_same) hz ((rps_cut q lo hi).mono (New.one e hp).ex))⟩)
    have : cutD ds lo hi = ds := by
      unfold cutD
      rw [← q.len, w.1, w.2, List.drop_zero, Nat.sub_zero, q.len, List.take_length]
    rw [this] at k
    exact k _ _ _ (New.refl e) (.tup h z q)
  | str x h o =>
    cases hf
    refine .inr ⟨x, rfl, lim_size h, k _ _ _ (New.refl e) (Rp.text ?_ (Nat.le_trans (cut_len _ _ _) (by rw [len_list]; exact h)) ?_)⟩
    · show (((x.cps.toList.drop (HT.sIx x.length 0 lo)).take (HT.sIx x.length x.length hi - HT.sIx x.length 0 lo)).toArray).toList = _
      rw [List.toList_toArray]
      unfold cutD
      rw [len_list]
    · refine List.all_eq_true.mpr fun c hc => List.all_eq_true.mp (strOk_list o) c ?_
      exact List.mem_of_mem_drop (List.mem_of_mem_take hc)
  | _ => cases hf

/-- a part of a slice -/
def PDo (X : Cx) (T : Tb) (C : CE) (W : WX) (J : Jt) (e : Option Expr) (e' : E) : Prop := ∃ t, PO X e t ∧ ∀ (γ δ : Type) (rel : Rel γ δ) (f : Option Int → Mu → R γ) (Q : δ → Hp → Prop) (G : Option Int → Hp → Prop) (σ : L2.St) (H : Hp) (π : Nat → Addr) (B : Hp) (m : Mu) (ρ : Ro),
  Bs X.K T J π B H m σ ρ → Want rel X.K T W σ π B H m ((evo C e' ρ m).bnd f) Q → (∀ o H1 π1 B1 m1, Step X.K T π B H m π1 B1 H1 m1 → Bs X.K T J π1 B1 H1 m1 σ ρ → Want rel X.K T W σ π1 B1 H1 m1 (f o m1) Q → G o H1) → t σ H G
theorem po_no : PDo X T C W J none .nil := ⟨_, po_none, fun γ δ rel f Q G σ H π B m ρ b w k => by
  rw [evo] at w
  exact k none H π B m (Step.refl b.st) b w⟩
theorem bnd_assoc {α β γ : Type} (r : R α) (f : α → Mu → R β) (g : β → Mu → R γ) : (r.bnd f).bnd g = r.bnd fun a m => (f a m).bnd g := by
  cases r <;> rfl
theorem po_at (hJ : Mono J) (h : PD X T C W J e e') : PDo X T C W J (some e) (.opt e') := ⟨_, po_some h, fun γ δ rel f Q G σ H π B m ρ b w k => by
  rw [evo, bnd_assoc] at w
  refine tE_bnd hJ b w fun x H1 π1 B1 m1 u s1 b1 r1 w1 => ?_
  cases u with
  | p j => exact w1.elim
  | v d =>
    cases d with
    | int i =>
      cases r1
      exact ⟨i, rfl, k (some i) H1 π1 B1 m1 s1 b1 w1⟩
    | _ => exact w1.elim⟩
theorem pd_slc {lo hi : Option Expr} {lo' hi' : E} {p2 : Pos} (hJ : Mono J) (ha : PD X T C W J a a') (hl : PDo X T C W J lo lo') (hh : PDo X T C W J hi hi') : PD X T C W J (.Subscript a (.Slice lo hi none p2) pos) (.slc a' lo' hi') := by
  obtain ⟨tl, pl, kl⟩ := hl
  obtain ⟨th, ph, kh⟩ := hh
  refine PE.weak (pe_slice sl_all ha pl ph) fun σ H Q h => ?_
  obtain ⟨π, B, m, ρ, b, w⟩ := h
  rw [ev] at w
  refine tE_bnd hJ b w fun x H1 π1 B1 m1 u s1 b1 r1 w1 => kl _ _ _ _ _ _ σ H1 π1 B1 m1 ρ b1 w1 fun i H2 π2 B2 m2 s2 b2 w2 => kh _ _ _ _ _ _ σ H2 π2 B2 m2 ρ b2 w2 fun j H3 π3 B3 m3 s3 b3 w3 => ?_
  cases e1 : see m3 u with
  | none =>
    rw [e1] at w3
    exact w3.elim
  | some d1 =>
    rw [e1] at w3
    dsimp only at w3
    cases e3 : slc2 d1 i j with
    | none =>
      rw [e3] at w3
      exact w3.elim
    | some d =>
      rw [e3] at w3
      exact sem_slc b3.st.ex (see_ok b3.st (s3.ru (s2.ru r1)) e1) e3 fun v H' B' nw rv => w3 v H' π3 B' (nw.step b3.st) rv

/-! ### built-in functions of one argument -/
theorem pd_fun1 {x : Str} {p : Pos} {o : Un} {r : List V → Hp → VK → Prop} (hJ : Mono J) (hs : SemL X.K T r (un1 o)) (hp : ∀ t, PA X [a] t → PE X (.Call (.Name x p) [a] [] pos) (tCB r t)) (ha : PD X T C W J a a') (hst : starEach [a] X.env = (false, eval a X.env) :: starEach [] X.env := by rfl) :
    PD X T C W J (.Call (.Name x p) [a] [] pos) (.un o a') := by
  refine PE.weak (hp _ (pa_cons ha pa_nil hst)) fun σ H Q h => ?_
  exact pd_one (X := X) (t := fun ta σ H Q => ta σ H fun x H1 => r [x] H1 Q) (r := fun x H Q => r [x] H Q) hJ (fun _ _ _ _ h => h) (fun B H x d1 d Q e r1 hf k => hs B H x d1 d Q e r1 hf k) (fun ρ m => ev_un C o a' ρ m) σ H Q h
theorem pt_fun1 {x : Str} {p : Pos} {o : Un} (h : PD X T C W J (.Call (.Name x p) [a] [] pos) (.un o a')) : PDt X T C W J (.Call (.Name x p) [a] [] pos) (.un o a') := pt_val' h

theorem sem_len {K : Fg} : SemL K T (fun xs H Q => ∃ x n, xs = [x] ∧ LenV K x H n ∧ Q (.int n) H) (un1 .len) := by
  intro B H x d1 d Q e r1 hf k
  cases r1 with
  | str x h o =>
    cases hf
    refine ⟨_, x.length, rfl, ⟨lim_size h, rfl⟩, ?_⟩
    rw [len_list] at k
    exact k _ _ _ (New.refl e) (.int _)
  | lst h z q =>
    cases hf
    rename_i a xs ds
    refine ⟨_, xs.length, rfl, .inl ⟨_, SqL.of h, rfl⟩, ?_⟩
    rw [q.len]
    exact k _ _ _ (New.refl e) (.int _)
  | tup h z q =>
    cases hf
    rename_i a xs ds
    refine ⟨_, xs.length, rfl, .inr ⟨_, ex_t e h, rfl⟩, ?_⟩
    rw [q.len]
    exact k _ _ _ (New.refl e) (.int _)
  | scr h =>
    cases hf
    rename_i a ns
    refine ⟨_, (ns.map V.int).length, rfl, .inl ⟨_, h, rfl⟩, ?_⟩
    rw [List.length_map]
    exact k _ _ _ (New.refl e) (.int _)
  | _ => cases hf
theorem sem_int' {K : Fg} : SemL K T (fun xs H Q => (∃ i, xs = [.int i] ∧ Q (.int i) H) ∨ ∃ k, xs = [.bl k] ∧ Q (.int (if k then 1 else 0)) H) (un1 .int) := by
  intro B H x d1 d Q e r1 hf k
  cases r1 with
  | int i =>
    cases hf
    exact .inl ⟨i, rfl, k _ _ _ (New.refl e) (.int _)⟩
  | bl i =>
    cases hf
    exact .inr ⟨i, rfl, k _ _ _ (New.refl e) (.int _)⟩
  | _ => cases hf
theorem log_lt {n : Nat} (h : n < 2 ^ 100) : n.log2 < 1920 := by
  by_cases c : n = 0
  · subst c
    decide
  · exact Nat.lt_trans ((Nat.log2_lt c).mpr h) (by decide)
theorem sem_str {K : Fg} : SemL K T (fun xs H Q => ∃ i, xs = [.int i] ∧ i.natAbs.log2 < 1920 ∧ Q (.str (toString i)) H) (fun d => match d with | .int i => un1 .str (.int i) | _ => none) := by
  intro B H x d1 d Q e r1 hf k
  cases r1 with
  | int i =>
    have hf' : (if i.natAbs < 2 ^ 100 ∧ (digits i).length ≤ lim ∧ (digits i).all (· < 0x110000) = true then some (D.str (digits i)) else none) = some d := hf
    by_cases c : i.natAbs < 2 ^ 100 ∧ (digits i).length ≤ lim ∧ (digits i).all (· < 0x110000) = true
    · rw [if_pos c] at hf'
      cases hf'
      exact ⟨i, rfl, log_lt c.1, k _ _ _ (New.refl e) (Rp.text rfl c.2.1 c.2.2)⟩
    · rw [if_neg c] at hf'
      cases hf'
  | _ => cases hf
theorem sem_tuple {K : Fg} : SemL K T (fun xs H Q => ∃ p ys, xs = [.ref p] ∧ ((SqL K H p ys ∧ ∀ l, H l = none → Q (.ref l) (upd H l (.tup ys))) ∨ (SqT K H p ys ∧ Q (.ref p) H))) (un1 .tuple) := by
  intro B H x d1 d Q e r1 hf k
  cases r1 with
  | lst h z q =>
    cases hf
    exact ⟨_, _, rfl, .inl ⟨SqL.of h, fun p hp => k _ _ _ (New.one e hp) (.tup (SqT.of upd_same) z (q.mono (New.one e hp).ex))⟩⟩
  | tup h z q =>
    cases hf
    exact ⟨_, _, rfl, .inr ⟨ex_t e h, k _ _ _ (New.refl e) (.tup h z q)⟩⟩
  | _ => cases hf
theorem sem_list {K : Fg} : SemL K T (fun xs H Q => ∃ p ys, xs = [.ref p] ∧ (SqL K H p ys ∨ SqT K H p ys) ∧ ∀ l, H l = none → Q (.ref l) (upd H l (.lst ys))) (un1 .list) := by
  intro B H x d1 d Q e r1 hf k
  cases r1 with
  | lst h z q =>
    cases hf
    exact ⟨_, _, rfl, .inl (SqL.of h), fun p hp => k _ _ _ (New.one e hp) (.lst upd_same z (q.mono (New.one e hp).ex))⟩
  | tup h z q =>
    cases hf
    exact ⟨_, _, rfl, .inr (ex_t e h), fun p hp => k _ _ _ (New.one e hp) (.lst upd_same z (q.mono (New.one e hp).ex))⟩
  | _ => cases hf
theorem bools_rel {K : Fg} {B : Hp} : ∀ {xs : List V} {ds : List D} {bs : List Bool}, Rps K T B xs ds → bools ds = some bs → xs = bs.map V.bl
  | _, _, _, .nil, e => by cases e; rfl
  | _, _, _, .cons (d := d) r q, e => by
    cases d with
    | bl b =>
      cases r
      obtain ⟨r', h1, h2⟩ := Option.map_eq_some_iff.mp (show (bools _).map (b :: ·) = some _ from e)
      subst h2
      rw [List.map_cons, bools_rel q h1]
    | _ => cases e
theorem ints_rel {K : Fg} {B : Hp} : ∀ {xs : List V} {ds : List D} {bs : List Int}, Rps K T B xs ds → intsD ds = some bs → xs = bs.map V.int
  | _, _, _, .nil, e => by cases e; rfl
  | _, _, _, .cons (d := d) r q, e => by
    cases d with
    | int b =>
      cases r
      obtain ⟨r', h1, h2⟩ := Option.map_eq_some_iff.mp (show (intsD _).map (b :: ·) = some _ from e)
      subst h2
      rw [List.map_cons, ints_rel q h1]
    | _ => cases e
theorem sem_all {K : Fg} : SemL K T (rAll K) (un1 .all) := by
  intro B H x d1 d Q e r1 hf k
  cases r1 with
  | lst h z q =>
    rename_i a xs ds
    obtain ⟨bs, h1, h2⟩ := Option.map_eq_some_iff.mp (show (bools ds).map (fun bs => D.bl (bs.all id)) = some d from hf)
    subst h2
    have := bools_rel q h1
    subst this
    exact ⟨_, bs, rfl, SqL.of h, k _ _ _ (New.refl e) (.bl _)⟩
  | _ => cases hf
theorem sem_any {K : Fg} : SemL K T (rAny K) (un1 .any) := by
  intro B H x d1 d Q e r1 hf k
  cases r1 with
  | lst h z q =>
    rename_i a xs ds
    obtain ⟨bs, h1, h2⟩ := Option.map_eq_some_iff.mp (show (bools ds).map (fun bs => D.bl (bs.any id)) = some d from hf)
    subst h2
    have := bools_rel q h1
    subst this
    exact ⟨_, bs, rfl, SqL.of h, k _ _ _ (New.refl e) (.bl _)⟩
  | _ => cases hf
theorem sem_sum {K : Fg} : SemL K T (rSum K) (un1 .sum) := by
  intro B H x d1 d Q e r1 hf k
  cases r1 with
  | lst h z q =>
    rename_i a xs ds
    obtain ⟨bs, h1, h2⟩ := Option.map_eq_some_iff.mp (show (intsD ds).map (fun bs => D.int bs.sum) = some d from hf)
    subst h2
    have := ints_rel q h1
    subst this
    exact ⟨_, bs, rfl, SqL.of h, k _ _ _ (New.refl e) (.int _)⟩
  | _ => cases hf
theorem pd_len {p : Pos} (hJ : Mono J) (hg : Gl X "len") (hm : X.mg "len" = none) (ha : PD X T C W J a a') (hst : starEach [a] X.env = (false, eval a X.env) :: starEach [] X.env := by rfl) : PD X T C W J (.Call (.Name "len" p) [a] [] pos) (.un .len a') :=
  pd_fun1 hJ sem_len (fun t ht => pe_callB call_len hg hm PySem.boot_len ht (he := hst)) ha hst
theorem pd_int1 {p : Pos} (hJ : Mono J) (hg : Gl X "int") (hm : X.mg "int" = none) (ha : PD X T C W J a a') (hst : starEach [a] X.env = (false, eval a X.env) :: starEach [] X.env := by rfl) : PD X T C W J (.Call (.Name "int" p) [a] [] pos) (.un .int a') :=
  pd_fun1 hJ sem_int' (fun t ht => pe_callTy call_int1 hg hm (by decide +kernel) ht (he := hst)) ha hst
theorem pd_tuple {p : Pos} (hJ : Mono J) (hg : Gl X "tuple") (hm : X.mg "tuple" = none) (ha : PD X T C W J a a') (hst : starEach [a] X.env = (false, eval a X.env) :: starEach [] X.env := by rfl) : PD X T C W J (.Call (.Name "tuple" p) [a] [] pos) (.un .tuple a') :=
  pd_fun1 hJ sem_tuple (fun t ht => pe_callTy call_tuple_of hg hm (by decide +kernel) ht (he := hst)) ha hst
theorem pd_list {p : Pos} (hJ : Mono J) (hg : Gl X "list") (hm : X.mg "list" = none) (ha : PD X T C W J a a') (hst : starEach [a] X.env = (false, eval a X.env) :: starEach [] X.env := by rfl) : PD X T C W J (.Call (.Name "list" p) [a] [] pos) (.un .list a') :=
  pd_fun1 hJ sem_list (fun t ht => pe_callTy call_list_of hg hm (by decide +kernel) ht (he := hst)) ha hst
theorem pd_all {p : Pos} (hJ : Mono J) (hc : X.calm = true) (hg : Gl X "all") (hm : X.mg "all" = none) (ha : PD X T C W J a a') (hst : starEach [a] X.env = (false, eval a X.env) :: starEach [] X.env := by rfl) : PD X T C W J (.Call (.Name "all" p) [a] [] pos) (.un .all a') :=
  pd_fun1 hJ sem_all (fun t ht => pe_callB (cr_all hc) hg hm (by decide +kernel) ht (he := hst)) ha hst
theorem pd_any {p : Pos} (hJ : Mono J) (hc : X.calm = true) (hg : Gl X "any") (hm : X.mg "any" = none) (ha : PD X T C W J a a') (hst : starEach [a] X.env = (false, eval a X.env) :: starEach [] X.env := by rfl) : PD X T C W J (.Call (.Name "any" p) [a] [] pos) (.un .any a') :=
  pd_fun1 hJ sem_any (fun t ht => pe_callB (cr_any hc) hg hm (by decide +kernel) ht (he := hst)) ha hst
theorem pd_sum {p : Pos} (hJ : Mono J) (hc : X.calm = true) (hg : Gl X "sum") (hm : X.mg "sum" = none) (ha : PD X T C W J a a') (hst : starEach [a] X.env = (false, eval a X.env) :: starEach [] X.env := by rfl) : PD X T C W J (.Call (.Name "sum" p) [a] [] pos) (.un .sum a') :=
  pd_fun1 hJ sem_sum (fun t ht => pe_callB (cr_sum hc) hg hm (by decide +kernel) ht (he := hst)) ha hst
end
end At

/-! Statements, loops, comprehensions. -/
namespace At
open PySem L2 Evl

def WantS (K : Fg) (T : Tb) (W : WX) (π : Nat → Addr) (B H : Hp) (m : Mu) (o : O) (D : Ends) : Prop := match o with
  | .nx ρ' m' => ∀ σ' H' π' B', Step K T π B H m π' B' H' m' → Slots K T m'.length π' B' σ' ρ' → D.nx σ' H'
  | .bk ρ' m' => ∀ σ' H' π' B', Step K T π B H m π' B' H' m' → Slots K T m'.length π' B' σ' ρ' → D.bk σ' H'
  | .ct ρ' m' => ∀ σ' H' π' B', Step K T π B H m π' B' H' m' → Slots K T m'.length π' B' σ' ρ' → D.ct σ' H'
  | .rt u m' => ∀ v H' π' B', Step K T π B H m π' B' H' m' → Ru K T m'.length π' B' v u → D.rt v H'
  | .ex c fs ρ' m' => ∀ σ' x xs H' π' B', Step K T π B H m π' B' H' m' → Slots K T m'.length π' B' σ' ρ' → B' x = some (.xd xs) → Rpf K T B' xs fs → W (.ref (cl K T c)) (some x) σ' H'
  | .no => False

section
variable {K : Fg} {T : Tb} {C : CE} {W : WX} {σ : L2.St} {ρ : Ro} {π π' : Nat → Addr} {B B' H H' : Hp} {m m' : Mu} {α β : Type}
theorem WantS.rebase {o : O} {D : Ends} (w : WantS K T W π B H m o D) (s : Step K T π B H m π' B' H' m') : WantS K T W π' B' H' m' o D := by
  cases o with
  | nx ρ2 m2 => exact fun σ2 H2 π2 B2 t q => w σ2 H2 π2 B2 (s.trans t) q
  | bk ρ2 m2 => exact fun σ2 H2 π2 B2 t q => w σ2 H2 π2 B2 (s.trans t) q
  | ct ρ2 m2 => exact fun σ2 H2 π2 B2 t q => w σ2 H2 π2 B2 (s.trans t) q
  | rt u m2 => exact fun σ2 H2 π2 B2 t q => w σ2 H2 π2 B2 (s.trans t) q
  | ex c fs ρ2 m2 => exact fun σ2 x xs H2 π2 B2 t q => w σ2 x xs H2 π2 B2 (s.trans t) q
  | no => exact w
/-- an expression, then the rest of a statement -/
theorem WantS.out {rel : Rel α β} {r : R α} {f : α → Mu → O} {D : Ends} {G : β → Hp → Prop} (w : WantS K T W π B H m (r.out ρ f) D) (sl : Slots K T m.length π B σ ρ)
    (k : ∀ b H1 π1 B1 m1 a, Step K T π B H m π1 B1 H1 m1 → rel m1.length π1 B1 b a → WantS K T W π1 B1 H1 m1 (f a m1) D → G b H1) : Want rel K T W σ π B H m r G := by
  cases r with
  | ok a m1 => exact fun b H1 π1 B1 s q => k b H1 π1 B1 m1 a s q (WantS.rebase (show WantS K T W π B H m (f a m1) D from w) s)
  | ex c fs m2 => exact fun x xs H' π' B' s q1 q2 => (show WantS K T W π B H m (.ex c fs ρ m2) D from w) σ x xs H' π' B' s (sl.step s) q1 q2
  | no => exact w
def tS (K : Fg) (T : Tb) (C : CE) (W : WX) (s : S) : TS := fun D σ H => ∃ π B m ρ, Bs K T J0 π B H m σ ρ ∧ WantS K T W π B H m (xs C s ρ m) D
theorem tE_out {e : E} {f : U → Mu → O} {D : Ends} {G : V → Hp → Prop} (b : Bs K T J0 π B H m σ ρ) (w : WantS K T W π B H m ((ev C e ρ m).out ρ f) D)
    (k : ∀ v H1 π1 B1 m1 u, Step K T π B H m π1 B1 H1 m1 → Bs K T J0 π1 B1 H1 m1 σ ρ → Ru K T m1.length π1 B1 v u → WantS K T W π1 B1 H1 m1 (f u m1) D → G v H1) : tE K T C W J0 e σ H G :=
  ⟨π, B, m, ρ, b, w.out b.sl fun v H1 π1 B1 m1 u s q w1 => k v H1 π1 B1 m1 u s (b.step mono0 s) q w1⟩

theorem Slots.set {n : Nat} {v : V} {u : U} (h : Slots K T n π B σ ρ) (i : Nat) (r : Ru K T n π B v u) : Slots K T n π B (σ.set i (some v)) (ρ.set i (some u)) := by
  refine ⟨by rw [List.length_set, List.length_set, h.len], fun j w e => ?_⟩
  by_cases c : i = j
  · subst c
    by_cases hi : i < ρ.length
    · rw [List.getElem?_set_self hi] at e
      cases e
      exact ⟨v, by rw [List.getElem?_set_self (by rw [h.len]; exact hi)], r⟩
    · rw [List.getElem?_eq_none (by rw [List.length_set]; omega)] at e
      cases e
  · rw [List.getElem?_set_ne c] at e
    obtain ⟨w', h1, h2⟩ := h.at_ j w e
    exact ⟨w', by rw [List.getElem?_set_ne c]; exact h1, h2⟩
theorem Slots.drop {n : Nat} (h : Slots K T n π B σ ρ) (i : Nat) : Slots K T n π B (σ.set i none) (ρ.set i none) := by
  refine ⟨by rw [List.length_set, List.length_set, h.len], fun j w e => ?_⟩
  by_cases c : i = j
  · subst c
    by_cases hi : i < ρ.length
    · rw [List.getElem?_set_self hi] at e
      cases e
    · rw [List.getElem?_eq_none (by rw [List.length_set]; omega)] at e
      cases e
  · rw [List.getElem?_set_ne c] at e
    obtain ⟨w', h1, h2⟩ := h.at_ j w e
    exact ⟨w', by rw [List.getElem?_set_ne c]; exact h1, h2⟩
theorem Slots.wipe {n : Nat} (h : Slots K T n π B σ ρ) : ∀ vs : List Nat, Slots K T n π B (L2.wipe σ vs) (wipeR ρ vs)
  | [] => h
  | v :: vs => Slots.drop (Slots.wipe h vs) v
end

/-! ### targets -/
/-- the slots of a target -/
def slotsT : Tg → List Nat
  | .nm i => [i]
  | .tp a => slotsT a
  | .nil => []
  | .cons a r => slotsT a ++ slotsT r
def Off (l : List Nat) (σ σ' : L2.St) : Prop := ∀ vs : List Nat, (∀ i, i ∈ l → i ∈ vs) → L2.wipe σ' vs = L2.wipe σ vs
theorem wipe_get (σ : L2.St) (i : Nat) : ∀ vs : List Nat, (L2.wipe σ vs)[i]? = if i ∈ vs then (σ[i]?).map (fun _ => none) else σ[i]?
  | [] => by simp [L2.wipe]
  | v :: vs => by
    unfold L2.wipe
    by_cases c : v = i
    · subst c
      rw [if_pos List.mem_cons_self]
      by_cases h : v < (L2.wipe σ vs).length
      · rw [List.getElem?_set_self h]
        rw [wipe_length] at h
        rw [List.getElem?_eq_getElem h]
        rfl
      · rw [List.getElem?_eq_none (by rw [List.length_set]; omega)]
        rw [wipe_length] at h
        rw [List.getElem?_eq_none (by omega)]
        rfl
    · rw [List.getElem?_set_ne c, wipe_get σ i vs]
      by_cases h : i ∈ vs
      · rw [if_pos h, if_pos (List.mem_cons_of_mem _ h)]
      · rw [if_neg h, if_neg (by simp only [List.mem_cons, not_or]; exact ⟨fun e => c e.symm, h⟩)]
theorem Off.refl (l : List Nat) (σ : L2.St) : Off l σ σ := fun _ _ => rfl
theorem Off.trans {l l' : List Nat} {σ σ1 σ2 : L2.St} (a : Off l σ σ1) (b : Off l' σ1 σ2) : Off (l ++ l') σ σ2 := fun vs h =>
  (b vs fun i hi => h i (List.mem_append_right _ hi)).trans (a vs fun i hi => h i (List.mem_append_left _ hi))
theorem Off.set (σ : L2.St) (i : Nat) (x : Option V) : Off [i] σ (σ.set i x) := fun vs h => by
  refine List.ext_getElem? fun j => ?_
  rw [wipe_get, wipe_get]
  by_cases c : j ∈ vs
  · rw [if_pos c, if_pos c]
    by_cases e : i = j
    · subst e
      by_cases hi : i < σ.length
      · rw [List.getElem?_set_self hi, List.getElem?_eq_getElem hi]
        rfl
      · rw [List.getElem?_eq_none (by rw [List.length_set]; omega), List.getElem?_eq_none (by omega)]
    · rw [List.getElem?_set_ne e]
  · rw [if_neg c, if_neg c]
    have : i ≠ j := fun e => c (e ▸ h i (by simp))
    rw [List.getElem?_set_ne this]
theorem wipe_wipe (σ : L2.St) (vs : List Nat) : L2.wipe (L2.wipe σ vs) vs = L2.wipe σ vs := by
  refine List.ext_getElem? fun j => ?_
  rw [wipe_get, wipe_get]
  by_cases c : j ∈ vs
  · rw [if_pos c, if_pos c]
    cases σ[j]? <;> rfl
  · rw [if_neg c]
def TgOk (K : Fg) (T : Tb) (g : TG) (t : Tg) : Prop := ∀ (n : Nat) (π : Nat → Addr) (B H : Hp) (σ : L2.St) (ρ ρ' : Ro) (v : V) (u : U) (Q : L2.St → Hp → Prop), Ex B H → Slots K T n π B σ ρ → Ru K T n π B v u → bindT t u ρ = some ρ' → (∀ σ', Slots K T n π B σ' ρ' → Off (slotsT t) σ σ' → Q σ' H) → g v σ H Q
def TgsOk (K : Fg) (T : Tb) (g : TGs) (t : Tg) : Prop := ∀ (n : Nat) (π : Nat → Addr) (B H : Hp) (σ : L2.St) (ρ ρ' : Ro) (vs : List V) (ds : List D) (Q : L2.St → Hp → Prop), Ex B H → Slots K T n π B σ ρ → Rps K T B vs ds → bindTs t ds ρ = some ρ' → (∀ σ', Slots K T n π B σ' ρ' → Off (slotsT t) σ σ' → Q σ' H) → g vs σ H Q
def tgLen : Tg → Option Nat
  | .nil => some 0
  | .cons _ r => (tgLen r).map (· + 1)
  | _ => none
mutual
def gOf (K : Fg) : Tg → TG
  | .nm i => gName i
  | .tp a => gTup K ((tgLen a).getD 0) (gsOf K a)
  | .nil => fun _ _ _ _ => False
  | .cons _ _ => fun _ _ _ _ => False
def gsOf (K : Fg) : Tg → TGs
  | .nil => gNil
  | .cons a r => gCons (gOf K a) (gsOf K r)
  | .nm _ => fun _ _ _ _ => False
  | .tp _ => fun _ _ _ _ => False
end
theorem tgLen_ok : ∀ {t : Tg} {ds : List D} {ρ ρ' : Ro}, bindTs t ds ρ = some ρ' → tgLen t = some ds.length
  | .nil, [], _, _, _ => rfl
  | .nil, d :: ds, ρ, ρ', e => by cases (show (none : Option Ro) = some ρ' from e)
  | .cons a r, [], _, ρ', e => by cases (show (none : Option Ro) = some ρ' from e)
  | .cons a r, d :: ds, ρ, ρ', e => by
    have e' : (match bindT a (.v d) ρ with
      | some ρ1 => bindTs r ds ρ1
      | none => none) = some ρ' := e
    cases hd : bindT a (.v d) ρ with
    | none =>
      rw [hd] at e'
      cases e'
    | some ρ1 =>
      rw [hd] at e'
      show (tgLen r).map (· + 1) = _
      rw [tgLen_ok e']
      rfl
  | .nm _, ds, ρ, ρ', e => by
    cases ds <;> cases (show (none : Option Ro) = some ρ' from e)
  | .tp _, ds, ρ, ρ', e => by
    cases ds <;> cases (show (none : Option Ro) = some ρ' from e)
mutual
theorem gOf_ok (K : Fg) (T : Tb) : ∀ t : Tg, TgOk K T (gOf K t) t
  | .nm i => fun n π B H σ ρ ρ' v u Q e h r hb k => by
    rw [bindT] at hb
    cases hb
    exact k _ (h.set i r) (Off.set σ i _)
  | .tp a => fun n π B H σ ρ ρ' v u Q e h r hb k => by
    cases u with
    | p j => cases (show (none : Option Ro) = some ρ' from hb)
    | v d =>
      cases d with
      | tup ds =>
        have hb' : bindTs a ds ρ = some ρ' := hb
        cases r with
        | tup hh z q => exact ⟨_, _, rfl, ex_t e hh, by rw [tgLen_ok hb']; exact q.len, gsOf_ok K T a n π B H σ ρ ρ' _ _ Q e h q hb' k⟩
      | _ => cases (show (none : Option Ro) = some ρ' from hb)
  | .nil => fun n π B H σ ρ ρ' v u Q e h r hb k => by
    cases u <;> cases (show (none : Option Ro) = some ρ' from hb)
  | .cons a r => fun n π B H σ ρ ρ' v u Q e h r hb k => by
    cases u <;> cases (show (none : Option Ro) = some ρ' from hb)
theorem gsOf_ok (K : Fg) (T : Tb) : ∀ t : Tg, TgsOk K T (gsOf K t) t
  | .nil => fun n π B H σ ρ ρ' vs ds Q e h r hb k => by
    cases r with
    | nil =>
      cases hb
      exact ⟨rfl, k _ h (Off.refl _ _)⟩
    | cons r q => cases (show (none : Option Ro) = some ρ' from hb)
  | .cons t' r' => fun n π B H σ ρ ρ' vs ds Q e h r hb kk => by
    cases r with
    | nil => cases (show (none : Option Ro) = some ρ' from hb)
    | cons r q =>
      rename_i v vs d ds
      have hb' : (match bindT t' (.v d) ρ with
        | some ρ1 => bindTs r' ds ρ1
        | none => none) = some ρ' := hb
      cases hd : bindT t' (.v d) ρ with
      | none =>
        rw [hd] at hb'
        cases hb'
      | some ρ1 =>
        rw [hd] at hb'
        exact ⟨v, vs, rfl, gOf_ok K T t' n π B H σ ρ ρ1 v (.v d) _ e h r hd fun σ' h' o1 => gsOf_ok K T r' n π B H σ' ρ1 ρ' vs ds Q e h' q hb' fun σ2 h2 o2 => kk σ2 h2 (o1.trans o2)⟩
  | .nm _ => fun n π B H σ ρ ρ' vs ds Q e h r hb k => by
    cases ds <;> cases (show (none : Option Ro) = some ρ' from hb)
  | .tp _ => fun n π B H σ ρ ρ' vs ds Q e h r hb k => by
    cases ds <;> cases (show (none : Option Ro) = some ρ' from hb)
end
abbrev PGd (X : Cx) (tg : Expr) (t : Tg) : Prop := PG X tg (gOf X.K t)
abbrev PGsd (X : Cx) (tgs : List Expr) (t : Tg) : Prop := PGs X tgs (gsOf X.K t)

section
variable {X : Cx} {T : Tb} {C : CE} {W : WX} {J : Jt} {a b e : Expr} {a' b' e' : E} {es : List Expr} {es' : E} {pos : Pos} {st : Stmt} {sts : List Stmt} {s t : S} {tg : Expr} {t' r' : Tg}
theorem pgd_nm (i : Nat) {x : Str} {p : Pos} (hN : X.N.Nodup) (hi : X.N[i]? = some x := by rfl) (hx : Loc X.env.scope x := by first | exact Or.inl rfl | exact Or.inr rfl) (hf : X.fn x = true ∨ X.env.scope.names.lookup x = some .local := by first | exact .inl rfl | exact .inr rfl | assumption) : PGd X (.Name x p) (.nm i) := pg_name hN hi hx hf
theorem pgsd_nil : PGsd X [] .nil := pgs_nil
theorem pgsd_cons {es : List Expr} (h1 : PGd X e t') (h2 : PGsd X es r') (hst : (assignEach (e :: es) X.env).map (·.2) = assign e X.env :: (assignEach es X.env).map (·.2) := by rfl) : PGsd X (e :: es) (.cons t' r') := pgs_cons h1 h2 hst
theorem pgd_tup {es : List Expr} {k : Nat} {p : Pos} (hc : X.calm = true) (h : PGsd X es t') (hn : (assignEach es X.env).length = (tgLen t').getD 0 := by rfl) (hst : (assignEach es X.env).findIdx? (·.1) = none := by rfl) : PGd X (.Tuple es k p) (.tp t') := pg_tup hc h hn hst

/-! ### simple statements -/
abbrev PSd (X : Cx) (T : Tb) (C : CE) (W : WX) (st : Stmt) (s : S) : Prop := PS X st (tS X.K T C W s)
abbrev PSsd (X : Cx) (T : Tb) (C : CE) (W : WX) (sts : List Stmt) (s : S) : Prop := PSs X sts (tS X.K T C W s)
theorem PS.weak {t u : TS} (h : PS X st t) (k : ∀ D σ H, u D σ H → t D σ H) : PS X st u := ⟨fun pins s σ H D I q => h.run pins s σ H D I (k D σ H q)⟩
theorem PSs.weak {t u : TS} (h : PSs X sts t) (k : ∀ D σ H, u D σ H → t D σ H) : PSs X sts u := ⟨fun pins s σ H D I q => h.run pins s σ H D I (k D σ H q)⟩
theorem sd_nil : PSsd X T C W [] .skip := PSs.weak pss_nil fun D σ H h => by
  obtain ⟨π, B, m, ρ, b, w⟩ := h
  exact w σ H π B (Step.refl b.st) b.sl
theorem sd_one (h : PSd X T C W st s) : PSsd X T C W [st] s := pss_one h
theorem sd_cons (h1 : PSd X T C W st s) (h2 : PSsd X T C W sts t) : PSsd X T C W (st :: sts) (.seq s t) := PSs.weak (pss_cons h1 h2) fun D σ H h => by
  obtain ⟨π, B, m, ρ, b, w⟩ := h
  refine ⟨π, B, m, ρ, b, ?_⟩
  have w' : WantS X.K T W π B H m ((xs C s ρ m).seq fun ρ m => xs C t ρ m) D := w
  cases hx : xs C s ρ m with
  | nx ρ1 m1 =>
    rw [hx] at w'
    exact fun σ1 H1 π1 B1 s1 sl1 => ⟨π1, B1, m1, ρ1, ⟨s1.st, sl1, trivial⟩, WantS.rebase (show WantS X.K T W π B H m (xs C t ρ1 m1) D from w') s1⟩
  | rt u m1 =>
    rw [hx] at w'
    exact w'
  | bk ρ1 m1 =>
    rw [hx] at w'
    exact w'
  | ct ρ1 m1 =>
    rw [hx] at w'
    exact w'
  | ex c fs ρ1 m1 =>
    rw [hx] at w'
    exact w'
  | no =>
    rw [hx] at w'
    exact w'
theorem sd_pass : PSd X T C W (.Pass pos) .skip := PS.weak ps_pass fun D σ H h => by
  obtain ⟨π, B, m, ρ, b, w⟩ := h
  exact w σ H π B (Step.refl b.st) b.sl
theorem sd_brk : PSd X T C W (.Break pos) .brk := PS.weak ps_break fun D σ H h => by
  obtain ⟨π, B, m, ρ, b, w⟩ := h
  exact w σ H π B (Step.refl b.st) b.sl
theorem sd_ctn : PSd X T C W (.Continue pos) .ctn := PS.weak ps_continue fun D σ H h => by
  obtain ⟨π, B, m, ρ, b, w⟩ := h
  exact w σ H π B (Step.refl b.st) b.sl
theorem sd_ret (h : PD X T C W J0 e e') : PSd X T C W (.Return (some e) pos) (.ret e') := PS.weak (ps_ret h) fun D σ H h => by
  obtain ⟨π, B, m, ρ, b, w⟩ := h
  exact tE_out b w fun v H1 π1 B1 m1 u s1 b1 r1 w1 => w1 v H1 π1 B1 (Step.refl b1.st) r1
theorem sd_retN : PSd X T C W (.Return none pos) .retN := PS.weak ps_retN fun D σ H h => by
  obtain ⟨π, B, m, ρ, b, w⟩ := h
  exact w .non H π B (Step.refl b.st) .non
theorem sd_exp (h : PD X T C W J0 e e') (hs : swapsWith e none pos.line X.env = pure false := by rfl) : PSd X T C W (.Expr e pos) (.exp e') := PS.weak (ps_expr h hs) fun D σ H h => by
  obtain ⟨π, B, m, ρ, b, w⟩ := h
  exact tE_out b w fun v H1 π1 B1 m1 u s1 b1 r1 w1 => w1 σ H1 π1 B1 (Step.refl b1.st) b1.sl
theorem sd_doc {x j p p'} : PSd X T C W (.Expr (.Constant (.str x) j p) p') .skip := PS.weak ps_doc fun D σ H h => by
  obtain ⟨π, B, m, ρ, b, w⟩ := h
  exact w σ H π B (Step.refl b.st) b.sl
/-- what an assignment wants of its reading -/
theorem asg_read {te : TE} {g : TG} (hg : TgOk X.K T g t') (D : Ends) (σ : L2.St) (H : Hp) (h : tS X.K T C W (.asg t' e') D σ H) (k : ∀ Q, tE X.K T C W J0 e' σ H Q → te σ H Q) : tAsg te g D σ H := by
  obtain ⟨π, B, m, ρ, b, w⟩ := h
  refine k _ (tE_out b w fun v H1 π1 B1 m1 u s1 b1 r1 w1 => ?_)
  cases hb : bindT t' u ρ with
  | none =>
    rw [hb] at w1
    exact w1.elim
  | some ρ1 =>
    rw [hb] at w1
    exact hg _ _ _ _ _ _ _ _ _ _ b1.st.ex b1.sl r1 hb fun σ' h' _ => w1 σ' H1 π1 B1 (Step.refl b1.st) h'
theorem sd_asg (h : PD X T C W J0 e e') (hg : PGd X tg t') (hs : swapsWithSole [tg] e pos.line X.env = pure false := by rfl) (hw : swappedStores [tg] e X.env = pure none := by rfl) (h1 : (assignEach [tg] X.env).map (·.2) = [assign tg X.env] := by rfl) : PSd X T C W (.Assign [tg] e pos) (.asg t' e') := by
  exact PS.weak (ps_asg h hg hs hw h1) fun D σ H h => asg_read (gOf_ok X.K T t') D σ H h fun Q q => q
theorem sd_par (i j : Nat) {x y : Str} {px py pt : Pos} {kt k2 : Nat} {pt2 : Pos} (hc : X.calm = true) (hN : X.N.Nodup) (ha : PD X T C W J0 a a') (hb : PD X T C W J0 b b') (hij : i ≠ j := by decide) (hi : X.N[i]? = some x := by rfl) (hj : X.N[j]? = some y := by rfl)
    (hx : X.env.scope.names.lookup x = some .local := by rfl) (hy : X.env.scope.names.lookup y = some .local := by rfl)
    (hw : swappedStores [.Tuple [.Name x px, .Name y py] kt pt] (.Tuple [a, b] k2 pt2) X.env = pure (some [x, y]) := by rfl)
    (hs : swapsWithSole [.Tuple [.Name x px, .Name y py] kt pt] (.Tuple [a, b] k2 pt2) pos.line X.env = pure false := by rfl) (h1 : starEach [a, b] X.env = (false, eval a X.env) :: starEach [b] X.env := by rfl) (h2 : starEach [b] X.env = (false, eval b X.env) :: starEach [] X.env := by rfl) :
    PSd X T C W (.Assign [.Tuple [.Name x px, .Name y py] kt pt] (.Tuple [a, b] k2 pt2) pos) (.par i j a' b') := by
  refine PS.weak (ps_par hc hN hi hj hij hx hy (pa_cons ha (pa_cons hb pa_nil h2) h1) hw hs) fun D σ H h => ?_
  obtain ⟨π, B, m, ρ, b, w⟩ := h
  refine tE_out b w fun v H1 π1 B1 m1 u s1 b1 r1 w1 => tE_out b1 w1 fun v2 H2 π2 B2 m2 u2 s2 b2 r2 w2 => ?_
  exact ⟨v, v2, rfl, w2 _ H2 π2 B2 (Step.refl b2.st) ((b2.sl.set i (s2.ru r1)).set j r2)⟩
theorem sd_if {c : Expr} {c' : E} {sa sb : List Stmt} (hc : PDt X T C W J0 c c') (ha : PSsd X T C W sa s) (hb : PSsd X T C W sb t) : PSd X T C W (.If c sa sb pos) (.ifs c' s t) := PS.weak (ps_if hc ha hb) fun D σ H h => by
  obtain ⟨π, B, m, ρ, b, w⟩ := h
  refine tE_out b w fun v H1 π1 B1 m1 u s1 b1 r1 w1 => ?_
  cases u with
  | p j => exact w1.elim
  | v d =>
    cases d with
    | bl x =>
      refine ⟨x, bl_of r1, ?_⟩
      cases x with
      | true => exact iteT ⟨π1, B1, m1, ρ, b1, w1⟩
      | false => exact iteF ⟨π1, B1, m1, ρ, b1, w1⟩
    | _ => exact w1.elim

/-! ### loops -/
structure ItOk (K : Fg) (T : Tb) (J : It) (ds : List D) (B : Hp) : Prop where
  len : ds.length ≤ lim
  walk : Walk J ds.length (fun H => Ex B H) (fun i H x H' => ∀ B1, Ex B B1 → Ex B1 H → ∃ B2 d, ds[i]? = some d ∧ New B1 H B2 H' ∧ Rp K T B2 x d)
def RI (K : Fg) (T : Tb) : Rel (List D) It := fun _ _ B J ds => ItOk K T J ds B
def tI (K : Fg) (T : Tb) (C : CE) (W : WX) (J : Jt) (e : E) : TI := fun σ H Q => ∃ π B m ρ, Bs K T J π B H m σ ρ ∧ Want (RI K T) K T W σ π B H m (evi C e ρ m) Q
abbrev PDi (X : Cx) (T : Tb) (C : CE) (W : WX) (J : Jt) (tg e : Expr) (e' : E) : Prop := PI X tg e (tI X.K T C W J e')
theorem PI.weak {t u : TI} (h : PI X tg e t) (k : ∀ σ H Q, u σ H Q → t σ H Q) : PI X tg e u := ⟨fun pins s σ H Q I q => h.run pins s σ H Q I (k σ H Q q)⟩
theorem PI.or {t u : TI} (h : PI X tg e t) (k : PI X tg e u) : PI X tg e (fun σ H R => t σ H R ∨ u σ H R) := ⟨fun pins s σ H Q I q => q.elim (fun z => h.run pins s σ H Q I z) fun z => k.run pins s σ H Q I z⟩

/-- a for over what is walked -/
theorem sd_for {it : Expr} {it' : E} {body : List Stmt} (hp : PassesOwn (model X.prog X.w) X.A X.env X.xe) (hc : X.calm = true) (hi : PDi X T C W J0 tg it it') (hg : PGd X tg t') (hb : PSsd X T C W body s) (hs : ∀ x, foldedSetIterable it X.env x = pure x := by intro _; rfl) :
    PSd X T C W (.For tg it body [] pos) (.for_ t' it' s) := by
  have kg := gOf_ok X.K T t'
  refine PS.weak (ps_for hp hc hi hg hb hs) fun D σ H h => ?_
  obtain ⟨π, B, m, ρ, b, w⟩ := h
  have w' : WantS X.K T W π B H m ((evi C it' ρ m).out ρ fun ds m => forL (fun d ρ m => match bindT t' (.v d) ρ with
      | some ρ' => xs C s ρ' m
      | none => .no) ds ρ m) D := w
  refine ⟨π, B, m, ρ, b, w'.out b.sl fun J H1 π1 B1 m1 ds s1 ok w1 => ?_⟩
  refine for_it ok.walk (fun i σ' H' => ∃ π2 B2 m2 ρ2, Ex B1 B2 ∧ Bs X.K T J0 π2 B2 H' m2 σ' ρ2 ∧ WantS X.K T W π2 B2 H' m2 (forL (fun d ρ m => match bindT t' (.v d) ρ with
      | some ρ' => xs C s ρ' m
      | none => .no) (ds.drop i) ρ2 m2) D) ⟨π1, B1, m1, ρ, Ex.refl B1, b.step mono0 s1, by rw [List.drop_zero]; exact w1⟩ (fun i σ' H' _ ⟨π2, B2, m2, ρ2, e2, b2, _⟩ => e2.trans b2.st.ex) ?_ ?_
  · rintro i x σ' H2 H3 hi ⟨π2, B2, m2, ρ2, e2, b2, w2⟩ y
    obtain ⟨B3, d, hd, nw, rp⟩ := y B2 e2 b2.st.ex
    have sN := nw.step b2.st
    have b3 : Bs X.K T J0 π2 B3 H3 m2 σ' ρ2 := b2.step mono0 sN
    have hdrop : ds.drop i = d :: ds.drop (i + 1) := by
      have := List.drop_eq_getElem_cons hi
      rw [this]
      have e3 := (List.getElem?_eq_some_iff.mp hd).2
      rw [e3]
    rw [hdrop] at w2
    have w3 := WantS.rebase w2 sN
    have w4 : WantS X.K T W π2 B3 H3 m2 (match (match bindT t' (.v d) ρ2 with
      | some ρ' => xs C s ρ' m2
      | none => O.no) with
      | .nx ρ' m' => forL (fun d ρ m => match bindT t' (.v d) ρ with
        | some ρ' => xs C s ρ' m
        | none => .no) (ds.drop (i + 1)) ρ' m'
      | .ct ρ' m' => forL (fun d ρ m => match bindT t' (.v d) ρ with
        | some ρ' => xs C s ρ' m
        | none => .no) (ds.drop (i + 1)) ρ' m'
      | .bk ρ' m' => .nx ρ' m'
      | o => o) D := w3
    cases hbd : bindT t' (.v d) ρ2 with
    | none =>
      rw [hbd] at w4
      exact w4.elim
    | some ρ3 =>
      rw [hbd] at w4
      refine kg m2.length π2 B3 H3 σ' ρ2 ρ3 x (.v d) _ b3.st.ex b3.sl rp hbd fun σ3 sl3 _ => ⟨π2, B3, m2, ρ3, ⟨b3.st, sl3, trivial⟩, ?_⟩
      dsimp only at w4
      cases hx : xs C s ρ3 m2 with
      | nx ρ4 m4 =>
        rw [hx] at w4
        exact fun σ4 H4 π4 B4 s4 sl4 => ⟨π4, B4, m4, ρ4, (e2.trans nw.ex).trans s4.ex, ⟨s4.st, sl4, trivial⟩, WantS.rebase w4 s4⟩
      | ct ρ4 m4 =>
        rw [hx] at w4
        exact fun σ4 H4 π4 B4 s4 sl4 => ⟨π4, B4, m4, ρ4, (e2.trans nw.ex).trans s4.ex, ⟨s4.st, sl4, trivial⟩, WantS.rebase w4 s4⟩
      | bk ρ4 m4 =>
        rw [hx] at w4
        exact w4
      | rt u m4 =>
        rw [hx] at w4
        exact w4
      | ex c fs ρ4 m4 =>
        rw [hx] at w4
        exact w4
      | no =>
        rw [hx] at w4
        exact w4
  · rintro σ' H2 ⟨π2, B2, m2, ρ2, e2, b2, w2⟩
    rw [List.drop_length] at w2
    exact w2 σ' H2 π2 B2 (Step.refl b2.st) b2.sl
/-- a while -/
theorem sd_while {c : Expr} {c' : E} {body : List Stmt} (hp : PassesOwn (model X.prog X.w) X.A X.env X.xe) (hc : PDt X T C W J0 c c') (hb : PSsd X T C W body s) : PSd X T C W (.While c body [] pos) (.whl c' s) := by
  refine PS.weak (ps_while hp hc hb) fun D σ H h => ?_
  obtain ⟨π, B, m, ρ, b, w⟩ := h
  refine ⟨fun n σ' H' => ∃ π2 B2 m2 ρ2, Bs X.K T J0 π2 B2 H' m2 σ' ρ2 ∧ WantS X.K T W π2 B2 H' m2 (whlL (fun ρ m => ev C c' ρ m) (fun ρ m => xs C s ρ m) n ρ2 m2) D, ⟨turns, π, B, m, ρ, b, w⟩, ?_⟩
  rintro n σ' H' ⟨π2, B2, m2, ρ2, b2, w2⟩
  cases n with
  | zero => exact w2.elim
  | succ n =>
    have w3 : WantS X.K T W π2 B2 H' m2 ((ev C c' ρ2 m2).out ρ2 fun u m => match u with
      | .v (.bl true) => match xs C s ρ2 m with
        | .nx ρ' m' => whlL (fun ρ m => ev C c' ρ m) (fun ρ m => xs C s ρ m) n ρ' m'
        | .ct ρ' m' => whlL (fun ρ m => ev C c' ρ m) (fun ρ m => xs C s ρ m) n ρ' m'
        | .bk ρ' m' => .nx ρ' m'
        | o => o
      | .v (.bl false) => .nx ρ2 m
      | _ => .no) D := by
      have e : whlL (fun ρ m => ev C c' ρ m) (fun ρ m => xs C s ρ m) (n + 1) ρ2 m2 = _ := rfl
      rw [whlL] at w2
      cases hx : ev C c' ρ2 m2 <;> (rw [hx] at w2; exact w2)
    refine tE_out b2 w3 fun v H1 π1 B1 m1 u s1 b1 r1 w1 => ?_
    cases u with
    | p j => exact w1.elim
    | v d =>
      cases d with
      | bl x =>
        refine ⟨x, bl_of r1, ?_⟩
        cases x with
        | false => exact iteF (w1 σ' H1 π1 B1 (Step.refl b1.st) b1.sl)
        | true =>
          refine iteT ⟨fun σ4 H4 => ∃ π2 B2 m2 ρ2, Bs X.K T J0 π2 B2 H4 m2 σ4 ρ2 ∧ WantS X.K T W π2 B2 H4 m2 (whlL (fun ρ m => ev C c' ρ m) (fun ρ m => xs C s ρ m) n ρ2 m2) D, fun σ4 H4 h4 => ⟨n, Nat.lt_succ_self n, h4⟩, π1, B1, m1, ρ2, b1, ?_⟩
          dsimp only at w1
          cases hx : xs C s ρ2 m1 with
          | nx ρ4 m4 =>
            rw [hx] at w1
            exact fun σ4 H4 π4 B4 s4 sl4 => ⟨π4, B4, m4, ρ4, ⟨s4.st, sl4, trivial⟩, WantS.rebase w1 s4⟩
          | ct ρ4 m4 =>
            rw [hx] at w1
            exact fun σ4 H4 π4 B4 s4 sl4 => ⟨π4, B4, m4, ρ4, ⟨s4.st, sl4, trivial⟩, WantS.rebase w1 s4⟩
          | bk ρ4 m4 =>
            rw [hx] at w1
            exact w1
          | rt u m4 =>
            rw [hx] at w1
            exact w1
          | ex c fs ρ4 m4 =>
            rw [hx] at w1
            exact w1
          | no =>
            rw [hx] at w1
            exact w1
      | _ => exact w1.elim
end
end At

/-! What is walked; comprehensions. -/
namespace At
open PySem L2 Evl

section
variable {K : Fg} {T : Tb} {B : Hp}
theorem Rps.back : ∀ {vs : List V} {ds : List D} {i : Nat} {v : V}, Rps K T B vs ds → vs[i]? = some v → ∃ d, ds[i]? = some d ∧ Rp K T B v d
  | _, _, _, _, .nil, e => by simp at e
  | _, _, 0, _, .cons r _, e => by simp at e; subst e; exact ⟨_, rfl, r⟩
  | _, _, i + 1, _, .cons _ q, e => by
    obtain ⟨v, h1, h2⟩ := Rps.back (i := i) q (by simpa using e)
    exact ⟨v, by simpa using h1, h2⟩
theorem it_list {a : Addr} {xs : List V} {ds : List D} (h : B a = some (.lst xs)) (z : xs.length ≤ lim) (r : Rps K T B xs ds) : ItOk K T (Itl K a) ds B := by
  refine ⟨by rw [← r.len]; exact z, ?_⟩
  rw [← r.len]
  refine (walk_list (K := K) (a := a) (xs := xs)).mono (fun H e => SqL.of (e _ _ h)) fun i H x H' hi e y B1 e1 e2 => ?_
  obtain ⟨rfl, hx⟩ := y
  obtain ⟨d, h1, h2⟩ := r.back hx
  exact ⟨B1, d, h1, New.refl e2, h2.mono e1⟩
theorem it_tup {a : Addr} {xs : List V} {ds : List D} (h : SqT K B a xs) (z : xs.length ≤ lim) (r : Rps K T B xs ds) : ItOk K T (Itt K a) ds B := by
  refine ⟨by rw [← r.len]; exact z, ?_⟩
  rw [← r.len]
  refine (walk_tup (K := K) (a := a) (xs := xs)).mono (fun H e => ex_t e h) fun i H x H' hi e y B1 e1 e2 => ?_
  obtain ⟨rfl, hx⟩ := y
  obtain ⟨d, h1, h2⟩ := r.back hx
  exact ⟨B1, d, h1, New.refl e2, h2.mono e1⟩
theorem it_str {z : Str} (h : z.length ≤ lim) (o : PyData.strOk z = true) : ItOk K T (Its z) (z.cps.toList.map fun c => D.str [c]) B := by
  have ln : (z.cps.toList.map fun c => D.str [c]).length = z.cps.size := by rw [List.length_map, Array.length_toList]
  refine ⟨by rw [ln]; exact h, ?_⟩
  rw [ln]
  refine (walk_str (z := z)).mono (fun H e => trivial) fun i H x H' hi e y B1 e1 e2 => ?_
  obtain ⟨rfl, c, hc, rfl⟩ := y
  have hl : z.cps.toList[i]? = some c := by rw [Array.getElem?_toList]; exact hc
  refine ⟨B1, .str [c], by rw [List.getElem?_map, hl]; rfl, New.refl e2, Rp.text rfl (by show 1 ≤ lim; decide) ?_⟩
  have := List.all_eq_true.mp (strOk_list o) c (List.mem_of_getElem? hl)
  show (decide (c < 0x110000) && true) = true
  rw [this]
  rfl
theorem numbered_get : ∀ (ds : List D) (n i : Nat) (d : D), ds[i]? = some d → (numbered n ds)[i]? = some (.tup [.int ((n + i : Nat) : Int), d])
  | [], _, _, _, e => by simp at e
  | d :: ds, n, 0, _, e => by
    simp at e
    subst e
    rfl
  | _ :: ds, n, i + 1, d, e => by
    have := numbered_get ds (n + 1) i d (by simpa using e)
    show (numbered (n + 1) ds)[i]? = _
    rw [this, show n + 1 + i = n + (i + 1) by omega]
theorem numbered_len : ∀ (ds : List D) (n : Nat), (numbered n ds).length = ds.length
  | [], _ => rfl
  | _ :: ds, n => by
    show (numbered (n + 1) ds).length + 1 = ds.length + 1
    rw [numbered_len]
theorem it_enum {a : Addr} {xs : List V} {ds : List D} (h : B a = some (.lst xs)) (z : xs.length ≤ lim) (r : Rps K T B xs ds) : ItOk K T (Ite K a) (numbered 0 ds) B := by
  refine ⟨by rw [numbered_len, ← r.len]; exact z, ?_⟩
  rw [numbered_len, ← r.len]
  refine (walk_enum (K := K) (a := a) (xs := xs)).mono (fun H e => SqL.of (e _ _ h)) fun i H x H' hi e y B1 e1 e2 => ?_
  obtain ⟨t, x1, x2, rfl, ht, rfl, q1, q2⟩ := y
  cases q1
  obtain ⟨d, h1, h2⟩ := r.back q2
  refine ⟨upd B1 t (.tup [.int (i : Nat), x2]), _, numbered_get ds 0 i d h1, New.one e2 ht, .tup (SqT.of upd_same) (by show 2 ≤ lim; decide) ?_⟩
  rw [Nat.zero_add]
  exact .cons (.int _) (.cons (h2.mono (e1.trans (New.one e2 ht).ex)) .nil)
theorem rangeD_get : ∀ (n : Nat) (lo : Int) (i : Nat), i < n → (rangeD lo n)[i]? = some (.int (lo + i))
  | 0, _, _, h => by omega
  | n + 1, lo, 0, _ => by
    show some (D.int lo) = _
    simp
  | n + 1, lo, i + 1, h => by
    show (rangeD (lo + 1) n)[i]? = _
    rw [rangeD_get n (lo + 1) i (by omega)]
    congr 2
    omega
theorem rangeD_len : ∀ (n : Nat) (lo : Int), (rangeD lo n).length = n
  | 0, _ => rfl
  | n + 1, lo => by
    show (rangeD (lo + 1) n).length + 1 = n + 1
    rw [rangeD_len]
theorem it_rng {lo : Int} {n : Nat} (h : n ≤ lim) : ItOk K T (Itr lo n) (rangeD lo n) B := by
  refine ⟨by rw [rangeD_len]; exact h, ?_⟩
  rw [rangeD_len]
  refine (walk_range (lo := lo) (n := n)).mono (fun H e => trivial) fun i H x H' hi e y B1 e1 e2 => ?_
  obtain ⟨rfl, rfl⟩ := y
  exact ⟨B1, _, rangeD_get n lo i hi, New.refl e2, .int _⟩
theorem it_zip {a b : Addr} {xs ys : List V} {ds es : List D} (h : B a = some (.lst xs)) (z : xs.length ≤ lim) (r : Rps K T B xs ds) (h' : B b = some (.lst ys)) (r' : Rps K T B ys es) : ItOk K T (Itz K a b) ((ds.zip es).map fun q => .tup [q.1, q.2]) B := by
  have ln : ((ds.zip es).map fun q => D.tup [q.1, q.2]).length = min xs.length ys.length := by rw [List.length_map, List.length_zip, r.len, r'.len]
  refine ⟨by rw [ln]; exact Nat.le_trans (Nat.min_le_left _ _) z, ?_⟩
  rw [ln]
  refine (walk_zip (K := K) (a := a) (b := b) (xs := xs) (ys := ys) rfl).mono (fun H e => ⟨SqL.of (e _ _ h), SqL.of (e _ _ h')⟩) fun i H x H' hi e y B1 e1 e2 => ?_
  obtain ⟨t, x1, x2, rfl, ht, rfl, q1, q2⟩ := y
  obtain ⟨d, h1, h2⟩ := r.back q1
  obtain ⟨d', g1, g2⟩ := r'.back q2
  refine ⟨upd B1 t (.tup [x1, x2]), .tup [d, d'], ?_, New.one e2 ht, .tup (SqT.of upd_same) (by show 2 ≤ lim; decide) (.cons (h2.mono (e1.trans (New.one e2 ht).ex)) (.cons (g2.mono (e1.trans (New.one e2 ht).ex)) .nil))⟩
  rw [List.getElem?_map, List.getElem?_zip_eq_some (z := (d, d')) |>.mpr ⟨h1, g1⟩]
  rfl
end
section
variable {X : Cx} {T : Tb} {C : CE} {W : WX} {J : Jt} {a b e : Expr} {a' b' e' : E} {es : List Expr} {es' : E} {pos : Pos} {tg : Expr} {t' : Tg}
theorem pi_seq (hJ : Mono J) (h : PD X T C W J e e') : PDi X T C W J tg e (.seq e') := by
  refine PI.weak (PI.or (PI.or (pi_list h) (pi_tup h)) (pi_str h)) fun σ H R q => ?_
  obtain ⟨π, B, m, ρ, b, w⟩ := q
  rw [evi] at w
  have key : ∀ d m1, ev C e' ρ m = .ok (.v d) m1 → ∀ (G : V → Hp → Prop), (∀ v H1 π1 B1 m1 u, Step X.K T π B H m π1 B1 H1 m1 → Bs X.K T J π1 B1 H1 m1 σ ρ → Ru X.K T m1.length π1 B1 v u → u = .v d → Want (RI X.K T) X.K T W σ π1 B1 H1 m1 (Res (itemsD d) m1) R → G v H1) → tE X.K T C W J e' σ H G := fun d m1 hx G k => by
    rw [hx] at w
    refine ⟨π, B, m, ρ, b, ?_⟩
    rw [hx]
    exact fun v H1 π1 B1 s1 r1 => k v H1 π1 B1 m1 _ s1 (b.step hJ s1) r1 rfl (Want.rebase (show Want (RI X.K T) X.K T W σ π B H m (Res (itemsD d) m1) R from w) s1)
  cases hx : ev C e' ρ m with
  | ok u m1 =>
    cases u with
    | p k =>
      rw [hx] at w
      exact w.elim
    | v d =>
      cases d with
      | lst ds =>
        refine .inl (.inl (key _ _ hx _ fun v H1 π1 B1 m2 u s1 b1 r1 hu w1 => ?_))
        subst hu
        cases r1 with
        | lst h z r => exact ⟨_, rfl, ⟨_, SqL.of (b1.st.ex _ _ h)⟩, w1 _ H1 π1 B1 (Step.refl b1.st) (it_list h z r)⟩
      | tup ds =>
        refine .inl (.inr (key _ _ hx _ fun v H1 π1 B1 m2 u s1 b1 r1 hu w1 => ?_))
        subst hu
        cases r1 with
        | tup h z r => exact ⟨_, rfl, ⟨_, ex_t b1.st.ex h⟩, w1 _ H1 π1 B1 (Step.refl b1.st) (it_tup h z r)⟩
      | str l =>
        refine .inr (key _ _ hx _ fun v H1 π1 B1 m2 u s1 b1 r1 hu w1 => ?_)
        subst hu
        cases r1 with
        | str x h o => exact ⟨x, rfl, w1 _ H1 π1 B1 (Step.refl b1.st) (it_str h o)⟩
      | _ =>
        rw [hx] at w
        exact w.elim
  | ex c fs m1 =>
    rw [hx] at w
    refine .inl (.inl ⟨π, B, m, ρ, b, ?_⟩)
    rw [hx]
    exact w
  | no =>
    rw [hx] at w
    exact w.elim
theorem pi_enumerate {elts : List Expr} {kk : Nat} {p tpos : Pos} (hJ : Mono J) (hg : Gl X "enumerate") (hm : X.mg "enumerate" = none) (h : PD X T C W J e e') (hs : starEach [e] X.env = [(false, eval e X.env)] := by rfl) (hs2 : starEach [e] X.env = (false, eval e X.env) :: starEach [] X.env := by rfl) :
    PDi X T C W J (.Tuple elts kk tpos) (.Call (.Name "enumerate" p) [e] [] pos) (.enum e') := by
  refine PI.weak (pi_enum hg hm (pa_cons h pa_nil hs2) hs) fun σ H R q => ?_
  obtain ⟨π, B, m, ρ, b, w⟩ := q
  rw [evi] at w
  refine tE_bnd hJ b w fun v H1 π1 B1 m1 u s1 b1 r1 w1 => ?_
  cases u with
  | p k => exact w1.elim
  | v d =>
    cases d with
    | lst ds =>
      cases r1 with
      | lst h z r => exact ⟨_, _, rfl, SqL.of (b1.st.ex _ _ h), w1 _ H1 π1 B1 (Step.refl b1.st) (it_enum h z r)⟩
    | _ => exact w1.elim
theorem pi_rng {p : Pos} (hJ : Mono J) (hg : Gl X "range") (hm : X.mg "range" = none) (h : PD X T C W J e e') (hs : starEach [e] X.env = [(false, eval e X.env)] := by rfl) (hs2 : starEach [e] X.env = (false, eval e X.env) :: starEach [] X.env := by rfl) :
    PDi X T C W J tg (.Call (.Name "range" p) [e] [] pos) (.rng e') := by
  refine PI.weak (pi_range1 hg hm (pa_cons h pa_nil hs2) hs) fun σ H R q => ?_
  obtain ⟨π, B, m, ρ, b, w⟩ := q
  rw [evi] at w
  refine tE_bnd hJ b w fun v H1 π1 B1 m1 u s1 b1 r1 w1 => ?_
  cases u with
  | p k => exact w1.elim
  | v d =>
    cases d with
    | int i =>
      cases r1
      have w2 : Want (RI X.K T) X.K T W σ π1 B1 H1 m1 (if i.natAbs ≤ lim then .ok (rangeD 0 i.toNat) m1 else .no) R := w1
      by_cases c : i.natAbs ≤ lim
      · rw [if_pos c] at w2
        have c' : i.natAbs ≤ 1000000 := c
        exact ⟨i, rfl, by omega, by omega, w2 _ H1 π1 B1 (Step.refl b1.st) (it_rng (show i.toNat ≤ 1000000 by omega))⟩
      · rw [if_neg c] at w2
        exact w2.elim
    | _ => exact w1.elim

/-! ### comprehensions -/
theorem Sto.off {K : Fg} {π : Nat → Addr} {B H : Hp} {m : Mu} {p : Addr} {o : HO} (s : Sto K T π B H m) (hB : B p = none) (hk : ∀ k, k < m.length → π k ≠ p) (ho : ∀ y, H p ≠ some (.own y)) : Sto K T π B (upd H p o) m where
  ex := fun a u e => by
    have : a ≠ p := fun z => by rw [z, hB] at e; cases e
    rw [upd_ne this]
    exact s.ex a u e
  inj := s.inj
  dom := fun k h => let ⟨u, h1, h2⟩ := s.dom k h; ⟨u, by rw [upd_ne (hk k h)]; exact h1, h2⟩
  cell := fun k x e => by
    have hl : k < m.length := (List.getElem?_eq_some_iff.mp e).1
    have h := s.cell k x e
    cases x with
    | lst us =>
      obtain ⟨h1, xs, h2, h3, h4⟩ := h
      exact ⟨h1, xs, by rw [upd_ne (hk k hl)]; exact h2, h3, h4⟩
    | obj c fs =>
      obtain ⟨h1, hi, dx, fv, h2, h3, h4⟩ := h
      exact ⟨h1, hi, dx, fv, by rw [upd_ne (hk k hl)]; exact h2, by rw [upd_ne (fun z => ho _ (by rw [← z]; exact h3))]; exact h3, h4⟩
    | fz d => exact h
theorem Step.off {K : Fg} {π π' : Nat → Addr} {B B' H H' : Hp} {m m' : Mu} {p : Addr} {o : HO} (s : Step K T π B H m π' B' H' m') (h0 : H p = none) (hB : B' p = none) (hk : ∀ k, k < m'.length → π' k ≠ p) (ho : ∀ y, H' p ≠ some (.own y)) : Step K T π B H m π' B' (upd H' p o) m' :=
  ⟨s.st.off hB hk ho, s.pi, s.len, s.ex, fun a u h hn => by rw [upd_ne (ne_of_none h h0)]; exact s.keep a u h hn, s.new, s.noab⟩
theorem Step.absorb {K : Fg} {π π' : Nat → Addr} {B B' H H' : Hp} {m m' : Mu} {p : Addr} {o : HO} (s : Step K T π B H m π' B' H' m') (h0 : H p = none) (hH : H' p = some o) (hB : B' p = none) (hk : ∀ k, k < m'.length → π' k ≠ p) : Step K T π B H m π' (upd B' p o) H' m' where
  st := {
    ex := fun a u e => by
      by_cases c : a = p
      · subst c
        rw [upd_same] at e
        rw [hH]
        exact e
      · rw [upd_ne c] at e
        exact s.st.ex a u e
    inj := s.st.inj
    dom := s.st.dom
    cell := fun k x e => by
      have hl : k < m'.length := (List.getElem?_eq_some_iff.mp e).1
      have h := s.st.cell k x e
      cases x with
      | lst us =>
        obtain ⟨h1, xs, h2, h3, h4⟩ := h
        exact ⟨(upd_ne (hk k hl)).trans h1, xs, h2, h3, Rus.mono (Nat.le_refl _) (fun _ _ => rfl) (Ex.new hB) h4⟩
      | obj c fs =>
        obtain ⟨h1, hi, dx, fv, h2, h3, h4⟩ := h
        exact ⟨(upd_ne (hk k hl)).trans h1, hi, dx, fv, h2, h3, Ruf.mono (Nat.le_refl _) (fun _ _ => rfl) (Ex.new hB) h4⟩
      | fz d => exact Rp.mono (Ex.new hB) h }
  pi := s.pi
  len := s.len
  ex := s.ex.trans (Ex.new hB)
  keep := s.keep
  new := s.new
  noab := fun a u h hn ho => (upd_ne (ne_of_none h h0)).trans (s.noab a u h hn ho)
/-- the wish inside: no error leaves -/
def WF : WX := fun _ _ _ _ => False
/-- one turn of a comprehension -/
def lcStep (C : CE) (vs : List Nat) (t : Tg) (c e : E) (ρ : Ro) : U → Mu → R (Option D) := fun u m => match bindT t u (wipeR ρ vs) with
  | some ρ' => (ev C c ρ' m).bnd fun b m => match b with
    | .v (.bl true) => (ev C e ρ' m).bnd fun z m => match z with
      | .v d => .ok (some d) m
      | .p _ => .no
    | .v (.bl false) => .ok none m
    | _ => .no
  | none => .no
theorem ev_lc (C : CE) (vs : List Nat) (t : Tg) (it c e : E) (ρ : Ro) (m : Mu) : ev C (.lc vs t it c e) ρ m = (evi C it ρ m).bnd fun ds m => (lcL (lcStep C vs t c e ρ) (ds.map U.v) m).bnd fun xs m => .ok (.v (.lst xs)) m := by
  rw [ev]
  rfl
theorem lcL_ok {f : U → Mu → R (Option D)} : ∀ {us : List U} {m : Mu}, (∃ ds m', lcL f us m = .ok ds m') ∨ lcL f us m = .no
  | [], m => .inl ⟨_, _, rfl⟩
  | u :: us, m => by
    unfold lcL
    cases f u m with
    | ok o m1 =>
      dsimp only
      rcases lcL_ok (f := f) (us := us) (m := m1) with ⟨ds, m2, h⟩ | h
      · rw [h]
        exact .inl ⟨_, _, rfl⟩
      · rw [h]
        exact .inr rfl
    | ex c fs m1 => exact .inr rfl
    | no => exact .inr rfl
theorem lcL_cons {f : U → Mu → R (Option D)} {u : U} {us : List U} {m m' : Mu} {ds : List D} (h : lcL f (u :: us) m = .ok ds m') : ∃ o m1 r, f u m = .ok o m1 ∧ lcL f us m1 = .ok r m' ∧ ds = o.toList ++ r := by
  unfold lcL at h
  cases hf : f u m with
  | ok o m1 =>
    rw [hf] at h
    dsimp only at h
    cases hr : lcL f us m1 with
    | ok r m2 =>
      rw [hr] at h
      dsimp only at h
      cases o with
      | none =>
        cases h
        exact ⟨none, m1, r, rfl, hr, rfl⟩
      | some d =>
        cases h
        exact ⟨some d, m1, r, rfl, hr, rfl⟩
    | ex c fs m2 =>
      rw [hr] at h
      cases h
    | no =>
      rw [hr] at h
      cases h
  | ex c fs m2 =>
    rw [hf] at h
    cases h
  | no =>
    rw [hf] at h
    cases h
theorem lc_read {vs : List Nat} {c' it' : E} {tt : TT} (hJ : Mono J) (hv : ∀ i, i ∈ slotsT t' → i ∈ vs) (ht : ∀ σ H Q, tT X.K T C WF J0 c' σ H Q → tt σ H Q) (σ : L2.St) (H : Hp) (Q : VK) (h : tE X.K T C W J (.lc vs t' it' c' e') σ H Q) :
    tLc (tI X.K T C W J it') (gOf X.K t') tt (tE X.K T C WF J0 e') vs σ H Q := by
  obtain ⟨π, B, m, ρ, b, w⟩ := h
  rw [ev_lc] at w
  refine ⟨π, B, m, ρ, b, w.bnd fun I H1 π1 B1 m1 ds s1 ok w1 => fun L hL => ?_⟩
  have sl1 := b.sl.step s1
  have st1 := s1.st
  rcases lcL_ok (f := lcStep C vs t' c' e' ρ) (us := ds.map U.v) (m := m1) with ⟨all, mE, hall⟩ | hno
  case inr =>
    rw [hno] at w1
    exact w1.elim
  rw [hall] at w1
  have hBL : B1 L = none := fresh_back st1.ex hL
  have hkL : ∀ k, k < m1.length → π1 k ≠ L := fun k hk z => by
    obtain ⟨o, ho, _⟩ := st1.dom k hk
    rw [z, hL] at ho
    cases ho
  refine lc_it ok.walk (fun i H' => ∃ π2 B2 m2 acc dacc rest, Step X.K T π1 B1 H1 m1 π2 B2 H' m2 ∧ H' L = some (.lst acc) ∧ B2 L = none ∧ (∀ k, k < m2.length → π2 k ≠ L) ∧ Rps X.K T B2 acc dacc ∧ acc.length ≤ i ∧
      lcL (lcStep C vs t' c' e' ρ) ((ds.drop i).map U.v) m2 = .ok rest mE ∧ all = dacc ++ rest) ?_ (fun i H' _ ⟨π2, B2, m2, acc, dacc, rest, s2, _⟩ => s2.ex.trans s2.st.ex) ?_ ?_
  · refine ⟨π1, B1, m1, [], [], all, (Step.refl st1).off hL hBL hkL (fun y z => by rw [hL] at z; cases z), upd_same, hBL, hkL, .nil, Nat.le_refl _, ?_, rfl⟩
    rw [List.drop_zero]
    exact hall
  · rintro i x H2 H3 hi ⟨π2, B2, m2, acc, dacc, rest, s2, hA, hB, hk, ra, la, hl, ea⟩ y
    obtain ⟨B3, d, hd, nw, rp⟩ := y B2 s2.ex s2.st.ex
    have hdrop : ds.drop i = d :: ds.drop (i + 1) := by
      have := List.drop_eq_getElem_cons hi
      rw [this, (List.getElem?_eq_some_iff.mp hd).2]
    rw [hdrop, List.map_cons] at hl
    obtain ⟨o, m4, r, hf, hr, er⟩ := lcL_cons hl
    have sN := nw.step s2.st
    have s3 := s2.trans sN
    have sl3 := sl1.step s3
    have hA3 : H3 L = some (.lst acc) := nw.exH _ _ hA
    have hB3 : B3 L = none := (nw.noab L _ hA fun _ z => nomatch z).trans hB
    have ra3 := ra.mono nw.ex
    unfold lcStep at hf
    cases hb : bindT t' (.v d) (wipeR ρ vs) with
    | none =>
      rw [hb] at hf
      cases hf
    | some ρ' =>
      rw [hb] at hf
      dsimp only at hf
      refine gOf_ok X.K T t' _ _ _ _ _ _ _ _ _ _ s3.st.ex (sl3.wipe vs) (show Ru X.K T m2.length π2 B3 x (.v d) from rp) hb fun σ2 sl4 off => ⟨(off vs hv).trans (wipe_wipe σ vs), ht _ _ _ ?_⟩
      have b4 : Bs X.K T J0 π2 B3 H3 m2 σ2 ρ' := ⟨s3.st, sl4, trivial⟩
      refine ⟨π2, B3, m2, ρ', b4, ?_⟩
      cases hc : ev C c' ρ' m2 with
      | ex c fs m5 =>
        rw [hc] at hf
        cases hf
      | no =>
        rw [hc] at hf
        cases hf
      | ok u m5 =>
        rw [hc] at hf
        intro v H5 π5 B5 s5 r5
        have s5' := s3.trans s5
        have hA5 : H5 L = some (.lst acc) := s5.keep L _ hA3 fun k hk' z => hk k hk' z.symm
        have hB5 : B5 L = none := (s5.noab L _ hA3 (fun k hk' z => hk k hk' z.symm) fun _ z => nomatch z).trans hB3
        have hk5 : ∀ k, k < m5.length → π5 k ≠ L := fun k hk' z => by
          by_cases cc : k < m2.length
          · rw [s5.pi k cc] at z
            exact hk k cc z
          · have := s5.new k (Nat.le_of_not_lt cc) hk'
            rw [z, hA3] at this
            cases this
        have ra5 := ra3.mono s5.ex
        have hf' : (match u with
          | .v (.bl true) => (ev C e' ρ' m5).bnd fun z m => match z with
            | .v d => .ok (some d) m
            | .p _ => .no
          | .v (.bl false) => .ok none m5
          | _ => .no) = .ok o m4 := hf
        cases u with
        | p k => cases hf'
        | v dd =>
          cases dd with
          | bl bb =>
            refine ⟨bb, bl_of r5, ?_⟩
            cases bb with
            | false =>
              cases hf'
              refine iteF ⟨π5, B5, m4, acc, dacc, r, s5', hA5, hB5, hk5, ra5, Nat.le_succ_of_le la, hr, ?_⟩
              rw [ea, er]
              rfl
            | true =>
              refine iteT ⟨π5, B5, m5, ρ', b4.step mono0 s5, ?_⟩
              cases hz : ev C e' ρ' m5 with
              | ex c fs m6 =>
                have hf2 : ((ev C e' ρ' m5).bnd fun z m => match z with
                  | .v d => R.ok (some d) m
                  | .p _ => .no) = .ok o m4 := hf'
                rw [hz] at hf2
                cases hf2
              | no =>
                have hf2 : ((ev C e' ρ' m5).bnd fun z m => match z with
                  | .v d => R.ok (some d) m
                  | .p _ => .no) = .ok o m4 := hf'
                rw [hz] at hf2
                cases hf2
              | ok z m6 =>
                have hf2 : ((ev C e' ρ' m5).bnd fun z m => match z with
                  | .v d => R.ok (some d) m
                  | .p _ => .no) = .ok o m4 := hf'
                rw [hz] at hf2
                intro y6 H6 π6 B6 s6 r6
                cases z with
                | p k => cases hf2
                | v dz =>
                  cases hf2
                  have s6' := s5'.trans s6
                  have hA6 : H6 L = some (.lst acc) := s6.keep L _ hA5 fun k hk' z => hk5 k hk' z.symm
                  have hB6 : B6 L = none := (s6.noab L _ hA5 (fun k hk' z => hk5 k hk' z.symm) fun _ z => nomatch z).trans hB5
                  have hk6 : ∀ k, k < m4.length → π6 k ≠ L := fun k hk' z => by
                    by_cases cc : k < m5.length
                    · rw [s6.pi k cc] at z
                      exact hk5 k cc z
                    · have := s6.new k (Nat.le_of_not_lt cc) hk'
                      rw [z, hA5] at this
                      cases this
                  refine ⟨acc, hA6, lim_lt (Nat.lt_of_le_of_lt la (Nat.lt_of_lt_of_le hi ok.len)), π6, B6, m4, acc ++ [y6], dacc ++ [dz], r, s6'.off hL hB6 hk6 (fun y z => by rw [hA6] at z; cases z), upd_same, hB6, hk6, (ra5.mono s6.ex).app (.cons r6 .nil), ?_, hr, ?_⟩
                  · rw [List.length_append]
                    exact Nat.succ_le_succ la
                  · rw [ea, er, List.append_assoc]
                    rfl
          | _ => cases hf'
  · rintro H2 ⟨π2, B2, m2, acc, dacc, rest, s2, hA, hB, hk, ra, la, hl, ea⟩
    rw [List.drop_length] at hl
    cases hl
    rw [List.append_nil] at ea
    subst ea
    exact w1 _ H2 π2 _ (s2.absorb hL hA hB hk) (.lst upd_same (Nat.le_trans la ok.len) (ra.mono (Ex.new hB)))

theorem yes_read (σ : L2.St) (H : Hp) (Q : Bool → Hp → Prop) (h : tT X.K T C WF J0 (.cst (.bl true)) σ H Q) : tYes σ H Q := by
  obtain ⟨π, B, m, ρ, b, w⟩ := h
  rw [ev] at w
  obtain ⟨k, e, q⟩ := want_ok w b.st (.bl true)
  cases e
  exact q
/-- what is asked in a comprehension's block -/
abbrev Blk (X : Cx) (scope : Scope) (p : Cx → Prop) : Prop := ∀ (s : Shared) (H : Hp) (D : Addr) (cl : List (Str × Addr)) (fp : List Addr), p (X.blk s H scope (compEnvC scope cl D X.env) fp)
theorem pd_lc0 (own : List (Str × Nat)) {elt tg it : Expr} {it' : E} {scope : Scope} (hJ : Mono J) (hc : X.calm = true) (hN : X.N.Nodup) (hi : PDi X T C W J tg it it') (ok : BlkOk X.N X.env.scope scope own) (hg : Blk X scope fun Y => PGd Y tg t') (he : Blk X scope fun Y => PD Y T C WF J0 elt e')
    (hv : ∀ i, i ∈ slotsT t' → i ∈ own.map (·.2) := by decide) (hs : ∀ x, foldedSetIterable it X.env x = pure x := by intro _; rfl) : PD X T C W J (.ListComp elt [⟨tg, it, [], 0⟩] scope pos) (.lc (own.map (·.2)) t' it' (.cst (.bl true)) e') :=
  PE.weak (pe_lc (tt := tYes) hc hN hi ok hg (fun _ _ _ _ _ => pts_nil) he hs) fun σ H Q h => lc_read hJ hv yes_read σ H Q h
theorem pd_lc1 (own : List (Str × Nat)) {elt tg it c : Expr} {it' c' : E} {scope : Scope} (hJ : Mono J) (hc : X.calm = true) (hN : X.N.Nodup) (hi : PDi X T C W J tg it it') (ok : BlkOk X.N X.env.scope scope own) (hg : Blk X scope fun Y => PGd Y tg t') (ht : Blk X scope fun Y => PDt Y T C WF J0 c c') (he : Blk X scope fun Y => PD Y T C WF J0 elt e')
    (hv : ∀ i, i ∈ slotsT t' → i ∈ own.map (·.2) := by decide) (hs : ∀ x, foldedSetIterable it X.env x = pure x := by intro _; rfl) : PD X T C W J (.ListComp elt [⟨tg, it, [c], 0⟩] scope pos) (.lc (own.map (·.2)) t' it' c' e') :=
  PE.weak (pe_lc hc hN hi ok hg (fun s H D cl fp => pts_one (ht s H D cl fp)) he hs) fun σ H Q h => lc_read hJ hv (fun _ _ _ q => q) σ H Q h
theorem sd_lc0 (i : Nat) (own : List (Str × Nat)) {y : Str} {py spos : Pos} {elt tg it : Expr} {it' : E} {scope : Scope} (hc : X.calm = true) (hN : X.N.Nodup) (hsw : swapsWith (.ListComp elt [⟨tg, it, [], 0⟩] scope pos) (some (.Name y py)) spos.line X.env = pure true) (hi : PDi X T C W J0 tg it it') (ok : BlkOk X.N X.env.scope scope own) (hg : Blk X scope fun Y => PGd Y tg t') (he : Blk X scope fun Y => PD Y T C WF J0 elt e')
    (hv : ∀ i, i ∈ slotsT t' → i ∈ own.map (·.2) := by decide) (hy : X.N[i]? = some y := by rfl) (hyl : X.env.scope.names.lookup y = some .local := by rfl) (hs : ∀ x, foldedSetIterable it X.env x = pure x := by intro _; rfl) : PSd X T C W (.Assign [.Name y py] (.ListComp elt [⟨tg, it, [], 0⟩] scope pos) spos) (.asg (.nm i) (.lc (own.map (·.2)) t' it' (.cst (.bl true)) e')) :=
  PS.weak (ps_setLc (tt := tYes) hc hN hy hyl hsw hi ok hg (fun _ _ _ _ _ => pts_nil) he hs) fun D σ H h => asg_read (gOf_ok X.K T (.nm i)) D σ H h fun Q q => lc_read mono0 hv yes_read σ H Q q
theorem sd_lc1 (i : Nat) (own : List (Str × Nat)) {y : Str} {py spos : Pos} {elt tg it c : Expr} {it' c' : E} {scope : Scope} (hc : X.calm = true) (hN : X.N.Nodup) (hsw : swapsWith (.ListComp elt [⟨tg, it, [c], 0⟩] scope pos) (some (.Name y py)) spos.line X.env = pure true) (hi : PDi X T C W J0 tg it it') (ok : BlkOk X.N X.env.scope scope own) (hg : Blk X scope fun Y => PGd Y tg t') (ht : Blk X scope fun Y => PDt Y T C WF J0 c c') (he : Blk X scope fun Y => PD Y T C WF J0 elt e')
    (hv : ∀ i, i ∈ slotsT t' → i ∈ own.map (·.2) := by decide) (hy : X.N[i]? = some y := by rfl) (hyl : X.env.scope.names.lookup y = some .local := by rfl) (hs : ∀ x, foldedSetIterable it X.env x = pure x := by intro _; rfl) : PSd X T C W (.Assign [.Name y py] (.ListComp elt [⟨tg, it, [c], 0⟩] scope pos) spos) (.asg (.nm i) (.lc (own.map (·.2)) t' it' c' e')) :=
  PS.weak (ps_setLc hc hN hy hyl hsw hi ok hg (fun s H D cl fp => pts_one (ht s H D cl fp)) he hs) fun D σ H h => asg_read (gOf_ok X.K T (.nm i)) D σ H h fun Q q => lc_read mono0 hv (fun _ _ _ q => q) σ H Q q
end
end At

/-! Defs and their calls; lists that are changed. -/
namespace At
open PySem L2 Evl
open PySem.Calls PyProof.Rows

def WantP (K : Fg) (T : Tb) (B H : Hp) (p : P) (Q : VK) (E : XK) : Prop := match p with
  | .ok d => ∀ v H' B', New B H B' H' → Rp K T B' v d → Q v H'
  | .ex c fs => ∀ x xs H' B', New B H B' H' → B' x = some (.xd xs) → Rpf K T B' xs fs → E (.ref (cl K T c)) (some x) H'
  | .no => False
/-- a def that takes data and gives data (or an error) -/
def spP (K : Fg) (T : Tb) (F : List D → P) : Sp := fun vs H Q E => ∃ B ds, Ex B H ∧ Rps K T B vs ds ∧ WantP K T B H (F ds) Q E

section
variable {K : Fg} {T : Tb} {C : CE}
theorem sto_nil {B H : Hp} (e : Ex B H) : Sto K T (fun _ => 0) B H [] := ⟨e, fun i j hi => absurd hi (by simp), fun k hk => absurd hk (by simp), fun k x e => by simp at e⟩
theorem New.of_step {π π' : Nat → Addr} {B H B' H' : Hp} {m' : Mu} (s : Step K T π B H [] π' B' H' m') : New B H B' H' :=
  ⟨s.ex, fun a o h => s.keep a o h fun k hk => absurd hk (by simp), s.st.ex, fun a o h hn => s.noab a o h (fun k hk => absurd hk (by simp)) hn⟩
theorem start_slots {N : List Str} {vs : List V} {ds : List D} {B : Hp} {n : Nat} {π : Nat → Addr} (r : Rps K T B vs ds) (hN : N.length = n) (hv : vs.length ≤ N.length) : Slots K T 0 π B (L2.start N vs) (startR n ds) := by
  have hl := r.len
  refine ⟨?_, fun i u e => ?_⟩
  · unfold L2.start startR
    rw [List.length_append, List.length_append, List.length_map, List.length_map, List.length_replicate, List.length_replicate, hN, hl]
  · unfold startR at e
    by_cases c : i < ds.length
    · rw [List.getElem?_append_left (by rw [List.length_map]; exact c), List.getElem?_map] at e
      cases hd : ds[i]? with
      | none =>
        rw [hd] at e
        cases e
      | some d =>
        rw [hd] at e
        cases e
        obtain ⟨v, h1, h2⟩ := r.get hd
        refine ⟨v, ?_, h2⟩
        unfold L2.start
        rw [List.getElem?_append_left (by rw [List.length_map, hl]; exact c), List.getElem?_map, h1]
        rfl
    · rw [List.getElem?_append_right (by rw [List.length_map]; omega), List.getElem?_replicate] at e
      split at e <;> cases e
/-- the wish of a def's body -/
abbrev WD (E : XK) : WX := fun cls d _ H => E cls d H
theorem run_read {N : List Str} {f : Fn} {vs : List V} {H : Hp} {Q : VK} {E : XK} (hN : N.length = f.slots) (hv : vs.length ≤ N.length) {B : Hp} {ds : List D} (e : Ex B H) (r : Rps K T B vs ds) (ha : ds.length = f.ar) (w : WantP K T B H (f.run C ds) Q E) :
    tS K T C (WD E) f.body { nx := fun _ H' => Q .non H', rt := Q } (L2.start N vs) H := by
  refine ⟨fun _ => 0, B, [], startR f.slots ds, ⟨sto_nil e, start_slots r hN hv, trivial⟩, ?_⟩
  unfold Fn.run at w
  rw [if_pos ha] at w
  cases hx : xs C f.body (startR f.slots ds) [] with
  | nx ρ m =>
    rw [hx] at w
    exact fun σ' H' π' B' s _ => w .non H' B' (New.of_step s) .non
  | rt u m =>
    rw [hx] at w
    cases u with
    | p k => exact w.elim
    | v d => exact fun v H' π' B' s r => w v H' B' (New.of_step s) r
  | bk ρ m =>
    rw [hx] at w
    exact w.elim
  | ct ρ m =>
    rw [hx] at w
    exact w.elim
  | ex c fs ρ m =>
    rw [hx] at w
    exact fun σ' x xs H' π' B' s _ q1 q2 => w x xs H' B' (New.of_step s) q1 q2
  | no =>
    rw [hx] at w
    exact w.elim
theorem run_ar {B H : Hp} {g : Fn} {ds : List D} {Q : VK} {E : XK} (w : WantP K T B H (g.run C ds) Q E) : ds.length = g.ar := by
  unfold Fn.run at w
  by_cases c : ds.length = g.ar
  · exact c
  · rw [if_neg c] at w
    exact w.elim
/-- A DEF BY ITS BODY -/
theorem fn_okP {P : Program} {w : World} {mg : Str → Option Value} {base : Heap} {x qual : Str} {params : Arguments} {body : List Stmt} {scope : Scope} {dvs : List V} {kws : List (Str × V)} {f : Addr} {fd : FuncData} {N ps : List Str} {k : Nat} {g : Fn} (F : FunD K x qual params body scope dvs kws f fd) (S : FnScope N ps scope) (hN : N.length = g.slots) (hps : ps.length = g.ar)
    (hb : ∀ (cdv : Value) (A : Around) (outer : List Env) (s : Shared) (H : Hp) (E : XK), Room k (A.deeper (envOfC qual scope s.heap.objs.size f cdv)) → PSsd (cxOf (L2.CX P w) P w K mg base N qual scope f cdv A outer s H E) T C (WD E) body g.body) :
    FnOk P w K mg base (L2.CX P w) (k + 1) f fd ps (spP K T (g.run C)) := by
  refine F.ok S (fun vs H Q E h => ?_) fun cdv A outer s H vs Q E hr h => ⟨_, hb cdv A outer s H E hr, ?_⟩
  · obtain ⟨B, ds, e, r, w⟩ := h
    rw [r.len, hps]
    exact run_ar w
  · obtain ⟨B, ds, e, r, w⟩ := h
    have hle : ps.length ≤ N.length := by
      have := congrArg List.length S.pre
      rw [List.length_take] at this
      omega
    have ha := run_ar w
    exact run_read hN (by rw [r.len, ha, ← hps]; exact hle) e r ha w
end

/-- what is known of a def that is called: it stands under the name x -/
structure DefOk (P : Program) (w : World) (K : Fg) (mg : Str → Option Value) (base : Heap) (T : Tb) (k : Nat) (x : Str) (F : List D → At.P) : Prop where
  to : ∃ (f : Addr) (fd : FuncData) (ps : List Str), mg x = some (.ref f) ∧ PySem.W.keepIn K (.ref f) = true ∧ Binds K fd ps [] ∧ FnOk P w K mg base (L2.CX P w) k f fd ps (spP K T F)
theorem DefOk.mono {P : Program} {w : World} {K : Fg} {mg : Str → Option Value} {base : Heap} {T : Tb} {j k : Nat} {x : Str} {F : List D → At.P} (h : DefOk P w K mg base T j x F) (hk : j ≤ k) : DefOk P w K mg base T k x F := by
  obtain ⟨f, fd, ps, h1, h2, h3, h4⟩ := h.to
  exact ⟨f, fd, ps, h1, h2, h3, h4.mono hk⟩
section
variable {X : Cx} {T : Tb} {C : CE} {W : WX} {J : Jt} {a b e : Expr} {a' b' e' : E} {es : List Expr} {es' : E} {pos : Pos}
theorem call_read {F : List D → P} {K : Fg} {σ : L2.St} {H : Hp} {π : Nat → Addr} {B : Hp} {m : Mu} {us : List U} {vs : List V} {Q : VK} (st : Sto K T π B H m) (r : Rus K T m.length π B vs us)
    (w : Want (RU K T) K T W σ π B H m (match plainU us with | some ds => fromP m (F ds) | none => .no) Q) : spP K T F vs H Q (WE W σ) := by
  cases e : plainU us with
  | none =>
    rw [e] at w
    exact w.elim
  | some ds =>
    rw [e] at w
    dsimp only at w
    refine ⟨B, ds, st.ex, plainU_ok r e, ?_⟩
    cases hp : F ds with
    | ok d =>
      rw [hp] at w
      exact fun v H' B' nw rp => w v H' π B' (nw.step st) rp
    | ex c fs =>
      rw [hp] at w
      exact fun x xs H' B' nw q1 q2 => w x xs H' π B' (nw.step st) q1 q2
    | no =>
      rw [hp] at w
      exact w.elim
theorem pd_call {k i : Nat} {x : Str} {p : Pos} (hJ : Mono J) (tk : Takes X W) (hr : Room k X.A) (F : DefOk X.prog X.w X.K X.mg X.base T k x (C.fn i)) (hg : Gl X x) (ha : PDs X T C W J (e :: es) es')
    (hdb : (x == ("__debug__" : Str)) = false := by decide) (he : starEach (e :: es) X.env = (false, eval e X.env) :: starEach es X.env := by rfl) (hpl : (backTo pos (starEach es X.env)).any (·.1) = false := by rfl) :
    PD X T C W J (.Call (.Name x p) (e :: es) [] pos) (.call i es') := by
  obtain ⟨f, fd, ps, hm, hk, hb, F⟩ := F.to
  refine PE.weak (pe_callSD (dvs := []) (ds := []) F hr hg hm hk hb .nil (fun σ => passAt tk σ) ha hdb he hpl) fun σ H Q h => ?_
  obtain ⟨π, B, m, ρ, b, w⟩ := h
  rw [ev] at w
  refine tEs_bnd hJ b w fun vs H1 π1 B1 m1 us s1 b1 r1 w1 => ?_
  rw [List.append_nil]
  exact call_read b1.st r1 w1
theorem pd_call0 {k i : Nat} {x : Str} {p : Pos} (hJ : Mono J) (tk : Takes X W) (hr : Room k X.A) (F : DefOk X.prog X.w X.K X.mg X.base T k x (C.fn i)) (hg : Gl X x) (hdb : (x == ("__debug__" : Str)) = false := by decide) : PD X T C W J (.Call (.Name x p) [] [] pos) (.call i .nil) := by
  obtain ⟨f, fd, ps, hm, hk, hb, F⟩ := F.to
  refine ⟨fun pins s σ H Q I h => ?_⟩
  obtain ⟨π, B, m, ρ, b, w⟩ := h
  rw [ev, evs] at w
  refine wpAny_Call_Name_kw (ld_glob I hg hm ?_ hdb)
  refine PySem.W.callWith_K0 I.kIn hk (run_fnSD (E := WE W) (dvs := []) (ds := []) (us := []) F hr hb .nil (passAt tk σ) I .nil ?_)
  exact call_read (us := []) b.st .nil w

/-! ### lists that are changed -/
theorem lstAt_ok {m : Mu} {u : U} {k : Nat} (h : lstAt m u = some k) : u = .p k ∧ ∃ us, m[k]? = some (.lst us) := by
  cases u with
  | v d => cases h
  | p j =>
    have h' : (match m[j]? with | some (.lst _) => some j | _ => none) = some k := h
    cases hm : m[j]? with
    | none =>
      rw [hm] at h'
      cases h'
    | some x =>
      rw [hm] at h'
      cases x with
      | lst us =>
        cases h'
        exact ⟨rfl, us, hm⟩
      | _ => cases h'
theorem rus_app {K : Fg} {n : Nat} {π : Nat → Addr} {B : Hp} : ∀ {xs ys : List V} {us ws : List U}, Rus K T n π B xs us → Rus K T n π B ys ws → Rus K T n π B (xs ++ ys) (us ++ ws)
  | _, _, _, _, .nil, q => q
  | _, _, _, _, .cons r t, q => .cons r (rus_app t q)
theorem rus_of {K : Fg} {n : Nat} {π : Nat → Addr} {B : Hp} : ∀ {xs : List V} {ds : List D}, Rps K T B xs ds → Rus K T n π B xs (ds.map U.v)
  | _, _, .nil => .nil
  | _, _, .cons r q => .cons r (rus_of q)
theorem rus_set {K : Fg} {n : Nat} {π : Nat → Addr} {B : Hp} {x : V} {u : U} (r : Ru K T n π B x u) : ∀ {xs : List V} {us : List U} (i : Nat), Rus K T n π B xs us → Rus K T n π B (xs.set i x) (us.set i u)
  | _, _, _, .nil => .nil
  | _, _, 0, .cons _ t => .cons r t
  | _, _, i + 1, .cons q t => .cons q (rus_set r i t)
theorem sd_app {apos cpos p : Pos} (ha : PD X T C W J0 a a') (he : PD X T C W J0 e e') (hbase : attributeBase a "append" X.env (eval a X.env) = eval a X.env := by rfl)
    (hfew : ((backTo cpos (starEach [e] X.env)).all (fun x => !x.1) && (backToKw cpos (keywordEach [] X.env)).all (fun x => x.1.isSome)
      && decide ([e].length + ([] : List Keyword).length + (if ([] : List Keyword).isEmpty then 0 else 1) < 30)) = true := by rfl)
    (hline : (apos.endLine == cpos.line) = true := by rfl) (hs : starEach [e] X.env = (false, eval e X.env) :: starEach [] X.env := by rfl) (hsw : swapsWith (.Call (.Attribute a "append" apos) [e] [] cpos) none p.line X.env = pure false := by rfl) :
    PSd X T C W (.Expr (.Call (.Attribute a "append" apos) [e] [] cpos) p) (.app a' e') := by
  refine PS.weak (ps_expr (pe_bm PySem.F.plainAttrs_list PySem.F.slot_list_append PySem.F.type_list_append mt_append ha (pa_cons he pa_nil hs) hbase hfew hline hs) hsw) fun D σ H h => ?_
  obtain ⟨π, B, m, ρ, b, w⟩ := h
  refine tE_out b w fun v H1 π1 B1 m1 u s1 b1 r1 w1 => ?_
  obtain ⟨k, hk, hu, us1, hm1⟩ : ∃ k, lstAt m1 u = some k ∧ u = .p k ∧ ∃ us, m1[k]? = some (.lst us) := by
    cases hl : lstAt m1 u with
    | none =>
      rw [hl] at w1
      exact w1.elim
    | some k => exact ⟨k, rfl, lstAt_ok hl⟩
  rw [hk] at w1
  subst hu
  obtain ⟨hk1, rfl⟩ := r1
  obtain ⟨_, xs1, g1, _⟩ := b1.st.cell k _ hm1
  refine ⟨.inl ⟨rfl, xs1, SqL.of g1⟩, tE_out b1 w1 fun y H2 π2 B2 m2 w s2 b2 r2 w2 => ?_⟩
  cases hm2 : m2[k]? with
  | none =>
    rw [hm2] at w2
    exact w2.elim
  | some x =>
    rw [hm2] at w2
    cases x with
    | lst us =>
      dsimp only at w2
      by_cases c : us.length < lim
      · rw [if_pos c] at w2
        have hk2 : k < m2.length := (List.getElem?_eq_some_iff.mp hm2).1
        obtain ⟨h1, xs, h2, h3, h4⟩ := b2.st.cell k _ hm2
        have hx : xs.length < lim := by rw [rus_len h4]; exact c
        refine ⟨π2 k, xs, y, by rw [s2.pi k hk1], rfl, h2, lim_lt hx, w2 σ _ π2 B2 (Step.put b2.st hk2 h1 (fun _ z => nomatch z) ⟨h1, xs ++ [y], upd_same, ?_, ?_⟩) ?_⟩
        · rw [List.length_append]
          exact hx
        · rw [List.length_set]
          exact rus_app h4 (.cons r2 .nil)
        · rw [List.length_set]
          exact b2.sl
      · rw [if_neg c] at w2
        exact w2.elim
    | _ => exact w2.elim

theorem sd_ext {apos cpos p : Pos} (ha : PD X T C W J0 a a') (he : PD X T C W J0 e e') (hbase : attributeBase a "extend" X.env (eval a X.env) = eval a X.env := by rfl)
    (hfew : ((backTo cpos (starEach [e] X.env)).all (fun x => !x.1) && (backToKw cpos (keywordEach [] X.env)).all (fun x => x.1.isSome)
      && decide ([e].length + ([] : List Keyword).length + (if ([] : List Keyword).isEmpty then 0 else 1) < 30)) = true := by rfl)
    (hline : (apos.endLine == cpos.line) = true := by rfl) (hs : starEach [e] X.env = (false, eval e X.env) :: starEach [] X.env := by rfl) (hsw : swapsWith (.Call (.Attribute a "extend" apos) [e] [] cpos) none p.line X.env = pure false := by rfl) :
    PSd X T C W (.Expr (.Call (.Attribute a "extend" apos) [e] [] cpos) p) (.ext a' e') := by
  refine PS.weak (ps_expr (pe_bm PySem.F.plainAttrs_list PySem.F.slot_list_extend PySem.F.type_list_extend mt_extend ha (pa_cons he pa_nil hs) hbase hfew hline hs) hsw) fun D σ H h => ?_
  obtain ⟨π, B, m, ρ, b, w⟩ := h
  refine tE_out b w fun v H1 π1 B1 m1 u s1 b1 r1 w1 => ?_
  obtain ⟨k, hk, hu, us1, hm1⟩ : ∃ k, lstAt m1 u = some k ∧ u = .p k ∧ ∃ us, m1[k]? = some (.lst us) := by
    cases hl : lstAt m1 u with
    | none =>
      rw [hl] at w1
      exact w1.elim
    | some k => exact ⟨k, rfl, lstAt_ok hl⟩
  rw [hk] at w1
  subst hu
  obtain ⟨hk1, rfl⟩ := r1
  obtain ⟨_, xs1, g1, _⟩ := b1.st.cell k _ hm1
  refine ⟨.inl ⟨rfl, xs1, SqL.of g1⟩, tE_out b1 w1 fun y H2 π2 B2 m2 w s2 b2 r2 w2 => ?_⟩
  cases hm2 : m2[k]? with
  | none =>
    rw [hm2] at w2
    exact w2.elim
  | some x =>
    rw [hm2] at w2
    cases x with
    | lst us =>
      cases hse : see m2 w with
      | none =>
        rw [hse] at w2
        exact w2.elim
      | some dd =>
        rw [hse] at w2
        cases dd with
        | lst ds =>
          dsimp only at w2
          by_cases c : us.length + ds.length ≤ lim
          · rw [if_pos c] at w2
            have hk2 : k < m2.length := (List.getElem?_eq_some_iff.mp hm2).1
            obtain ⟨h1, xs, h2, h3, h4⟩ := b2.st.cell k _ hm2
            have rq := see_ok b2.st r2 hse
            cases rq with
            | lst g z q =>
              rename_i a2 ys
              have hx : xs.length + ys.length ≤ lim := by rw [rus_len h4, q.len]; exact c
              refine ⟨π2 k, a2, xs, ys, by rw [s2.pi k hk1], rfl, h2, g, lim_size hx, w2 σ _ π2 B2 (Step.put b2.st hk2 h1 (fun _ z => nomatch z) ⟨h1, xs ++ ys, upd_same, ?_, ?_⟩) ?_⟩
              · rw [List.length_append]
                exact hx
              · rw [List.length_set]
                exact rus_app h4 (rus_of q)
              · rw [List.length_set]
                exact b2.sl
          · rw [if_neg c] at w2
            exact w2.elim
        | _ => exact w2.elim
    | _ => exact w2.elim
theorem sd_setI {i : Expr} {i' : E} {tpos : Pos} (ha : PD X T C W J0 a a') (hi : PD X T C W J0 i i') (he : PD X T C W J0 e e') (hg : PG X (.Subscript a i tpos) (gSub (tE X.K T C W J0 a') (tE X.K T C W J0 i') rSetL)) (hs : swapsWithSole [.Subscript a i tpos] e pos.line X.env = pure false := by rfl) (hw : swappedStores [.Subscript a i tpos] e X.env = pure none := by rfl)
    (h1 : (assignEach [.Subscript a i tpos] X.env).map (·.2) = [assign (.Subscript a i tpos) X.env] := by rfl) : PSd X T C W (.Assign [.Subscript a i tpos] e pos) (.setI a' i' e') := by
  refine PS.weak (ps_asg he hg hs hw h1) fun D σ H h => ?_
  obtain ⟨π, B, m, ρ, b, w⟩ := h
  refine tE_out b w fun y H1 π1 B1 m1 wv s1 b1 r1 w1 => tE_out b1 w1 fun v H2 π2 B2 m2 u s2 b2 r2 w2 => tE_out b2 w2 fun vi H3 π3 B3 m3 j s3 b3 r3 w3 => ?_
  cases u with
  | v d => exact w3.elim
  | p k =>
    cases j with
    | p j => exact w3.elim
    | v dj =>
      cases dj with
      | int n =>
        dsimp only at w3
        cases hm : m3[k]? with
        | none =>
          rw [hm] at w3
          exact w3.elim
        | some x =>
          rw [hm] at w3
          cases x with
          | lst us =>
            dsimp only at w3
            obtain ⟨hk2, rfl⟩ := r2
            have hk3 : k < m3.length := (List.getElem?_eq_some_iff.mp hm).1
            obtain ⟨g1, xs, g2, g3, g4⟩ := b3.st.cell k _ hm
            cases hn : ixN us.length n with
            | none =>
              rw [hn] at w3
              exact w3.elim
            | some q =>
              rw [hn] at w3
              cases r3
              rw [← rus_len g4] at hn
              refine ⟨π3 k, xs, n, q, by rw [s3.pi k hk2], rfl, g2, hn, w3 σ _ π3 B3 (Step.put b3.st hk3 g1 (fun _ z => nomatch z) ⟨g1, xs.set q y, upd_same, ?_, ?_⟩) ?_⟩
              · rw [List.length_set]
                exact g3
              · rw [List.length_set]
                exact rus_set (s3.ru (s2.ru r1)) q g4
              · rw [List.length_set]
                exact b3.sl
          | _ => exact w3.elim
      | _ => exact w3.elim
end
end At

/-! Errors of the package: made by super().__init__(text), then their fields. -/
namespace At
open PySem L2 Evl
open PySem.W PySem.Calls PyProof.Rows PySem.HandSPX

/-- what the written part tells of an error's class at C, of its __init__ at fI (its cell at cc, its code at cda) -/
structure XCls (prog : Program) (K : Frag) (C fI cc cda : Addr) : Prop where
  cls : ∃ nm q N bs bm sn sub ab col dd k0 k1 k2 k3 k5, K.lookup C = some (excClassObj nm q C N bs bm true sn sub ab col dd k0 k1 k2 k3 k5 "ValueError.__new__") ∧ refsVE bm = true
  sup : ks_superIn K C C "__init__" = some (some (.builtin "ValueError.__init__"))
  sa : findIn K (.ref C) "__setattr__" = some (some (.builtin "object.__setattr__"))
  iC : findIn K (.ref C) "__init__" = some (some (.ref fI))
  tC : typeIn K (.ref fI) = some (.type "function")
  veC : subIn K (.ref C) (.type "ValueError") = some true
  hdC : hasDictIn K C = true
  selfC : mroIn K C (.ref C) = some true
  stat : nsIn K cStatics "thirdparty.any" = some none
  cell : ∃ cl cld csl, K.lookup cc = some ⟨cl, cld, .cell (some (.ref C)), csl⟩
  code : ∃ ccl cdd vs ccs file tf, K.lookup cda = some ⟨ccl, cdd, .fields vs, ccs⟩ ∧ vs[2]? = some (.str file tf) ∧ ((prog.main.file : Str) == file) = true
  top : (prog.main.scope.names.lookup ("super" : Str)).isSome = false

/-- the names of such an __init__ -/
structure XSc (scope : Scope) (me : Str) (ps : List Str) : Prop where
  kind : scope.kind = .function
  co : scope.isCoroutine = false
  gen : scope.isGenerator = false
  nocell : ∀ x ∈ scope.names, x.2 ≠ .cell
  sup : scope.names.lookup ("super" : Str) = some .globalImplicit
  cls : scope.names.lookup ("__class__" : Str) = some .free
  par : ∀ x ∈ me :: ps, scope.names.lookup x = some .local

section
variable {prog : Program} {w : World} {A : Around} {E : Value → Shared → Prop} {R : Result → Shared → Prop} {s : Shared} {K : Frag} {C fI cc cda : Addr} {qual : Str} {scope : Scope} {L : Addr}

/-- super().__init__(text) -/
theorem super_stmt {body : List Stmt} {p0 p1 p2 p3 p4 p5 : Pos} {msg : Str} {kk : Nat} {m mg mb : Str → Option Value} {x t0 : Addr} {fd : FuncData} {oc : Value} {od : Option Addr} {osl : Array (Option Value)} {ar : Arg} {me : Str} {ps : List Str} {pl : Sem Bool} {Q : Flow → Shared → Prop} (T : XCls prog K C fI cc cda) (S : XSc scope me ps) (X : K.In s.heap)
    (hn : s.heap.Ns L m) (hG : s.heap.Ns mainGlobals mg) (hsup : mg "super" = none) (hB : s.heap.Ns builtinsNs mb) (hBs : mb "super" = bootBuiltins "super") (hf : K.lookup fI = some ⟨oc, od, .func fd, osl⟩) (hp : (fd.params.posonlyargs ++ fd.params.args).head? = some ar) (har : ar.arg = me)
    (hv : m me = some (.ref x)) (hx : s.heap.get? x = some (excO C t0)) (hLx : L ≠ x)
    (he : eval (.Call (.Attribute (.Call (.Name "super" p0) [] [] p1) "__init__" p2) [.Constant (.str msg) kk p3] [] p4) (ksEnv qual scope L fI (.ref cda) cc) = (do
      let ov ← attributeBase (.Call (.Name "super" p0) [] [] p1) "__init__" (ksEnv qual scope L fI (.ref cda) cc) (eval (.Call (.Name "super" p0) [] [] p1) (ksEnv qual scope L fI (.ref cda) cc))
      standAt p2.atName
      let (f, first) ← holding [ov] (getMethod ov "__init__" pl)
      callWith p4 f first (backTo p4 (starEach [.Constant (.str msg) kk p3] (ksEnv qual scope L fI (.ref cda) cc))) []))
    (h : ∀ h' tk t1, (∀ b o, b ≠ x → s.heap.get? b = some o → h'.get? b = some o) → h'.get? x = some (excO C t1) → Q .next { s with heap := h', toks := tk }) :
    _root_.PySem.wpAt (model prog w) A (.func body (ksEnv qual scope L fI (.ref cda) cc)) (exec (.Expr (.Call (.Attribute (.Call (.Name "super" p0) [] [] p1) "__init__" p2) [.Constant (.str msg) kk p3] [] p4) p5) (ksEnv qual scope L fI (.ref cda) cc)) Q E s := by
  obtain ⟨nm, q, N, bs, bm, sn, sub, ab, col, dd, k0, k1, k2, k3, k5, hC, hbm⟩ := T.cls
  obtain ⟨cl, cld, csl, hcell⟩ := T.cell
  obtain ⟨ccl, cdd, vs, ccs, file, tf, hcode, hvs, hfile⟩ := T.code
  have hcl : clsIn K C = some { name := nm, bases := bs, mro := .ref C :: bm, ns := N, qualname := q, hasDict := true, slotNames := sn, subclasses := sub, abstract := ab, collection := col, hasDel := false } := by unfold clsIn; rw [hC] <;> rfl
  have hsu : alongIn K "__init__" ((Value.ref C :: bm).dropWhile (· != .ref C) |>.drop 1) = some (some (.builtin "ValueError.__init__")) := by
    have := T.sup
    unfold ks_superIn at this
    rw [hcl] at this
    exact this
  obtain ⟨hh, g, d, t, os⟩ := s
  have IA : InstAt hh x (excO C t0) C none := ⟨hx, rfl, rfl, trivial⟩
  have kself : (ksEnv qual scope L fI (.ref cda) cc).kindOf ar.arg = some .local := by
    rw [har]
    exact S.par me List.mem_cons_self
  have kd : (ksEnv qual scope L fI (.ref cda) cc).scope.kind = .function := S.kind
  refine ks_wpAt_Expr_any (ks_wpAt_MethodCall (pl := pl) ?_ he) (by simp [interactive, S.kind]) (by first | rfl | (unfold swapsWith; rfl))
  refine ks_wpAt_super_base (env := ksEnv qual scope L fI (.ref cda) cc) S.sup S.cls (by decide) rfl (X _ _ hf) rfl hp rfl (X _ _ hcode) rfl hvs hfile T.top ?_
  refine ks_loadName_global kd S.sup (loadGlobal_builtin (env := ksEnv qual scope L fI (.ref cda) cc) hG hsup hB (hBs.trans (by decide +kernel)) ⟨rfl, ?_⟩)
  refine wpAny_loadName_free kd S.cls rfl ⟨_, X _ _ hcell, rfl⟩ ?_
  refine wpAny_loadName_local kd kself hn (by rw [har]; exact hv) ?_
  refine ks_wpAny_isType_cls (X _ _ hC) rfl ⟨rfl, ?_⟩
  refine ks_wpAny_call_super (X _ _ hC) rfl hx rfl (fun c z => by cases z) (looks_mroIn X T.selfC) (fun h1 e1 k1' => ?_)
  have X1 : K.In h1 := X.keeps k1'
  have hx1 := k1' _ _ hx
  have IA1 : InstAt h1 x (excO C t0) C none := ⟨hx1, rfl, rfl, trivial⟩
  refine kxs_getMethod kxs_ValueError (l₀ := Value.ref C :: bm) e1 (looks_opaque X1 T.stat) (fun A Q E s k z => wpAny_bind ((looks_clsIn X1 hcl) A _ E s k (wpAny_pure z))) rfl X1 hsu (IA1.type.andThen (looks_subIn X1 T.veC)) (ks_ne X1 IA1 hcl) (by decide) ?_
  have up : ∀ b o, h1.get? b = some o → (h1.push (kxs_mw "ValueError.__init__" x)).get? b = some o := fun b o z => Heap.get?_push_of_some _ z
  have hx2 := up _ _ hx1
  have hu : (h1.push (kxs_mw "ValueError.__init__" x)).get? h1.objs.size = some (kxs_mw "ValueError.__init__" x) := Heap.get?_push_at rfl rfl
  refine kxs_callWith (i := "ValueError.__init__") (x := x) (by rfl) (Calls.evalArgs_plain ?_)
  show wpAny _ _ (spliced ((false, eval (.Constant (.str msg) kk p3) (ksEnv qual scope L fI (.ref cda) cc)) :: backTo p4 (starEach [] (ksEnv qual scope L fI (.ref cda) cc)))) _ _ _
  refine Calls.spliced_cons (Calls.Constant_str (Calls.spliced_nil ⟨hu, ?_⟩))
  refine wpAny_call (codeAny_of_tree ?_)
  show wpAny _ A.in1 (callAny (.ref h1.objs.size) ⟨[.str msg _], []⟩) _ _ _
  simp only [callAny]
  refine wpAny_bind (wpAny_load hu ?_)
  refine W.KFB.if_so (show (Value.type "method-wrapper" == Value.type "method" || Value.type "method-wrapper" == Value.type "builtin_function_or_method" || Value.type "method-wrapper" == Value.type "method-wrapper") = true by decide) ?_
  refine wpAny_bind (check_bound_init F.excBase_ValueError.toExcCallFacts (up _ _ (X1 _ _ hC)) hx2 rfl ?_)
  refine wpAny_bind (wpAny_pure (wpAny_pure ?_))
  refine ⟨plainId_quiet F.excBase_ValueError.init.plain _, codeAny_builtin F.excBase_ValueError.initEntry ?_⟩
  refine exc_init_tree (cls := .ref C) (t0 := t0) (dv := none) (c2 := .none) (c3 := .none) (b4 := .bool false) hx2 (by show 1 ≤ sizeLine; decide) fun h3 k3 e3 _ => ?_
  exact h h3 _ _ (fun b o hb z => k3 b o hb (up _ _ (k1' _ _ z))) e3

/-- a further field: the error has its own dict already -/
theorem osa_more {hp : Heap} {g : Array GenState} {d : Drawn} {t : Nat} {os : OsState} {name : Str} {tk : Tok} {v : Value} {x dx : Addr} {fv : Array Value} {cd : ClassData} {m0 : Str → Option Value} {nl : List Str} (X : K.In hp) (hx : hp.get? x = some { cls := .ref C, dict := some dx, data := .fields fv }) (hns : hp.Ns1 dx m0) (hw : Within m0 nl) (hz : nl.length ≤ 1000)
    (hcd : clsIn K C = some cd) (hm : refsVE cd.mro = true) (hh : cd.hasDict = true) (ha : findIn K (.ref C) name = some none)
    (hq : ∀ h' tk', (∀ b o, b ≠ dx → hp.get? b = some o → h'.get? b = some o) → h'.Ns1 dx (fun y => if y = name then some v else m0 y) → R (.ok (.ret .none)) ⟨h', g, d, tk', os⟩) :
    codeAny (model prog w) A (.call (.builtin "object.__setattr__") ⟨[.ref x, .str name tk, v], []⟩) R ⟨hp, g, d, t, os⟩ := by
  obtain ⟨oD, esD, epD, hoD, hdD, _⟩ := hns.count hw
  have I : InstAt hp x { cls := .ref C, dict := some dx, data := .fields fv } C (some oD) := ⟨hx, rfl, rfl, hoD⟩
  have SF := F.store_object
  have hob : cd.mro.contains (.type "object") = true := (refsVE_contains "object" _ hm).trans (by decide +kernel)
  have sub : Looks (model prog w) hp (isInstance (.ref x) (.type "object")) true := I.type.andThen (looks_mroIn X (by
    unfold mroIn
    rw [hcd, Option.bind_some, if_neg (by rw [refsVE_ne hm]; decide), hob]))
  refine codeAny_call_builtin SF.slot.plain SF.entry ?_
  refine @check_slot (model prog w) _ _ ⟨hp, g, d, t, os⟩ "object.__setattr__" "object" "__setattr__" (.ref x) [.str name tk, v] [] _ SF.kind SF.split sub (SF.args (.ref x) (.str name tk) v) ?_
  have hmr : Looks (model prog w) hp (mroOf (.ref C)) cd.mro := (looks_clsIn X hcd).andThen .now
  have hst : Looks (model prog w) hp (Builtin.ObjectAttr.storeTaker? none) none := .now
  have hcls : Looks (model prog w) hp (classData C) cd := looks_clsIn X hcd
  rw [osa_eq, refuse_eq]
  refine wpAny_bind (wpAny_bind (I.type.at (wpAny_bind (hmr.at ?_))))
  rw [refsVE_pass _ _ hm]
  refine wpAny_pure (wpAny_bind (I.type.at (wpAny_bind ((looks_findIn X ha).at (wpAny_bind (hst.at ?_))))))
  show wpAny _ _ (Builtin.ObjectAttr.storeInOwnDict (.ref x) (.ref C) (.str name tk) name v false) _ _ _
  obtain ⟨nm, bs, mro, ns, qn, hd, sn, sb, ab, col, del⟩ := cd
  dsimp only at hh
  subst hh
  unfold Builtin.ObjectAttr.storeInOwnDict Builtin.ObjectAttr.ownDictForStores
  repeat (first | with_reducible refine ESX.store_in_old hns hw hz ?_ | with_reducible refine wpAny_loadPart_at hx ?_ | with_reducible refine hcls.at ?_ | wp_step)
  intro h' tk' hn' hs
  exact hq h' tk' (fun b o hb ho => (hs.2 b hb).trans ho) hn'
/-- the fields' stores -/
def storeS (me : Str) : List (Str × Str × Pos × Pos × Pos × Pos) → List Stmt
  | [] => []
  | (f, p, a, b, c, d) :: r => .Assign [.Attribute (.Name me a) f b] (.Name p c) d :: storeS me r
/-- what the fields hold, the last store first -/
def heldF (m0 : Str → Option Value) (m : Str → Option Value) : List (Str × Str × Pos × Pos × Pos × Pos) → (Str → Option Value)
  | [] => m0
  | (f, p, _, _, _, _) :: r => heldF (fun y => if y = f then m p else m0 y) m r
theorem stores_more {m : Str → Option Value} {x : Addr} {fv : Array Value} {me : Str} {ps : List Str} {env : Env} (T : XCls prog K C fI cc cda) (S : XSc scope me ps) (hsc : env.scope = scope) (hloc : env.locals = L) (hv : m me = some (.ref x)) : ∀ (l : List (Str × Str × Pos × Pos × Pos × Pos)) (s : Shared) (dx : Addr) (m0 : Str → Option Value) (nl : List Str) {Q : Flow → Shared → Prop}, K.In s.heap → s.heap.Ns L m → s.heap.get? x = some { cls := .ref C, dict := some dx, data := .fields fv } → s.heap.Ns1 dx m0 → Within m0 nl → nl.length + l.length ≤ 1000 →
    (∀ q ∈ l, q.2.1 ∈ ps ∧ (∃ u, m q.2.1 = some u) ∧ findIn K (.ref C) q.1 = some none ∧ (q.2.1 == ("__debug__" : Str)) = false) → (me == ("__debug__" : Str)) = false → L ≠ dx → K.lookup dx = none → x ≠ dx →
    (∀ h' tk, (∀ b o, b ≠ dx → s.heap.get? b = some o → h'.get? b = some o) → h'.Ns1 dx (heldF m0 m l) → Q .next { s with heap := h', toks := tk }) →
    wpAny (model prog w) A (execs (storeS me l) env) Q E s
  | [], s, dx, m0, nl, Q, _, _, _, hns, _, _, _, _, _, _, _, h => by
    refine wpAny_execs_nil ?_
    have := h s.heap s.toks (fun _ _ _ z => z) hns
    exact this
  | (f, p, a, b, c, d) :: r, s, dx, m0, nl, Q, X, hn, hx, hns, hw, hz, hl, hd, hLd, hKd, hxd, h => by
    obtain ⟨hp, ⟨u, hu⟩, hno, hpd⟩ := hl (f, p, a, b, c, d) List.mem_cons_self
    dsimp only at hp hu hno hpd
    obtain ⟨nm, q, N, bs, bm, sn, sub, ab, col, dd, k0, k1, k2, k3, k5, hC, hbm⟩ := T.cls
    have hcl : clsIn K C = some { name := nm, bases := bs, mro := .ref C :: bm, ns := N, qualname := q, hasDict := true, slotNames := sn, subclasses := sub, abstract := ab, collection := col, hasDel := false } := by unfold clsIn; rw [hC] <;> rfl
    have kp : env.kindOf p = some .local := by
      unfold Env.kindOf
      rw [hsc]
      exact S.par p (List.mem_cons_of_mem _ hp)
    have km : env.kindOf me = some .local := by
      unfold Env.kindOf
      rw [hsc]
      exact S.par me List.mem_cons_self
    have kd : env.scope.kind = .function := by rw [hsc]; exact S.kind
    rw [← hloc] at hn
    obtain ⟨hh, g, dr, t, os⟩ := s
    obtain ⟨oD, esD, epD, hoD, _⟩ := id hns
    refine wpAny_execs_cons (plainObj_wpAny_Assign_Attribute ?_)
    refine ESX.ldL hn hu (ESX.ldL hn hv ?_ kd km hd) kd kp hpd
    refine set_plain X (ox := { cls := .ref C, dict := some dx, data := .fields fv }) (od := some oD) ⟨hx, rfl, rfl, hoD⟩ T.sa ?_
    refine osa_more X hx hns hw (by rw [List.length_cons] at hz; omega) hcl (show refsVE (.ref C :: bm) = true from hbm) rfl hno (fun h' tk' kk hn' => ?_)
    refine stores_more T S hsc hloc hv r ⟨h', g, dr, tk', os⟩ dx _ (f :: nl) (fun b o e => kk b o (fun z => by rw [z, hKd] at e; cases e) (X b o e)) ?_ (kk _ _ hxd hx) hn' (Within.cons f u hw) (by rw [List.length_cons] at hz ⊢; omega) (fun q hq => hl q (List.mem_cons_of_mem _ hq)) hd hLd hKd hxd fun h'' tk'' k2 n2 => ?_
    · obtain ⟨oL, es, ep, hoL, rr⟩ := hn
      rw [hloc] at hoL
      exact ⟨oL, es, ep, kk _ _ hLd hoL, rr⟩
    · refine h h'' tk'' (fun b o hb z => k2 b o hb (kk b o hb z)) ?_
      show h''.Ns1 dx (heldF (fun y => if y = f then m p else m0 y) m r)
      rw [hu]
      exact n2

/-- what is left behind an error's making -/
structure XMade (h h' : Heap) (x C : Addr) (d : Option Addr) (mf : Str → Option Value) : Prop where
  keep : ∀ b o, b ≠ x → h.get? b = some o → h'.get? b = some o
  obj : ∃ t1, h'.get? x = some { cls := .ref C, dict := d, data := .fields #[.ref t1, .none, .none, .none, .bool false, .none] }
  dd : ∀ dx, d = some dx → h.objs.size ≤ dx ∧ dx ≠ x ∧ h'.Ns1 dx mf
/-- the text of an __init__: super().__init__(msg), then the stores -/
structure XIni (prog : Program) (K : Frag) (fI cc cda : Addr) (me : Str) (ps : List Str) (l : List (Str × Str × Pos × Pos × Pos × Pos)) : Prop where
  fn : ∃ (qual : Str) (params : Arguments) (scope : Scope) (oc : Value) (od : Option Addr) (osl : Array (Option Value)) (kV doc pm ct : Value) (an : Option Addr) (p0 p1 p2 p3 p4 p5 : Pos) (msg : Str) (kk : Nat) (ar : Arg),
    K.lookup fI = some ⟨oc, od, .func (ksFn "__init__" qual params (.Expr (.Call (.Attribute (.Call (.Name "super" p0) [] [] p1) "__init__" p2) [.Constant (.str msg) kk p3] [] p4) p5 :: storeS me l) scope .none kV doc pm an (.ref cda) ct cc), osl⟩ ∧ codeIn K (.ref cda) qual = true ∧ XSc scope me ps ∧
      (params.posonlyargs ++ params.args).head? = some ar ∧ ar.arg = me ∧ (∀ (s : Shared) (us : List Value), us.length = ps.length + 1 → BindsTo s (ksFn "__init__" qual params (.Expr (.Call (.Attribute (.Call (.Name "super" p0) [] [] p1) "__init__" p2) [.Constant (.str msg) kk p3] [] p4) p5 :: storeS me l) scope .none kV doc pm an (.ref cda) ct cc) ⟨us, []⟩ ((me :: ps).zip us)) ∧
      ∀ L, ∃ pl : Sem Bool, eval (.Call (.Attribute (.Call (.Name "super" p0) [] [] p1) "__init__" p2) [.Constant (.str msg) kk p3] [] p4) (ksEnv qual scope L fI (.ref cda) cc) = (do
        let ov ← attributeBase (.Call (.Name "super" p0) [] [] p1) "__init__" (ksEnv qual scope L fI (.ref cda) cc) (eval (.Call (.Name "super" p0) [] [] p1) (ksEnv qual scope L fI (.ref cda) cc))
        standAt p2.atName
        let (f, first) ← holding [ov] (getMethod ov "__init__" pl)
        callWith p4 f first (backTo p4 (starEach [.Constant (.str msg) kk p3] (ksEnv qual scope L fI (.ref cda) cc))) [])
  fld : ∀ q ∈ l, q.2.1 ∈ ps ∧ (q.2.1 == ("__debug__" : Str)) = false
  me0 : (me == ("__debug__" : Str)) = false
  nd : (me :: ps).Nodup
  few : l.length ≤ 100
theorem lookup_zip {α : Type} : ∀ {N : List Str} {us : List α} {i : Nat} {x : Str} {u : α}, N.Nodup → N[i]? = some x → us[i]? = some u → (N.zip us).reverse.lookup x = some u := by
  intro N
  induction N with
  | nil =>
    intro us i x u _ h
    simp at h
  | cons n N ih =>
    intro us i x u nd h1 h2
    cases us with
    | nil => simp at h2
    | cons v us =>
      rw [List.zip_cons_cons, List.reverse_cons, List.lookup_append]
      cases i with
      | zero =>
        simp at h1 h2
        subst h1 h2
        have : (N.zip us).reverse.lookup n = none := by
          rw [List.lookup_eq_none_iff]
          intro p hp
          have := (List.of_mem_zip (List.mem_reverse.mp hp)).1
          have hn := (List.nodup_cons.mp nd).1
          have ne : n ≠ p.1 := fun z => hn (z ▸ this)
          simpa using ne
        rw [this]
        simp [List.lookup]
      | succ i =>
        rw [ih (List.nodup_cons.mp nd).2 (by simpa using h1) (by simpa using h2)]
        rfl
theorem xc_init {me : Str} {ps : List Str} {l : List (Str × Str × Pos × Pos × Pos × Pos)} {mg mb : Str → Option Value} {x t0 : Addr} {us : List Value} (T : XCls prog K C fI cc cda) (Y : XIni prog K fI cc cda me ps l) (X : K.In s.heap) (hlim : s.heap.NoLimit) (hG : s.heap.Ns mainGlobals mg) (hsup : mg "super" = none) (hB : s.heap.Ns builtinsNs mb) (hBs : mb "super" = bootBuiltins "super")
    (hno : ∀ q ∈ l, findIn K (.ref C) q.1 = some none) (hx : s.heap.get? x = some (excO C t0)) (hKx : K.lookup x = none) (hroom : A.depth < recursionLimit) (hl : us.length = ps.length)
    (hq : ∀ h' tk d, XMade s.heap h' x C d (heldF (fun _ => none) (fun y => ((me :: ps).zip (.ref x :: us)).reverse.lookup y) l) → (d = none ↔ l = []) → R (.ok (.ret .none)) { s with heap := h', toks := tk }) :
    codeAny (model prog w) A (.call (.ref fI) ⟨.ref x :: us, []⟩) R s := by
  obtain ⟨qual, params, scope, oc, od, osl, kV, doc, pm, ct, an, p0, p1, p2, p3, p4, p5, msg, kk, ar, hf, hcd, S, har1, har2, hbind, hev⟩ := Y.fn
  obtain ⟨pl, he⟩ := hev s.heap.objs.size
  have zl : (.ref x :: us : List Value).length = ps.length + 1 := by rw [List.length_cons, hl]
  have look : ∀ i y u, (me :: ps)[i]? = some y → (.ref x :: us : List Value)[i]? = some u → ((me :: ps).zip (.ref x :: us)).reverse.lookup y = some u := fun i y u h1 h2 => lookup_zip Y.nd h1 h2
  refine ks_codeAny_call_defAt (body := .Expr (.Call (.Attribute (.Call (.Name "super" p0) [] [] p1) "__init__" p2) [.Constant (.str msg) kk p3] [] p4) p5 :: storeS me l) (binds := (me :: ps).zip (.ref x :: us)) hroom (X _ _ hf) rfl hlim (codeRec_of X hcd) rfl (hbind s _ zl) S.nocell (fun y hy => S.par y.1 (List.of_mem_zip hy).1) (fun h0 hns k0 => ?_) S.co S.gen S.kind
  have X0 : K.In h0 := X.keeps k0
  have hx0 := k0 _ _ hx
  have hLx : s.heap.objs.size ≠ x := Nat.ne_of_gt (Heap.lt_size hx)
  refine ks_wpAt_execs_cons (super_stmt (s := { s with heap := h0, toks := s.toks + ((me :: ps).zip (.ref x :: us)).length }) T S X0 hns (hG.keeps k0) hsup (hB.keeps k0) hBs hf har1 har2 (look 0 me _ rfl rfl) hx0 hLx he fun h1 tk1 t1 k1 e1 => ?_)
  refine wpAt_of_wpAny ?_
  have k01 : ∀ b o, b ≠ x → s.heap.get? b = some o → h1.get? b = some o := fun b o hb z => k1 b o hb (k0 b o z)
  have X1 : K.In h1 := fun b o e => k1 b o (fun z => by rw [z, hKx] at e; cases e) (X0 b o e)
  have ns1 : h1.Ns s.heap.objs.size (fun y => ((me :: ps).zip (.ref x :: us)).reverse.lookup y) := by
    obtain ⟨o, es, ep, ho, r⟩ := hns
    exact ⟨o, es, ep, k1 _ _ hLx ho, r⟩
  have val : ∀ q ∈ l, ∃ u, ((me :: ps).zip (.ref x :: us)).reverse.lookup q.2.1 = some u := fun q hq' => by
    obtain ⟨i, hi⟩ := List.mem_iff_getElem?.mp (List.mem_cons_of_mem me (Y.fld q hq').1)
    have hlt : i < (.ref x :: us : List Value).length := by
      have := (List.getElem?_eq_some_iff.mp hi).1
      rw [zl]
      simpa using this
    exact ⟨_, look i _ _ hi (List.getElem?_eq_getElem hlt)⟩
  cases l with
  | nil =>
    refine wpAny_execs_nil ?_
    exact hq h1 tk1 none ⟨k01, ⟨t1, e1⟩, fun dx z => by cases z⟩ ⟨fun _ => rfl, fun _ => rfl⟩
  | cons q r =>
    obtain ⟨f, p, a, b, c, d⟩ := q
    obtain ⟨hp, hpd⟩ := Y.fld (f, p, a, b, c, d) List.mem_cons_self
    obtain ⟨u, hu⟩ := val (f, p, a, b, c, d) List.mem_cons_self
    dsimp only at hp hpd hu
    obtain ⟨nm, q, N, bs, bm, sn, sub, ab, col, dd, k0', k1', k2, k3, k5, hC, hbm⟩ := T.cls
    have hcl : clsIn K C = some { name := nm, bases := bs, mro := .ref C :: bm, ns := N, qualname := q, hasDict := true, slotNames := sn, subclasses := sub, abstract := ab, collection := col, hasDel := false } := by unfold clsIn; rw [hC] <;> rfl
    obtain ⟨hh, g, dr, t, os⟩ := s
    refine wpAny_execs_cons (plainObj_wpAny_Assign_Attribute ?_)
    refine ESX.ldL (env := ksEnv qual scope hh.objs.size fI (.ref cda) cc) ns1 hu (ESX.ldL (env := ksEnv qual scope hh.objs.size fI (.ref cda) cc) ns1 (look 0 me _ rfl rfl) ?_ S.kind (S.par me List.mem_cons_self) Y.me0) S.kind (S.par p (List.mem_cons_of_mem _ hp)) hpd
    refine set_plain X1 (ox := excO C t1) (od := none) ⟨e1, rfl, rfl, trivial⟩ T.sa ?_
    refine exc_osa X1 e1 hcl (show refsVE (.ref C :: bm) = true from hbm) rfl (hno (f, p, a, b, c, d) List.mem_cons_self) (fun h2 tk2 dx kk2 dn dne hx2 hn2 => ?_)
    have hs1 : hh.objs.size < h1.objs.size := ns1.lt
    have dn' : h1.objs.size ≤ dx := dn
    have hlt : hh.objs.size < dx := Nat.lt_of_lt_of_le hs1 dn'
    have hLd : hh.objs.size ≠ dx := Nat.ne_of_lt hlt
    refine stores_more (L := hh.objs.size) (env := ksEnv qual scope hh.objs.size fI (.ref cda) cc) (m := fun y => ((me :: ps).zip (.ref x :: us)).reverse.lookup y) T S rfl rfl (look 0 me _ rfl rfl) r ⟨h2, g, dr, tk2, os⟩ dx _ [f] (fun b o e => kk2 b o (fun z => by rw [z, hKx] at e; cases e) (X1 b o e)) ?_ hx2 hn2 (Within.cons f u Within.nil) (by have := Y.few; rw [List.length_cons] at this; simp only [List.length_cons, List.length_nil]; omega)
      (fun q hq' => ⟨(Y.fld q (List.mem_cons_of_mem _ hq')).1, val q (List.mem_cons_of_mem _ hq'), hno q (List.mem_cons_of_mem _ hq'), (Y.fld q (List.mem_cons_of_mem _ hq')).2⟩) Y.me0 hLd ?_ (Ne.symm dne) fun h3 tk3 kk3 hn3 => ?_
    · obtain ⟨o, es, ep, ho, rr⟩ := ns1
      exact ⟨o, es, ep, kk2 _ _ hLx ho, rr⟩
    · cases e : K.lookup dx with
      | none => rfl
      | some o =>
        exact absurd (Nat.lt_of_lt_of_le (Heap.lt_size (X1 _ _ e)) dn') (Nat.lt_irrefl _)
    · refine hq h3 tk3 (some dx) ⟨fun b o hb z => kk3 b o (fun y => ?_) (kk2 b o hb (k01 b o hb z)), ⟨t1, kk3 _ _ (Ne.symm dne) hx2⟩, fun dx' z => ?_⟩ ⟨(fun z => nomatch z), (fun z => nomatch z)⟩
      · have := Heap.lt_size z
        rw [y] at this
        exact absurd (Nat.lt_trans this hlt) (Nat.lt_irrefl _)
      · cases z
        refine ⟨Nat.le_of_lt hlt, dne, ?_⟩
        show h3.Ns1 dx (heldF (fun y => if y = f then ((me :: ps).zip (.ref x :: us)).reverse.lookup p else none) _ r)
        rw [hu]
        exact hn3
end
end At

/-! Errors in expressions: made, raised, their fields, their kinds. -/
namespace At
open PySem L2 Evl
open PySem.W PySem.Calls PyProof.Rows PySem.HandSPX

section
variable {prog : Program} {w : World} {A : Around} {E : Value → Shared → Prop} {R : Result → Shared → Prop} {s : Shared} {K : Frag} {C fI cc cda : Addr}
theorem xc_made {me : Str} {ps : List Str} {l : List (Str × Str × Pos × Pos × Pos × Pos)} {mg mb : Str → Option Value} {us : List Value} (T : XCls prog K C fI cc cda) (Y : XIni prog K fI cc cda me ps l) (X : K.In s.heap) (hlim : s.heap.NoLimit) (hG : s.heap.Ns mainGlobals mg) (hsup : mg "super" = none) (hB : s.heap.Ns builtinsNs mb) (hBs : mb "super" = bootBuiltins "super")
    (hno : ∀ q ∈ l, findIn K (.ref C) q.1 = some none) (hroom : A.depth + 1 < recursionLimit) (hl : us.length = ps.length) (hz : us.length ≤ sizeLine)
    (hq : ∀ h' tk x d, s.heap.objs.size < x → (∀ b o, s.heap.get? b = some o → h'.get? b = some o) → (∃ t1, h'.get? x = some { cls := .ref C, dict := d, data := .fields #[.ref t1, .none, .none, .none, .bool false, .none] }) →
      (∀ dx, d = some dx → s.heap.objs.size ≤ dx ∧ dx ≠ x ∧ h'.Ns1 dx (heldF (fun _ => none) (fun y => ((me :: ps).zip (.ref x :: us)).reverse.lookup y) l)) → (d = none ↔ l = []) → R (.ok (.ret (.ref x))) { s with heap := h', toks := tk }) :
    codeAny (model prog w) A (.call (.ref C) ⟨us, []⟩) R s := by
  obtain ⟨nm, q, N, bs, bm, sn, sub, ab, col, dd, k0, k1, k2, k3, k5, hC, hbm⟩ := T.cls
  obtain ⟨hp, g, dr, tk, os⟩ := s
  have up : ∀ b o, hp.get? b = some o → ((hp.push (kdv_tup us)).push (excO C hp.objs.size)).get? b = some o := fun b o e => Heap.get?_push_of_some _ (Heap.get?_push_of_some _ e)
  have hget : ((hp.push (kdv_tup us)).push (excO C hp.objs.size)).get? (hp.objs.size + 1) = some (excO C hp.objs.size) := by heap_get
  have hnx : K.lookup (hp.objs.size + 1) = none := by
    cases e : K.lookup (hp.objs.size + 1) with
    | none => rfl
    | some o =>
      have z : hp.get? (hp.objs.size + 1) = some o := X _ _ e
      exact absurd (Nat.lt_of_succ_lt (Heap.lt_size z)) (Nat.lt_irrefl _)
  refine call_own F.excBase_ValueError (fun X => refsVE_contains X bm hbm) (X _ _ hC) (looks_findIn X T.iC) (fun self => bind_fn X self T.tC) hz ?_
  refine xc_init (s := ⟨(hp.push (kdv_tup us)).push (excO C hp.objs.size), g, dr, tk, os⟩) T Y (X.keeps up) (hlim.keeps up) (hG.keeps up) hsup (hB.keeps up) hBs hno hget hnx (by show A.depth + 1 < recursionLimit; exact hroom) hl fun h' tk' d M hd => ?_
  have sz : ((hp.push (kdv_tup us)).push (excO C hp.objs.size)).objs.size = hp.objs.size + 1 + 1 := by rw [Heap.size_push, Heap.size_push]
  refine ⟨rfl, hq h' tk' (hp.objs.size + 1) d (Nat.lt_succ_self _) (fun b o e => M.keep b o (Nat.ne_of_lt (Nat.lt_succ_of_lt (Heap.lt_size e))) (up b o e)) M.obj (fun dx z => ?_) hd⟩
  obtain ⟨h1, h2, h3⟩ := M.dd dx z
  have h1' : hp.objs.size + 1 + 1 ≤ dx := by
    rw [← sz]
    exact h1
  exact ⟨Nat.le_trans (Nat.le_trans (Nat.le_succ _) (Nat.le_succ _)) h1', h2, h3⟩
end

/-- the fields and the parameters of an error go side by side -/
structure XFld (l : List (Str × Str × Pos × Pos × Pos × Pos)) (ps fs : List Str) : Prop where
  par : l.map (·.2.1) = ps
  fld : l.map (·.1) = fs
  nd : fs.Nodup
theorem held_out {m0 m : Str → Option Value} {f : Str} : ∀ (l : List (Str × Str × Pos × Pos × Pos × Pos)), f ∉ l.map (·.1) → heldF m0 m l f = m0 f := by
  intro l
  induction l generalizing m0 with
  | nil => intro _; rfl
  | cons q r ih =>
    obtain ⟨g, p, a, b, c, d⟩ := q
    intro h
    simp only [List.map_cons, List.mem_cons, not_or] at h
    show heldF (fun y => if y = g then m p else m0 y) m r f = m0 f
    rw [ih h.2, if_neg h.1]
theorem held_rel {m : Str → Option Value} : ∀ (l : List (Str × Str × Pos × Pos × Pos × Pos)) (m0 : Str → Option Value) (vs : List V) (us : List Value) (pre : List (Str × V)), (l.map (·.1)).Nodup → Vals vs us → l.length = vs.length → (∀ (i : Nat) (q : Str × Str × Pos × Pos × Pos × Pos) (u : Value), l[i]? = some q → us[i]? = some u → m q.2.1 = some u) →
    (∀ f, f ∉ l.map (·.1) → RelO (pre.lookup f) (m0 f)) → (∀ f ∈ l.map (·.1), pre.lookup f = none) → ∀ f, RelO (((l.map (·.1)).zip vs ++ pre).lookup f) (heldF m0 m l f) := by
  intro l
  induction l with
  | nil =>
    intro m0 vs us pre _ _ hl _ h0 _ f
    cases vs with
    | nil => exact h0 f (by simp)
    | cons _ _ => cases hl
  | cons q r ih =>
    obtain ⟨g, p, a, b, c, d⟩ := q
    intro m0 vs us pre nd rv hl hm h0 h1 f
    cases rv with
    | nil => cases hl
    | cons rv rs =>
      rename_i v u vs us
      simp only [List.map_cons, List.nodup_cons] at nd
      have hp : m p = some u := hm 0 _ u rfl rfl
      have e1 : heldF m0 m ((g, p, a, b, c, d) :: r) = heldF (fun y => if y = g then m p else m0 y) m r := rfl
      rw [e1]
      by_cases hf : f = g
      · subst hf
        rw [held_out r nd.1, if_pos rfl, hp]
        show RelO (((f, v) :: (((r.map (·.1)).zip vs) ++ pre)).lookup f) (some u)
        simp only [List.lookup, beq_self_eq_true]
        exact rv
      · have hn : ((f == g) : Bool) = false := by simpa using hf
        show RelO (((g, v) :: (((r.map (·.1)).zip vs) ++ pre)).lookup f) _
        simp only [List.lookup, hn]
        have key := ih (fun y => if y = g then none else m0 y) vs us pre nd.2 rs (by simpa using hl) (fun i q u h2 h3 => hm (i + 1) q u (by simpa using h2) (by simpa using h3)) (fun f' hf' => ?_) (fun f' hf' => h1 f' (by simp only [List.map_cons, List.mem_cons]; exact .inr hf')) f
        · have e2 : heldF (fun y => if y = g then none else m0 y) m r f = heldF (fun y => if y = g then m p else m0 y) m r f := by
            by_cases hr : f ∈ r.map (·.1)
            · have same : ∀ (r : List (Str × Str × Pos × Pos × Pos × Pos)) (a b : Str → Option Value), a f = b f → heldF a m r f = heldF b m r f := by
                intro r
                induction r with
                | nil => intro a b h; exact h
                | cons q r ih2 =>
                  obtain ⟨g', p', a', b', c', d'⟩ := q
                  intro a b h
                  refine ih2 _ _ ?_
                  show (if f = g' then m p' else a f) = (if f = g' then m p' else b f)
                  rw [h]
              refine same r _ _ ?_
              show (if f = g then none else m0 f) = (if f = g then m p else m0 f)
              rw [if_neg hf, if_neg hf]
            · rw [held_out r hr, held_out r hr, if_neg hf, if_neg hf]
          rw [← e2]
          exact key
        · by_cases hg : f' = g
          · subst hg
            rw [if_pos rfl, h1 f' (by simp)]
            trivial
          · rw [if_neg hg]
            exact h0 f' (by simp only [List.map_cons, List.mem_cons, not_or]; exact ⟨hg, hf'⟩)

/-- an error's class as the text has it -/
structure XOk (prog : Program) (K : Frag) (mg : Str → Option Value) (x : Str) (C : Addr) (ps fs : List Str) : Prop where
  gC : mg x = some (.ref C)
  sup : mg "super" = none
  kC : keepIn K (.ref C) = true
  exC : subIn K (.ref C) (.type "BaseException") = some true
  tyC : typeIn K (.ref C) = some (.type "type")
  few : ps.length ≤ 100
  to : ∃ fI cc cda me l, XCls prog K C fI cc cda ∧ XIni prog K fI cc cda me ps l ∧ XFld l ps fs ∧ ∀ f ∈ fs, findIn K (.ref C) f = some none
section
variable {X : Cx} {pins : List (Addr × Obj)} {σ : L2.St} {H : Hp} {s : Shared} {x : Str} {C : Addr} {ps fs : List Str}
/-- the call of the class, by values -/
theorem xmake_run {vs : List V} {us : List Value} {Q : Value → Shared → Prop} {k : Nat} (Z : XOk X.prog X.K X.mg x C ps fs) (hr : Room k X.A) (I : Inv X pins σ H s) (rv : Vals vs us) (hl : vs.length = ps.length)
    (hq : ∀ h' tk a d, s.heap.objs.size < a → (∀ b o, s.heap.get? b = some o → h'.get? b = some o) → (∃ t1, h'.get? a = some { cls := .ref C, dict := d, data := .fields #[.ref t1, .none, .none, .none, .bool false, .none] }) →
      (∀ dx, d = some dx → s.heap.objs.size ≤ dx ∧ dx ≠ a ∧ ∃ mA, h'.Ns1 dx mA ∧ ∀ f, RelO ((fs.zip vs).lookup f) (mA f)) → (d = none ↔ fs = []) → Q (.ref a) { s with heap := h', toks := tk }) :
    wpAny (model X.prog X.w) X.A (call (.ref C) us) Q X.xe s := by
  obtain ⟨fI, cc, cda, me, l, T, Y, Fd, hno⟩ := Z.to
  obtain ⟨mb, h1, h2⟩ := I.mod.blt
  have hlu : us.length = ps.length := by rw [← rv.length]; exact hl
  have hll : l.length = vs.length := by rw [hl, ← Fd.par, List.length_map]
  have hroom := hr.dp
  refine wpAny_call (xc_made (mg := X.mg) (mb := mb) T Y I.kIn I.nolimit (I.mod.glob.keeps I.bk) Z.sup (h1.keeps I.bk) (h2 _ (by decide)) (fun q hq' => hno q.1 (by rw [← Fd.fld]; exact List.mem_map_of_mem hq')) (by omega) hlu (by have := Z.few; rw [hlu]; exact Nat.le_trans this (by decide)) fun h' tk a d ha k ho hd he => ?_)
  refine hq h' tk a d ha k ho (fun dx z => ?_) ?_
  · obtain ⟨g1, g2, g3⟩ := hd dx z
    refine ⟨g1, g2, _, g3, fun f => ?_⟩
    have key := held_rel (m := fun y => ((me :: ps).zip (.ref a :: us)).reverse.lookup y) l (fun _ => none) vs us [] (by rw [Fd.fld]; exact Fd.nd) rv hll (fun i q u hi hu => ?_) (fun f _ => trivial) (fun f _ => rfl) f
    · rw [List.append_nil, Fd.fld] at key
      exact key
    · refine lookup_zip (i := i + 1) Y.nd ?_ (by simpa using hu)
      show ps[i]? = some q.2.1
      rw [← Fd.par, List.getElem?_map, hi]
      rfl
  · rw [he, ← Fd.fld]
    cases l <;> simp
/-- an error made as a value -/
def tXMk (C : Addr) (ps fs : List Str) (t : TA) : TE := fun σ H Q => t σ H fun vs H1 => vs.length = ps.length ∧
  (fs = [] → ∀ a, H1 a = none → Q (.ref a) (upd H1 a (ExO (.ref C) a))) ∧ (fs ≠ [] → ∀ a d, H1 a = none → H1 d = none → d ≠ a → Q (.ref a) (upd (upd H1 d (.xd (fs.zip vs))) a (XO (.ref C) d a)))
theorem xval_end {vs : List V} {us : List Value} {Q : VK} {k : Nat} (Z : XOk X.prog X.K X.mg x C ps fs) (hr : Room k X.A) (I : Inv X pins σ H s) (rv : Vals vs us) (hl : vs.length = ps.length)
    (q0 : fs = [] → ∀ a, H a = none → Q (.ref a) (upd H a (ExO (.ref C) a))) (q1 : fs ≠ [] → ∀ a d, H a = none → H d = none → d ≠ a → Q (.ref a) (upd (upd H d (.xd (fs.zip vs))) a (XO (.ref C) d a))) : wpAny (model X.prog X.w) X.A (call (.ref C) us) (EP X pins σ Q) X.xe s := by
  refine xmake_run Z hr I rv hl fun h' tk a d ha k ⟨t1, ho⟩ hd he => ?_
  have hna : H a = none := I.hok.fresh (Nat.le_of_lt ha)
  cases d with
  | none =>
    have hfs : fs = [] := he.mp rfl
    have ok : ObjOk X.prog X.w (upd H a (ExO (.ref C) a)) h' a (ExO (.ref C) a) := exO_ok ho ⟨rfl, rfl⟩ rfl rfl rfl (show 4 < 6 by decide)
    exact ⟨.ref a, _, I.laid (t' := tk) k (Nat.le_of_lt ha) ok, rfl, q0 hfs a hna⟩
  | some dx =>
    obtain ⟨g1, g2, mA, g3, g4⟩ := hd dx rfl
    have hfs : fs ≠ [] := fun z => by
      have := he.mpr z
      cases this
    have hnd : H dx = none := I.hok.fresh g1
    have ok1 : ObjOk X.prog X.w (upd H dx (.xd (fs.zip vs))) h' dx (.xd (fs.zip vs)) := ⟨mA, g3, g4⟩
    have hne : ∀ b o, s.heap.get? b = some o → b ≠ dx ∧ b ≠ a := fun b o e => ⟨fun z => by
      have := Heap.lt_size e
      rw [z] at this
      exact absurd (Nat.lt_of_lt_of_le this g1) (Nat.lt_irrefl _), fun z => by
      have := Heap.lt_size e
      rw [z] at this
      exact absurd (Nat.lt_trans this ha) (Nat.lt_irrefl _)⟩
    have h1 : ∀ b o, H b = some o → upd (upd H dx (.xd (fs.zip vs))) a (XO (.ref C) dx a) b = H b := fun b o e => by
      rw [upd_ne (ne_of_none e hna), upd_ne (ne_of_none e hnd)]
    have k1 := I.hok.laid k g1 ok1
    have hna1 : upd H dx (.xd (fs.zip vs)) a = none := by rw [upd_ne (Ne.symm g2), hna]
    have ok2 : ObjOk X.prog X.w (upd (upd H dx (.xd (fs.zip vs))) a (XO (.ref C) dx a)) h' a (XO (.ref C) dx a) := ⟨⟨_, _, ho, ⟨rfl, rfl⟩, rfl, rfl, rfl, show 4 < 6 by decide⟩, ⟨_, ho⟩, fun _ _ ⟨o, v, q, r⟩ k => ⟨o, v, k o q, r⟩⟩
    have k2 := k1.laidN (fun _ _ e => e) hna1 ok2
    refine ⟨.ref a, _, I.un (t' := tk) ?_ k2, rfl, q1 hfs a dx hna hnd g2⟩
    refine ⟨fun b u q _ _ _ => k b u q, fun b u q _ _ _ => ⟨u.slots, k b u q⟩, fun b u q n _ => ?_, fun b u q _ => ⟨u, k b u q⟩, fun b xs q => by rw [h1 _ _ q]; exact q, fun b u xs q => by rw [h1 _ _ q]; exact q, fun b ps q => ⟨#[], by rw [h1 _ _ q, q]; simp⟩⟩
    rw [upd_ne (hne b u q).2, upd_ne (hne b u q).1]
    exact n
end
end At

/-! Errors in expressions: made as values, their fields, their kinds. -/
namespace At
open PySem L2 Evl
open PySem.W PySem.Calls PyProof.Rows

def xmk (i : Nat) (fl : List Nat) (ds : List D) : P := if ds.length = fl.length then .ok (.obj i (fl.zip ds)) else .no
theorem rpf_zip {K : Fg} {T : Tb} {B : Hp} : ∀ {fl : List Nat} {vs : List V} {ds : List D}, Rps K T B vs ds → Rpf K T B ((fl.map T.fn).zip vs) (fl.zip ds)
  | [], _, _, _ => by simpa using Rpf.nil
  | _ :: _, _, _, .nil => by simpa using Rpf.nil
  | f :: fl, _, _, .cons r q => by
    rw [List.map_cons, List.zip_cons_cons, List.zip_cons_cons]
    exact .cons r (rpf_zip q)
theorem XOk.lens {prog : Program} {K : Frag} {mg : Str → Option Value} {x : Str} {C : Addr} {ps fs : List Str} (Z : XOk prog K mg x C ps fs) : ps.length = fs.length := by
  obtain ⟨_, _, _, _, l, _, _, Fd, _⟩ := Z.to
  rw [← Fd.par, ← Fd.fld, List.length_map, List.length_map]
/-- what is asked behind the arguments -/
def XEnd (C : Addr) (ps fs : List Str) (vs : List V) (H1 : Hp) (Q : VK) : Prop := vs.length = ps.length ∧
  (fs = [] → ∀ a, H1 a = none → Q (.ref a) (upd H1 a (ExO (.ref C) a))) ∧ (fs ≠ [] → ∀ a d, H1 a = none → H1 d = none → d ≠ a → Q (.ref a) (upd (upd H1 d (.xd (fs.zip vs))) a (XO (.ref C) d a)))

section
variable {X : Cx} {T : Tb} {C : CE} {W : WX} {J : Jt} {a b e : Expr} {a' b' e' : E} {es : List Expr} {es' : E} {pos : Pos}
theorem xread {i : Nat} {fl : List Nat} {x : Str} {ps fs : List Str} {σ : L2.St} {H : Hp} {π : Nat → Addr} {B : Hp} {m : Mu} {us : List U} {vs : List V} {Q : VK} (Z : XOk X.prog X.K X.mg x (cl X.K T i) ps fs) (hix : T.ix i = true) (hf : fl.map T.fn = fs) (hmk : C.mkr i = xmk i fl)
    (st : Sto X.K T π B H m) (r : Rus X.K T m.length π B vs us) (w : Want (RU X.K T) X.K T W σ π B H m (match plainU us with | some ds => fromP m (C.mkr i ds) | none => .no) Q) : XEnd (cl X.K T i) ps fs vs H Q := by
  cases e : plainU us with
  | none =>
    rw [e] at w
    exact w.elim
  | some ds =>
    rw [e] at w
    dsimp only at w
    rw [hmk] at w
    unfold xmk at w
    have rs := plainU_ok r e
    by_cases c : ds.length = fl.length
    · rw [if_pos c] at w
      have hl := Z.lens
      refine ⟨by rw [rs.len, c, hl, ← hf, List.length_map], fun h0 a ha => ?_, fun h0 a d ha hd ne => ?_⟩
      · have hfl : fl = [] := by
          rw [h0] at hf
          simpa using hf
        subst hfl
        have nw := New.one st.ex (p := a) (o := ExO (.ref (cl X.K T i)) a) ha
        exact w (.ref a) _ π _ (nw.step st) (.ex0 hix upd_same)
      · have nw := New.one st.ex (p := d) (o := .xd (fs.zip vs)) hd
        have s1 := nw.step st
        have ha1 : upd H d (.xd (fs.zip vs)) a = none := by rw [upd_ne (Ne.symm ne), ha]
        have nw2 := New.one s1.st.ex (p := a) (o := XO (.ref (cl X.K T i)) d a) ha1
        have s2 := nw2.step s1.st
        refine w (.ref a) _ π _ (s1.trans s2) (.exc hix upd_same (by rw [upd_ne ne]; exact upd_same) ?_)
        subst hf
        exact rpf_zip (rs.mono (nw.ex.trans nw2.ex))
    · rw [if_neg c] at w
      exact w.elim
theorem pd_makeX {k i : Nat} {fl : List Nat} {x : Str} {ps fs : List Str} {p : Pos} (hJ : Mono J) (Z : XOk X.prog X.K X.mg x (cl X.K T i) ps fs) (hix : T.ix i = true) (hf : fl.map T.fn = fs) (hmk : C.mkr i = xmk i fl) (hr : Room k X.A) (hg : Gl X x) (ha : PDs X T C W J (e :: es) es')
    (hdb : (x == ("__debug__" : Str)) = false := by decide) (he : starEach (e :: es) X.env = (false, eval e X.env) :: starEach es X.env := by rfl) (hpl : (backTo pos (starEach es X.env)).any (·.1) = false := by rfl) :
    PD X T C W J (.Call (.Name x p) (e :: es) [] pos) (.make i es') := by
  refine ⟨fun pins s σ H Q I h => ?_⟩
  obtain ⟨π, B, m, ρ, b, w⟩ := h
  rw [ev] at w
  refine wpAny_Call_Name_kw (ld_glob I hg Z.gC ?_ hdb)
  refine PySem.W.callWith_K (h₀ := X.base) I.ok.mod.kin Z.kC (thn (ha.run pos pins s σ H (fun vs H1 => XEnd (cl X.K T i) ps fs vs H1 Q) I (tEs_bnd hJ b w fun vs H1 π1 B1 m1 us s1 b1 r1 w1 => xread Z hix hf hmk b1.st r1 w1)) fun us s1 ⟨vs, H1, I1, r, q⟩ => ⟨I1.kIn, ?_⟩) he hpl
  exact xval_end Z hr I1 r q.1 q.2.1 q.2.2
theorem pd_makeX0 {k i : Nat} {fl : List Nat} {x : Str} {ps fs : List Str} {p : Pos} (hJ : Mono J) (Z : XOk X.prog X.K X.mg x (cl X.K T i) ps fs) (hix : T.ix i = true) (hf : fl.map T.fn = fs) (hmk : C.mkr i = xmk i fl) (hr : Room k X.A) (hg : Gl X x)
    (hdb : (x == ("__debug__" : Str)) = false := by decide) :
    PD X T C W J (.Call (.Name x p) [] [] pos) (.make i .nil) := by
  refine ⟨fun pins s σ H Q I h => ?_⟩
  obtain ⟨π, B, m, ρ, b, w⟩ := h
  rw [ev, evs] at w
  refine wpAny_Call_Name_kw (ld_glob I hg Z.gC ?_ hdb)
  have q := xread (us := []) Z hix hf hmk b.st .nil w
  exact PySem.W.callWith_K0 I.kIn Z.kC (xval_end Z hr I .nil q.1 q.2.1 q.2.2)

/-! ### fields -/
/-- the field f of the class's objects may be read -/
structure AtOk (K : Fg) (T : Tb) (c f : Nat) : Prop where
  no : findIn K (.ref (cl K T c)) (T.fn f) = some none
  inj : ∀ g, T.fn g = T.fn f → g = f
  xc : T.ix c = true → XfC K (cl K T c)
  ic : T.ix c = false → Cls K (cl K T c)
theorem rpf_look {K : Fg} {T : Tb} {B : Hp} {f : Nat} (inj : ∀ g, T.fn g = T.fn f → g = f) {d : D} : ∀ {fv : List (Str × V)} {fs : List (Nat × D)}, Rpf K T B fv fs → fs.lookup f = some d → ∃ v, fv.lookup (T.fn f) = some v ∧ Rp K T B v d
  | _, _, .nil, h => by cases h
  | _, _, .cons (f := g) r q, h => by
    rw [List.lookup_cons] at h ⊢
    by_cases c : f = g
    · subst c
      simp only [beq_self_eq_true] at h ⊢
      cases h
      exact ⟨_, rfl, r⟩
    · have h1 : (f == g) = false := by simpa using c
      have h2 : (T.fn f == T.fn g) = false := by
        rw [beq_eq_false_iff_ne]
        exact fun z => c (inj _ z.symm).symm
      rw [h1] at h
      rw [h2]
      exact rpf_look inj q h
theorem pd_attr {f : Nat} {n : Str} (hJ : Mono J) (hA : ∀ c, C.fld c f = true → AtOk X.K T c f) (he : PD X T C W J e e') (hn : T.fn f = n := by rfl) (hb : attributeBase e n X.env (eval e X.env) = eval e X.env := by rfl) : PD X T C W J (.Attribute e n pos) (.attr e' f) := by
  subst hn
  refine ⟨fun pins s σ H Q I h => ?_⟩
  obtain ⟨π, B, m, ρ, b, w⟩ := h
  rw [ev] at w
  refine attr_of hb (thn (he.run pins s σ H (fun v H1 => ∃ (c : Nat) (fs : List (Nat × D)) (d : D) (B1 : Hp), Ex B1 H1 ∧ Rq X.K T B1 H1 v (.obj c fs) ∧ C.fld c f = true ∧ fs.lookup f = some d ∧ ∀ u, Rp X.K T B1 u d → Q u H1) I (tE_bnd hJ b w fun v H1 π1 B1 m1 u s1 b1 r1 w1 => ?_)) fun u s1 hh => ?_)
  · cases hs : see m1 u with
    | none =>
      rw [hs] at w1
      exact w1.elim
    | some d0 =>
      rw [hs] at w1
      cases d0 with
      | obj c fs =>
        dsimp only at w1
        by_cases hc : C.fld c f = true
        · rw [if_pos hc] at w1
          cases hl : fs.lookup f with
          | none =>
            rw [hl] at w1
            exact w1.elim
          | some d =>
            rw [hl] at w1
            exact ⟨c, fs, d, B1, b1.st.ex, see_ok b1.st r1 hs, hc, hl, fun u ru => w1 u H1 π1 B1 (Step.refl b1.st) ru⟩
        · rw [if_neg hc] at w1
          exact w1.elim
      | _ => exact w1.elim
  · obtain ⟨v, H1, I1, rv, c, fs, d, B1, eB, rq, hc, hl, q⟩ := hh
    have A := hA c hc
    cases rq with
    | @obj a dx c fv fs hi h1 h2 r =>
      cases (show u = Value.ref a from rv)
      obtain ⟨v, l1, l2⟩ := rpf_look A.inj r hl
      exact getattr_ok I1 h1 (A.ic hi) A.no l1 fun u' s' I' ru => ⟨v, H1, I', ru, q v l2⟩
    | @exc a dx c fv fs hi h1 h2 r =>
      cases (show u = Value.ref a from rv)
      obtain ⟨v, l1, l2⟩ := rpf_look A.inj r hl
      have T1 := A.xc hi
      obtain ⟨⟨oe, vs, ho, hz, hd, _⟩, _, _⟩ := I1.hok a _ h1
      obtain ⟨mA, hns, hr⟩ := (show ObjOk X.prog X.w H1 s1.heap dx (.xd fv) from I1.hok dx _ h2)
      obtain ⟨od, hod, hlk⟩ := lookIn_ns hns
      obtain ⟨u1, hu, ru⟩ := RelO.some_of (v := v) (o := mA (T.fn f)) (by rw [← l1]; exact hr (T.fn f))
      have J1 : PySem.W.InstAt s1.heap a oe (cl X.K T c) (some od) := ⟨ho, hz.1, by unfold PySem.W.notCls; rw [hd] <;> rfl, by rw [hz.2]; exact hod⟩
      exact HandSPX.exc_get I1.kIn J1 T1.ga T1.gg T1.exC (PySem.W.findObj_own T1.hdC A.no rfl (by rw [hlk, hu])) (handed_of ru) ⟨v, H1, I1.tok _, ru, q v l2⟩
    | ex0 hi h1 => cases hl

/-! ### kinds -/
/-- an error's class, for isinstance -/
structure XiC (K : Fg) (C : Addr) : Prop where
  cls : (clsIn K C).isSome = true
  ga : findIn K (.ref C) "__getattribute__" = some (some (.builtin "BaseException.__getattribute__"))
  gg : findIn K (.ref C) "__getattr__" = some none
  ex : subIn K (.ref C) (.type "BaseException") = some true
  ac : findIn K (.ref C) "__class__" = some (some (.builtin "object.__class__"))
  gn : specialIn K (.builtin "object.__class__") "__get__" = some (some (.builtin "getset_descriptor.__get__"))
  tk : takesIn K (.builtin "object.__class__") = some true
  om : mroIn K C (.type "object") = some true
structure OiC (K : Fg) (C : Addr) : Prop where
  cl : Cls K C
  ac : findIn K (.ref C) "__class__" = some (some (.builtin "object.__class__"))
  gn : specialIn K (.builtin "object.__class__") "__get__" = some (some (.builtin "getset_descriptor.__get__"))
  tk : takesIn K (.builtin "object.__class__") = some true
  om : mroIn K C (.type "object") = some true
def kindN : List String := ["NoneType", "bool", "int", "str", "list", "tuple", "LookupError", "TypeError", "ArithmeticError", "ValueError", "KeyError", "Exception", "dict"]
def kindV (K : Fg) (T : Tb) (k : Nat) : Value := if k < 20 then .type (kindN[k]?.getD "object") else .ref (cl K T (k - 20))
def kindX (K : Fg) (T : Tb) (k : Nat) : V := if k < 20 then .ty (kindN[k]?.getD "object") else .ref (cl K T (k - 20))
theorem kind_cls {K : Fg} {T : Tb} {k : Nat} : ClsV (kindX K T k) (kindV K T k) := by
  unfold kindX kindV
  split
  · exact .ty _
  · exact .own _
/-- what the table of kinds says is so -/
structure IsF (K : Fg) (T : Tb) (C : CE) : Prop where
  one : ∀ k j b, C.isa k j = some b → kitOne K (kindV K T k) (kindV K T j) = some b
  xc : ∀ c j b, C.isa (20 + c) j = some b → T.ix c = true → XiC K (cl K T c)
  ic : ∀ c j b, C.isa (20 + c) j = some b → T.ix c = false → OiC K (cl K T c)
theorem IsF.any {K : Fg} {T : Tb} {C : CE} (F : IsF K T C) {k : Nat} : ∀ {ts : List Nat} {b : Bool}, isiK C k ts = some b → kitAny K (kindV K T k) (ts.map (kindV K T)) = some b
  | [], b, h => by
    cases h
    rfl
  | t :: r, b, h => by
    unfold isiK at h
    cases e : C.isa k t with
    | none =>
      rw [e] at h
      cases h
    | some c =>
      rw [e] at h
      have h1 := F.one k t c e
      cases c with
      | true =>
        cases h
        exact kitAny_cons h1 (fun z => nomatch z) fun _ => rfl
      | false => exact kitAny_cons h1 (fun _ => F.any h) fun z => nomatch z
/-- what isinstance asks of a value -/
def KtO (X : Cx) (H : Hp) (x : V) (t : Value) : Prop := ∀ (pins : List (Addr × Obj)) (s : Shared) (σ : L2.St) (u : Value), Inv X pins σ H s → RelV x u → ∃ P : Heap → Prop, KitX X.K u t P ∧ P s.heap ∧ u ≠ .builtin "__main__.__loader__#opaque"
theorem kt_ty {H : Hp} {x : V} {t : Value} (h : TyX X.K H x t) : KtO X H x t := fun _ _ _ _ I r => kit_of I r h
theorem kt_rq {B H : Hp} {x : V} {d : D} {k : Nat} (hk : kindD d = some k) (eB : Ex B H) (r : Rq X.K T B H x d) (hx : ∀ c, k = 20 + c → T.ix c = true → XiC X.K (cl X.K T c)) (hi : ∀ c, k = 20 + c → T.ix c = false → OiC X.K (cl X.K T c)) : KtO X H x (kindV X.K T k) := by
  have hcv : ∀ c, kindV X.K T (20 + c) = .ref (cl X.K T c) := fun c => by
    unfold kindV
    rw [if_neg (by omega)]
    congr 2
    omega
  cases r with
  | non => cases hk; exact kt_ty (.base .non)
  | bl b => cases hk; exact kt_ty (.base (.bl b))
  | int i => cases hk; exact kt_ty (.base (.int i))
  | str x h o => cases hk; exact kt_ty (.base (.str x))
  | scr h => cases hk
  | lst h z r => cases hk; exact kt_ty (.base (.lst h))
  | tup h z r =>
    cases hk
    have h' := ex_t eB h
    rcases h' with (h' | ⟨o, h'⟩) | ⟨o, its, n, h1, h2, _⟩
    · exact kt_ty (.base (.tup h'))
    · exact kt_ty (.fTuple h')
    · exact kt_ty (.kTuple h1 h2)
  | @obj a dx c fv fs ih h1 h2 r =>
    cases hk
    have F := hi c rfl ih
    rw [hcv]
    exact kt_ty (.base (.ins h1 F.cl F.ac F.gn F.tk F.om))
  | @exc a dx c fv fs ih h1 h2 r =>
    cases hk
    have F := hx c rfl ih
    rw [hcv]
    intro pins s σ u I ru
    cases (show u = Value.ref a from ru)
    obtain ⟨⟨oe, vs, ho, hz, hd, _⟩, _, _⟩ := I.hok a _ h1
    obtain ⟨mA, hns, hr⟩ := (show ObjOk X.prog X.w H s.heap dx (.xd fv) from I.hok dx _ h2)
    obtain ⟨od, hod, hlk⟩ := lookIn_ns hns
    have J1 : PySem.W.InstAt s.heap a oe (cl X.K T c) (some od) := ⟨ho, hz.1, by unfold PySem.W.notCls; rw [hd] <;> rfl, by rw [hz.2]; exact hod⟩
    exact ⟨_, kitx_exc F.cls F.ga F.gg F.ex F.ac F.gn F.tk F.om, J1, fun z => nomatch z⟩
  | @ex0 a c ih h1 =>
    cases hk
    have F := hx c rfl ih
    rw [hcv]
    intro pins s σ u I ru
    cases (show u = Value.ref a from ru)
    obtain ⟨⟨oe, vs, ho, hz, hd, _⟩, _, _⟩ := I.hok a _ h1
    have J1 : PySem.W.InstAt s.heap a oe (cl X.K T c) none := ⟨ho, hz.1, by unfold PySem.W.notCls; rw [hd] <;> rfl, by rw [hz.2]; trivial⟩
    exact ⟨_, kitx_exc F.cls F.ga F.gg F.ex F.ac F.gn F.tk F.om, J1, fun z => nomatch z⟩
/-- isinstance(x, c) -/
def rI1 (X : Cx) : List V → Hp → VK → Prop := fun xs H Q => ∃ (x c : V) (t u : Value) (b : Bool), xs = [x, c] ∧ ClsV c u ∧ KtO X H x t ∧ kitOne X.K t u = some b ∧ Q (.bl b) H
theorem call_i1 : CallR X (.builtin "isinstance") (rI1 X) := by
  intro pins s σ H xs us Q I r h
  obtain ⟨x, c, t, u, b, rfl, k, ty, e, q⟩ := h
  obtain ⟨u1, u2, rfl, r1, r2⟩ := vals2 r
  have e2 := k.eq r2
  subst e2
  obtain ⟨P, Z, p, hx⟩ := ty pins s σ u1 I r1
  exact PySem.W.kia_one Z I.kIn p e hx fun tk => ⟨.bl b, H, I.tok tk, rfl, q⟩
/-- isinstance(x, (c, ..)), a tuple just laid -/
def rIM (X : Cx) : List V → Hp → VK → Prop := fun xs H Q => ∃ (x : V) (tp : Addr) (cs : List V) (t : Value) (us : List Value) (b : Bool), xs = [x, .ref tp] ∧ H tp = some (.tup cs) ∧ Paired ClsV cs us ∧ KtO X H x t ∧ kitAny X.K t us = some b ∧ Q (.bl b) H
theorem call_im : CallR X (.builtin "isinstance") (rIM X) := by
  intro pins s σ H xs us Q I r h
  obtain ⟨x, tp, cs, t, ws, b, rfl, hT, k, ty, e, q⟩ := h
  obtain ⟨u1, u2, rfl, r1, r2⟩ := vals2 r
  cases (show u2 = Value.ref tp from r2)
  obtain ⟨P, Z, p, hx⟩ := ty pins s σ u1 I r1
  obtain ⟨_, its, rv, o, h1, h2, n, h3⟩ := (show ObjOk X.prog X.w H s.heap tp (.tup cs) from I.hok tp _ hT)
  have e3 := ClsV.all k rv
  subst e3
  obtain ⟨oc, od, dt, sl⟩ := o
  simp only at h2 h3
  subst h2 h3
  exact PySem.W.kia_tup Z I.kIn p h1 e hx fun tk => ⟨.bl b, H, I.tok tk, rfl, q⟩
/-- the classes' names -/
structure PCl (X : Cx) (T : Tb) (e : Expr) (k : Nat) : Prop where
  pe : PE X e (tC (kindX X.K T k))
theorem pd_isi {k : Nat} {p : Pos} (hJ : Mono J) (F : IsF X.K T C) (hg : Gl X "isinstance") (hm : X.mg "isinstance" = none) (ha : PD X T C W J a a') (hc : PCl X T b k) (hst : starEach [a, b] X.env = (false, eval a X.env) :: starEach [b] X.env := by rfl) (hst2 : starEach [b] X.env = (false, eval b X.env) :: starEach [] X.env := by rfl) (hpl : (backTo pos (starEach [b] X.env)).any (·.1) = false := by rfl) :
    PD X T C W J (.Call (.Name "isinstance" p) [a, b] [] pos) (.isi a' [k]) := by
  refine PE.weak (pe_callB call_i1 hg hm (by decide +kernel) (pa_cons ha (pa_cons hc.pe pa_nil hst2) hst) (he := hst) (hpl := hpl)) fun σ H Q h => ?_
  obtain ⟨π, B, m, ρ, bb, w⟩ := h
  rw [ev] at w
  refine tE_bnd hJ bb w fun v H1 π1 B1 m1 u s1 b1 r1 w1 => ?_
  cases hs : see m1 u with
  | none =>
    rw [hs] at w1
    exact w1.elim
  | some d =>
    rw [hs] at w1
    dsimp only at w1
    unfold isiD at w1
    cases hk : kindD d with
    | none =>
      rw [hk] at w1
      exact w1.elim
    | some kd =>
      rw [hk] at w1
      dsimp only at w1
      unfold isiK at w1
      cases hi : C.isa kd k with
      | none =>
        rw [hi] at w1
        exact w1.elim
      | some r =>
        rw [hi] at w1
        have hq : Q (.bl r) H1 := by
          cases r with
          | true => exact w1 _ _ _ _ (Step.refl b1.st) (.bl true)
          | false => exact w1 _ _ _ _ (Step.refl b1.st) (.bl false)
        exact ⟨v, kindX X.K T k, _, _, r, rfl, kind_cls, kt_rq hk b1.st.ex (see_ok b1.st r1 hs) (fun c z h => F.xc c k r (z ▸ hi) h) (fun c z h => F.ic c k r (z ▸ hi) h), F.one kd k r hi, hq⟩
end
end At

/-! Tuples of kinds, list.count, str. -/
namespace At
open PySem L2 Evl
open PySem.W PySem.Calls PyProof.Rows

section
variable {X : Cx} {T : Tb} {C : CE} {W : WX} {J : Jt} {a b e : Expr} {a' b' e' : E} {es : List Expr} {es' : E} {pos : Pos}
/-- the names of some classes, in a tuple -/
structure PCls (X : Cx) (T : Tb) (es : List Expr) (ks : List Nat) : Prop where
  pa : PA X es (fun σ H Q => Q (ks.map (kindX X.K T)) H)
theorem pcls_nil : PCls X T [] [] := ⟨PA.weak pa_nil fun _ _ _ h => h⟩
theorem pcls_cons {k : Nat} {ks : List Nat} (h : PCl X T e k) (r : PCls X T es ks) (hst : starEach (e :: es) X.env = (false, eval e X.env) :: starEach es X.env := by rfl) : PCls X T (e :: es) (k :: ks) :=
  ⟨PA.weak (pa_cons h.pe r.pa hst) fun _ _ _ h => h⟩
theorem paired_kinds {K : Fg} : ∀ ks : List Nat, Paired ClsV (ks.map (kindX K T)) (ks.map (kindV K T))
  | [] => .nil
  | _ :: ks => .cons kind_cls (paired_kinds ks)
theorem pcl_own {x : Str} {c : Nat} {p : Pos} (hg : Gl X x) (hm : X.mg x = some (.ref (cl X.K T c))) (hd : (x == ("__debug__" : Str)) = false := by decide) : PCl X T (.Name x p) (20 + c) := by
  refine ⟨?_⟩
  have e : kindX X.K T (20 + c) = .ref (cl X.K T c) := by
    unfold kindX
    rw [if_neg (by omega)]
    congr 2
    omega
  rw [e]
  exact pe_glob hg hm rfl hd
theorem pcl_blt {x : Str} {k : Nat} {n : String} {p : Pos} (hg : Gl X x) (hm : X.mg x = none) (hv : bootBuiltins x = some (.type n)) (hk : k < 20 ∧ kindN[k]?.getD "object" = n := by decide) (hn : x ≠ "__name__" := by decide) (hd : (x == ("__debug__" : Str)) = false := by decide) : PCl X T (.Name x p) k := by
  refine ⟨?_⟩
  have e : kindX X.K T k = .ty n := by
    unfold kindX
    rw [if_pos hk.1, hk.2]
  rw [e]
  exact pe_bltn hg hm hv rfl hn hd
theorem Rq.up {K : Fg} {B H H' : Hp} {v : V} {d : D} (e : Ex H H') (r : Rq K T B H v d) : Rq K T B H' v d := by
  cases r with
  | non => exact .non
  | bl b => exact .bl b
  | int i => exact .int i
  | str x h o => exact .str x h o
  | scr h => exact .scr (ex_l e h)
  | lst h z r => exact .lst (e _ _ h) z r
  | tup h z r => exact .tup h z r
  | obj i h g r => exact .obj i (e _ _ h) (e _ _ g) r
  | exc i h g r => exact .exc i (e _ _ h) (e _ _ g) r
  | ex0 i h => exact .ex0 i (e _ _ h)
theorem isa_some {k j : Nat} {ks : List Nat} {r : Bool} (hj : ks.head? = some j) (h : isiK C k ks = some r) : ∃ b, C.isa k j = some b := by
  cases ks with
  | nil => cases hj
  | cons t ts =>
    cases hj
    unfold isiK at h
    cases e : C.isa k j with
    | none =>
      rw [e] at h
      cases h
    | some b => exact ⟨b, rfl⟩
theorem pd_isiM {ks : List Nat} {p tp : Pos} {x1} (hJ : Mono J) (F : IsF X.K T C) (hg : Gl X "isinstance") (hm : X.mg "isinstance" = none) (ha : PD X T C W J a a') (hc : PCls X T es ks) (hj : ks.head?.isSome = true := by rfl) (hlen : ks.length ≤ 100 := by decide) (hst : starEach [a, .Tuple es x1 tp] X.env = (false, eval a X.env) :: starEach [.Tuple es x1 tp] X.env := by rfl) (hst2 : starEach [.Tuple es x1 tp] X.env = (false, eval (.Tuple es x1 tp) X.env) :: starEach [] X.env := by rfl) (hpl : (backTo pos (starEach [.Tuple es x1 tp] X.env)).any (·.1) = false := by rfl) :
    PD X T C W J (.Call (.Name "isinstance" p) [a, .Tuple es x1 tp] [] pos) (.isi a' ks) := by
  refine PE.weak (pe_callB call_im hg hm (by decide +kernel) (pa_cons ha (pa_cons (pe_tup hc.pa) pa_nil hst2) hst) (he := hst) (hpl := hpl)) fun σ H Q h => ?_
  obtain ⟨π, B, m, ρ, bb, w⟩ := h
  rw [ev] at w
  refine tE_bnd hJ bb w fun v H1 π1 B1 m1 u s1 b1 r1 w1 => ?_
  cases hs : see m1 u with
  | none =>
    rw [hs] at w1
    exact w1.elim
  | some d =>
    rw [hs] at w1
    dsimp only at w1
    unfold isiD at w1
    cases hk : kindD d with
    | none =>
      rw [hk] at w1
      exact w1.elim
    | some kd =>
      rw [hk] at w1
      dsimp only at w1
      cases hi : isiK C kd ks with
      | none =>
        rw [hi] at w1
        exact w1.elim
      | some r =>
        rw [hi] at w1
        have hcs : ∀ j, (∃ b, C.isa kd j = some b) → (∀ c, kd = 20 + c → T.ix c = true → XiC X.K (cl X.K T c)) ∧ (∀ c, kd = 20 + c → T.ix c = false → OiC X.K (cl X.K T c)) := fun j ⟨b, hb⟩ => ⟨fun c z h => F.xc c j b (z ▸ hb) h, fun c z h => F.ic c j b (z ▸ hb) h⟩
        obtain ⟨j, hj'⟩ := Option.isSome_iff_exists.mp hj
        obtain ⟨hx1, hi1⟩ := hcs j (isa_some hj' hi)
        refine ⟨by rw [List.length_map]; exact Nat.le_trans hlen (by decide), fun l hl => ?_⟩
        have nw := New.one b1.st.ex (p := l) (o := .tup (ks.map (kindX X.K T))) hl
        exact ⟨v, l, _, _, _, r, rfl, upd_same, paired_kinds ks, kt_rq hk (b1.st.ex.trans nw.exH) ((see_ok b1.st r1 hs).up nw.exH) hx1 hi1, F.any hi, w1 _ _ _ _ (nw.step b1.st) (.bl r)⟩
def rCountD (K : Fg) : V → List V → Hp → VK → Prop := fun x xs H Q => ∃ (a : Addr) (y : V) (d : PyData) (ds : List PyData), x = V.ref a ∧ xs = [y] ∧ Dp K H (V.ref a) (.list ds) ∧ Dp K H y d ∧
  SeqAt.shaped (.list ds) = true ∧ SeqAt.shaped d = true ∧ Q (.int (ds.countP fun z => PyData.eqv z d : Nat)) H
theorem mt_countD (hu : X.A.units + 65 < cLine) : MtR X "list.count" (rCountD X.K) := by
  intro pins s σ H x xs v us Q I rx rxs h
  obtain ⟨a, y, d, ds, rfl, rfl, hl, hy, sl, sd, q⟩ := h
  cases rx
  cases rxs with
  | cons ry rt =>
    rename_i uy ut
    cases rt
    obtain ⟨bs, r1⟩ := Dp.reads I d y uy hy ry
    have hxs : PyData.canLayAll0 ds = true := SeqAt.canLay_of_shaped sl
    have hroom : X.A.units + 1 + min (PyData.depthAll ds) d.depth < cLine := room_in_shaped sd hu
    cases hl with
    | lst hs ha =>
      obtain ⟨its, rv, ⟨⟨cls, dd, data, sls⟩, n, ho, hc, hdn, hdt⟩, hlen⟩ := I.list hs
      simp only at hc hdt
      subst hc hdt
      obtain ⟨as, h4⟩ := Dp.readsAll I ds _ its ha rv
      have hmap : its.map (SeqAt.readOf s.heap) = ds := SeqAt.readsAll_map ds its as hxs h4
      refine call_meets PySem.F.slot_list_count ⟨_, ho, rfl⟩ PySem.F.entry_list_count (PySem.F.args_list_count_2 _ _)
        (SeqAt.list_countAt a its.toArray n dd sls uy (fun u => PyData.eqv (SeqAt.readOf s.heap u) d)) ⟨ho, SeqAt.items_eqAt (vs := its.toArray) (show ReadsAll s.heap its.toArray.toList ds as from h4) r1 hxs (SeqAt.canLay_of_shaped sd) hroom, ?_⟩
      have ec : its.toArray.toList.countP (fun u => PyData.eqv (SeqAt.readOf s.heap u) d) = ds.countP fun z => PyData.eqv z d := by
        rw [← hmap, List.countP_map]
        rfl
      refine ⟨.int (ds.countP fun z => PyData.eqv z d : Nat), H, I.tok _, ⟨s.toks, ?_⟩, q⟩
      show Value.int ((its.toArray.toList.countP (fun u => PyData.eqv (SeqAt.readOf s.heap u) d) : Nat) : Int) s.toks = _
      rw [ec]
theorem count_of (x : D) (hx : plain x = true) : ∀ ys : List D, plains ys = true → ((toPys ys).countP fun z => PyData.eqv z (toPy x)) = ys.countP fun y => eqD y x
  | [], _ => rfl
  | y :: ys, h => by
    obtain ⟨p1, p2⟩ := Bool.and_eq_true_iff.mp (show (plain y && plains ys) = true from h)
    show ((toPy y :: toPys ys).countP fun z => PyData.eqv z (toPy x)) = _
    rw [List.countP_cons, List.countP_cons, eqv_of y x p1 hx, count_of x hx ys p2]
theorem pd_count {k : Nat} {apos cpos : Pos} (hJ : Mono J) (hr : Room k X.A) (ha : PD X T C W J a a') (he : PD X T C W J e e') (hbase : attributeBase a "count" X.env (eval a X.env) = eval a X.env := by rfl)
    (hfew : ((backTo cpos (starEach [e] X.env)).all (fun x => !x.1) && (backToKw cpos (keywordEach [] X.env)).all (fun x => x.1.isSome)
      && decide ([e].length + ([] : List Keyword).length + (if ([] : List Keyword).isEmpty then 0 else 1) < 30)) = true := by rfl)
    (hline : (apos.endLine == cpos.line) = true := by rfl) (hs : starEach [e] X.env = (false, eval e X.env) :: starEach [] X.env := by rfl) :
    PD X T C W J (.Call (.Attribute a "count" apos) [e] [] cpos) (.count a' e') := by
  refine PE.weak (pe_bm PySem.F.plainAttrs_list PySem.F.slot_list_count PySem.F.type_list_count (mt_countD (u65 hr)) ha (pa_cons he pa_nil hs) hbase hfew hline hs) fun σ H Q h => ?_
  obtain ⟨π, B, m, ρ, bb, w⟩ := h
  rw [ev] at w
  refine tE_bnd hJ bb w fun v H1 π1 B1 m1 u s1 b1 r1 w1 => ?_
  cases u with
  | p k => exact w1.elim
  | v d =>
    cases d with
    | lst xs =>
      dsimp only at w1
      cases r1 with
      | @lst p ys _ hB hl rs =>
        refine ⟨.inl ⟨rfl, ys, SqL.of (b1.st.ex _ _ hB)⟩, ?_⟩
        refine tE_bnd hJ b1 w1 fun v2 H2 π2 B2 m2 u2 s2 b2 r2 w2 => ?_
        cases u2 with
        | p k => exact w2.elim
        | v d2 =>
          dsimp only at w2
          by_cases c : (askable (.lst xs) && askable d2) = true
          · rw [if_pos c] at w2
            obtain ⟨c1, c2⟩ := Bool.and_eq_true_iff.mp c
            have rl : Rp X.K T B2 (.ref p) (.lst xs) := .lst (s2.ex _ _ hB) hl (rs.mono s2.ex)
            obtain ⟨p1, q1⟩ := ask_of b2.st.ex c1 (rl.rq b2.st.ex)
            obtain ⟨p2, q2⟩ := ask_of b2.st.ex c2 (Rp.rq b2.st.ex r2)
            refine ⟨p, v2, _, _, rfl, rfl, p1, p2, q1, q2, ?_⟩
            rw [count_of d2 (Bool.and_eq_true_iff.mp c2).1 xs (Bool.and_eq_true_iff.mp c1).1]
            exact w2 _ _ _ _ (Step.refl b2.st) (.int _)
          · rw [if_neg c] at w2
            exact w2.elim
    | _ => exact w1.elim
theorem sem_strU {K : Fg} : SemL K T (fun xs H Q => (∃ i, xs = [.int i] ∧ i.natAbs.log2 < 1920 ∧ Q (.str (toString i)) H) ∨ ∃ a, xs = [.str a] ∧ Q (.str a) H) (un1 .str) := by
  intro B H x d1 d Q e r1 hf k
  cases r1 with
  | int i => exact .inl (sem_str B H _ _ d Q e (.int i) hf k)
  | str x h o =>
    cases hf
    exact .inr ⟨x, rfl, k _ _ _ (New.refl e) (.str x h o)⟩
  | _ => cases hf
theorem pd_strof {p : Pos} (hJ : Mono J) (hg : Gl X "str") (hm : X.mg "str" = none) (ha : PD X T C W J a a') (hst : starEach [a] X.env = (false, eval a X.env) :: starEach [] X.env := by rfl) : PD X T C W J (.Call (.Name "str" p) [a] [] pos) (.un .str a') :=
  pd_fun1 hJ sem_strU (fun t ht => pe_callTy (CallR.or call_str_int SkE.call_str_str) hg hm (by decide +kernel) ht (he := hst)) ha hst
end
end At

/-! What the head tells of errors' classes. -/
namespace At
open PySem L2 Evl
open PySem.W PySem.Calls PyProof.Rows PySem.HandSPX
open He (ga ma fAd eqO eqO_ok ba)

/-- an error's class: its __init__ as the text has it -/
structure XD where
  cn : Str
  me : Str
  qual : Str
  ps : List Str
  fs : List Str
  params : Arguments
  body : List Stmt
  scope : Scope
abbrev FnX : Type := Option (Str × Str × Arguments × FuncBody × Scope × Addr × List Str × Addr)
def XD.at (K : Fg) (d : XD) : Addr := ma K (ga K d.cn) "__init__"
def XD.obs (K : Fg) (d : XD) : FnX := match K.lookup (d.at K) with
  | some ⟨_, _, .func fd, _⟩ => some (fd.name, fd.qualname, fd.params, fd.body, fd.scope, fd.globals, fd.closure.map (·.1), fd.builtins)
  | _ => none
def XD.val (d : XD) : FnX := some ("__init__", d.qual, d.params, .stmts d.body, d.scope, mainGlobals, ["__class__"], builtinsNs)
def clsXB (K : Fg) (C : Addr) : Bool := match K.lookup C with
  | some ⟨.type "type", _, .cls cd, sl⟩ => (match cd.mro, sl.toList with
    | .ref C' :: bm, [_, _, _, _, some (.builtin n), _] => C' == C && n == "ValueError.__new__" && !cd.hasDel && cd.hasDict && refsVE bm
    | _, _ => false)
  | _ => false
def cellB (K : Fg) (cc C : Addr) : Bool := match K.lookup cc with
  | some ⟨_, _, .cell (some (.ref C')), _⟩ => C' == C
  | _ => false
def fileB (P : Program) (K : Fg) (cda : Addr) : Bool := match K.lookup cda with
  | some ⟨_, _, .fields vs, _⟩ => (match (vs[2]? : Option Value) with
    | some (.str file _) => ((P.main.file : Str) == file)
    | _ => false)
  | _ => false
def funXB (P : Program) (K : Fg) (C fI : Addr) (qual : Str) : Bool := match K.lookup fI with
  | some ⟨_, _, .func fd, _⟩ => (match fd.closure, fd.code, fd.defaults with
    | [(_, cc)], .ref cda, .none => cellB K cc C && (fileB P K cda && codeIn K (.ref cda) qual)
    | _, _, _ => false)
  | _ => false
def XD.ok (P : Program) (K : Fg) (d : XD) : Bool :=
  eqO (nsIn K mainGlobals d.cn) (some (some (.ref (ga K d.cn)))) && (keepIn K (.ref (ga K d.cn)) && (decide (subIn K (.ref (ga K d.cn)) (.type "BaseException") = some true) && (decide (typeIn K (.ref (ga K d.cn)) = some (.type "type")) &&
  (clsXB K (ga K d.cn) && (eqO (ks_superIn K (ga K d.cn) (ga K d.cn) "__init__") (some (some (.builtin "ValueError.__init__"))) && (eqO (findIn K (.ref (ga K d.cn)) "__setattr__") (some (some (.builtin "object.__setattr__"))) &&
  (eqO (findIn K (.ref (ga K d.cn)) "__init__") (some (some (.ref (d.at K)))) && (decide (typeIn K (.ref (d.at K)) = some (.type "function")) && (decide (subIn K (.ref (ga K d.cn)) (.type "ValueError") = some true) && (hasDictIn K (ga K d.cn) &&
  (decide (mroIn K (ga K d.cn) (.ref (ga K d.cn)) = some true) && (eqO (nsIn K cStatics "thirdparty.any") (some none) && (funXB P K (ga K d.cn) (d.at K) d.qual && d.fs.all fun f => eqO (findIn K (.ref (ga K d.cn)) f) (some none))))))))))))))
/-- what is seen of the class's text alone -/
structure XSt (P : Program) (d : XD) : Prop where
  sc : XSc d.scope d.me d.ps
  to : ∃ (l : List (Str × Str × Pos × Pos × Pos × Pos)) (p0 p1 p2 p3 p4 p5 : Pos) (msg : Str) (kk : Nat) (ar : Arg), d.body = .Expr (.Call (.Attribute (.Call (.Name "super" p0) [] [] p1) "__init__" p2) [.Constant (.str msg) kk p3] [] p4) p5 :: storeS d.me l ∧
    XFld l d.ps d.fs ∧ (∀ q ∈ l, q.2.1 ∈ d.ps ∧ (q.2.1 == ("__debug__" : Str)) = false) ∧ l.length ≤ 100 ∧ (d.params.posonlyargs ++ d.params.args).head? = some ar ∧ ar.arg = d.me ∧
    ∀ (L fI cc : Addr) (cdv : Value), ∃ pl : Sem Bool, eval (.Call (.Attribute (.Call (.Name "super" p0) [] [] p1) "__init__" p2) [.Constant (.str msg) kk p3] [] p4) (ksEnv d.qual d.scope L fI cdv cc) = (do
        let ov ← attributeBase (.Call (.Name "super" p0) [] [] p1) "__init__" (ksEnv d.qual d.scope L fI cdv cc) (eval (.Call (.Name "super" p0) [] [] p1) (ksEnv d.qual d.scope L fI cdv cc))
        standAt p2.atName
        let (f, first) ← holding [ov] (getMethod ov "__init__" pl)
        callWith p4 f first (backTo p4 (starEach [.Constant (.str msg) kk p3] (ksEnv d.qual d.scope L fI cdv cc))) [])
  bind : ∀ (kV doc pm : Value) (an : Option Addr) (cdv ct : Value) (cc : Addr) (us : List Value), us.length = d.ps.length + 1 → bindArgs (ksFn "__init__" d.qual d.params d.body d.scope .none kV doc pm an cdv ct cc) ⟨us, []⟩ = pure ((d.me :: d.ps).zip us)
  me0 : (d.me == ("__debug__" : Str)) = false
  nd : (d.me :: d.ps).Nodup
  top : (P.main.scope.names.lookup ("super" : Str)).isSome = false
  few : d.ps.length ≤ 100
theorem clsXB_ok {K : Fg} {C : Addr} (q : clsXB K C = true) : ∃ nm qn N bs bm sn sub ab col dd k0 k1 k2 k3 k5, K.lookup C = some (excClassObj nm qn C N bs bm true sn sub ab col dd k0 k1 k2 k3 k5 "ValueError.__new__") ∧ refsVE bm = true := by
  unfold clsXB at q
  split at q
  · rename_i dd cd sl ho
    split at q
    · rename_i C' bm k0 k1 k2 k3 n k5 hm hs
      simp only [Bool.and_eq_true, beq_iff_eq, Bool.not_eq_true'] at q
      obtain ⟨⟨⟨⟨rfl, rfl⟩, hdel⟩, hdi⟩, hr⟩ := q
      obtain ⟨nm, bs, mro, ns, qn, hd, sn, sub, ab, col, del⟩ := cd
      dsimp only at hm hdel hdi
      subst hm hdel hdi
      have hsl : sl = #[k0, k1, k2, k3, some (.builtin "ValueError.__new__"), k5] := by
        obtain ⟨l⟩ := sl
        simp only at hs
        rw [hs]
      subst hsl
      exact ⟨nm, qn, ns, bs, bm, sn, sub, ab, col, dd, k0, k1, k2, k3, k5, ho, hr⟩
    · cases q
  · cases q
theorem cellB_ok {K : Fg} {cc C : Addr} (q : cellB K cc C = true) : ∃ c d s, K.lookup cc = some ⟨c, d, .cell (some (.ref C)), s⟩ := by
  unfold cellB at q
  split at q
  · rename_i c d C' s ho
    have : C' = C := beq_iff_eq.mp q
    subst this
    exact ⟨c, d, s, ho⟩
  · cases q
theorem fileB_ok {P : Program} {K : Fg} {a : Addr} (q : fileB P K a = true) : ∃ ccl cdd vs ccs file tf, K.lookup a = some ⟨ccl, cdd, .fields vs, ccs⟩ ∧ vs[2]? = some (.str file tf) ∧ ((P.main.file : Str) == file) = true := by
  unfold fileB at q
  split at q
  · rename_i c d vs s ho
    split at q
    · rename_i f t hv
      exact ⟨c, d, vs, s, f, t, ho, hv, q⟩
    · cases q
  · cases q
theorem XD.made {P : Program} {K : Fg} {h : Heap} {mg : Str → Option Value} {d : XD} (X : K.In h) (G : h.Ns mainGlobals mg) (hsup : mg "super" = none) (S : XSt P d) (e : d.obs K = d.val) (c : d.ok P K = true) : XOk P K mg d.cn (ga K d.cn) d.ps d.fs := by
  obtain ⟨c1, c⟩ := ba c
  obtain ⟨c2, c⟩ := ba c
  obtain ⟨c3, c⟩ := ba c
  obtain ⟨c4, c⟩ := ba c
  obtain ⟨c5, c⟩ := ba c
  obtain ⟨c6, c⟩ := ba c
  obtain ⟨c7, c⟩ := ba c
  obtain ⟨c8, c⟩ := ba c
  obtain ⟨c9, c⟩ := ba c
  obtain ⟨c10, c⟩ := ba c
  obtain ⟨c11, c⟩ := ba c
  obtain ⟨c12, c⟩ := ba c
  obtain ⟨c13, c⟩ := ba c
  obtain ⟨c14, c15⟩ := ba c
  unfold funXB at c14
  unfold XD.obs at e
  cases q : K.lookup (d.at K) with
  | none =>
    rw [q] at c14
    cases c14
  | some o =>
    obtain ⟨oc, od, dt, osl⟩ := o
    rw [q] at c14 e
    cases dt with
    | func fd =>
      obtain ⟨n1, n2, n3, n4, n5, n6, n7, n8, n9, n10, n11, n12, n13, n14, n15⟩ := fd
      dsimp only at c14 e
      have e2 : (some (n1, n2, n3, n4, n5, n6, n7.map (·.1), n15) : FnX) = (some (("__init__" : Str), d.qual, d.params, FuncBody.stmts d.body, d.scope, mainGlobals, [("__class__" : Str)], builtinsNs) : FnX) := e
      simp only [Option.some.injEq, Prod.mk.injEq] at e2
      obtain ⟨h1, h2, h3, h4, h5, h6, h7, h8⟩ := e2
      subst h1 h2 h3 h4 h5 h6 h8
      split at c14
      · rename_i x0 cc cda
        obtain ⟨k1, k⟩ := ba c14
        obtain ⟨k2, k3⟩ := ba k
        simp only [List.map_cons, List.map_nil, List.cons.injEq, and_true] at h7
        subst h7
        obtain ⟨l, p0, p1, p2, p3, p4, p5, msg, kk, ar, hb, Fd, hf, hfew, har, harg, hev⟩ := S.to
        refine ⟨mg_of X G (eqO_ok c1), hsup, c2, of_decide_eq_true c3, of_decide_eq_true c4, S.few, d.at K, cc, cda, d.me, l, ⟨clsXB_ok c5, eqO_ok c6, eqO_ok c7, eqO_ok c8, of_decide_eq_true c9, of_decide_eq_true c10, c11, of_decide_eq_true c12, eqO_ok c13, cellB_ok k1, fileB_ok k2, S.top⟩, ⟨⟨d.qual, d.params, d.scope, oc, od, osl, n9, n10, n11, n14, n12, p0, p1, p2, p3, p4, p5, msg, kk, ar, ?_, k3, S.sc, har, harg, fun s us hl => ?_, fun L => hev L _ _ _⟩, hf, S.me0, S.nd, hfew⟩, Fd, fun f hf' => eqO_ok (List.all_eq_true.mp c15 f hf')⟩
        · rw [← hb]
          exact q
        · rw [← hb]
          exact .of_eq (S.bind n9 n10 n11 n12 (.ref cda) n14 cc us hl)
      · cases c14
    | _ => cases c14

theorem takesF {X : Cx} : Takes X WF := fun _ _ x => by
  obtain ⟨_, _, _, _, _, _, _, _, _, _, _, _, _, _, _, _, z⟩ := x
  exact z.elim
/-! ### the Hook -/
def asX (g : Addr → Option Obj) : Nat → List Addr
  | 0 => [mainGlobals, cStatics]
  | n + 1 => He.growD g (asX g n)
abbrev AlX : Type := Bool × List He.FnW × List FnX
structure HX where
  fa : List He.Fa
  fn : List He.DefD
  xd : List XD
  ck : Fg → Bool
def HX.seen (P : Program) (x : HX) (K : Fg) : AlX := ((x.fa.all fun f => f.ok K) && ((x.fn.all fun d => d.ok K) && ((x.xd.all fun d => d.ok P K) && x.ck K)), x.fn.map (fun d => He.fnW K d.at_), x.xd.map fun d => d.obs K)
def HX.val (x : HX) : AlX := (true, x.fn.map He.DefD.val, x.xd.map XD.val)
def HX.says (P : Program) (x : HX) (K : Fg) : Prop := x.seen P K = x.val
def HX.obsG (P : Program) (n : Nat) (x : HX) (g : Addr → Option Obj) : AlX := x.seen P (He.frG g (asX g n))
def HX.hook (P : Program) (n : Nat) (x : HX) : PySem.W.Hook where
  α := AlX
  obs := fun s => x.obsG P n s.heap.get?
  val := fun _ => x.val
  says := fun _ h => ∃ K : Fg, K.In h ∧ x.says P K
  of := fun _ _ e => ⟨_, He.frG_in, e⟩
  keeps := fun _ _ _ ⟨K, hK, c⟩ k => ⟨K, PySem.W.Frag.In.keeps hK k, c⟩
theorem HX.obs_eq {P : Program} {n : Nat} {x : HX} {g : Addr → Option Obj} {s : Shared} (h : ∀ a, g a = s.heap.get? a) : x.obsG P n g = (x.hook P n).obs s := by
  have e : g = s.heap.get? := funext h
  rw [e] <;> rfl
section
variable {P : Program} {x : HX} {K : Fg}
theorem HX.parts (c : x.says P K) : (∀ f ∈ x.fa, f.ok K = true) ∧ (∀ d ∈ x.fn, d.ok K = true) ∧ (∀ d ∈ x.xd, d.ok P K = true) ∧ x.ck K = true := by
  have c1 : ((x.fa.all fun f => f.ok K) && ((x.fn.all fun d => d.ok K) && ((x.xd.all fun d => d.ok P K) && x.ck K))) = true := congrArg (fun z : AlX => z.1) c
  obtain ⟨h1, c1⟩ := ba c1
  obtain ⟨h2, c1⟩ := ba c1
  obtain ⟨h3, h4⟩ := ba c1
  exact ⟨List.all_eq_true.mp h1, List.all_eq_true.mp h2, List.all_eq_true.mp h3, h4⟩
theorem HX.fact (c : x.says P K) (i : Nat) {f : He.Fa} (h : x.fa[i]? = some f := by rfl) : f.ok K = true := (HX.parts c).1 f (List.mem_of_getElem? h)
theorem HX.def_ (c : x.says P K) (i : Nat) {d : He.DefD} (h : x.fn[i]? = some d := by rfl) : ∃ fd, FunD K d.name d.qual d.params d.body d.scope (d.dvs K) (d.kws K) (fAd K d.at_) fd := by
  have e : x.fn.map (fun d => He.fnW K d.at_) = x.fn.map He.DefD.val := congrArg (fun z : AlX => z.2.1) c
  have e2 : (x.fn.map fun d => He.fnW K d.at_)[i]? = (x.fn.map He.DefD.val)[i]? := by rw [e]
  rw [List.getElem?_map, List.getElem?_map, h] at e2
  exact He.DefD.funD (Option.some.inj e2) ((HX.parts c).2.1 d (List.mem_of_getElem? h))
theorem HX.err (c : x.says P K) {h : Heap} {mg : Str → Option Value} (X : K.In h) (G : h.Ns mainGlobals mg) (hsup : mg "super" = none) (i : Nat) {d : XD} (S : XSt P d) (hi : x.xd[i]? = some d := by rfl) : XOk P K mg d.cn (ga K d.cn) d.ps d.fs := by
  have e : x.xd.map (fun d => d.obs K) = x.xd.map XD.val := congrArg (fun z : AlX => z.2.2) c
  have e2 : (x.xd.map fun d => d.obs K)[i]? = (x.xd.map XD.val)[i]? := by rw [e]
  rw [List.getElem?_map, List.getElem?_map, hi] at e2
  exact XD.made X G hsup S (Option.some.inj e2) ((HX.parts c).2.2.1 d (List.mem_of_getElem? hi))
end

/-! ### tables of kinds and of fields -/
def xiB (K : Fg) (C : Addr) : Bool := (clsIn K C).isSome && (eqO (findIn K (.ref C) "__getattribute__") (some (some (.builtin "BaseException.__getattribute__"))) && (eqO (findIn K (.ref C) "__getattr__") (some none) && (decide (subIn K (.ref C) (.type "BaseException") = some true) &&
  (eqO (findIn K (.ref C) "__class__") (some (some (.builtin "object.__class__"))) && (eqO (specialIn K (.builtin "object.__class__") "__get__") (some (some (.builtin "getset_descriptor.__get__"))) && (decide (takesIn K (.builtin "object.__class__") = some true) && (decide (mroIn K C (.type "object") = some true) && hasDictIn K C)))))))
theorem xiB_ok {K : Fg} {C : Addr} (c : xiB K C = true) : XiC K C ∧ XfC K C := by
  obtain ⟨c1, c⟩ := ba c
  obtain ⟨c2, c⟩ := ba c
  obtain ⟨c3, c⟩ := ba c
  obtain ⟨c4, c⟩ := ba c
  obtain ⟨c5, c⟩ := ba c
  obtain ⟨c6, c⟩ := ba c
  obtain ⟨c7, c⟩ := ba c
  obtain ⟨c8, c9⟩ := ba c
  exact ⟨⟨c1, eqO_ok c2, eqO_ok c3, of_decide_eq_true c4, eqO_ok c5, eqO_ok c6, of_decide_eq_true c7, of_decide_eq_true c8⟩, ⟨eqO_ok c2, eqO_ok c3, of_decide_eq_true c4, c9⟩⟩
def oiB (K : Fg) (C : Addr) : Bool := (plainGet K C Str.empty && (hasDictIn K C && (plainOver K C && eqO (findIn K (.ref C) "__setattr__") (some (some (.builtin "object.__setattr__")))))) &&
  (eqO (findIn K (.ref C) "__class__") (some (some (.builtin "object.__class__"))) && (eqO (specialIn K (.builtin "object.__class__") "__get__") (some (some (.builtin "getset_descriptor.__get__"))) && (decide (takesIn K (.builtin "object.__class__") = some true) && decide (mroIn K C (.type "object") = some true))))
theorem oiB_ok {K : Fg} {C : Addr} (c : oiB K C = true) : OiC K C := by
  obtain ⟨c0, c⟩ := ba c
  obtain ⟨d1, c0⟩ := ba c0
  obtain ⟨d2, c0⟩ := ba c0
  obtain ⟨d3, d4⟩ := ba c0
  obtain ⟨c5, c⟩ := ba c
  obtain ⟨c6, c⟩ := ba c
  obtain ⟨c7, c8⟩ := ba c
  exact ⟨⟨d1, d2, d3, eqO_ok d4⟩, eqO_ok c5, eqO_ok c6, of_decide_eq_true c7, of_decide_eq_true c8⟩
/-- names by tables: classes (an error's or not), fields -/
def tbl (cs : List (Str × Bool)) (fs : List Str) : Tb := ⟨fun c => (cs[c]?.map (·.1)).getD "", fun f => fs[f]?.getD "", fun c => (cs[c]?.map (·.2)).getD true⟩
/-- the kinds' table: rows k, columns j -/
def isaT (t : List (Nat × List (Nat × Bool))) (k j : Nat) : Option Bool := (t.lookup k).bind fun r => r.lookup j
def fldT (t : List (Nat × List Nat)) (c f : Nat) : Bool := ((t.lookup c).map fun r => r.contains f).getD false
def ckT (T : Tb) (n : Nat) (isa : List (Nat × List (Nat × Bool))) (fld : List (Nat × List Nat)) (K : Fg) : Bool :=
  ((List.range n).all fun c => if T.ix c then xiB K (cl K T c) else oiB K (cl K T c)) && ((isa.all fun r => decide (r.1 < 20 + n) && r.2.all fun q => decide (kitOne K (kindV K T r.1) (kindV K T q.1) = some q.2)) && fld.all fun r => decide (r.1 < n) && r.2.all fun f => eqO (findIn K (.ref (cl K T r.1)) (T.fn f)) (some none))
theorem lookup_mem {α β : Type} [BEq α] [LawfulBEq α] {k : α} {b : β} : ∀ {l : List (α × β)}, l.lookup k = some b → (k, b) ∈ l
  | [], h => by cases h
  | (a, c) :: r, h => by
    rw [List.lookup_cons] at h
    by_cases e : k = a
    · subst e
      simp only [beq_self_eq_true] at h
      cases h
      exact List.mem_cons_self
    · have : (k == a) = false := by simpa using e
      rw [this] at h
      exact List.mem_cons_of_mem _ (lookup_mem h)
theorem ckT_cls {T : Tb} {n : Nat} {isa : List (Nat × List (Nat × Bool))} {fld : List (Nat × List Nat)} {K : Fg} (c : ckT T n isa fld K = true) {i : Nat} (hi : i < n) : (T.ix i = true → XiC K (cl K T i) ∧ XfC K (cl K T i)) ∧ (T.ix i = false → OiC K (cl K T i)) := by
  have h := List.all_eq_true.mp (ba c).1 i (List.mem_range.mpr hi)
  refine ⟨fun e => ?_, fun e => ?_⟩
  · rw [if_pos e] at h
    exact xiB_ok h
  · rw [if_neg (by rw [e]; decide)] at h
    exact oiB_ok h
theorem ckT_isF {T : Tb} {n : Nat} {isa : List (Nat × List (Nat × Bool))} {fld : List (Nat × List Nat)} {K : Fg} {C : CE} (c : ckT T n isa fld K = true) (hC : C.isa = isaT isa) : IsF K T C := by
  have row : ∀ k j b, C.isa k j = some b → k < 20 + n ∧ kitOne K (kindV K T k) (kindV K T j) = some b := fun k j b h => by
    rw [hC] at h
    obtain ⟨r, h1, h2⟩ := Option.bind_eq_some_iff.mp (show (isa.lookup k).bind (fun r => r.lookup j) = some b from h)
    have g := List.all_eq_true.mp (ba (ba c).2).1 _ (lookup_mem h1)
    obtain ⟨g1, g2⟩ := ba g
    exact ⟨of_decide_eq_true g1, of_decide_eq_true (List.all_eq_true.mp g2 _ (lookup_mem h2))⟩
  exact ⟨fun k j b h => (row k j b h).2, fun i j b h e => ((ckT_cls c (by have := (row _ _ _ h).1; omega)).1 e).1, fun i j b h e => (ckT_cls c (by have := (row _ _ _ h).1; omega)).2 e⟩
theorem fn_inj {cs : List (Str × Bool)} {fs : List Str} (nd : fs.Nodup) (ne : ("" : Str) ∉ fs) {f : Nat} (hf : f < fs.length) (g : Nat) (h : (tbl cs fs).fn g = (tbl cs fs).fn f) : g = f := by
  have h' : (fs[g]?.getD "") = (fs[f]?.getD "") := h
  rw [List.getElem?_eq_getElem hf] at h'
  have hm : fs[f] ∈ fs := List.getElem_mem hf
  by_cases c : g < fs.length
  · rw [List.getElem?_eq_getElem c] at h'
    exact (List.getElem_inj nd).mp h'
  · rw [List.getElem?_eq_none (Nat.le_of_not_lt c)] at h'
    exact absurd (by
      have h2 : ("" : Str) = fs[f] := h'
      rw [h2]
      exact hm) ne
theorem ckT_at {cs : List (Str × Bool)} {fs : List Str} {n : Nat} {isa : List (Nat × List (Nat × Bool))} {fld : List (Nat × List Nat)} {K : Fg} {C : CE} (c : ckT (tbl cs fs) n isa fld K = true) (hC : C.fld = fldT fld) (nd : fs.Nodup) (ne : ("" : Str) ∉ fs) {f : Nat} (hf : f < fs.length) (i : Nat) (h : C.fld i f = true) : AtOk K (tbl cs fs) i f := by
  rw [hC] at h
  have h' : ((fld.lookup i).map fun r => r.contains f).getD false = true := h
  cases e : fld.lookup i with
  | none =>
    rw [e] at h'
    cases h'
  | some r =>
    rw [e] at h'
    have g := List.all_eq_true.mp (ba (ba c).2).2 _ (lookup_mem e)
    obtain ⟨g1, g2⟩ := ba g
    have k := ckT_cls c (of_decide_eq_true g1)
    exact ⟨eqO_ok (List.all_eq_true.mp g2 f (List.contains_iff_mem.mp h')), fn_inj nd ne hf, fun z => (k.1 z).2, fun z => (k.2 z).cl⟩
/-- a law's end: its def keeps its promise at every world, and the promise is True -/
theorem walk_at {l : OpenLaw} {k : Nat} {q : Program} {loose : List Str} {XP : (Str → Option Value) → Heap → Prop} {YP : World → Heap → Prop} {d : DefRec} {x : Str} {T : Tb} {F : List D → At.P}
    (hn : l.most = some 63) (hdf : d.params.defaults = []) (hr : Room k callerA) (hlaw : ∀ ns : List Int, ns.length ≤ 63 → F [.scr ns] = .ok (.bl true))
    (hF : ∀ (w : World) (mg : Str → Option Value) (fa : Addr) (h : Heap), YP w h → h.Ns mainGlobals mg → mg d.name = some (.ref fa) →
      ∃ (K : Fg) (fd : FuncData), K.In h ∧ (∀ (s : Shared) (u : Value), BindsTo s fd ⟨[u], []⟩ [(x, u)]) ∧ ∀ base : Heap, K.In base → base.Ns mainGlobals mg → FnOk l.prog w K mg base (L2.CX l.prog w) k fa fd [x] (spP K T F)) :
    WalkO q loose XP YP l.row.toRowW d [] (fun f vs => PySem.call f vs) := by
  refine Att.attach_call hn hdf fun wd t0 t1 mg mb fa ob pm cdv doc ad us ns Gd Yd h1 h2 h3 h4 h5 h6 h7 h8 => ?_
  obtain ⟨K, fd, inK, bnd, ok⟩ := hF wd mg fa _ Yd Gd.T.g h4
  refine law_call inK Gd.T.g Gd.T.b Gd.T.builtins Gd.T.nolimit h8 h5 h6 (Nat.le_trans h7 (by decide)) hr ok bnd (fun H _ hS => ⟨H, [.scr ns], Ex.refl H, .cons (.scr hS) .nil, ?_⟩) fun H e s' z => ?_
  · rw [hlaw ns h7]
    intro v H' B' _ r
    cases r
    rfl
  · obtain ⟨_, _, _, _, _, _, _, _, _, _, _, _, z⟩ := z
    exact z.elim
end At

namespace At.k01
open PySem L2 Evl He
open PySem.W PySem.Calls PyProof.Rows

abbrev Pg : Program := PySem.Challenge.pw_allticked_k01_errors
def top (i : Nat) : Stmt := Pg.main.body.getD i (.Pass ⟨0, 0, 0, 0⟩)
def initOf (i j : Nat) : Stmt := match top i with
  | .ClassDef _ _ _ body _ _ _ _ _ _ _ => body.getD j (.Pass ⟨0, 0, 0, 0⟩)
  | _ => .Pass ⟨0, 0, 0, 0⟩
def csT : List (Str × Bool) := [("TickError", true), ("BadName", true), ("BadFormula", true), ("NoWord", true), ("BadCount", true), ("BadEvent", true), ("BadSpan", true), ("BadState", true), ("NoEvent", true), ("NoMoment", true), ("BadStep", true), ("NoStep", true), ("BadEffect", true), ("UnlikeWorlds", true), ("UnlikeDeeds", true), ("NameInUse", true), ("NotThere", true), ("Quarrel", true), ("BadNumber", true), ("BadSlack", true), ("NoView", true), ("BadTruth", true), ("Contradiction", true), ("NoName", true), ("CannotHappen", true), ("NotDone", true)]
def fsT : List Str := ["name", "text", "word", "count", "index", "moment", "state", "event", "effect", "story", "one", "other", "number", "slack", "view", "taken"]
def Tt : Tb := tbl csT fsT
def isaR : List (Nat × List (Nat × Bool)) := [
  (21, [(6, false), (7, false), (8, false), (9, true), (20, true), (21, true), (22, false), (23, false), (24, false), (25, false), (26, false), (27, false), (28, false), (29, false), (30, false), (31, false), (32, false), (33, false), (34, false), (35, false), (36, false), (37, false), (38, false), (39, false), (40, false), (41, false), (42, false), (43, false), (44, false), (45, false)]),
  (22, [(6, false), (7, false), (8, false), (9, true), (20, true), (21, false), (22, true), (23, false), (24, false), (25, false), (26, false), (27, false), (28, false), (29, false), (30, false), (31, false), (32, false), (33, false), (34, false), (35, false), (36, false), (37, false), (38, false), (39, false), (40, false), (41, false), (42, false), (43, false), (44, false), (45, false)]),
  (23, [(6, false), (7, false), (8, false), (9, true), (20, true), (21, false), (22, false), (23, true), (24, false), (25, false), (26, false), (27, false), (28, false), (29, false), (30, false), (31, false), (32, false), (33, false), (34, false), (35, false), (36, false), (37, false), (38, false), (39, false), (40, false), (41, false), (42, false), (43, false), (44, false), (45, false)]),
  (24, [(6, false), (7, false), (8, false), (9, true), (20, true), (21, false), (22, false), (23, false), (24, true), (25, false), (26, false), (27, false), (28, false), (29, false), (30, false), (31, false), (32, false), (33, false), (34, false), (35, false), (36, false), (37, false), (38, false), (39, false), (40, false), (41, false), (42, false), (43, false), (44, false), (45, false)]),
  (25, [(6, false), (7, false), (8, false), (9, true), (20, true), (21, false), (22, false), (23, false), (24, false), (25, true), (26, false), (27, false), (28, false), (29, false), (30, false), (31, false), (32, false), (33, false), (34, false), (35, false), (36, false), (37, false), (38, false), (39, false), (40, false), (41, false), (42, false), (43, false), (44, false), (45, false)]),
  (26, [(6, false), (7, false), (8, false), (9, true), (20, true), (21, false), (22, false), (23, false), (24, false), (25, false), (26, true), (27, false), (28, false), (29, false), (30, false), (31, false), (32, false), (33, false), (34, false), (35, false), (36, false), (37, false), (38, false), (39, false), (40, false), (41, false), (42, false), (43, false), (44, false), (45, false)]),
  (27, [(6, false), (7, false), (8, false), (9, true), (20, true), (21, false), (22, false), (23, false), (24, false), (25, false), (26, false), (27, true), (28, false), (29, false), (30, false), (31, false), (32, false), (33, false), (34, false), (35, false), (36, false), (37, false), (38, false), (39, false), (40, false), (41, false), (42, false), (43, false), (44, false), (45, false)]),
  (28, [(6, false), (7, false), (8, false), (9, true), (20, true), (21, false), (22, false), (23, false), (24, false), (25, false), (26, false), (27, false), (28, true), (29, false), (30, false), (31, false), (32, false), (33, false), (34, false), (35, false), (36, false), (37, false), (38, false), (39, false), (40, false), (41, false), (42, false), (43, false), (44, false), (45, false)]),
  (29, [(6, false), (7, false), (8, false), (9, true), (20, true), (21, false), (22, false), (23, false), (24, false), (25, false), (26, false), (27, false), (28, false), (29, true), (30, false), (31, false), (32, false), (33, false), (34, false), (35, false), (36, false), (37, false), (38, false), (39, false), (40, false), (41, false), (42, false), (43, false), (44, false), (45, false)]),
  (30, [(6, false), (7, false), (8, false), (9, true), (20, true), (21, false), (22, false), (23, false), (24, false), (25, false), (26, false), (27, false), (28, false), (29, false), (30, true), (31, false), (32, false), (33, false), (34, false), (35, false), (36, false), (37, false), (38, false), (39, false), (40, false), (41, false), (42, false), (43, false), (44, false), (45, false)]),
  (31, [(6, false), (7, false), (8, false), (9, true), (20, true), (21, false), (22, false), (23, false), (24, false), (25, false), (26, false), (27, false), (28, false), (29, false), (30, false), (31, true), (32, false), (33, false), (34, false), (35, false), (36, false), (37, false), (38, false), (39, false), (40, false), (41, false), (42, false), (43, false), (44, false), (45, false)]),
  (32, [(6, false), (7, false), (8, false), (9, true), (20, true), (21, false), (22, false), (23, false), (24, false), (25, false), (26, false), (27, false), (28, false), (29, false), (30, false), (31, false), (32, true), (33, false), (34, false), (35, false), (36, false), (37, false), (38, false), (39, false), (40, false), (41, false), (42, false), (43, false), (44, false), (45, false)]),
  (33, [(6, false), (7, false), (8, false), (9, true), (20, true), (21, false), (22, false), (23, false), (24, false), (25, false), (26, false), (27, false), (28, false), (29, false), (30, false), (31, false), (32, false), (33, true), (34, false), (35, false), (36, false), (37, false), (38, false), (39, false), (40, false), (41, false), (42, false), (43, false), (44, false), (45, false)]),
  (34, [(6, false), (7, false), (8, false), (9, true), (20, true), (21, false), (22, false), (23, false), (24, false), (25, false), (26, false), (27, false), (28, false), (29, false), (30, false), (31, false), (32, false), (33, false), (34, true), (35, false), (36, false), (37, false), (38, false), (39, false), (40, false), (41, false), (42, false), (43, false), (44, false), (45, false)]),
  (35, [(6, false), (7, false), (8, false), (9, true), (20, true), (21, false), (22, false), (23, false), (24, false), (25, false), (26, false), (27, false), (28, false), (29, false), (30, false), (31, false), (32, false), (33, false), (34, false), (35, true), (36, false), (37, false), (38, false), (39, false), (40, false), (41, false), (42, false), (43, false), (44, false), (45, false)]),
  (36, [(6, false), (7, false), (8, false), (9, true), (20, true), (21, false), (22, false), (23, false), (24, false), (25, false), (26, false), (27, false), (28, false), (29, false), (30, false), (31, false), (32, false), (33, false), (34, false), (35, false), (36, true), (37, false), (38, false), (39, false), (40, false), (41, false), (42, false), (43, false), (44, false), (45, false)]),
  (37, [(6, false), (7, false), (8, false), (9, true), (20, true), (21, false), (22, false), (23, false), (24, false), (25, false), (26, false), (27, false), (28, false), (29, false), (30, false), (31, false), (32, false), (33, false), (34, false), (35, false), (36, false), (37, true), (38, false), (39, false), (40, false), (41, false), (42, false), (43, false), (44, false), (45, false)]),
  (38, [(6, false), (7, false), (8, false), (9, true), (20, true), (21, false), (22, false), (23, false), (24, false), (25, false), (26, false), (27, false), (28, false), (29, false), (30, false), (31, false), (32, false), (33, false), (34, false), (35, false), (36, false), (37, false), (38, true), (39, false), (40, false), (41, false), (42, false), (43, false), (44, false), (45, false)]),
  (39, [(6, false), (7, false), (8, false), (9, true), (20, true), (21, false), (22, false), (23, false), (24, false), (25, false), (26, false), (27, false), (28, false), (29, false), (30, false), (31, false), (32, false), (33, false), (34, false), (35, false), (36, false), (37, false), (38, false), (39, true), (40, false), (41, false), (42, false), (43, false), (44, false), (45, false)]),
  (40, [(6, false), (7, false), (8, false), (9, true), (20, true), (21, false), (22, false), (23, false), (24, false), (25, false), (26, false), (27, false), (28, false), (29, false), (30, false), (31, false), (32, false), (33, false), (34, false), (35, false), (36, false), (37, false), (38, false), (39, false), (40, true), (41, false), (42, false), (43, false), (44, false), (45, false)]),
  (41, [(6, false), (7, false), (8, false), (9, true), (20, true), (21, false), (22, false), (23, false), (24, false), (25, false), (26, false), (27, false), (28, false), (29, false), (30, false), (31, false), (32, false), (33, false), (34, false), (35, false), (36, false), (37, false), (38, false), (39, false), (40, false), (41, true), (42, false), (43, false), (44, false), (45, false)]),
  (42, [(6, false), (7, false), (8, false), (9, true), (20, true), (21, false), (22, false), (23, false), (24, false), (25, false), (26, false), (27, false), (28, false), (29, false), (30, false), (31, false), (32, false), (33, false), (34, false), (35, false), (36, false), (37, false), (38, false), (39, false), (40, false), (41, false), (42, true), (43, false), (44, false), (45, false)]),
  (43, [(6, false), (7, false), (8, false), (9, true), (20, true), (21, false), (22, false), (23, false), (24, false), (25, false), (26, false), (27, false), (28, false), (29, false), (30, false), (31, false), (32, false), (33, false), (34, false), (35, false), (36, false), (37, false), (38, false), (39, false), (40, false), (41, false), (42, false), (43, true), (44, false), (45, false)]),
  (44, [(6, false), (7, false), (8, false), (9, true), (20, true), (21, false), (22, false), (23, false), (24, false), (25, false), (26, false), (27, false), (28, false), (29, false), (30, false), (31, false), (32, false), (33, false), (34, false), (35, false), (36, false), (37, false), (38, false), (39, false), (40, false), (41, false), (42, false), (43, false), (44, true), (45, false)]),
  (45, [(6, false), (7, false), (8, false), (9, true), (20, true), (21, false), (22, false), (23, false), (24, false), (25, false), (26, false), (27, false), (28, false), (29, false), (30, false), (31, false), (32, false), (33, false), (34, false), (35, false), (36, false), (37, false), (38, false), (39, false), (40, false), (41, false), (42, false), (43, false), (44, false), (45, true)])]
def fldR : List (Nat × List Nat) := [(1, [0]), (2, [1]), (3, [2]), (4, [3]), (5, [4]), (6, [5]), (7, [6]), (8, [7]), (9, [5]), (10, [4]), (11, [0]), (12, [8]), (15, [0]), (16, [9]), (17, [10, 11]), (18, [12]), (19, [13]), (20, [14]), (21, [15]), (22, [14]), (23, [0]), (24, [7]), (25, [5])]
def mkR : List (Nat × List Nat) := [(1, [0]), (2, [1]), (3, [2]), (4, [3]), (5, [4]), (6, [5]), (7, [6]), (8, [7]), (9, [5]), (10, [4]), (11, [0]), (12, [8]), (13, []), (14, []), (15, [0]), (16, [9]), (17, [10, 11]), (18, [12]), (19, [13]), (20, [14]), (21, [15]), (22, [14]), (23, [0]), (24, [7]), (25, [5])]
def C0 : CE := ⟨fun _ _ => .no, fun i => match mkR.lookup i with | some fl => xmk i fl | none => fun _ => .no, fun _ _ => none, isaT isaR, fldT fldR⟩
/-- _law_cell: _law_script, _law_k -/
def g0 : Fn := ⟨2, 2, (.seq (.ifs (.cmp .lt (.var 1) (.un .len (.var 0))) (.ret (.idx (.var 0) (.var 1))) .skip) (.ret (.cst (.int 0))))⟩
def C1 : CE := { C0 with fn := fun i => if i = 0 then g0.run C0 else C0.fn i }
/-- _law_flags: _law_e, _law_out -/
def g1 : Fn := ⟨1, 2, (.seq (.asg (.nm 1) (.new (.cons (.isi (.var 0) [24]) (.cons (.isi (.var 0) [32]) (.cons (.isi (.var 0) [25]) (.cons (.isi (.var 0) [22]) .nil)))))) (.seq (.ext (.var 1) (.lst (.cons (.isi (.var 0) [21]) (.cons (.isi (.var 0) [38]) (.cons (.isi (.var 0) [39]) (.cons (.isi (.var 0) [26]) .nil)))))) (.seq (.ext (.var 1) (.lst (.cons (.isi (.var 0) [27]) (.cons (.isi (.var 0) [30]) (.cons (.isi (.var 0) [41]) (.cons (.isi (.var 0) [44]) .nil)))))) (.seq (.ext (.var 1) (.lst (.cons (.isi (.var 0) [42]) (.cons (.isi (.var 0) [35]) (.cons (.isi (.var 0) [28]) .nil))))) (.seq (.app (.var 1) (.isi (.var 0) [29])) (.seq (.ext (.var 1) (.lst (.cons (.isi (.var 0) [43]) (.cons (.isi (.var 0) [31]) (.cons (.isi (.var 0) [40]) (.cons (.isi (.var 0) [23]) .nil)))))) (.seq (.ext (.var 1) (.lst (.cons (.isi (.var 0) [45]) (.cons (.isi (.var 0) [36]) (.cons (.isi (.var 0) [37]) (.cons (.isi (.var 0) [34]) .nil)))))) (.ret (.op .add (.var 1) (.lst (.cons (.isi (.var 0) [33]) .nil)))))))))))⟩
def C2 : CE := { C1 with fn := fun i => if i = 1 then g1.run C1 else C1.fn i }
/-- _law_alone: _law_e, _law_place, _law_flags_here -/
def g2 : Fn := ⟨2, 3, (.seq (.asg (.nm 2) (.call 1 (.cons (.var 0) .nil))) (.seq (.ifs (.isi (.var 0) [6, 7, 8]) (.ret (.cst (.bl false))) .skip) (.ret (.and_ (.isi (.var 0) [20]) (.and_ (.isi (.var 0) [9]) (.and_ (.cmp .eq (.count (.var 2) (.cst (.bl true))) (.cst (.int 1))) (.idx (.var 2) (.var 1))))))))⟩
def C3 : CE := { C2 with fn := fun i => if i = 2 then g2.run C2 else C2.fn i }
/-- _law_made: _law_x, _law_out -/
def g3 : Fn := ⟨1, 2, (.seq (.asg (.nm 1) (.lst (.cons (.tup (.cons (.make 4 (.cons (.var 0) .nil)) (.cons (.cst (.int 0)) .nil))) (.cons (.tup (.cons (.make 12 (.cons (.var 0) .nil)) (.cons (.cst (.int 1)) .nil))) (.cons (.tup (.cons (.make 5 (.cons (.var 0) .nil)) (.cons (.cst (.int 2)) .nil))) (.cons (.tup (.cons (.make 2 (.cons (.var 0) .nil)) (.cons (.cst (.int 3)) .nil))) (.cons (.tup (.cons (.make 1 (.cons (.var 0) .nil)) (.cons (.cst (.int 4)) .nil))) .nil))))))) (.seq (.asg (.nm 1) (.op .add (.var 1) (.lst (.cons (.tup (.cons (.make 18 (.cons (.var 0) .nil)) (.cons (.cst (.int 5)) .nil))) (.cons (.tup (.cons (.make 19 (.cons (.var 0) .nil)) (.cons (.cst (.int 6)) .nil))) (.cons (.tup (.cons (.make 6 (.cons (.var 0) .nil)) (.cons (.cst (.int 7)) .nil))) (.cons (.tup (.cons (.make 7 (.cons (.var 0) .nil)) (.cons (.cst (.int 8)) .nil))) (.cons (.tup (.cons (.make 10 (.cons (.var 0) .nil)) (.cons (.cst (.int 9)) .nil))) .nil)))))))) (.seq (.asg (.nm 1) (.op .add (.var 1) (.lst (.cons (.tup (.cons (.make 21 (.cons (.var 0) .nil)) (.cons (.cst (.int 10)) .nil))) (.cons (.tup (.cons (.make 24 (.cons (.var 0) .nil)) (.cons (.cst (.int 11)) .nil))) (.cons (.tup (.cons (.make 22 (.cons (.var 0) .nil)) (.cons (.cst (.int 12)) .nil))) (.cons (.tup (.cons (.make 15 (.cons (.var 0) .nil)) (.cons (.cst (.int 13)) .nil))) .nil))))))) (.seq (.asg (.nm 1) (.op .add (.var 1) (.lst (.cons (.tup (.cons (.make 8 (.cons (.var 0) .nil)) (.cons (.cst (.int 14)) .nil))) (.cons (.tup (.cons (.make 9 (.cons (.var 0) .nil)) (.cons (.cst (.int 15)) .nil))) (.cons (.tup (.cons (.make 23 (.cons (.var 0) .nil)) (.cons (.cst (.int 16)) .nil))) (.cons (.tup (.cons (.make 11 (.cons (.var 0) .nil)) (.cons (.cst (.int 17)) .nil))) (.cons (.tup (.cons (.make 20 (.cons (.var 0) .nil)) (.cons (.cst (.int 18)) .nil))) .nil)))))))) (.seq (.asg (.nm 1) (.op .add (.var 1) (.lst (.cons (.tup (.cons (.make 3 (.cons (.var 0) .nil)) (.cons (.cst (.int 19)) .nil))) (.cons (.tup (.cons (.make 25 (.cons (.var 0) .nil)) (.cons (.cst (.int 20)) .nil))) (.cons (.tup (.cons (.make 16 (.cons (.var 0) .nil)) (.cons (.cst (.int 21)) .nil))) .nil)))))) (.ret (.op .add (.var 1) (.lst (.cons (.tup (.cons (.make 17 (.cons (.var 0) (.cons (.lst (.cons (.var 0) .nil)) .nil))) (.cons (.cst (.int 22)) .nil))) (.cons (.tup (.cons (.make 14 .nil) (.cons (.cst (.int 23)) .nil))) (.cons (.tup (.cons (.make 13 .nil) (.cons (.cst (.int 24)) .nil))) .nil)))))))))))⟩
def C4 : CE := { C3 with fn := fun i => if i = 3 then g3.run C3 else C3.fn i }
/-- _law_held: _law_x, _law_out -/
def g4 : Fn := ⟨1, 2, (.seq (.asg (.nm 1) (.lst (.cons (.attr (.make 4 (.cons (.var 0) .nil)) 3) (.cons (.attr (.make 12 (.cons (.var 0) .nil)) 8) (.cons (.attr (.make 5 (.cons (.var 0) .nil)) 4) (.cons (.attr (.make 2 (.cons (.var 0) .nil)) 1) (.cons (.attr (.make 1 (.cons (.var 0) .nil)) 0) .nil))))))) (.seq (.asg (.nm 1) (.op .add (.var 1) (.lst (.cons (.attr (.make 18 (.cons (.var 0) .nil)) 12) (.cons (.attr (.make 19 (.cons (.var 0) .nil)) 13) (.cons (.attr (.make 6 (.cons (.var 0) .nil)) 5) (.cons (.attr (.make 7 (.cons (.var 0) .nil)) 6) (.cons (.attr (.make 10 (.cons (.var 0) .nil)) 4) .nil)))))))) (.seq (.asg (.nm 1) (.op .add (.var 1) (.lst (.cons (.attr (.make 21 (.cons (.var 0) .nil)) 15) (.cons (.attr (.make 24 (.cons (.var 0) .nil)) 7) (.cons (.attr (.make 22 (.cons (.var 0) .nil)) 14) (.cons (.attr (.make 15 (.cons (.var 0) .nil)) 0) (.cons (.attr (.make 8 (.cons (.var 0) .nil)) 7) .nil)))))))) (.seq (.asg (.nm 1) (.op .add (.var 1) (.lst (.cons (.attr (.make 9 (.cons (.var 0) .nil)) 5) (.cons (.attr (.make 23 (.cons (.var 0) .nil)) 0) (.cons (.attr (.make 11 (.cons (.var 0) .nil)) 0) (.cons (.attr (.make 20 (.cons (.var 0) .nil)) 14) (.cons (.attr (.make 3 (.cons (.var 0) .nil)) 2) (.cons (.attr (.make 25 (.cons (.var 0) .nil)) 5) .nil))))))))) (.ret (.op .add (.var 1) (.lst (.cons (.attr (.make 16 (.cons (.var 0) .nil)) 9) (.cons (.attr (.make 17 (.cons (.var 0) (.cons (.lst (.cons (.var 0) .nil)) .nil))) 10) .nil)))))))))⟩
def C5 : CE := { C4 with fn := fun i => if i = 4 then g4.run C4 else C4.fn i }
/-- law: _law_script, _law_k, _law_cell_here, _law_x, _law_e, _law_place -/
def g5 : Fn := ⟨1, 6, (.seq (.for_ (.nm 1) (.rng (.cst (.int 3))) (.seq (.asg (.nm 2) (.op .sub (.op .mod (.un .int (.call 0 (.cons (.var 0) (.cons (.var 1) .nil)))) (.op .pow (.cst (.int 10)) (.cst (.int 20)))) (.cst (.int 5)))) (.for_ (.nm 3) (.seq (.tup (.cons (.var 2) (.cons (.un .str (.var 2)) (.cons (.lst (.cons (.var 2) (.cons (.var 1) .nil))) (.cons (.tup (.cons (.var 1) (.cons (.un .str (.var 2)) .nil))) .nil)))))) (.seq (.ifs (.or_ (.not_ (.un .all (.lc [4, 5] (.tp (.cons (.nm 4) (.cons (.nm 5) .nil))) (.seq (.call 3 (.cons (.var 3) .nil))) (.cst (.bl true)) (.call 2 (.cons (.var 4) (.cons (.var 5) .nil)))))) (.cmp .ne (.call 4 (.cons (.var 3) .nil)) (.op .mul (.lst (.cons (.var 3) .nil)) (.cst (.int 23))))) (.ret (.cst (.bl false))) .skip) (.ifs (.cmp .ne (.attr (.make 17 (.cons (.var 3) (.cons (.lst (.cons (.var 3) .nil)) .nil))) 11) (.lst (.cons (.var 3) .nil))) (.ret (.cst (.bl false))) .skip))))) (.ret (.cst (.bl true))))⟩
def C6 : CE := { C5 with fn := fun i => if i = 5 then g5.run C5 else C5.fn i }
def x_BadName : XD := ⟨"BadName", "self", "BadName.__init__", ["name"], ["name"], defArgs (initOf 2 0), defBody (initOf 2 0), defScope (initOf 2 0)⟩
def x_BadFormula : XD := ⟨"BadFormula", "self", "BadFormula.__init__", ["text"], ["text"], defArgs (initOf 3 0), defBody (initOf 3 0), defScope (initOf 3 0)⟩
def x_NoWord : XD := ⟨"NoWord", "self", "NoWord.__init__", ["word"], ["word"], defArgs (initOf 4 0), defBody (initOf 4 0), defScope (initOf 4 0)⟩
def x_BadCount : XD := ⟨"BadCount", "self", "BadCount.__init__", ["count"], ["count"], defArgs (initOf 5 0), defBody (initOf 5 0), defScope (initOf 5 0)⟩
def x_BadEvent : XD := ⟨"BadEvent", "self", "BadEvent.__init__", ["index"], ["index"], defArgs (initOf 6 0), defBody (initOf 6 0), defScope (initOf 6 0)⟩
def x_BadSpan : XD := ⟨"BadSpan", "self", "BadSpan.__init__", ["moment"], ["moment"], defArgs (initOf 7 0), defBody (initOf 7 0), defScope (initOf 7 0)⟩
def x_BadState : XD := ⟨"BadState", "self", "BadState.__init__", ["state"], ["state"], defArgs (initOf 8 0), defBody (initOf 8 0), defScope (initOf 8 0)⟩
def x_NoEvent : XD := ⟨"NoEvent", "self", "NoEvent.__init__", ["event"], ["event"], defArgs (initOf 9 0), defBody (initOf 9 0), defScope (initOf 9 0)⟩
def x_NoMoment : XD := ⟨"NoMoment", "self", "NoMoment.__init__", ["moment"], ["moment"], defArgs (initOf 10 0), defBody (initOf 10 0), defScope (initOf 10 0)⟩
def x_BadStep : XD := ⟨"BadStep", "self", "BadStep.__init__", ["index"], ["index"], defArgs (initOf 11 0), defBody (initOf 11 0), defScope (initOf 11 0)⟩
def x_NoStep : XD := ⟨"NoStep", "self", "NoStep.__init__", ["name"], ["name"], defArgs (initOf 12 0), defBody (initOf 12 0), defScope (initOf 12 0)⟩
def x_BadEffect : XD := ⟨"BadEffect", "self", "BadEffect.__init__", ["effect"], ["effect"], defArgs (initOf 13 0), defBody (initOf 13 0), defScope (initOf 13 0)⟩
def x_UnlikeWorlds : XD := ⟨"UnlikeWorlds", "self", "UnlikeWorlds.__init__", [], [], defArgs (initOf 14 0), defBody (initOf 14 0), defScope (initOf 14 0)⟩
def x_UnlikeDeeds : XD := ⟨"UnlikeDeeds", "self", "UnlikeDeeds.__init__", [], [], defArgs (initOf 15 0), defBody (initOf 15 0), defScope (initOf 15 0)⟩
def x_NameInUse : XD := ⟨"NameInUse", "self", "NameInUse.__init__", ["name"], ["name"], defArgs (initOf 16 0), defBody (initOf 16 0), defScope (initOf 16 0)⟩
def x_NotThere : XD := ⟨"NotThere", "self", "NotThere.__init__", ["story"], ["story"], defArgs (initOf 17 0), defBody (initOf 17 0), defScope (initOf 17 0)⟩
def x_Quarrel : XD := ⟨"Quarrel", "self", "Quarrel.__init__", ["one", "other"], ["one", "other"], defArgs (initOf 18 0), defBody (initOf 18 0), defScope (initOf 18 0)⟩
def x_BadNumber : XD := ⟨"BadNumber", "self", "BadNumber.__init__", ["number"], ["number"], defArgs (initOf 19 0), defBody (initOf 19 0), defScope (initOf 19 0)⟩
def x_BadSlack : XD := ⟨"BadSlack", "self", "BadSlack.__init__", ["slack"], ["slack"], defArgs (initOf 20 0), defBody (initOf 20 0), defScope (initOf 20 0)⟩
def x_NoView : XD := ⟨"NoView", "self", "NoView.__init__", ["view"], ["view"], defArgs (initOf 21 0), defBody (initOf 21 0), defScope (initOf 21 0)⟩
def x_BadTruth : XD := ⟨"BadTruth", "self", "BadTruth.__init__", ["taken"], ["taken"], defArgs (initOf 22 0), defBody (initOf 22 0), defScope (initOf 22 0)⟩
def x_Contradiction : XD := ⟨"Contradiction", "self", "Contradiction.__init__", ["view"], ["view"], defArgs (initOf 23 0), defBody (initOf 23 0), defScope (initOf 23 0)⟩
def x_NoName : XD := ⟨"NoName", "self", "NoName.__init__", ["name"], ["name"], defArgs (initOf 24 0), defBody (initOf 24 0), defScope (initOf 24 0)⟩
def x_CannotHappen : XD := ⟨"CannotHappen", "self", "CannotHappen.__init__", ["event"], ["event"], defArgs (initOf 25 0), defBody (initOf 25 0), defScope (initOf 25 0)⟩
def x_NotDone : XD := ⟨"NotDone", "self", "NotDone.__init__", ["moment"], ["moment"], defArgs (initOf 26 0), defBody (initOf 26 0), defScope (initOf 26 0)⟩
def defs : List DefD := [⟨("_law_cell", none), "_law_cell", "_law_cell", defArgs (top 28), defBody (top 28), defScope (top 28), [], []⟩, ⟨("_law_flags", none), "_law_flags", "_law_flags", defArgs (top 29), defBody (top 29), defScope (top 29), [], []⟩, ⟨("_law_alone", none), "_law_alone", "_law_alone", defArgs (top 30), defBody (top 30), defScope (top 30), [], []⟩, ⟨("_law_made", none), "_law_made", "_law_made", defArgs (top 31), defBody (top 31), defScope (top 31), [], []⟩, ⟨("_law_held", none), "_law_held", "_law_held", defArgs (top 32), defBody (top 32), defScope (top 32), [], []⟩, ⟨("law", none), "law", "law", defArgs (top 33), defBody (top 33), defScope (top 33), [], []⟩]
def fa : List Fa := [.free "ArithmeticError", .free "LookupError", .free "TypeError", .free "ValueError", .free "all", .free "int", .free "isinstance", .free "len", .free "range", .free "str", .free "super", .glo "_law_cell", .glo "_law_flags", .glo "_law_alone", .glo "_law_made", .glo "_law_held", .glo "law", .glo "TickError"]
def hx : HX := ⟨fa, defs, [x_BadName, x_BadFormula, x_NoWord, x_BadCount, x_BadEvent, x_BadSpan, x_BadState, x_NoEvent, x_NoMoment, x_BadStep, x_NoStep, x_BadEffect, x_UnlikeWorlds, x_UnlikeDeeds, x_NameInUse, x_NotThere, x_Quarrel, x_BadNumber, x_BadSlack, x_NoView, x_BadTruth, x_Contradiction, x_NoName, x_CannotHappen, x_NotDone], fun K => ckT Tt 26 isaR fldR K⟩
structure Cn (K : Fg) (mg : Str → Option Value) : Prop where
  f_ArithmeticError : mg "ArithmeticError" = none
  f_LookupError : mg "LookupError" = none
  f_TypeError : mg "TypeError" = none
  f_ValueError : mg "ValueError" = none
  f_all : mg "all" = none
  f_int : mg "int" = none
  f_isinstance : mg "isinstance" = none
  f_len : mg "len" = none
  f_range : mg "range" = none
  f_str : mg "str" = none
  f_super : mg "super" = none
  z_BadName : XOk Pg K mg "BadName" (cl K Tt 1) ["name"] ["name"]
  z_BadFormula : XOk Pg K mg "BadFormula" (cl K Tt 2) ["text"] ["text"]
  z_NoWord : XOk Pg K mg "NoWord" (cl K Tt 3) ["word"] ["word"]
  z_BadCount : XOk Pg K mg "BadCount" (cl K Tt 4) ["count"] ["count"]
  z_BadEvent : XOk Pg K mg "BadEvent" (cl K Tt 5) ["index"] ["index"]
  z_BadSpan : XOk Pg K mg "BadSpan" (cl K Tt 6) ["moment"] ["moment"]
  z_BadState : XOk Pg K mg "BadState" (cl K Tt 7) ["state"] ["state"]
  z_NoEvent : XOk Pg K mg "NoEvent" (cl K Tt 8) ["event"] ["event"]
  z_NoMoment : XOk Pg K mg "NoMoment" (cl K Tt 9) ["moment"] ["moment"]
  z_BadStep : XOk Pg K mg "BadStep" (cl K Tt 10) ["index"] ["index"]
  z_NoStep : XOk Pg K mg "NoStep" (cl K Tt 11) ["name"] ["name"]
  z_BadEffect : XOk Pg K mg "BadEffect" (cl K Tt 12) ["effect"] ["effect"]
  z_UnlikeWorlds : XOk Pg K mg "UnlikeWorlds" (cl K Tt 13) [] []
  z_UnlikeDeeds : XOk Pg K mg "UnlikeDeeds" (cl K Tt 14) [] []
  z_NameInUse : XOk Pg K mg "NameInUse" (cl K Tt 15) ["name"] ["name"]
  z_NotThere : XOk Pg K mg "NotThere" (cl K Tt 16) ["story"] ["story"]
  z_Quarrel : XOk Pg K mg "Quarrel" (cl K Tt 17) ["one", "other"] ["one", "other"]
  z_BadNumber : XOk Pg K mg "BadNumber" (cl K Tt 18) ["number"] ["number"]
  z_BadSlack : XOk Pg K mg "BadSlack" (cl K Tt 19) ["slack"] ["slack"]
  z_NoView : XOk Pg K mg "NoView" (cl K Tt 20) ["view"] ["view"]
  z_BadTruth : XOk Pg K mg "BadTruth" (cl K Tt 21) ["taken"] ["taken"]
  z_Contradiction : XOk Pg K mg "Contradiction" (cl K Tt 22) ["view"] ["view"]
  z_NoName : XOk Pg K mg "NoName" (cl K Tt 23) ["name"] ["name"]
  z_CannotHappen : XOk Pg K mg "CannotHappen" (cl K Tt 24) ["event"] ["event"]
  z_NotDone : XOk Pg K mg "NotDone" (cl K Tt 25) ["moment"] ["moment"]
  c_TickError : mg "TickError" = some (.ref (cl K Tt 0))
  isF : ∀ C : CE, C.isa = isaT isaR → IsF K Tt C
  at_ : ∀ C : CE, C.fld = fldT fldR → ∀ f, f < fsT.length → ∀ c, C.fld c f = true → AtOk K Tt c f
theorem s_BadName : XSt Pg x_BadName := by
  refine ⟨⟨rfl, rfl, rfl, by decide +kernel, rfl, rfl, by decide +kernel⟩, ⟨[("name", "name", ⟨8, 8, 8, 12⟩, ⟨8, 8, 8, 17⟩, ⟨8, 20, 8, 24⟩, ⟨8, 8, 8, 24⟩)], _, _, _, _, _, _, _, _, _, rfl, ⟨rfl, rfl, by decide +kernel⟩, by decide +kernel, by decide +kernel, rfl, rfl, fun L fI cc cdv => ⟨_, rfl⟩⟩, fun kV doc pm an cdv ct cc us hl => match us, hl with | [_, _], _ => rfl, by decide +kernel, by decide +kernel, by decide +kernel, by decide +kernel⟩
theorem s_BadFormula : XSt Pg x_BadFormula := by
  refine ⟨⟨rfl, rfl, rfl, by decide +kernel, rfl, rfl, by decide +kernel⟩, ⟨[("text", "text", ⟨13, 8, 13, 12⟩, ⟨13, 8, 13, 17⟩, ⟨13, 20, 13, 24⟩, ⟨13, 8, 13, 24⟩)], _, _, _, _, _, _, _, _, _, rfl, ⟨rfl, rfl, by decide +kernel⟩, by decide +kernel, by decide +kernel, rfl, rfl, fun L fI cc cdv => ⟨_, rfl⟩⟩, fun kV doc pm an cdv ct cc us hl => match us, hl with | [_, _], _ => rfl, by decide +kernel, by decide +kernel, by decide +kernel, by decide +kernel⟩
theorem s_NoWord : XSt Pg x_NoWord := by
  refine ⟨⟨rfl, rfl, rfl, by decide +kernel, rfl, rfl, by decide +kernel⟩, ⟨[("word", "word", ⟨18, 8, 18, 12⟩, ⟨18, 8, 18, 17⟩, ⟨18, 20, 18, 24⟩, ⟨18, 8, 18, 24⟩)], _, _, _, _, _, _, _, _, _, rfl, ⟨rfl, rfl, by decide +kernel⟩, by decide +kernel, by decide +kernel, rfl, rfl, fun L fI cc cdv => ⟨_, rfl⟩⟩, fun kV doc pm an cdv ct cc us hl => match us, hl with | [_, _], _ => rfl, by decide +kernel, by decide +kernel, by decide +kernel, by decide +kernel⟩
theorem s_BadCount : XSt Pg x_BadCount := by
  refine ⟨⟨rfl, rfl, rfl, by decide +kernel, rfl, rfl, by decide +kernel⟩, ⟨[("count", "count", ⟨23, 8, 23, 12⟩, ⟨23, 8, 23, 18⟩, ⟨23, 21, 23, 26⟩, ⟨23, 8, 23, 26⟩)], _, _, _, _, _, _, _, _, _, rfl, ⟨rfl, rfl, by decide +kernel⟩, by decide +kernel, by decide +kernel, rfl, rfl, fun L fI cc cdv => ⟨_, rfl⟩⟩, fun kV doc pm an cdv ct cc us hl => match us, hl with | [_, _], _ => rfl, by decide +kernel, by decide +kernel, by decide +kernel, by decide +kernel⟩
theorem s_BadEvent : XSt Pg x_BadEvent := by
  refine ⟨⟨rfl, rfl, rfl, by decide +kernel, rfl, rfl, by decide +kernel⟩, ⟨[("index", "index", ⟨28, 8, 28, 12⟩, ⟨28, 8, 28, 18⟩, ⟨28, 21, 28, 26⟩, ⟨28, 8, 28, 26⟩)], _, _, _, _, _, _, _, _, _, rfl, ⟨rfl, rfl, by decide +kernel⟩, by decide +kernel, by decide +kernel, rfl, rfl, fun L fI cc cdv => ⟨_, rfl⟩⟩, fun kV doc pm an cdv ct cc us hl => match us, hl with | [_, _], _ => rfl, by decide +kernel, by decide +kernel, by decide +kernel, by decide +kernel⟩
theorem s_BadSpan : XSt Pg x_BadSpan := by
  refine ⟨⟨rfl, rfl, rfl, by decide +kernel, rfl, rfl, by decide +kernel⟩, ⟨[("moment", "moment", ⟨33, 8, 33, 12⟩, ⟨33, 8, 33, 19⟩, ⟨33, 22, 33, 28⟩, ⟨33, 8, 33, 28⟩)], _, _, _, _, _, _, _, _, _, rfl, ⟨rfl, rfl, by decide +kernel⟩, by decide +kernel, by decide +kernel, rfl, rfl, fun L fI cc cdv => ⟨_, rfl⟩⟩, fun kV doc pm an cdv ct cc us hl => match us, hl with | [_, _], _ => rfl, by decide +kernel, by decide +kernel, by decide +kernel, by decide +kernel⟩
theorem s_BadState : XSt Pg x_BadState := by
  refine ⟨⟨rfl, rfl, rfl, by decide +kernel, rfl, rfl, by decide +kernel⟩, ⟨[("state", "state", ⟨38, 8, 38, 12⟩, ⟨38, 8, 38, 18⟩, ⟨38, 21, 38, 26⟩, ⟨38, 8, 38, 26⟩)], _, _, _, _, _, _, _, _, _, rfl, ⟨rfl, rfl, by decide +kernel⟩, by decide +kernel, by decide +kernel, rfl, rfl, fun L fI cc cdv => ⟨_, rfl⟩⟩, fun kV doc pm an cdv ct cc us hl => match us, hl with | [_, _], _ => rfl, by decide +kernel, by decide +kernel, by decide +kernel, by decide +kernel⟩
theorem s_NoEvent : XSt Pg x_NoEvent := by
  refine ⟨⟨rfl, rfl, rfl, by decide +kernel, rfl, rfl, by decide +kernel⟩, ⟨[("event", "event", ⟨43, 8, 43, 12⟩, ⟨43, 8, 43, 18⟩, ⟨43, 21, 43, 26⟩, ⟨43, 8, 43, 26⟩)], _, _, _, _, _, _, _, _, _, rfl, ⟨rfl, rfl, by decide +kernel⟩, by decide +kernel, by decide +kernel, rfl, rfl, fun L fI cc cdv => ⟨_, rfl⟩⟩, fun kV doc pm an cdv ct cc us hl => match us, hl with | [_, _], _ => rfl, by decide +kernel, by decide +kernel, by decide +kernel, by decide +kernel⟩
theorem s_NoMoment : XSt Pg x_NoMoment := by
  refine ⟨⟨rfl, rfl, rfl, by decide +kernel, rfl, rfl, by decide +kernel⟩, ⟨[("moment", "moment", ⟨48, 8, 48, 12⟩, ⟨48, 8, 48, 19⟩, ⟨48, 22, 48, 28⟩, ⟨48, 8, 48, 28⟩)], _, _, _, _, _, _, _, _, _, rfl, ⟨rfl, rfl, by decide +kernel⟩, by decide +kernel, by decide +kernel, rfl, rfl, fun L fI cc cdv => ⟨_, rfl⟩⟩, fun kV doc pm an cdv ct cc us hl => match us, hl with | [_, _], _ => rfl, by decide +kernel, by decide +kernel, by decide +kernel, by decide +kernel⟩
theorem s_BadStep : XSt Pg x_BadStep := by
  refine ⟨⟨rfl, rfl, rfl, by decide +kernel, rfl, rfl, by decide +kernel⟩, ⟨[("index", "index", ⟨53, 8, 53, 12⟩, ⟨53, 8, 53, 18⟩, ⟨53, 21, 53, 26⟩, ⟨53, 8, 53, 26⟩)], _, _, _, _, _, _, _, _, _, rfl, ⟨rfl, rfl, by decide +kernel⟩, by decide +kernel, by decide +kernel, rfl, rfl, fun L fI cc cdv => ⟨_, rfl⟩⟩, fun kV doc pm an cdv ct cc us hl => match us, hl with | [_, _], _ => rfl, by decide +kernel, by decide +kernel, by decide +kernel, by decide +kernel⟩
theorem s_NoStep : XSt Pg x_NoStep := by
  refine ⟨⟨rfl, rfl, rfl, by decide +kernel, rfl, rfl, by decide +kernel⟩, ⟨[("name", "name", ⟨58, 8, 58, 12⟩, ⟨58, 8, 58, 17⟩, ⟨58, 20, 58, 24⟩, ⟨58, 8, 58, 24⟩)], _, _, _, _, _, _, _, _, _, rfl, ⟨rfl, rfl, by decide +kernel⟩, by decide +kernel, by decide +kernel, rfl, rfl, fun L fI cc cdv => ⟨_, rfl⟩⟩, fun kV doc pm an cdv ct cc us hl => match us, hl with | [_, _], _ => rfl, by decide +kernel, by decide +kernel, by decide +kernel, by decide +kernel⟩
theorem s_BadEffect : XSt Pg x_BadEffect := by
  refine ⟨⟨rfl, rfl, rfl, by decide +kernel, rfl, rfl, by decide +kernel⟩, ⟨[("effect", "effect", ⟨63, 8, 63, 12⟩, ⟨63, 8, 63, 19⟩, ⟨63, 22, 63, 28⟩, ⟨63, 8, 63, 28⟩)], _, _, _, _, _, _, _, _, _, rfl, ⟨rfl, rfl, by decide +kernel⟩, by decide +kernel, by decide +kernel, rfl, rfl, fun L fI cc cdv => ⟨_, rfl⟩⟩, fun kV doc pm an cdv ct cc us hl => match us, hl with | [_, _], _ => rfl, by decide +kernel, by decide +kernel, by decide +kernel, by decide +kernel⟩
theorem s_UnlikeWorlds : XSt Pg x_UnlikeWorlds := by
  refine ⟨⟨rfl, rfl, rfl, by decide +kernel, rfl, rfl, by decide +kernel⟩, ⟨[], _, _, _, _, _, _, _, _, _, rfl, ⟨rfl, rfl, by decide +kernel⟩, by decide +kernel, by decide +kernel, rfl, rfl, fun L fI cc cdv => ⟨_, rfl⟩⟩, fun kV doc pm an cdv ct cc us hl => match us, hl with | [_], _ => rfl, by decide +kernel, by decide +kernel, by decide +kernel, by decide +kernel⟩
theorem s_UnlikeDeeds : XSt Pg x_UnlikeDeeds := by
  refine ⟨⟨rfl, rfl, rfl, by decide +kernel, rfl, rfl, by decide +kernel⟩, ⟨[], _, _, _, _, _, _, _, _, _, rfl, ⟨rfl, rfl, by decide +kernel⟩, by decide +kernel, by decide +kernel, rfl, rfl, fun L fI cc cdv => ⟨_, rfl⟩⟩, fun kV doc pm an cdv ct cc us hl => match us, hl with | [_], _ => rfl, by decide +kernel, by decide +kernel, by decide +kernel, by decide +kernel⟩
theorem s_NameInUse : XSt Pg x_NameInUse := by
  refine ⟨⟨rfl, rfl, rfl, by decide +kernel, rfl, rfl, by decide +kernel⟩, ⟨[("name", "name", ⟨76, 8, 76, 12⟩, ⟨76, 8, 76, 17⟩, ⟨76, 20, 76, 24⟩, ⟨76, 8, 76, 24⟩)], _, _, _, _, _, _, _, _, _, rfl, ⟨rfl, rfl, by decide +kernel⟩, by decide +kernel, by decide +kernel, rfl, rfl, fun L fI cc cdv => ⟨_, rfl⟩⟩, fun kV doc pm an cdv ct cc us hl => match us, hl with | [_, _], _ => rfl, by decide +kernel, by decide +kernel, by decide +kernel, by decide +kernel⟩
theorem s_NotThere : XSt Pg x_NotThere := by
  refine ⟨⟨rfl, rfl, rfl, by decide +kernel, rfl, rfl, by decide +kernel⟩, ⟨[("story", "story", ⟨81, 8, 81, 12⟩, ⟨81, 8, 81, 18⟩, ⟨81, 21, 81, 26⟩, ⟨81, 8, 81, 26⟩)], _, _, _, _, _, _, _, _, _, rfl, ⟨rfl, rfl, by decide +kernel⟩, by decide +kernel, by decide +kernel, rfl, rfl, fun L fI cc cdv => ⟨_, rfl⟩⟩, fun kV doc pm an cdv ct cc us hl => match us, hl with | [_, _], _ => rfl, by decide +kernel, by decide +kernel, by decide +kernel, by decide +kernel⟩
theorem s_Quarrel : XSt Pg x_Quarrel := by
  refine ⟨⟨rfl, rfl, rfl, by decide +kernel, rfl, rfl, by decide +kernel⟩, ⟨[("one", "one", ⟨86, 8, 86, 12⟩, ⟨86, 8, 86, 16⟩, ⟨86, 19, 86, 22⟩, ⟨86, 8, 86, 22⟩), ("other", "other", ⟨87, 8, 87, 12⟩, ⟨87, 8, 87, 18⟩, ⟨87, 21, 87, 26⟩, ⟨87, 8, 87, 26⟩)], _, _, _, _, _, _, _, _, _, rfl, ⟨rfl, rfl, by decide +kernel⟩, by decide +kernel, by decide +kernel, rfl, rfl, fun L fI cc cdv => ⟨_, rfl⟩⟩, fun kV doc pm an cdv ct cc us hl => match us, hl with | [_, _, _], _ => rfl, by decide +kernel, by decide +kernel, by decide +kernel, by decide +kernel⟩
theorem s_BadNumber : XSt Pg x_BadNumber := by
  refine ⟨⟨rfl, rfl, rfl, by decide +kernel, rfl, rfl, by decide +kernel⟩, ⟨[("number", "number", ⟨92, 8, 92, 12⟩, ⟨92, 8, 92, 19⟩, ⟨92, 22, 92, 28⟩, ⟨92, 8, 92, 28⟩)], _, _, _, _, _, _, _, _, _, rfl, ⟨rfl, rfl, by decide +kernel⟩, by decide +kernel, by decide +kernel, rfl, rfl, fun L fI cc cdv => ⟨_, rfl⟩⟩, fun kV doc pm an cdv ct cc us hl => match us, hl with | [_, _], _ => rfl, by decide +kernel, by decide +kernel, by decide +kernel, by decide +kernel⟩
theorem s_BadSlack : XSt Pg x_BadSlack := by
  refine ⟨⟨rfl, rfl, rfl, by decide +kernel, rfl, rfl, by decide +kernel⟩, ⟨[("slack", "slack", ⟨97, 8, 97, 12⟩, ⟨97, 8, 97, 18⟩, ⟨97, 21, 97, 26⟩, ⟨97, 8, 97, 26⟩)], _, _, _, _, _, _, _, _, _, rfl, ⟨rfl, rfl, by decide +kernel⟩, by decide +kernel, by decide +kernel, rfl, rfl, fun L fI cc cdv => ⟨_, rfl⟩⟩, fun kV doc pm an cdv ct cc us hl => match us, hl with | [_, _], _ => rfl, by decide +kernel, by decide +kernel, by decide +kernel, by decide +kernel⟩
theorem s_NoView : XSt Pg x_NoView := by
  refine ⟨⟨rfl, rfl, rfl, by decide +kernel, rfl, rfl, by decide +kernel⟩, ⟨[("view", "view", ⟨102, 8, 102, 12⟩, ⟨102, 8, 102, 17⟩, ⟨102, 20, 102, 24⟩, ⟨102, 8, 102, 24⟩)], _, _, _, _, _, _, _, _, _, rfl, ⟨rfl, rfl, by decide +kernel⟩, by decide +kernel, by decide +kernel, rfl, rfl, fun L fI cc cdv => ⟨_, rfl⟩⟩, fun kV doc pm an cdv ct cc us hl => match us, hl with | [_, _], _ => rfl, by decide +kernel, by decide +kernel, by decide +kernel, by decide +kernel⟩
theorem s_BadTruth : XSt Pg x_BadTruth := by
  refine ⟨⟨rfl, rfl, rfl, by decide +kernel, rfl, rfl, by decide +kernel⟩, ⟨[("taken", "taken", ⟨107, 8, 107, 12⟩, ⟨107, 8, 107, 18⟩, ⟨107, 21, 107, 26⟩, ⟨107, 8, 107, 26⟩)], _, _, _, _, _, _, _, _, _, rfl, ⟨rfl, rfl, by decide +kernel⟩, by decide +kernel, by decide +kernel, rfl, rfl, fun L fI cc cdv => ⟨_, rfl⟩⟩, fun kV doc pm an cdv ct cc us hl => match us, hl with | [_, _], _ => rfl, by decide +kernel, by decide +kernel, by decide +kernel, by decide +kernel⟩
theorem s_Contradiction : XSt Pg x_Contradiction := by
  refine ⟨⟨rfl, rfl, rfl, by decide +kernel, rfl, rfl, by decide +kernel⟩, ⟨[("view", "view", ⟨112, 8, 112, 12⟩, ⟨112, 8, 112, 17⟩, ⟨112, 20, 112, 24⟩, ⟨112, 8, 112, 24⟩)], _, _, _, _, _, _, _, _, _, rfl, ⟨rfl, rfl, by decide +kernel⟩, by decide +kernel, by decide +kernel, rfl, rfl, fun L fI cc cdv => ⟨_, rfl⟩⟩, fun kV doc pm an cdv ct cc us hl => match us, hl with | [_, _], _ => rfl, by decide +kernel, by decide +kernel, by decide +kernel, by decide +kernel⟩
theorem s_NoName : XSt Pg x_NoName := by
  refine ⟨⟨rfl, rfl, rfl, by decide +kernel, rfl, rfl, by decide +kernel⟩, ⟨[("name", "name", ⟨117, 8, 117, 12⟩, ⟨117, 8, 117, 17⟩, ⟨117, 20, 117, 24⟩, ⟨117, 8, 117, 24⟩)], _, _, _, _, _, _, _, _, _, rfl, ⟨rfl, rfl, by decide +kernel⟩, by decide +kernel, by decide +kernel, rfl, rfl, fun L fI cc cdv => ⟨_, rfl⟩⟩, fun kV doc pm an cdv ct cc us hl => match us, hl with | [_, _], _ => rfl, by decide +kernel, by decide +kernel, by decide +kernel, by decide +kernel⟩
theorem s_CannotHappen : XSt Pg x_CannotHappen := by
  refine ⟨⟨rfl, rfl, rfl, by decide +kernel, rfl, rfl, by decide +kernel⟩, ⟨[("event", "event", ⟨122, 8, 122, 12⟩, ⟨122, 8, 122, 18⟩, ⟨122, 21, 122, 26⟩, ⟨122, 8, 122, 26⟩)], _, _, _, _, _, _, _, _, _, rfl, ⟨rfl, rfl, by decide +kernel⟩, by decide +kernel, by decide +kernel, rfl, rfl, fun L fI cc cdv => ⟨_, rfl⟩⟩, fun kV doc pm an cdv ct cc us hl => match us, hl with | [_, _], _ => rfl, by decide +kernel, by decide +kernel, by decide +kernel, by decide +kernel⟩
theorem s_NotDone : XSt Pg x_NotDone := by
  refine ⟨⟨rfl, rfl, rfl, by decide +kernel, rfl, rfl, by decide +kernel⟩, ⟨[("moment", "moment", ⟨127, 8, 127, 12⟩, ⟨127, 8, 127, 19⟩, ⟨127, 22, 127, 28⟩, ⟨127, 8, 127, 28⟩)], _, _, _, _, _, _, _, _, _, rfl, ⟨rfl, rfl, by decide +kernel⟩, by decide +kernel, by decide +kernel, rfl, rfl, fun L fI cc cdv => ⟨_, rfl⟩⟩, fun kV doc pm an cdv ct cc us hl => match us, hl with | [_, _], _ => rfl, by decide +kernel, by decide +kernel, by decide +kernel, by decide +kernel⟩
section
variable {w : World} {K : Fg} {mg : Str → Option Value} {base : Heap} {f : Addr} {fd : FuncData}
theorem sc__law_cell : FnScope ["_law_script", "_law_k"] ["_law_script", "_law_k"] (defScope (top 28)) := ⟨rfl, rfl, rfl, by decide +kernel, rfl, by decide +kernel, by decide +kernel⟩
theorem ok__law_cell (cn : Cn K mg)  (F : FunD K "_law_cell" "_law_cell" (defArgs (top 28)) (defBody (top 28)) (defScope (top 28)) [] [] f fd) : FnOk Pg w K mg base (L2.CX Pg w) 1 f fd ["_law_script", "_law_k"] (spP K Tt (g0.run C0)) := by
  refine fn_okP F sc__law_cell rfl rfl fun cdv A outer s H E hr => ?_
  have tk := takes_of (X := cxOf (L2.CX Pg w) Pg w K mg base ["_law_script", "_law_k"] "_law_cell" (defScope (top 28)) f cdv A outer s H E) (E := E) rfl rfl rfl rfl
  have hcalm : (cxOf (L2.CX Pg w) Pg w K mg base ["_law_script", "_law_k"] "_law_cell" (defScope (top 28)) f cdv A outer s H E).calm = true := rfl
  have hN : (cxOf (L2.CX Pg w) Pg w K mg base ["_law_script", "_law_k"] "_law_cell" (defScope (top 28)) f cdv A outer s H E).N.Nodup := sc__law_cell.nd
  exact (sd_cons (sd_if (pt_cmp' cm_lt mono0 (pd_var 1) (pd_len mono0 (by exact rfl) cn.f_len (pd_var 0)) (nomark _)) (sd_one (sd_ret (pd_idx mono0 (pd_var 0) (pd_var 1)))) sd_nil)
  (sd_one (sd_ret pd_int)))
theorem sc__law_flags : FnScope ["_law_e", "_law_out"] ["_law_e"] (defScope (top 29)) := ⟨rfl, rfl, rfl, by decide +kernel, rfl, by decide +kernel, by decide +kernel⟩
theorem ok__law_flags (cn : Cn K mg)  (F : FunD K "_law_flags" "_law_flags" (defArgs (top 29)) (defBody (top 29)) (defScope (top 29)) [] [] f fd) : FnOk Pg w K mg base (L2.CX Pg w) 1 f fd ["_law_e"] (spP K Tt (g1.run C1)) := by
  refine fn_okP F sc__law_flags rfl rfl fun cdv A outer s H E hr => ?_
  have tk := takes_of (X := cxOf (L2.CX Pg w) Pg w K mg base ["_law_e", "_law_out"] "_law_flags" (defScope (top 29)) f cdv A outer s H E) (E := E) rfl rfl rfl rfl
  have hcalm : (cxOf (L2.CX Pg w) Pg w K mg base ["_law_e", "_law_out"] "_law_flags" (defScope (top 29)) f cdv A outer s H E).calm = true := rfl
  have hN : (cxOf (L2.CX Pg w) Pg w K mg base ["_law_e", "_law_out"] "_law_flags" (defScope (top 29)) f cdv A outer s H E).N.Nodup := sc__law_flags.nd
  exact (sd_cons (sd_asg (pd_new mono0 (pds_cons mono0 (pd_isi mono0 (cn.isF _ rfl) (by exact rfl) cn.f_isinstance (pd_var 0) (pcl_own (c := 4) (by exact rfl) cn.z_BadCount.gC)) (pds_cons mono0 (pd_isi mono0 (cn.isF _ rfl) (by exact rfl) cn.f_isinstance (pd_var 0) (pcl_own (c := 12) (by exact rfl) cn.z_BadEffect.gC)) (pds_cons mono0 (pd_isi mono0 (cn.isF _ rfl) (by exact rfl) cn.f_isinstance (pd_var 0) (pcl_own (c := 5) (by exact rfl) cn.z_BadEvent.gC)) (pds_cons mono0 (pd_isi mono0 (cn.isF _ rfl) (by exact rfl) cn.f_isinstance (pd_var 0) (pcl_own (c := 2) (by exact rfl) cn.z_BadFormula.gC)) pds_nil))))) (pgd_nm 1 hN))
  (sd_cons (sd_ext (pd_var 1) (pd_lst mono0 (pds_cons mono0 (pd_isi mono0 (cn.isF _ rfl) (by exact rfl) cn.f_isinstance (pd_var 0) (pcl_own (c := 1) (by exact rfl) cn.z_BadName.gC)) (pds_cons mono0 (pd_isi mono0 (cn.isF _ rfl) (by exact rfl) cn.f_isinstance (pd_var 0) (pcl_own (c := 18) (by exact rfl) cn.z_BadNumber.gC)) (pds_cons mono0 (pd_isi mono0 (cn.isF _ rfl) (by exact rfl) cn.f_isinstance (pd_var 0) (pcl_own (c := 19) (by exact rfl) cn.z_BadSlack.gC)) (pds_cons mono0 (pd_isi mono0 (cn.isF _ rfl) (by exact rfl) cn.f_isinstance (pd_var 0) (pcl_own (c := 6) (by exact rfl) cn.z_BadSpan.gC)) pds_nil))))))
  (sd_cons (sd_ext (pd_var 1) (pd_lst mono0 (pds_cons mono0 (pd_isi mono0 (cn.isF _ rfl) (by exact rfl) cn.f_isinstance (pd_var 0) (pcl_own (c := 7) (by exact rfl) cn.z_BadState.gC)) (pds_cons mono0 (pd_isi mono0 (cn.isF _ rfl) (by exact rfl) cn.f_isinstance (pd_var 0) (pcl_own (c := 10) (by exact rfl) cn.z_BadStep.gC)) (pds_cons mono0 (pd_isi mono0 (cn.isF _ rfl) (by exact rfl) cn.f_isinstance (pd_var 0) (pcl_own (c := 21) (by exact rfl) cn.z_BadTruth.gC)) (pds_cons mono0 (pd_isi mono0 (cn.isF _ rfl) (by exact rfl) cn.f_isinstance (pd_var 0) (pcl_own (c := 24) (by exact rfl) cn.z_CannotHappen.gC)) pds_nil))))))
  (sd_cons (sd_ext (pd_var 1) (pd_lst mono0 (pds_cons mono0 (pd_isi mono0 (cn.isF _ rfl) (by exact rfl) cn.f_isinstance (pd_var 0) (pcl_own (c := 22) (by exact rfl) cn.z_Contradiction.gC)) (pds_cons mono0 (pd_isi mono0 (cn.isF _ rfl) (by exact rfl) cn.f_isinstance (pd_var 0) (pcl_own (c := 15) (by exact rfl) cn.z_NameInUse.gC)) (pds_cons mono0 (pd_isi mono0 (cn.isF _ rfl) (by exact rfl) cn.f_isinstance (pd_var 0) (pcl_own (c := 8) (by exact rfl) cn.z_NoEvent.gC)) pds_nil)))))
  (sd_cons (sd_app (pd_var 1) (pd_isi mono0 (cn.isF _ rfl) (by exact rfl) cn.f_isinstance (pd_var 0) (pcl_own (c := 9) (by exact rfl) cn.z_NoMoment.gC)))
  (sd_cons (sd_ext (pd_var 1) (pd_lst mono0 (pds_cons mono0 (pd_isi mono0 (cn.isF _ rfl) (by exact rfl) cn.f_isinstance (pd_var 0) (pcl_own (c := 23) (by exact rfl) cn.z_NoName.gC)) (pds_cons mono0 (pd_isi mono0 (cn.isF _ rfl) (by exact rfl) cn.f_isinstance (pd_var 0) (pcl_own (c := 11) (by exact rfl) cn.z_NoStep.gC)) (pds_cons mono0 (pd_isi mono0 (cn.isF _ rfl) (by exact rfl) cn.f_isinstance (pd_var 0) (pcl_own (c := 20) (by exact rfl) cn.z_NoView.gC)) (pds_cons mono0 (pd_isi mono0 (cn.isF _ rfl) (by exact rfl) cn.f_isinstance (pd_var 0) (pcl_own (c := 3) (by exact rfl) cn.z_NoWord.gC)) pds_nil))))))
  (sd_cons (sd_ext (pd_var 1) (pd_lst mono0 (pds_cons mono0 (pd_isi mono0 (cn.isF _ rfl) (by exact rfl) cn.f_isinstance (pd_var 0) (pcl_own (c := 25) (by exact rfl) cn.z_NotDone.gC)) (pds_cons mono0 (pd_isi mono0 (cn.isF _ rfl) (by exact rfl) cn.f_isinstance (pd_var 0) (pcl_own (c := 16) (by exact rfl) cn.z_NotThere.gC)) (pds_cons mono0 (pd_isi mono0 (cn.isF _ rfl) (by exact rfl) cn.f_isinstance (pd_var 0) (pcl_own (c := 17) (by exact rfl) cn.z_Quarrel.gC)) (pds_cons mono0 (pd_isi mono0 (cn.isF _ rfl) (by exact rfl) cn.f_isinstance (pd_var 0) (pcl_own (c := 14) (by exact rfl) cn.z_UnlikeDeeds.gC)) pds_nil))))))
  (sd_one (sd_ret (pd_add mono0 (pd_var 1) (pd_lst mono0 (pds_cons mono0 (pd_isi mono0 (cn.isF _ rfl) (by exact rfl) cn.f_isinstance (pd_var 0) (pcl_own (c := 13) (by exact rfl) cn.z_UnlikeWorlds.gC)) pds_nil))))))))))))
theorem sc__law_alone : FnScope ["_law_e", "_law_place", "_law_flags_here"] ["_law_e", "_law_place"] (defScope (top 30)) := ⟨rfl, rfl, rfl, by decide +kernel, rfl, by decide +kernel, by decide +kernel⟩
theorem ok__law_alone (cn : Cn K mg) (D__law_flags : DefOk Pg w K mg base Tt 1 "_law_flags" (C2.fn 1)) (F : FunD K "_law_alone" "_law_alone" (defArgs (top 30)) (defBody (top 30)) (defScope (top 30)) [] [] f fd) : FnOk Pg w K mg base (L2.CX Pg w) 2 f fd ["_law_e", "_law_place"] (spP K Tt (g2.run C2)) := by
  refine fn_okP F sc__law_alone rfl rfl fun cdv A outer s H E hr => ?_
  have tk := takes_of (X := cxOf (L2.CX Pg w) Pg w K mg base ["_law_e", "_law_place", "_law_flags_here"] "_law_alone" (defScope (top 30)) f cdv A outer s H E) (E := E) rfl rfl rfl rfl
  have hcalm : (cxOf (L2.CX Pg w) Pg w K mg base ["_law_e", "_law_place", "_law_flags_here"] "_law_alone" (defScope (top 30)) f cdv A outer s H E).calm = true := rfl
  have hN : (cxOf (L2.CX Pg w) Pg w K mg base ["_law_e", "_law_place", "_law_flags_here"] "_law_alone" (defScope (top 30)) f cdv A outer s H E).N.Nodup := sc__law_alone.nd
  exact (sd_cons (sd_asg (pd_call mono0 tk hr D__law_flags (by exact rfl) (pds_cons mono0 (pd_var 0) pds_nil)) (pgd_nm 2 hN))
  (sd_cons (sd_if (pt_val' (pd_isiM mono0 (cn.isF _ rfl) (by exact rfl) cn.f_isinstance (pd_var 0) (pcls_cons (pcl_blt (n := "LookupError") (by exact rfl) cn.f_LookupError (by decide +kernel)) (pcls_cons (pcl_blt (n := "TypeError") (by exact rfl) cn.f_TypeError (by decide +kernel)) (pcls_cons (pcl_blt (n := "ArithmeticError") (by exact rfl) cn.f_ArithmeticError (by decide +kernel)) pcls_nil))))) (sd_one (sd_ret pd_bl)) sd_nil)
  (sd_one (sd_ret (pd_and mono0 (pd_isi mono0 (cn.isF _ rfl) (by exact rfl) cn.f_isinstance (pd_var 0) (pcl_own (c := 0) (by exact rfl) cn.c_TickError)) (pd_and mono0 (pd_isi mono0 (cn.isF _ rfl) (by exact rfl) cn.f_isinstance (pd_var 0) (pcl_blt (n := "ValueError") (by exact rfl) cn.f_ValueError (by decide +kernel))) (pd_and mono0 (pd_cmp (cm_eq hr) mono0 (pd_count mono0 hr (pd_var 2) pd_bl) pd_int (nomark _)) (pd_one1 (pd_idx mono0 (pd_var 2) (pd_var 1))))))))))
theorem sc__law_made : FnScope ["_law_x", "_law_out"] ["_law_x"] (defScope (top 31)) := ⟨rfl, rfl, rfl, by decide +kernel, rfl, by decide +kernel, by decide +kernel⟩
theorem ok__law_made (cn : Cn K mg)  (F : FunD K "_law_made" "_law_made" (defArgs (top 31)) (defBody (top 31)) (defScope (top 31)) [] [] f fd) : FnOk Pg w K mg base (L2.CX Pg w) 1 f fd ["_law_x"] (spP K Tt (g3.run C3)) := by
  refine fn_okP F sc__law_made rfl rfl fun cdv A outer s H E hr => ?_
  have tk := takes_of (X := cxOf (L2.CX Pg w) Pg w K mg base ["_law_x", "_law_out"] "_law_made" (defScope (top 31)) f cdv A outer s H E) (E := E) rfl rfl rfl rfl
  have hcalm : (cxOf (L2.CX Pg w) Pg w K mg base ["_law_x", "_law_out"] "_law_made" (defScope (top 31)) f cdv A outer s H E).calm = true := rfl
  have hN : (cxOf (L2.CX Pg w) Pg w K mg base ["_law_x", "_law_out"] "_law_made" (defScope (top 31)) f cdv A outer s H E).N.Nodup := sc__law_made.nd
  exact (sd_cons (sd_asg (pd_lst mono0 (pds_cons mono0 (pd_tup mono0 (pds_cons mono0 (pd_makeX (fl := [3]) mono0 cn.z_BadCount (by exact rfl) (by exact rfl) (by exact rfl) hr (by exact rfl) (pds_cons mono0 (pd_var 0) pds_nil)) (pds_cons mono0 pd_int pds_nil))) (pds_cons mono0 (pd_tup mono0 (pds_cons mono0 (pd_makeX (fl := [8]) mono0 cn.z_BadEffect (by exact rfl) (by exact rfl) (by exact rfl) hr (by exact rfl) (pds_cons mono0 (pd_var 0) pds_nil)) (pds_cons mono0 pd_int pds_nil))) (pds_cons mono0 (pd_tup mono0 (pds_cons mono0 (pd_makeX (fl := [4]) mono0 cn.z_BadEvent (by exact rfl) (by exact rfl) (by exact rfl) hr (by exact rfl) (pds_cons mono0 (pd_var 0) pds_nil)) (pds_cons mono0 pd_int pds_nil))) (pds_cons mono0 (pd_tup mono0 (pds_cons mono0 (pd_makeX (fl := [1]) mono0 cn.z_BadFormula (by exact rfl) (by exact rfl) (by exact rfl) hr (by exact rfl) (pds_cons mono0 (pd_var 0) pds_nil)) (pds_cons mono0 pd_int pds_nil))) (pds_cons mono0 (pd_tup mono0 (pds_cons mono0 (pd_makeX (fl := [0]) mono0 cn.z_BadName (by exact rfl) (by exact rfl) (by exact rfl) hr (by exact rfl) (pds_cons mono0 (pd_var 0) pds_nil)) (pds_cons mono0 pd_int pds_nil))) pds_nil)))))) (pgd_nm 1 hN))
  (sd_cons (sd_asg (pd_add mono0 (pd_var 1) (pd_lst mono0 (pds_cons mono0 (pd_tup mono0 (pds_cons mono0 (pd_makeX (fl := [12]) mono0 cn.z_BadNumber (by exact rfl) (by exact rfl) (by exact rfl) hr (by exact rfl) (pds_cons mono0 (pd_var 0) pds_nil)) (pds_cons mono0 pd_int pds_nil))) (pds_cons mono0 (pd_tup mono0 (pds_cons mono0 (pd_makeX (fl := [13]) mono0 cn.z_BadSlack (by exact rfl) (by exact rfl) (by exact rfl) hr (by exact rfl) (pds_cons mono0 (pd_var 0) pds_nil)) (pds_cons mono0 pd_int pds_nil))) (pds_cons mono0 (pd_tup mono0 (pds_cons mono0 (pd_makeX (fl := [5]) mono0 cn.z_BadSpan (by exact rfl) (by exact rfl) (by exact rfl) hr (by exact rfl) (pds_cons mono0 (pd_var 0) pds_nil)) (pds_cons mono0 pd_int pds_nil))) (pds_cons mono0 (pd_tup mono0 (pds_cons mono0 (pd_makeX (fl := [6]) mono0 cn.z_BadState (by exact rfl) (by exact rfl) (by exact rfl) hr (by exact rfl) (pds_cons mono0 (pd_var 0) pds_nil)) (pds_cons mono0 pd_int pds_nil))) (pds_cons mono0 (pd_tup mono0 (pds_cons mono0 (pd_makeX (fl := [4]) mono0 cn.z_BadStep (by exact rfl) (by exact rfl) (by exact rfl) hr (by exact rfl) (pds_cons mono0 (pd_var 0) pds_nil)) (pds_cons mono0 pd_int pds_nil))) pds_nil))))))) (pgd_nm 1 hN))
  (sd_cons (sd_asg (pd_add mono0 (pd_var 1) (pd_lst mono0 (pds_cons mono0 (pd_tup mono0 (pds_cons mono0 (pd_makeX (fl := [15]) mono0 cn.z_BadTruth (by exact rfl) (by exact rfl) (by exact rfl) hr (by exact rfl) (pds_cons mono0 (pd_var 0) pds_nil)) (pds_cons mono0 pd_int pds_nil))) (pds_cons mono0 (pd_tup mono0 (pds_cons mono0 (pd_makeX (fl := [7]) mono0 cn.z_CannotHappen (by exact rfl) (by exact rfl) (by exact rfl) hr (by exact rfl) (pds_cons mono0 (pd_var 0) pds_nil)) (pds_cons mono0 pd_int pds_nil))) (pds_cons mono0 (pd_tup mono0 (pds_cons mono0 (pd_makeX (fl := [14]) mono0 cn.z_Contradiction (by exact rfl) (by exact rfl) (by exact rfl) hr (by exact rfl) (pds_cons mono0 (pd_var 0) pds_nil)) (pds_cons mono0 pd_int pds_nil))) (pds_cons mono0 (pd_tup mono0 (pds_cons mono0 (pd_makeX (fl := [0]) mono0 cn.z_NameInUse (by exact rfl) (by exact rfl) (by exact rfl) hr (by exact rfl) (pds_cons mono0 (pd_var 0) pds_nil)) (pds_cons mono0 pd_int pds_nil))) pds_nil)))))) (pgd_nm 1 hN))
  (sd_cons (sd_asg (pd_add mono0 (pd_var 1) (pd_lst mono0 (pds_cons mono0 (pd_tup mono0 (pds_cons mono0 (pd_makeX (fl := [7]) mono0 cn.z_NoEvent (by exact rfl) (by exact rfl) (by exact rfl) hr (by exact rfl) (pds_cons mono0 (pd_var 0) pds_nil)) (pds_cons mono0 pd_int pds_nil))) (pds_cons mono0 (pd_tup mono0 (pds_cons mono0 (pd_makeX (fl := [5]) mono0 cn.z_NoMoment (by exact rfl) (by exact rfl) (by exact rfl) hr (by exact rfl) (pds_cons mono0 (pd_var 0) pds_nil)) (pds_cons mono0 pd_int pds_nil))) (pds_cons mono0 (pd_tup mono0 (pds_cons mono0 (pd_makeX (fl := [0]) mono0 cn.z_NoName (by exact rfl) (by exact rfl) (by exact rfl) hr (by exact rfl) (pds_cons mono0 (pd_var 0) pds_nil)) (pds_cons mono0 pd_int pds_nil))) (pds_cons mono0 (pd_tup mono0 (pds_cons mono0 (pd_makeX (fl := [0]) mono0 cn.z_NoStep (by exact rfl) (by exact rfl) (by exact rfl) hr (by exact rfl) (pds_cons mono0 (pd_var 0) pds_nil)) (pds_cons mono0 pd_int pds_nil))) (pds_cons mono0 (pd_tup mono0 (pds_cons mono0 (pd_makeX (fl := [14]) mono0 cn.z_NoView (by exact rfl) (by exact rfl) (by exact rfl) hr (by exact rfl) (pds_cons mono0 (pd_var 0) pds_nil)) (pds_cons mono0 pd_int pds_nil))) pds_nil))))))) (pgd_nm 1 hN))
  (sd_cons (sd_asg (pd_add mono0 (pd_var 1) (pd_lst mono0 (pds_cons mono0 (pd_tup mono0 (pds_cons mono0 (pd_makeX (fl := [2]) mono0 cn.z_NoWord (by exact rfl) (by exact rfl) (by exact rfl) hr (by exact rfl) (pds_cons mono0 (pd_var 0) pds_nil)) (pds_cons mono0 pd_int pds_nil))) (pds_cons mono0 (pd_tup mono0 (pds_cons mono0 (pd_makeX (fl := [5]) mono0 cn.z_NotDone (by exact rfl) (by exact rfl) (by exact rfl) hr (by exact rfl) (pds_cons mono0 (pd_var 0) pds_nil)) (pds_cons mono0 pd_int pds_nil))) (pds_cons mono0 (pd_tup mono0 (pds_cons mono0 (pd_makeX (fl := [9]) mono0 cn.z_NotThere (by exact rfl) (by exact rfl) (by exact rfl) hr (by exact rfl) (pds_cons mono0 (pd_var 0) pds_nil)) (pds_cons mono0 pd_int pds_nil))) pds_nil))))) (pgd_nm 1 hN))
  (sd_one (sd_ret (pd_add mono0 (pd_var 1) (pd_lst mono0 (pds_cons mono0 (pd_tup mono0 (pds_cons mono0 (pd_makeX (fl := [10, 11]) mono0 cn.z_Quarrel (by exact rfl) (by exact rfl) (by exact rfl) hr (by exact rfl) (pds_cons mono0 (pd_var 0) (pds_cons mono0 (pd_lst mono0 (pds_cons mono0 (pd_var 0) pds_nil)) pds_nil))) (pds_cons mono0 pd_int pds_nil))) (pds_cons mono0 (pd_tup mono0 (pds_cons mono0 (pd_makeX0 (fl := []) mono0 cn.z_UnlikeDeeds (by exact rfl) (by exact rfl) (by exact rfl) hr (by exact rfl)) (pds_cons mono0 pd_int pds_nil))) (pds_cons mono0 (pd_tup mono0 (pds_cons mono0 (pd_makeX0 (fl := []) mono0 cn.z_UnlikeWorlds (by exact rfl) (by exact rfl) (by exact rfl) hr (by exact rfl)) (pds_cons mono0 pd_int pds_nil))) pds_nil))))))))))))
theorem sc__law_held : FnScope ["_law_x", "_law_out"] ["_law_x"] (defScope (top 32)) := ⟨rfl, rfl, rfl, by decide +kernel, rfl, by decide +kernel, by decide +kernel⟩
theorem ok__law_held (cn : Cn K mg)  (F : FunD K "_law_held" "_law_held" (defArgs (top 32)) (defBody (top 32)) (defScope (top 32)) [] [] f fd) : FnOk Pg w K mg base (L2.CX Pg w) 1 f fd ["_law_x"] (spP K Tt (g4.run C4)) := by
  refine fn_okP F sc__law_held rfl rfl fun cdv A outer s H E hr => ?_
  have tk := takes_of (X := cxOf (L2.CX Pg w) Pg w K mg base ["_law_x", "_law_out"] "_law_held" (defScope (top 32)) f cdv A outer s H E) (E := E) rfl rfl rfl rfl
  have hcalm : (cxOf (L2.CX Pg w) Pg w K mg base ["_law_x", "_law_out"] "_law_held" (defScope (top 32)) f cdv A outer s H E).calm = true := rfl
  have hN : (cxOf (L2.CX Pg w) Pg w K mg base ["_law_x", "_law_out"] "_law_held" (defScope (top 32)) f cdv A outer s H E).N.Nodup := sc__law_held.nd
  exact (sd_cons (sd_asg (pd_lst mono0 (pds_cons mono0 (pd_attr mono0 (cn.at_ _ rfl 3 (by decide)) (pd_makeX (fl := [3]) mono0 cn.z_BadCount (by exact rfl) (by exact rfl) (by exact rfl) hr (by exact rfl) (pds_cons mono0 (pd_var 0) pds_nil))) (pds_cons mono0 (pd_attr mono0 (cn.at_ _ rfl 8 (by decide)) (pd_makeX (fl := [8]) mono0 cn.z_BadEffect (by exact rfl) (by exact rfl) (by exact rfl) hr (by exact rfl) (pds_cons mono0 (pd_var 0) pds_nil))) (pds_cons mono0 (pd_attr mono0 (cn.at_ _ rfl 4 (by decide)) (pd_makeX (fl := [4]) mono0 cn.z_BadEvent (by exact rfl) (by exact rfl) (by exact rfl) hr (by exact rfl) (pds_cons mono0 (pd_var 0) pds_nil))) (pds_cons mono0 (pd_attr mono0 (cn.at_ _ rfl 1 (by decide)) (pd_makeX (fl := [1]) mono0 cn.z_BadFormula (by exact rfl) (by exact rfl) (by exact rfl) hr (by exact rfl) (pds_cons mono0 (pd_var 0) pds_nil))) (pds_cons mono0 (pd_attr mono0 (cn.at_ _ rfl 0 (by decide)) (pd_makeX (fl := [0]) mono0 cn.z_BadName (by exact rfl) (by exact rfl) (by exact rfl) hr (by exact rfl) (pds_cons mono0 (pd_var 0) pds_nil))) pds_nil)))))) (pgd_nm 1 hN))
  (sd_cons (sd_asg (pd_add mono0 (pd_var 1) (pd_lst mono0 (pds_cons mono0 (pd_attr mono0 (cn.at_ _ rfl 12 (by decide)) (pd_makeX (fl := [12]) mono0 cn.z_BadNumber (by exact rfl) (by exact rfl) (by exact rfl) hr (by exact rfl) (pds_cons mono0 (pd_var 0) pds_nil))) (pds_cons mono0 (pd_attr mono0 (cn.at_ _ rfl 13 (by decide)) (pd_makeX (fl := [13]) mono0 cn.z_BadSlack (by exact rfl) (by exact rfl) (by exact rfl) hr (by exact rfl) (pds_cons mono0 (pd_var 0) pds_nil))) (pds_cons mono0 (pd_attr mono0 (cn.at_ _ rfl 5 (by decide)) (pd_makeX (fl := [5]) mono0 cn.z_BadSpan (by exact rfl) (by exact rfl) (by exact rfl) hr (by exact rfl) (pds_cons mono0 (pd_var 0) pds_nil))) (pds_cons mono0 (pd_attr mono0 (cn.at_ _ rfl 6 (by decide)) (pd_makeX (fl := [6]) mono0 cn.z_BadState (by exact rfl) (by exact rfl) (by exact rfl) hr (by exact rfl) (pds_cons mono0 (pd_var 0) pds_nil))) (pds_cons mono0 (pd_attr mono0 (cn.at_ _ rfl 4 (by decide)) (pd_makeX (fl := [4]) mono0 cn.z_BadStep (by exact rfl) (by exact rfl) (by exact rfl) hr (by exact rfl) (pds_cons mono0 (pd_var 0) pds_nil))) pds_nil))))))) (pgd_nm 1 hN))
  (sd_cons (sd_asg (pd_add mono0 (pd_var 1) (pd_lst mono0 (pds_cons mono0 (pd_attr mono0 (cn.at_ _ rfl 15 (by decide)) (pd_makeX (fl := [15]) mono0 cn.z_BadTruth (by exact rfl) (by exact rfl) (by exact rfl) hr (by exact rfl) (pds_cons mono0 (pd_var 0) pds_nil))) (pds_cons mono0 (pd_attr mono0 (cn.at_ _ rfl 7 (by decide)) (pd_makeX (fl := [7]) mono0 cn.z_CannotHappen (by exact rfl) (by exact rfl) (by exact rfl) hr (by exact rfl) (pds_cons mono0 (pd_var 0) pds_nil))) (pds_cons mono0 (pd_attr mono0 (cn.at_ _ rfl 14 (by decide)) (pd_makeX (fl := [14]) mono0 cn.z_Contradiction (by exact rfl) (by exact rfl) (by exact rfl) hr (by exact rfl) (pds_cons mono0 (pd_var 0) pds_nil))) (pds_cons mono0 (pd_attr mono0 (cn.at_ _ rfl 0 (by decide)) (pd_makeX (fl := [0]) mono0 cn.z_NameInUse (by exact rfl) (by exact rfl) (by exact rfl) hr (by exact rfl) (pds_cons mono0 (pd_var 0) pds_nil))) (pds_cons mono0 (pd_attr mono0 (cn.at_ _ rfl 7 (by decide)) (pd_makeX (fl := [7]) mono0 cn.z_NoEvent (by exact rfl) (by exact rfl) (by exact rfl) hr (by exact rfl) (pds_cons mono0 (pd_var 0) pds_nil))) pds_nil))))))) (pgd_nm 1 hN))
  (sd_cons (sd_asg (pd_add mono0 (pd_var 1) (pd_lst mono0 (pds_cons mono0 (pd_attr mono0 (cn.at_ _ rfl 5 (by decide)) (pd_makeX (fl := [5]) mono0 cn.z_NoMoment (by exact rfl) (by exact rfl) (by exact rfl) hr (by exact rfl) (pds_cons mono0 (pd_var 0) pds_nil))) (pds_cons mono0 (pd_attr mono0 (cn.at_ _ rfl 0 (by decide)) (pd_makeX (fl := [0]) mono0 cn.z_NoName (by exact rfl) (by exact rfl) (by exact rfl) hr (by exact rfl) (pds_cons mono0 (pd_var 0) pds_nil))) (pds_cons mono0 (pd_attr mono0 (cn.at_ _ rfl 0 (by decide)) (pd_makeX (fl := [0]) mono0 cn.z_NoStep (by exact rfl) (by exact rfl) (by exact rfl) hr (by exact rfl) (pds_cons mono0 (pd_var 0) pds_nil))) (pds_cons mono0 (pd_attr mono0 (cn.at_ _ rfl 14 (by decide)) (pd_makeX (fl := [14]) mono0 cn.z_NoView (by exact rfl) (by exact rfl) (by exact rfl) hr (by exact rfl) (pds_cons mono0 (pd_var 0) pds_nil))) (pds_cons mono0 (pd_attr mono0 (cn.at_ _ rfl 2 (by decide)) (pd_makeX (fl := [2]) mono0 cn.z_NoWord (by exact rfl) (by exact rfl) (by exact rfl) hr (by exact rfl) (pds_cons mono0 (pd_var 0) pds_nil))) (pds_cons mono0 (pd_attr mono0 (cn.at_ _ rfl 5 (by decide)) (pd_makeX (fl := [5]) mono0 cn.z_NotDone (by exact rfl) (by exact rfl) (by exact rfl) hr (by exact rfl) (pds_cons mono0 (pd_var 0) pds_nil))) pds_nil)))))))) (pgd_nm 1 hN))
  (sd_one (sd_ret (pd_add mono0 (pd_var 1) (pd_lst mono0 (pds_cons mono0 (pd_attr mono0 (cn.at_ _ rfl 9 (by decide)) (pd_makeX (fl := [9]) mono0 cn.z_NotThere (by exact rfl) (by exact rfl) (by exact rfl) hr (by exact rfl) (pds_cons mono0 (pd_var 0) pds_nil))) (pds_cons mono0 (pd_attr mono0 (cn.at_ _ rfl 10 (by decide)) (pd_makeX (fl := [10, 11]) mono0 cn.z_Quarrel (by exact rfl) (by exact rfl) (by exact rfl) hr (by exact rfl) (pds_cons mono0 (pd_var 0) (pds_cons mono0 (pd_lst mono0 (pds_cons mono0 (pd_var 0) pds_nil)) pds_nil)))) pds_nil))))))))))
theorem sc_law : FnScope ["_law_script", "_law_k", "_law_cell_here", "_law_x", "_law_e", "_law_place"] ["_law_script"] (defScope (top 33)) := ⟨rfl, rfl, rfl, by decide +kernel, rfl, by decide +kernel, by decide +kernel⟩
theorem ok_law (cn : Cn K mg) (D__law_cell : DefOk Pg w K mg base Tt 2 "_law_cell" (C5.fn 0)) (D__law_made : DefOk Pg w K mg base Tt 2 "_law_made" (C5.fn 3)) (D__law_alone : DefOk Pg w K mg base Tt 2 "_law_alone" (C5.fn 2)) (D__law_held : DefOk Pg w K mg base Tt 2 "_law_held" (C5.fn 4)) (F : FunD K "law" "law" (defArgs (top 33)) (defBody (top 33)) (defScope (top 33)) [] [] f fd) : FnOk Pg w K mg base (L2.CX Pg w) 3 f fd ["_law_script"] (spP K Tt (g5.run C5)) := by
  refine fn_okP F sc_law rfl rfl fun cdv A outer s H E hr => ?_
  have tk := takes_of (X := cxOf (L2.CX Pg w) Pg w K mg base ["_law_script", "_law_k", "_law_cell_here", "_law_x", "_law_e", "_law_place"] "law" (defScope (top 33)) f cdv A outer s H E) (E := E) rfl rfl rfl rfl
  have hcalm : (cxOf (L2.CX Pg w) Pg w K mg base ["_law_script", "_law_k", "_law_cell_here", "_law_x", "_law_e", "_law_place"] "law" (defScope (top 33)) f cdv A outer s H E).calm = true := rfl
  have hN : (cxOf (L2.CX Pg w) Pg w K mg base ["_law_script", "_law_k", "_law_cell_here", "_law_x", "_law_e", "_law_place"] "law" (defScope (top 33)) f cdv A outer s H E).N.Nodup := sc_law.nd
  exact (sd_cons (sd_for (passes_of rfl) hcalm (pi_rng mono0 (by exact rfl) cn.f_range pd_int) (pgd_nm 1 hN) (sd_cons (sd_asg (pd_sub mono0 (pd_mod mono0 (pd_int1 mono0 (by exact rfl) cn.f_int (pd_call mono0 tk hr D__law_cell (by exact rfl) (pds_cons mono0 (pd_var 0) (pds_cons mono0 (pd_var 1) pds_nil)))) (pd_pow mono0 pd_int pd_int)) pd_int) (pgd_nm 2 hN))
  (sd_one (sd_for (passes_of rfl) hcalm (pi_seq mono0 (pd_tup mono0 (pds_cons mono0 (pd_var 2) (pds_cons mono0 (pd_strof mono0 (by exact rfl) cn.f_str (pd_var 2)) (pds_cons mono0 (pd_lst mono0 (pds_cons mono0 (pd_var 2) (pds_cons mono0 (pd_var 1) pds_nil))) (pds_cons mono0 (pd_tup mono0 (pds_cons mono0 (pd_var 1) (pds_cons mono0 (pd_strof mono0 (by exact rfl) cn.f_str (pd_var 2)) pds_nil))) pds_nil)))))) (pgd_nm 3 hN) (sd_cons (sd_if (PW.pt (ptw_or mono0 (ptw_not mono0 (pt_val' (pd_all mono0 hcalm (by exact rfl) cn.f_all (pd_lc0 [("_law_e", 4), ("_law_place", 5)] mono0 hcalm hN (pi_seq mono0 (pd_call mono0 tk hr D__law_made (by exact rfl) (pds_cons mono0 (pd_var 3) pds_nil))) (blkOk_by (N := ["_law_script", "_law_k", "_law_cell_here", "_law_x", "_law_e", "_law_place"]) (sc := defScope (top 33)) (by decide +kernel)) (fun _ _ _ _ _ => (pgd_tup hcalm (pgsd_cons (pgd_nm 4 hN) (pgsd_cons (pgd_nm 5 hN) pgsd_nil)))) (fun _ _ _ _ _ => (pd_call mono0 takesF hr D__law_alone (by exact rfl) (pds_cons mono0 (pd_var 4) (pds_cons mono0 (pd_var 5) pds_nil)))))))) (ptw_or1 (pt_cmp' (cm_ne hr) mono0 (pd_call mono0 tk hr D__law_held (by exact rfl) (pds_cons mono0 (pd_var 3) pds_nil)) (pd_mul mono0 (pd_lst mono0 (pds_cons mono0 (pd_var 3) pds_nil)) pd_int) (nomark _))))) (sd_one (sd_ret pd_bl)) sd_nil)
  (sd_one (sd_if (pt_cmp' (cm_ne hr) mono0 (pd_attr mono0 (cn.at_ _ rfl 11 (by decide)) (pd_makeX (fl := [10, 11]) mono0 cn.z_Quarrel (by exact rfl) (by exact rfl) (by exact rfl) hr (by exact rfl) (pds_cons mono0 (pd_var 3) (pds_cons mono0 (pd_lst mono0 (pds_cons mono0 (pd_var 3) pds_nil)) pds_nil)))) (pd_lst mono0 (pds_cons mono0 (pd_var 3) pds_nil)) (nomark _)) (sd_one (sd_ret pd_bl)) sd_nil)))))))
  (sd_one (sd_ret pd_bl)))
end
end At.k01

/-! k01: the plain law. -/
namespace At
open PySem
mutual
theorem eqD_refl : ∀ d : D, plain d = true → eqD d d = true
  | .non, _ => rfl
  | .bl b, _ => by cases b <;> rfl
  | .int i, _ => by
    show (i == i) = true
    exact beq_self_eq_true i
  | .str x, _ => by
    show (x == x) = true
    exact beq_self_eq_true x
  | .lst xs, h => eqDs_refl xs h
  | .tup xs, h => eqDs_refl xs h
  | .dic _, h => by cases h
  | .obj _ _, h => by cases h
  | .scr _, h => by cases h
theorem eqDs_refl : ∀ ds : List D, plains ds = true → eqDs ds ds = true
  | [], _ => rfl
  | d :: ds, h => by
    obtain ⟨h1, h2⟩ := Bool.and_eq_true_iff.mp (show (plain d && plains ds) = true from h)
    show (eqD d d && eqDs ds ds) = true
    rw [eqD_refl d h1, eqDs_refl ds h2]
    rfl
end
theorem plains_rep {x : D} (h : plain x = true) : ∀ n, plains (List.replicate n x) = true
  | 0 => rfl
  | n + 1 => by
    show (plain x && plains (List.replicate n x)) = true
    rw [h, plains_rep h n]
    rfl
theorem deeps_rep {x : D} {k : Nat} (h : deep x ≤ k) : ∀ n, deeps (List.replicate n x) ≤ k
  | 0 => Nat.zero_le _
  | n + 1 => by
    show max (deep x) (deeps (List.replicate n x)) ≤ k
    exact Nat.max_le.mpr ⟨h, deeps_rep h n⟩
theorem ne_self {x : D} (hp : plain x = true) (hd : deep x ≤ 50) (n : Nat) : cmp2 .ne (.lst (List.replicate n x)) (.lst (List.replicate n x)) = some false := by
  have ha : askable (.lst (List.replicate n x)) = true := by
    unfold askable
    rw [show plain (.lst (List.replicate n x)) = plains (List.replicate n x) from rfl, plains_rep hp n]
    have := deeps_rep hd n
    exact decide_eq_true (show deeps (List.replicate n x) + 1 ≤ 60 by omega)
  show (if (askable (.lst (List.replicate n x)) && askable (.lst (List.replicate n x))) = true then some (!eqD (.lst (List.replicate n x)) (.lst (List.replicate n x))) else none) = _
  rw [ha, eqD_refl (.lst (List.replicate n x)) (plains_rep hp n)]
  rfl
theorem digits_ok {i : Int} (h : i.natAbs < 2 ^ 100) : (digits i).length ≤ lim ∧ (digits i).all (· < 0x110000) = true := by
  have e : digits i = (toString i).toList.map Char.toNat := by
    unfold digits
    rw [PySem.Str.ofString_eq_toList]
  rw [e]
  refine ⟨?_, ?_⟩
  · rw [List.length_map]
    have hn : ∀ n : Nat, n < 2 ^ 100 → (Nat.repr n).toList.length ≤ 100 := fun n hn => by
      have := nat_repr_length_le (n := n) (k := 100) (by decide) hn
      rw [String.length_toList]
      exact this
    cases i with
    | ofNat n =>
      have := hn n h
      exact Nat.le_trans (show (Nat.repr n).toList.length ≤ 100 from this) (by decide)
    | negSucc n =>
      have := hn (n + 1) h
      have e2 : (toString (Int.negSucc n)) = "-" ++ Nat.repr (n + 1) := rfl
      rw [e2]
      have e3 : ("-" ++ Nat.repr (n + 1)).toList = '-' :: (Nat.repr (n + 1)).toList := by simp
      rw [e3, List.length_cons]
      exact Nat.le_trans (Nat.succ_le_succ this) (by decide)
  · rw [List.all_map, List.all_eq_true]
    intro c _
    have h : c.val.toNat < 0x110000 := by
      rcases c.valid with h | h
      · exact Nat.lt_trans h (by decide)
      · exact h.2
    exact decide_eq_true h
end At
namespace At.k01
theorem all_ok (ns : List Int) (k z : Int) (x : D) (a b : Option U) (m : Mu) : ev C5 (.un .all (.lc [4, 5] (.tp (.cons (.nm 4) (.cons (.nm 5) .nil))) (.seq (.call 3 (.cons (.var 3) .nil))) (.cst (.bl true)) (.call 2 (.cons (.var 4) (.cons (.var 5) .nil))))) [some (.v (.scr ns)), some (.v (.int k)), some (.v (.int z)), some (.v x), a, b] m = .ok (.v (.bl true)) m := by
  kernel_rfl
theorem held_ok (ns : List Int) (k z : Int) (x : D) (a b : Option U) (m : Mu) : ev C5 (.cmp .ne (.call 4 (.cons (.var 3) .nil)) (.op .mul (.lst (.cons (.var 3) .nil)) (.cst (.int 23)))) [some (.v (.scr ns)), some (.v (.int k)), some (.v (.int z)), some (.v x), a, b] m = Res (((cmp2 .ne (.lst (List.replicate 23 x)) (.lst (List.replicate 23 x))).map D.bl).map U.v) m := by
  kernel_rfl
theorem other_ok (ns : List Int) (k z : Int) (x : D) (a b : Option U) (m : Mu) : ev C5 (.cmp .ne (.attr (.make 17 (.cons (.var 3) (.cons (.lst (.cons (.var 3) .nil)) .nil))) 11) (.lst (.cons (.var 3) .nil))) [some (.v (.scr ns)), some (.v (.int k)), some (.v (.int z)), some (.v x), a, b] m = Res (((cmp2 .ne (.lst (List.replicate 1 x)) (.lst (List.replicate 1 x))).map D.bl).map U.v) m := by
  kernel_rfl
def inner : S := (.seq (.ifs (.or_ (.not_ (.un .all (.lc [4, 5] (.tp (.cons (.nm 4) (.cons (.nm 5) .nil))) (.seq (.call 3 (.cons (.var 3) .nil))) (.cst (.bl true)) (.call 2 (.cons (.var 4) (.cons (.var 5) .nil)))))) (.cmp .ne (.call 4 (.cons (.var 3) .nil)) (.op .mul (.lst (.cons (.var 3) .nil)) (.cst (.int 23))))) (.ret (.cst (.bl false))) .skip) (.ifs (.cmp .ne (.attr (.make 17 (.cons (.var 3) (.cons (.lst (.cons (.var 3) .nil)) .nil))) 11) (.lst (.cons (.var 3) .nil))) (.ret (.cst (.bl false))) .skip))
theorem inner_ok {ns : List Int} {k z : Int} {x : D} {a b : Option U} {m : Mu} (hp : plain x = true) (hd : deep x ≤ 50) : xs C5 inner [some (.v (.scr ns)), some (.v (.int k)), some (.v (.int z)), some (.v x), a, b] m = .nx [some (.v (.scr ns)), some (.v (.int k)), some (.v (.int z)), some (.v x), a, b] m := by
  unfold inner
  simp only [xs]
  rw [ev, ev, all_ok, R.bnd]
  simp only [R.bnd, Bool.not_true]
  rw [held_ok, ne_self hp hd]
  dsimp only [Option.map, Res, R.out, O.seq]
  rw [other_ok, ne_self hp hd]
  rfl
theorem cell_ok (ns : List Int) (k : Nat) : ∃ z, C5.fn 0 [.scr ns, .int k] = .ok (.int z) := by
  have h1 : ev C0 (.cmp .lt (.var 1) (.un .len (.var 0))) [some (.v (.scr ns)), some (.v (.int k))] [] = .ok (.v (.bl (decide ((k : Int) < (ns.length : Int))))) [] := by kernel_rfl
  have h2 : ev C0 (.idx (.var 0) (.var 1)) [some (.v (.scr ns)), some (.v (.int k))] [] = Res (((L2.atI ns (k : Int)).map D.int).map U.v) [] := by kernel_rfl
  have e : C5.fn 0 [.scr ns, .int k] = runP (xs C0 g0.body [some (.v (.scr ns)), some (.v (.int k))] []) := by kernel_rfl
  rw [e]
  unfold g0
  simp only [xs]
  rw [h1]
  by_cases c : (k : Int) < (ns.length : Int)
  · rw [decide_eq_true c]
    have hk : k < ns.length := by omega
    have ha : L2.atI ns (k : Int) = some ns[k] := by
      unfold L2.atI L2.ixN
      rw [if_pos (by omega), if_pos c]
      simp [hk]
    dsimp only [R.out, O.seq]
    rw [h2, ha]
    exact ⟨ns[k], rfl⟩
  · rw [decide_eq_false c]
    exact ⟨0, rfl⟩
def cellE : E := (.op .sub (.op .mod (.un .int (.call 0 (.cons (.var 0) (.cons (.var 1) .nil)))) (.op .pow (.cst (.int 10)) (.cst (.int 20)))) (.cst (.int 5)))
theorem cellE_ok (ns : List Int) (k : Nat) (a b c d : Option U) : ∃ z : Int, z.natAbs < 2 ^ 100 ∧ ev C5 cellE [some (.v (.scr ns)), some (.v (.int k)), a, b, c, d] [] = .ok (.v (.int z)) [] := by
  obtain ⟨z, hz⟩ := cell_ok ns k
  refine ⟨z.fmod (10 ^ 20) - 5, ?_, ?_⟩
  · have h1 : 0 ≤ z.fmod (10 ^ 20) := Int.fmod_nonneg_of_pos z (by decide)
    have h2 : z.fmod (10 ^ 20) < 10 ^ 20 := Int.fmod_lt_of_pos z (by decide)
    have h3 : (10 : Int) ^ 20 < 2 ^ 90 := by decide
    have h4 : (2 : Int) ^ 90 = ((2 ^ 90 : Nat) : Int) := by decide
    have h5 : (2 : Nat) ^ 90 + 5 < 2 ^ 100 := by decide
    omega
  · unfold cellE
    have e1 : ev C5 (.call 0 (.cons (.var 0) (.cons (.var 1) .nil))) [some (.v (.scr ns)), some (.v (.int k)), a, b, c, d] [] = fromP [] (C5.fn 0 [.scr ns, .int k]) := by kernel_rfl
    rw [ev, ev, ev, e1, hz]
    kernel_rfl
theorem evs_cons {C : CE} {a r : E} {ρ : Ro} {m m1 m2 : Mu} {u : U} {us : List U} (h1 : ev C a ρ m = .ok u m1) (h2 : evs C r ρ m1 = .ok us m2) : evs C (.cons a r) ρ m = .ok (u :: us) m2 := by
  rw [evs, h1]
  show (evs C r ρ m1).bnd _ = _
  rw [h2]
  rfl
def mid : E := (.tup (.cons (.var 2) (.cons (.un .str (.var 2)) (.cons (.lst (.cons (.var 2) (.cons (.var 1) .nil))) (.cons (.tup (.cons (.var 1) (.cons (.un .str (.var 2)) .nil))) .nil)))))
theorem str_ok {z : Int} (hz : z.natAbs < 2 ^ 100) : un1 .str (.int z) = some (.str (digits z)) := by
  show (if z.natAbs < 2 ^ 100 ∧ (digits z).length ≤ lim ∧ (digits z).all (· < 0x110000) = true then some (D.str (digits z)) else none) = _
  rw [if_pos ⟨hz, digits_ok hz⟩]
theorem mid_ok {ns : List Int} {k : Nat} {z : Int} {a b c : Option U} (hz : z.natAbs < 2 ^ 100) : evi C5 (.seq mid) [some (.v (.scr ns)), some (.v (.int k)), some (.v (.int z)), a, b, c] [] = .ok [.int z, .str (digits z), .lst [.int z, .int k], .tup [.int k, .str (digits z)]] [] := by
  have e : ev C5 (.un .str (.var 2)) [some (.v (.scr ns)), some (.v (.int k)), some (.v (.int z)), a, b, c] [] = .ok (.v (.str (digits z))) [] := by
    have e1 : ev C5 (.un .str (.var 2)) [some (.v (.scr ns)), some (.v (.int k)), some (.v (.int z)), a, b, c] [] = Res ((un1 .str (.int z)).map U.v) [] := by kernel_rfl
    rw [e1, str_ok hz]
    rfl
  have h1 : evs C5 (.cons (.var 1) (.cons (.un .str (.var 2)) .nil)) [some (.v (.scr ns)), some (.v (.int k)), some (.v (.int z)), a, b, c] [] = .ok [.v (.int k), .v (.str (digits z))] [] := evs_cons rfl (evs_cons e rfl)
  have h2 : ev C5 (.tup (.cons (.var 1) (.cons (.un .str (.var 2)) .nil))) [some (.v (.scr ns)), some (.v (.int k)), some (.v (.int z)), a, b, c] [] = .ok (.v (.tup [.int k, .str (digits z)])) [] := by
    rw [ev, h1]
    kernel_rfl
  have h3 : ev C5 mid [some (.v (.scr ns)), some (.v (.int k)), some (.v (.int z)), a, b, c] [] = .ok (.v (.tup [.int z, .str (digits z), .lst [.int z, .int k], .tup [.int k, .str (digits z)]])) [] := by
    unfold mid
    rw [ev, evs_cons (a := .var 2) (u := .v (.int z)) rfl (evs_cons e (evs_cons (u := .v (.lst [.int z, .int k])) (by kernel_rfl) (evs_cons h2 rfl)))]
    kernel_rfl
  rw [evi, h3]
  rfl
def outB : S := .seq (.asg (.nm 2) cellE) (.for_ (.nm 3) (.seq mid) inner)
theorem turn_ok (ns : List Int) (k : Nat) (a b c d e : Option U) : ∃ b' c' d', xs C5 outB [some (.v (.scr ns)), some (.v (.int k)), b, c, d, e] [] = .nx [some (.v (.scr ns)), b', c', d', d, e] [] := by
  obtain ⟨z, hz, hc⟩ := cellE_ok ns k b c d e
  refine ⟨some (.v (.int k)), some (.v (.int z)), some (.v (.tup [.int k, .str (digits z)])), ?_⟩
  unfold outB
  simp only [xs]
  rw [hc]
  dsimp only [R.out, bindT, O.seq, List.set]
  rw [mid_ok hz]
  dsimp only [R.out, forL, bindT, List.set]
  rw [inner_ok (x := .int z) rfl (by show 0 ≤ 50; decide)]
  dsimp only [List.set]
  rw [inner_ok (x := .str (digits z)) rfl (by show 0 ≤ 50; decide)]
  dsimp only [List.set]
  rw [inner_ok (x := .lst [.int z, .int k]) rfl (by show 1 ≤ 50; decide)]
  dsimp only [List.set]
  rw [inner_ok (x := .tup [.int k, .str (digits z)]) rfl (by show 1 ≤ 50; decide)]
theorem law_ok (ns : List Int) : g5.run C5 [.scr ns] = .ok (.bl true) := by
  have e : g5.run C5 [.scr ns] = runP (xs C5 (.seq (.for_ (.nm 1) (.rng (.cst (.int 3))) outB) (.ret (.cst (.bl true)))) [some (.v (.scr ns)), none, none, none, none, none] []) := by kernel_rfl
  rw [e]
  simp only [xs]
  have e1 : evi C5 (.rng (.cst (.int 3))) [some (.v (.scr ns)), none, none, none, none, none] [] = .ok [.int (0 : Nat), .int (1 : Nat), .int (2 : Nat)] [] := by kernel_rfl
  rw [e1]
  dsimp only [R.out, forL, bindT, List.set]
  obtain ⟨b, c, d, h0⟩ := turn_ok ns 0 none none none none none
  rw [h0]
  dsimp only [List.set]
  obtain ⟨b, c, d, h1⟩ := turn_ok ns 1 none c d none none
  rw [h1]
  dsimp only [List.set]
  obtain ⟨b, c, d, h2⟩ := turn_ok ns 2 none c d none none
  rw [h2]
  rfl
end At.k01

namespace At.k01
open PySem L2 Evl He
open PySem.W PySem.Calls PyProof.Rows
abbrev R : PySem.W.OpenRow := PySem.W.OpenLaw.row PySem.Challenge.rw_allticked_k01_errors
abbrev hk : PySem.W.Hook := hx.hook Pg 4
def ob (s : PySem.W.SharedT) : AlX := hx.obsG Pg 4 (HandSHeadRun.getT s)
theorem ob_eq (s : PySem.W.SharedT) : ob s = hk.obs s.abs := HX.obs_eq (HandSHeadRun.getT_eq s)
theorem cn_of {K : Fg} {h : Heap} {mg : Str → Option Value} (X : K.In h) (G : h.Ns mainGlobals mg) (c : hx.says Pg K) : Cn K mg := by
  have hsup : mg "super" = none := free_ok X G (HX.fact c 10 (f := .free "super"))
  exact ⟨free_ok X G (HX.fact c 0 (f := .free "ArithmeticError")),
    free_ok X G (HX.fact c 1 (f := .free "LookupError")),
    free_ok X G (HX.fact c 2 (f := .free "TypeError")),
    free_ok X G (HX.fact c 3 (f := .free "ValueError")),
    free_ok X G (HX.fact c 4 (f := .free "all")),
    free_ok X G (HX.fact c 5 (f := .free "int")),
    free_ok X G (HX.fact c 6 (f := .free "isinstance")),
    free_ok X G (HX.fact c 7 (f := .free "len")),
    free_ok X G (HX.fact c 8 (f := .free "range")),
    free_ok X G (HX.fact c 9 (f := .free "str")),
    free_ok X G (HX.fact c 10 (f := .free "super")),
    HX.err c X G hsup 0 s_BadName,
    HX.err c X G hsup 1 s_BadFormula,
    HX.err c X G hsup 2 s_NoWord,
    HX.err c X G hsup 3 s_BadCount,
    HX.err c X G hsup 4 s_BadEvent,
    HX.err c X G hsup 5 s_BadSpan,
    HX.err c X G hsup 6 s_BadState,
    HX.err c X G hsup 7 s_NoEvent,
    HX.err c X G hsup 8 s_NoMoment,
    HX.err c X G hsup 9 s_BadStep,
    HX.err c X G hsup 10 s_NoStep,
    HX.err c X G hsup 11 s_BadEffect,
    HX.err c X G hsup 12 s_UnlikeWorlds,
    HX.err c X G hsup 13 s_UnlikeDeeds,
    HX.err c X G hsup 14 s_NameInUse,
    HX.err c X G hsup 15 s_NotThere,
    HX.err c X G hsup 16 s_Quarrel,
    HX.err c X G hsup 17 s_BadNumber,
    HX.err c X G hsup 18 s_BadSlack,
    HX.err c X G hsup 19 s_NoView,
    HX.err c X G hsup 20 s_BadTruth,
    HX.err c X G hsup 21 s_Contradiction,
    HX.err c X G hsup 22 s_NoName,
    HX.err c X G hsup 23 s_CannotHappen,
    HX.err c X G hsup 24 s_NotDone,
    glo_ok X G (HX.fact c 17 (f := .glo "TickError")),
    fun C hC => ckT_isF (HX.parts c).2.2.2 hC,
    fun C hC f hf i h => ckT_at (cs := csT) (fs := fsT) (HX.parts c).2.2.2 hC (by decide +kernel) (by decide +kernel) hf i h⟩end At.k01

namespace At.k01
open PySem L2 Evl He
open PySem.W PySem.Calls PyProof.Rows
def looseA : List PySem.Str := ["__name__", "TickError", "BadName", "BadFormula", "NoWord", "BadCount", "BadEvent", "BadSpan", "BadState", "NoEvent", "NoMoment", "BadStep", "NoStep", "BadEffect", "UnlikeWorlds", "UnlikeDeeds", "NameInUse"]
def looseB : List PySem.Str := ["NotThere", "Quarrel", "BadNumber", "BadSlack", "NoView", "BadTruth", "Contradiction", "NoName", "CannotHappen", "NotDone", "__name__", "_law_cell", "_law_flags", "_law_alone", "_law_made", "_law_held"]
def loose : List PySem.Str := looseA ++ looseB
theorem run (w : World) : HandSHeadRun.RunEq R (PySem.W.view R.prog [33]) hk ob 8000 loose w := by
  intro os
  kernel_rfl
end At.k01

namespace At.k01
open PySem L2 Evl He
open PySem.W PySem.Calls PyProof.Rows
theorem facts {w : World} {K : Fg} {h : Heap} {mg : Str → Option Value} {f : Addr} (X : K.In h) (G : h.Ns mainGlobals mg) (hfa : mg ("law" : Str) = some (.ref f)) (c : hx.says Pg K) :
    ∃ fd : FuncData, (∀ (s : Shared) (v : Value), BindsTo s fd ⟨[v], []⟩ [("_law_script", v)]) ∧ ∀ base : Heap, K.In base → base.Ns mainGlobals mg → FnOk Pg w K mg base (L2.CX Pg w) 3 f fd ["_law_script"] (spP K Tt (g5.run C5)) := by
  have cn := cn_of X G c
  obtain ⟨fd0, F0⟩ := HX.def_ c 0
  have m0 : mg "_law_cell" = some (.ref (fAd K ("_law_cell", none))) := glo_ok X G (HX.fact c 11 (f := .glo "_law_cell"))
  obtain ⟨fd1, F1⟩ := HX.def_ c 1
  have m1 : mg "_law_flags" = some (.ref (fAd K ("_law_flags", none))) := glo_ok X G (HX.fact c 12 (f := .glo "_law_flags"))
  obtain ⟨fd2, F2⟩ := HX.def_ c 2
  have m2 : mg "_law_alone" = some (.ref (fAd K ("_law_alone", none))) := glo_ok X G (HX.fact c 13 (f := .glo "_law_alone"))
  obtain ⟨fd3, F3⟩ := HX.def_ c 3
  have m3 : mg "_law_made" = some (.ref (fAd K ("_law_made", none))) := glo_ok X G (HX.fact c 14 (f := .glo "_law_made"))
  obtain ⟨fd4, F4⟩ := HX.def_ c 4
  have m4 : mg "_law_held" = some (.ref (fAd K ("_law_held", none))) := glo_ok X G (HX.fact c 15 (f := .glo "_law_held"))
  obtain ⟨fd5, F5⟩ := HX.def_ c 5
  have m5 : mg "law" = some (.ref (fAd K ("law", none))) := glo_ok X G (HX.fact c 16 (f := .glo "law"))
  have e := hfa.symm.trans m5
  cases e
  have b := FunD.bindsA (ps := ["_law_script"]) F5 fun _ _ _ _ _ _ us hl => match us, hl with | [_], _ => rfl
  refine ⟨fd5, fun s v => b s [v] rfl, fun base hK hB => ?_⟩
  have D0 : DefOk Pg w K mg base Tt 1 "_law_cell" (g0.run C0) := ⟨_, fd0, ["_law_script", "_law_k"], m0, F0.kp, F0.bindsN (ps := ["_law_script", "_law_k"]) fun _ _ _ _ _ _ us hl => match us, hl with | [_, _], _ => rfl, ok__law_cell cn  F0⟩
  have D1 : DefOk Pg w K mg base Tt 1 "_law_flags" (g1.run C1) := ⟨_, fd1, ["_law_e"], m1, F1.kp, F1.bindsN (ps := ["_law_e"]) fun _ _ _ _ _ _ us hl => match us, hl with | [_], _ => rfl, ok__law_flags cn  F1⟩
  have D2 : DefOk Pg w K mg base Tt 2 "_law_alone" (g2.run C2) := ⟨_, fd2, ["_law_e", "_law_place"], m2, F2.kp, F2.bindsN (ps := ["_law_e", "_law_place"]) fun _ _ _ _ _ _ us hl => match us, hl with | [_, _], _ => rfl, ok__law_alone cn (D1.mono (by decide)) F2⟩
  have D3 : DefOk Pg w K mg base Tt 1 "_law_made" (g3.run C3) := ⟨_, fd3, ["_law_x"], m3, F3.kp, F3.bindsN (ps := ["_law_x"]) fun _ _ _ _ _ _ us hl => match us, hl with | [_], _ => rfl, ok__law_made cn  F3⟩
  have D4 : DefOk Pg w K mg base Tt 1 "_law_held" (g4.run C4) := ⟨_, fd4, ["_law_x"], m4, F4.kp, F4.bindsN (ps := ["_law_x"]) fun _ _ _ _ _ _ us hl => match us, hl with | [_], _ => rfl, ok__law_held cn  F4⟩
  exact ok_law cn (D0.mono (by decide)) (D3.mono (by decide)) (D2.mono (by decide)) (D4.mono (by decide)) F5
end At.k01
open PySem PySem.W PySem.Calls PyProof.Rows
theorem PySem.Challenge.cw_allticked_k01_errors_holds : PySem.Challenge.rw_allticked_k01_errors.Holds := by
  w_on; o_law
  refine HandSHeadRun.head_any (r := OpenLaw.row PySem.Challenge.rw_allticked_k01_errors) (q := view (OpenLaw.row PySem.Challenge.rw_allticked_k01_errors).prog [33]) (H := At.k01.hk) (ob := At.k01.ob) (M := 8000) (loose := At.k01.loose) (d := HandSHeadRun.topDef (OpenLaw.row PySem.Challenge.rw_allticked_k01_errors).prog 33) (kwd := []) At.k01.ob_eq
    (by kernel_rfl) (fun s => by kernel_rfl) At.k01.run (by kernel_rfl) (by kernel_rfl) (by kernel_rfl) (by rfl) (by first | assumption | decide +kernel) (by decide +kernel) ⟨rfl, rfl, rfl, rfl, rfl, by decide +kernel⟩ ?hw ?hc
  case hw => w_witness2
  case hc =>
    refine At.walk_at (l := PySem.Challenge.rw_allticked_k01_errors) (k := 3) (x := "_law_script") (T := At.k01.Tt) (F := At.k01.g5.run At.k01.C5) rfl (by kernel_rfl) ⟨rfl, by decide, by decide⟩ (fun ns _ => At.k01.law_ok ns) ?F
    intro w mg fa h Y G hmg0
    obtain ⟨K, KX, c⟩ := Y
    have hmg : mg ("law" : PySem.Str) = some (.ref fa) := by
      have e : (HandSHeadRun.topDef (OpenLaw.row PySem.Challenge.rw_allticked_k01_errors).prog 33).name = ("law" : PySem.Str) := by kernel_rfl
      rw [← e]
      exact hmg0
    obtain ⟨fd, hb, hF⟩ := At.k01.facts (w := w) KX G hmg c
    exact ⟨K, fd, KX, hb, hF⟩

