import PyProof.Rows.All
import Wide.All
import OpenK.AllK
import Wide.FinOn
import HandS.ForMost
import HandS.Exc
import HandS.ExcOwn
import HandS.TryOnly
import HandS.WordsExc
import HandS.Wide
import HandS.Walk
import HandS.IsInst
import HandS.ExcIs
import HandS.Zip
import HandS.Replace
import HandS.Rev
import HandS.Conv
import HandS.TupAny
import HandS.Deep
import HandS.NoneIn
import HandS.Style
import HandS.StrMore
import HandS.CallSlots
import HandS.Flow
import HandS.New0
import KE.KStateDown
import HandS.Ends
import HandS.More
import HandS.Words
import HandS.Defaults
import HandS.Head0
import HandS.Head1
import HandS.Head2
import HandS.HeadEnd
import HandS.HeadHook1
import HandS.HeadHook2
import HandS.WideBits
import KE.KxIndex
import HandS.Strs
import HandS.ExcCtx
import HandS.HotCalls
import HandS.SuiteRaise
import HandS.EndBits
import PySem.Challenge.RW_weighwalk_k24_turned
set_option Elab.async false
set_option linter.all false
set_option maxRecDepth 100000
set_option maxHeartbeats 0
/-! the interpreter: data, slots, the small language, its runs -/
namespace Z
open PySem

/-- a key of a dict -/
abbrev KD := Sum Int (List Nat)
/-- data -/
inductive D where
  | non | bl (b : Bool) | int (i : Int) | str (x : List Nat) | tup (xs : List D) | lst (xs : List D) | dct (ks : List KD) (vs : List D) | obj (c : Nat) (vs : List D)
/-- what a slot owns -/
inductive Ow where
  | L (xs : List D) | K (ks : List KD) (vs : List D)
def Ow.d : Ow → D
  | .L xs => .lst xs
  | .K ks vs => .dct ks vs
/-- a slot: nothing, a value, an owned list, a locked one, a caught exception, an instance in the making. f: it is still what the caller handed in -/
inductive Sl where
  | u | v (d : D) (f : Bool) | o (w : Ow) (f : Bool) | k (w : Ow) (f : Bool) | e (c : Nat) | n (c : Nat) (vs : List D)
/-- what an expression gives: data, a new owned thing, what slot i holds -/
inductive R where
  | v (d : D) | o (w : Ow) | w (i : Nat)
abbrev Env := List Sl
def gt : Env → Nat → Sl
  | [], _ => .u
  | x :: _, 0 => x
  | _ :: r, i + 1 => gt r i
def pt : Env → Nat → Sl → Env
  | [], _, _ => []
  | _ :: r, 0, y => y :: r
  | x :: r, i + 1, y => x :: pt r i y
inductive Out (α : Type) where
  | ok (a : α) (ρ : Env) | ex (c : Nat) (ρ : Env) | st
def Out.bnd {α β : Type} : Out α → (α → Env → Out β) → Out β
  | .ok a ρ, f => f a ρ
  | .ex c ρ, _ => .ex c ρ
  | .st, _ => .st
/-- a call's end -/
inductive FOut where
  | ok (r : R) (outs : List Sl) | ex (c : Nat) (outs : List Sl) | st
/-- a def's call: its number, the arguments -/
abbrev CallF := Nat → List Sl → FOut

inductive BOp where | add | sub | mul | fdiv | mod | pow
  deriving DecidableEq
inductive COp where | eq | ne | lt | le | gt | ge | is | isn | isin | nin
  deriving DecidableEq
inductive B1 where | abs | len | int | str | tup | lst | min | max | sum | all | any
  deriving DecidableEq
inductive B2 where | min | max
  deriving DecidableEq
inductive Ty where | int | bool | str | tup | lst | cls (c : Nat)
  deriving DecidableEq
inductive BM where | starts | part | index | join | split | repl | upper | count
  deriving DecidableEq
inductive MM where | append | extend | pop | insert | clear
  deriving DecidableEq
inductive ItK where | seq | rng | rng2 | enm | zip | rev
  deriving DecidableEq
inductive Tg where | one (i : Nat) | tup (is : List Nat)

inductive E where
  | var (i : Nat) | con (d : D) | glo (g : Nat) | frz (a : E)
  | bin (op : BOp) (a b : E) | neg (a : E) | nt (a : E)
  | cmp (op : COp) (a b : E) | cmp2 (o1 o2 : COp) (a b c : E)
  | and (a b : E) | or (a b : E) | ite (c a b : E)
  | tup (as : E) | lst (as : E)
  | idx (a b : E) | sl (a lo hi : E) | rv (a : E)
  | fld (a : E) (f : Nat)
  | call (f : Nat) (as : E) | mcal (m : Nat) (o as : E) | make (c : Nat) (as : E)
  | b1 (b : B1) (a : E) | b2 (b : B2) (a b : E)
  | isi (a : E) (t : Ty) | isx (i : Nat) (c : Nat)
  | bm (m : BM) (o as : E) | mut (m : MM) (i : Nat) (as : E)
  | comp (k : ItK) (as : E) (t : Tg) (own : List Nat) (elt cnd : E)
  | dnew | dix (ks : List (List Nat)) (as x : E) | tix (ts : List (List Nat)) (a : E) | lset (a : E)
  | nil | cons (a as : E)

def E.isNil : E → Bool
  | .nil => true
  | _ => false
inductive S where
  | skip | seq (a b : S) | set (i : Nat) (e : E) | par (i j : Nat) (a b : E) | unp (is : List Nat) (e : E)
  | seti (i : Nat) (x e : E) | setf (f : Nat) (e : E) | aug (i : Nat) (op : BOp) (e : E) | ex (e : E)
  | ite (c : E) (a b : S) | whl (c : E) (b : S) | loop (k : ItK) (as : E) (t : Tg) (b : S)
  | ret (e : E) | retn | rai (c : Nat) | try (b : S) (c : Nat) (i : Nat) (s : S) | tryo (b : S) (c : Nat) (s : S) | cont | brk

/-! ### data -/
def lim : Nat := 16777216
/-- the scalars that == compares at once -/
def scalD : D → D → Bool
  | .non, .non => true | .non, .int _ => true | .int _, .non => true | .non, .bl _ => true | .bl _, .non => true | .non, .str _ => true | .str _, .non => true
  | .int _, .int _ => true | .bl _, .bl _ => true | .str _, .str _ => true
  | .int _, .str _ => true | .str _, .int _ => true | .bl _, .str _ => true | .str _, .bl _ => true
  | _, _ => false
mutual
def pl : D → Bool
  | .non => true | .bl _ => true | .int _ => true
  | .str x => x.all (fun c => decide (c < 0x110000))
  | .tup xs => plA xs | .lst xs => plA xs
  | .dct _ _ => false | .obj _ _ => false
def plA : List D → Bool
  | [] => true
  | x :: xs => pl x && plA xs
end
mutual
def dep : D → Nat
  | .tup xs => depA xs + 1 | .lst xs => depA xs + 1
  | .non => 0 | .bl _ => 0 | .int _ => 0 | .str _ => 0 | .dct _ _ => 0 | .obj _ _ => 0
def depA : List D → Nat
  | [] => 0
  | x :: xs => max (dep x) (depA xs)
end
def shp (d : D) : Bool := pl d && decide (dep d ≤ 64)
mutual
def eqv : D → D → Bool
  | .non, .non => true
  | .bl a, .bl b => a == b
  | .bl a, .int j => (if a then 1 else 0) == j
  | .int i, .bl b => i == (if b then 1 else 0)
  | .int i, .int j => i == j
  | .str x, .str y => x == y
  | .lst xs, .lst ys => eqvA xs ys
  | .tup xs, .tup ys => eqvA xs ys
  | _, _ => false
def eqvA : List D → List D → Bool
  | [], [] => true
  | x :: xs, y :: ys => eqv x y && eqvA xs ys
  | _, _ => false
end
def allStr : List D → Option (List (List Nat))
  | [] => some []
  | .str i :: r => (allStr r).map (i :: ·)
  | _ => none
def isNon : D → Bool
  | .non => true
  | _ => false
def cmpD : COp → D → D → Option Bool
  | .eq, d, e => if scalD d e || (shp d && shp e) then some (eqv d e) else none
  | .ne, d, e => if scalD d e || (shp d && shp e) then some (!eqv d e) else none
  | .lt, .int i, .int j => some (decide (i < j))
  | .le, .int i, .int j => some (decide (i ≤ j))
  | .gt, .int i, .int j => some (decide (j < i))
  | .ge, .int i, .int j => some (decide (j ≤ i))
  | .is, d, .non => some (isNon d)
  | .isn, d, .non => some (!isNon d)
  | .is, .bl a, .bl b => some (decide (a = b))
  | .isn, .bl a, .bl b => some (!decide (a = b))
  | .isin, .str [c], .str z => some (z.contains c)
  | .nin, .str [c], .str z => some (!z.contains c)
  | .isin, .str a, .tup xs => (allStr xs).map fun ts => ts.contains a
  | .isin, d, .lst xs => if shp d && shp (.lst xs) then some (xs.any fun x => eqv x d) else none
  | .nin, d, .lst xs => if shp d && shp (.lst xs) then some (!xs.any fun x => eqv x d) else none
  | _, _, _ => none
/-- a place from the left or the right -/
abbrev ixD (n : Nat) (i : Int) : Option Nat := L2.ixN n i
def idxD : D → D → Option D
  | .lst xs, .int i => L2.atI xs i
  | .tup xs, .int i => L2.atI xs i
  | .str x, .int i => if x.length ≤ lim then (L2.atI x i).map fun c => .str [c] else none
  | _, _ => none
def cutD {α : Type} (xs : List α) (lo hi : Option Int) : List α := (xs.drop (HT.sIx xs.length 0 lo)).take (HT.sIx xs.length xs.length hi - HT.sIx xs.length 0 lo)
def slD : D → Option Int → Option Int → Option R
  | .lst xs, lo, hi => some (.o (.L (cutD xs lo hi)))
  | .tup xs, lo, hi => some (.v (.tup (cutD xs lo hi)))
  | .str x, lo, hi => if x.length ≤ lim then some (.v (.str (cutD x lo hi))) else none
  | _, _, _ => none
def mulOk (i j : Int) : Bool := decide (i.natAbs.log2 + j.natAbs.log2 < 134000000)
def divOk (j : Int) : Bool := decide (j ≠ 0) && decide (j.natAbs.log2 < 9000)
/-- no number above that, so no long way of dividing -/
def bigOk (i j : Int) : Bool := decide (j ≠ 0) && decide (i.natAbs.log2 < 13500)
def powOk (i j : Int) : Bool := decide (0 ≤ j) && decide (j ≤ 1000000) && decide (i.natAbs < 18446744073709551616)
def binD : BOp → D → D → Option R
  | .add, .int i, .int j => some (.v (.int (i + j)))
  | .add, .str a, .str b => if a.length + b.length ≤ lim then some (.v (.str (a ++ b))) else none
  | .add, .tup a, .tup b => if a.length + b.length ≤ lim then some (.v (.tup (a ++ b))) else none
  | .add, .lst a, .lst b => if a.length + b.length ≤ lim then some (.o (.L (a ++ b))) else none
  | .sub, .int i, .int j => some (.v (.int (i - j)))
  | .mul, .int i, .int j => if mulOk i j then some (.v (.int (i * j))) else none
  | .mul, .str a, .int n => if a.length ≤ 16 ∧ 0 ≤ n ∧ n.toNat ≤ 1048576 then some (.v (.str (List.replicate n.toNat a).flatten)) else none
  | .fdiv, .int i, .int j => if divOk j || bigOk i j then some (.v (.int (i.fdiv j))) else none
  | .mod, .int i, .int j => if j = 0 then none else some (.v (.int (i.fmod j)))
  | .pow, .int i, .int j => if powOk i j then some (.v (.int (i ^ j.toNat))) else none
  | _, _, _ => none
def allInt : List D → Option (List Int)
  | [] => some []
  | .int i :: r => (allInt r).map (i :: ·)
  | _ => none
def allBl : List D → Option (List Bool)
  | [] => some []
  | .bl i :: r => (allBl r).map (i :: ·)
  | _ => none
def seqD : D → Option (List D)
  | .lst xs => some xs
  | .tup xs => some xs
  | _ => none
/-- the figures of a number -/
def figs (i : Int) : List Nat := (Str.ofString (toString i)).cps.toList
def b1D : B1 → D → Option R
  | .abs, .int i => some (.v (.int (if i < 0 then -i else i)))
  | .len, .lst xs => some (.v (.int xs.length))
  | .len, .tup xs => some (.v (.int xs.length))
  | .len, .str xs => if xs.length ≤ lim then some (.v (.int xs.length)) else none
  | .int, .int i => some (.v (.int i))
  | .int, .bl b => some (.v (.int (if b then 1 else 0)))
  | .int, .str x => if x.length ≤ 640 then (PySem.intText? ⟨x.toArray⟩).map fun n => .v (.int n) else none
  | .str, .int i => if i.natAbs.log2 < 1920 then some (.v (.str (figs i))) else none
  | .tup, .lst xs => some (.v (.tup xs))
  | .tup, .tup xs => some (.v (.tup xs))
  | .lst, .lst xs => some (.o (.L xs))
  | .lst, .tup xs => some (.o (.L xs))
  | .all, .lst xs => (allBl xs).map fun bs => .v (.bl (bs.all id))
  | .any, .lst xs => (allBl xs).map fun bs => .v (.bl (bs.any id))
  | _, _ => none
def b2D : B2 → D → D → Option R
  | .min, .int i, .int j => some (.v (.int (if j < i then j else i)))
  | .max, .int i, .int j => some (.v (.int (if j > i then j else i)))
  | _, _, _ => none
def augD : BOp → D → D → Option D
  | .add, .int x, .int y => some (.int (x + y))
  | .sub, .int x, .int y => some (.int (x - y))
  | _, _, _ => none
/-- isinstance; sub: which class stands under which -/
def isiD (ins : Nat → Bool) (sub : Nat → Nat → Bool) : Ty → D → Option Bool
  | .int, .int _ => some true | .int, .bl _ => some true | .int, .non => some false | .int, .str _ => some false | .int, .tup _ => some false | .int, .lst _ => some false | .int, .dct _ _ => some false
  | .bool, .bl _ => some true | .bool, .int _ => some false | .bool, .non => some false | .bool, .str _ => some false | .bool, .tup _ => some false | .bool, .lst _ => some false | .bool, .dct _ _ => some false
  | .str, .str _ => some true | .str, .int _ => some false | .str, .bl _ => some false | .str, .non => some false | .str, .tup _ => some false | .str, .lst _ => some false | .str, .dct _ _ => some false
  | .tup, .tup _ => some true | .tup, .int _ => some false | .tup, .bl _ => some false | .tup, .non => some false | .tup, .str _ => some false | .tup, .lst _ => some false | .tup, .dct _ _ => some false
  | .lst, .dct _ _ => some false | .lst, .lst _ => some true | .lst, .int _ => some false | .lst, .bl _ => some false | .lst, .non => some false | .lst, .str _ => some false | .lst, .tup _ => some false
  | .cls c, .obj d _ => if ins d then some (sub d c) else none
  | _, _ => none

/-! ### what stands around a run: the globals' values, the classes -/
structure Cls where
  /-- the fields of an instance, in order -/
  flds : List Nat
  /-- __init__'s number, if it has one -/
  init : Option Nat
structure Tb where
  glo : Nat → D
  cls : Nat → Cls
  /-- class, method: its def -/
  mth : Nat → Nat → Option Nat
  sub : Nat → Nat → Bool
  /-- the classes of instances, of exceptions -/
  ins : Nat → Bool
  exn : Nat → Bool

/-! ### slots -/
def dr (ρ : Env) : R → Option D
  | .v d => some d
  | .o w => some w.d
  | .w i => match gt ρ i with
    | .v d _ => some d
    | .o w _ => some w.d
    | .k w _ => some w.d
    | _ => none
/-- to be kept: an owned thing is owned no longer -/
def fz (ρ : Env) : R → Option (D × Env)
  | .v d => some (d, ρ)
  | .o w => some (w.d, ρ)
  | .w i => match gt ρ i with
    | .v d _ => some (d, ρ)
    | .o w f => some (w.d, pt ρ i (.v w.d f))
    | _ => none
def fzA (ρ : Env) : List R → Option (List D × Env)
  | [] => some ([], ρ)
  | r :: rs => match fz ρ r with
    | some (d, ρ1) => (match fzA ρ1 rs with
      | some (ds, ρ2) => some (d :: ds, ρ2)
      | none => none)
    | none => none
/-- an argument as it is handed in -/
def argS (ρ : Env) : R → Option Sl
  | .v d => some (.v d false)
  | .o w => some (.o w true)
  | .w i => match gt ρ i with
    | .v d _ => some (.v d false)
    | .o w _ => some (.o w true)
    | .k w _ => some (.k w true)
    | _ => none
def argA (ρ : Env) : List R → Option (List Sl)
  | [] => some []
  | r :: rs => match argS ρ r with
    | some s => (match argA ρ rs with
      | some ss => some (s :: ss)
      | none => none)
    | none => none
def wIx : List R → List Nat
  | [] => []
  | .w i :: r => i :: wIx r
  | _ :: r => wIx r
def noDup : List Nat → Bool
  | [] => true
  | i :: r => !r.contains i && noDup r
/-- behind a call: what became of the slots that were handed in -/
def outS (old new : Sl) : Sl := match old with
  | .o _ f => (match new with
    | .o w _ => .o w f
    | .v d true => .v d f
    | _ => .u)
  | .v d f => .v d f
  | .k w f => .k w f
  | s => s
def outA (ρ : Env) : List R → List Sl → Env
  | .w i :: rs, s :: ss => outA (pt ρ i (outS (gt ρ i) s)) rs ss
  | _ :: rs, _ :: ss => outA ρ rs ss
  | _, _ => ρ
def Out.one {β : Type} (o : Out (List R)) (f : R → Env → Out β) : Out β := o.bnd fun rs ρ => match rs with
  | [r] => f r ρ
  | _ => .st
def ofO (o : Option R) (ρ : Env) : Out (List R) := match o with
  | some r => .ok [r] ρ
  | none => .st
/-- one operand's data -/
def ap1 (o : Out (List R)) (f : D → Option R) : Out (List R) := o.one fun r ρ => match dr ρ r with
  | some d => ofO (f d) ρ
  | none => .st
/-- two operands' data, both read behind both -/
def ap2 (o : Out (List R)) (q : Env → Out (List R)) (f : D → D → Option R) : Out (List R) := o.one fun x ρ => (q ρ).one fun y ρ2 => match dr ρ2 x, dr ρ2 y with
  | some d, some e => ofO (f d e) ρ2
  | _, _ => .st
def trw (o : Out (List R)) (f : Bool → Env → Out (List R)) : Out (List R) := o.one fun r ρ => match r with
  | .v (.bl b) => f b ρ
  | _ => .st
/-- the items that a walk gives -/
def itD : ItK → List D → Option (List D)
  | .seq, [.lst xs] => some xs
  | .seq, [.tup xs] => some xs
  | .seq, [.str x] => some (x.map fun c => .str [c])
  | .rng, [.int n] => if -(lim : Int) ≤ n ∧ n ≤ lim then some ((List.range n.toNat).map fun i => .int (i : Nat)) else none
  | .rng2, [.int a, .int b] => if -(lim : Int) ≤ a ∧ a ≤ lim ∧ -(lim : Int) ≤ b ∧ b ≤ lim then some ((List.range (b - a).toNat).map fun i => .int (a + (i : Nat))) else none
  | .enm, [.lst xs] => some ((List.range xs.length).zipWith (fun i x => .tup [.int (i : Nat), x]) xs)
  | .enm, [.tup xs] => some ((List.range xs.length).zipWith (fun i x => .tup [.int (i : Nat), x]) xs)
  | .enm, [.str xs] => some ((List.range xs.length).zipWith (fun i x => .tup [.int (i : Nat), .str [x]]) xs)
  | .zip, [.lst xs, .lst ys] => some (xs.zipWith (fun x y => .tup [x, y]) ys)
  | .zip, [.tup xs, .tup ys] => some (xs.zipWith (fun x y => .tup [x, y]) ys)
  | .zip, [.tup xs, .lst ys] => some (xs.zipWith (fun x y => .tup [x, y]) ys)
  | .rev, [.lst xs] => some xs.reverse
  | .rev, [.tup xs] => some xs.reverse
  | .rev, [.str x] => if x.length ≤ lim then some (x.reverse.map fun c => .str [c]) else none
  | _, _ => none
def drA (ρ : Env) : List R → Option (List D)
  | [] => some []
  | r :: rs => match dr ρ r, drA ρ rs with
    | some d, some ds => some (d :: ds)
    | _, _ => none
/-- the owned slots that are walked are locked, and unlocked behind -/
def lk (ρ : Env) (i : Nat) : Env := match gt ρ i with
  | .o w f => pt ρ i (.k w f)
  | _ => ρ
def lkA (ρ : Env) : List Nat → Env
  | [] => ρ
  | i :: r => lkA (lk ρ i) r
/-- the ones among them that are owned -/
def owA (ρ : Env) : List Nat → List Nat
  | [] => []
  | i :: r => match gt ρ i with
    | .o _ _ => i :: owA ρ r
    | _ => owA ρ r
def ul (ρ : Env) (i : Nat) : Env := match gt ρ i with
  | .k w f => pt ρ i (.o w f)
  | _ => ρ
def ulA (ρ : Env) : List Nat → Env
  | [] => ρ
  | i :: r => ulA (ul ρ i) r
def asg : Tg → D → Env → Option Env
  | .one i, d, ρ => some (pt ρ i (.v d false))
  | .tup is, .tup ds, ρ => go is ds ρ
  | .tup is, .lst ds, ρ => go is ds ρ
  | .tup _, _, _ => none
where go : List Nat → List D → Env → Option Env
  | [], [], ρ => some ρ
  | i :: is, d :: ds, ρ => go is ds (pt ρ i (.v d false))
  | _, _, _ => none
def tgIn : Tg → List Nat → Bool
  | .one i, own => own.contains i
  | .tup is, own => is.all fun i => own.contains i
def wip (ρ : Env) : List Nat → Env
  | [] => ρ
  | i :: r => wip (pt ρ i .u) r
/-- the slots of is as they are in ρ0 -/
def bck (ρ0 ρ : Env) : List Nat → Env
  | [] => ρ
  | i :: r => bck ρ0 (pt ρ i (gt ρ0 i)) r
/-- a comprehension's turns: c the test, f the element -/
def cmpL (own : List Nat) (t : Tg) (c : Option (Env → Out (List R))) (f : Env → Out (List R)) : List D → List D → Env → Out (List D)
  | [], acc, ρ => .ok acc ρ
  | x :: xs, acc, ρ => match asg t x (wip ρ own) with
    | none => .st
    | some ρ1 => match (match c with
      | none => Out.ok true ρ1
      | some g => match g ρ1 with
        | .ok [.v (.bl b)] ρ2 => Out.ok b ρ2
        | _ => Out.st) with
      | .ok false ρ2 => cmpL own t c f xs acc (bck ρ ρ2 own)
      | .ok true ρ2 => (match f ρ2 with
        | .ok [r] ρ3 => (match fz ρ3 r with
          | some (d, ρ4) => cmpL own t c f xs (acc ++ [d]) (bck ρ ρ4 own)
          | none => .st)
        | _ => .st)
      | _ => .st
def mutD : MM → List D → List D → Option (D × List D)
  | .append, xs, [y] => if xs.length < lim then some (.non, xs ++ [y]) else none
  | .pop, xs, [.int i] => if -(lim : Int) ≤ i ∧ i ≤ lim then (ixD xs.length i).bind fun j => (xs[j]?).map fun y => (y, xs.eraseIdx j) else none
  | .pop, xs, [] => (xs[xs.length - 1]?).map fun y => (y, xs.dropLast)
  | .extend, xs, [.lst ys] => if xs.length + ys.length ≤ lim then some (.non, xs ++ ys) else none
  | .clear, _, [] => some (.non, [])
  | _, _, _ => none
def isOL : Sl → Bool
  | .o (.L _) _ => true
  | _ => false
/-- what is put behind a list at once must be an own list -/
def mutO (_ : Env) : MM → List R → Bool := fun _ _ => true
/-- a text as the machine has it, and back -/
abbrev tS' (x : List Nat) : Str := ⟨x.toArray⟩
abbrev tL (s : Str) : List Nat := s.cps.toList
def bmD : BM → List Nat → List D → Option R
  | .starts, x, [.str y] => some (.v (.bl (Txt.startswith (tS' x) (tS' y))))
  | .index, x, [.str y] => (match Builtin.Str.occurrences (tS' x) (tS' y) 0 (tS' x).length 1 with
    | i :: _ => some (.v (.int (i : Nat)))
    | [] => none)
  | .part, x, [.str y] => if ((tS' y).length == 0) = false ∧ (tS' x).length ≤ lim then some (.v (.tup [.str (tL (Txt.partition (tS' x) (tS' y)).1), .str (tL (Txt.partition (tS' x) (tS' y)).2.1), .str (tL (Txt.partition (tS' x) (tS' y)).2.2)])) else none
  | .join, x, [.lst ys] => (allStr ys).bind fun ts => if ((ts.map tS').map (·.length)).sum + (ts.map tS').length * (tS' x).length ≤ 16777216 then some (.v (.str (tL (Txt.join (tS' x) (ts.map tS'))))) else none
  | .join, x, [.tup ys] => (allStr ys).bind fun ts => if ((ts.map tS').map (·.length)).sum + (ts.map tS').length * (tS' x).length ≤ 16777216 then some (.v (.str (tL (Txt.join (tS' x) (ts.map tS'))))) else none
  | .split, x, [.str y] => if ((tS' y).length == 0) = false ∧ (tS' x).length + 2 ≤ lim then some (.o (.L ((Txt.split (tS' x) (tS' y)).map fun s => .str (tL s)))) else none
  | .upper, x, [] => if (tS' x).length ≤ 5592405 then some (.v (.str (tL (Txt.upper (tS' x))))) else none
  | .count, x, [.str y] => some (.v (.int (Txt.count (tS' x) (tS' y))))
  | _, _, _ => none
def ownOk (ρ : Env) : List Nat → Bool
  | [] => true
  | i :: r => (match gt ρ i with
    | .u => true
    | .v _ _ => true
    | _ => false) && ownOk ρ r
/-- a bound that may be left out -/
def partI (no : Bool) (o : Out (List R)) (ρ : Env) : Out (Option Int) := if no then .ok none ρ else o.one fun r ρ => match r with
  | .v (.int i) => .ok (some i) ρ
  | _ => .st
def FOut.back (q : FOut) (ρ : Env) (rs : List R) : Out (List R) := match q with
  | .ok r outs => .ok [r] (outA ρ rs outs)
  | .ex c outs => .ex c (outA ρ rs outs)
  | .st => .st
def mkO (n c : Nat) : FOut → FOut
  | .ok (.v .non) (.n e vs :: outs) => if e = c ∧ vs.length = n then .ok (.v (.obj c vs)) outs else .st
  | .ok _ _ => .st
  | .ex c (_ :: outs) => .ex c outs
  | .ex _ [] => .st
  | .st => .st

/-- how many unlike ones there are, but for those seen -/
def dist : List Nat → List Nat → Nat
  | _, [] => 0
  | seen, c :: r => if seen.contains c then dist seen r else dist (c :: seen) r + 1
def dget : List (List Nat) → List D → List Nat → Option D
  | k :: ks, d :: ds, s => if k = s then some d else dget ks ds s
  | _, _, _ => none
section
variable (B : Tb) (Φ : CallF)
def ev : E → Env → Out (List R)
  | .var i, ρ => match gt ρ i with
    | .v d _ => .ok [.v d] ρ
    | .o _ _ => .ok [.w i] ρ
    | .k _ _ => .ok [.w i] ρ
    | _ => .st
  | .con d, ρ => .ok [.v d] ρ
  | .glo g, ρ => .ok [.v (B.glo g)] ρ
  | .frz a, ρ => (ev a ρ).one fun r ρ => match fz ρ r with
    | some (d, ρ1) => .ok [.v d] ρ1
    | none => .st
  | .bin op a b, ρ => ap2 (ev a ρ) (ev b) (binD op)
  | .neg a, ρ => ap1 (ev a ρ) fun d => match d with
    | .int i => some (.v (.int (-i)))
    | _ => none
  | .nt a, ρ => trw (ev a ρ) fun b ρ => .ok [.v (.bl (!b))] ρ
  | .cmp op a b, ρ => ap2 (ev a ρ) (ev b) fun d e => (cmpD op d e).map fun b => .v (.bl b)
  | .cmp2 o1 o2 a b c, ρ => (ev a ρ).one fun x ρ1 => (ev b ρ1).one fun y ρ2 => match dr ρ2 x, dr ρ2 y with
    | some d, some e => (match cmpD o1 d e with
      | some true => (ev c ρ2).one fun z ρ3 => match dr ρ3 y, dr ρ3 z with
        | some e', some g => ofO ((cmpD o2 e' g).map fun b => .v (.bl b)) ρ3
        | _, _ => .st
      | some false => .ok [.v (.bl false)] ρ2
      | none => .st)
    | _, _ => .st
  | .and a b, ρ => trw (ev a ρ) fun k ρ1 => if k then ev b ρ1 else .ok [.v (.bl false)] ρ1
  | .or a b, ρ => trw (ev a ρ) fun k ρ1 => if k then .ok [.v (.bl true)] ρ1 else ev b ρ1
  | .ite c a b, ρ => trw (ev c ρ) fun k ρ1 => if k then ev a ρ1 else ev b ρ1
  | .tup as, ρ => (ev as ρ).bnd fun rs ρ1 => match fzA ρ1 rs with
    | some (ds, ρ2) => .ok [.v (.tup ds)] ρ2
    | none => .st
  | .lst as, ρ => (ev as ρ).bnd fun rs ρ1 => match fzA ρ1 rs with
    | some (ds, ρ2) => .ok [.o (.L ds)] ρ2
    | none => .st
  | .idx a b, ρ => ap2 (ev a ρ) (ev b) fun d e => (idxD d e).map .v
  | .sl a lo hi, ρ => (ev a ρ).one fun x ρ1 => (partI lo.isNil (ev lo ρ1) ρ1).bnd fun l ρ2 => (partI hi.isNil (ev hi ρ2) ρ2).bnd fun h ρ3 => match dr ρ3 x with
    | some d => ofO (slD d l h) ρ3
    | none => .st
  | .rv a, ρ => ap1 (ev a ρ) fun d => match d with
    | .lst xs => some (.o (.L xs.reverse))
    | .str x => if x.length ≤ lim then some (.v (.str x.reverse)) else none
    | _ => none
  | .fld a f, ρ => ap1 (ev a ρ) fun d => match d with
    | .obj c vs => (((B.cls c).flds.findIdx? (· == f)).bind fun j => vs[j]?).map .v
    | _ => none
  | .call f as, ρ => (ev as ρ).bnd fun rs ρ1 => match argA ρ1 rs with
    | some ss => if noDup (wIx rs) then (Φ f ss).back ρ1 rs else .st
    | none => .st
  | .mcal m o as, ρ => (ev o ρ).one fun x ρ1 => match x with
    | .v (.obj c vs) => (match B.mth c m with
      | some f => (ev as ρ1).bnd fun rs ρ2 => match argA ρ2 rs with
        | some ss => if noDup (wIx rs) then (Φ f (.v (.obj c vs) false :: ss)).back ρ2 (.v (.obj c vs) :: rs) else .st
        | none => .st
      | none => .st)
    | _ => .st
  | .make c as, ρ => (ev as ρ).bnd fun rs ρ1 => match (B.cls c).init with
    | some f => (match argA ρ1 rs with
      | some ss => if noDup (wIx rs) then (mkO (B.cls c).flds.length c (Φ f (.n c [] :: ss))).back ρ1 rs else .st
      | none => .st)
    | none => (match rs with
      | [] => .ok [.v (.obj c [])] ρ1
      | _ => .st)
  | .b1 b a, ρ => ap1 (ev a ρ) (b1D b)
  | .b2 b x y, ρ => ap2 (ev x ρ) (ev y) (b2D b)
  | .dnew, ρ => .ok [.o (.K [] [])] ρ
  | .tix ts a, ρ => ap1 (ev a ρ) fun d => match d with
    | .str s => if ts.contains s then some (.v (.int (ts.idxOf s : Nat))) else none
    | _ => none
  | .lset a, ρ => ap1 (ev a ρ) fun d => match d with
    | .str s => if s.length < 4000 then some (.v (.int (dist [] s : Nat))) else none
    | _ => none
  | .dix ks as x, ρ => (ev as ρ).bnd fun rs ρ1 => match fzA ρ1 rs with
    | some (ds, ρ2) => ap1 (ev x ρ2) fun d => match d with
      | .str s => (dget ks ds s).map .v
      | _ => none
    | none => .st
  | .isi a t, ρ => ap1 (ev a ρ) fun d => (isiD B.ins B.sub t d).map fun b => .v (.bl b)
  | .isx i c, ρ => match gt ρ i with
    | .e d => .ok [.v (.bl (B.sub d c))] ρ
    | _ => .st
  | .bm m o as, ρ => (ev o ρ).one fun x ρ1 => match x with
    | .v (.str s) => (ev as ρ1).bnd fun rs ρ2 => (match drA ρ2 rs with
      | some ds => ofO (bmD m s ds) ρ2
      | none => .st)
    | _ => .st
  | .mut m i as, ρ => if isOL (gt ρ i) then (ev as ρ).bnd fun rs ρ1 => match (if mutO ρ1 m rs then fzA ρ1 rs else none) with
    | some (ds, ρ2) => (match gt ρ2 i with
      | .o (.L xs) f => (match mutD m xs ds with
        | some (d, ys) => .ok [.v d] (pt ρ2 i (.o (.L ys) f))
        | none => .st)
      | _ => .st)
    | none => .st else .st
  | .comp k as t own elt cnd, ρ => (ev as ρ).bnd fun rs ρ1 => match drA ρ1 rs with
    | some ds => (match if tgIn t own && ownOk ρ1 own then itD k ds else none with
      | some xs => if xs.length ≤ lim then (match cmpL own t (if cnd.isNil then none else some (ev cnd)) (ev elt) xs [] (lkA ρ1 (owA ρ1 (wIx rs))) with
        | .ok acc ρ2 => .ok [.o (.L acc)] (ulA ρ2 (owA ρ1 (wIx rs)))
        | _ => .st) else .st
      | none => .st)
    | none => .st
  | .nil, ρ => .ok [] ρ
  | .cons a as, ρ => (ev a ρ).one fun r ρ1 => (ev as ρ1).bnd fun rs ρ2 => .ok (r :: rs) ρ2

/-- a statement's end -/
inductive Fl where | nx | ret (r : R) | cont | brk
def Out.sq (o : Out Fl) (f : Env → Out Fl) : Out Fl := match o with
  | .ok .nx ρ => f ρ
  | o => o
/-- a loop's turns -/
def lpL (t : Tg) (b : Env → Out Fl) : List D → Env → Out Fl
  | [], ρ => .ok .nx ρ
  | x :: xs, ρ => match asg t x ρ with
    | none => .st
    | some ρ1 => match b ρ1 with
      | .ok .nx ρ2 => lpL t b xs ρ2
      | .ok .cont ρ2 => lpL t b xs ρ2
      | .ok .brk ρ2 => .ok .nx ρ2
      | o => o
def whN (c : Env → Out (List R)) (b : Env → Out Fl) : Nat → Env → Out Fl
  | 0, _ => .st
  | n + 1, ρ => (c ρ).one fun r ρ1 => match r with
    | .v (.bl true) => (match b ρ1 with
      | .ok .nx ρ2 => whN c b n ρ2
      | .ok .cont ρ2 => whN c b n ρ2
      | .ok .brk ρ2 => .ok .nx ρ2
      | o => o)
    | .v (.bl false) => .ok .nx ρ1
    | _ => .st
open Classical in
/-- a while: its end, if it has one -/
noncomputable def whC (c : Env → Out (List R)) (b : Env → Out Fl) (ρ : Env) : Out Fl := if h : ∃ n, whN c b n ρ ≠ .st then whN c b (Classical.choose h) ρ else .st
def mapE {α : Type} (o : Out α) (f : Env → Env) : Out α := match o with
  | .ok a ρ => .ok a (f ρ)
  | .ex c ρ => .ex c (f ρ)
  | .st => .st
/-- behind a suite: the exception's name goes; nothing is raised in it -/
def outT (i : Nat) : Out Fl → Out Fl
  | .ok (.ret (.w j)) ρ => if j = i then .st else .ok (.ret (.w j)) (pt ρ i .u)
  | .ok a ρ => .ok a (pt ρ i .u)
  | _ => .st
noncomputable def exe : S → Env → Out Fl
  | .skip, ρ => .ok .nx ρ
  | .seq a b, ρ => (exe a ρ).sq (exe b)
  | .set i e, ρ => (ev B Φ e ρ).one fun r ρ1 => match r with
    | .o w => .ok .nx (pt ρ1 i (.o w false))
    | r => (match fz ρ1 r with
      | some (d, ρ2) => .ok .nx (pt ρ2 i (.v d false))
      | none => .st)
  | .par i j a b, ρ => (ev B Φ a ρ).one fun x ρ1 => (ev B Φ b ρ1).one fun y ρ2 => match fzA ρ2 [x, y] with
    | some ([d, e], ρ3) => .ok .nx (pt (pt ρ3 i (.v d false)) j (.v e false))
    | _ => .st
  | .unp is e, ρ => (ev B Φ e ρ).one fun r ρ1 => match fz ρ1 r with
    | some (d, ρ2) => (match asg (.tup is) d ρ2 with
      | some ρ3 => .ok .nx ρ3
      | none => .st)
    | none => .st
  | .seti i x e, ρ => (ev B Φ e ρ).one fun r ρ1 => if isOL (gt ρ1 i) then (ev B Φ x ρ1).one fun y ρ2 => match y with
    | .v (.int j) => (match fz ρ2 r with
      | some (d, ρ3) => (match gt ρ3 i with
        | .o (.L xs) f => (match ixD xs.length j with
          | some k => .ok .nx (pt ρ3 i (.o (.L (xs.set k d)) f))
          | none => .st)
        | _ => .st)
      | none => .st)
    | _ => .st else .st
  | .setf f e, ρ => (ev B Φ e ρ).one fun r ρ1 => match fz ρ1 r with
    | some (d, ρ2) => (match gt ρ2 0 with
      | .n c vs => if (B.cls c).flds[vs.length]? = some f then .ok .nx (pt ρ2 0 (.n c (vs ++ [d]))) else .st
      | _ => .st)
    | none => .st
  | .aug i op e, ρ => match gt ρ i with
    | .v d _ => (ev B Φ e ρ).one fun r ρ1 => match dr ρ1 r with
      | some g => (match augD op d g with
        | some z => .ok .nx (pt ρ1 i (.v z false))
        | none => .st)
      | none => .st
    | _ => .st
  | .ex e, ρ => (ev B Φ e ρ).one fun _ ρ1 => .ok .nx ρ1
  | .ite c a b, ρ => (ev B Φ c ρ).one fun r ρ1 => match r with
    | .v (.bl true) => exe a ρ1
    | .v (.bl false) => exe b ρ1
    | _ => .st
  | .whl c b, ρ => whC (ev B Φ c) (exe b) ρ
  | .loop k as t b, ρ => (ev B Φ as ρ).bnd fun rs ρ1 => match drA ρ1 rs with
    | some ds => (match itD k ds with
      | some xs => mapE (lpL t (exe b) xs (lkA ρ1 (owA ρ1 (wIx rs)))) fun ρ2 => ulA ρ2 (owA ρ1 (wIx rs))
      | none => .st)
    | none => .st
  | .ret e, ρ => (ev B Φ e ρ).one fun r ρ1 => .ok (.ret r) ρ1
  | .retn, ρ => .ok (.ret (.v .non)) ρ
  | .rai c, ρ => .ex c ρ
  | .try b c i s, ρ => match exe b ρ with
    | .ex d ρ1 => if B.exn d then (if B.sub d c then outT i (exe s (pt ρ1 i (.e d))) else .ex d ρ1) else .st
    | o => o
  | .tryo b c s, ρ => match exe b ρ with
    | .ex d ρ1 => if B.exn d then (if B.sub d c then exe s ρ1 else .ex d ρ1) else .st
    | o => o
  | .cont, ρ => .ok .cont ρ
  | .brk, ρ => .ok .brk ρ
end

/-! ### a def -/
structure Fn where
  np : Nat
  nn : Nat
  body : S
/-- what is handed back of a slot: still the caller's, or not -/
def outF : Sl → Sl
  | .o w true => .o w true
  | .v d true => .v d true
  | .k w true => .k w true
  | .n c vs => .n c vs
  | _ => .u
def retR (ρ : Env) : R → Option (R × Env)
  | .v d => some (.v d, ρ)
  | .o w => some (.o w, ρ)
  | .w i => match gt ρ i with
    | .o w false => some (.o w, pt ρ i .u)
    | .o w true => some (.v w.d, pt ρ i (.v w.d true))
    | .v d _ => some (.v d, ρ)
    | _ => none
noncomputable def runF (B : Tb) (Φ : CallF) (F : Fn) (ss : List Sl) : FOut :=
  if ss.length = F.np then
    match exe B Φ F.body (ss ++ List.replicate (F.nn - F.np) .u) with
    | .ok .nx ρ => .ok (.v .non) ((ρ.take F.np).map outF)
    | .ok (.ret r) ρ => (match retR ρ r with
      | some (r', ρ') => .ok r' ((ρ'.take F.np).map outF)
      | none => .st)
    | .ok _ _ => .st
    | .ex c ρ => .ex c ((ρ.take F.np).map outF)
    | .st => .st
  else .st
/-- the calls to a depth -/
noncomputable def cal (B : Tb) (T : Nat → Option Fn) : Nat → CallF
  | 0, _, _ => .st
  | n + 1, f, ss => match T f with
    | some F => runF B (cal B T n) F ss
    | none => .st
end Z

/-! what the interpreter's data are in the heap -/
namespace Z
open PySem L2
/-- what the numbers stand for -/
structure Cd where
  K : PySem.W.Frag
  cA : Nat → Addr
  fN : Nat → Str
  B : Tb
  /-- in an except suite: the exception, its class -/
  xa : Option (Addr × Nat)
def kd : KD → Key
  | .inl i => .inl i
  | .inr x => .inr ⟨x.toArray⟩
def Kl (K : PySem.W.Frag) (a : Addr) (xs : List V) : Prop := ∃ (o : Obj) (its : Array Value) (n : Nat), K.lookup a = some o ∧ o.cls = .type "list" ∧ o.dict = none ∧ o.data = .seq its n ∧ its.size ≤ sizeLine ∧ Vals xs its.toList
def Kt (K : PySem.W.Frag) (a : Addr) (xs : List V) : Prop := ∃ (o : Obj) (its : Array Value) (n : Nat), K.lookup a = some o ∧ o.cls = .type "tuple" ∧ o.data = .seq its n ∧ its.size ≤ sizeLine ∧ Vals xs its.toList
/-- a list, a tuple that stays as it is -/
def LF (K : PySem.W.Frag) (F : Addr → Prop) (H : Hp) (a : Addr) (xs : List V) : Prop := (F a ∧ Rd H a (.lst xs)) ∨ Kl K a xs
def TF (K : PySem.W.Frag) (F : Addr → Prop) (H : Hp) (a : Addr) (xs : List V) : Prop := (F a ∧ Rd H a (.tup xs)) ∨ Kt K a xs
section
variable (Z : Cd) (F : Addr → Prop) (H : Hp)
def Cd.names (c : Nat) : List Str := (Z.B.cls c).flds.map Z.fN
mutual
def Rep : D → V → Prop
  | .non, v => v = .non
  | .bl b, v => v = .bl b
  | .int i, v => v = .int i
  | .str x, v => v = .str ⟨x.toArray⟩
  | .tup ds, v => ∃ a vs, v = .ref a ∧ TF Z.K F H a vs ∧ RepA ds vs
  | .lst ds, v => ∃ a vs, v = .ref a ∧ LF Z.K F H a vs ∧ RepA ds vs
  | .dct ks ds, v => ∃ a vs, v = .ref a ∧ F a ∧ H a = some (.dK ((ks.map kd).zip vs)) ∧ ks.length = vs.length ∧ RepA ds vs
  | .obj c ds, v => ∃ a dx vs, v = .ref a ∧ F a ∧ H a = some (.ins (Z.cA c) dx ((Z.names c).zip vs)) ∧ (Z.names c).length = vs.length ∧ RepA ds vs
def RepA : List D → List V → Prop
  | [], vs => vs = []
  | d :: ds, vs => ∃ v r, vs = v :: r ∧ Rep d v ∧ RepA ds r
end
/-- an owned thing at a -/
def ROw (a : Addr) : Ow → Prop
  | .L ds => ¬ F a ∧ ∃ vs, H a = some (.lst vs) ∧ RepA Z F H ds vs
  | .K ks ds => ¬ F a ∧ ∃ vs, H a = some (.dK ((ks.map kd).zip vs)) ∧ ks.length = vs.length ∧ RepA Z F H ds vs
/-- an instance in the making -/
def RNw (a : Addr) (c : Nat) (ds : List D) : Prop := ¬ F a ∧ ∃ dx vs, H a = some (.ins (Z.cA c) dx (((Z.names c).take vs.length).zip vs)) ∧ vs.length ≤ (Z.names c).length ∧ RepA Z F H ds vs
/-- what may be read at once: the outer list may be owned -/
def RepT : D → V → Prop
  | .lst ds, v => ∃ a vs, v = .ref a ∧ SqL Z.K H a vs ∧ RepA Z F H ds vs
  | .dct ks ds, v => ∃ a vs, v = .ref a ∧ H a = some (.dK ((ks.map kd).zip vs)) ∧ ks.length = vs.length ∧ RepA Z F H ds vs
  | d, v => Rep Z F H d v
end
def sg (σ : L2.St) (i : Nat) : Option V := match σ[i]? with
  | some x => x
  | none => none
/-- the address that a slot owns -/
def oa : Option V → Sl → Option Addr
  | some (.ref a), .o _ _ => some a
  | some (.ref a), .k _ _ => some a
  | some (.ref a), .n _ _ => some a
  | _, _ => none
/-- .. and may write to -/
def wa : Option V → Sl → Option Addr
  | some (.ref a), .o _ _ => some a
  | some (.ref a), .n _ _ => some a
  | _, _ => none
section
variable (Z : Cd) (F : Addr → Prop) (H : Hp)
def RSl (x : Option V) : Sl → Prop
  | .u => True
  | .v d _ => ∃ v, x = some v ∧ Rep Z F H d v
  | .o w _ => ∃ a, x = some (.ref a) ∧ ROw Z F H a w
  | .k w _ => ∃ a, x = some (.ref a) ∧ ROw Z F H a w
  | .e c => ∃ a, x = some (.ref a) ∧ Z.xa = some (a, c)
  | .n c ds => ∃ a, x = some (.ref a) ∧ RNw Z F H a c ds
structure RS (σ : L2.St) (ρ : Env) : Prop where
  fok : ∀ a, F a → H a ≠ none
  len : ρ.length = σ.length
  sl : ∀ i, RSl Z F H (sg σ i) (gt ρ i)
  ap : ∀ i j a, i ≠ j → oa (sg σ i) (gt ρ i) = some a → oa (sg σ j) (gt ρ j) ≠ some a
end
def Wr (σ : L2.St) (ρ : Env) (a : Addr) : Prop := ∃ i, wa (sg σ i) (gt ρ i) = some a
structure Step (σ : L2.St) (ρ : Env) (F : Addr → Prop) (H : Hp) (F' : Addr → Prop) (H' : Hp) : Prop where
  keep : ∀ a o, H a = some o → ¬ Wr σ ρ a → H' a = some o
  live : ∀ a, H a ≠ none → H' a ≠ none
  fmo : ∀ a, F a → F' a
  fnew : ∀ a, F' a → F a ∨ H a = none ∨ Wr σ ρ a
def RepR (Z : Cd) (H0 : Hp) (F : Addr → Prop) (H : Hp) (σ : L2.St) : R → V → Prop
  | .v d, v => Rep Z F H d v
  | .o w, v => ∃ a, v = .ref a ∧ ROw Z F H a w ∧ H0 a = none
  | .w i, v => sg σ i = some v
def oR : R → V → Option Addr
  | .o _, .ref a => some a
  | _, _ => none
def oRs : List R → List V → List Addr
  | r :: rs, v :: vs => (match oR r v with
    | some a => a :: oRs rs vs
    | none => oRs rs vs)
  | _, _ => []
def RepRs (Z : Cd) (H0 : Hp) (F : Addr → Prop) (H : Hp) (σ : L2.St) : List R → List V → Prop
  | [], vs => vs = []
  | r :: rs, vs => ∃ v t, vs = v :: t ∧ RepR Z H0 F H σ r v ∧ RepRs Z H0 F H σ rs t ∧ ∀ a, oR r v = some a → a ∉ oRs rs t
/-- what is wanted behind a run of an expression -/
def EQs (Z : Cd) (W : WX) (F : Addr → Prop) (H : Hp) (σ : L2.St) (ρ : Env) (o : Out (List R)) (Q : List V → Hp → Prop) : Prop := match o with
  | .ok rs ρ' => ∀ vs H' F', Step σ ρ F H F' H' → RS Z F' H' σ ρ' → RepRs Z H F' H' σ rs vs → Q vs H'
  | .ex c ρ' => ∀ H' F', Step σ ρ F H F' H' → RS Z F' H' σ ρ' → W (.ref (Z.cA c)) none σ H'
  | .st => False
def tA (Z : Cd) (W : WX) (f : Env → Out (List R)) : TA := fun σ H Q => ∃ ρ F, RS Z F H σ ρ ∧ EQs Z W F H σ ρ (f ρ) Q
def t1 (Z : Cd) (W : WX) (f : Env → Out (List R)) : TE := fun σ H Q => tA Z W f σ H fun vs H' => ∃ v, vs = [v] ∧ Q v H'
def tT (Z : Cd) (W : WX) (f : Env → Out (List R)) : TT := fun σ H Q => tA Z W f σ H fun vs H' => ∃ b, vs = [.bl b] ∧ Q b H'

/-! ### slots -/
theorem gt_pt (ρ : Env) (i j : Nat) (y : Sl) : gt (pt ρ i y) j = if j = i ∧ i < ρ.length then y else gt ρ j := by
  induction ρ generalizing i j with
  | nil => simp [pt, gt]
  | cons x r ih =>
    cases i with
    | zero => cases j with
      | zero => simp [pt, gt]
      | succ j => simp [pt, gt]
    | succ i => cases j with
      | zero => simp [pt, gt]
      | succ j =>
        have h := ih i j
        simp only [pt, gt, h, List.length_cons]
        by_cases e : j = i ∧ i < r.length
        · rw [if_pos e, if_pos ⟨by omega, by omega⟩]
        · rw [if_neg e, if_neg (by omega)]
theorem gt_pt_ne (ρ : Env) {i j : Nat} (y : Sl) (h : j ≠ i) : gt (pt ρ i y) j = gt ρ j := by
  rw [gt_pt, if_neg (fun q => h q.1)]
theorem gt_pt_eq (ρ : Env) {i : Nat} (y : Sl) (h : i < ρ.length) : gt (pt ρ i y) i = y := by
  rw [gt_pt, if_pos ⟨rfl, h⟩]
theorem pt_length (ρ : Env) (i : Nat) (y : Sl) : (pt ρ i y).length = ρ.length := by
  induction ρ generalizing i with
  | nil => rfl
  | cons x r ih => cases i <;> simp [pt, ih]
theorem gt_ge (ρ : Env) {i : Nat} (h : ρ.length ≤ i) : gt ρ i = .u := by
  induction ρ generalizing i with
  | nil => rfl
  | cons x r ih =>
    cases i with
    | zero => simp at h
    | succ i => exact ih (by simpa using h)
theorem lt_of_gt (ρ : Env) {i : Nat} (h : gt ρ i ≠ .u) : i < ρ.length := by
  by_cases q : i < ρ.length
  · exact q
  · exact absurd (gt_ge ρ (Nat.le_of_not_lt q)) h
theorem sg_set (σ : L2.St) (i j : Nat) (x : Option V) : sg (σ.set i x) j = if j = i ∧ i < σ.length then x else sg σ j := by
  unfold sg
  by_cases e : j = i
  · subst e
    by_cases h : j < σ.length
    · rw [List.getElem?_set_self h, if_pos ⟨rfl, h⟩]
    · rw [List.getElem?_eq_none (by simpa using h), if_neg (fun q => h q.2), List.getElem?_eq_none (by simpa using h)]
  · rw [List.getElem?_set_ne (Ne.symm e), if_neg (fun q => e q.1)]
theorem sg_some {σ : L2.St} {i : Nat} {v : V} : sg σ i = some v ↔ σ[i]? = some (some v) := by
  unfold sg
  constructor
  · intro h
    cases e : σ[i]? with
    | none => rw [e] at h; cases h
    | some x => rw [e] at h; rw [show x = some v from h]
  · intro h
    rw [h]
theorem sg_map (vs : List V) (i : Nat) : sg (vs.map some) i = vs[i]? := by
  unfold sg
  rw [List.getElem?_map]
  cases vs[i]? <;> rfl

/-! ### what stays -/
theorem LF.sq {K : PySem.W.Frag} {F : Addr → Prop} {H : Hp} {a : Addr} {xs : List V} (h : LF K F H a xs) : SqL K H a xs := h.elim (fun q => .inl q.2) .inr
theorem TF.sq {K : PySem.W.Frag} {F : Addr → Prop} {H : Hp} {a : Addr} {xs : List V} (h : TF K F H a xs) : SqT K H a xs := h.elim (fun q => .inl q.2) .inr
section
variable {Z : Cd} {F F' : Addr → Prop} {H H' : Hp}
theorem Rd.mo {a : Addr} {u : HO} (h : Rd H a u) (e : ∀ o, H a = some o → H' a = some o) : Rd H' a u := h.elim (fun q => .inl (e _ q)) fun ⟨o, q⟩ => .inr ⟨o, e _ q⟩
theorem LF.mo {K : PySem.W.Frag} {a : Addr} {xs : List V} (h : LF K F H a xs) (m : ∀ a, F a → F' a ∧ ∀ o, H a = some o → H' a = some o) : LF K F' H' a xs := h.elim (fun q => .inl ⟨(m a q.1).1, Rd.mo q.2 (m a q.1).2⟩) .inr
theorem TF.mo {K : PySem.W.Frag} {a : Addr} {xs : List V} (h : TF K F H a xs) (m : ∀ a, F a → F' a ∧ ∀ o, H a = some o → H' a = some o) : TF K F' H' a xs := h.elim (fun q => .inl ⟨(m a q.1).1, Rd.mo q.2 (m a q.1).2⟩) .inr
mutual
theorem Rep.mo (m : ∀ a, F a → F' a ∧ ∀ o, H a = some o → H' a = some o) : ∀ (d : D) (v : V), Rep Z F H d v → Rep Z F' H' d v
  | .non, v, h => by simpa [Rep] using h
  | .bl b, v, h => by simpa [Rep] using h
  | .int i, v, h => by simpa [Rep] using h
  | .str x, v, h => by simpa [Rep] using h
  | .tup ds, v, h => by
    simp only [Rep] at h ⊢
    obtain ⟨a, vs, e, t, r⟩ := h
    exact ⟨a, vs, e, t.mo m, RepA.mo m ds vs r⟩
  | .lst ds, v, h => by
    simp only [Rep] at h ⊢
    obtain ⟨a, vs, e, t, r⟩ := h
    exact ⟨a, vs, e, t.mo m, RepA.mo m ds vs r⟩
  | .dct ks ds, v, h => by
    simp only [Rep] at h ⊢
    obtain ⟨a, vs, e, f, t, l, r⟩ := h
    exact ⟨a, vs, e, (m a f).1, (m a f).2 _ t, l, RepA.mo m ds vs r⟩
  | .obj c ds, v, h => by
    simp only [Rep] at h ⊢
    obtain ⟨a, dx, vs, e, f, t, l, r⟩ := h
    exact ⟨a, dx, vs, e, (m a f).1, (m a f).2 _ t, l, RepA.mo m ds vs r⟩
theorem RepA.mo (m : ∀ a, F a → F' a ∧ ∀ o, H a = some o → H' a = some o) : ∀ (ds : List D) (vs : List V), RepA Z F H ds vs → RepA Z F' H' ds vs
  | [], vs, h => by simpa [RepA] using h
  | d :: ds, vs, h => by
    simp only [RepA] at h ⊢
    obtain ⟨v, r, e, x, y⟩ := h
    exact ⟨v, r, e, Rep.mo m d v x, RepA.mo m ds r y⟩
end
theorem Rep.top {d : D} {v : V} (h : Rep Z F H d v) : RepT Z F H d v := by
  cases d with
  | lst ds =>
    simp only [Rep] at h
    obtain ⟨a, vs, e, t, r⟩ := h
    exact ⟨a, vs, e, t.sq, r⟩
  | dct ks ds =>
    simp only [Rep] at h
    obtain ⟨a, vs, e, f, t, l, r⟩ := h
    exact ⟨a, vs, e, t, l, r⟩
  | _ => exact h
theorem ROw.top {a : Addr} {w : Ow} (h : ROw Z F H a w) : RepT Z F H w.d (.ref a) := by
  cases w with
  | L ds =>
    obtain ⟨_, vs, e, r⟩ := h
    exact ⟨a, vs, rfl, SqL.of e, r⟩
  | K ks ds =>
    obtain ⟨_, vs, e, l, r⟩ := h
    exact ⟨a, vs, rfl, e, l, r⟩
theorem ROw.mo {a : Addr} {w : Ow} (h : ROw Z F H a w) (m : ∀ a, F a → F' a ∧ ∀ o, H a = some o → H' a = some o) (nf : ¬ F' a) (e : ∀ o, H a = some o → H' a = some o) : ROw Z F' H' a w := by
  cases w with
  | L ds =>
    obtain ⟨_, vs, q, r⟩ := h
    exact ⟨nf, vs, e _ q, r.mo m⟩
  | K ks ds =>
    obtain ⟨_, vs, q, l, r⟩ := h
    exact ⟨nf, vs, e _ q, l, r.mo m⟩
theorem RNw.mo {a : Addr} {c : Nat} {ds : List D} (h : RNw Z F H a c ds) (m : ∀ a, F a → F' a ∧ ∀ o, H a = some o → H' a = some o) (nf : ¬ F' a) (e : ∀ o, H a = some o → H' a = some o) : RNw Z F' H' a c ds := by
  obtain ⟨_, dx, vs, q, l, r⟩ := h
  exact ⟨nf, dx, vs, e _ q, l, r.mo m⟩
theorem ROw.nf {a : Addr} {w : Ow} (h : ROw Z F H a w) : ¬ F a := by
  cases w with
  | L ds => exact h.1
  | K ks ds => exact h.1
theorem ROw.tr {a : Addr} {w : Ow} (h : ROw Z F H a w) : H a ≠ none := by
  cases w with
  | L ds =>
    obtain ⟨_, vs, q, r⟩ := h
    rw [q]; simp
  | K ks ds =>
    obtain ⟨_, vs, q, r⟩ := h
    rw [q]; simp
/-- frozen: it becomes data -/
theorem ROw.frz {a : Addr} {w : Ow} (h : ROw Z F H a w) (m : ∀ a, F a → F' a) (fa : F' a) : Rep Z F' H w.d (.ref a) := by
  have m' : ∀ a, F a → F' a ∧ ∀ o, H a = some o → H a = some o := fun b f => ⟨m b f, fun _ q => q⟩
  cases w with
  | L ds =>
    obtain ⟨_, vs, q, r⟩ := h
    simp only [Ow.d, Rep]
    exact ⟨a, vs, rfl, .inl ⟨fa, .inl q⟩, r.mo m'⟩
  | K ks ds =>
    obtain ⟨_, vs, q, l, r⟩ := h
    simp only [Ow.d, Rep]
    exact ⟨a, vs, rfl, fa, q, l, r.mo m'⟩
end
theorem oa_of_wa {x : Option V} {s : Sl} {a : Addr} (h : wa x s = some a) : oa x s = some a := by
  unfold wa at h
  split at h
  · exact h
  · exact h
  · cases h
section
variable {Z : Cd} {F F' : Addr → Prop} {H H' : Hp} {σ : L2.St} {ρ ρ' : Env}
theorem RSl.oa_nf {x : Option V} {s : Sl} {a : Addr} (h : RSl Z F H x s) (e : oa x s = some a) : ¬ F a ∧ H a ≠ none := by
  unfold oa at e
  split at e
  · cases e
    obtain ⟨b, q, r⟩ := h
    cases q
    exact ⟨r.nf, r.tr⟩
  · cases e
    obtain ⟨b, q, r⟩ := h
    cases q
    exact ⟨r.nf, r.tr⟩
  · cases e
    obtain ⟨b, q, r⟩ := h
    cases q
    obtain ⟨nf, dx, vs, q, _⟩ := r
    exact ⟨nf, by rw [q]; simp⟩
  · cases e
theorem RS.wr_nf (I : RS Z F H σ ρ) {a : Addr} (h : Wr σ ρ a) : ¬ F a ∧ H a ≠ none := by
  obtain ⟨i, e⟩ := h
  exact (I.sl i).oa_nf (oa_of_wa e)
theorem Step.refl : Step σ ρ F H F H := ⟨fun _ _ e _ => e, fun _ h => h, fun _ h => h, fun _ h => .inl h⟩
theorem Step.mono (s : Step σ ρ F H F' H') (I : RS Z F H σ ρ) : ∀ a, F a → F' a ∧ ∀ o, H a = some o → H' a = some o := fun a f => ⟨s.fmo a f, fun o e => s.keep a o e fun w => (I.wr_nf w).1 f⟩
theorem Step.trans {F1 : Addr → Prop} {H1 : Hp} (s : Step σ ρ F H F1 H1) (t : Step σ ρ' F1 H1 F' H') (sub : ∀ a, Wr σ ρ' a → Wr σ ρ a) : Step σ ρ F H F' H' where
  keep := fun a o e n => t.keep a o (s.keep a o e n) fun w => n (sub a w)
  live := fun a h => t.live a (s.live a h)
  fmo := fun a f => t.fmo a (s.fmo a f)
  fnew := fun a f => by
    rcases t.fnew a f with q | q | q
    · exact s.fnew a q
    · refine .inr (.inl ?_)
      cases e : H a with
      | none => rfl
      | some o => exact absurd q (s.live a (by rw [e]; simp))
    · exact .inr (.inr (sub a q))
end
end Z

/-! how a run of an expression may change the slots; what is carried along -/
namespace Z
open PySem L2
/-- an owned slot may hold other things, be frozen, be lost; no other slot changes -/
def SlSt (s t : Sl) : Prop := t = s ∨ ∃ w f, s = .o w f ∧ ((∃ w', t = .o w' f) ∨ (∃ d, t = .v d f) ∨ t = .u)
theorem SlSt.refl (s : Sl) : SlSt s s := .inl rfl
theorem SlSt.trans {s t u : Sl} (a : SlSt s t) (b : SlSt t u) : SlSt s u := by
  rcases a with rfl | ⟨w, f, rfl, a⟩
  · exact b
  · rcases b with rfl | ⟨w2, f2, e2, b⟩
    · exact .inr ⟨w, f, rfl, a⟩
    · rcases a with ⟨w', rfl⟩ | ⟨d, rfl⟩ | rfl
      · cases e2
        exact .inr ⟨w, f, rfl, b⟩
      · cases e2
      · cases e2
structure Ev (ρ ρ' : Env) : Prop where
  len : ρ'.length = ρ.length
  at_ : ∀ i, SlSt (gt ρ i) (gt ρ' i)
theorem Ev.refl (ρ : Env) : Ev ρ ρ := ⟨rfl, fun _ => .refl _⟩
theorem Ev.trans {a b c : Env} (x : Ev a b) (y : Ev b c) : Ev a c := ⟨y.len.trans x.len, fun i => (x.at_ i).trans (y.at_ i)⟩
theorem Ev.pt {ρ : Env} {i : Nat} {s : Sl} (h : SlSt (gt ρ i) s) : Ev ρ (pt ρ i s) := ⟨pt_length .., fun j => by
  rw [gt_pt]
  split
  · rename_i e
    rw [e.1]; exact h
  · exact .refl _⟩
theorem Ev.wr {ρ ρ' : Env} (x : Ev ρ ρ') {σ : L2.St} {a : Addr} (h : Wr σ ρ' a) : Wr σ ρ a := by
  obtain ⟨i, h⟩ := h
  refine ⟨i, ?_⟩
  rcases x.at_ i with e | ⟨w, f, e, b⟩
  · rw [e] at h; exact h
  · rw [e]
    rcases b with ⟨w', e'⟩ | ⟨d, e'⟩ | e'
    · rw [e'] at h
      cases q : sg σ i with
      | none => rw [q] at h; exact h
      | some v => rw [q] at h; cases v <;> exact h
    · rw [e'] at h
      cases q : sg σ i with
      | none => rw [q] at h; cases h
      | some v => rw [q] at h; cases v <;> cases h
    · rw [e'] at h
      cases q : sg σ i with
      | none => rw [q] at h; cases h
      | some v => rw [q] at h; cases v <;> cases h
def EvO {α : Type} (ρ : Env) : Out α → Prop
  | .ok _ ρ' => Ev ρ ρ'
  | .ex _ ρ' => Ev ρ ρ'
  | .st => True
theorem EvO.bnd {α β : Type} {ρ : Env} {o : Out α} {f : α → Env → Out β} (h : EvO ρ o) (k : ∀ a ρ1, o = .ok a ρ1 → EvO ρ1 (f a ρ1)) : EvO ρ (o.bnd f) := by
  cases o with
  | ok a ρ1 =>
    have q := k a ρ1 rfl
    show EvO ρ (f a ρ1)
    cases e : f a ρ1 with
    | ok b ρ2 => rw [e] at q; exact Ev.trans h q
    | ex c ρ2 => rw [e] at q; exact Ev.trans h q
    | st => trivial
  | ex c ρ1 => exact h
  | st => trivial
theorem EvO.one {β : Type} {ρ : Env} {o : Out (List R)} {f : R → Env → Out β} (h : EvO ρ o) (k : ∀ a ρ1, o = .ok [a] ρ1 → EvO ρ1 (f a ρ1)) : EvO ρ (o.one f) := by
  refine EvO.bnd h fun rs ρ1 e => ?_
  match rs, e with
  | [], _ => trivial
  | [r], e => exact k r ρ1 e
  | _ :: _ :: _, _ => trivial
theorem EvO.ofO {ρ : Env} (o : Option R) : EvO ρ (ofO o ρ) := by
  cases o
  · trivial
  · exact Ev.refl _
theorem EvO.ap1 {ρ : Env} {o : Out (List R)} {f : D → Option R} (h : EvO ρ o) : EvO ρ (ap1 o f) := by
  refine EvO.one h fun r ρ1 e => ?_
  split
  · exact .ofO _
  · trivial
theorem EvO.ap2 {ρ : Env} {o : Out (List R)} {q : Env → Out (List R)} {f : D → D → Option R} (h : EvO ρ o) (k : ∀ ρ, EvO ρ (q ρ)) : EvO ρ (ap2 o q f) := by
  refine EvO.one h fun r ρ1 e => EvO.one (k ρ1) fun s ρ2 e2 => ?_
  split
  · exact .ofO _
  · trivial
theorem EvO.tru {ρ : Env} {o : Out (List R)} {f : Bool → Env → Out (List R)} (h : EvO ρ o) (k : ∀ b ρ, EvO ρ (f b ρ)) : EvO ρ (trw o f) := by
  refine EvO.one h fun r ρ1 e => ?_
  split
  · exact k _ _
  · trivial
theorem Ev.fz {ρ ρ' : Env} {r : R} {d : D} (h : fz ρ r = some (d, ρ')) : Ev ρ ρ' := by
  unfold Z.fz at h
  split at h
  · cases h; exact .refl _
  · cases h; exact .refl _
  · split at h
    · cases h; exact .refl _
    · rename_i w f e
      cases h
      exact .pt (.inr ⟨w, f, e, .inr (.inl ⟨_, rfl⟩)⟩)
    · cases h
theorem Ev.fzA : ∀ {rs : List R} {ρ ρ' : Env} {ds : List D}, fzA ρ rs = some (ds, ρ') → Ev ρ ρ'
  | [], ρ, ρ', ds, h => by cases h; exact .refl _
  | r :: rs, ρ, ρ', ds, h => by
    unfold Z.fzA at h
    split at h
    · rename_i d ρ1 e1
      split at h
      · rename_i es ρ2 e2
        cases h
        exact (Ev.fz e1).trans (Ev.fzA e2)
      · cases h
    · cases h
theorem Ev.outA : ∀ {rs : List R} {ss : List Sl} {ρ : Env}, Ev ρ (outA ρ rs ss)
  | [], _, ρ => by unfold Z.outA; exact .refl _
  | .v d :: rs, [], ρ => by unfold Z.outA; exact .refl _
  | .o d :: rs, [], ρ => by unfold Z.outA; exact .refl _
  | .w d :: rs, [], ρ => by unfold Z.outA; exact .refl _
  | .v d :: rs, s :: ss, ρ => by unfold Z.outA; exact Ev.outA
  | .o d :: rs, s :: ss, ρ => by unfold Z.outA; exact Ev.outA
  | .w i :: rs, s :: ss, ρ => by
    unfold Z.outA
    refine Ev.trans (.pt ?_) Ev.outA
    unfold outS
    split
    · rename_i w f e
      split
      · exact .inr ⟨w, f, e, .inl ⟨_, rfl⟩⟩
      · exact .inr ⟨w, f, e, .inr (.inl ⟨_, rfl⟩)⟩
      · exact .inr ⟨w, f, e, .inr (.inr rfl)⟩
    · exact .inl (by simp_all)
    · exact .inl (by simp_all)
    · exact .refl _
theorem EvO.back {q : FOut} {ρ : Env} {rs : List R} : EvO ρ (q.back ρ rs) := by
  cases q with
  | ok r outs => exact Ev.outA
  | ex c outs => exact Ev.outA
  | st => trivial
theorem wip_length (ρ : Env) : ∀ own : List Nat, (wip ρ own).length = ρ.length
  | [] => rfl
  | i :: r => by unfold wip; rw [wip_length, pt_length]
theorem wip_gt {ρ : Env} : ∀ {own : List Nat} {j : Nat}, j ∉ own → gt (wip ρ own) j = gt ρ j
  | [], _, _ => rfl
  | i :: r, j, h => by
    unfold wip
    rw [wip_gt (fun q => h (List.mem_cons_of_mem _ q)), gt_pt_ne _ _ (fun q => h (by rw [q]; exact List.mem_cons_self))]
theorem wip_at {ρ : Env} : ∀ {own : List Nat} {j : Nat}, j ∈ own → gt (wip ρ own) j = .u
  | i :: r, j, h => by
    unfold wip
    by_cases hr : j ∈ r
    · exact wip_at hr
    · rw [wip_gt hr]
      have e : j = i := by simpa [hr] using h
      subst e
      rw [gt_pt]
      split
      · rfl
      · rename_i q
        exact gt_ge _ (Nat.le_of_not_lt fun z => q ⟨rfl, z⟩)
theorem bck_length (ρ0 : Env) : ∀ (own : List Nat) (ρ : Env), (bck ρ0 ρ own).length = ρ.length
  | [], _ => rfl
  | i :: r, ρ => by unfold bck; rw [bck_length, pt_length]
theorem bck_gt {ρ0 : Env} : ∀ {own : List Nat} {ρ : Env} {j : Nat}, j ∉ own → gt (bck ρ0 ρ own) j = gt ρ j
  | [], _, _, _ => rfl
  | i :: r, ρ, j, h => by
    unfold bck
    rw [bck_gt (fun q => h (List.mem_cons_of_mem _ q)), gt_pt_ne _ _ (fun q => h (by rw [q]; exact List.mem_cons_self))]
theorem bck_at {ρ0 : Env} : ∀ {own : List Nat} {ρ : Env} {j : Nat}, j ∈ own → ρ.length = ρ0.length → gt (bck ρ0 ρ own) j = gt ρ0 j
  | i :: r, ρ, j, h, l => by
    unfold bck
    by_cases hr : j ∈ r
    · exact bck_at hr (by rw [pt_length]; exact l)
    · rw [bck_gt hr]
      have e : j = i := by simpa [hr] using h
      subst e
      rw [gt_pt]
      split
      · rfl
      · rename_i q
        have z : ρ.length ≤ j := Nat.le_of_not_lt fun z => q ⟨rfl, z⟩
        rw [gt_ge _ z, gt_ge _ (by omega)]
theorem asg_go_len : ∀ {is : List Nat} {ds : List D} {ρ ρ' : Env}, asg.go is ds ρ = some ρ' → ρ'.length = ρ.length
  | [], [], ρ, ρ', h => by cases h; rfl
  | [], _ :: _, ρ, ρ', h => by cases h
  | _ :: _, [], ρ, ρ', h => by cases h
  | i :: is, d :: ds, ρ, ρ', h => by
    unfold asg.go at h
    rw [asg_go_len h, pt_length]
theorem asg_go_gt : ∀ {is : List Nat} {ds : List D} {ρ ρ' : Env} {j : Nat}, asg.go is ds ρ = some ρ' → j ∉ is → gt ρ' j = gt ρ j
  | [], [], ρ, ρ', j, h, _ => by cases h; rfl
  | [], _ :: _, ρ, ρ', _, h, _ => by cases h
  | _ :: _, [], ρ, ρ', _, h, _ => by cases h
  | i :: is, d :: ds, ρ, ρ', j, h, n => by
    unfold asg.go at h
    rw [asg_go_gt h (fun q => n (List.mem_cons_of_mem _ q)), gt_pt_ne _ _ (fun q => n (by rw [q]; exact List.mem_cons_self))]
def Tg.is : Tg → List Nat
  | .one i => [i]
  | .tup is => is
theorem asg_len {t : Tg} {d : D} {ρ ρ' : Env} (h : asg t d ρ = some ρ') : ρ'.length = ρ.length := by
  unfold asg at h
  split at h
  · cases h; exact pt_length ..
  · exact asg_go_len h
  · exact asg_go_len h
  · cases h
theorem asg_gt {t : Tg} {d : D} {ρ ρ' : Env} {j : Nat} (h : asg t d ρ = some ρ') (n : j ∉ t.is) : gt ρ' j = gt ρ j := by
  unfold asg at h
  split at h
  · cases h
    exact gt_pt_ne _ _ (by simpa [Tg.is] using n)
  · exact asg_go_gt h n
  · exact asg_go_gt h n
  · cases h
theorem tgIn_mem {t : Tg} {own : List Nat} (h : tgIn t own = true) : ∀ j, j ∈ t.is → j ∈ own := by
  intro j hj
  cases t with
  | one i =>
    simp [tgIn, Tg.is] at h hj
    subst hj; exact h
  | tup is =>
    simp [tgIn, Tg.is] at h hj
    exact h j hj
theorem Ev.bck {ρ ρ4 : Env} {own : List Nat} (l : ρ4.length = ρ.length) (h : ∀ j, j ∉ own → SlSt (gt ρ j) (gt ρ4 j)) : Ev ρ (bck ρ ρ4 own) := ⟨(bck_length ..).trans l, fun j => by
  by_cases hj : j ∈ own
  · rw [bck_at hj l]; exact .refl _
  · rw [bck_gt hj]; exact h j hj⟩
theorem EvO.cmpL {own : List Nat} {t : Tg} {c : Option (Env → Out (List R))} {f : Env → Out (List R)} (ht : tgIn t own = true) (hc : ∀ g, c = some g → ∀ ρ, EvO ρ (g ρ)) (hf : ∀ ρ, EvO ρ (f ρ)) :
    ∀ (xs acc : List D) (ρ : Env), EvO ρ (cmpL own t c f xs acc ρ)
  | [], acc, ρ => Ev.refl _
  | x :: xs, acc, ρ => by
    unfold Z.cmpL
    cases ha : asg t x (wip ρ own) with
    | none => trivial
    | some ρ1 =>
      have l1 : ρ1.length = ρ.length := (asg_len ha).trans (wip_length ..)
      have g1 : ∀ j, j ∉ own → gt ρ1 j = gt ρ j := fun j hj => (asg_gt ha fun q => hj (tgIn_mem ht j q)).trans (wip_gt hj)
      have test : ∀ b ρ2, (match c with
          | none => Out.ok true ρ1
          | some g => match g ρ1 with
            | .ok [.v (.bl b)] ρ2 => Out.ok b ρ2
            | _ => Out.st) = .ok b ρ2 → Ev ρ1 ρ2 := fun b ρ2 e => by
        cases c with
        | none => cases e; exact .refl _
        | some g =>
          have q := hc g rfl ρ1
          have e' : (match g ρ1 with
            | .ok [.v (.bl b)] ρ2 => Out.ok b ρ2
            | _ => Out.st) = .ok b ρ2 := e
          split at e'
          · rename_i b' ρ2' e2
            cases e'
            rw [e2] at q; exact q
          · cases e'
      dsimp only
      have step : ∀ ρ4 acc', Ev ρ1 ρ4 → EvO ρ (Z.cmpL own t c f xs acc' (bck ρ ρ4 own)) := fun ρ4 acc' e => by
        have y : Ev ρ (Z.bck ρ ρ4 own) := .bck (e.len.trans l1) fun j hj => by
          rw [← g1 j hj]; exact e.at_ j
        have z := EvO.cmpL ht hc hf xs acc' (Z.bck ρ ρ4 own)
        cases q : Z.cmpL own t c f xs acc' (Z.bck ρ ρ4 own) with
        | ok a ρ5 => rw [q] at z; exact y.trans z
        | ex a ρ5 => rw [q] at z; exact y.trans z
        | st => trivial
      split
      · rename_i ρ2 e
        exact step ρ2 _ (test _ _ e)
      · rename_i ρ2 e
        have e2 := test _ _ e
        have e3 := hf ρ2
        split
        · rename_i r ρ3 e4
          rw [e4] at e3
          split
          · rename_i d ρ4 e5
            exact step ρ4 _ ((e2.trans e3).trans (Ev.fz e5))
          · trivial
        · trivial
      · trivial
theorem lk_length (ρ : Env) (i : Nat) : (lk ρ i).length = ρ.length := by
  unfold lk; split
  · exact pt_length ..
  · rfl
theorem lkA_length : ∀ (l : List Nat) (ρ : Env), (lkA ρ l).length = ρ.length
  | [], _ => rfl
  | i :: r, ρ => by unfold lkA; rw [lkA_length, lk_length]
theorem ul_length (ρ : Env) (i : Nat) : (ul ρ i).length = ρ.length := by
  unfold ul; split
  · exact pt_length ..
  · rfl
theorem ulA_length : ∀ (l : List Nat) (ρ : Env), (ulA ρ l).length = ρ.length
  | [], _ => rfl
  | i :: r, ρ => by unfold ulA; rw [ulA_length, ul_length]
theorem lkA_gt : ∀ {l : List Nat} {ρ : Env} {j : Nat}, j ∉ l → gt (lkA ρ l) j = gt ρ j
  | [], _, _, _ => rfl
  | i :: r, ρ, j, h => by
    unfold lkA
    rw [lkA_gt (fun q => h (List.mem_cons_of_mem _ q))]
    unfold lk
    split
    · exact gt_pt_ne _ _ (fun q => h (by rw [q]; exact List.mem_cons_self))
    · rfl
theorem lkA_at : ∀ {l : List Nat} {ρ : Env} {j : Nat} {w : Ow} {f : Bool}, j ∈ l → (gt ρ j = .o w f ∨ gt ρ j = .k w f) → gt (lkA ρ l) j = .k w f
  | i :: r, ρ, j, w, f, h, e => by
    unfold lkA
    have step : gt (lk ρ i) j = .o w f ∨ gt (lk ρ i) j = .k w f := by
      by_cases q : j = i
      · subst q
        unfold lk
        rcases e with e | e
        · rw [e]
          exact .inr (gt_pt_eq _ _ (lt_of_gt _ (by rw [e]; intro z; cases z)))
        · rw [e]
          exact .inr e
      · unfold lk
        split
        · rw [gt_pt_ne _ _ q]; exact e
        · exact e
    by_cases hr : j ∈ r
    · exact lkA_at hr step
    · rw [lkA_gt hr]
      have q : j = i := by simpa [hr] using h
      subst q
      unfold lk
      rcases e with e | e
      · rw [e]
        exact gt_pt_eq _ _ (lt_of_gt _ (by rw [e]; intro z; cases z))
      · rw [e]
        exact e
theorem ulA_gt : ∀ {l : List Nat} {ρ : Env} {j : Nat}, j ∉ l → gt (ulA ρ l) j = gt ρ j
  | [], _, _, _ => rfl
  | i :: r, ρ, j, h => by
    unfold ulA
    rw [ulA_gt (fun q => h (List.mem_cons_of_mem _ q))]
    unfold ul
    split
    · exact gt_pt_ne _ _ (fun q => h (by rw [q]; exact List.mem_cons_self))
    · rfl
theorem ulA_at : ∀ {l : List Nat} {ρ : Env} {j : Nat} {w : Ow} {f : Bool}, j ∈ l → (gt ρ j = .o w f ∨ gt ρ j = .k w f) → gt (ulA ρ l) j = .o w f
  | i :: r, ρ, j, w, f, h, e => by
    unfold ulA
    have step : gt (ul ρ i) j = .o w f ∨ gt (ul ρ i) j = .k w f := by
      by_cases q : j = i
      · subst q
        unfold ul
        rcases e with e | e
        · rw [e]
          exact .inl e
        · rw [e]
          exact .inl (gt_pt_eq _ _ (lt_of_gt _ (by rw [e]; intro z; cases z)))
      · unfold ul
        split
        · rw [gt_pt_ne _ _ q]; exact e
        · exact e
    by_cases hr : j ∈ r
    · exact ulA_at hr step
    · rw [ulA_gt hr]
      have q : j = i := by simpa [hr] using h
      subst q
      unfold ul
      rcases e with e | e
      · rw [e]
        exact e
      · rw [e]
        exact gt_pt_eq _ _ (lt_of_gt _ (by rw [e]; intro z; cases z))
theorem owA_at : ∀ {l : List Nat} {ρ : Env} {j : Nat}, j ∈ owA ρ l → ∃ w f, gt ρ j = .o w f
  | i :: r, ρ, j, h => by
    unfold owA at h
    split at h
    · rename_i w f e
      rcases List.mem_cons.mp h with q | q
      · subst q; exact ⟨w, f, e⟩
      · exact owA_at q
    · exact owA_at h
/-- locked, run, unlocked -/
theorem Ev.locked {ρ ρ2 : Env} {l : List Nat} (h : Ev (lkA ρ (owA ρ l)) ρ2) : Ev ρ (ulA ρ2 (owA ρ l)) := ⟨by rw [ulA_length, h.len, lkA_length], fun j => by
  by_cases hj : j ∈ owA ρ l
  · obtain ⟨w, f, e⟩ := owA_at hj
    have q := h.at_ j
    rw [lkA_at hj (.inl e)] at q
    rcases q with q | ⟨_, _, q, _⟩
    · rw [ulA_at hj (.inr q), e]; exact .refl _
    · cases q
  · rw [ulA_gt hj]
    have q := h.at_ j
    rw [lkA_gt hj] at q
    exact q⟩
section
variable {B : Tb} {Φ : CallF}
theorem EvO.partI {no : Bool} {o : Out (List R)} {ρ : Env} (h : EvO ρ o) : EvO ρ (partI no o ρ) := by
  unfold Z.partI
  split
  · exact Ev.refl _
  · refine EvO.one h fun r ρ1 _ => ?_
    split <;> first | exact Ev.refl _ | trivial
theorem EvO.ev : ∀ (e : E) (ρ : Env), EvO ρ (ev B Φ e ρ)
  | .var i, ρ => by
    unfold Z.ev; split <;> first | exact Ev.refl _ | trivial
  | .con d, ρ => Ev.refl _
  | .glo g, ρ => Ev.refl _
  | .frz a, ρ => by
    unfold Z.ev
    refine EvO.one (EvO.ev a ρ) fun r ρ1 _ => ?_
    split
    · rename_i h
      exact Ev.fz h
    · trivial
  | .bin op a b, ρ => EvO.ap2 (EvO.ev a ρ) fun ρ => EvO.ev b ρ
  | .neg a, ρ => EvO.ap1 (EvO.ev a ρ)
  | .nt a, ρ => EvO.tru (EvO.ev a ρ) fun _ _ => Ev.refl _
  | .cmp op a b, ρ => EvO.ap2 (EvO.ev a ρ) fun ρ => EvO.ev b ρ
  | .cmp2 o1 o2 a b c, ρ => by
    unfold Z.ev
    refine EvO.one (EvO.ev a ρ) fun r ρ1 _ => EvO.one (EvO.ev b ρ1) fun r2 ρ2 _ => ?_
    split
    · split
      · refine EvO.one (EvO.ev c ρ2) fun r3 ρ3 _ => ?_
        split
        · exact .ofO _
        · trivial
      · exact Ev.refl _
      · trivial
    · trivial
  | .and a b, ρ => EvO.tru (EvO.ev a ρ) fun k ρ => by
      cases k
      · exact Ev.refl _
      · exact EvO.ev b ρ
  | .or a b, ρ => EvO.tru (EvO.ev a ρ) fun k ρ => by
      cases k
      · exact EvO.ev b ρ
      · exact Ev.refl _
  | .ite c a b, ρ => EvO.tru (EvO.ev c ρ) fun k ρ => by
      cases k
      · exact EvO.ev b ρ
      · exact EvO.ev a ρ
  | .tup as, ρ => by
    unfold Z.ev
    refine EvO.bnd (EvO.ev as ρ) fun rs ρ1 _ => ?_
    split
    · rename_i h
      exact Ev.fzA h
    · trivial
  | .lst as, ρ => by
    unfold Z.ev
    refine EvO.bnd (EvO.ev as ρ) fun rs ρ1 _ => ?_
    split
    · rename_i h
      exact Ev.fzA h
    · trivial
  | .idx a b, ρ => EvO.ap2 (EvO.ev a ρ) fun ρ => EvO.ev b ρ
  | .sl a lo hi, ρ => by
    unfold Z.ev
    refine EvO.one (EvO.ev a ρ) fun r ρ1 _ => EvO.bnd (EvO.partI (EvO.ev lo ρ1)) fun r2 ρ2 _ => EvO.bnd (EvO.partI (EvO.ev hi ρ2)) fun r3 ρ3 _ => ?_
    split <;> first | exact .ofO _ | trivial
  | .rv a, ρ => EvO.ap1 (EvO.ev a ρ)
  | .fld a f, ρ => EvO.ap1 (EvO.ev a ρ)
  | .call f as, ρ => by
    unfold Z.ev
    refine EvO.bnd (EvO.ev as ρ) fun rs ρ1 _ => ?_
    split
    · split
      · exact .back
      · trivial
    · trivial
  | .mcal m o as, ρ => by
    unfold Z.ev
    refine EvO.one (EvO.ev o ρ) fun r ρ1 _ => ?_
    split
    · split
      · refine EvO.bnd (EvO.ev as ρ1) fun rs ρ2 _ => ?_
        split
        · split
          · exact .back
          · trivial
        · trivial
      · trivial
    · trivial
  | .make c as, ρ => by
    unfold Z.ev
    refine EvO.bnd (EvO.ev as ρ) fun rs ρ1 _ => ?_
    split
    · split
      · split
        · exact .back
        · trivial
      · trivial
    · split
      · exact Ev.refl _
      · trivial
  | .b1 b a, ρ => EvO.ap1 (EvO.ev a ρ)
  | .b2 b x y, ρ => EvO.ap2 (EvO.ev x ρ) fun ρ => EvO.ev y ρ
  | .dnew, ρ => Ev.refl _
  | .tix ts a, ρ => EvO.ap1 (EvO.ev a ρ)
  | .lset a, ρ => EvO.ap1 (EvO.ev a ρ)
  | .dix ks as x, ρ => by
    unfold Z.ev
    refine EvO.bnd (EvO.ev as ρ) fun rs ρ1 _ => ?_
    split
    · rename_i ds ρ2 h
      have z := EvO.ap1 (f := fun d => match d with
        | .str s => (dget ks ds s).map .v
        | _ => none) (EvO.ev x ρ2)
      generalize (Z.ap1 (Z.ev B Φ x ρ2) fun d => match d with
        | .str s => (dget ks ds s).map .v
        | _ => none) = o at z ⊢
      cases o with
      | ok a ρ3 => exact (Ev.fzA h).trans z
      | ex a ρ3 => exact (Ev.fzA h).trans z
      | st => trivial
    · trivial
  | .isi a t, ρ => EvO.ap1 (EvO.ev a ρ)
  | .isx i c, ρ => by
    unfold Z.ev; split <;> first | exact Ev.refl _ | trivial
  | .bm m o as, ρ => by
    unfold Z.ev
    refine EvO.one (EvO.ev o ρ) fun r ρ1 _ => ?_
    split
    · exact EvO.bnd (EvO.ev as ρ1) fun rs ρ2 _ => by
        split <;> first | exact .ofO _ | trivial
    · trivial
  | .mut m i as, ρ => by
    unfold Z.ev
    by_cases ho : isOL (gt ρ i) = true
    · rw [if_pos ho]
      refine EvO.bnd (EvO.ev as ρ) fun rs ρ1 _ => ?_
      split
      · rename_i h
        split at h
        · split
          · rename_i xs f e
            split
            · exact (Ev.fzA h).trans (.pt (.inr ⟨_, f, e, .inl ⟨_, rfl⟩⟩))
            · trivial
          · trivial
        · cases h
      · trivial
    · rw [if_neg ho]
      trivial
  | .comp k as t own elt cnd, ρ => by
    unfold Z.ev
    refine EvO.bnd (EvO.ev as ρ) fun rs ρ1 _ => ?_
    split
    · by_cases ht0 : (tgIn t own && ownOk ρ1 own) = true
      · have ht : tgIn t own = true := by
          rw [Bool.and_eq_true] at ht0
          exact ht0.1
        rw [if_pos ht0]
        split
        · rename_i xs _
          split
          case isFalse => trivial
          have z := EvO.cmpL (c := if cnd.isNil then none else some (Z.ev B Φ cnd)) (f := Z.ev B Φ elt) ht (fun g e ρ => by
              split at e
              · cases e
              · cases e; exact EvO.ev cnd ρ) (fun ρ => EvO.ev elt ρ) xs [] (lkA ρ1 (owA ρ1 (wIx rs)))
          split
          · rename_i acc ρ2 e
            rw [e] at z
            exact z.locked
          · trivial
        · trivial
      · rw [if_neg ht0]
        trivial
    · trivial
  | .nil, ρ => Ev.refl _
  | .cons a as, ρ => by
    unfold Z.ev
    exact EvO.one (EvO.ev a ρ) fun r ρ1 _ => EvO.bnd (EvO.ev as ρ1) fun rs ρ2 _ => Ev.refl _
end
end Z

/-! what is carried from one run to the next -/
namespace Z
open PySem L2
def Oa (σ : L2.St) (ρ : Env) (a : Addr) : Prop := ∃ i, oa (sg σ i) (gt ρ i) = some a
theorem Ev.oa {ρ ρ' : Env} (x : Ev ρ ρ') {σ : L2.St} {a : Addr} (h : Oa σ ρ' a) : Oa σ ρ a := by
  obtain ⟨i, h⟩ := h
  refine ⟨i, ?_⟩
  rcases x.at_ i with e | ⟨w, f, e, b⟩
  · rw [e] at h; exact h
  · rw [e]
    rcases b with ⟨w', e'⟩ | ⟨d, e'⟩ | e'
    · rw [e'] at h
      cases q : sg σ i with
      | none => rw [q] at h; cases h
      | some v => rw [q] at h; cases v <;> exact h
    · rw [e'] at h
      cases q : sg σ i with
      | none => rw [q] at h; cases h
      | some v => rw [q] at h; cases v <;> cases h
    · rw [e'] at h
      cases q : sg σ i with
      | none => rw [q] at h; cases h
      | some v => rw [q] at h; cases v <;> cases h
theorem Wr.oa {ρ : Env} {σ : L2.St} {a : Addr} (h : Wr σ ρ a) : Oa σ ρ a := let ⟨i, e⟩ := h; ⟨i, oa_of_wa e⟩
section
variable {Z : Cd} {W : WX} {F F' F1 : Addr → Prop} {H H' H1 : Hp} {σ : L2.St} {ρ ρ' ρ1 : Env}
/-- from one point to a later one -/
structure Pt (Z : Cd) (σ : L2.St) (ρ : Env) (F : Addr → Prop) (H : Hp) (ρ1 : Env) (F1 : Addr → Prop) (H1 : Hp) : Prop where
  st : Step σ ρ F H F1 H1
  rs : RS Z F1 H1 σ ρ1
  sub : ∀ a, Wr σ ρ1 a → Wr σ ρ a
  subO : ∀ a, Oa σ ρ1 a → Oa σ ρ a
theorem RS.oa_nf (I : RS Z F H σ ρ) {a : Addr} (h : Oa σ ρ a) : ¬ F a ∧ H a ≠ none := let ⟨i, e⟩ := h; (I.sl i).oa_nf e
theorem Pt.refl (I : RS Z F H σ ρ) : Pt Z σ ρ F H ρ F H := ⟨.refl, I, fun _ h => h, fun _ h => h⟩
theorem Pt.trans (a : Pt Z σ ρ F H ρ1 F1 H1) (b : Pt Z σ ρ1 F1 H1 ρ' F' H') : Pt Z σ ρ F H ρ' F' H' := ⟨a.st.trans b.st a.sub, b.rs, fun x h => a.sub x (b.sub x h), fun x h => a.subO x (b.subO x h)⟩
/-- the heap grows, F too -/
theorem RS.grow (I : RS Z F H σ ρ) (m : ∀ a o, H a = some o → H' a = some o) (f : ∀ a, F a → F' a) (n : ∀ a, F' a → F a ∨ H a = none) (t : ∀ a, F' a → H' a ≠ none) : RS Z F' H' σ ρ where
  fok := t
  len := I.len
  ap := I.ap
  sl := fun i => by
    have h := I.sl i
    have m' : ∀ a, F a → F' a ∧ ∀ o, H a = some o → H' a = some o := fun a q => ⟨f a q, m a⟩
    have nf : ∀ a, ¬ F a → H a ≠ none → ¬ F' a := fun a q r z => (n a z).elim q r
    cases e : gt ρ i with
    | u => trivial
    | v d b =>
      rw [e] at h
      obtain ⟨v, x, y⟩ := h
      exact ⟨v, x, y.mo m'⟩
    | o w b =>
      rw [e] at h
      obtain ⟨a, x, y⟩ := h
      exact ⟨a, x, y.mo m' (nf a y.nf y.tr) (m a)⟩
    | k w b =>
      rw [e] at h
      obtain ⟨a, x, y⟩ := h
      exact ⟨a, x, y.mo m' (nf a y.nf y.tr) (m a)⟩
    | e c => rw [e] at h; exact h
    | n c ds =>
      rw [e] at h
      obtain ⟨a, x, y⟩ := h
      refine ⟨a, x, y.mo m' (nf a y.1 ?_) (m a)⟩
      obtain ⟨_, dx, vs, q, _⟩ := y
      rw [q]; simp
/-- a new thing, not frozen -/
theorem Pt.new (I : RS Z F H σ ρ) {p : Addr} {o : HO} (hp : H p = none) : Pt Z σ ρ F H ρ F (upd H p o) := by
  have m : ∀ a q, H a = some q → upd H p o a = some q := fun a q e => by rw [upd_ne (ne_of_none e hp)]; exact e
  have lv : ∀ a, H a ≠ none → upd H p o a ≠ none := fun a h => by
    cases e : H a with
    | none => exact absurd e h
    | some q => rw [m a q e]; simp
  exact ⟨⟨fun a q e _ => m a q e, lv, fun _ h => h, fun _ h => .inl h⟩, I.grow m (fun _ h => h) (fun _ h => .inl h) (fun a h => lv a (I.fok a h)), fun _ h => h, fun _ h => h⟩
/-- .. frozen at once -/
theorem Pt.newF (I : RS Z F H σ ρ) {p : Addr} {o : HO} (hp : H p = none) : Pt Z σ ρ F H ρ (fun a => F a ∨ a = p) (upd H p o) := by
  have m : ∀ a q, H a = some q → upd H p o a = some q := fun a q e => by rw [upd_ne (ne_of_none e hp)]; exact e
  have lv : ∀ a, H a ≠ none → upd H p o a ≠ none := fun a h => by
    cases e : H a with
    | none => exact absurd e h
    | some q => rw [m a q e]; simp
  have fn : ∀ a, (F a ∨ a = p) → F a ∨ H a = none := fun a h => h.elim .inl fun e => .inr (e ▸ hp)
  exact ⟨⟨fun a q e _ => m a q e, lv, fun _ h => .inl h, fun a h => (fn a h).elim .inl fun q => .inr (.inl q)⟩, I.grow m (fun _ h => .inl h) fn (fun a h => h.elim (fun q => lv a (I.fok a q)) fun e => by rw [e, upd_same]; simp), fun _ h => h, fun _ h => h⟩
theorem oa_o {a : Addr} {w : Ow} {f : Bool} {x : Option V} : oa x (.o w f) = some a ↔ x = some (.ref a) := by
  cases x with
  | none => simp [oa]
  | some v => cases v <;> simp [oa]
theorem wa_o {a : Addr} {w : Ow} {f : Bool} {x : Option V} : wa x (.o w f) = some a ↔ x = some (.ref a) := by
  cases x with
  | none => simp [wa]
  | some v => cases v <;> simp [wa]
theorem oa_v {a : Addr} {d : D} {f : Bool} {x : Option V} : ¬ oa x (.v d f) = some a := by
  cases x with
  | none => simp [oa]
  | some v => cases v <;> simp [oa]
theorem oa_u {a : Addr} {x : Option V} : ¬ oa x .u = some a := by
  cases x with
  | none => simp [oa]
  | some v => cases v <;> simp [oa]
/-- no other slot's own -/
theorem RS.apart (I : RS Z F H σ ρ) {i j : Nat} {a : Addr} (hi : oa (sg σ i) (gt ρ i) = some a) (hj : oa (sg σ j) (gt ρ j) = some a) : i = j := by
  by_cases e : i = j
  · exact e
  · exact absurd hj (I.ap i j a e hi)
/-- slot i is frozen -/
theorem Pt.frz (I : RS Z F H σ ρ) {i : Nat} {w : Ow} {f : Bool} {a : Addr} (e : gt ρ i = .o w f) (ha : sg σ i = some (.ref a)) :
    Pt Z σ ρ F H (pt ρ i (.v w.d f)) (fun b => F b ∨ b = a) H ∧ Rep Z (fun b => F b ∨ b = a) H w.d (.ref a) := by
  have hi := I.sl i
  rw [e] at hi
  obtain ⟨a', q, r⟩ := hi
  rw [ha] at q
  cases q
  have li := lt_of_gt ρ (i := i) (by rw [e]; intro z; cases z)
  have wi : Wr σ ρ a := ⟨i, by rw [e]; exact wa_o.mpr ha⟩
  have oi : oa (sg σ i) (gt ρ i) = some a := by rw [e]; exact oa_o.mpr ha
  have m : ∀ b, F b → (F b ∨ b = a) ∧ ∀ o, H b = some o → H b = some o := fun b h => ⟨.inl h, fun _ q => q⟩
  have rep : Rep Z (fun b => F b ∨ b = a) H w.d (.ref a) := r.frz (fun b h => .inl h) (.inr rfl)
  refine ⟨⟨⟨fun _ _ q _ => q, fun _ h => h, fun _ h => .inl h, fun b h => h.elim .inl fun q => .inr (.inr (by rw [q]; exact wi))⟩, ⟨fun b h => h.elim (I.fok b) fun q => by rw [q]; exact r.tr, (pt_length ..).trans I.len, fun j => ?_, fun j k b n h1 h2 => ?_⟩, fun b h => Ev.wr (Ev.pt (.inr ⟨w, f, e, .inr (.inl ⟨_, rfl⟩)⟩)) h, fun b h => Ev.oa (Ev.pt (.inr ⟨w, f, e, .inr (.inl ⟨_, rfl⟩)⟩)) h⟩, rep⟩
  · by_cases ej : j = i
    · subst ej
      rw [gt_pt_eq _ _ li]
      exact ⟨_, ha, rep⟩
    · rw [gt_pt_ne _ _ ej]
      have h := I.sl j
      have ne : ∀ b, oa (sg σ j) (gt ρ j) = some b → b ≠ a := fun b q z => ej (I.apart q (z ▸ oi))
      cases g : gt ρ j with
      | u => trivial
      | v d b =>
        rw [g] at h
        obtain ⟨v, x, y⟩ := h
        exact ⟨v, x, y.mo m⟩
      | o w2 b =>
        rw [g] at h ne
        obtain ⟨b2, x, y⟩ := h
        exact ⟨b2, x, y.mo m (fun z => z.elim y.nf (ne b2 (oa_o.mpr x))) fun _ q => q⟩
      | k w2 b =>
        rw [g] at h ne
        obtain ⟨b2, x, y⟩ := h
        exact ⟨b2, x, y.mo m (fun z => z.elim y.nf (ne b2 (by rw [x]; rfl))) fun _ q => q⟩
      | e c => rw [g] at h; exact h
      | n c ds =>
        rw [g] at h ne
        obtain ⟨b2, x, y⟩ := h
        exact ⟨b2, x, y.mo m (fun z => z.elim y.1 (ne b2 (by rw [x]; rfl))) fun _ q => q⟩
  · have o1 : ∀ j b, oa (sg σ j) (gt (pt ρ i (.v w.d f)) j) = some b → oa (sg σ j) (gt ρ j) = some b := fun j b h => by
      by_cases ej : j = i
      · subst ej
        rw [gt_pt_eq _ _ li] at h
        exact absurd h oa_v
      · rw [gt_pt_ne _ _ ej] at h; exact h
    exact I.ap j k b n (o1 j b h1) (o1 k b h2)
/-- a thing that no slot owns is frozen -/
theorem Pt.frzT (I : RS Z F H σ ρ) {w : Ow} {a : Addr} (r : ROw Z F H a w) (na : ¬ Oa σ ρ a) (t : H a ≠ none) :
    RS Z (fun b => F b ∨ b = a) H σ ρ ∧ Rep Z (fun b => F b ∨ b = a) H w.d (.ref a) := by
  have m : ∀ b, F b → (F b ∨ b = a) ∧ ∀ o, H b = some o → H b = some o := fun b h => ⟨.inl h, fun _ q => q⟩
  refine ⟨⟨fun b h => h.elim (I.fok b) fun q => by rw [q]; exact t, I.len, fun j => ?_, I.ap⟩, r.frz (fun b h => .inl h) (.inr rfl)⟩
  have h := I.sl j
  have ne : ∀ b, oa (sg σ j) (gt ρ j) = some b → b ≠ a := fun b q z => na ⟨j, z ▸ q⟩
  cases g : gt ρ j with
  | u => trivial
  | v d b =>
    rw [g] at h
    obtain ⟨v, x, y⟩ := h
    exact ⟨v, x, y.mo m⟩
  | o w2 b =>
    rw [g] at h ne
    obtain ⟨b2, x, y⟩ := h
    exact ⟨b2, x, y.mo m (fun z => z.elim y.nf (ne b2 (oa_o.mpr x))) fun _ q => q⟩
  | k w2 b =>
    rw [g] at h ne
    obtain ⟨b2, x, y⟩ := h
    exact ⟨b2, x, y.mo m (fun z => z.elim y.nf (ne b2 (by rw [x]; rfl))) fun _ q => q⟩
  | e c => rw [g] at h; exact h
  | n c ds =>
    rw [g] at h ne
    obtain ⟨b2, x, y⟩ := h
    exact ⟨b2, x, y.mo m (fun z => z.elim y.1 (ne b2 (by rw [x]; rfl))) fun _ q => q⟩

/-! ### values that wait -/
theorem ROw.later {a : Addr} {w : Ow} (h : ROw Z F H a w) (I : RS Z F H σ ρ) (s : Step σ ρ F H F1 H1) (nw : ¬ Wr σ ρ a) : ROw Z F1 H1 a w :=
  h.mo (s.mono I) (fun z => (s.fnew a z).elim h.nf fun q => q.elim h.tr nw) fun o e => s.keep a o e nw
theorem RepR.later {H0 : Hp} {r : R} {v : V} (h : RepR Z H0 F H σ r v) (I : RS Z F H σ ρ) (s : Step σ ρ F H F1 H1) (hw : ∀ a, Wr σ ρ a → H0 a ≠ none) : RepR Z H0 F1 H1 σ r v := by
  cases r with
  | v d => exact Rep.mo (s.mono I) d v h
  | o w =>
    obtain ⟨a, e, r, n⟩ := h
    exact ⟨a, e, r.later I s fun q => hw a q n, n⟩
  | w i => exact h
theorem RepRs.later {H0 : Hp} : ∀ {rs : List R} {vs : List V}, RepRs Z H0 F H σ rs vs → RS Z F H σ ρ → Step σ ρ F H F1 H1 → (∀ a, Wr σ ρ a → H0 a ≠ none) → RepRs Z H0 F1 H1 σ rs vs
  | [], vs, h, _, _, _ => h
  | r :: rs, vs, h, I, s, hw => by
    obtain ⟨v, t, e, x, y, d⟩ := h
    exact ⟨v, t, e, x.later I s hw, y.later I s hw, d⟩
theorem RepR.from {H0 Ha : Hp} {r : R} {v : V} (h : RepR Z H0 F H σ r v) (n : ∀ a, H0 a = none → Ha a = none) : RepR Z Ha F H σ r v := by
  cases r with
  | v d => exact h
  | o w =>
    obtain ⟨a, e, r, q⟩ := h
    exact ⟨a, e, r, n a q⟩
  | w i => exact h
theorem RepRs.from {H0 Ha : Hp} : ∀ {rs : List R} {vs : List V}, RepRs Z H0 F H σ rs vs → (∀ a, H0 a = none → Ha a = none) → RepRs Z Ha F H σ rs vs
  | [], vs, h, _ => h
  | r :: rs, vs, h, n => by
    obtain ⟨v, t, e, x, y, d⟩ := h
    exact ⟨v, t, e, x.from n, y.from n, d⟩
theorem RepRs.len {H0 : Hp} : ∀ {rs : List R} {vs : List V}, RepRs Z H0 F H σ rs vs → vs.length = rs.length
  | [], vs, h => by rw [show vs = [] from h]; rfl
  | r :: rs, vs, h => by
    obtain ⟨v, t, e, x, y, d⟩ := h
    rw [e, List.length_cons, List.length_cons, y.len]
theorem Step.dead (s : Step σ ρ F H F1 H1) : ∀ a, H1 a = none → H a = none := fun a e => by
  cases q : H a with
  | none => rfl
  | some o => exact absurd e (s.live a (by rw [q]; simp))
theorem EQs.later {o : Out (List R)} {Q : List V → Hp → Prop} (h : EQs Z W F H σ ρ o Q) (p : Pt Z σ ρ F H ρ1 F1 H1) : EQs Z W F1 H1 σ ρ1 o Q := by
  cases o with
  | ok rs ρ' => exact fun vs H' F' s I r => h vs H' F' (p.st.trans s p.sub) I (r.from p.st.dead)
  | ex c ρ' => exact fun H' F' s I => h H' F' (p.st.trans s p.sub) I
  | st => exact h
theorem EQs.bnd {o : Out (List R)} {g : List R → Env → Out (List R)} {Q P : List V → Hp → Prop} (h : EQs Z W F H σ ρ (o.bnd g) Q) (I : RS Z F H σ ρ) (ev : EvO ρ o)
    (k : ∀ rs ρ1 vs H1 F1, o = .ok rs ρ1 → Pt Z σ ρ F H ρ1 F1 H1 → RepRs Z H F1 H1 σ rs vs → EQs Z W F H σ ρ (g rs ρ1) Q → P vs H1) : EQs Z W F H σ ρ o P := by
  cases o with
  | ok rs ρ1 =>
    intro vs H' F' s I' r
    have p : Pt Z σ ρ F H ρ1 F' H' := ⟨s, I', fun a q => Ev.wr ev q, fun a q => Ev.oa ev q⟩
    exact k rs ρ1 vs H' F' rfl p r (show EQs Z W F H σ ρ (g rs ρ1) Q from h)
  | ex c ρ1 => exact h
  | st => exact h
theorem EQs.one {o : Out (List R)} {g : R → Env → Out (List R)} {Q : List V → Hp → Prop} {P : V → Hp → Prop} (h : EQs Z W F H σ ρ (o.one g) Q) (I : RS Z F H σ ρ) (ev : EvO ρ o)
    (k : ∀ r ρ1 v H1 F1, o = .ok [r] ρ1 → Pt Z σ ρ F H ρ1 F1 H1 → RepR Z H F1 H1 σ r v → EQs Z W F H σ ρ (g r ρ1) Q → P v H1) : EQs Z W F H σ ρ o (fun vs H1 => ∃ v, vs = [v] ∧ P v H1) := by
  refine EQs.bnd h I ev fun rs ρ1 vs H1 F1 e p r q => ?_
  match rs, e, r, q with
  | [], _, _, q => exact False.elim q
  | [x], e, r, q =>
    obtain ⟨v, t, e1, x1, y1, _⟩ := r
    have : t = [] := y1
    subst this
    exact ⟨v, e1, k x ρ1 v H1 F1 e p x1 q⟩
  | _ :: _ :: _, _, _, q => exact False.elim q
/-- an operand, read -/
theorem RepR.read {H0 : Hp} {r : R} {v : V} {d : D} (h : RepR Z H0 F H σ r v) (I : RS Z F H σ ρ) (e : dr ρ r = some d) : RepT Z F H d v := by
  cases r with
  | v d' =>
    cases e
    exact Rep.top h
  | o w =>
    cases e
    obtain ⟨a, rfl, x, _⟩ := h
    exact x.top
  | w i =>
    have h : sg σ i = some v := h
    have q := I.sl i
    unfold dr at e
    dsimp only at e
    split at e
    · rename_i d' f g
      cases e
      rw [g, h] at q
      obtain ⟨v', x, y⟩ := q
      cases x
      exact y.top
    · rename_i w f g
      cases e
      rw [g, h] at q
      obtain ⟨a, x, y⟩ := q
      cases x
      exact y.top
    · rename_i w f g
      cases e
      rw [g, h] at q
      obtain ⟨a, x, y⟩ := q
      cases x
      exact y.top
    · cases e
/-- from a start H0 on: what is owned was there, what is frozen besides was new -/
structure Fz (Z : Cd) (σ : L2.St) (ρ0 : Env) (F0 : Addr → Prop) (H0 : Hp) (ρ : Env) (F : Addr → Prop) (H : Hp) : Prop extends Pt Z σ ρ0 F0 H0 ρ F H where
  own : ∀ a, Oa σ ρ0 a → H0 a ≠ none
theorem Fz.of {ρ0 : Env} {F0 : Addr → Prop} {H0 : Hp} (I : RS Z F0 H0 σ ρ0) (p : Pt Z σ ρ0 F0 H0 ρ F H) : Fz Z σ ρ0 F0 H0 ρ F H := { p with own := fun a h => (I.oa_nf h).2 }
/-- an operand, frozen; seen from the start -/
theorem RepR.froz {ρ0 : Env} {F0 : Addr → Prop} {H0 : Hp} {r : R} {v : V} {d : D} (p : Fz Z σ ρ0 F0 H0 ρ F H) (h : RepR Z H0 F H σ r v) (e : fz ρ r = some (d, ρ')) :
    ∃ F', Fz Z σ ρ0 F0 H0 ρ' F' H ∧ Rep Z F' H d v ∧ (∀ a, F a → F' a) ∧ ∀ a, F' a → F a ∨ oR r v = some a ∨ Oa σ ρ a := by
  cases r with
  | v d' =>
    cases e
    exact ⟨F, p, h, fun _ q => q, fun _ q => .inl q⟩
  | o w =>
    cases e
    obtain ⟨a, rfl, x, n⟩ := h
    obtain ⟨I', rep⟩ := Pt.frzT p.rs x (fun q => p.own a (p.subO a q) n) x.tr
    refine ⟨_, ⟨⟨⟨p.st.keep, p.st.live, fun b q => .inl (p.st.fmo b q), fun b q => q.elim (p.st.fnew b) fun z => .inr (.inl (z ▸ n))⟩, I', p.sub, p.subO⟩, p.own⟩, rep, fun _ q => .inl q, fun b q => q.elim .inl fun z => .inr (.inl (by rw [z]; rfl))⟩
  | w i =>
    have h : sg σ i = some v := h
    have q := p.rs.sl i
    unfold fz at e
    dsimp only at e
    split at e
    · rename_i d' f g
      cases e
      rw [g, h] at q
      obtain ⟨v', x, y⟩ := q
      cases x
      exact ⟨F, p, y, fun _ q => q, fun _ q => .inl q⟩
    · rename_i w f g
      cases e
      rw [g, h] at q
      obtain ⟨a, x, y⟩ := q
      cases x
      obtain ⟨p2, rep⟩ := Pt.frz p.rs g h
      exact ⟨_, { p.toPt.trans p2 with own := p.own }, rep, fun _ q => .inl q, fun b q => q.elim .inl fun z => .inr (.inr ⟨i, by rw [g, z]; exact oa_o.mpr h⟩)⟩
    · cases e
theorem oRs_mem : ∀ {rs : List R} {vs : List V} {H0 : Hp} {F : Addr → Prop} {H : Hp} {a : Addr}, RepRs Z H0 F H σ rs vs → a ∈ oRs rs vs → H0 a = none
  | [], vs, _, _, _, a, h, m => by
    rw [show vs = [] from h] at m
    cases m
  | r :: rs, vs, H0, F, H, a, h, m => by
    obtain ⟨v, t, rfl, x, y, d⟩ := h
    unfold oRs at m
    split at m
    · rename_i b e
      rcases List.mem_cons.mp m with q | q
      · subst q
        cases r with
        | o w =>
          obtain ⟨c, rfl, _, n⟩ := x
          cases e
          exact n
        | v d => cases e
        | w i => cases e
      · exact oRs_mem y q
    · exact oRs_mem y m
theorem RepRs.keepF {H0 : Hp} {F2 : Addr → Prop} : ∀ {rs : List R} {vs : List V}, RepRs Z H0 F H σ rs vs → (∀ a, F a → F2 a) → (∀ a, a ∈ oRs rs vs → ¬ F2 a) → RepRs Z H0 F2 H σ rs vs
  | [], vs, h, _, _ => h
  | r :: rs, vs, h, m, n => by
    obtain ⟨v, t, rfl, x, y, d⟩ := h
    have m' : ∀ a, F a → F2 a ∧ ∀ o, H a = some o → H a = some o := fun a q => ⟨m a q, fun _ z => z⟩
    have n2 : ∀ a, a ∈ oRs rs t → ¬ F2 a := fun a q => n a (by
      unfold oRs
      split
      · exact List.mem_cons_of_mem _ q
      · exact q)
    refine ⟨v, t, rfl, ?_, y.keepF m n2, d⟩
    cases r with
    | v d => exact Rep.mo m' _ _ x
    | o w =>
      obtain ⟨a, rfl, z, q⟩ := x
      exact ⟨a, rfl, z.mo m' (n a (by simp [oRs, oR])) fun _ z => z, q⟩
    | w i => exact x
theorem RepRs.froz {ρ0 : Env} {F0 : Addr → Prop} {H0 : Hp} : ∀ {rs : List R} {vs : List V} {ds : List D} {ρ ρ' : Env} {F : Addr → Prop}, Fz Z σ ρ0 F0 H0 ρ F H → RepRs Z H0 F H σ rs vs → fzA ρ rs = some (ds, ρ') →
    ∃ F', Fz Z σ ρ0 F0 H0 ρ' F' H ∧ RepA Z F' H ds vs ∧ ∀ a, F a → F' a
  | [], vs, ds, ρ, ρ', F, p, h, e => by
    cases e
    exact ⟨F, p, by rw [show vs = [] from h]; simp [RepA], fun _ q => q⟩
  | r :: rs, vs, ds, ρ, ρ', F, p, h, e => by
    obtain ⟨v, t, rfl, x, y, dd⟩ := h
    unfold fzA at e
    split at e
    · rename_i d ρ1 e1
      split at e
      · rename_i es ρ2 e2
        cases e
        obtain ⟨F1, p1, r1, m1, n1⟩ := RepR.froz p x e1
        have y1 : RepRs Z H0 F1 H σ rs t := y.keepF m1 fun a q z => by
          rcases n1 a z with z | z | z
          · have : ∀ {rs : List R} {t : List V}, RepRs Z H0 F H σ rs t → a ∈ oRs rs t → ¬ F a := by
              intro rs
              induction rs with
              | nil =>
                intro t h m
                rw [show t = [] from h] at m
                cases m
              | cons r2 rs2 ih =>
                intro t h m
                obtain ⟨v2, t2, rfl, x2, y2, _⟩ := h
                unfold oRs at m
                split at m
                · rename_i b e
                  rcases List.mem_cons.mp m with q | q
                  · subst q
                    cases r2 with
                    | o w =>
                      obtain ⟨c, rfl, z, n⟩ := x2
                      cases e
                      exact z.nf
                    | v d => cases e
                    | w i => cases e
                  · exact ih y2 q
                · exact ih y2 m
            exact this y q z
          · exact dd a z q
          · exact p.own a (p.subO a z) (oRs_mem y q)
        obtain ⟨F2, p2, r2, m2⟩ := RepRs.froz p1 y1 e2
        exact ⟨F2, p2, by simp only [RepA]; exact ⟨v, t, rfl, Rep.mo (fun a q => ⟨m2 a q, fun _ z => z⟩) _ _ r1, r2⟩, fun a q => m2 a (m1 a q)⟩
      · cases e
    · cases e
/-! ### ends -/
theorem Rep1 {H0 : Hp} {r : R} {v : V} (h : RepR Z H0 F H σ r v) : RepRs Z H0 F H σ [r] [v] := ⟨v, [], rfl, h, rfl, fun _ _ q => by cases q⟩
theorem EQs.val {d : D} {v : V} {Q : List V → Hp → Prop} (h : EQs Z W F H σ ρ (.ok [.v d] ρ1) Q) (p : Pt Z σ ρ F H ρ1 F1 H1) (r : Rep Z F1 H1 d v) : Q [v] H1 := h [v] H1 F1 p.st p.rs (Rep1 (r := .v d) r)
theorem EQs.own {w : Ow} {a : Addr} {Q : List V → Hp → Prop} (h : EQs Z W F H σ ρ (.ok [.o w] ρ1) Q) (p : Pt Z σ ρ F H ρ1 F1 H1) (r : ROw Z F1 H1 a w) (n : H a = none) : Q [.ref a] H1 := h [.ref a] H1 F1 p.st p.rs (Rep1 (r := .o w) ⟨a, rfl, r, n⟩)
theorem EQs.same {i : Nat} {v : V} {Q : List V → Hp → Prop} (h : EQs Z W F H σ ρ (.ok [.w i] ρ1) Q) (p : Pt Z σ ρ F H ρ1 F1 H1) (r : sg σ i = some v) : Q [v] H1 := h [v] H1 F1 p.st p.rs (Rep1 (r := .w i) r)
/-- a new tuple -/
theorem EQs.tup {ds : List D} {vs : List V} {p : Addr} {Q : List V → Hp → Prop} (h : EQs Z W F H σ ρ (.ok [.v (.tup ds)] ρ1) Q) (q : Pt Z σ ρ F H ρ1 F1 H1) (r : RepA Z F1 H1 ds vs) (hp : H1 p = none) : Q [.ref p] (upd H1 p (.tup vs)) := by
  have q2 := Pt.newF (o := .tup vs) q.rs hp
  refine EQs.val h (q.trans q2) ?_
  simp only [Rep]
  exact ⟨p, vs, rfl, .inl ⟨.inr rfl, .inl upd_same⟩, RepA.mo (fun a f => ⟨.inl f, fun o e => by rw [upd_ne (ne_of_none e hp)]; exact e⟩) _ _ r⟩
/-- a new list -/
theorem EQs.lst {ds : List D} {vs : List V} {p : Addr} {Q : List V → Hp → Prop} (h : EQs Z W F H σ ρ (.ok [.o (.L ds)] ρ1) Q) (q : Pt Z σ ρ F H ρ1 F1 H1) (r : RepA Z F1 H1 ds vs) (hp : H1 p = none) : Q [.ref p] (upd H1 p (.lst vs)) := by
  have q2 := Pt.new (o := .lst vs) q.rs hp
  exact EQs.own h (q.trans q2) ⟨fun f => q.rs.fok p f hp, vs, upd_same, RepA.mo (fun a f => ⟨f, fun o e => by rw [upd_ne (ne_of_none e hp)]; exact e⟩) _ _ r⟩ (q.st.dead p hp)
end
/-! ### parts of lists of values -/
section
variable {Z : Cd} {F : Addr → Prop} {H : Hp}
theorem RepA.len : ∀ {ds : List D} {vs : List V}, RepA Z F H ds vs → ds.length = vs.length
  | [], vs, h => by
    simp only [RepA] at h
    rw [h]; rfl
  | d :: ds, vs, h => by
    simp only [RepA] at h
    obtain ⟨v, r, rfl, x, y⟩ := h
    simp [y.len]
theorem RepA.nil_ : RepA Z F H [] [] := by simp [RepA]
theorem RepA.cons_ {d : D} {ds : List D} {v : V} {vs : List V} (h : Rep Z F H d v) (t : RepA Z F H ds vs) : RepA Z F H (d :: ds) (v :: vs) := by
  simp only [RepA]
  exact ⟨v, vs, rfl, h, t⟩
theorem RepA.app : ∀ {ds : List D} {vs : List V} {es : List D} {us : List V}, RepA Z F H ds vs → RepA Z F H es us → RepA Z F H (ds ++ es) (vs ++ us)
  | [], vs, es, us, h, g => by
    simp only [RepA] at h
    subst h
    exact g
  | d :: ds, vs, es, us, h, g => by
    simp only [RepA] at h
    obtain ⟨v, r, rfl, x, y⟩ := h
    exact .cons_ x (y.app g)
theorem RepA.get : ∀ {ds : List D} {vs : List V} {i : Nat} {d : D}, RepA Z F H ds vs → ds[i]? = some d → ∃ v, vs[i]? = some v ∧ Rep Z F H d v
  | [], vs, i, d, h, e => by simp at e
  | x :: ds, vs, 0, d, h, e => by
    simp only [RepA] at h
    obtain ⟨v, r, rfl, x, y⟩ := h
    simp at e
    subst e
    exact ⟨v, rfl, x⟩
  | x :: ds, vs, i + 1, d, h, e => by
    simp only [RepA] at h
    obtain ⟨v, r, rfl, x, y⟩ := h
    obtain ⟨w, a, b⟩ := y.get (i := i) (by simpa using e)
    exact ⟨w, by simpa using a, b⟩
theorem RepA.take_ : ∀ {ds : List D} {vs : List V} (n : Nat), RepA Z F H ds vs → RepA Z F H (ds.take n) (vs.take n)
  | _, _, 0, h => by simp [RepA]
  | [], vs, n + 1, h => by
    simp only [RepA] at h
    subst h
    simp [RepA]
  | d :: ds, vs, n + 1, h => by
    simp only [RepA] at h
    obtain ⟨v, r, rfl, x, y⟩ := h
    exact .cons_ x (y.take_ n)
theorem RepA.drop_ : ∀ {ds : List D} {vs : List V} (n : Nat), RepA Z F H ds vs → RepA Z F H (ds.drop n) (vs.drop n)
  | _, _, 0, h => h
  | [], vs, n + 1, h => by
    simp only [RepA] at h
    subst h
    simp [RepA]
  | d :: ds, vs, n + 1, h => by
    simp only [RepA] at h
    obtain ⟨v, r, rfl, x, y⟩ := h
    exact y.drop_ n
theorem RepA.set_ : ∀ {ds : List D} {vs : List V} (n : Nat) {d : D} {v : V}, RepA Z F H ds vs → Rep Z F H d v → RepA Z F H (ds.set n d) (vs.set n v)
  | [], vs, n, d, v, h, g => by
    simp only [RepA] at h
    subst h
    simp [RepA]
  | e :: ds, vs, 0, d, v, h, g => by
    simp only [RepA] at h
    obtain ⟨w, r, rfl, x, y⟩ := h
    exact .cons_ g y
  | e :: ds, vs, n + 1, d, v, h, g => by
    simp only [RepA] at h
    obtain ⟨w, r, rfl, x, y⟩ := h
    exact .cons_ x (y.set_ n g)
theorem RepA.erase_ : ∀ {ds : List D} {vs : List V} (n : Nat), RepA Z F H ds vs → RepA Z F H (ds.eraseIdx n) (vs.eraseIdx n)
  | [], vs, n, h => by
    simp only [RepA] at h
    subst h
    simp [RepA]
  | e :: ds, vs, 0, h => by
    simp only [RepA] at h
    obtain ⟨w, r, rfl, x, y⟩ := h
    exact y
  | e :: ds, vs, n + 1, h => by
    simp only [RepA] at h
    obtain ⟨w, r, rfl, x, y⟩ := h
    exact .cons_ x (y.erase_ n)
theorem RepA.rev_ : ∀ {ds : List D} {vs : List V}, RepA Z F H ds vs → RepA Z F H ds.reverse vs.reverse
  | [], vs, h => by
    simp only [RepA] at h
    subst h
    simp [RepA]
  | e :: ds, vs, h => by
    simp only [RepA] at h
    obtain ⟨w, r, rfl, x, y⟩ := h
    rw [List.reverse_cons, List.reverse_cons]
    exact y.rev_.app (.cons_ x .nil_)
end
end Z

/-! each construct: what the interpreter says of it, the machine does -/
namespace Z
open PySem L2
theorem PE.weak {X : Cx} {e : Expr} {t t' : TE} (h : PE X e t) (w : ∀ σ H Q, t' σ H Q → t σ H Q) : PE X e t' := ⟨fun pins s σ H Q I q => h.run pins s σ H Q I (w σ H Q q)⟩
theorem PE.of {X : Cx} {e : Expr} {t : TE} (h : ∀ σ H Q, t σ H Q → ∃ t', PE X e t' ∧ t' σ H Q) : PE X e t := ⟨fun pins s σ H Q I q => let ⟨_, p, z⟩ := h σ H Q q; p.run pins s σ H Q I z⟩
theorem PT.weak {X : Cx} {e : Expr} {t t' : TT} (h : PT X e t) (w : ∀ σ H Q, t' σ H Q → t σ H Q) : PT X e t' := ⟨fun pins s σ H Q I q => h.run pins s σ H Q I (w σ H Q q)⟩
theorem PT.of {X : Cx} {e : Expr} {t : TT} (h : ∀ σ H Q, t σ H Q → ∃ t', PT X e t' ∧ t' σ H Q) : PT X e t := ⟨fun pins s σ H Q I q => let ⟨_, p, z⟩ := h σ H Q q; p.run pins s σ H Q I z⟩
theorem PW.weak {X : Cx} {e : Expr} {t t' : TT} (h : PW X e t) (w : ∀ σ H Q, t' σ H Q → t σ H Q) : PW X e t' := ⟨fun wh pins s σ H Q I q => h.run wh pins s σ H Q I (w σ H Q q)⟩
theorem PA.weak {X : Cx} {e : List Expr} {t t' : TA} (h : PA X e t) (w : ∀ σ H Q, t' σ H Q → t σ H Q) : PA X e t' := ⟨fun p pins s σ H Q I q => h.run p pins s σ H Q I (w σ H Q q)⟩
section
variable {Z : Cd} {W : WX} {F F' F1 : Addr → Prop} {H H' H1 : Hp} {σ : L2.St} {ρ ρ' ρ1 : Env} {f g : Env → Out (List R)}
theorem tT_t1 {Q : Bool → Hp → Prop} (h : tT Z W f σ H Q) : t1 Z W f σ H fun v H' => ∃ b, v = .bl b ∧ Q b H' := by
  obtain ⟨ρ, F, I, e⟩ := h
  refine ⟨ρ, F, I, ?_⟩
  cases q : f ρ with
  | ok rs ρ1 =>
    rw [q] at e
    intro vs H' F' s I' r
    obtain ⟨b, e1, e2⟩ := e vs H' F' s I' r
    exact ⟨.bl b, e1, b, rfl, e2⟩
  | ex c ρ1 => rw [q] at e; exact e
  | st => rw [q] at e; exact e
/-- one value is wanted -/
abbrev W1 (Q : V → Hp → Prop) : List V → Hp → Prop := fun vs H' => ∃ v, vs = [v] ∧ Q v H'
theorem W1.mk {Q : V → Hp → Prop} {v : V} {H : Hp} (h : Q v H) : W1 Q [v] H := ⟨v, rfl, h⟩
theorem W1.out {Q : V → Hp → Prop} {v : V} {H : Hp} (h : W1 Q [v] H) : Q v H := by
  obtain ⟨w, e, q⟩ := h
  cases e
  exact q
/-- core: one operand -/
theorem core1 {k : D → Option R} {OK : (V → Hp → VK → Prop) → Prop} (ef : ∀ ρ, EvO ρ (f ρ)) (ex : ∃ r, OK r) {Q : VK}
    (rules : ∀ d res, k d = some res → ∃ r, OK r ∧ ∀ F H σ ρ x Q, RS Z F H σ ρ → RepT Z F H d x → EQs Z W F H σ ρ (.ok [res] ρ) (W1 Q) → r x H Q)
    (h : t1 Z W (fun ρ => ap1 (f ρ) k) σ H Q) : ∃ r, OK r ∧ t1 Z W f σ H fun x H1 => r x H1 Q := by
  obtain ⟨ρ, F, I, h⟩ := h
  have e := ef ρ
  cases q : f ρ with
  | st => simp only [q, ap1, Out.one, Out.bnd] at h; exact False.elim h
  | ex c ρ1 =>
    obtain ⟨r, hr⟩ := ex
    refine ⟨r, hr, ρ, F, I, ?_⟩
    simp only [q, ap1, Out.one, Out.bnd] at h ⊢
    exact h
  | ok rs ρ1 =>
    rw [q] at e
    match rs, q with
    | [], q => simp only [q, ap1, Out.one, Out.bnd] at h; exact False.elim h
    | a :: b :: rs, q => simp only [q, ap1, Out.one, Out.bnd] at h; exact False.elim h
    | [a], q =>
      simp only [q, ap1, Out.one, Out.bnd] at h
      cases hd : dr ρ1 a with
      | none => rw [hd] at h; exact False.elim h
      | some d =>
        rw [hd] at h
        dsimp only at h
        cases hk : k d with
        | none => rw [hk] at h; exact False.elim h
        | some res =>
          rw [hk] at h
          obtain ⟨r, hr, rule⟩ := rules d res hk
          refine ⟨r, hr, ρ, F, I, ?_⟩
          rw [q]
          intro vs H1 F1 s I1 rr
          obtain ⟨v, t, rfl, x, y, _⟩ := rr
          have : t = [] := y
          subst this
          have p : Pt Z σ ρ F H ρ1 F1 H1 := ⟨s, I1, fun _ w => Ev.wr e w, fun _ w => Ev.oa e w⟩
          exact ⟨v, rfl, rule F1 H1 σ ρ1 v Q I1 (x.read I1 hd) (EQs.later h p)⟩
/-- core: two operands -/
theorem core2 {k : D → D → Option R} {OK : R2 → Prop} (ef : ∀ ρ, EvO ρ (f ρ)) (eg : ∀ ρ, EvO ρ (g ρ)) (ex : ∃ r, OK r) {Q : VK}
    (rules : ∀ d e res, k d e = some res → ∃ r, OK r ∧ ∀ F H σ ρ x y Q, RS Z F H σ ρ → RepT Z F H d x → RepT Z F H e y → EQs Z W F H σ ρ (.ok [res] ρ) (W1 Q) → r x y H Q)
    (h : t1 Z W (fun ρ => ap2 (f ρ) g k) σ H Q) : ∃ r, OK r ∧ tOp r (t1 Z W f) (t1 Z W g) σ H Q := by
  obtain ⟨ρ, F, I, h⟩ := h
  have e := ef ρ
  cases q : f ρ with
  | st => simp only [q, ap2, Out.one, Out.bnd] at h; exact False.elim h
  | ex c ρ1 =>
    obtain ⟨r, hr⟩ := ex
    refine ⟨r, hr, ρ, F, I, ?_⟩
    simp only [q, ap2, Out.one, Out.bnd] at h ⊢
    exact h
  | ok rs ρ1 =>
    rw [q] at e
    match rs, q with
    | [], q => simp only [q, ap2, Out.one, Out.bnd] at h; exact False.elim h
    | a :: b :: rs, q => simp only [q, ap2, Out.one, Out.bnd] at h; exact False.elim h
    | [a], q =>
      have e2 := eg ρ1
      have first : ∀ {r : R2}, (∀ v H1 F1, Pt Z σ ρ F H ρ1 F1 H1 → RepR Z H F1 H1 σ a v → t1 Z W g σ H1 fun y H2 => r v y H2 Q) → tOp r (t1 Z W f) (t1 Z W g) σ H Q := fun k => by
        refine ⟨ρ, F, I, ?_⟩
        rw [q]
        intro vs H1 F1 s I1 rr
        obtain ⟨v, t, rfl, x, y, _⟩ := rr
        have : t = [] := y
        subst this
        exact ⟨v, rfl, k v H1 F1 ⟨s, I1, fun _ w => Ev.wr e w, fun _ w => Ev.oa e w⟩ x⟩
      simp only [q, ap2, Out.one, Out.bnd] at h
      cases q2 : g ρ1 with
      | st => simp only [q2, Out.bnd] at h; exact False.elim h
      | ex c ρ2 =>
        obtain ⟨r, hr⟩ := ex
        refine ⟨r, hr, first fun v H1 F1 p x => ⟨ρ1, F1, p.rs, ?_⟩⟩
        simp only [q2, Out.bnd] at h ⊢
        exact EQs.later (o := .ex c ρ2) h p
      | ok ss ρ2 =>
        rw [q2] at e2
        match ss, q2 with
        | [], q2 => simp only [q2, Out.bnd] at h; exact False.elim h
        | a' :: b :: rs, q2 => simp only [q2, Out.bnd] at h; exact False.elim h
        | [b], q2 =>
          simp only [q2, Out.bnd] at h
          cases hd : dr ρ2 a with
          | none => rw [hd] at h; exact False.elim h
          | some d =>
            cases hd2 : dr ρ2 b with
            | none => rw [hd, hd2] at h; exact False.elim h
            | some d2 =>
              rw [hd, hd2] at h
              cases hk : k d d2 with
              | none => simp only [hk, ofO] at h; exact False.elim h
              | some res =>
                simp only [hk, ofO] at h
                obtain ⟨r, hr, rule⟩ := rules d d2 res hk
                refine ⟨r, hr, first fun v H1 F1 p x => ⟨ρ1, F1, p.rs, ?_⟩⟩
                rw [q2]
                intro vs H2 F2 s I2 rr
                obtain ⟨y, t, rfl, z, z2, _⟩ := rr
                have : t = [] := z2
                subst this
                have p2 : Pt Z σ ρ1 F1 H1 ρ2 F2 H2 := ⟨s, I2, fun _ w => Ev.wr e2 w, fun _ w => Ev.oa e2 w⟩
                have x2 : RepR Z H F2 H2 σ a v := x.later p.rs s fun c w => (I.wr_nf (p.sub c w)).2
                exact ⟨y, rfl, rule F2 H2 σ ρ2 v y Q I2 (x2.read I2 hd) (z.read I2 hd2) (EQs.later (EQs.later h p) p2)⟩
/-- an end whose value is the same data -/
theorem fin_v {d : D} {v : V} {Q : VK} (h : EQs Z W F H σ ρ (.ok [.v d] ρ) (W1 Q)) (I : RS Z F H σ ρ) (r : Rep Z F H d v) : Q v H := W1.out (EQs.val h (.refl I) r)
theorem fin_tup {ds : List D} {vs : List V} {p : Addr} {Q : VK} (h : EQs Z W F H σ ρ (.ok [.v (.tup ds)] ρ) (W1 Q)) (I : RS Z F H σ ρ) (r : RepA Z F H ds vs) (hp : H p = none) : Q (.ref p) (upd H p (.tup vs)) := W1.out (EQs.tup h (.refl I) r hp)
theorem fin_lst {ds : List D} {vs : List V} {p : Addr} {Q : VK} (h : EQs Z W F H σ ρ (.ok [.o (.L ds)] ρ) (W1 Q)) (I : RS Z F H σ ρ) (r : RepA Z F H ds vs) (hp : H p = none) : Q (.ref p) (upd H p (.lst vs)) := W1.out (EQs.lst h (.refl I) r hp)
end

/-! ### names, constants -/
section
variable {Z : Cd} {W : WX} {B : Tb} {Φ : CallF} {X : Cx}
theorem ze_var {i : Nat} {x : Str} {pos : Pos} (hN : X.N[i]? = some x) (hv : Vis X.env.scope x) (hd : (x == ("__debug__" : Str)) = false) (hcd : (x == ("__classdict__" : Str)) = false) : PE X (.Name x pos) (t1 Z W (ev B Φ (.var i))) := by
  refine PE.weak (pe_var hN hv hd hcd) fun σ H Q ⟨ρ, F, I, h⟩ => ?_
  have q := I.sl i
  simp only [ev] at h
  split at h
  · rename_i d b e
    rw [e] at q
    obtain ⟨v, e1, r⟩ := q
    exact ⟨v, sg_some.mp e1, W1.out (EQs.val h (.refl I) r)⟩
  · rename_i w b e
    rw [e] at q
    obtain ⟨a, e1, r⟩ := q
    exact ⟨_, sg_some.mp e1, W1.out (EQs.same h (.refl I) e1)⟩
  · rename_i w b e
    rw [e] at q
    obtain ⟨a, e1, r⟩ := q
    exact ⟨_, sg_some.mp e1, W1.out (EQs.same h (.refl I) e1)⟩
  · exact h.elim
theorem ze_con {d : D} {v : V} {e : Expr} (h : PE X e (tC v)) (r : ∀ F H, Rep Z F H d v) : PE X e (t1 Z W (ev B Φ (.con d))) :=
  PE.weak h fun σ H Q ⟨ρ, F, I, h⟩ => W1.out (EQs.val h (.refl I) (r F H))
theorem ze_glo {g : Nat} {v : V} {e : Expr} (h : PE X e (tC v)) (r : ∀ F H, Rep Z F H (B.glo g) v) : PE X e (t1 Z W (ev B Φ (.glo g))) :=
  PE.weak h fun σ H Q ⟨ρ, F, I, h⟩ => W1.out (EQs.val h (.refl I) (r F H))
theorem ze_frz {a : E} {e : Expr} (h : PE X e (t1 Z W (ev B Φ a))) : PE X e (t1 Z W (ev B Φ (.frz a))) := by
  refine PE.weak h fun σ H Q ⟨ρ, F, I, h⟩ => ⟨ρ, F, I, EQs.one h I (EvO.ev a ρ) fun r ρ1 v H1 F1 _ p x q => ?_⟩
  split at q
  · rename_i d ρ2 e2
    obtain ⟨F2, p2, y, m2, _⟩ := RepR.froz (Fz.of I p) x e2
    exact W1.out (EQs.val q p2.toPt y)
  · exact q.elim

/-! ### operators -/
theorem sizeLim : sizeLine = lim := by decide
theorem str_app (a b : List Nat) : (⟨a.toArray⟩ : Str) ++ (⟨b.toArray⟩ : Str) = (⟨(a ++ b).toArray⟩ : Str) := by
  show Str.append _ _ = _
  simp [Str.append]
theorem str_len (a : List Nat) : (⟨a.toArray⟩ : Str).length = a.length := by
  show (Array.size _) = _
  simp
theorem noP_big {x y : Int} (h : x.natAbs.log2 < 13500) : Builtin.divisionGoesByPylong x y = false := by
  show (decide ((if y == 0 then 0 else y.natAbs.log2 / 30 + 1) > 300) && decide ((if x == 0 then 0 else x.natAbs.log2 / 30 + 1) > (if y == 0 then 0 else y.natAbs.log2 / 30 + 1) + 150)) = false
  have kx : (if x == 0 then 0 else x.natAbs.log2 / 30 + 1) ≤ 450 := by
    split
    · omega
    · omega
  by_cases hy : (if y == 0 then 0 else y.natAbs.log2 / 30 + 1) > 300
  · rw [decide_eq_false (show ¬ ((if x == 0 then 0 else x.natAbs.log2 / 30 + 1) > (if y == 0 then 0 else y.natAbs.log2 / 30 + 1) + 150) by omega), Bool.and_false]
  · rw [decide_eq_false hy, Bool.false_and]
theorem divB {i j : Int} (hm : (divOk j || bigOk i j) = true) : j ≠ 0 ∧ (j.natAbs.log2 < 9000 ∨ i.natAbs.log2 < 13500) := by
  rw [Bool.or_eq_true] at hm
  rcases hm with hm | hm
  · unfold divOk at hm
    rw [Bool.and_eq_true] at hm
    exact ⟨of_decide_eq_true hm.1, .inl (of_decide_eq_true hm.2)⟩
  · unfold bigOk at hm
    rw [Bool.and_eq_true] at hm
    exact ⟨of_decide_eq_true hm.1, .inr (of_decide_eq_true hm.2)⟩
theorem op_fdivD : OpR X (binaryOp .FloorDiv) (rI (fun i j => j ≠ 0 ∧ (j.natAbs.log2 < 9000 ∨ i.natAbs.log2 < 13500)) fun i j => .int (i.fdiv j)) := opI fun _ _ _ _ _ _ _ hc q => PyProof.Rows.floordiv_int hc.1 q (.inl (hc.2.elim PyProof.noPylong_of_log2 noP_big))
/-- xs + ys, lists of any kind -/
def rCatL (K : PySem.W.Frag) : R2 := fun x y H Q => ∃ l b xs zs, x = .ref l ∧ y = .ref b ∧ SqL K H l xs ∧ SqL K H b zs ∧ xs.length + zs.length ≤ sizeLine ∧ ∀ p, H p = none → Q (.ref p) (upd H p (.lst (xs ++ zs)))
theorem op_catL : OpR X (binaryOp .Add) (rCatL X.K) := by
  intro pins s σ H x y v u Q I rx ry h
  obtain ⟨l, b, xs, zs, rfl, rfl, hH, hB, hz, q⟩ := h
  cases rx
  cases ry
  obtain ⟨its, r, p1, z⟩ := I.list hH
  obtain ⟨its2, r2, p2, z2⟩ := I.list hB
  obtain ⟨⟨cls, dd, data, sl⟩, n, ho, hc, hdn, hd⟩ := p1
  obtain ⟨⟨cls2, dd2, data2, sl2⟩, n2, ho2, hc2, hdn2, hd2⟩ := p2
  simp only at hc hd hc2 hd2
  subst hc hd hc2 hd2
  have e : its.toArray ++ its2.toArray = (its ++ its2).toArray := by simp
  refine PySem.concat_meets ⟨_, ho, rfl⟩ ⟨_, ho2, rfl⟩ noFill_list_add seq_list_add PySem.F.slot_list_add PySem.F.entry_list_add (PySem.F.args_list_add_2 _ _) (PyProof.Rows.list_addW l b its.toArray its2.toArray n n2 dd dd2 sl sl2 ?_) ⟨ho, ho2, ?_⟩
  · have h1 := r.length
    have h2 := r2.length
    simp only [List.size_toArray]
    omega
  · rw [e]
    exact ⟨.ref _, _, I.lnew (t' := s.toks) (r.append r2) (by rw [List.length_append]; omega), rfl, q _ I.fresh⟩
def bop : BOp → Operator
  | .add => .Add | .sub => .Sub | .mul => .Mult | .fdiv => .FloorDiv | .mod => .Mod | .pow => .Pow
theorem foldA : ∀ (l : List (Array Nat)) (b : Array Nat), l.foldl (· ++ ·) b = (b.toList ++ (l.map Array.toList).flatten).toArray
  | [], b => by simp
  | x :: l, b => by
    rw [List.foldl_cons, foldA l (b ++ x)]
    simp
theorem txt_mul (a : List Nat) (n : Int) : Txt.mul ⟨a.toArray⟩ n = ⟨((List.replicate n.toNat a).flatten).toArray⟩ := by
  unfold Txt.mul
  split
  · rename_i h
    have : n.toNat = 0 := by omega
    rw [this]
    rfl
  · split
    · rename_i h1 h2
      rw [Bool.or_eq_true] at h2
      rcases h2 with h2 | h2
      · have : n = 1 := by simpa using h2
        subst this
        simp
      · rw [str_len] at h2
        have h3 : a.length = 0 := by simpa using h2
        have : a = [] := List.eq_nil_of_length_eq_zero h3
        subst this
        simp
    · rw [foldA]
      simp
theorem mulOk_x {i j : Int} (h : mulOk i j = true) : CMulX i j := by
  unfold mulOk at h
  have h := of_decide_eq_true h
  exact mulx_ok (a := i.natAbs.log2 + 1) (b := j.natAbs.log2 + 1) Nat.lt_log2_self Nat.lt_log2_self (by omega)
/-- a text times a number -/
theorem op_mulS : OpR X (binaryOp .Mult) (fun x y H Q => ∃ a n, x = .str a ∧ y = .int n ∧ a.length ≤ 16 ∧ -(2 ^ 63 : Int) ≤ n ∧ n ≤ 1048576 ∧ Q (.str (Txt.mul a n)) H) := by
  intro pins s σ H x y v u Q I rx ry h
  obtain ⟨a, n, rfl, rfl, h1, h2, h3, q⟩ := h
  obtain ⟨t, rfl⟩ := rx
  obtain ⟨t2, rfl⟩ := ry
  exact PySem.W.KXi.mul (n := a.length) rfl h1 h2 h3 fun t' k _ _ => ⟨.str (Txt.mul a n), H, I.tok k, ⟨_, rfl⟩, q⟩
theorem rule_bin (hZ : Z.K = X.K) (op : BOp) : ∀ d e res, binD op d e = some res → ∃ r, OpR X (binaryOp (bop op)) r ∧ ∀ F H σ ρ x y Q, RS Z F H σ ρ → RepT Z F H d x → RepT Z F H e y → EQs Z W F H σ ρ (.ok [res] ρ) (W1 Q) → r x y H Q := by
  intro d e res h
  unfold binD at h
  split at h
  · cases h
    exact ⟨_, op_add, fun F H σ ρ x y Q I hx hy q => ⟨_, _, hx, hy, fin_v q I (by simp [Rep])⟩⟩
  · split at h
    · rename_i hl
      cases h
      refine ⟨_, op_add_str, fun F H σ ρ x y Q I hx hy q => ⟨_, _, hx, hy, ?_, ?_⟩⟩
      · rw [str_len, str_len, sizeLim]; exact hl
      · rw [str_app]
        exact fin_v q I (by simp [Rep])
    · cases h
  · split at h
    · rename_i a b hl
      cases h
      refine ⟨_, op_catA, fun F H σ ρ x y Q I hx hy q => ?_⟩
      simp only [RepT, Rep] at hx hy
      obtain ⟨a1, vs, rfl, t1, r1⟩ := hx
      obtain ⟨a2, us, rfl, t2, r2⟩ := hy
      have l1 := r1.len
      have l2 := r2.len
      refine ⟨a1, a2, vs, us, rfl, rfl, hZ ▸ t1.sq, hZ ▸ t2.sq, by rw [sizeLim]; omega, fun e => ?_, fun _ e => ?_, fun _ _ p hp => ?_⟩
      · subst e
        have ea : a = [] := List.eq_nil_of_length_eq_zero (by simpa using l1)
        subst ea
        exact fin_v q I (by simp only [Rep]; exact ⟨a2, us, rfl, t2, r2⟩)
      · subst e
        have ea : b = [] := List.eq_nil_of_length_eq_zero (by simpa using l2)
        subst ea
        rw [List.append_nil] at q
        exact fin_v q I (by simp only [Rep]; exact ⟨a1, vs, rfl, t1, r1⟩)
      · exact fin_tup q I (r1.app r2) hp
    · cases h
  · split at h
    · rename_i a b hl
      cases h
      refine ⟨_, op_catL, fun F H σ ρ x y Q I hx hy q => ?_⟩
      obtain ⟨a1, vs, rfl, t1, r1⟩ := hx
      obtain ⟨a2, us, rfl, t2, r2⟩ := hy
      have l1 := r1.len
      have l2 := r2.len
      exact ⟨a1, a2, vs, us, rfl, rfl, hZ ▸ t1, hZ ▸ t2, by rw [sizeLim]; omega, fun p hp => fin_lst q I (r1.app r2) hp⟩
    · cases h
  · cases h
    exact ⟨_, op_sub, fun F H σ ρ x y Q I hx hy q => ⟨_, _, hx, hy, fin_v q I (by simp [Rep])⟩⟩
  · split at h
    · rename_i hm
      cases h
      exact ⟨_, op_mulX, fun F H σ ρ x y Q I hx hy q => ⟨_, _, hx, hy, mulOk_x hm, fin_v q I (by simp [Rep])⟩⟩
    · cases h
  · split at h
    · rename_i hm
      cases h
      refine ⟨_, op_mulS, fun F H σ ρ x y Q I hx hy q => ⟨_, _, hx, hy, ?_, ?_, ?_, ?_⟩⟩
      · rw [str_len]; exact hm.1
      · have := hm.2.1
        omega
      · have := hm.2.1
        have := hm.2.2
        omega
      · rw [txt_mul]
        exact fin_v q I (by simp [Rep])
    · cases h
  · split at h
    · rename_i hm
      cases h
      have hm := divB hm
      exact ⟨_, op_fdivD, fun F H σ ρ x y Q I hx hy q => ⟨_, _, hx, hy, hm, fin_v q I (by simp [Rep])⟩⟩
    · cases h
  · split at h
    · cases h
    · rename_i hm
      cases h
      exact ⟨_, op_modN, fun F H σ ρ x y Q I hx hy q => ⟨_, _, hx, hy, hm, fin_v q I (by simp [Rep])⟩⟩
  · split at h
    · rename_i hm
      cases h
      unfold powOk at hm
      rw [Bool.and_eq_true, Bool.and_eq_true] at hm
      exact ⟨_, op_pow, fun F H σ ρ x y Q I hx hy q => ⟨_, _, hx, hy, ⟨of_decide_eq_true hm.1.1, of_decide_eq_true hm.1.2, of_decide_eq_true hm.2⟩, fin_v q I (by simp [Rep])⟩⟩
    · cases h
  · cases h
theorem ex_bin (op : BOp) : ∃ r, OpR X (binaryOp (bop op)) r := by
  cases op
  · exact ⟨_, op_add⟩
  · exact ⟨_, op_sub⟩
  · exact ⟨_, op_mul⟩
  · exact ⟨_, op_fdivN⟩
  · exact ⟨_, op_modN⟩
  · exact ⟨_, op_pow⟩
theorem ze_bin (hZ : Z.K = X.K) {op : BOp} {a b : E} {ea eb : Expr} {pos : Pos} (ha : PE X ea (t1 Z W (ev B Φ a))) (hb : PE X eb (t1 Z W (ev B Φ b))) : PE X (.BinOp ea (bop op) eb pos) (t1 Z W (ev B Φ (.bin op a b))) :=
  PE.of fun σ H Q h => let ⟨r, hr, q⟩ := core2 (EvO.ev a) (EvO.ev b) (ex_bin op) (rule_bin hZ op) h; ⟨_, pe_op hr ha hb, q⟩
theorem neg_rule : ∀ (d : D) (res : R), (match d with
    | .int i => some (R.v (.int (-i)))
    | _ => none) = some res → ∃ r, UnR X (unaryOp .USub) r ∧ ∀ F H σ ρ x Q, RS Z F H σ ρ → RepT Z F H d x → EQs Z W F H σ ρ (.ok [res] ρ) (W1 Q) → r x H Q := by
  intro d res e
  split at e
  · cases e
    exact ⟨_, un_neg, fun F H σ ρ x Q I hx q => ⟨_, hx, fin_v q I (by simp [Rep])⟩⟩
  · cases e
theorem ze_neg {a : E} {ea : Expr} {pos : Pos} (ha : PE X ea (t1 Z W (ev B Φ a))) : PE X (.UnaryOp .USub ea pos) (t1 Z W (ev B Φ (.neg a))) :=
  PE.of fun σ H Q h => let ⟨r, hr, q⟩ := core1 (OK := fun r => UnR X (unaryOp .USub) r) (EvO.ev a) ⟨_, un_neg⟩ neg_rule h; ⟨_, pe_un hr ha, q⟩

/-! ### comparisons -/
mutual
def toP : D → PyData
  | .non => .none | .bl b => .bool b | .int i => .int i | .str x => .str ⟨x.toArray⟩
  | .tup xs => .tuple (toPA xs) | .lst xs => .list (toPA xs)
  | .dct _ _ => .dict [] | .obj _ _ => .dict []
def toPA : List D → List PyData
  | [] => []
  | x :: xs => toP x :: toPA xs
end
mutual
theorem pl_can : ∀ d : D, pl d = true → (toP d).canLay0 = true
  | .non, _ => by simp [toP, PyData.canLay0]
  | .bl _, _ => by simp [toP, PyData.canLay0]
  | .int _, _ => by simp [toP, PyData.canLay0]
  | .str x, h => by
    simp only [toP, PyData.canLay0, PyData.strOk]
    simpa [pl] using h
  | .tup xs, h => by
    simp only [toP, PyData.canLay0]
    exact plA_can xs (by simpa [pl] using h)
  | .lst xs, h => by
    simp only [toP, PyData.canLay0]
    exact plA_can xs (by simpa [pl] using h)
  | .dct _ _, h => by simp [pl] at h
  | .obj _ _, h => by simp [pl] at h
theorem plA_can : ∀ ds : List D, plA ds = true → PyData.canLayAll0 (toPA ds) = true
  | [], _ => by simp [toPA, PyData.canLayAll0]
  | x :: xs, h => by
    simp only [plA, Bool.and_eq_true] at h
    simp only [toPA, PyData.canLayAll0, Bool.and_eq_true]
    exact ⟨pl_can x h.1, plA_can xs h.2⟩
end
mutual
theorem dep_eq : ∀ d : D, pl d = true → (toP d).depth = dep d
  | .non, _ => by simp [toP, PyData.depth, dep]
  | .bl _, _ => by simp [toP, PyData.depth, dep]
  | .int _, _ => by simp [toP, PyData.depth, dep]
  | .str x, h => by simp [toP, PyData.depth, dep]
  | .tup xs, h => by
    simp only [toP, PyData.depth, dep]
    rw [depA_eq xs (by simpa [pl] using h)]
  | .lst xs, h => by
    simp only [toP, PyData.depth, dep]
    rw [depA_eq xs (by simpa [pl] using h)]
  | .dct _ _, h => by simp [pl] at h
  | .obj _ _, h => by simp [pl] at h
theorem depA_eq : ∀ ds : List D, plA ds = true → PyData.depthAll (toPA ds) = depA ds
  | [], _ => by simp [toPA, PyData.depthAll, depA]
  | x :: xs, h => by
    simp only [plA, Bool.and_eq_true] at h
    simp only [toPA, PyData.depthAll, depA]
    rw [dep_eq x h.1, depA_eq xs h.2]
end
theorem shp_shaped {d : D} (h : shp d = true) : SeqAt.shaped (toP d) = true := by
  unfold shp at h
  rw [Bool.and_eq_true] at h
  unfold SeqAt.shaped
  rw [Bool.and_eq_true]
  refine ⟨pl_can d h.1, ?_⟩
  rw [dep_eq d h.1]
  exact h.2
theorem arr_beq (x y : List Nat) : ((⟨x.toArray⟩ : Str) == (⟨y.toArray⟩ : Str)) = (x == y) := by
  rw [Bool.eq_iff_iff, beq_iff_eq, beq_iff_eq]
  constructor
  · intro h
    have := congrArg (fun s : Str => s.cps.toList) h
    simpa using this
  · intro h
    rw [h]
mutual
theorem eqv_toP : ∀ d e : D, pl d = true → pl e = true → PyData.eqv (toP d) (toP e) = eqv d e
  | .non, e, _, h => by cases e <;> simp_all [toP, PyData.eqv, eqv, pl]
  | .bl a, e, _, h => by cases e <;> simp_all [toP, PyData.eqv, eqv, pl]
  | .int a, e, _, h => by cases e <;> simp_all [toP, PyData.eqv, eqv, pl]
  | .str a, e, _, h => by cases e <;> first | (simp only [toP, PyData.eqv, eqv]; exact arr_beq _ _) | (simp_all [toP, PyData.eqv, eqv, pl]; done)
  | .tup xs, e, h1, h2 => by
    cases e with
    | tup ys =>
      simp only [toP, PyData.eqv, eqv]
      exact eqvA_toP xs ys (by simpa [pl] using h1) (by simpa [pl] using h2)
    | _ => simp_all [toP, PyData.eqv, eqv, pl]
  | .lst xs, e, h1, h2 => by
    cases e with
    | lst ys =>
      simp only [toP, PyData.eqv, eqv]
      exact eqvA_toP xs ys (by simpa [pl] using h1) (by simpa [pl] using h2)
    | _ => simp_all [toP, PyData.eqv, eqv, pl]
  | .dct _ _, _, h, _ => by simp [pl] at h
  | .obj _ _, _, h, _ => by simp [pl] at h
theorem eqvA_toP : ∀ ds es : List D, plA ds = true → plA es = true → PyData.eqvAll (toPA ds) (toPA es) = eqvA ds es
  | [], [], _, _ => by simp [toPA, PyData.eqvAll, eqvA]
  | [], _ :: _, _, _ => by simp [toPA, PyData.eqvAll, eqvA]
  | _ :: _, [], _, _ => by simp [toPA, PyData.eqvAll, eqvA]
  | x :: xs, y :: ys, h1, h2 => by
    simp only [plA, Bool.and_eq_true] at h1 h2
    simp only [toPA, PyData.eqvAll, eqvA]
    rw [eqv_toP x y h1.1 h2.1, eqvA_toP xs ys h1.2 h2.2]
end
section
variable {F : Addr → Prop} {H : Hp}
mutual
theorem Rep.dp (hZ : Z.K = X.K) : ∀ (d : D) (v : V), pl d = true → Rep Z F H d v → Dp X.K H v (toP d)
  | .non, v, _, h => by
    simp only [Rep] at h; subst h
    simp only [toP]; exact .non
  | .bl b, v, _, h => by
    simp only [Rep] at h; subst h
    simp only [toP]; exact .bl b
  | .int i, v, _, h => by
    simp only [Rep] at h; subst h
    simp only [toP]; exact .int i
  | .str x, v, _, h => by
    simp only [Rep] at h; subst h
    simp only [toP]; exact .str _
  | .tup ds, v, p, h => by
    simp only [Rep] at h
    obtain ⟨a, vs, rfl, t, r⟩ := h
    simp only [toP]
    exact .tup (hZ ▸ t.sq) (RepA.dp hZ ds vs (by simpa [pl] using p) r)
  | .lst ds, v, p, h => by
    simp only [Rep] at h
    obtain ⟨a, vs, rfl, t, r⟩ := h
    simp only [toP]
    exact .lst (hZ ▸ t.sq) (RepA.dp hZ ds vs (by simpa [pl] using p) r)
  | .dct _ _, _, p, _ => by simp [pl] at p
  | .obj _ _, _, p, _ => by simp [pl] at p
theorem RepA.dp (hZ : Z.K = X.K) : ∀ (ds : List D) (vs : List V), plA ds = true → RepA Z F H ds vs → DpAll X.K H vs (toPA ds)
  | [], vs, _, h => by
    simp only [RepA] at h; subst h
    simp only [toPA]; exact .nil
  | d :: ds, vs, p, h => by
    simp only [plA, Bool.and_eq_true] at p
    simp only [RepA] at h
    obtain ⟨v, r, rfl, x, y⟩ := h
    simp only [toPA]
    exact .cons (Rep.dp hZ d v p.1 x) (RepA.dp hZ ds r p.2 y)
end
theorem RepT.dp (hZ : Z.K = X.K) {d : D} {v : V} (p : pl d = true) (h : RepT Z F H d v) : Dp X.K H v (toP d) := by
  cases d with
  | lst ds =>
    obtain ⟨a, vs, rfl, t, r⟩ := h
    simp only [toP]
    exact .lst (hZ ▸ t) (RepA.dp hZ ds vs (by simpa [pl] using p) r)
  | dct _ _ => simp [pl] at p
  | _ => exact Rep.dp (F := F) hZ _ v p h
end
end
end Z

namespace Z
open PySem L2
section
variable {Z : Cd} {W : WX} {B : Tb} {Φ : CallF} {X : Cx}
def cop : COp → CmpOp
  | .eq => .Eq | .ne => .NotEq | .lt => .Lt | .le => .LtE | .gt => .Gt | .ge => .GtE | .is => .Is | .isn => .IsNot | .isin => .In | .nin => .NotIn
theorem v_str (x y : List Nat) : decide (V.str ⟨x.toArray⟩ = V.str ⟨y.toArray⟩) = (x == y) := by
  rw [dec_str, arr_beq]
theorem scal_eq {F : Addr → Prop} {H : Hp} {d e : D} {x y : V} (h : scalD d e = true) (hx : RepT Z F H d x) (hy : RepT Z F H e y) : scal x y = true ∧ decide (x = y) = eqv d e := by
  cases d <;> cases e <;> first
    | (simp [scalD] at h; done)
    | (simp only [RepT, Rep] at hx hy; subst hx hy; refine ⟨rfl, ?_⟩; first | (simp [eqv]; done) | exact v_str _ _ | (rw [dec_int]; simp [eqv]) | (rw [dec_bl]; simp [eqv]))
theorem toPA_any (ds : List D) (d : D) (h1 : plA ds = true) (h2 : pl d = true) : (toPA ds).any (fun z => PyData.eqv z (toP d)) = ds.any fun x => eqv x d := by
  induction ds with
  | nil => simp [toPA]
  | cons x xs ih =>
    simp only [plA, Bool.and_eq_true] at h1
    simp only [toPA, List.any_cons]
    rw [eqv_toP x d h1.1 h2, ih h1.2]
theorem shp_pl {d : D} (h : shp d = true) : pl d = true := by
  unfold shp at h
  rw [Bool.and_eq_true] at h
  exact h.1
theorem dec_mem (c : Nat) (z : List Nat) : decide (c ∈ (⟨z.toArray⟩ : Str).cps.toList) = z.contains c := by
  rw [Bool.eq_iff_iff, decide_eq_true_iff]
  simp
theorem non_dec {F : Addr → Prop} {H : Hp} {d : D} {x : V} (hx : RepT Z F H d x) : decide (x = V.non) = isNon d := by
  cases d <;> simp only [RepT, Rep] at hx
  · rw [hx]; rfl
  · rw [hx]; rfl
  · rw [hx]; rfl
  · rw [hx]; rfl
  · obtain ⟨a, vs, rfl, _⟩ := hx; rfl
  · obtain ⟨a, vs, rfl, _⟩ := hx; rfl
  · obtain ⟨a, vs, rfl, _⟩ := hx; rfl
  · obtain ⟨a, dx, vs, rfl, _⟩ := hx; rfl
theorem allStr_rep {F : Addr → Prop} {H : Hp} : ∀ {xs : List D} {ts : List (List Nat)} {vs : List V}, allStr xs = some ts → RepA Z F H xs vs → vs = ts.map fun t => V.str ⟨t.toArray⟩
  | [], ts, vs, h, r => by
    cases h
    simp only [RepA] at r
    subst r; rfl
  | .str x :: xs, ts, vs, h, r => by
    unfold allStr at h
    obtain ⟨us, h1, rfl⟩ := Option.map_eq_some_iff.mp h
    simp only [RepA, Rep] at r
    obtain ⟨v, w, rfl, rfl, r2⟩ := r
    rw [allStr_rep h1 r2]; rfl
  | .non :: _, _, _, h, _ => by cases h
  | .bl _ :: _, _, _, h, _ => by cases h
  | .int _ :: _, _, _, h, _ => by cases h
  | .tup _ :: _, _, _, h, _ => by cases h
  | .lst _ :: _, _, _, h, _ => by cases h
  | .dct _ _ :: _, _, _, h, _ => by cases h
  | .obj _ _ :: _, _, _, h, _ => by cases h
theorem inV_strs (a : List Nat) : ∀ ts : List (List Nat), inV (.str ⟨a.toArray⟩) (ts.map fun t => V.str ⟨t.toArray⟩) = ts.contains a
  | [] => rfl
  | t :: ts => by
    have ih := inV_strs a ts
    unfold inV at ih ⊢
    rw [List.map_cons, List.any_cons, ih, List.contains_cons]
    congr 1
    show ((⟨t.toArray⟩ : Str) == (⟨a.toArray⟩ : Str)) = (a == t)
    rw [arr_beq, Bool.beq_comm]
theorem rule_cmp (hZ : Z.K = X.K) (hu : X.A.units + 200 < cLine) (op : COp) : ∀ d e b, cmpD op d e = some b → ∃ r, OpR X (compareOp (cop op)) r ∧ ∀ F H x y Q, RepT Z F H d x → RepT Z F H e y → Q (.bl b) H → r x y H Q := by
  intro d e b h
  unfold cmpD at h
  split at h
  · split at h
    · rename_i hc
      cases h
      by_cases hs : scalD d e = true
      · refine ⟨_, op_eq, fun F H x y Q hx hy q => ?_⟩
        obtain ⟨h1, h2⟩ := scal_eq hs hx hy
        exact ⟨h1, by rw [h2]; exact q⟩
      · rw [Bool.not_eq_true] at hs
        rw [hs, Bool.false_or, Bool.and_eq_true] at hc
        refine ⟨_, op_eqD (by omega), fun F H x y Q hx hy q => ⟨toP d, toP e, RepT.dp hZ (shp_pl hc.1) hx, RepT.dp hZ (shp_pl hc.2) hy, shp_shaped hc.1, shp_shaped hc.2, ?_⟩⟩
        rw [eqv_toP d e (shp_pl hc.1) (shp_pl hc.2)]
        exact q
    · cases h
  · split at h
    · rename_i hc
      cases h
      by_cases hs : scalD d e = true
      · refine ⟨_, op_ne, fun F H x y Q hx hy q => ?_⟩
        obtain ⟨h1, h2⟩ := scal_eq hs hx hy
        exact ⟨h1, by rw [h2]; exact q⟩
      · rw [Bool.not_eq_true] at hs
        rw [hs, Bool.false_or, Bool.and_eq_true] at hc
        refine ⟨_, op_neD (by omega), fun F H x y Q hx hy q => ⟨toP d, toP e, RepT.dp hZ (shp_pl hc.1) hx, RepT.dp hZ (shp_pl hc.2) hy, shp_shaped hc.1, shp_shaped hc.2, ?_⟩⟩
        rw [eqv_toP d e (shp_pl hc.1) (shp_pl hc.2)]
        exact q
    · cases h
  · cases h; exact ⟨_, op_lt, fun F H x y Q hx hy q => ⟨_, _, hx, hy, q⟩⟩
  · cases h; exact ⟨_, op_le, fun F H x y Q hx hy q => ⟨_, _, hx, hy, q⟩⟩
  · cases h; exact ⟨_, op_gt, fun F H x y Q hx hy q => ⟨_, _, hx, hy, q⟩⟩
  · cases h; exact ⟨_, op_ge, fun F H x y Q hx hy q => ⟨_, _, hx, hy, q⟩⟩
  · cases h
    refine ⟨_, op_isN, fun F H x y Q hx hy q => ⟨hy, ?_⟩⟩
    rw [non_dec hx]; exact q
  · cases h
    refine ⟨_, op_notN, fun F H x y Q hx hy q => ⟨hy, ?_⟩⟩
    rw [non_dec hx]; exact q
  · cases h
    exact ⟨_, op_isBl, fun F H x y Q hx hy q => ⟨_, _, hx, hy, q⟩⟩
  · cases h
    exact ⟨_, op_notBl, fun F H x y Q hx hy q => ⟨_, _, hx, hy, q⟩⟩
  · rename_i c z
    cases h
    refine ⟨_, op_in_sign, fun F H x y Q hx hy q => ⟨c, ⟨z.toArray⟩, hx, hy, ?_⟩⟩
    rw [dec_mem]; exact q
  · rename_i c z
    cases h
    refine ⟨_, op_notIn_sign, fun F H x y Q hx hy q => ⟨c, ⟨z.toArray⟩, hx, hy, ?_⟩⟩
    rw [dec_mem]; exact q
  · rename_i a xs
    obtain ⟨ts, h1, rfl⟩ := Option.map_eq_some_iff.mp h
    refine ⟨_, op_in_seq, fun F H x y Q hx hy q => ?_⟩
    simp only [RepT, Rep] at hx hy
    obtain ⟨p, vs, rfl, tf, r⟩ := hy
    have e := allStr_rep h1 r
    subst e hx
    refine ⟨p, _, rfl, .inr (hZ ▸ tf.sq), rfl, by rw [List.all_map]; exact List.all_eq_true.mpr fun _ _ => rfl, ?_⟩
    show Q (.bl (inV (.str ⟨a.toArray⟩) (ts.map fun t => V.str ⟨t.toArray⟩))) H
    rw [inV_strs]
    exact q
  · rename_i d xs
    split at h
    · rename_i hc
      cases h
      rw [Bool.and_eq_true] at hc
      have h1 := shp_pl hc.1
      have h2 : plA xs = true := by simpa [pl] using shp_pl hc.2
      refine ⟨_, op_inD (by omega), fun F H x y Q hx hy q => ⟨toP _, toPA xs, RepT.dp hZ h1 hx, by simpa [toP] using RepT.dp hZ (shp_pl hc.2) hy, shp_shaped hc.1, by simpa [toP] using shp_shaped hc.2, ?_⟩⟩
      rw [toPA_any xs _ h2 h1]
      exact q
    · cases h
  · rename_i d xs
    split at h
    · rename_i hc
      cases h
      rw [Bool.and_eq_true] at hc
      have h1 := shp_pl hc.1
      have h2 : plA xs = true := by simpa [pl] using shp_pl hc.2
      refine ⟨_, op_notInD (by omega), fun F H x y Q hx hy q => ⟨toP _, toPA xs, RepT.dp hZ h1 hx, by simpa [toP] using RepT.dp hZ (shp_pl hc.2) hy, shp_shaped hc.1, by simpa [toP] using shp_shaped hc.2, ?_⟩⟩
      rw [toPA_any xs _ h2 h1]
      exact q
    · cases h
  · cases h
end
end Z

namespace Z
open PySem L2
section
variable {Z : Cd} {W : WX} {B : Tb} {Φ : CallF} {X : Cx} {F : Addr → Prop} {H : Hp} {σ : L2.St} {ρ : Env}
theorem ex_cmp (op : COp) : ∃ r, OpR X (compareOp (cop op)) r := by
  cases op
  · exact ⟨_, op_eq⟩
  · exact ⟨_, op_ne⟩
  · exact ⟨_, op_lt⟩
  · exact ⟨_, op_le⟩
  · exact ⟨_, op_gt⟩
  · exact ⟨_, op_ge⟩
  · exact ⟨_, op_isN⟩
  · exact ⟨_, op_notN⟩
  · exact ⟨_, op_in_sign⟩
  · exact ⟨_, op_notIn_sign⟩
theorem rule_cmpR (hZ : Z.K = X.K) (hu : X.A.units + 200 < cLine) (op : COp) : ∀ d e res, ((cmpD op d e).map fun b => R.v (.bl b)) = some res → ∃ r, OpR X (compareOp (cop op)) r ∧ ∀ F H σ ρ x y Q, RS Z F H σ ρ → RepT Z F H d x → RepT Z F H e y → EQs Z W F H σ ρ (.ok [res] ρ) (W1 Q) → r x y H Q := by
  intro d e res h
  obtain ⟨b, hb, rfl⟩ := Option.map_eq_some_iff.mp h
  obtain ⟨r, hr, rule⟩ := rule_cmp hZ hu op d e b hb
  exact ⟨r, hr, fun F H σ ρ x y Q I hx hy q => rule F H x y Q hx hy (fin_v q I (by simp [Rep]))⟩
theorem ze_cmp (hZ : Z.K = X.K) (hu : X.A.units + 200 < cLine) {op : COp} {a b : E} {ea eb : Expr} {pos : Pos} (ha : PE X ea (t1 Z W (ev B Φ a))) (hb : PE X eb (t1 Z W (ev B Φ b))) (hm : behindInMarks (cop op) eb = false) :
    PE X (.Compare ea [cop op] [eb] pos) (t1 Z W (ev B Φ (.cmp op a b))) :=
  PE.of fun σ H Q h => let ⟨r, hr, q⟩ := core2 (EvO.ev a) (EvO.ev b) (ex_cmp op) (rule_cmpR hZ hu op) h; ⟨_, pe_cmpR hr ha hb hm, q⟩
theorem zt_cmp (hZ : Z.K = X.K) (hu : X.A.units + 200 < cLine) {op : COp} {a b : E} {ea eb : Expr} {pos : Pos} (ha : PE X ea (t1 Z W (ev B Φ a))) (hb : PE X eb (t1 Z W (ev B Φ b))) (hm : behindInMarks (cop op) eb = false) :
    PT X (.Compare ea [cop op] [eb] pos) (tT Z W (ev B Φ (.cmp op a b))) :=
  PT.of fun σ H Q h => let ⟨r, hr, q⟩ := core2 (EvO.ev a) (EvO.ev b) (ex_cmp op) (rule_cmpR hZ hu op) (tT_t1 h); ⟨_, pt_cmpR hr ha hb hm, q⟩
theorem zt_val {e : Expr} {f : Env → Out (List R)} (h : PE X e (t1 Z W f)) (he : ∀ whole, isTrue e X.env whole = (do let v ← whole; standAt e.pos; holding [v] (truthy v))) : PT X e (tT Z W f) :=
  PT.weak (pt_val h he) fun σ H Q q => tT_t1 q
theorem chain_core (hZ : Z.K = X.K) (hu : X.A.units + 200 < cLine) {o1 o2 : COp} {a b c : E} {Q : VK} (h : t1 Z W (ev B Φ (.cmp2 o1 o2 a b c)) σ H Q) :
    ∃ r r', OpR X (compareOp (cop o1)) r ∧ OpR X (compareOp (cop o2)) r' ∧ tChain r r' (t1 Z W (ev B Φ a)) (t1 Z W (ev B Φ b)) (t1 Z W (ev B Φ c)) σ H Q := by
  obtain ⟨ρ, F, I, h⟩ := h
  obtain ⟨r0, hr0⟩ := ex_cmp (X := X) o1
  obtain ⟨s0, hs0⟩ := ex_cmp (X := X) o2
  have e := EvO.ev (B := B) (Φ := Φ) a ρ
  unfold ev at h
  cases q : ev B Φ a ρ with
  | st => simp only [q, Out.one, Out.bnd] at h; exact False.elim h
  | ex k ρ1 =>
    refine ⟨r0, s0, hr0, hs0, ρ, F, I, ?_⟩
    simp only [q, Out.one, Out.bnd] at h ⊢
    exact h
  | ok rs ρ1 =>
    rw [q] at e
    match rs, q with
    | [], q => simp only [q, Out.one, Out.bnd] at h; exact False.elim h
    | x :: b :: rs, q => simp only [q, Out.one, Out.bnd] at h; exact False.elim h
    | [ra], q =>
      have first : ∀ {r r' : R2}, (∀ v H1 F1, Pt Z σ ρ F H ρ1 F1 H1 → RepR Z H F1 H1 σ ra v → t1 Z W (ev B Φ b) σ H1 fun y H2 => r v y H2 fun z H3 => ∃ k, z = .bl k ∧ (if k = true then t1 Z W (ev B Φ c) σ H3 fun w' H4 => r' y w' H4 Q else Q (.bl false) H3)) →
          tChain r r' (t1 Z W (ev B Φ a)) (t1 Z W (ev B Φ b)) (t1 Z W (ev B Φ c)) σ H Q := fun k => by
        refine ⟨ρ, F, I, ?_⟩
        rw [q]
        intro vs H1 F1 s I1 rr
        obtain ⟨v, t, rfl, x, y, _⟩ := rr
        have : t = [] := y
        subst this
        exact ⟨v, rfl, k v H1 F1 ⟨s, I1, fun _ w => Ev.wr e w, fun _ w => Ev.oa e w⟩ x⟩
      simp only [q, Out.one, Out.bnd] at h
      have e2 := EvO.ev (B := B) (Φ := Φ) b ρ1
      cases q2 : ev B Φ b ρ1 with
      | st => simp only [q2] at h; exact False.elim h
      | ex k ρ2 =>
        refine ⟨r0, s0, hr0, hs0, first fun v H1 F1 p x => ⟨ρ1, F1, p.rs, ?_⟩⟩
        simp only [q2] at h ⊢
        exact EQs.later (o := .ex k ρ2) h p
      | ok ss ρ2 =>
        rw [q2] at e2
        match ss, q2 with
        | [], q2 => simp only [q2] at h; exact False.elim h
        | x :: b :: rs, q2 => simp only [q2] at h; exact False.elim h
        | [rb], q2 =>
          simp only [q2] at h
          cases hd : dr ρ2 ra with
          | none => rw [hd] at h; exact False.elim h
          | some d =>
            cases hd2 : dr ρ2 rb with
            | none => rw [hd, hd2] at h; exact False.elim h
            | some d2 =>
              rw [hd, hd2] at h
              dsimp only at h
              cases hk : cmpD o1 d d2 with
              | none => rw [hk] at h; exact False.elim h
              | some k1 =>
                rw [hk] at h
                obtain ⟨r, hr, rule⟩ := rule_cmp (Z := Z) hZ hu o1 d d2 k1 hk
                have sec : ∀ {r' : R2}, (∀ v y H2 F2, Pt Z σ ρ F H ρ2 F2 H2 → RepR Z H F2 H2 σ rb y → (if k1 = true then t1 Z W (ev B Φ c) σ H2 fun w' H4 => r' y w' H4 Q else Q (.bl false) H2)) →
                    tChain r r' (t1 Z W (ev B Φ a)) (t1 Z W (ev B Φ b)) (t1 Z W (ev B Φ c)) σ H Q := fun k => by
                  refine first fun v H1 F1 p x => ⟨ρ1, F1, p.rs, ?_⟩
                  rw [q2]
                  intro vs H2 F2 s I2 rr
                  obtain ⟨y, t, rfl, z, z2, _⟩ := rr
                  have : t = [] := z2
                  subst this
                  have p2 : Pt Z σ ρ1 F1 H1 ρ2 F2 H2 := ⟨s, I2, fun _ w => Ev.wr e2 w, fun _ w => Ev.oa e2 w⟩
                  have x2 : RepR Z H F2 H2 σ ra v := x.later p.rs s fun c w => (I.wr_nf (p.sub c w)).2
                  have z3 : RepR Z H F2 H2 σ rb y := z.from p.st.dead
                  exact ⟨y, rfl, rule F2 H2 v y _ (x2.read I2 hd) (z.read I2 hd2) ⟨k1, rfl, k v y H2 F2 (p.trans p2) z3⟩⟩
                cases k1 with
                | false =>
                  dsimp only at h
                  refine ⟨r, s0, hr, hs0, sec fun v y H2 F2 p z => ?_⟩
                  rw [if_neg (by simp)]
                  exact fin_v (EQs.later h p) p.rs (by simp [Rep])
                | true =>
                  dsimp only at h
                  have e3 := EvO.ev (B := B) (Φ := Φ) c ρ2
                  cases q3 : ev B Φ c ρ2 with
                  | st => simp only [q3] at h; exact False.elim h
                  | ex k ρ3 =>
                    refine ⟨r, s0, hr, hs0, sec fun v y H2 F2 p z => ?_⟩
                    rw [if_pos rfl]
                    refine ⟨ρ2, F2, p.rs, ?_⟩
                    simp only [q3] at h ⊢
                    exact EQs.later (o := .ex k ρ3) h p
                  | ok ts ρ3 =>
                    rw [q3] at e3
                    match ts, q3 with
                    | [], q3 => simp only [q3] at h; exact False.elim h
                    | x :: b :: rs, q3 => simp only [q3] at h; exact False.elim h
                    | [rc], q3 =>
                      simp only [q3] at h
                      cases hd3 : dr ρ3 rb with
                      | none => rw [hd3] at h; exact False.elim h
                      | some d3 =>
                        cases hd4 : dr ρ3 rc with
                        | none => rw [hd3, hd4] at h; exact False.elim h
                        | some d4 =>
                          rw [hd3, hd4] at h
                          dsimp only at h
                          cases hk2 : cmpD o2 d3 d4 with
                          | none => rw [hk2] at h; exact False.elim h
                          | some k2 =>
                            rw [hk2] at h
                            obtain ⟨r', hr', rule'⟩ := rule_cmp (Z := Z) hZ hu o2 d3 d4 k2 hk2
                            refine ⟨r, r', hr, hr', sec fun v y H2 F2 p z => ?_⟩
                            rw [if_pos rfl]
                            refine ⟨ρ2, F2, p.rs, ?_⟩
                            rw [q3]
                            intro vs H3 F3 s I3 rr
                            obtain ⟨w', t, rfl, u, u2, _⟩ := rr
                            have : t = [] := u2
                            subst this
                            have p3 : Pt Z σ ρ2 F2 H2 ρ3 F3 H3 := ⟨s, I3, fun _ w => Ev.wr e3 w, fun _ w => Ev.oa e3 w⟩
                            have z2 : RepR Z H F3 H3 σ rb y := z.later p.rs s fun c w => (I.wr_nf (p.sub c w)).2
                            exact ⟨w', rfl, rule' F3 H3 y w' Q (z2.read I3 hd3) (u.read I3 hd4) (fin_v (EQs.later h (p.trans p3)) I3 (by simp [Rep]))⟩
theorem ze_chain (hZ : Z.K = X.K) (hu : X.A.units + 200 < cLine) {o1 o2 : COp} {a b c : E} {ea eb ec : Expr} {pos : Pos} (ha : PE X ea (t1 Z W (ev B Φ a))) (hb : PE X eb (t1 Z W (ev B Φ b))) (hc : PE X ec (t1 Z W (ev B Φ c))) (hm : behindInMarks (cop o2) ec = false) :
    PE X (.Compare ea [cop o1, cop o2] [eb, ec] pos) (t1 Z W (ev B Φ (.cmp2 o1 o2 a b c))) :=
  PE.of fun σ H Q h => let ⟨r, r', hr, hr', q⟩ := chain_core hZ hu h; ⟨_, pe_chain hr hr' ha hb hc hm, q⟩
theorem zt_chain (hZ : Z.K = X.K) (hu : X.A.units + 200 < cLine) {o1 o2 : COp} {a b c : E} {ea eb ec : Expr} {pos : Pos} (ha : PE X ea (t1 Z W (ev B Φ a))) (hb : PE X eb (t1 Z W (ev B Φ b))) (hc : PE X ec (t1 Z W (ev B Φ c))) (hm : behindInMarks (cop o2) ec = false) :
    PT X (.Compare ea [cop o1, cop o2] [eb, ec] pos) (tT Z W (ev B Φ (.cmp2 o1 o2 a b c))) :=
  PT.of fun σ H Q h => let ⟨r, r', hr, hr', q⟩ := chain_core hZ hu (tT_t1 h); ⟨_, pt_chain hr hr' ha hb hc hm, q⟩
end
end Z

namespace Z
open PySem L2
section
variable {Z : Cd} {W : WX} {B : Tb} {Φ : CallF} {X : Cx} {F : Addr → Prop} {H : Hp} {σ : L2.St} {ρ : Env}
/-! x[::-1], x a list or a text -/
namespace ZV
open PySem PySem.Spec PyProof.Rows L2
theorem rev_ix (z : Str) : (Builtin.Str.strSliceIndices none none (-1) z.length).filterMap (z.cps[·]?) = z.cps.toList.reverse := by
  have e : Builtin.Str.strSliceIndices none none (-1) z.length = (List.range z.cps.size).map fun k => z.cps.size - 1 - k := PySem.W.krv_sliceRange z.cps.size
  rw [e, PySem.W.krv_range, List.filterMap_reverse, PySem.W.krv_all]
def tRevA (K : PySem.W.Frag) (te : TE) : TE := fun σ H Q => te σ H fun x H1 => (∃ a xs, x = .ref a ∧ SqL K H1 a xs ∧ ∀ p, H1 p = none → Q (.ref p) (upd H1 p (.lst xs.reverse))) ∨ ∃ z : Str, x = .str z ∧ z.cps.size ≤ sizeLine ∧ Q (.str ⟨z.cps.toList.reverse.toArray⟩) H1
variable {X : Cx}
theorem pe_revA {e : Expr} {te : TE} {k : Nat} {p1 p2 p3 pos : Pos} (he : PE X e te) : PE X (.Subscript e (.Slice none none (some (.UnaryOp .USub (.Constant (.int 1) k p1) p2)) p3) pos) (tRevA X.K te) := by
  refine ⟨fun pins s σ H Q I h => ?_⟩
  refine Subscript_ (thn (he.run pins s σ H _ I h) fun v s1 ⟨x, H1, I1, r1, q1⟩ => ?_)
  have hst : PO X (some (.UnaryOp .USub (.Constant (.int 1) k p1) p2)) (tPart (tUn (rU fun i => .int (-i)) (tC (.int 1)))) := po_some (pe_un un_neg pe_int)
  refine wpAny_Slice (thn (po_none.run pins s1 σ H1 (fun o H2 => o = none ∧ H2 = H1) I1 ⟨rfl, rfl⟩) fun vl s2 ⟨l, H2, I2, pl, el, e2⟩ => ?_)
  subst el e2
  refine thn (po_none.run pins s2 σ H2 (fun o H3 => o = none ∧ H3 = H2) I2 ⟨rfl, rfl⟩) fun vu s3 ⟨u, H3, I3, pu, eu, e3⟩ => ?_
  subst eu e3
  refine thn (hst.run pins s3 σ H3 (fun o H4 => o = some (-1) ∧ H4 = H3) I3 ⟨1, rfl, -1, rfl, rfl, rfl⟩) fun vs s4 ⟨o, H4, I4, ps, eo, e4⟩ => ?_
  subst eo e4
  have I5 : Inv X pins σ H4 { s4 with heap := s4.heap.push { cls := .type "slice", data := .fields #[vl, vu, vs] } } := I4.kept (t' := s4.toks) fun b ob q => Heap.get?_push_of_some _ q
  rcases q1 with ⟨a, xs, ex, hx, q⟩ | ⟨z, ex, hz, q⟩
  · subst ex
    cases r1
    obtain ⟨its, r, ht, hz⟩ := I5.list hx
    have hlen := r.length
    show wpAny (model X.prog X.w) X.A (subscriptTail e (.Slice none none (some (.UnaryOp .USub (.Constant (.int 1) k p1) p2)) p3) (.ref a) (.ref s4.heap.objs.size)) (EP X pins σ Q) X.xe { s4 with heap := s4.heap.push { cls := .type "slice", data := .fields #[vl, vu, vs] } }
    refine tail_any (ops := [.ref a, .ref s4.heap.objs.size]) ht.isList.typeIs (PySem.slot_list_getitem.lookup) ?_ (by with_unfolding_all rfl)
    refine wpAny_getItem_list_slice ht.isList (Heap.IsSliceOf.new _ vl vu vs) pl pu ps (by decide) ?_ (by rw [List.size_toArray]; omega)
    rw [PySem.W.krv_pick]
    refine ⟨.ref _, _, I5.laid (t' := s4.toks) (o := .lst xs.reverse) (fun b ob q => Heap.get?_push_of_some _ q) (Nat.le_refl _) ?_, rfl, q _ (I5.hok.fresh (Nat.le_refl _))⟩
    exact ⟨by rw [List.length_reverse]; exact hz, _, 0, r.reverse, Heap.get?_push_size _ rfl⟩
  · subst ex
    obtain ⟨t, rfl⟩ := r1
    show wpAny (model X.prog X.w) X.A (subscriptTail e (.Slice none none (some (.UnaryOp .USub (.Constant (.int 1) k p1) p2)) p3) (.str z t) (.ref s4.heap.objs.size)) (EP X pins σ Q) X.xe { s4 with heap := s4.heap.push { cls := .type "slice", data := .fields #[vl, vu, vs] } }
    obtain ⟨l', rfl, e1⟩ := IsPart.raw pl
    obtain ⟨u', rfl, e2⟩ := IsPart.raw pu
    obtain ⟨st', rfl, e3⟩ := IsPart.raw ps
    have el : l' = none := by cases l' with
      | none => rfl
      | some _ => cases e1
    have eu : u' = none := by cases u' with
      | none => rfl
      | some _ => cases e2
    have es : ∃ tk, st' = some (-1, tk) := by
      cases st' with
      | none => cases e3
      | some p =>
        obtain ⟨i, tk⟩ := p
        have : i = -1 := by simpa using e3
        exact ⟨tk, by rw [this]⟩
    obtain ⟨tk, es⟩ := es
    subst el eu es
    refine tail_any (ops := [.str z t, .ref s4.heap.objs.size]) (typeIs_str _ _ _) (F.slot_str_getitem.lookup) ?_ (by with_unfolding_all rfl)
    refine wpAny_getItem_str_slice (l := none) (u := none) (st := some (-1, tk)) ⟨_, Heap.get?_push_size _ rfl, rfl, rfl⟩ (show ((-1 : Int) == 0) = false by decide) ?_
    show Made.post (if ((-1 : Int) == 1 && (Builtin.Str.strSliceIndices none none (-1) z.length).length == z.length) = true then Made.val (.str z t)
      else Made.str ⟨((Builtin.Str.strSliceIndices none none (-1) z.length).filterMap (z.cps[·]?)).toArray⟩) (EP X pins σ Q) _
    rw [if_neg (by simp), rev_ix]
    have hl : (⟨z.cps.toList.reverse.toArray⟩ : Str).length ≤ sizeLine := by
      show z.cps.toList.reverse.toArray.size ≤ sizeLine
      simpa using hz
    first
    | exact ⟨by omega, ⟨.str _, H4, I5.tok _, ⟨_, rfl⟩, q⟩⟩
    | exact ⟨hl, .str _, H4, I5.tok _, ⟨_, rfl⟩, q⟩
    | exact ⟨.str _, H4, I5.tok _, ⟨_, rfl⟩, q⟩
    | skip
end ZV
/-! ### truths -/
theorem EQs.tru {o : Out (List R)} {f : Bool → Env → Out (List R)} {Q : List V → Hp → Prop} {P : V → Hp → Prop} (h : EQs Z W F H σ ρ (trw o f) Q) (I : RS Z F H σ ρ) (ev : EvO ρ o)
    (k : ∀ b ρ1 H1 F1, Pt Z σ ρ F H ρ1 F1 H1 → EQs Z W F H σ ρ (f b ρ1) Q → P (.bl b) H1) : EQs Z W F H σ ρ o (fun vs H1 => ∃ v, vs = [v] ∧ P v H1) := by
  refine EQs.one h I ev fun r ρ1 v H1 F1 _ p x q => ?_
  split at q
  · rename_i b _
    have : v = .bl b := by simpa [RepR, Rep] using x
    subst this
    exact k b ρ1 H1 F1 p q
  · exact q.elim
theorem EQs.test {o : Out (List R)} {f : Bool → Env → Out (List R)} {Q : List V → Hp → Prop} {P : Bool → Hp → Prop} (h : EQs Z W F H σ ρ (trw o f) Q) (I : RS Z F H σ ρ) (ev : EvO ρ o)
    (k : ∀ b ρ1 H1 F1, Pt Z σ ρ F H ρ1 F1 H1 → EQs Z W F H σ ρ (f b ρ1) Q → P b H1) : EQs Z W F H σ ρ o (fun vs H1 => ∃ b, vs = [.bl b] ∧ P b H1) := by
  have q := EQs.tru (P := fun v H1 => ∃ b, v = .bl b ∧ P b H1) h I ev fun b ρ1 H1 F1 p q => ⟨b, rfl, k b ρ1 H1 F1 p q⟩
  cases o with
  | ok rs ρ1 =>
    intro vs H1 F1 s I1 r
    obtain ⟨v, e, b, e2, q⟩ := q vs H1 F1 s I1 r
    exact ⟨b, by rw [e, e2], q⟩
  | ex c ρ1 => exact q
  | st => exact q
theorem ze_not {a : E} {ea : Expr} {pos : Pos} (ha : PE X ea (t1 Z W (ev B Φ a))) : PE X (.UnaryOp .Not ea pos) (t1 Z W (ev B Φ (.nt a))) :=
  PE.weak (pe_not ha) fun σ H Q ⟨ρ, F, I, h⟩ => ⟨ρ, F, I, EQs.tru h I (EvO.ev a ρ) fun b ρ1 H1 F1 p q => ⟨b, rfl, fin_v (EQs.later q p) p.rs (by simp [Rep])⟩⟩
theorem zt_not {a : E} {ea : Expr} {pos : Pos} (ha : PT X ea (tT Z W (ev B Φ a))) : PT X (.UnaryOp .Not ea pos) (tT Z W (ev B Φ (.nt a))) :=
  PT.weak (pt_not ha) fun σ H Q ⟨ρ, F, I, h⟩ => ⟨ρ, F, I, EQs.test h I (EvO.ev a ρ) fun b ρ1 H1 F1 p q => by
    obtain ⟨c, e, z⟩ := EQs.val (EQs.later q p) (.refl p.rs) (d := .bl (!b)) (v := .bl (!b)) (by simp [Rep])
    cases e
    exact z⟩
theorem ze_and {a b : E} {ea eb : Expr} {rest : List Expr} {pos : Pos} (ha : PE X ea (t1 Z W (ev B Φ a))) (hb : PE X (.BoolOp .And (eb :: rest) pos) (t1 Z W (ev B Φ b))) : PE X (.BoolOp .And (ea :: eb :: rest) pos) (t1 Z W (ev B Φ (.and a b))) :=
  PE.weak (pe_and ha hb) fun σ H Q ⟨ρ, F, I, h⟩ => ⟨ρ, F, I, EQs.tru h I (EvO.ev a ρ) fun k ρ1 H1 F1 p q => ⟨k, rfl, by
    cases k with
    | true => exact ⟨ρ1, F1, p.rs, EQs.later q p⟩
    | false => exact fin_v (EQs.later q p) p.rs (by simp [Rep])⟩⟩
theorem ze_or {a b : E} {ea eb : Expr} {rest : List Expr} {pos : Pos} (ha : PE X ea (t1 Z W (ev B Φ a))) (hb : PE X (.BoolOp .Or (eb :: rest) pos) (t1 Z W (ev B Φ b))) : PE X (.BoolOp .Or (ea :: eb :: rest) pos) (t1 Z W (ev B Φ (.or a b))) :=
  PE.weak (pe_or ha hb) fun σ H Q ⟨ρ, F, I, h⟩ => ⟨ρ, F, I, EQs.tru h I (EvO.ev a ρ) fun k ρ1 H1 F1 p q => ⟨k, rfl, by
    cases k with
    | false => exact ⟨ρ1, F1, p.rs, EQs.later q p⟩
    | true => exact fin_v (EQs.later q p) p.rs (by simp [Rep])⟩⟩
theorem fin_t {b : Bool} {Q : Bool → Hp → Prop} (h : EQs Z W F H σ ρ (.ok [.v (.bl b)] ρ) (fun vs H' => ∃ b, vs = [.bl b] ∧ Q b H')) (I : RS Z F H σ ρ) : Q b H := by
  obtain ⟨c, e, z⟩ := EQs.val h (.refl I) (d := .bl b) (v := .bl b) (by simp [Rep])
  cases e
  exact z
theorem zw_and {a b : E} {ea eb : Expr} {rest : List Expr} {pos : Pos} (ha : PT X ea (tT Z W (ev B Φ a))) (hb : PW X (.BoolOp .And (eb :: rest) pos) (tT Z W (ev B Φ b))) : PW X (.BoolOp .And (ea :: eb :: rest) pos) (tT Z W (ev B Φ (.and a b))) :=
  PW.weak (pw_and ha hb) fun σ H Q ⟨ρ, F, I, h⟩ => ⟨ρ, F, I, EQs.test h I (EvO.ev a ρ) fun k ρ1 H1 F1 p q => by
    cases k with
    | true => exact ⟨ρ1, F1, p.rs, EQs.later q p⟩
    | false => exact fin_t (EQs.later q p) p.rs⟩
theorem zw_or {a b : E} {ea eb : Expr} {rest : List Expr} {pos : Pos} (ha : PT X ea (tT Z W (ev B Φ a))) (hb : PW X (.BoolOp .Or (eb :: rest) pos) (tT Z W (ev B Φ b))) : PW X (.BoolOp .Or (ea :: eb :: rest) pos) (tT Z W (ev B Φ (.or a b))) :=
  PW.weak (pw_or ha hb) fun σ H Q ⟨ρ, F, I, h⟩ => ⟨ρ, F, I, EQs.test h I (EvO.ev a ρ) fun k ρ1 H1 F1 p q => by
    cases k with
    | false => exact ⟨ρ1, F1, p.rs, EQs.later q p⟩
    | true => exact fin_t (EQs.later q p) p.rs⟩
theorem ze_ite {a b c : E} {ea eb ec : Expr} {pos : Pos} (hc : PT X ec (tT Z W (ev B Φ c))) (ha : PE X ea (t1 Z W (ev B Φ a))) (hb : PE X eb (t1 Z W (ev B Φ b))) : PE X (.IfExp ec ea eb pos) (t1 Z W (ev B Φ (.ite c a b))) :=
  PE.weak (pe_ifExp hc ha hb) fun σ H Q ⟨ρ, F, I, h⟩ => ⟨ρ, F, I, EQs.test h I (EvO.ev c ρ) fun k ρ1 H1 F1 p q => by
    cases k with
    | false => exact ⟨ρ1, F1, p.rs, EQs.later q p⟩
    | true => exact ⟨ρ1, F1, p.rs, EQs.later q p⟩⟩
/-! ### rows of arguments -/
theorem za_nil : PA X [] (tA Z W (ev B Φ .nil)) :=
  PA.weak pa_nil fun σ H Q ⟨ρ, F, I, h⟩ => h [] H F .refl I rfl
theorem za_cons {a as : E} {ea : Expr} {es : List Expr} (ha : PE X ea (t1 Z W (ev B Φ a))) (hr : PA X es (tA Z W (ev B Φ as))) (hs : starEach (ea :: es) X.env = (false, eval ea X.env) :: starEach es X.env) : PA X (ea :: es) (tA Z W (ev B Φ (.cons a as))) := by
  refine PA.weak (pa_cons ha hr hs) fun σ H Q ⟨ρ, F, I, h⟩ => ⟨ρ, F, I, ?_⟩
  unfold ev at h
  refine EQs.one h I (EvO.ev a ρ) fun r ρ1 v H1 F1 _ p x q => ?_
  refine ⟨ρ1, F1, p.rs, ?_⟩
  cases e : ev B Φ as ρ1 with
  | st => rw [e] at q; exact q
  | ex c ρ2 => rw [e] at q; exact EQs.later (o := .ex c ρ2) q p
  | ok rs ρ2 =>
    rw [e] at q
    intro vs H2 F2 s I2 y
    have x2 : RepR Z H F2 H2 σ r v := x.later p.rs s fun c w => (I.wr_nf (p.sub c w)).2
    refine q (v :: vs) H2 F2 (p.st.trans s p.sub) I2 ⟨v, vs, rfl, x2, y.from p.st.dead, fun c e1 m => ?_⟩
    have n := oRs_mem y m
    cases r with
    | o w =>
      obtain ⟨d, rfl, z, _⟩ := x
      cases e1
      exact z.tr n
    | v d => cases e1
    | w i => cases e1
/-- a literal of values -/
theorem ze_tup {as : E} {es : List Expr} {k : Nat} {pos : Pos} (ha : PA X es (tA Z W (ev B Φ as))) (hl : ∀ ρ rs ρ1, ev B Φ as ρ = .ok rs ρ1 → rs.length ≤ sizeLine) : PE X (.Tuple es k pos) (t1 Z W (ev B Φ (.tup as))) :=
  PE.weak (pe_tup ha) fun σ H Q ⟨ρ, F, I, h⟩ => ⟨ρ, F, I, EQs.bnd h I (EvO.ev as ρ) fun rs ρ1 vs H1 F1 e p x q => by
    refine ⟨by rw [x.len]; exact hl _ _ _ e, fun a ha => ?_⟩
    split at q
    · rename_i ds ρ2 e2
      obtain ⟨F2, p2, y, _⟩ := RepRs.froz (Fz.of I p) x e2
      exact W1.out (EQs.tup q p2.toPt y ha)
    · exact q.elim⟩
theorem ze_lst {as : E} {es : List Expr} {pos : Pos} (ha : PA X es (tA Z W (ev B Φ as))) (hl : ∀ ρ rs ρ1, ev B Φ as ρ = .ok rs ρ1 → rs.length ≤ sizeLine) : PE X (.List es pos) (t1 Z W (ev B Φ (.lst as))) :=
  PE.weak (pe_lst ha) fun σ H Q ⟨ρ, F, I, h⟩ => ⟨ρ, F, I, EQs.bnd h I (EvO.ev as ρ) fun rs ρ1 vs H1 F1 e p x q => by
    refine ⟨by rw [x.len]; exact hl _ _ _ e, fun a ha => ?_⟩
    split at q
    · rename_i ds ρ2 e2
      obtain ⟨F2, p2, y, _⟩ := RepRs.froz (Fz.of I p) x e2
      exact W1.out (EQs.lst q p2.toPt y ha)
    · exact q.elim⟩
/-- the length of an argument row -/
def aLen : E → Nat
  | .cons _ as => aLen as + 1
  | _ => 0
def isRow : E → Bool
  | .nil => true
  | .cons _ as => isRow as
  | _ => false
theorem row_len : ∀ {as : E} {ρ : Env} {rs : List R} {ρ1 : Env}, isRow as = true → ev B Φ as ρ = .ok rs ρ1 → rs.length = aLen as
  | .nil, ρ, rs, ρ1, _, e => by
    simp only [ev] at e
    cases e; rfl
  | .cons a as, ρ, rs, ρ1, h, e => by
    unfold ev at e
    unfold Out.one at e
    cases q : ev B Φ a ρ with
    | st => rw [q] at e; cases e
    | ex c ρ2 => rw [q] at e; cases e
    | ok xs ρ2 =>
      rw [q] at e
      match xs, e with
      | [], e => cases e
      | _ :: _ :: _, e => cases e
      | [x], e =>
        simp only [Out.bnd] at e
        cases q2 : ev B Φ as ρ2 with
        | st => rw [q2] at e; cases e
        | ex c ρ3 => rw [q2] at e; cases e
        | ok ys ρ3 =>
          rw [q2] at e
          cases e
          have := row_len (as := as) (by simpa [isRow] using h) q2
          simp [aLen, this]
theorem row_ok {as : E} (h : isRow as = true) (n : aLen as ≤ sizeLine) (ρ : Env) (rs : List R) (ρ1 : Env) (e : ev B Φ as ρ = .ok rs ρ1) : rs.length ≤ sizeLine := by
  rw [row_len h e]; exact n
/-! ### subscripts -/
theorem atI_rep {ds : List D} {vs : List V} {i : Int} {d : D} (r : RepA Z F H ds vs) (e : atI ds i = some d) : ∃ v, atI vs i = some v ∧ Rep Z F H d v := by
  unfold atI at e ⊢
  rw [← r.len]
  cases q : ixN ds.length i with
  | none => rw [q] at e; cases e
  | some j =>
    rw [q] at e
    exact r.get (i := j) e
theorem rule_idx (hZ : Z.K = X.K) : ∀ d e res, ((idxD d e).map R.v) = some res → ∃ r, IxR X r ∧ ∀ F H σ ρ x y Q, RS Z F H σ ρ → RepT Z F H d x → RepT Z F H e y → EQs Z W F H σ ρ (.ok [res] ρ) (W1 Q) → r x y H Q := by
  intro d e res h
  obtain ⟨g, hg, rfl⟩ := Option.map_eq_some_iff.mp h
  unfold idxD at hg
  split at hg
  · rename_i xs i
    refine ⟨_, ix_list, fun F H σ ρ x y Q I hx hy q => ?_⟩
    obtain ⟨a, vs, rfl, t, r⟩ := hx
    obtain ⟨v, e1, e2⟩ := atI_rep r hg
    exact ⟨a, vs, i, v, rfl, hy, hZ ▸ t, e1, fin_v q I e2⟩
  · rename_i xs i
    refine ⟨_, ix_tup, fun F H σ ρ x y Q I hx hy q => ?_⟩
    simp only [RepT, Rep] at hx
    obtain ⟨a, vs, rfl, t, r⟩ := hx
    obtain ⟨v, e1, e2⟩ := atI_rep r hg
    exact ⟨a, vs, i, v, rfl, hy, hZ ▸ t.sq, e1, fin_v q I e2⟩
  · rename_i x i
    split at hg
    · rename_i hl
      obtain ⟨c, e1, rfl⟩ := Option.map_eq_some_iff.mp hg
      refine ⟨_, ix_str, fun F H σ ρ x' y Q I hx hy q => ?_⟩
      refine ⟨⟨x.toArray⟩, i, c, hx, hy, ?_, ?_, ?_⟩
      · rw [str_len, sizeLim]; exact hl
      · simpa using e1
      · exact fin_v q I (by simp [Rep])
    · cases hg
  · cases hg
theorem ze_idx (hZ : Z.K = X.K) {a b : E} {ea eb : Expr} {pos : Pos} (ha : PE X ea (t1 Z W (ev B Φ a))) (hb : PE X eb (t1 Z W (ev B Φ b))) (hs : PlainIx eb) : PE X (.Subscript ea eb pos) (t1 Z W (ev B Φ (.idx a b))) :=
  PE.of fun σ H Q h => let ⟨r, hr, q⟩ := core2 (EvO.ev a) (EvO.ev b) ⟨_, ix_list⟩ (rule_idx hZ) h; ⟨_, pe_ix hr ha hb hs, q⟩
/-! ### slices -/
def EQo (Z : Cd) (W : WX) (F : Addr → Prop) (H : Hp) (σ : L2.St) (ρ : Env) (o : Out (Option Int)) (Q : Option Int → Hp → Prop) : Prop := match o with
  | .ok l ρ' => ∀ H' F', Step σ ρ F H F' H' → RS Z F' H' σ ρ' → Q l H'
  | .ex c ρ' => ∀ H' F', Step σ ρ F H F' H' → RS Z F' H' σ ρ' → W (.ref (Z.cA c)) none σ H'
  | .st => False
def tO (Z : Cd) (W : WX) (f : Env → Out (Option Int)) : TO := fun σ H Q => ∃ ρ F, RS Z F H σ ρ ∧ EQo Z W F H σ ρ (f ρ) Q
theorem PO.weak {X : Cx} {e : Option Expr} {t t' : TO} (h : PO X e t) (w : ∀ σ H Q, t' σ H Q → t σ H Q) : PO X e t' := ⟨fun pins s σ H Q I q => h.run pins s σ H Q I (w σ H Q q)⟩
theorem zo_none {lo : E} (h : lo.isNil = true) : PO X none (tO Z W (fun ρ => partI lo.isNil (ev B Φ lo ρ) ρ)) :=
  PO.weak po_none fun σ H Q ⟨ρ, F, I, q⟩ => by
    simp only [partI, h, if_true] at q
    exact q H F .refl I
theorem zo_some {lo : E} {e : Expr} (h : lo.isNil = false) (he : PE X e (t1 Z W (ev B Φ lo))) : PO X (some e) (tO Z W (fun ρ => partI lo.isNil (ev B Φ lo ρ) ρ)) :=
  PO.weak (po_some he) fun σ H Q ⟨ρ, F, I, q⟩ => ⟨ρ, F, I, by
    simp only [partI, h] at q
    have ee := EvO.ev (B := B) (Φ := Φ) lo ρ
    cases e1 : ev B Φ lo ρ with
    | st => rw [e1] at q; exact q
    | ex c ρ1 => rw [e1] at q; exact q
    | ok rs ρ1 =>
      rw [e1] at q
      match rs, q with
      | [], q => exact q.elim
      | _ :: _ :: _, q => exact q.elim
      | [r], q =>
        intro vs H1 F1 s I1 rr
        obtain ⟨v, t, rfl, x, y, _⟩ := rr
        have : t = [] := y
        subst this
        refine ⟨v, rfl, ?_⟩
        cases r with
        | v d =>
          cases d with
          | int i => exact ⟨i, by simpa [RepR, Rep] using x, q H1 F1 s I1⟩
          | _ => exact False.elim q
        | o w => exact False.elim q
        | w i => exact False.elim q⟩
theorem cutV_rep {ds : List D} {vs : List V} (lo hi : Option Int) (r : RepA Z F H ds vs) : RepA Z F H (cutD ds lo hi) (cutV vs lo hi) := by
  unfold cutD cutV
  rw [← r.len]
  exact (r.drop_ _).take_ _
theorem cut_whole {α : Type} {xs : List α} {lo hi : Option Int} (h : HT.sIx xs.length 0 lo = 0 ∧ HT.sIx xs.length xs.length hi = xs.length) : cutD xs lo hi = xs := by
  unfold cutD
  rw [h.1, h.2]
  simp
theorem cutS_eq (x : List Nat) (lo hi : Option Int) : cutS ⟨x.toArray⟩ lo hi = ⟨(cutD x lo hi).toArray⟩ := by
  unfold cutS cutD
  rw [str_len]
def rSlAll (K : PySem.W.Frag) : V → Option Int → Option Int → Hp → VK → Prop := fun x lo hi H Q => rSlL K x lo hi H Q ∨ rSlA K x lo hi H Q ∨ rSlS x lo hi H Q
theorem sl_all : SlR X (rSlAll X.K) := sl_list.or (sl_tupA.or sl_str)
theorem rule_sl (hZ : Z.K = X.K) {d : D} {lo hi : Option Int} {res : R} (h : slD d lo hi = some res) {x : V} {Q : VK} (I : RS Z F H σ ρ) (hx : RepT Z F H d x) (q : EQs Z W F H σ ρ (.ok [res] ρ) (W1 Q)) : rSlAll X.K x lo hi H Q := by
  unfold slD at h
  split at h
  · cases h
    obtain ⟨a, vs, rfl, t, r⟩ := hx
    exact .inl ⟨a, vs, rfl, hZ ▸ t, fun p hp => fin_lst q I (cutV_rep lo hi r) hp⟩
  · rename_i xs
    cases h
    simp only [RepT, Rep] at hx
    obtain ⟨a, vs, rfl, t, r⟩ := hx
    refine .inr (.inl ⟨a, vs, rfl, hZ ▸ t.sq, fun w => ?_, fun _ p hp => fin_tup q I (cutV_rep lo hi r) hp⟩)
    rw [← r.len] at w
    rw [cut_whole w] at q
    exact fin_v q I (by simp only [Rep]; exact ⟨a, vs, rfl, t, r⟩)
  · rename_i y
    split at h
    · rename_i hl
      cases h
      refine .inr (.inr ⟨⟨y.toArray⟩, hx, by rw [str_len, sizeLim]; exact hl, ?_⟩)
      rw [cutS_eq]
      exact fin_v q I (by simp [Rep])
    · cases h
  · cases h
theorem ev_part {lo : E} (ρ : Env) : EvO ρ (partI lo.isNil (ev B Φ lo ρ) ρ) := EvO.partI (EvO.ev lo ρ)
theorem ze_sl (hZ : Z.K = X.K) {a lo hi : E} {ea : Expr} {el eh : Option Expr} {p2 pos : Pos} (ha : PE X ea (t1 Z W (ev B Φ a))) (hl : PO X el (tO Z W (fun ρ => partI lo.isNil (ev B Φ lo ρ) ρ))) (hh : PO X eh (tO Z W (fun ρ => partI hi.isNil (ev B Φ hi ρ) ρ))) :
    PE X (.Subscript ea (.Slice el eh none p2) pos) (t1 Z W (ev B Φ (.sl a lo hi))) :=
  PE.weak (pe_slice sl_all ha hl hh) fun σ H Q ⟨ρ, F, I, h⟩ => ⟨ρ, F, I, by
    unfold ev at h
    refine EQs.one h I (EvO.ev a ρ) fun r ρ1 v H1 F1 _ p x q => ⟨ρ1, F1, p.rs, ?_⟩
    have n1 : ∀ c, Wr σ ρ1 c → H c ≠ none := fun c w => (I.wr_nf (p.sub c w)).2
    have e1 := ev_part (B := B) (Φ := Φ) (lo := lo) ρ1
    show EQo Z W F1 H1 σ ρ1 (partI lo.isNil (ev B Φ lo ρ1) ρ1) _
    cases q1 : partI lo.isNil (ev B Φ lo ρ1) ρ1 with
    | st => rw [q1] at q; exact q
    | ex c ρ2 => rw [q1] at q; exact EQs.later (o := .ex c ρ2) q p
    | ok l ρ2 =>
      rw [q1] at q e1
      intro H2 F2 s2 I2
      have p2 : Pt Z σ ρ1 F1 H1 ρ2 F2 H2 := ⟨s2, I2, fun _ w => Ev.wr e1 w, fun _ w => Ev.oa e1 w⟩
      have x2 : RepR Z H F2 H2 σ r v := x.later p.rs s2 n1
      refine ⟨ρ2, F2, I2, ?_⟩
      have e2 := ev_part (B := B) (Φ := Φ) (lo := hi) ρ2
      simp only [Out.bnd] at q
      show EQo Z W F2 H2 σ ρ2 (partI hi.isNil (ev B Φ hi ρ2) ρ2) _
      cases q2 : partI hi.isNil (ev B Φ hi ρ2) ρ2 with
      | st => rw [q2] at q; exact q
      | ex c ρ3 => rw [q2] at q; exact EQs.later (o := .ex c ρ3) q (p.trans p2)
      | ok u ρ3 =>
        rw [q2] at q e2
        intro H3 F3 s3 I3
        have p3 : Pt Z σ ρ2 F2 H2 ρ3 F3 H3 := ⟨s3, I3, fun _ w => Ev.wr e2 w, fun _ w => Ev.oa e2 w⟩
        have x3 : RepR Z H F3 H3 σ r v := x2.later I2 s3 fun c w => n1 c (p2.sub c w)
        simp only at q
        split at q
        · rename_i d hd
          cases hs : slD d l u with
          | none => rw [hs] at q; exact q.elim
          | some res =>
            rw [hs] at q
            exact rule_sl hZ hs I3 (x3.read I3 hd) (EQs.later q ((p.trans p2).trans p3))
        · exact q.elim⟩
theorem ze_revL (hZ : Z.K = X.K) {a : E} {ea : Expr} {k : Nat} {p1 p2 p3 pos : Pos} (ha : PE X ea (t1 Z W (ev B Φ a))) : PE X (.Subscript ea (.Slice none none (some (.UnaryOp .USub (.Constant (.int 1) k p1) p2)) p3) pos) (t1 Z W (ev B Φ (.rv a))) :=
  PE.weak (ZV.pe_revA ha) fun σ H Q h => by
    obtain ⟨r, e, q⟩ := core1 (OK := fun r => r = fun x H1 Q => (∃ a xs, x = .ref a ∧ SqL X.K H1 a xs ∧ ∀ p, H1 p = none → Q (.ref p) (upd H1 p (.lst xs.reverse))) ∨ ∃ z : Str, x = .str z ∧ z.cps.size ≤ sizeLine ∧ Q (.str ⟨z.cps.toList.reverse.toArray⟩) H1) (EvO.ev a) ⟨_, rfl⟩ (fun d res hk => ⟨_, rfl, fun F H σ ρ x Q I hx q => by
      split at hk
      · cases hk
        obtain ⟨b, vs, rfl, t, r⟩ := hx
        exact .inl ⟨b, vs, rfl, hZ ▸ t, fun p hp => fin_lst q I r.rev_ hp⟩
      · rename_i z
        by_cases hl : z.length ≤ lim
        · rw [if_pos hl] at hk
          cases hk
          have hx : x = .str ⟨z.toArray⟩ := hx
          exact .inr ⟨_, hx, by simpa [lim, sizeLine] using hl, fin_v q I (by simp [Rep])⟩
        · rw [if_neg hl] at hk
          cases hk
      · cases hk⟩) h
    subst e
    exact q
end
end Z

/-! statements -/
namespace Z
open PySem L2
def flg : Sl → Bool
  | .v _ f => f
  | .o _ f => f
  | .k _ f => f
  | .n _ _ => true
  | _ => false
/-- from the entry of a statement to a later state: what is told of the slots' own things -/
structure SC (σ : L2.St) (ρ : Env) (F : Addr → Prop) (H : Hp) (σ' : L2.St) (ρ' : Env) (F' : Addr → Prop) (H' : Hp) : Prop where
  st : Step σ ρ F H F' H'
  flag : ∀ i, flg (gt ρ' i) = true → flg (gt ρ i) = true ∧ sg σ' i = sg σ i
  own : ∀ i a, oa (sg σ' i) (gt ρ' i) = some a → flg (gt ρ' i) = false → H a = none ∨ ∃ j, oa (sg σ j) (gt ρ j) = some a ∧ flg (gt ρ j) = false
  sub : ∀ a, Wr σ' ρ' a → Wr σ ρ a ∨ H a = none
  kk : ∀ i w f, gt ρ' i = .k w f → gt ρ i = .k w f ∧ sg σ' i = sg σ i
  ln : σ'.length = σ.length
structure SS (Z : Cd) (σ : L2.St) (ρ : Env) (F : Addr → Prop) (H : Hp) (σ' : L2.St) (ρ' : Env) (F' : Addr → Prop) (H' : Hp) : Prop extends SC σ ρ F H σ' ρ' F' H' where
  rs : RS Z F' H' σ' ρ'
  ee : ∀ i c, gt ρ' i = .e c → gt ρ i = .e c
/-- what is wanted behind a statement's run -/
def SQs (Z : Cd) (W : WX) (F : Addr → Prop) (H : Hp) (σ : L2.St) (ρ : Env) (o : Out Fl) (D : Ends) : Prop := match o with
  | .ok .nx ρ' => ∀ σ' F' H', SS Z σ ρ F H σ' ρ' F' H' → D.nx σ' H'
  | .ok .cont ρ' => ∀ σ' F' H', SS Z σ ρ F H σ' ρ' F' H' → D.ct σ' H'
  | .ok .brk ρ' => ∀ σ' F' H', SS Z σ ρ F H σ' ρ' F' H' → D.bk σ' H'
  | .ok (.ret r) ρ' => ∀ σ' F' H' v, SS Z σ ρ F H σ' ρ' F' H' → RepR Z H F' H' σ' r v → D.rt v H'
  | .ex c ρ' => ∀ σ' F' H', SS Z σ ρ F H σ' ρ' F' H' → W (.ref (Z.cA c)) none σ' H'
  | .st => False
def tS (Z : Cd) (W : WX) (f : Env → Out Fl) : TS := fun D σ H => ∃ ρ F, RS Z F H σ ρ ∧ SQs Z W F H σ ρ (f ρ) D
section
variable {Z : Cd} {W : WX} {F F' F1 F2 : Addr → Prop} {H H' H1 H2 : Hp} {σ σ' σ1 σ2 : L2.St} {ρ ρ' ρ1 ρ2 : Env}
theorem SS.refl (I : RS Z F H σ ρ) : SS Z σ ρ F H σ ρ F H where
  rs := I
  st := .refl
  flag := fun i h => ⟨h, rfl⟩
  own := fun i a h n => .inr ⟨i, h, n⟩
  sub := fun a h => .inl h
  kk := fun i w f h => ⟨h, rfl⟩
  ln := rfl
  ee := fun i c h => h
theorem SS.dead (s : SS Z σ ρ F H σ1 ρ1 F1 H1) : ∀ a, H1 a = none → H a = none := s.st.dead
theorem SC.trans (a : SC σ ρ F H σ1 ρ1 F1 H1) (b : SC σ1 ρ1 F1 H1 σ2 ρ2 F2 H2) : SC σ ρ F H σ2 ρ2 F2 H2 where
  st := ⟨fun x o e n => b.st.keep x o (a.st.keep x o e n) fun w => (a.sub x w).elim n fun z => (by rw [z] at e; cases e),
    fun x h => b.st.live x (a.st.live x h), fun x h => b.st.fmo x (a.st.fmo x h), fun x h => by
      rcases b.st.fnew x h with q | q | q
      · exact a.st.fnew x q
      · exact .inr (.inl (a.st.dead x q))
      · exact (a.sub x q).elim (fun z => .inr (.inr z)) fun z => .inr (.inl z)⟩
  flag := fun i h => let ⟨h1, e1⟩ := b.flag i h; let ⟨h2, e2⟩ := a.flag i h1; ⟨h2, e1.trans e2⟩
  own := fun i x h n => by
    rcases b.own i x h n with q | ⟨j, q, m⟩
    · exact .inl (a.st.dead x q)
    · exact a.own j x q m
  sub := fun x h => (b.sub x h).elim (a.sub x) fun q => .inr (a.st.dead x q)
  kk := fun i w f h => let ⟨h1, e1⟩ := b.kk i w f h; let ⟨h2, e2⟩ := a.kk i w f h1; ⟨h2, e1.trans e2⟩
  ln := b.ln.trans a.ln
theorem SS.trans (a : SS Z σ ρ F H σ1 ρ1 F1 H1) (b : SS Z σ1 ρ1 F1 H1 σ2 ρ2 F2 H2) : SS Z σ ρ F H σ2 ρ2 F2 H2 := { a.toSC.trans b.toSC with rs := b.rs, ee := fun i c h => a.ee i c (b.ee i c h) }
theorem SlSt.flg {s t : Sl} (h : SlSt s t) (e : flg t = true) : flg s = true := by
  rcases h with rfl | ⟨w, f, rfl, ⟨w', rfl⟩ | ⟨d, rfl⟩ | rfl⟩
  · exact e
  · exact e
  · exact e
  · cases e
/-- a run of an expression -/
theorem SS.ofPt (p : Pt Z σ ρ F H ρ1 F1 H1) (e : Ev ρ ρ1) : SS Z σ ρ F H σ ρ1 F1 H1 where
  rs := p.rs
  st := p.st
  flag := fun i h => ⟨(e.at_ i).flg h, rfl⟩
  own := fun i a h n => by
    rcases e.at_ i with q | ⟨w, f, q, b⟩
    · rw [q] at h n
      exact .inr ⟨i, h, n⟩
    · rcases b with ⟨w', b⟩ | ⟨d, b⟩ | b
      · rw [b] at h n
        refine .inr ⟨i, ?_, by rw [q]; exact n⟩
        rw [q]
        exact oa_o.mpr (oa_o.mp h)
      · rw [b] at h
        exact absurd h oa_v
      · rw [b] at h
        exact absurd h oa_u
  sub := fun a h => .inl (p.sub a h)
  kk := fun i w f h => by
    rcases e.at_ i with q | ⟨w2, f2, q, b⟩
    · exact ⟨by rw [← q]; exact h, rfl⟩
    · rcases b with ⟨w', b⟩ | ⟨d, b⟩ | b <;> rw [b] at h <;> cases h
  ln := rfl
  ee := fun i c h => by
    rcases e.at_ i with q | ⟨w2, f2, q, b⟩
    · rw [← q]; exact h
    · rcases b with ⟨w', b⟩ | ⟨d, b⟩ | b <;> rw [b] at h <;> cases h
theorem SQs.later {o : Out Fl} {D : Ends} (h : SQs Z W F H σ ρ o D) (x : SS Z σ ρ F H σ1 ρ1 F1 H1) : SQs Z W F1 H1 σ1 ρ1 o D := by
  cases o with
  | ok r ρ' =>
    cases r with
    | nx => exact fun σ' F' H' s => h σ' F' H' (x.trans s)
    | cont => exact fun σ' F' H' s => h σ' F' H' (x.trans s)
    | brk => exact fun σ' F' H' s => h σ' F' H' (x.trans s)
    | ret r => exact fun σ' F' H' v s q => h σ' F' H' v (x.trans s) (q.from x.dead)
  | ex c ρ' => exact fun σ' F' H' s => h σ' F' H' (x.trans s)
  | st => exact h
theorem SQs.one {o : Out (List R)} {g : R → Env → Out Fl} {D : Ends} {P : V → Hp → Prop} (h : SQs Z W F H σ ρ (o.one g) D) (I : RS Z F H σ ρ) (ev : EvO ρ o)
    (k : ∀ r ρ1 v H1 F1, o = .ok [r] ρ1 → Pt Z σ ρ F H ρ1 F1 H1 → Ev ρ ρ1 → RepR Z H F1 H1 σ r v → SQs Z W F H σ ρ (g r ρ1) D → P v H1) : EQs Z W F H σ ρ o (fun vs H1 => ∃ v, vs = [v] ∧ P v H1) := by
  cases o with
  | st => exact h
  | ex c ρ1 =>
    intro H' F' s I'
    exact h σ F' H' (.ofPt ⟨s, I', fun a q => Ev.wr ev q, fun a q => Ev.oa ev q⟩ ev)
  | ok rs ρ1 =>
    match rs, h with
    | [], h => exact h.elim
    | _ :: _ :: _, h => exact h.elim
    | [r], h =>
      intro vs H' F' s I' rr
      obtain ⟨v, t, rfl, x, y, _⟩ := rr
      have : t = [] := y
      subst this
      exact ⟨v, rfl, k r ρ1 v H' F' rfl ⟨s, I', fun a q => Ev.wr ev q, fun a q => Ev.oa ev q⟩ ev x h⟩
theorem SQs.bnd {o : Out (List R)} {g : List R → Env → Out Fl} {D : Ends} {P : List V → Hp → Prop} (h : SQs Z W F H σ ρ (o.bnd g) D) (I : RS Z F H σ ρ) (ev : EvO ρ o)
    (k : ∀ rs ρ1 vs H1 F1, o = .ok rs ρ1 → Pt Z σ ρ F H ρ1 F1 H1 → Ev ρ ρ1 → RepRs Z H F1 H1 σ rs vs → SQs Z W F H σ ρ (g rs ρ1) D → P vs H1) : EQs Z W F H σ ρ o P := by
  cases o with
  | st => exact h
  | ex c ρ1 =>
    intro H' F' s I'
    exact h σ F' H' (.ofPt ⟨s, I', fun a q => Ev.wr ev q, fun a q => Ev.oa ev q⟩ ev)
  | ok rs ρ1 =>
    intro vs H' F' s I' rr
    exact k rs ρ1 vs H' F' rfl ⟨s, I', fun a q => Ev.wr ev q, fun a q => Ev.oa ev q⟩ ev rr h
theorem put_at {ρ1 : Env} {σ1 : L2.St} (ln : ρ1.length = σ1.length) (i : Nat) (v : Option V) (s : Sl) (j : Nat) :
    (j = i ∧ i < ρ1.length ∧ gt (pt ρ1 i s) j = s ∧ sg (σ1.set i v) j = v) ∨ (gt (pt ρ1 i s) j = gt ρ1 j ∧ sg (σ1.set i v) j = sg σ1 j) := by
  by_cases q : j = i ∧ i < ρ1.length
  · exact .inl ⟨q.1, q.2, by rw [gt_pt, if_pos q], by rw [sg_set, if_pos ⟨q.1, by rw [← ln]; exact q.2⟩]⟩
  · refine .inr ⟨by rw [gt_pt, if_neg q], ?_⟩
    rw [sg_set, if_neg (by rw [← ln]; exact q)]
/-- slot i gets x -/
theorem SC.put (x : SC σ ρ F H σ1 ρ1 F1 H1) (ln : ρ1.length = σ1.length) {i : Nat} {v : Option V} {s : Sl} (hf : flg s = false) (ho : ∀ a, oa v s = some a → H a = none) (hk : ∀ w f, s ≠ .k w f) :
    SC σ ρ F H (σ1.set i v) (pt ρ1 i s) F1 H1 where
  st := x.st
  flag := fun j h => by
    rcases put_at ln i v s j with ⟨_, _, e1, e2⟩ | ⟨q1, q2⟩
    · rw [e1, hf] at h; cases h
    · rw [q1] at h
      rw [q2]
      exact x.flag j h
  own := fun j a h n => by
    rcases put_at ln i v s j with ⟨_, _, e1, e2⟩ | ⟨q1, q2⟩
    · rw [e1, e2] at h
      exact .inl (ho a h)
    · rw [q1, q2] at h
      rw [q1] at n
      exact x.own j a h n
  sub := fun a h => by
    obtain ⟨j, h⟩ := h
    rcases put_at ln i v s j with ⟨_, _, e1, e2⟩ | ⟨q1, q2⟩
    · rw [e1, e2] at h
      exact .inr (ho a (oa_of_wa h))
    · rw [q1, q2] at h
      exact x.sub a ⟨j, h⟩
  kk := fun j w f h => by
    rcases put_at ln i v s j with ⟨_, _, e1, e2⟩ | ⟨q1, q2⟩
    · rw [e1] at h
      exact absurd h (hk w f)
    · rw [q1] at h
      rw [q2]
      exact x.kk j w f h
  ln := by rw [List.length_set]; exact x.ln
theorem RS.put (I : RS Z F1 H1 σ1 ρ1) {i : Nat} {v : Option V} {s : Sl} (hr : RSl Z F1 H1 v s) (ho : ∀ a, oa v s = some a → ¬ Oa σ1 ρ1 a) : RS Z F1 H1 (σ1.set i v) (pt ρ1 i s) := by
  have ln := I.len
  have o1 : ∀ j a, oa (sg (σ1.set i v) j) (gt (pt ρ1 i s) j) = some a → (j = i ∧ oa v s = some a) ∨ oa (sg σ1 j) (gt ρ1 j) = some a := fun j a h => by
    rcases put_at ln i v s j with ⟨q1, _, e1, e2⟩ | ⟨q1, q2⟩
    · rw [e1, e2] at h
      exact .inl ⟨q1, h⟩
    · rw [q1, q2] at h
      exact .inr h
  refine ⟨I.fok, by rw [pt_length, List.length_set]; exact ln, fun j => ?_, fun j k a n h1 h2 => ?_⟩
  · rcases put_at ln i v s j with ⟨_, _, e1, e2⟩ | ⟨q1, q2⟩
    · rw [e1, e2]; exact hr
    · rw [q1, q2]; exact I.sl j
  · rcases o1 j a h1 with ⟨j1, z1⟩ | z1
    · rcases o1 k a h2 with ⟨k1, z2⟩ | z2
      · exact n (j1.trans k1.symm)
      · exact ho a z1 ⟨k, z2⟩
    · rcases o1 k a h2 with ⟨k1, z2⟩ | z2
      · exact ho a z2 ⟨j, z1⟩
      · exact I.ap j k a n z1 z2
theorem SS.put (x : SS Z σ ρ F H σ1 ρ1 F1 H1) {i : Nat} {v : Option V} {s : Sl} (hr : RSl Z F1 H1 v s) (hf : flg s = false) (ho : ∀ a, oa v s = some a → H a = none ∧ ¬ Oa σ1 ρ1 a) (hk : ∀ w f, s ≠ .k w f) (he : ∀ c, s ≠ .e c) :
    SS Z σ ρ F H (σ1.set i v) (pt ρ1 i s) F1 H1 :=
  { x.toSC.put x.rs.len hf (fun a q => (ho a q).1) hk with
    rs := x.rs.put hr fun a q => (ho a q).2
    ee := fun j c h => by
      rcases put_at x.rs.len i v s j with ⟨_, _, e1, e2⟩ | ⟨q1, q2⟩
      · rw [e1] at h
        exact absurd h (he c)
      · rw [q1] at h
        exact x.ee j c h }
theorem SS.putV (x : SS Z σ ρ F H σ1 ρ1 F1 H1) {i : Nat} {v : V} {d : D} (r : Rep Z F1 H1 d v) : SS Z σ ρ F H (σ1.set i (some v)) (pt ρ1 i (.v d false)) F1 H1 :=
  x.put (s := .v d false) ⟨v, rfl, r⟩ rfl (fun a h => absurd h oa_v) (fun w f h => by cases h) fun c h => by cases h
theorem SS.putU (x : SS Z σ ρ F H σ1 ρ1 F1 H1) {i : Nat} {v : Option V} : SS Z σ ρ F H (σ1.set i v) (pt ρ1 i .u) F1 H1 :=
  x.put (s := .u) trivial rfl (fun a h => absurd h oa_u) (fun w f h => by cases h) fun c h => by cases h
theorem SS.putO (x : SS Z σ ρ F H σ1 ρ1 F1 H1) {i : Nat} {a : Addr} {w : Ow} (r : ROw Z F1 H1 a w) (n : H a = none) (na : ¬ Oa σ1 ρ1 a) : SS Z σ ρ F H (σ1.set i (some (.ref a))) (pt ρ1 i (.o w false)) F1 H1 :=
  x.put (s := .o w false) ⟨a, rfl, r⟩ rfl (fun b h => by
    have e := oa_o.mp h
    cases e
    exact ⟨n, na⟩) (fun w f h => by cases h) fun c h => by cases h
theorem SS.ofFz (p : Fz Z σ ρ F H ρ1 F1 H1) (e : Ev ρ ρ1) : SS Z σ ρ F H σ ρ1 F1 H1 := SS.ofPt p.toPt e
end
theorem PS.weak {X : Cx} {e : Stmt} {t t' : TS} (h : PS X e t) (w : ∀ D σ H, t' D σ H → t D σ H) : PS X e t' := ⟨fun pins s σ H D I q => h.run pins s σ H D I (w D σ H q)⟩
theorem PSs.weak {X : Cx} {e : List Stmt} {t t' : TS} (h : PSs X e t) (w : ∀ D σ H, t' D σ H → t D σ H) : PSs X e t' := ⟨fun pins s σ H D I q => h.run pins s σ H D I (w D σ H q)⟩
section
variable {Z : Cd} {W : WX} {B : Tb} {Φ : CallF} {X : Cx}
/-! ### blocks -/
theorem zb_nil : PSs X [] (tS Z W (exe B Φ .skip)) := PSs.weak pss_nil fun D σ H ⟨ρ, F, I, h⟩ => h σ F H (.refl I)
theorem zs_pass {pos : Pos} : PS X (.Pass pos) (tS Z W (exe B Φ .skip)) := PS.weak ps_pass fun D σ H ⟨ρ, F, I, h⟩ => h σ F H (.refl I)
theorem zs_cont {pos : Pos} : PS X (.Continue pos) (tS Z W (exe B Φ .cont)) := PS.weak ps_continue fun D σ H ⟨ρ, F, I, h⟩ => h σ F H (.refl I)
theorem zs_brk {pos : Pos} : PS X (.Break pos) (tS Z W (exe B Φ .brk)) := PS.weak ps_break fun D σ H ⟨ρ, F, I, h⟩ => h σ F H (.refl I)
theorem SQs.sq {F : Addr → Prop} {H : Hp} {σ : L2.St} {ρ : Env} {o : Out Fl} {f : Env → Out Fl} {D : Ends} (h : SQs Z W F H σ ρ (o.sq f) D) : SQs Z W F H σ ρ o { D with nx := tS Z W f D } := by
  cases o with
  | ok r ρ1 =>
    cases r with
    | nx => exact fun σ' F' H' s => ⟨ρ1, F', s.rs, SQs.later (o := f ρ1) h s⟩
    | cont => exact h
    | brk => exact h
    | ret r => exact h
  | ex c ρ1 => exact h
  | st => exact h
theorem zb_cons {a b : S} {st : Stmt} {rest : List Stmt} (ha : PS X st (tS Z W (exe B Φ a))) (hb : PSs X rest (tS Z W (exe B Φ b))) : PSs X (st :: rest) (tS Z W (exe B Φ (.seq a b))) :=
  PSs.weak (pss_cons ha hb) fun D σ H ⟨ρ, F, I, h⟩ => ⟨ρ, F, I, SQs.sq h⟩
theorem zb_one {a : S} {st : Stmt} (ha : PS X st (tS Z W (exe B Φ a))) : PSs X [st] (tS Z W (exe B Φ a)) := pss_one ha
/-! ### plain statements -/
theorem zs_ex {e : E} {ee : Expr} {pos : Pos} (he : PE X ee (t1 Z W (ev B Φ e))) (hs : swapsWith ee none pos.line X.env = pure false) : PS X (.Expr ee pos) (tS Z W (exe B Φ (.ex e))) :=
  PS.weak (ps_expr he hs) fun D σ H ⟨ρ, F, I, h⟩ => ⟨ρ, F, I, SQs.one h I (EvO.ev e ρ) fun r ρ1 v H1 F1 _ p ev x q => q σ F1 H1 (.ofPt p ev)⟩
theorem zs_ret {e : E} {ee : Expr} {pos : Pos} (he : PE X ee (t1 Z W (ev B Φ e))) : PS X (.Return (some ee) pos) (tS Z W (exe B Φ (.ret e))) :=
  PS.weak (ps_ret he) fun D σ H ⟨ρ, F, I, h⟩ => ⟨ρ, F, I, SQs.one h I (EvO.ev e ρ) fun r ρ1 v H1 F1 _ p ev x q => q σ F1 H1 v (.ofPt p ev) x⟩
theorem zs_retn {pos : Pos} : PS X (.Return none pos) (tS Z W (exe B Φ .retn)) :=
  PS.weak ps_retN fun D σ H ⟨ρ, F, I, h⟩ => h σ F H .non (.refl I) (by simp [RepR, Rep])
theorem SQs.test {F : Addr → Prop} {H : Hp} {σ : L2.St} {ρ : Env} {o : Out (List R)} {f g : Env → Out Fl} {D : Ends} {P : Bool → Hp → Prop}
    (h : SQs Z W F H σ ρ (o.one fun r ρ1 => match r with
      | .v (.bl true) => f ρ1
      | .v (.bl false) => g ρ1
      | _ => .st) D) (I : RS Z F H σ ρ) (ev : EvO ρ o)
    (k : ∀ b ρ1 H1 F1, o = .ok [.v (.bl b)] ρ1 → Pt Z σ ρ F H ρ1 F1 H1 → Ev ρ ρ1 → SQs Z W F H σ ρ (if b = true then f ρ1 else g ρ1) D → P b H1) : EQs Z W F H σ ρ o (fun vs H1 => ∃ b, vs = [.bl b] ∧ P b H1) := by
  have q := SQs.one (P := fun v H1 => ∃ b, v = .bl b ∧ P b H1) h I ev fun r ρ1 v H1 F1 e p ev x q => by
    cases r with
    | v d =>
      cases d with
      | bl b => cases b with
        | true => exact ⟨true, by simpa [RepR, Rep] using x, k true ρ1 H1 F1 e p ev q⟩
        | false => exact ⟨false, by simpa [RepR, Rep] using x, k false ρ1 H1 F1 e p ev q⟩
      | _ => exact False.elim q
    | o w => exact False.elim q
    | w i => exact False.elim q
  cases o with
  | ok rs ρ1 =>
    intro vs H1 F1 s I1 r
    obtain ⟨v, e, b, e2, q⟩ := q vs H1 F1 s I1 r
    exact ⟨b, by rw [e, e2], q⟩
  | ex c ρ1 => exact q
  | st => exact q
theorem zs_if {c : E} {a b : S} {ec : Expr} {as bs : List Stmt} {pos : Pos} (hc : PT X ec (tT Z W (ev B Φ c))) (ha : PSs X as (tS Z W (exe B Φ a))) (hb : PSs X bs (tS Z W (exe B Φ b))) : PS X (.If ec as bs pos) (tS Z W (exe B Φ (.ite c a b))) :=
  PS.weak (ps_if hc ha hb) fun D σ H ⟨ρ, F, I, h⟩ => ⟨ρ, F, I, SQs.test h I (EvO.ev c ρ) fun k ρ1 H1 F1 _ p ev q => by
    cases k with
    | true => exact ⟨ρ1, F1, p.rs, SQs.later q (.ofPt p ev)⟩
    | false => exact ⟨ρ1, F1, p.rs, SQs.later q (.ofPt p ev)⟩⟩
theorem zs_set {i : Nat} {x : Str} {e : E} {ee : Expr} {pos pos' : Pos} (hN : X.N.Nodup) (hi : X.N[i]? = some x) (hx : Loc X.env.scope x) (he : PE X ee (t1 Z W (ev B Φ e))) (hs : swapsWith ee (some (.Name x pos')) pos.line X.env = pure false) (hf : X.fn x = true ∨ X.env.scope.names.lookup x = some .local) :
    PS X (.Assign [.Name x pos'] ee pos) (tS Z W (exe B Φ (.set i e))) :=
  PS.weak (ps_set hN hi hx he hs hf) fun D σ H ⟨ρ, F, I, h⟩ => ⟨ρ, F, I, SQs.one h I (EvO.ev e ρ) fun r ρ1 v H1 F1 _ p ev x q => by
    split at q
    · rename_i r w
      obtain ⟨a, rfl, z, n⟩ := x
      exact q _ F1 H1 ((SS.ofPt p ev).putO z n fun o => (I.oa_nf (p.subO a o)).2 n)
    · split at q
      · rename_i d ρ2 e2
        obtain ⟨F2, p2, y, m2, _⟩ := RepR.froz (Fz.of I p) x e2
        exact q _ F2 H1 ((SS.ofFz p2 (ev.trans (Ev.fz e2))).putV y)
      · exact q.elim⟩
theorem zs_par {i j : Nat} {x y : Str} {a b : E} {ea eb : Expr} {px py pt' pos : Pos} {kt k2 : Nat} {pt2 : Pos} (hc : X.calm = true) (hN : X.N.Nodup) (hi : X.N[i]? = some x) (hj : X.N[j]? = some y) (hij : i ≠ j)
    (hx : X.env.scope.names.lookup x = some .local) (hy : X.env.scope.names.lookup y = some .local) (ha : PA X [ea, eb] (tA Z W (ev B Φ (.cons a (.cons b .nil)))))
    (hw : swappedStores [.Tuple [.Name x px, .Name y py] kt pt'] (.Tuple [ea, eb] k2 pt2) X.env = pure (some [x, y]))
    (hs : swapsWithSole [.Tuple [.Name x px, .Name y py] kt pt'] (.Tuple [ea, eb] k2 pt2) pos.line X.env = pure false) :
    PS X (.Assign [.Tuple [.Name x px, .Name y py] kt pt'] (.Tuple [ea, eb] k2 pt2) pos) (tS Z W (exe B Φ (.par i j a b))) :=
  PS.weak (ps_par hc hN hi hj hij hx hy ha hw hs) fun D σ H ⟨ρ, F, I, h⟩ => ⟨ρ, F, I, by
    have e : exe B Φ (.par i j a b) ρ = (ev B Φ (.cons a (.cons b .nil)) ρ).bnd fun rs ρ2 => match fzA ρ2 rs with
        | some ([d, e], ρ3) => .ok .nx (pt (pt ρ3 i (.v d false)) j (.v e false))
        | _ => .st := by
      simp only [exe, ev, Out.one]
      cases ev B Φ a ρ with
      | st => rfl
      | ex c ρ1 => rfl
      | ok rs ρ1 =>
        match rs with
        | [] => rfl
        | _ :: _ :: _ => rfl
        | [r] =>
          simp only [Out.bnd]
          cases ev B Φ b ρ1 with
          | st => rfl
          | ex c ρ1 => rfl
          | ok ss ρ2 =>
            match ss with
            | [] => rfl
            | _ :: _ :: _ => rfl
            | [s] => rfl
    rw [e] at h
    refine SQs.bnd h I (EvO.ev _ ρ) fun rs ρ1 vs H1 F1 e p ev x q => ?_
    split at q
    · rename_i d g ρ3 e2
      obtain ⟨F2, p2, y, _⟩ := RepRs.froz (Fz.of I p) x e2
      simp only [RepA] at y
      obtain ⟨v, t, rfl, y1, w, t2, rfl, y2, rfl⟩ := y
      exact ⟨v, w, rfl, q _ F2 H1 (((SS.ofFz p2 (ev.trans (Ev.fzA e2))).putV y1).putV y2)⟩
    · exact q.elim⟩
/-! ### while -/
theorem zs_while {c : E} {b : S} {ec : Expr} {bs : List Stmt} {pos : Pos} (hp : PassesOwn (model X.prog X.w) X.A X.env X.xe) (hc : PT X ec (tT Z W (ev B Φ c))) (hb : PSs X bs (tS Z W (exe B Φ b))) :
    PS X (.While ec bs [] pos) (tS Z W (exe B Φ (.whl c b))) :=
  PS.weak (ps_while hp hc hb) fun D σ H ⟨ρ, F, I, h⟩ => by
    unfold exe whC at h
    by_cases hn : ∃ n, whN (ev B Φ c) (exe B Φ b) n ρ ≠ .st
    · rw [dif_pos hn] at h
      refine ⟨fun m σ1 H1 => ∃ ρ1 F1, RS Z F1 H1 σ1 ρ1 ∧ SQs Z W F1 H1 σ1 ρ1 (whN (ev B Φ c) (exe B Φ b) m ρ1) D, ⟨_, ρ, F, I, h⟩, ?_⟩
      clear h hn I
      intro m σ H ⟨ρ, F, I, h⟩
      cases m with
      | zero => exact h.elim
      | succ m =>
        unfold whN at h
        refine ⟨ρ, F, I, ?_⟩
        refine SQs.test h I (EvO.ev c ρ) fun k ρ1 H1 F1 _ p ev q => ?_
        have x := SS.ofPt p ev
        cases k with
        | false =>
          rw [if_neg (by simp)] at q ⊢
          exact q σ F1 H1 x
        | true =>
          rw [if_pos rfl] at q ⊢
          refine ⟨fun σ' H' => ∃ ρ2 F2, RS Z F2 H' σ' ρ2 ∧ SQs Z W F2 H' σ' ρ2 (whN (_root_.Z.ev B Φ c) (exe B Φ b) m ρ2) D, fun σ' H' z => ⟨m, Nat.lt_succ_self m, z⟩, ρ1, F1, p.rs, ?_⟩
          have q2 := SQs.later q x
          cases e : exe B Φ b ρ1 with
          | st => rw [e] at q2; exact q2
          | ex k ρ2 => rw [e] at q2; exact q2
          | ok r ρ2 =>
            rw [e] at q2
            cases r with
            | nx => exact fun σ' F' H' s => ⟨ρ2, F', s.rs, SQs.later q2 s⟩
            | cont => exact fun σ' F' H' s => ⟨ρ2, F', s.rs, SQs.later q2 s⟩
            | brk => exact q2
            | ret r => exact q2
    · rw [dif_neg hn] at h
      exact h.elim
end
end Z

/-! len(set(text)) -/
namespace ZS
open Z (dist)
open PySem PySem.Spec PyProof.Rows
def sg1 (c : Nat) : Str := ⟨#[c]⟩
theorem sg1_inj {c d : Nat} (h : sg1 c = sg1 d) : c = d := by
  have : (sg1 c).cps.toList = (sg1 d).cps.toList := by rw [h]
  simpa [sg1] using this
theorem dist_le : ∀ (xs seen : List Nat), dist seen xs ≤ xs.length
  | [], _ => Nat.le_refl _
  | c :: r, seen => by
    unfold Z.dist
    split
    · exact Nat.le_succ_of_le (dist_le r seen)
    · exact Nat.succ_le_succ (dist_le r _)
def inS (seen : List Nat) (k : Str) : Bool := seen.any fun c => sg1 c == k
theorem inS_one (seen : List Nat) (c : Nat) : inS seen (sg1 c) = seen.contains c := by
  induction seen with
  | nil => rfl
  | cons d r ih =>
    unfold inS at ih ⊢
    rw [List.any_cons, ih, List.contains_cons]
    congr 1
    by_cases e : c = d
    · subst e
      have h1 : (sg1 c == sg1 c) = true := beq_self_eq_true _
      have h2 : (c == c) = true := beq_self_eq_true _
      rw [h1, h2]
    · have h1 : (sg1 d == sg1 c) = false := by
        rw [beq_eq_false_iff_ne]
        exact fun h => e (sg1_inj h).symm
      have h2 : (c == d) = false := by
        rw [beq_eq_false_iff_ne]
        exact e
      rw [h1, h2]
section
variable {prog : Program} {w : World} {A : Around} {R : Result → Shared → Prop} {I : Addr} {fp wr : List Addr} {G : Array GenState → Array GenState → Prop} {St : Nat → Shared → Prop}
theorem loopX {x : Str} (W : WalksS prog w A.in1 I fp wr G x.cps.size (SignAt x) St) (S : Addr) (hSf : S ∉ fp) (hb : x.cps.size < 4000) :
    ∀ (k i : Nat) (s : Shared) (seen : List Nat) (m : Nat), x.cps.size - i = k → i ≤ x.cps.size → m ≤ i → St i s →
      s.heap.SetOf (PySem.strKind prog w) S (inS seen) m →
      (∀ s' S', Moved (S :: wr) G s s' → s'.heap.SetOf (PySem.strKind prog w) S S' (m + dist seen (x.cps.toList.drop i)) → R (.ok (.ret .none)) s') →
      codeAny (model prog w) A (.builtin "set.update.loop" ⟨[.ref S, .ref I], []⟩) R s := by
  have hSw : S ∉ wr := fun h => hSf (W.sub _ h)
  have hsub : ∀ b ∈ wr, b ∈ S :: wr := fun b hb => List.mem_cons_of_mem _ hb
  intro k
  induction k with
  | zero =>
    intro i s seen m hk hi hm0 hst hS hR
    have hin : i = x.cps.size := by omega
    subst hin
    refine codeAny_builtin PyProof.Rows.F.entry_set_update_loop ?_
    rw [Around.under_plainId PyProof.Rows.F.plain_set_update_loop _]
    show wpAny _ A.in1 (pyNext (.ref I) >>= _) _ _ s
    refine wpAny_bind (W.done s _ _ hst fun s' hm => ?_)
    show wpAny _ A.in1 (ret Value.none) _ _ s'
    have e : dist seen (x.cps.toList.drop x.cps.size) = 0 := by
      rw [List.drop_of_length_le (by simp)]; rfl
    rw [e, Nat.add_zero] at hR
    exact wpAny_pure (hR s' _ (hm.mono hsub) (by
      obtain ⟨o, es, ep, t, ho, rest⟩ := hS
      exact ⟨o, es, ep, t, hm.heap S _ hSw ho, rest⟩))
  | succ k ih =>
    intro i s seen m hk hi hm0 hst hS hR
    have hlt : i < x.cps.size := by omega
    refine codeAny_builtin PyProof.Rows.F.entry_set_update_loop ?_
    rw [Around.under_plainId PyProof.Rows.F.plain_set_update_loop _]
    show wpAny _ A.in1 (pyNext (.ref I) >>= _) _ _ s
    refine wpAny_bind (W.item i s _ _ hlt hst fun v s' hP hst' hm => ?_)
    obtain ⟨c, t, hc, rfl⟩ := hP
    have hS' : s'.heap.SetOf (PySem.strKind prog w) S (inS seen) m := by
      obtain ⟨o, es, ep, tb, ho, rest⟩ := hS
      exact ⟨o, es, ep, tb, hm.heap S _ hSw ho, rest⟩
    show wpAny _ A.in1 (holding [Value.str (sg1 c) t] (setAdd S (.str (sg1 c) t)) >>= _) _ _ s'
    refine wpAny_bind (wpAny_holding ?_)
    unfold setAdd
    refine wpAny_holding ?_
    refine wpAny_bind ((PySem.strKind prog w).pyHash (k := sg1 c) (strKind_is _ _ _ _) ?_)
    refine wpAny_setAddHashed_of (knd := PySem.strKind prog w) (s := { s' with toks := s'.toks + 1 }) (strKind_is _ _ _ _) rfl hS' (by unfold scanBound; omega) fun h' hsb hS2 => ?_
    have hS2 : h'.SetOf (PySem.strKind prog w) S (fun k' => inS seen k' || decide (k' = sg1 c)) (if inS seen (sg1 c) = true then m else m + 1) := hS2
    have dr : x.cps.toList.drop i = c :: x.cps.toList.drop (i + 1) := by
      have h1 : i < x.cps.toList.length := by simpa using hlt
      have h2 : x.cps.toList[i] = c := by
        have := (Array.getElem?_eq_some_iff.mp hc).2
        simpa using this
      rw [List.drop_eq_getElem_cons h1, h2]
    have hSi : h'.SetOf (PySem.strKind prog w) S (inS (if seen.contains c = true then seen else c :: seen)) (if seen.contains c = true then m else m + 1) := by
      rw [inS_one] at hS2
      refine SetOf_congr hS2 (fun k' => ?_) rfl
      by_cases q : seen.contains c = true
      · rw [if_pos q]
        by_cases e : k' = sg1 c
        · subst e
          rw [inS_one, q]; rfl
        · rw [decide_eq_false e, Bool.or_false]
      · rw [if_neg q]
        show _ = ((sg1 c == k') || inS seen k')
        rw [Bool.or_comm]
        congr 1
        by_cases e : k' = sg1 c
        · subst e
          rw [decide_eq_true rfl, beq_self_eq_true]
        · rw [decide_eq_false e]
          exact (beq_eq_false_iff_ne.mpr fun z => e z.symm).symm
    refine wpAny_pure ⟨plainId_quiet PyProof.Rows.F.plain_set_update_loop _, ih (i + 1) _ _ _ (by omega) hlt (by split <;> omega) (W.frame _ s' _ _ hst' (Nat.le_succ _) fun b hb o e => ?_) hSi fun s'' S'' hm'' hS'' => ?_⟩
    · rw [hsb.2 b (fun h : b = S => hSf (by rw [← h]; exact hb))]; exact e
    · refine hR s'' S'' (Moved.trans W.gtrans ((hm.mono hsub).then_heap (Nat.le_succ _) fun b o hb e => ?_) hm'') ?_
      · rw [hsb.2 b (fun h : b = S => hb (by rw [h]; exact List.mem_cons_self))]; exact e
      · have e : m + dist seen (x.cps.toList.drop i) = (if seen.contains c = true then m else m + 1) + dist (if seen.contains c = true then seen else c :: seen) (x.cps.toList.drop (i + 1)) := by
          rw [dr]
          by_cases q : seen.contains c = true
          · rw [if_pos q, if_pos q]
            show m + (if seen.contains c = true then _ else _) = _
            rw [if_pos q]
          · rw [if_neg q, if_neg q]
            show m + (if seen.contains c = true then _ else _) = _
            rw [if_neg q]; omega
        rw [e]; exact hS''
end
section
variable {prog : Program} {w : World} {A : Around} {E : Value → Shared → Prop} {s : Shared}
set_option maxHeartbeats 3200000 in
theorem call_set_str {x : Str} {u : Tok} {Q : Value → Shared → Prop}
    (hh : A.handled = none) (hb : x.cps.size < 4000)
    (h : ∀ (h' : Heap) (tk : Nat) (S' : Str → Bool), h'.SetOf (PySem.strKind prog w) s.heap.objs.size S' (dist [] x.cps.toList) →
      (∀ b o, b < s.heap.objs.size → s.heap.get? b = some o → h'.get? b = some o) → Q (.ref s.heap.objs.size) { s with heap := h', toks := tk }) :
    wpAny (model prog w) A (call (.type "set") [.str x u]) Q E s := by
  obtain ⟨c, tl, hmro⟩ := PySem.F.called_set.mro
  have hmade := PySem.F.called_set.made
  have hsub := PySem.F.called_set.sub
  refine wpAny_call (codeAny_of_tree ?_)
  show wpAny _ _ (callAny (.type "set") _) _ _ _
  refine wpAny_pure ⟨Code.quiet_builtin _ (by decide +kernel), codeAny_builtin PySem.F.entry_type_call ?_⟩
  rw [Around.under_plain (weight_type_call_type "set" [.str x u] []) rfl]
  have h1 := PySem.F.called_set.notType
  have h2 := PySem.F.called_set.canCreate
  have hct := PySem.F.typeCall_set_1 (.str x u)
  repeat (any_goals (first | assumption | wp_step))
  refine codeAny_mono (code_set_new_1 (.str x u) (E := E) (Q₁ := fun obj s₁ => ∃ led : Bool, obj = .ref s.heap.objs.size ∧ s₁ = { s with heap := s.heap.push { cls := .type "set", dict := none, data := .set #[] 0 (.fresh 0 0 led) } }) fun led => ⟨led, rfl, rfl⟩) fun r s₁ hr => ?_
  cases r with
  | error e => exact hr
  | ok fl =>
    cases fl with
    | ret obj =>
      obtain ⟨led, rfl, rfl⟩ := hr
      have hS : (s.heap.push { cls := .type "set", dict := none, data := .set #[] 0 (.fresh 0 0 led) }).get? s.heap.objs.size = some { cls := .type "set", dict := none, data := .set #[] 0 (.fresh 0 0 led) } := Heap.get?_push_size _ rfl
      have hT : Shared.TypeIs { s with heap := s.heap.push { cls := .type "set", dict := none, data := .set #[] 0 (.fresh 0 0 led) } } (.ref s.heap.objs.size) "set" := ⟨_, hS, rfl⟩
      have hli := PySem.F.called_set.init.lookup
      have hbi := PySem.F.called_set.init.bind (.ref s.heap.objs.size)
      repeat (any_goals (first | assumption | wp_step))
      refine codeAny_mono (codeAny_call_builtin (R := wants (fun r s₂ => r = .none ∧ ∃ h' tk S', s₂ = { s with heap := h', toks := tk } ∧
          h'.SetOf (PySem.strKind prog w) s.heap.objs.size S' (dist [] x.cps.toList) ∧
          (∀ b o, b < s.heap.objs.size → s.heap.get? b = some o → h'.get? b = some o)) E) PySem.F.called_set.init.plain PySem.F.entry_set_init (check_set_init_1 hT ?_)) fun r₂ s₂ hr₂ => ?_
      · have hsls := PySem.F.sub_str_set
        have hslf := PySem.F.sub_str_frozenset
        have hne : (Value.type "str" == Value.type "dict") = false := by decide
        unfold Builtin.«set.__init__» noKeywords Builtin.Frozenset.updateFrom
        generalize hPI : pyIter = PI
        wp_walk
        subst hPI
        refine wpAny_pyIter_strU ?_
        refine wpAny_bind (wpAny_runValue ?_)
        have hh3 : A.in1.in1.in1.handled = none := by simp [hh]
        have hSf : s.heap.objs.size ∉ [(s.heap.push { cls := .type "set", dict := none, data := .set #[] 0 (.fresh 0 0 led) }).objs.size] := by
          rw [Heap.size_push]; simp only [List.mem_cons, List.mem_singleton, List.not_mem_nil, or_false, not_or]
          exact Nat.ne_of_lt (Nat.lt_succ_self _)
        have W : Walks prog w A.in1.in1.in1 (s.heap.push { cls := .type "set", dict := none, data := .set #[] 0 (.fresh 0 0 led) }).objs.size [(s.heap.push { cls := .type "set", dict := none, data := .set #[] 0 (.fresh 0 0 led) }).objs.size] [(s.heap.push { cls := .type "set", dict := none, data := .set #[] 0 (.fresh 0 0 led) }).objs.size] x.cps.size (SignAt x) (fun i h => h.IsStrIter (s.heap.push { cls := .type "set", dict := none, data := .set #[] 0 (.fresh 0 0 led) }).objs.size (strIterType x) x u i) := by
          unfold strIterType
          cases ha : x.cps.all (· < 128)
          · simp only [Bool.false_eq_true, if_false]; exact Walks.strWide hh3 _ x u
          · simp only [if_true]; exact Walks.strAscii hh3 _ x u
        refine loopX W.toS s.heap.objs.size hSf hb (x.cps.size - 0) 0 _ [] 0 (by omega) (Nat.zero_le _) (Nat.le_refl _)
          ⟨_, Heap.get?_push_size _ rfl, rfl, rfl⟩ ?hS0 ?hR
        case hS0 =>
          have hget : ((s.heap.push { cls := .type "set", dict := none, data := .set #[] 0 (.fresh 0 0 led) }).push { cls := .type (strIterType x), data := .fields #[.str x u, .int 0 0] }).get? s.heap.objs.size
              = some { cls := .type "set", dict := none, data := .set #[] 0 (.fresh 0 0 led) } := Heap.get?_push_of_some _ hS
          exact PyProof.Rows.SetOf_congr ((PyProof.Rows.setObjOf_fresh (knd := PySem.strKind prog w) led).setOf hget (by unfold scanBound; omega)) (fun _ => rfl) rfl
        case hR =>
          intro s' S' hm hS'
          obtain ⟨h', g', d', tk', os'⟩ := s'
          have eg : g' = s.gens := hm.gens
          have ed : d' = s.drawn := hm.drawn
          have eo : os' = s.os := hm.os
          subst eg; subst ed; subst eo
          show wpAny _ _ _ _ _ _
          refine wpAny_pure ?_
          show wpAny _ _ (ret Value.none) _ _ _
          refine wpAny_pure ⟨rfl, h', tk', S', rfl, by simpa using hS', fun b o hb e => ?_⟩
          have hb1 : b ≠ s.heap.objs.size := Nat.ne_of_lt hb
          have hb2 : b ≠ (s.heap.push { cls := .type "set", dict := none, data := .set #[] 0 (.fresh 0 0 led) }).objs.size := by
            rw [Heap.size_push]; exact Nat.ne_of_lt (Nat.lt_succ_of_lt hb)
          exact hm.heap b o (by simp only [List.mem_cons, List.mem_singleton, List.not_mem_nil, or_false, not_or]; exact ⟨hb1, hb2⟩) (Heap.get?_push_of_some _ (Heap.get?_push_of_some _ e))
      · cases r₂ with
        | error e => exact hr₂
        | ok fl₂ =>
          cases fl₂ with
          | ret r =>
            obtain ⟨rfl, h', tk, S', rfl, hS', hk'⟩ := hr₂
            repeat (any_goals (first | assumption | wp_step))
            exact h _ _ _ hS' hk'
          | _ => exact hr₂.elim
    | _ => exact hr.elim
end
end ZS
namespace ZS
open Z (dist)
open PySem PySem.Spec PyProof.Rows L2
/-- len(set(x)), x a text -/
def tLenSetS (te : TE) : TE := fun σ H Q => te σ H fun v H1 => ∃ x : Str, v = .str x ∧ x.cps.size < 4000 ∧ Q (.int (dist [] x.cps.toList : Nat)) H1
theorem pe_lenSetS {X : Cx} {a : Expr} {ta : TE} {p p2 q pos : Pos} (hc : X.calm = true) (hg : Gl X "len") (hm : X.mg "len" = none) (hg2 : Gl X "set") (hm2 : X.mg "set" = none) (ha : PE X a ta)
    (na : starEach [a] X.env = (false, eval a X.env) :: starEach [] X.env := by rfl) (nb : starEach [Expr.Call (.Name "set" p2) [a] [] q] X.env = (false, eval (Expr.Call (.Name "set" p2) [a] [] q) X.env) :: starEach [] X.env := by rfl) : PE X (.Call (.Name "len" p) [.Call (.Name "set" p2) [a] [] q] [] pos) (tLenSetS ta) := by
  refine ⟨fun pins s σ H Q I h => ?_⟩
  refine Call_ (ld_blt I hg hm boot_len ?_)
  refine PyProof.Rows.callWith_builtin1 (PyProof.Rows.args_cons ?_ nb) nb rfl
  refine Call_ (ld_blt I hg2 hm2 boot_set ?_)
  refine PyProof.Rows.callWith_type1 (PyProof.Rows.args_cons (thn (ha.run pins s σ H _ I h) fun v s1 ⟨x, H1, I1, r1, q1⟩ => PyProof.Rows.args_nil ?_) na) na rfl
  obtain ⟨x, rfl, hx, q1⟩ := q1
  obtain ⟨t, rfl⟩ := r1
  refine call_set_str (I1.ok.hd hc) hx fun h' tk S' hS hk => ?_
  refine PyProof.Rows.args_nil ?_
  obtain ⟨o, es, ep, t, ho, hex, hd, _, _, _, hf, hn⟩ := hS
  have I2 : Inv X pins σ H1 { s1 with heap := h', toks := tk } := I1.kept fun b o e => hk b o (Heap.lt_size e) e
  have hl := dist_le x.cps.toList []
  have hl : dist [] x.cps.toList < 4000 := Nat.lt_of_le_of_lt hl (by simpa using hx)
  refine call_len_set ho hex hd hf (by rw [hn] <;> omega) ⟨.int (dist [] x.cps.toList : Nat), H1, I2.tok _, ⟨_, by rw [hn]⟩, q1⟩
end ZS
/-! fields, built-in functions, isinstance -/
namespace Z
open PySem L2
section
variable {Z : Cd} {W : WX} {B : Tb} {Φ : CallF} {X : Cx}
theorem look_zip {fN : Nat → Str} {f : Nat} : ∀ (fl : List Nat) (vs : List V) (j : Nat) (v : V), (fl.map fN).Nodup → fl.findIdx? (· == f) = some j → vs[j]? = some v → ((fl.map fN).zip vs).lookup (fN f) = some v
  | [], vs, j, v, _, h, _ => by simp at h
  | x :: fl, [], j, v, _, _, h => by simp at h
  | x :: fl, w :: vs, j, v, nd, h, hv => by
    rw [List.map_cons, List.nodup_cons] at nd
    rw [List.findIdx?_cons] at h
    by_cases e : (x == f) = true
    · rw [if_pos e] at h
      cases h
      have e := beq_iff_eq.mp e
      subst e
      simp at hv
      subst hv
      simp [List.lookup]
    · rw [if_neg e] at h
      cases q : fl.findIdx? (· == f) with
      | none => rw [q] at h; cases h
      | some k =>
        rw [q] at h
        cases h
        have hm : fN f ∈ fl.map fN := by
          have := List.findIdx?_eq_some_iff_getElem.mp q
          obtain ⟨hk, e2, _⟩ := this
          exact List.mem_map.mpr ⟨fl[k], List.getElem_mem hk, by rw [beq_iff_eq.mp e2]⟩
        have ne : (fN f == fN x) = false := by
          rw [beq_eq_false_iff_ne]
          intro z
          exact nd.1 (z ▸ hm)
        simp only [List.map_cons, List.zip_cons_cons, List.lookup_cons, ne]
        exact look_zip fl vs k v nd.2 q (by simpa using hv)
theorem ze_fld (hB : Z.B = B) (hnd : ∀ c, (Z.names c).Nodup) {a : E} {f : Nat} (hc : ∀ c, f ∈ (B.cls c).flds → L2.Cls X.K (Z.cA c) ∧ NoAttr X.K (Z.cA c) (Z.fN f)) {ea : Expr} {pos : Pos} (ha : PE X ea (t1 Z W (ev B Φ a))) (hb : attributeBase ea (Z.fN f) X.env (eval ea X.env) = eval ea X.env) :
    PE X (.Attribute ea (Z.fN f) pos) (t1 Z W (ev B Φ (.fld a f))) :=
  PE.weak (pe_fld ha hb) fun σ H Q h => by
    obtain ⟨r, e, q⟩ := core1 (OK := fun r => r = fun x H1 Q => ∃ a C dx fs v, x = .ref a ∧ H1 a = some (.ins C dx fs) ∧ L2.Cls X.K C ∧ NoAttr X.K C (Z.fN f) ∧ fs.lookup (Z.fN f) = some v ∧ Q v H1) (EvO.ev a) ⟨_, rfl⟩ (fun d res hk => ⟨_, rfl, fun F H σ ρ x Q I hx q => by
      split at hk
      · rename_i c vs
        obtain ⟨g, hg, rfl⟩ := Option.map_eq_some_iff.mp hk
        cases hj : (B.cls c).flds.findIdx? (· == f) with
        | none => rw [hj] at hg; cases hg
        | some j =>
          rw [hj] at hg
          have hg : vs[j]? = some g := hg
          simp only [RepT, Rep] at hx
          obtain ⟨b, dx, us, rfl, fb, hH, hl, r⟩ := hx
          obtain ⟨v, h1, h2⟩ := r.get hg
          have hm : f ∈ (B.cls c).flds := by
            obtain ⟨hk, e2, _⟩ := List.findIdx?_eq_some_iff_getElem.mp hj
            rw [← beq_iff_eq.mp e2]
            exact List.getElem_mem hk
          obtain ⟨c1, c2⟩ := hc c hm
          refine ⟨b, _, dx, _, v, rfl, hH, c1, c2, ?_, fin_v q I h2⟩
          have hn := hnd c
          unfold Cd.names at hn ⊢
          rw [hB] at hn ⊢
          exact look_zip _ _ j v hn hj h1
      · cases hk⟩) h
    subst e
    exact q
/-! ### built-in functions of one value, of two -/
def b1n : B1 → Str
  | .abs => "abs" | .len => "len" | .int => "int" | .str => "str" | .tup => "tuple" | .lst => "list" | .min => "min" | .max => "max" | .sum => "sum" | .all => "all" | .any => "any"
def b1v : B1 → Value
  | .abs => .builtin "abs" | .len => .builtin "len" | .int => .type "int" | .str => .type "str" | .tup => .type "tuple" | .lst => .type "list" | .min => .builtin "min" | .max => .builtin "max" | .sum => .builtin "sum" | .all => .builtin "all" | .any => .builtin "any"
theorem sing {x y : V} (h : x = y) : [x] = [y] := by rw [h]
theorem sing2 {x y z w : V} (h : x = y) (g : z = w) : [x, z] = [y, w] := by rw [h, g]
theorem figs_eq (i : Int) : (Str.ofString (toString i)) = ⟨(figs i).toArray⟩ := by
  unfold figs
  rfl
theorem allBl_rep {F : Addr → Prop} {H : Hp} : ∀ {xs : List D} {ts : List Bool} {vs : List V}, allBl xs = some ts → RepA Z F H xs vs → vs = ts.map V.bl
  | [], ts, vs, h, r => by
    cases h
    simp only [RepA] at r
    subst r; rfl
  | .bl x :: xs, ts, vs, h, r => by
    unfold allBl at h
    obtain ⟨us, h1, rfl⟩ := Option.map_eq_some_iff.mp h
    simp only [RepA, Rep] at r
    obtain ⟨v, w, rfl, rfl, r2⟩ := r
    rw [allBl_rep h1 r2]; rfl
  | .non :: _, _, _, h, _ => by cases h
  | .str _ :: _, _, _, h, _ => by cases h
  | .int _ :: _, _, _, h, _ => by cases h
  | .tup _ :: _, _, _, h, _ => by cases h
  | .lst _ :: _, _, _, h, _ => by cases h
  | .dct _ _ :: _, _, _, h, _ => by cases h
  | .obj _ _ :: _, _, _, h, _ => by cases h
def cold : B1 → Bool
  | .all => true
  | .any => true
  | _ => false
theorem rule_b1 (hZ : Z.K = X.K) (b : B1) (hcalm : cold b = true → X.calm = true) : ∀ d res, b1D b d = some res → ∃ r : List V → Hp → VK → Prop, CallR X (b1v b) r ∧ ∀ F H σ ρ x Q, RS Z F H σ ρ → RepT Z F H d x → EQs Z W F H σ ρ (.ok [res] ρ) (W1 Q) → r [x] H Q := by
  intro d res h
  unfold b1D at h
  split at h
  · cases h
    exact ⟨_, call_abs, fun F H σ ρ x Q I hx q => ⟨_, sing hx, fin_v q I (by simp [Rep])⟩⟩
  · cases h
    refine ⟨_, call_len_seq, fun F H σ ρ x Q I hx q => ?_⟩
    obtain ⟨a, vs, rfl, t, r⟩ := hx
    exact ⟨a, vs, rfl, .inl (hZ ▸ t), by rw [← r.len]; exact fin_v q I (by simp [Rep])⟩
  · cases h
    refine ⟨_, call_len_seq, fun F H σ ρ x Q I hx q => ?_⟩
    simp only [RepT, Rep] at hx
    obtain ⟨a, vs, rfl, t, r⟩ := hx
    exact ⟨a, vs, rfl, .inr (hZ ▸ t.sq), by rw [← r.len]; exact fin_v q I (by simp [Rep])⟩
  · split at h
    · rename_i hl
      cases h
      exact ⟨_, call_len_str, fun F H σ ρ x Q I hx q => ⟨_, sing hx, by rw [str_len, sizeLim]; exact hl, by rw [str_len]; exact fin_v q I (by simp [Rep])⟩⟩
    · cases h
  · cases h
    exact ⟨_, call_int1, fun F H σ ρ x Q I hx q => .inl ⟨_, sing hx, fin_v q I (by simp [Rep])⟩⟩
  · cases h
    exact ⟨_, call_int1, fun F H σ ρ x Q I hx q => .inr ⟨_, sing hx, fin_v q I (by simp [Rep])⟩⟩
  · split at h
    · rename_i hl
      obtain ⟨n, hn, rfl⟩ := Option.map_eq_some_iff.mp h
      exact ⟨_, call_int_str, fun F H σ ρ x Q I hx q => ⟨_, _, sing hx, hn, by rw [str_len]; exact hl, fin_v q I (by simp [Rep])⟩⟩
    · cases h
  · split at h
    · rename_i hl
      cases h
      exact ⟨_, call_str_int, fun F H σ ρ x Q I hx q => ⟨_, sing hx, hl, by
        have := figs_eq
        refine fin_v q I ?_
        simp only [Rep]
        rw [← figs_eq]⟩⟩
    · cases h
  · cases h
    refine ⟨_, call_tuple_of, fun F H σ ρ x Q I hx q => ?_⟩
    obtain ⟨a, vs, rfl, t, r⟩ := hx
    exact ⟨a, vs, rfl, .inl ⟨hZ ▸ t, fun p hp => fin_tup q I r hp⟩⟩
  · cases h
    refine ⟨_, call_tuple_of, fun F H σ ρ x Q I hx q => ?_⟩
    simp only [RepT, Rep] at hx
    obtain ⟨a, vs, rfl, t, r⟩ := hx
    exact ⟨a, vs, rfl, .inr ⟨hZ ▸ t.sq, fin_v q I (by simp only [Rep]; exact ⟨a, vs, rfl, t, r⟩)⟩⟩
  · cases h
    refine ⟨_, call_list_of, fun F H σ ρ x Q I hx q => ?_⟩
    obtain ⟨a, vs, rfl, t, r⟩ := hx
    exact ⟨a, vs, rfl, .inl (hZ ▸ t), fun p hp => fin_lst q I r hp⟩
  · cases h
    refine ⟨_, call_list_of, fun F H σ ρ x Q I hx q => ?_⟩
    simp only [RepT, Rep] at hx
    obtain ⟨a, vs, rfl, t, r⟩ := hx
    exact ⟨a, vs, rfl, .inr (hZ ▸ t.sq), fun p hp => fin_lst q I r hp⟩
  · obtain ⟨bs, h1, rfl⟩ := Option.map_eq_some_iff.mp h
    refine ⟨_, cr_all (hcalm rfl), fun F H σ ρ x Q I hx q => ?_⟩
    obtain ⟨a, vs, rfl, t, r⟩ := hx
    have e := allBl_rep h1 r
    subst e
    exact ⟨a, bs, rfl, hZ ▸ t, fin_v q I (by simp [Rep])⟩
  · obtain ⟨bs, h1, rfl⟩ := Option.map_eq_some_iff.mp h
    refine ⟨_, cr_any (hcalm rfl), fun F H σ ρ x Q I hx q => ?_⟩
    obtain ⟨a, vs, rfl, t, r⟩ := hx
    have e := allBl_rep h1 r
    subst e
    exact ⟨a, bs, rfl, hZ ▸ t, fin_v q I (by simp [Rep])⟩
  · cases h
/-- a function of one value that is known by its name -/
theorem call1 {x : Str} {u : Value} {r : List V → Hp → VK → Prop} {ea : Expr} {ta : TE} {p pos : Pos} (hk : (∃ id, u = .builtin id) ∨ ∃ T, u = .type T) (hc : CallR X u r) (hg : Gl X x) (hm : X.mg x = none) (hv : bootBuiltins x = some u) (hn : x ≠ "__name__") (hdb : (x == ("__debug__" : Str)) = false) (ha : PE X ea ta)
    (he : starEach [ea] X.env = (false, eval ea X.env) :: starEach [] X.env) : PE X (.Call (.Name x p) [ea] [] pos) (fun σ H Q => ta σ H fun v H1 => r [v] H1 Q) := by
  rcases hk with ⟨id, rfl⟩ | ⟨T, rfl⟩
  · exact pe_callB hc hg hm hv (pa_cons ha pa_nil he) hn hdb he
  · exact pe_callTy hc hg hm hv (pa_cons ha pa_nil he) hn hdb he
theorem call2 {x : Str} {u : Value} {r : List V → Hp → VK → Prop} {ea eb : Expr} {ta tb : TE} {p pos : Pos} (hk : (∃ id, u = .builtin id) ∨ ∃ T, u = .type T) (hc : CallR X u r) (hg : Gl X x) (hm : X.mg x = none) (hv : bootBuiltins x = some u) (hn : x ≠ "__name__") (hdb : (x == ("__debug__" : Str)) = false) (ha : PE X ea ta) (hb : PE X eb tb)
    (he : starEach [ea, eb] X.env = (false, eval ea X.env) :: starEach [eb] X.env) (he2 : starEach [eb] X.env = (false, eval eb X.env) :: starEach [] X.env) : PE X (.Call (.Name x p) [ea, eb] [] pos) (fun σ H Q => ta σ H fun v H1 => tb σ H1 fun w H2 => r [v, w] H2 Q) := by
  rcases hk with ⟨id, rfl⟩ | ⟨T, rfl⟩
  · exact pe_callB hc hg hm hv (pa_cons ha (pa_cons hb pa_nil he2) he) hn hdb he (by rw [he2]; rfl)
  · exact pe_callTy hc hg hm hv (pa_cons ha (pa_cons hb pa_nil he2) he) hn hdb he (by rw [he2]; rfl)
theorem b1k (b : B1) : (∃ id, b1v b = .builtin id) ∨ ∃ T, b1v b = .type T := by
  cases b <;> first | exact .inl ⟨_, rfl⟩ | exact .inr ⟨_, rfl⟩
theorem b1boot (b : B1) : bootBuiltins (b1n b) = some (b1v b) := by cases b <;> decide +kernel
theorem b1nn (b : B1) : b1n b ≠ "__name__" := by cases b <;> decide +kernel
theorem b1nd (b : B1) : (b1n b == ("__debug__" : Str)) = false := by cases b <;> decide +kernel
theorem ze_b1 (hZ : Z.K = X.K) {b : B1} (hcalm : cold b = true → X.calm = true) {a : E} {ea : Expr} {p pos : Pos} (hg : Gl X (b1n b)) (hm : X.mg (b1n b) = none) (ha : PE X ea (t1 Z W (ev B Φ a))) (he : starEach [ea] X.env = (false, eval ea X.env) :: starEach [] X.env) :
    PE X (.Call (.Name (b1n b) p) [ea] [] pos) (t1 Z W (ev B Φ (.b1 b a))) :=
  PE.of fun σ H Q h => by
    obtain ⟨r, hr, q⟩ := core1 (OK := fun r => ∃ s : List V → Hp → VK → Prop, r = (fun x H Q => s [x] H Q) ∧ CallR X (b1v b) s) (EvO.ev a) ⟨_, fun _ _ _ => False, rfl, fun _ _ _ _ _ _ _ _ _ h => h.elim⟩
      (fun d res hk => by
        obtain ⟨s, hs, rule⟩ := rule_b1 (Z := Z) (W := W) hZ b hcalm d res hk
        exact ⟨_, ⟨s, rfl, hs⟩, fun F H σ ρ x Q I hx q => rule F H σ ρ x Q I hx q⟩) h
    obtain ⟨s, rfl, hs⟩ := hr
    exact ⟨_, call1 (b1k b) hs hg hm (b1boot b) (b1nn b) (b1nd b) ha he, q⟩
theorem ze_lset (hc : X.calm = true) {a : E} {ea : Expr} {p p2 q pos : Pos} (hg : Gl X "len") (hm : X.mg "len" = none) (hg2 : Gl X "set") (hm2 : X.mg "set" = none) (ha : PE X ea (t1 Z W (ev B Φ a))) (na : starEach [ea] X.env = (false, eval ea X.env) :: starEach [] X.env) :
    PE X (.Call (.Name "len" p) [.Call (.Name "set" p2) [ea] [] q] [] pos) (t1 Z W (ev B Φ (.lset a))) :=
  PE.weak (ZS.pe_lenSetS hc hg hm hg2 hm2 ha na) fun σ H Q h => by
    obtain ⟨r, e, q⟩ := core1 (OK := fun r => r = fun v H1 Q => ∃ x : Str, v = .str x ∧ x.cps.size < 4000 ∧ Q (.int (dist [] x.cps.toList : Nat)) H1) (EvO.ev a) ⟨_, rfl⟩ (fun d res hk => ⟨_, rfl, fun F H σ ρ x Q I hx q => by
      split at hk
      · rename_i z
        by_cases hl : z.length < 4000
        · rw [if_pos hl] at hk
          cases hk
          have hx : x = .str ⟨z.toArray⟩ := hx
          exact ⟨_, hx, by simpa using hl, by simpa using fin_v q I (by simp [Rep])⟩
        · rw [if_neg hl] at hk
          cases hk
      · cases hk⟩) h
    subst e
    exact q
def b2n : B2 → Str
  | .min => "min" | .max => "max"
def b2v : B2 → Value
  | .min => .builtin "min" | .max => .builtin "max"
theorem ze_b2 (hc : X.calm = true) {b : B2} {a1 a2 : E} {ea eb : Expr} {p pos : Pos} (hg : Gl X (b2n b)) (hm : X.mg (b2n b) = none) (ha : PE X ea (t1 Z W (ev B Φ a1))) (hb : PE X eb (t1 Z W (ev B Φ a2)))
    (he : starEach [ea, eb] X.env = (false, eval ea X.env) :: starEach [eb] X.env) (he2 : starEach [eb] X.env = (false, eval eb X.env) :: starEach [] X.env) :
    PE X (.Call (.Name (b2n b) p) [ea, eb] [] pos) (t1 Z W (ev B Φ (.b2 b a1 a2))) :=
  PE.of fun σ H Q h => by
    obtain ⟨r, hr, q⟩ := core2 (OK := fun r => ∃ s : List V → Hp → VK → Prop, r = (fun x y H Q => s [x, y] H Q) ∧ CallR X (b2v b) s) (EvO.ev a1) (EvO.ev a2) ⟨_, fun _ _ _ => False, rfl, fun _ _ _ _ _ _ _ _ _ h => h.elim⟩
      (fun d e res hk => by
        unfold b2D at hk
        split at hk
        · cases hk
          exact ⟨_, ⟨_, rfl, call_min2 hc⟩, fun F H σ ρ x y Q I hx hy q => ⟨_, _, sing2 hx hy, fin_v q I (by simp [Rep])⟩⟩
        · cases hk
          exact ⟨_, ⟨_, rfl, call_max2 hc⟩, fun F H σ ρ x y Q I hx hy q => ⟨_, _, sing2 hx hy, fin_v q I (by simp [Rep])⟩⟩
        · cases hk) h
    obtain ⟨s, rfl, hs⟩ := hr
    exact ⟨_, call2 (by cases b <;> exact .inl ⟨_, rfl⟩) hs hg hm (by cases b <;> decide +kernel) (by cases b <;> decide +kernel) (by cases b <;> decide +kernel) ha hb he he2, q⟩
/-! ### ('a', ..).index(x) -/
def conStrs : List (List Nat) → List Expr → Bool
  | [], [] => true
  | t :: ts, .Constant (.str x) _ _ :: es => x.cps.toList == t && conStrs ts es
  | _, _ => false
theorem pa_strs : ∀ (ts : List (List Nat)) (es : List Expr), conStrs ts es = true → PA X es (fun _ H Q => Q (ts.map fun t => V.str ⟨t.toArray⟩) H)
  | [], [], _ => pa_nil
  | [], _ :: _, h => by cases h
  | t :: ts, [], h => by cases h
  | t :: ts, e :: es, h => by
    unfold conStrs at h
    split at h
    · rename_i e1 e2
      cases e1
    · rename_i t' ts' x k p es' e1 e2
      cases e1
      cases e2
      rw [Bool.and_eq_true, beq_iff_eq] at h
      obtain ⟨h1, h2⟩ := h
      subst h1
      exact PA.weak (pa_cons pe_str (pa_strs ts es h2) rfl) fun σ H Q q => (show Q (V.str x :: ts.map fun t => V.str ⟨t.toArray⟩) H from by simpa using q)
    · cases h
theorem idxOf_first : ∀ (ts : List (List Nat)) (s : List Nat) (m : Nat), m < ts.idxOf s → ts[m]? ≠ some s
  | [], s, m, h => by simp at h
  | t :: ts, s, m, h => by
    rw [List.idxOf_cons] at h
    by_cases e : (t == s) = true
    · rw [e] at h
      simp at h
    · rw [Bool.not_eq_true] at e
      rw [e] at h
      cases m with
      | zero =>
        intro z
        simp at z
        subst z
        simp at e
      | succ m =>
        have h : m + 1 < ts.idxOf s + 1 := h
        rw [List.getElem?_cons_succ]
        exact idxOf_first ts s m (by omega)
theorem ze_tix (hZ : Z.K = X.K) {ts : List (List Nat)} {a : E} {es : List Expr} {ea : Expr} {k : Nat} {tp apos pos : Pos} (hc : conStrs ts es = true) (hn : ts.length ≤ 1000) (ha : PE X ea (t1 Z W (ev B Φ a))) (hs : starEach [ea] X.env = [(false, eval ea X.env)]) (hline : (apos.endLine == pos.line) = true) :
    PE X (.Call (.Attribute (.Tuple es k tp) "index" apos) [ea] [] pos) (t1 Z W (ev B Φ (.tix ts a))) := by
  refine ⟨fun pins s σ H Q I h => ?_⟩
  refine PySem.Call_method1 rfl hs hline (wpAny_Tuple_spliced (thn ((pa_strs ts es hc).run tp pins s σ H (fun vs H1 => vs = (ts.map fun t => V.str ⟨t.toArray⟩) ∧ H1 = H) I ⟨rfl, rfl⟩) fun us s1 ⟨xs, H1, I1, r, e1, e2⟩ => ?_))
  subst e1 e2
  have hl : us.length ≤ sizeLine := by
    have := r.length
    rw [List.length_map] at this
    rw [← this, sizeLine_eq]; omega
  refine ⟨hl, "tuple", "tuple.index", PySem.F.plainAttrs_tuple, PySem.F.slot_tuple_index, PySem.F.type_tuple_index, ⟨_, Heap.get?_push_size _ rfl, rfl⟩, fun b e => ⟨_, by cases e; exact Heap.get?_push_size _ rfl, rfl⟩, ?_⟩
  have hf : H1 s1.heap.objs.size = none := I1.hok.fresh (Nat.le_refl _)
  have I2 : Inv X pins σ (upd H1 s1.heap.objs.size (.tup (ts.map fun t => V.str ⟨t.toArray⟩))) { s1 with heap := s1.heap.push { cls := .type "tuple", data := .seq us.toArray } } :=
    I1.laid (t' := s1.toks) (fun b u e => Heap.get?_push_of_some _ e) (Nat.le_refl _) ⟨by rw [r.length]; exact hl, us, r, ⟨_, Heap.get?_push_size _ rfl, rfl, _, rfl⟩⟩
  refine Calls.callWith_builtin rfl (Calls.evalArgs_plain (Calls.spliced_cons ?_))
  obtain ⟨ρ, F, I0, h⟩ := h
  have p0 := Pt.newF (o := .tup (ts.map fun t => V.str ⟨t.toArray⟩)) I0 hf
  have h2 := EQs.later h p0
  have q : EQs Z W (fun b => F b ∨ b = s1.heap.objs.size) (upd H1 s1.heap.objs.size (.tup (ts.map fun t => V.str ⟨t.toArray⟩))) σ ρ (ev B Φ a ρ) (fun vs H2 => ∃ v, vs = [v] ∧ ((∃ s, v = V.str ⟨s.toArray⟩ ∧ ts.contains s = true ∧ Q (.int (ts.idxOf s : Nat)) H2) ∧ H2 s1.heap.objs.size = some (.tup (ts.map fun t => V.str ⟨t.toArray⟩)))) :=
    EQs.one h2 p0.rs (EvO.ev a ρ) fun r ρ1 v H2 F2 _ pt x q => by
      refine ⟨?_, pt.st.keep _ _ upd_same fun w => (p0.rs.wr_nf w).1 (.inr rfl)⟩
      cases hd : dr ρ1 r with
      | none => rw [hd] at q; exact q.elim
      | some d =>
        rw [hd] at q
        have xr := x.read pt.rs hd
        cases d with
        | str s =>
          dsimp only at q
          by_cases hct : ts.contains s = true
          · rw [if_pos hct] at q
            have q3 : EQs Z W F2 H2 σ ρ1 (.ok [.v (.int (ts.idxOf s : Nat))] ρ1) (W1 Q) := EQs.later (show EQs Z W _ _ σ ρ (.ok [.v (.int (ts.idxOf s : Nat))] ρ1) (W1 Q) from q) pt
            exact ⟨s, xr, hct, fin_v q3 pt.rs (by simp [Rep])⟩
          · rw [if_neg hct] at q
            exact q.elim
        | _ => exact q.elim
  refine thn (ha.run pins _ σ _ (fun x H2 => (∃ s, x = V.str ⟨s.toArray⟩ ∧ ts.contains s = true ∧ Q (.int (ts.idxOf s : Nat)) H2) ∧ H2 s1.heap.objs.size = some (.tup (ts.map fun t => V.str ⟨t.toArray⟩))) I2 ⟨ρ, _, p0.rs, q⟩) fun u s2 ⟨y, H2, J2, r2, ⟨sv, ey, hct, q2⟩, hT⟩ => Calls.spliced_nil ?_
  · subst ey
    have hi : ts.idxOf sv < ts.length := List.idxOf_lt_length_iff.mpr (by simpa using hct)
    refine mt_tup_index pins s2 σ H2 (.ref s1.heap.objs.size) [.str ⟨sv.toArray⟩] _ [u] Q J2 rfl (.cons r2 .nil) ⟨s1.heap.objs.size, ts.map fun t => (⟨t.toArray⟩ : Str), ⟨sv.toArray⟩, ts.idxOf sv, rfl, rfl, .inl (.inl (by rw [List.map_map]; exact hT)), ?_, fun m hm => ?_, q2⟩
    · rw [List.getElem?_map, List.getElem?_eq_getElem hi, List.getElem_idxOf]; rfl
    · rw [List.getElem?_map]
      intro z
      obtain ⟨w, h1, h2⟩ := Option.map_eq_some_iff.mp z
      have : w = sv := by
        have := congrArg (fun s : Str => s.cps.toList) h2
        simpa using this
      subst this
      exact idxOf_first ts w m hm h1
/-! ### {} -/
theorem ze_dnew {pos : Pos} : PE X (.Dict [] [] pos) (t1 Z W (ev B Φ .dnew)) :=
  PE.weak pe_dnewK fun σ H Q ⟨ρ, F, I, h⟩ p hp => by
    have q2 := Pt.new (o := .dK []) I hp
    exact W1.out (EQs.own h q2 ⟨fun f => I.fok p f hp, [], by rw [upd_same]; rfl, rfl, .nil_⟩ hp)
end
section
variable {Z : Cd} {W : WX} {F F' F1 F2 : Addr → Prop} {H H' H1 H2 : Hp} {σ σ' σ1 σ2 : L2.St} {ρ ρ' ρ1 ρ2 : Env} {B : Tb} {Φ : CallF} {X : Cx}
/-! ### {'a': .., ..}[x] of literals -/
def litA : E → Option (List D)
  | .nil => some []
  | .cons (.con d) as => (litA as).map (d :: ·)
  | _ => none
def litE : E → Option D
  | .con d => some d
  | .tup as => (litA as).map .tup
  | _ => none
theorem fzA_vs (ρ : Env) : ∀ ds : List D, fzA ρ (ds.map R.v) = some (ds, ρ)
  | [] => rfl
  | d :: ds => by
    show (match fz ρ (.v d) with
      | some (d, ρ1) => (match fzA ρ1 (ds.map R.v) with
        | some (ds, ρ2) => some (d :: ds, ρ2)
        | none => none)
      | none => none) = _
    show (match fzA ρ (ds.map R.v) with
        | some (ds, ρ2) => some (d :: ds, ρ2)
        | none => none) = _
    rw [fzA_vs ρ ds]
theorem litA_ev : ∀ {as : E} {ds : List D}, litA as = some ds → ∀ ρ, ev B Φ as ρ = .ok (ds.map R.v) ρ
  | .nil, ds, h, ρ => by cases h; rfl
  | .cons (.con d) as, ds, h, ρ => by
    obtain ⟨es, h1, rfl⟩ := Option.map_eq_some_iff.mp h
    have z := litA_ev h1 ρ
    unfold ev
    show (Out.one (.ok [.v d] ρ) fun r ρ1 => (ev B Φ as ρ1).bnd fun rs ρ2 => .ok (r :: rs) ρ2) = _
    show ((ev B Φ as ρ).bnd fun rs ρ2 => .ok (R.v d :: rs) ρ2) = _
    rw [z]
    rfl
theorem litE_ev {a : E} {d : D} (h : litE a = some d) (ρ : Env) : ev B Φ a ρ = .ok [.v d] ρ := by
  unfold litE at h
  split at h
  · cases h; rfl
  · rename_i as
    obtain ⟨ds, h1, rfl⟩ := Option.map_eq_some_iff.mp h
    unfold ev
    rw [litA_ev h1 ρ]
    show (match fzA ρ (ds.map R.v) with
      | some (ds, ρ2) => Out.ok [R.v (.tup ds)] ρ2
      | none => Out.st) = _
    rw [fzA_vs]
  · cases h
theorem RS.garb {p : Addr} {o : HO} (I : RS Z F H σ ρ) (nf : ¬ F p) (no : ¬ Oa σ ρ p) : RS Z F (upd H p o) σ ρ := by
  have up : ∀ b, b ≠ p → ∀ q, H b = some q → upd H p o b = some q := fun b n q e => by rw [upd_ne n]; exact e
  have m : ∀ b, F b → F b ∧ ∀ q, H b = some q → upd H p o b = some q := fun b h => ⟨h, up b fun z => nf (z ▸ h)⟩
  refine ⟨fun b h => by rw [upd_ne (fun z : b = p => nf (z ▸ h))]; exact I.fok b h, I.len, fun j => ?_, I.ap⟩
  have h := I.sl j
  have ne : ∀ b, oa (sg σ j) (gt ρ j) = some b → b ≠ p := fun b q z => no ⟨j, z ▸ q⟩
  cases g : gt ρ j with
  | u => trivial
  | v d b =>
    rw [g] at h
    obtain ⟨v, x, y⟩ := h
    exact ⟨v, x, y.mo m⟩
  | o w2 b =>
    rw [g] at h ne
    obtain ⟨b2, x, y⟩ := h
    exact ⟨b2, x, y.mo m y.nf (up _ (ne b2 (oa_o.mpr x)))⟩
  | k w2 b =>
    rw [g] at h ne
    obtain ⟨b2, x, y⟩ := h
    exact ⟨b2, x, y.mo m y.nf (up _ (ne b2 (by rw [x]; rfl)))⟩
  | e c => rw [g] at h; exact h
  | n c ds =>
    rw [g] at h ne
    obtain ⟨b2, x, y⟩ := h
    exact ⟨b2, x, y.mo m y.1 (up _ (ne b2 (by rw [x]; rfl)))⟩
def sk (k : List Nat) : Key := .inr ⟨k.toArray⟩
theorem sk_inj {a b : List Nat} (h : sk a = sk b) : a = b := by
  have := congrArg (fun k : Key => match k with
    | .inl _ => []
    | .inr s => s.cps.toList) h
  simpa [sk] using this
theorem merge_new : ∀ (kvs acc : List (Key × V)), ((acc ++ kvs).map (·.1)).Nodup → mergeK acc kvs = acc ++ kvs
  | [], acc, _ => by rw [List.append_nil]; rfl
  | p :: r, acc, h => by
    have e : putK acc p.1 p.2 = acc ++ [p] := by
      unfold putK
      rw [if_neg]
      intro z
      obtain ⟨q, hq, eq⟩ := List.any_eq_true.mp z
      rw [decide_eq_true_eq] at eq
      rw [List.map_append, List.nodup_append] at h
      exact h.2.2 q.1 (List.mem_map.mpr ⟨q, hq, rfl⟩) p.1 (List.mem_map.mpr ⟨p, by simp, rfl⟩) eq
    show mergeK (putK acc p.1 p.2) r = _
    rw [e, merge_new r (acc ++ [p]) (by rw [List.append_assoc]; exact h), List.append_assoc]
    rfl
theorem dget_rep : ∀ {ks : List (List Nat)} {ds : List D} {kvs : List (Key × V)} {s : List Nat} {d : D}, kvs.map (·.1) = ks.map sk → RepA Z F H ds (kvs.map (·.2)) → dget ks ds s = some d → ∃ v, valV kvs (sk s) = some v ∧ Rep Z F H d v
  | [], ds, kvs, s, d, _, _, h => by cases ds <;> cases h
  | k :: ks, [], kvs, s, d, _, _, h => by cases h
  | k :: ks, e :: ds, [], s, d, h1, _, _ => by cases h1
  | k :: ks, e :: ds, (q, v) :: kvs, s, d, h1, h2, h => by
    simp only [List.map_cons, List.cons.injEq] at h1
    obtain ⟨rfl, h1⟩ := h1
    rw [List.map_cons] at h2
    simp only [RepA] at h2
    obtain ⟨v', t, e', r1, r2⟩ := h2
    cases e'
    unfold dget at h
    by_cases c : k = s
    · subst c
      rw [if_pos rfl] at h
      cases h
      exact ⟨v, valV_pos rfl, r1⟩
    · rw [if_neg c] at h
      obtain ⟨w, a1, a2⟩ := dget_rep h1 r2 h
      exact ⟨w, by rw [valV_neg (fun z => c (sk_inj z))]; exact a1, a2⟩
inductive Lits (X : Cx) (Z : Cd) (W : WX) (B : Tb) (Φ : CallF) : List (List Nat) → E → List D → List (Option Expr) → List Expr → Prop
  | nil : Lits X Z W B Φ [] .nil [] [] []
  | cons {k : List Nat} {ks : List (List Nat)} {a as : E} {d : D} {ds : List D} {x : Str} {kk : Nat} {kp : Pos} {kes : List (Option Expr)} {e : Expr} {es : List Expr} (hx : x.cps.toList = k) (he : PE X e (t1 Z W (ev B Φ a))) (hl : litE a = some d) (h : Lits X Z W B Φ ks as ds kes es) : Lits X Z W B Φ (k :: ks) (.cons a as) (d :: ds) (some (.Constant (.str x) kk kp) :: kes) (e :: es)
theorem lits_ev {ks : List (List Nat)} {as : E} {ds : List D} {kes : List (Option Expr)} {es : List Expr} (h : Lits X Z W B Φ ks as ds kes es) (ρ : Env) : ev B Φ as ρ = .ok (ds.map R.v) ρ := by
  induction h with
  | nil => rfl
  | @cons k ks a as d ds x kk kp kes e es hx he hl h ih =>
    unfold ev
    rw [litE_ev hl ρ]
    show ((ev B Φ as ρ).bnd fun rs ρ2 => .ok (R.v d :: rs) ρ2) = _
    rw [ih]
    rfl
theorem lits_pps {pos : Pos} {ks : List (List Nat)} {as : E} {ds : List D} {kes : List (Option Expr)} {es : List Expr} (h : Lits X Z W B Φ ks as ds kes es) : kes.all (·.isSome) = true ∧ kes.length = ks.length ∧ es.length = ks.length ∧ ∃ trs, PPs X pos kes es trs ∧
    ∀ (σ : L2.St) (H : Hp) (F : Addr → Prop) (ρ : Env) (p : Addr) (K : List (V × V) → Hp → Prop), RS Z F H σ ρ → H p = some (.dK []) → ¬ Wr σ ρ p → ¬ F p →
      (∀ (F' : Addr → Prop) (H' : Hp) (kvs : List (Key × V)), Pt Z σ ρ F H ρ F' H' → H' p = some (.dK []) → ¬ F' p → kvs.map (·.1) = ks.map sk → RepA Z F' H' ds (kvs.map (·.2)) → K (kvs.map fun kv => (kV kv.1, kv.2)) H') → tPairs trs σ H K := by
  induction h with
  | nil => exact ⟨rfl, rfl, rfl, [], pps_nil, fun σ H F ρ p K I hp _ nf q => q F H [] (.refl I) hp nf rfl (by simp [RepA])⟩
  | @cons k ks a as d ds x kk kp kes e es hx he hl h ih =>
    obtain ⟨i1, i2, i3, trs, i4, i5⟩ := ih
    refine ⟨by simp [i1], by simp [i2], by simp [i3], _, pps_cons pe_str he i4, fun σ H F ρ p K I hp nw nf q => ?_⟩
    refine ⟨ρ, F, I, ?_⟩
    rw [litE_ev hl ρ]
    intro vs H1 F1 s I1 r
    obtain ⟨v, t, rfl, r1, r2, _⟩ := r
    have : t = [] := r2
    subst this
    refine ⟨v, rfl, ?_⟩
    have p1 : Pt Z σ ρ F H ρ F1 H1 := ⟨s, I1, fun _ z => z, fun _ z => z⟩
    have hp1 := s.keep p _ hp nw
    have nf1 : ¬ F1 p := fun z => by
      rcases s.fnew p z with y | y | y
      · exact nf y
      · rw [hp] at y; cases y
      · exact nw y
    refine i5 σ H1 F1 ρ p _ I1 hp1 nw nf1 fun F2 H2 kvs p2 hp2 nf2 e1 e2 => ?_
    have rA : RepA Z F2 H2 (d :: ds) (((sk k, v) :: kvs).map (·.2)) := by
      simp only [List.map_cons, RepA]
      exact ⟨v, _, rfl, Rep.mo (p2.st.mono I1) _ _ r1, e2⟩
    have z := q F2 H2 ((sk k, v) :: kvs) (Pt.trans p1 p2) hp2 nf2 (by simp [e1]) rA
    have ek : kV (sk k) = V.str x := by
      show V.str ⟨k.toArray⟩ = _
      rw [← hx]
    rw [List.map_cons] at z
    rw [ek] at z
    exact z
theorem ze_dix (hu : X.A.units + 200 < cLine) {ks : List (List Nat)} {as b : E} {ds : List D} {kes : List (Option Expr)} {es : List Expr} {eb : Expr} {pd pos : Pos} (h : Lits X Z W B Φ ks as ds kes es) (h0 : ks ≠ []) (h15 : ks.length ≤ 15) (hn : ks.Nodup) (hb : PE X eb (t1 Z W (ev B Φ b))) (hs : NoSl eb) :
    PE X (.Subscript (.Dict kes es pd) eb pos) (t1 Z W (ev B Φ (.dix ks as b))) := by
  obtain ⟨l1, l2, l3, trs, l4, l5⟩ := lits_pps h (pos := pd)
  have hk : kes ≠ [] := by
    intro z
    rw [z] at l2
    exact h0 (List.length_eq_zero_iff.mp l2.symm)
  refine PE.weak (pe_dget (by omega) (pe_disp l4 l1 (by omega) hk (by omega)) hb hs) fun σ H Q ⟨ρ, F, I, q⟩ p hp => ?_
  have q : EQs Z W F H σ ρ (ap1 (ev B Φ b ρ) fun d => match d with
      | .str s => (dget ks ds s).map .v
      | _ => none) (W1 Q) := by
    have e : ev B Φ (.dix ks as b) ρ = ap1 (ev B Φ b ρ) fun d => match d with
      | .str s => (dget ks ds s).map .v
      | _ => none := by
      conv => lhs; unfold ev
      rw [lits_ev h ρ]
      show (match fzA ρ (ds.map R.v) with
        | some (ds, ρ2) => ap1 (ev B Φ b ρ2) fun d => match d with
          | .str s => (dget ks ds s).map .v
          | _ => none
        | none => Out.st) = _
      rw [fzA_vs]
    rw [e] at q
    exact q
  have p0 : Pt Z σ ρ F H ρ F (upd H p (.dK [])) := Pt.new I hp
  have nf : ¬ F p := fun z => I.fok p z hp
  have nw : ¬ Wr σ ρ p := fun z => (I.wr_nf z).2 hp
  refine l5 σ _ F ρ p _ p0.rs upd_same nw nf fun F1 H1 kvs p1 hp1 nf1 e1 e2 => ⟨hp1, kvs, rfl, ?_, ?_⟩
  · have := congrArg List.length e1
    rw [List.length_map, List.length_map] at this
    omega
  have nd : (kvs.map (·.1)).Nodup := by
    rw [e1]
    exact (List.pairwise_map).mpr (hn.imp fun a z => a (sk_inj z))
  rw [merge_new kvs [] (by simpa using nd), List.nil_append]
  have m2 : ∀ a, F1 a → F1 a ∧ ∀ o, H1 a = some o → upd H1 p (.dK kvs) a = some o := fun a f => ⟨f, fun o e => by
    rw [upd_ne (fun z : a = p => nf1 (z ▸ f))]; exact e⟩
  have st2 : Pt Z σ ρ F H ρ F1 (upd H1 p (.dK kvs)) := by
    have t := p0.trans p1
    refine ⟨⟨fun a o e n => ?_, fun a e => ?_, t.st.fmo, t.st.fnew⟩, ?_, fun _ z => z, fun _ z => z⟩
    · rw [upd_ne (ne_of_none e hp)]
      exact t.st.keep a o e n
    · by_cases c : a = p
      · rw [c, upd_same]; simp
      · rw [upd_ne c]; exact t.st.live a e
    · exact t.rs.garb nf1 fun z => (I.oa_nf z).2 hp
  refine ⟨ρ, F1, st2.rs, ?_⟩
  refine EQs.one (EQs.later q st2) st2.rs (EvO.ev b ρ) fun r ρ1 v H2 F2 _ pt x q => ?_
  cases hd : dr ρ1 r with
  | none => rw [hd] at q; exact q.elim
  | some d =>
    rw [hd] at q
    have xr := x.read pt.rs hd
    cases d with
    | str s =>
      dsimp only at q
      cases hg : dget ks ds s with
      | none => rw [hg] at q; exact q.elim
      | some d2 =>
        rw [hg] at q
        obtain ⟨v2, a1, a2⟩ := dget_rep e1 e2 hg
        have hp2 : H2 p = some (.dK kvs) := pt.st.keep p _ upd_same fun w => nw (st2.sub p w)
        have xr : v = V.str ⟨s.toArray⟩ := xr
        refine ⟨p, v2, rfl, .inl ⟨kvs, sk s, .inl hp2, xr, a1.symm⟩, ?_⟩
        have q3 : EQs Z W F2 H2 σ ρ1 (.ok [.v d2] ρ1) (W1 Q) := EQs.later (show EQs Z W _ _ σ ρ (.ok [.v d2] ρ1) (W1 Q) from q) pt
        exact fin_v q3 pt.rs (Rep.mo (fun a f => ⟨pt.st.fmo a f, (pt.st.mono st2.rs a f).2⟩) _ _ (Rep.mo m2 _ _ a2))
    | _ => exact q.elim
end
section
variable {Z : Cd} {W : WX} {B : Tb} {Φ : CallF} {X : Cx}
/-! ### isinstance -/
def tyN : Ty → String
  | .int => "int" | .bool => "bool" | .str => "str" | .tup => "tuple" | .lst => "list" | .cls _ => ""
theorem TyX.tf {K : PySem.W.Frag} {F : Addr → Prop} {H : Hp} {a : Addr} {vs : List V} (h : TF K F H a vs) : TyX K H (.ref a) (.type "tuple") := by
  rcases h with ⟨_, h⟩ | ⟨o, its, n, e, c, _⟩
  · rcases h with h | ⟨o, h⟩
    · exact .base (.tup h)
    · exact .fTuple h
  · exact .kTuple e c
theorem TyX.sq {K : PySem.W.Frag} {H : Hp} {a : Addr} {vs : List V} (h : SqL K H a vs) : TyX K H (.ref a) (.type "list") := by
  rcases h with h | ⟨o, its, n, e, c, _⟩
  · rcases h with h | ⟨o, h⟩
    · exact .base (.lst h)
    · exact .base (.frz h)
  · exact .kList e c
/-- what is asked of a class of instances -/
structure InsOk (K : PySem.W.Frag) (C : Addr) : Prop where
  cl : L2.Cls K C
  ha : PySem.W.findIn K (.ref C) "__class__" = some (some (.builtin "object.__class__"))
  hn : PySem.W.specialIn K (.builtin "object.__class__") "__get__" = some (some (.builtin "getset_descriptor.__get__"))
  htk : PySem.W.takesIn K (.builtin "object.__class__") = some true
  hm : PySem.W.mroIn K C (.type "object") = some true
/-- what the class in isinstance stands for -/
def TyVal (Z : Cd) (K : PySem.W.Frag) : Ty → V → Value → Prop
  | .cls c, v, u => v = .ref (Z.cA c) ∧ u = .ref (Z.cA c) ∧ ∀ d, Z.B.ins d = true → InsOk K (Z.cA d) ∧ PySem.W.kitOne K (.ref (Z.cA d)) (.ref (Z.cA c)) = some (Z.B.sub d c)
  | t, v, u => v = .ty (tyN t) ∧ u = .type (tyN t)
theorem TyVal.cl {K : PySem.W.Frag} {t : Ty} {v : V} {u : Value} (h : TyVal Z K t v u) : ClsV v u := by
  cases t <;> first | (obtain ⟨rfl, rfl⟩ := h; exact .ty _) | (obtain ⟨rfl, rfl, _⟩ := h; exact .own _)
theorem rule_isi (hZ : Z.K = X.K) {t : Ty} {v : V} {u : Value} (hv : TyVal Z X.K t v u) : ∀ d b, isiD Z.B.ins Z.B.sub t d = some b → ∀ F H x, RepT Z F H d x → ∃ k, TyX X.K H x k ∧ PySem.W.kitOne X.K k u = some b := by
  intro d b h F H x hx
  cases d with
  | non =>
    obtain rfl : x = .non := hx
    cases t <;> first | (cases h; obtain ⟨rfl, rfl⟩ := hv; exact ⟨_, .base .non, kit_ty (by decide +kernel)⟩) | cases h
  | bl c =>
    obtain rfl : x = .bl c := hx
    cases t <;> first | (cases h; obtain ⟨rfl, rfl⟩ := hv; exact ⟨_, .base (.bl c), kit_ty (by decide +kernel)⟩) | cases h
  | int c =>
    obtain rfl : x = .int c := hx
    cases t <;> first | (cases h; obtain ⟨rfl, rfl⟩ := hv; exact ⟨_, .base (.int c), kit_ty (by decide +kernel)⟩) | cases h
  | str c =>
    obtain rfl : x = .str _ := hx
    cases t <;> first | (cases h; obtain ⟨rfl, rfl⟩ := hv; exact ⟨_, .base (.str _), kit_ty (by decide +kernel)⟩) | cases h
  | tup c =>
    simp only [RepT, Rep] at hx
    obtain ⟨a, vs, rfl, q, _⟩ := hx
    cases t <;> first | (cases h; obtain ⟨rfl, rfl⟩ := hv; exact ⟨_, TyX.tf (hZ ▸ q), kit_ty (by decide +kernel)⟩) | cases h
  | lst c =>
    obtain ⟨a, vs, rfl, q, _⟩ := hx
    cases t <;> first | (cases h; obtain ⟨rfl, rfl⟩ := hv; exact ⟨_, TyX.sq (hZ ▸ q), kit_ty (by decide +kernel)⟩) | cases h
  | dct _ _ =>
    obtain ⟨a, vs, rfl, q, _⟩ := hx
    cases t <;> first | (cases h; obtain ⟨rfl, rfl⟩ := hv; exact ⟨_, .base (.dK q), kit_ty (by decide +kernel)⟩) | cases h
  | obj c ds =>
    simp only [RepT, Rep] at hx
    obtain ⟨a, dx, vs, rfl, fa, hH, _⟩ := hx
    cases t with
    | cls e =>
      obtain ⟨rfl, rfl, hd⟩ := hv
      simp only [isiD] at h
      split at h
      · rename_i hi
        cases h
        obtain ⟨o, k⟩ := hd c hi
        exact ⟨_, .base (.ins hH o.cl o.ha o.hn o.htk o.hm), k⟩
      · cases h
    | _ => cases h
theorem ze_isi (hZ : Z.K = X.K) (hB : Z.B = B) {t : Ty} {v : V} {u : Value} {a : E} {ea eT : Expr} {p pos : Pos} (hg : Gl X "isinstance") (hm : X.mg "isinstance" = none) (hv : TyVal Z X.K t v u) (hT : PE X eT (tC v)) (ha : PE X ea (t1 Z W (ev B Φ a)))
    (he : starEach [ea, eT] X.env = (false, eval ea X.env) :: starEach [eT] X.env) (he2 : starEach [eT] X.env = (false, eval eT X.env) :: starEach [] X.env) :
    PE X (.Call (.Name "isinstance" p) [ea, eT] [] pos) (t1 Z W (ev B Φ (.isi a t))) := by
  refine PE.weak (call2 (.inl ⟨_, rfl⟩) call_isi hg hm PyProof.Rows.boot_isinstance (by decide) (by decide) ha hT he he2) fun σ H Q h => ?_
  obtain ⟨r, e, q⟩ := core1 (OK := fun r => r = fun x H1 Q => rIsi X.K [x, v] H1 Q) (EvO.ev a) ⟨_, rfl⟩ (fun d res hk => ⟨_, rfl, fun F H σ ρ x Q I hx q => by
    obtain ⟨b, hb, rfl⟩ := Option.map_eq_some_iff.mp hk
    rw [← hB] at hb
    obtain ⟨k, h1, h2⟩ := rule_isi hZ hv d b hb F H x hx
    exact ⟨x, v, k, u, b, rfl, hv.cl, h1, h2, fin_v q I (by simp [Rep])⟩⟩) h
  subst e
  exact q
end
end Z

/-! calls -/
namespace Z
open PySem L2
theorem SlSt.oa {s t : Sl} (h : SlSt s t) {x : Option V} {a : Addr} (e : oa x t = some a) : oa x s = some a := by
  rcases h with rfl | ⟨w, f, rfl, ⟨w', rfl⟩ | ⟨d, rfl⟩ | rfl⟩
  · exact e
  · exact oa_o.mpr (oa_o.mp e)
  · exact absurd e oa_v
  · exact absurd e oa_u
theorem argA_len : ∀ {ρ : Env} {rs : List R} {ss : List Sl}, argA ρ rs = some ss → ss.length = rs.length
  | ρ, [], ss, h => by cases h; rfl
  | ρ, r :: rs, ss, h => by
    unfold argA at h
    split at h
    · split at h
      · rename_i e
        cases h
        simp [argA_len e]
      · cases h
    · cases h
theorem argA_get : ∀ {ρ : Env} {rs : List R} {ss : List Sl} {i : Nat} {r : R}, argA ρ rs = some ss → rs[i]? = some r → argS ρ r = some (gt ss i)
  | ρ, [], ss, i, r, h, e => by simp at e
  | ρ, x :: rs, ss, i, r, h, e => by
    unfold argA at h
    split at h
    · rename_i s e1
      split at h
      · rename_i ss' e2
        cases h
        cases i with
        | zero =>
          simp at e
          subst e
          exact e1
        | succ i => exact argA_get (rs := rs) (ss := ss') (i := i) e2 (by simpa using e)
      · cases h
    · cases h
theorem wIx_mem : ∀ {rs : List R} {i j : Nat}, rs[i]? = some (.w j) → j ∈ wIx rs
  | [], i, j, e => by simp at e
  | x :: rs, 0, j, e => by
    simp at e
    subst e
    simp [wIx]
  | x :: rs, i + 1, j, e => by
    have := wIx_mem (rs := rs) (i := i) (by simpa using e)
    cases x <;> simp [wIx, this]
theorem wIx_get : ∀ {rs : List R} {j : Nat}, j ∈ wIx rs → ∃ i : Nat, rs[i]? = some (R.w j)
  | [], j, h => by simp [wIx] at h
  | x :: rs, j, h => by
    cases x with
    | v d =>
      obtain ⟨i, e⟩ := wIx_get (rs := rs) (by simpa [wIx] using h)
      exact ⟨i + 1, by simpa using e⟩
    | o w =>
      obtain ⟨i, e⟩ := wIx_get (rs := rs) (by simpa [wIx] using h)
      exact ⟨i + 1, by simpa using e⟩
    | w k =>
      simp only [wIx, List.mem_cons] at h
      rcases h with h | h
      · subst h
        exact ⟨0, rfl⟩
      · obtain ⟨i, e⟩ := wIx_get (rs := rs) h
        exact ⟨i + 1, by simpa using e⟩
theorem noDup_cons {x : R} {rs : List R} (h : noDup (wIx (x :: rs)) = true) : noDup (wIx rs) = true := by
  cases x with
  | v d => exact h
  | o w => exact h
  | w k =>
    simp only [wIx, noDup, Bool.and_eq_true] at h
    exact h.2
theorem noDup_ix : ∀ {rs : List R} {i j k : Nat}, noDup (wIx rs) = true → rs[i]? = some (.w k) → rs[j]? = some (.w k) → i = j
  | [], i, j, k, _, e, _ => by simp at e
  | x :: rs, 0, 0, k, _, _, _ => rfl
  | x :: rs, 0, j + 1, k, h, e1, e2 => by
    simp at e1
    subst e1
    simp only [wIx, noDup, Bool.and_eq_true, Bool.not_eq_true'] at h
    have := wIx_mem (rs := rs) (i := j) (by simpa using e2)
    have h1 := h.1
    simp [this] at h1
  | x :: rs, i + 1, 0, k, h, e1, e2 => by
    simp at e2
    subst e2
    simp only [wIx, noDup, Bool.and_eq_true, Bool.not_eq_true'] at h
    have := wIx_mem (rs := rs) (i := i) (by simpa using e1)
    have h1 := h.1
    simp [this] at h1
  | x :: rs, i + 1, j + 1, k, h, e1, e2 => by
    have := noDup_ix (noDup_cons h) (i := i) (j := j) (k := k) (by simpa using e1) (by simpa using e2)
    omega
theorem outA_len : ∀ {rs : List R} {ss : List Sl} {ρ : Env}, (outA ρ rs ss).length = ρ.length := Ev.outA.len
theorem outA_ne : ∀ {rs : List R} {ss : List Sl} {ρ : Env} {j : Nat}, j ∉ wIx rs → gt (outA ρ rs ss) j = gt ρ j
  | [], ss, ρ, j, _ => by unfold outA; rfl
  | .v d :: rs, [], ρ, j, _ => by unfold outA; rfl
  | .o d :: rs, [], ρ, j, _ => by unfold outA; rfl
  | .w d :: rs, [], ρ, j, _ => by unfold outA; rfl
  | .v d :: rs, s :: ss, ρ, j, h => by unfold outA; exact outA_ne (by simpa [wIx] using h)
  | .o d :: rs, s :: ss, ρ, j, h => by unfold outA; exact outA_ne (by simpa [wIx] using h)
  | .w i :: rs, s :: ss, ρ, j, h => by
    simp only [wIx, List.mem_cons, not_or] at h
    unfold outA
    rw [outA_ne h.2, gt_pt_ne _ _ h.1]
theorem outA_at : ∀ {rs : List R} {ss : List Sl} {ρ : Env} {i j : Nat}, noDup (wIx rs) = true → rs[i]? = some (.w j) → ss.length = rs.length → gt (outA ρ rs ss) j = outS (gt ρ j) (gt ss i)
  | [], ss, ρ, i, j, _, e, _ => by simp at e
  | x :: rs, [], ρ, i, j, _, _, l => by simp at l
  | x :: rs, s :: ss, ρ, 0, j, h, e, l => by
    simp at e
    subst e
    simp only [wIx, noDup, Bool.and_eq_true, Bool.not_eq_true'] at h
    have hj : j ∉ wIx rs := by
      intro q
      have h1 := h.1
      simp [q] at h1
    unfold outA
    rw [outA_ne hj]
    by_cases q : j < ρ.length
    · rw [gt_pt_eq _ _ q]; rfl
    · rw [gt_ge _ (by rw [pt_length]; omega), gt_ge ρ (by omega)]; rfl
  | x :: rs, s :: ss, ρ, i + 1, j, h, e, l => by
    have e2 : rs[i]? = some (.w j) := by simpa using e
    cases x with
    | v d =>
      unfold outA
      exact outA_at (noDup_cons h) e2 (by simpa using l)
    | o d =>
      unfold outA
      exact outA_at (noDup_cons h) e2 (by simpa using l)
    | w k =>
      unfold outA
      have hk : j ≠ k := by
        intro q
        subst q
        have := noDup_ix h (i := 0) (j := i + 1) (k := j) (by simp) e
        omega
      rw [outA_at (noDup_cons h) e2 (by simpa using l), gt_pt_ne _ _ hk]
      rfl
section
variable {Z : Cd} {W : WX} {F F' F1 : Addr → Prop} {H H' H1 : Hp} {σ : L2.St} {ρ ρ1 : Env}
theorem RepRs.get : ∀ {rs : List R} {vs : List V} {i : Nat} {r : R}, RepRs Z H F1 H1 σ rs vs → rs[i]? = some r → ∃ v, vs[i]? = some v ∧ RepR Z H F1 H1 σ r v
  | [], vs, i, r, h, e => by simp at e
  | x :: rs, vs, 0, r, h, e => by
    obtain ⟨v, t, rfl, y, z, _⟩ := h
    simp at e
    subst e
    exact ⟨v, rfl, y⟩
  | x :: rs, vs, i + 1, r, h, e => by
    obtain ⟨v, t, rfl, y, z, _⟩ := h
    obtain ⟨w, e1, e2⟩ := z.get (i := i) (by simpa using e)
    exact ⟨w, by simpa using e1, e2⟩
theorem oRs_at : ∀ {rs : List R} {vs : List V} {i : Nat} {w : Ow} {a : Addr}, rs[i]? = some (.o w) → vs[i]? = some (.ref a) → a ∈ oRs rs vs
  | [], vs, i, w, a, e, _ => by simp at e
  | x :: rs, [], i, w, a, _, e => by simp at e
  | x :: rs, v :: vs, 0, w, a, e, e2 => by
    simp at e e2
    subst e e2
    simp [oRs, oR]
  | x :: rs, v :: vs, i + 1, w, a, e, e2 => by
    have := oRs_at (rs := rs) (vs := vs) (i := i) (by simpa using e) (by simpa using e2)
    unfold oRs
    split
    · exact List.mem_cons_of_mem _ this
    · exact this
theorem RepRs.fresh : ∀ {rs : List R} {vs : List V} {i j : Nat} {w w' : Ow} {a : Addr}, RepRs Z H F1 H1 σ rs vs → rs[i]? = some (.o w) → rs[j]? = some (.o w') → vs[i]? = some (.ref a) → vs[j]? = some (.ref a) → i = j
  | [], vs, i, j, w, w', a, h, e, _, _, _ => by simp at e
  | x :: rs, vs, 0, 0, w, w', a, h, e1, e2, e3, e4 => rfl
  | x :: rs, vs, 0, j + 1, w, w', a, h, e1, e2, e3, e4 => by
    obtain ⟨v, t, rfl, y, z, n⟩ := h
    simp at e1 e3
    subst e1 e3
    exact absurd (oRs_at (by simpa using e2) (by simpa using e4)) (n a rfl)
  | x :: rs, vs, i + 1, 0, w, w', a, h, e1, e2, e3, e4 => by
    obtain ⟨v, t, rfl, y, z, n⟩ := h
    simp at e2 e4
    subst e2 e4
    exact absurd (oRs_at (by simpa using e1) (by simpa using e3)) (n a rfl)
  | x :: rs, vs, i + 1, j + 1, w, w', a, h, e1, e2, e3, e4 => by
    obtain ⟨v, t, rfl, y, z, n⟩ := h
    have := z.fresh (i := i) (j := j) (by simpa using e1) (by simpa using e2) (by simpa using e3) (by simpa using e4)
    omega
/-- where an argument's thing comes from -/
theorem argOwn {r : R} {s : Sl} {v : V} {a : Addr} (e : argS ρ1 r = some s) (x : RepR Z H F1 H1 σ r v) (h : oa (some v) s = some a) : (∃ w, r = .o w ∧ v = .ref a ∧ H a = none) ∨ ∃ k, r = .w k ∧ oa (sg σ k) (gt ρ1 k) = some a := by
  cases r with
  | v d => cases e; exact absurd h oa_v
  | o w =>
    cases e
    obtain ⟨b, rfl, _, n⟩ := x
    have q := oa_o.mp h
    cases q
    exact .inl ⟨w, rfl, rfl, n⟩
  | w k =>
    have x : sg σ k = some v := x
    refine .inr ⟨k, rfl, ?_⟩
    rw [x]
    unfold argS at e
    dsimp only at e
    split at e
    · cases e; exact absurd h oa_v
    · rename_i w f g
      cases e
      rw [g]
      exact oa_o.mpr (oa_o.mp h)
    · rename_i w f g
      cases e
      rw [g]
      cases v <;> exact h
    · cases e
theorem argWr {r : R} {s : Sl} {v : V} {a : Addr} (e : argS ρ1 r = some s) (x : RepR Z H F1 H1 σ r v) (h : wa (some v) s = some a) : H a = none ∨ ∃ k, r = .w k ∧ wa (sg σ k) (gt ρ1 k) = some a := by
  cases r with
  | v d => cases e; cases v <;> cases h
  | o w =>
    cases e
    obtain ⟨b, rfl, _, n⟩ := x
    cases h
    exact .inl n
  | w k =>
    have x : sg σ k = some v := x
    refine .inr ⟨k, rfl, ?_⟩
    rw [x]
    unfold argS at e
    dsimp only at e
    split at e
    · cases e; cases v <;> cases h
    · rename_i w f g
      cases e
      rw [g]
      cases v <;> exact h
    · rename_i w f g
      cases e
      cases v <;> cases h
    · cases e
theorem gt_some {ss : List Sl} {rs : List R} {i : Nat} (l : ss.length = rs.length) (h : gt ss i ≠ .u) : ∃ r, rs[i]? = some r := by
  have := lt_of_gt ss h
  exact ⟨rs[i]'(by omega), by simp [show i < rs.length by omega]⟩
section
variable {rs : List R} {vs : List V} {ss : List Sl}
/-- at the callee's entry -/
theorem call_in (I : RS Z F H σ ρ) (p : Pt Z σ ρ F H ρ1 F1 H1) (x : RepRs Z H F1 H1 σ rs vs) (ha : argA ρ1 rs = some ss) (nd : noDup (wIx rs) = true) : RS Z F1 H1 (vs.map some) ss where
  fok := p.rs.fok
  len := by rw [argA_len ha, List.length_map, x.len]
  sl := fun i => by
    rw [sg_map]
    cases e : rs[i]? with
    | none =>
      have : ss.length ≤ i := by rw [argA_len ha]; exact List.getElem?_eq_none_iff.mp e
      rw [gt_ge ss this]
      trivial
    | some r =>
      obtain ⟨v, e1, y⟩ := x.get e
      have e2 := argA_get ha e
      rw [e1]
      cases r with
      | v d =>
        have e2 : some (Sl.v d false) = some (gt ss i) := e2
        rw [← Option.some.inj e2]
        exact ⟨v, rfl, y⟩
      | o w =>
        have e2 : some (Sl.o w true) = some (gt ss i) := e2
        rw [← Option.some.inj e2]
        obtain ⟨a, rfl, z, _⟩ := y
        exact ⟨a, rfl, z⟩
      | w k =>
        have y : sg σ k = some v := y
        have q := p.rs.sl k
        rw [y] at q
        unfold argS at e2
        dsimp only at e2
        split at e2
        · rename_i d f g
          rw [← Option.some.inj e2]
          rw [g] at q
          exact q
        · rename_i w f g
          rw [← Option.some.inj e2]
          rw [g] at q
          exact q
        · rename_i w f g
          rw [← Option.some.inj e2]
          rw [g] at q
          exact q
        · cases e2
  ap := fun i j a n h1 h2 => by
    rw [sg_map] at h1 h2
    have hi : gt ss i ≠ .u := fun z => by rw [z] at h1; exact oa_u h1
    have hj : gt ss j ≠ .u := fun z => by rw [z] at h2; exact oa_u h2
    obtain ⟨r, er⟩ := gt_some (argA_len ha) hi
    obtain ⟨r', er'⟩ := gt_some (argA_len ha) hj
    obtain ⟨v, ev, y⟩ := x.get er
    obtain ⟨v', ev', y'⟩ := x.get er'
    rw [ev] at h1
    rw [ev'] at h2
    rcases argOwn (argA_get ha er) y h1 with ⟨w, rfl, rfl, n1⟩ | ⟨k, rfl, z1⟩
    · rcases argOwn (argA_get ha er') y' h2 with ⟨w', rfl, rfl, n2⟩ | ⟨k', rfl, z2⟩
      · exact n (x.fresh er er' ev ev')
      · exact (I.oa_nf (p.subO a ⟨k', z2⟩)).2 n1
    · rcases argOwn (argA_get ha er') y' h2 with ⟨w', rfl, rfl, n2⟩ | ⟨k', rfl, z2⟩
      · exact (I.oa_nf (p.subO a ⟨k, z1⟩)).2 n2
      · have := p.rs.apart z1 z2
        subst this
        exact n (noDup_ix nd er er')
theorem call_wr (x : RepRs Z H F1 H1 σ rs vs) (ha : argA ρ1 rs = some ss) {a : Addr} (h : Wr (vs.map some) ss a) : H a = none ∨ ∃ k, k ∈ wIx rs ∧ wa (sg σ k) (gt ρ1 k) = some a := by
  obtain ⟨i, h⟩ := h
  rw [sg_map] at h
  have hi : gt ss i ≠ .u := fun z => by rw [z] at h; exact oa_u (oa_of_wa h)
  obtain ⟨r, er⟩ := gt_some (argA_len ha) hi
  obtain ⟨v, ev, y⟩ := x.get er
  rw [ev] at h
  rcases argWr (argA_get ha er) y h with n | ⟨k, rfl, z⟩
  · exact .inl n
  · exact .inr ⟨k, wIx_mem er, z⟩
/-- behind the call -/
theorem call_out (I : RS Z F H σ ρ) (p : Pt Z σ ρ F H ρ1 F1 H1) (x : RepRs Z H F1 H1 σ rs vs) (ha : argA ρ1 rs = some ss) (nd : noDup (wIx rs) = true) {outs : List Sl} (st : Step (vs.map some) ss F1 H1 F' H') (ro : RS Z F' H' (vs.map some) outs) :
    Step σ ρ F H F' H' ∧ RS Z F' H' σ (outA ρ1 rs outs) := by
  have ri := call_in I p x ha nd
  have ol : outs.length = rs.length := by rw [ro.len, List.length_map, x.len]
  have wr := fun {a : Addr} (h : Wr (vs.map some) ss a) => call_wr x ha h
  have wr2 : ∀ {a : Addr}, Wr (vs.map some) ss a → H a = none ∨ Wr σ ρ a := fun {a} h => (wr h).elim .inl fun ⟨k, _, q⟩ => .inr (p.sub a ⟨k, q⟩)
  refine ⟨⟨fun a o e n => st.keep a o (p.st.keep a o e n) fun w => (wr2 w).elim (fun z => by rw [e] at z; cases z) n, fun a h => st.live a (p.st.live a h), fun a h => st.fmo a (p.st.fmo a h), fun a h => ?_⟩, ?_⟩
  · rcases st.fnew a h with q | q | q
    · exact p.st.fnew a q
    · exact .inr (.inl (p.st.dead a q))
    · exact (wr2 q).elim (fun z => .inr (.inl z)) fun z => .inr (.inr z)
  have mo := st.mono ri
  -- a slot's own thing that the callee may not touch
  have kept : ∀ {j : Nat} {a : Addr}, oa (sg σ j) (gt ρ1 j) = some a → (j ∈ wIx rs → wa (sg σ j) (gt ρ1 j) ≠ some a) → ¬ Wr (vs.map some) ss a := fun {j a} h n w => by
    rcases wr w with z | ⟨k, hk, z⟩
    · exact (I.oa_nf (p.subO a ⟨j, h⟩)).2 z
    · have e := p.rs.apart h (oa_of_wa z)
      subst e
      exact n hk z
  have nf : ∀ {j : Nat} {a : Addr}, oa (sg σ j) (gt ρ1 j) = some a → ¬ Wr (vs.map some) ss a → ¬ F' a := fun {j a} h n f => by
    have q := p.rs.oa_nf ⟨j, h⟩
    rcases st.fnew a f with z | z | z
    · exact q.1 z
    · exact q.2 z
    · exact n z
  refine ⟨ro.fok, by rw [outA_len]; exact p.rs.len, fun j => ?_, fun i j a n h1 h2 => ?_⟩
  · have q := p.rs.sl j
    by_cases hj : j ∈ wIx rs
    · obtain ⟨i, e⟩ := wIx_get hj
      rw [outA_at nd e ol]
      obtain ⟨v, e1, y⟩ := x.get e
      have y : sg σ j = some v := y
      have e2 := argA_get ha e
      have z := ro.sl i
      rw [sg_map, e1] at z
      cases g : gt ρ1 j with
      | u => trivial
      | v d f =>
        rw [g] at q
        obtain ⟨u, h1, h2⟩ := q
        exact ⟨u, h1, h2.mo mo⟩
      | o w f =>
        rw [y]
        show RSl Z F' H' (some v) (match gt outs i with
          | .o w _ => .o w f
          | .v d true => .v d f
          | _ => .u)
        split
        · rename_i g2
          rw [g2] at z
          exact z
        · rename_i g2
          rw [g2] at z
          exact z
        · trivial
      | k w f =>
        rw [g] at q
        obtain ⟨a, h1, h2⟩ := q
        have ho : oa (sg σ j) (gt ρ1 j) = some a := by rw [g, h1]; rfl
        have nw := kept ho fun _ => by rw [g, h1]; simp [wa]
        exact ⟨a, h1, h2.mo mo (nf ho nw) fun o e => st.keep a o e nw⟩
      | e c => rw [g] at q; exact q
      | n c ds =>
        unfold argS at e2
        dsimp only at e2
        rw [g] at e2
        cases e2
    · rw [outA_ne hj]
      cases g : gt ρ1 j with
      | u => trivial
      | v d f =>
        rw [g] at q
        obtain ⟨u, h1, h2⟩ := q
        exact ⟨u, h1, h2.mo mo⟩
      | o w f =>
        rw [g] at q
        obtain ⟨a, h1, h2⟩ := q
        have ho : oa (sg σ j) (gt ρ1 j) = some a := by rw [g, h1]; rfl
        have nw := kept ho fun z => absurd z hj
        exact ⟨a, h1, h2.mo mo (nf ho nw) fun o e => st.keep a o e nw⟩
      | k w f =>
        rw [g] at q
        obtain ⟨a, h1, h2⟩ := q
        have ho : oa (sg σ j) (gt ρ1 j) = some a := by rw [g, h1]; rfl
        have nw := kept ho fun z => absurd z hj
        exact ⟨a, h1, h2.mo mo (nf ho nw) fun o e => st.keep a o e nw⟩
      | e c => rw [g] at q; exact q
      | n c ds =>
        rw [g] at q
        obtain ⟨a, h1, h2⟩ := q
        have ho : oa (sg σ j) (gt ρ1 j) = some a := by rw [g, h1]; rfl
        have nw := kept ho fun z => absurd z hj
        exact ⟨a, h1, h2.mo mo (nf ho nw) fun o e => st.keep a o e nw⟩
  · exact p.rs.ap i j a n ((Ev.outA.at_ i).oa h1) ((Ev.outA.at_ j).oa h2)
end
end
/-! ### what a def promises -/
def RepF (Z : Cd) (H0 : Hp) (F : Addr → Prop) (H : Hp) : R → V → Prop
  | .v d, v => Rep Z F H d v
  | .o w, v => ∃ a, v = .ref a ∧ ROw Z F H a w ∧ H0 a = none
  | .w _, _ => False
/-- what is owned is the caller's -/
def AllF (ss : List Sl) : Prop := ∀ j w, gt ss j ≠ .o w false ∧ gt ss j ≠ .k w false
def spF (Z : Cd) (Φ : CallF) (q : Nat) : Sp := fun vs H Q E => ∃ F ss, RS Z F H (vs.map some) ss ∧ AllF ss ∧ match Φ q ss with
  | .ok r outs => ∀ v H' F', Step (vs.map some) ss F H F' H' → RS Z F' H' (vs.map some) outs → RepF Z H F' H' r v → Q v H'
  | .ex c outs => ∀ H' F', Step (vs.map some) ss F H F' H' → RS Z F' H' (vs.map some) outs → E (.ref (Z.cA c)) none H'
  | .st => False
section
variable {Z : Cd} {W : WX} {F F' F1 : Addr → Prop} {H H' H1 : Hp} {σ : L2.St} {ρ ρ1 : Env} {rs : List R} {vs : List V} {Φ : CallF} {Q : VK} {q : Nat}
theorem RepF.rr {H0 Ha : Hp} {r : R} {v : V} (h : RepF Z H0 F H r v) (n : ∀ a, H0 a = none → Ha a = none) : RepR Z Ha F H σ r v := by
  cases r with
  | v d => exact h
  | o w =>
    obtain ⟨a, e, x, z⟩ := h
    exact ⟨a, e, x, n a z⟩
  | w i => exact h.elim
theorem argA_all {rs : List R} {ss : List Sl} (ha : argA ρ1 rs = some ss) : AllF ss := fun j w => by
  cases e : rs[j]? with
  | none =>
    have : ss.length ≤ j := by rw [argA_len ha]; exact List.getElem?_eq_none_iff.mp e
    rw [gt_ge ss this]
    exact ⟨nofun, nofun⟩
  | some r =>
    have e2 := argA_get ha e
    generalize gt ss j = s at e2
    cases r with
    | v d => cases e2; exact ⟨nofun, nofun⟩
    | o w => cases e2; exact ⟨nofun, nofun⟩
    | w k =>
      unfold argS at e2
      dsimp only at e2
      split at e2
      · cases e2; exact ⟨nofun, nofun⟩
      · cases e2; exact ⟨nofun, nofun⟩
      · cases e2; exact ⟨nofun, nofun⟩
      · cases e2
theorem call_sp (I : RS Z F H σ ρ) (p : Pt Z σ ρ F H ρ1 F1 H1) (x : RepRs Z H F1 H1 σ rs vs) (h : EQs Z W F H σ ρ (match argA ρ1 rs with
    | some ss => if noDup (wIx rs) then (Φ q ss).back ρ1 rs else .st
    | none => .st) (W1 Q)) : spF Z Φ q vs H1 Q (WE W σ) := by
  cases ha : argA ρ1 rs with
  | none => rw [ha] at h; exact h.elim
  | some ss =>
    rw [ha] at h
    dsimp only at h
    by_cases nd : noDup (wIx rs) = true
    · rw [if_pos nd] at h
      refine ⟨F1, ss, call_in I p x ha nd, argA_all ha, ?_⟩
      cases e : Φ q ss with
      | st => rw [e] at h; exact h.elim
      | ok r outs =>
        rw [e] at h
        intro v H' F' st ro rv
        obtain ⟨s1, s2⟩ := call_out I p x ha nd st ro
        exact W1.out (h [v] H' F' s1 s2 (Rep1 (rv.rr p.st.dead)))
      | ex c outs =>
        rw [e] at h
        intro H' F' st ro
        obtain ⟨s1, s2⟩ := call_out I p x ha nd st ro
        exact h H' F' s1 s2
    · rw [if_neg nd] at h
      exact h.elim
end
end Z

/-! calls, as expressions -/
namespace Z
open PySem L2
/-- the two ways an exception may fly: with no context, or with any -/
def TakesM (md : Bool) (X : Cx) (W : WX) : Prop := match md with
  | true => L2N.Takes X W
  | false => L2.Takes X W
def CXM (md : Bool) (P : Program) (w : World) : CXT := match md with
  | true => L2N.CX P w
  | false => L2.CX P w
theorem passAtM {md : Bool} {X : Cx} {W : WX} (tk : TakesM md X W) (σ : St) : PassesAt (CXM md X.prog X.w) X σ (WE W σ) := by
  cases md
  · exact L2.passAt tk σ
  · exact L2N.passAt tk σ
/-- what a context knows of def q, at address f -/
structure FK (md : Bool) (Z : Cd) (X : Cx) (k : Nat) (Φ : CallF) (q : Nat) (f : Addr) : Prop where
  ok : ∃ fd ps, FnOk X.prog X.w X.K X.mg X.base (CXM md X.prog X.w) k f fd ps (spF Z Φ q) ∧ Binds X.K fd ps []
  kp : PySem.W.keepIn X.K (.ref f) = true
section
variable {Z : Cd} {W : WX} {B : Tb} {Φ : CallF} {X : Cx} {k : Nat} {md : Bool}
theorem ze_call {q : Nat} {f : Addr} {x : Str} {as : E} {e : Expr} {es : List Expr} {p pos : Pos} (fk : FK md Z X k Φ q f) (hr : Room k X.A) (tk : TakesM md X W) (hg : Gl X x) (hm : X.mg x = some (.ref f)) (ha : PA X (e :: es) (tA Z W (ev B Φ as))) (hdb : (x == ("__debug__" : Str)) = false)
    (he : starEach (e :: es) X.env = (false, eval e X.env) :: starEach es X.env) (hpl : (backTo pos (starEach es X.env)).any (·.1) = false) : PE X (.Call (.Name x p) (e :: es) [] pos) (t1 Z W (ev B Φ (.call q as))) := by
  obtain ⟨fd, ps, F, hb⟩ := fk.ok
  exact PE.weak (pe_callS F hr hg hm fk.kp hb (fun σ => passAtM tk σ) ha hdb he hpl) fun σ H Q ⟨ρ, F, I, h⟩ => ⟨ρ, F, I, EQs.bnd h I (EvO.ev as ρ) fun rs ρ1 vs H1 F1 e p x q => call_sp I p x q⟩
theorem ze_call0 {q : Nat} {f : Addr} {x : Str} {p pos : Pos} (fk : FK md Z X k Φ q f) (hr : Room k X.A) (tk : TakesM md X W) (hg : Gl X x) (hm : X.mg x = some (.ref f)) (hdb : (x == ("__debug__" : Str)) = false) : PE X (.Call (.Name x p) [] [] pos) (t1 Z W (ev B Φ (.call q .nil))) := by
  obtain ⟨fd, ps, F, hb⟩ := fk.ok
  have z : PE X (.Call (.Name x p) [] [] pos) (fun σ H Q => spF Z Φ q [] H Q (WE W σ)) := by
    refine ⟨fun pins s σ H Q I h => ?_⟩
    refine wpAny_Call_Name_kw (ld_glob I hg hm ?_ hdb)
    exact PySem.W.callWith_K0 I.kIn fk.kp (run_fnS (E := WE W) (us := []) F hr hb (passAtM tk σ) I .nil h)
  exact PE.weak z fun σ H Q ⟨ρ, F, I, h⟩ => call_sp (rs := []) I (.refl I) rfl h
/-! ### methods -/
def tMethZ (md : Bool) (X : Cx) (W : WX) (m : Str) (ta : TE) (t : TA) : TE := fun σ H Q => ta σ H fun x H1 => ∃ a C dx fs k f fd ps sp, x = .ref a ∧ H1 a = some (.ins C dx fs) ∧ fs.lookup m = none ∧ L2.Cls X.K C ∧ Meth X.K C m f ∧
  FnOk X.prog X.w X.K X.mg X.base (CXM md X.prog X.w) k f fd ps sp ∧ Room k X.A ∧ Binds X.K fd ps [] ∧ t σ H1 fun vs H2 => sp (x :: vs) H2 Q (WE W σ)
theorem pe_methZ {o e : Expr} {es : List Expr} {m : Str} {ta : TE} {t : TA} {apos pos : Pos} {pl : Sem Bool} (he : PE X o ta) (tk : TakesM md X W) (ha : PA X (e :: es) t)
    (hst : starEach (e :: es) X.env = (false, eval e X.env) :: starEach es X.env) (hpl : (backTo pos (starEach es X.env)).any (·.1) = false)
    (ht : eval (.Call (.Attribute o m apos) (e :: es) [] pos) X.env = (do
      let ov ← eval o X.env
      standAt apos.atName
      let (f, first) ← holding [ov] (getMethod ov m pl)
      callWith pos f first (backTo pos (starEach (e :: es) X.env)) (backToKw pos (keywordEach [] X.env)))) :
    PE X (.Call (.Attribute o m apos) (e :: es) [] pos) (tMethZ md X W m ta t) := by
  refine ⟨fun pins s σ H Q I h => ?_⟩
  refine PySem.W.methodCall_KW (pl := pl) (thn (he.run pins s σ H _ I h) fun u s1 ⟨x, H1, I1, rx, a, C, dx, fs, k, f, fd, ps, sp, ex, ea, l, c, hm, F, hr, hb, q⟩ => ?_) ht
  subst ex
  obtain rfl : u = Value.ref a := rx
  refine getmeth_ok I1 ea c hm l ?_
  refine PySem.W.callWith_K (first := [.ref a]) (h₀ := X.base) I.ok.mod.kin hm.kp (thn (ha.run pos pins s1 σ H1 _ I1 q) fun us s2 ⟨vs, H2, I2, r, q2⟩ => ⟨I2.kIn, ?_⟩) hst hpl
  exact run_fnS (E := WE W) (us := .ref a :: us) (vs := .ref a :: vs) F hr hb (passAtM tk σ) I2 (.cons rfl r) q2
theorem pe_methZ0 {o : Expr} {m : Str} {ta : TE} {apos pos : Pos} {pl : Sem Bool} (he : PE X o ta) (tk : TakesM md X W)
    (ht : eval (.Call (.Attribute o m apos) [] [] pos) X.env = (do
      let ov ← eval o X.env
      standAt apos.atName
      let (f, first) ← holding [ov] (getMethod ov m pl)
      callWith pos f first (backTo pos (starEach [] X.env)) (backToKw pos (keywordEach [] X.env)))) :
    PE X (.Call (.Attribute o m apos) [] [] pos) (tMethZ md X W m ta tNil) := by
  refine ⟨fun pins s σ H Q I h => ?_⟩
  refine PySem.W.methodCall_KW (pl := pl) (thn (he.run pins s σ H _ I h) fun u s1 ⟨x, H1, I1, rx, a, C, dx, fs, k, f, fd, ps, sp, ex, ea, l, c, hm, F, hr, hb, q⟩ => ?_) ht
  subst ex
  obtain rfl : u = Value.ref a := rx
  refine getmeth_ok I1 ea c hm l ?_
  exact PySem.W.callWith_K0 (first := [.ref a]) I1.kIn hm.kp (run_fnS (E := WE W) (us := [.ref a]) (vs := [.ref a]) F hr hb (passAtM tk σ) I1 (.cons rfl .nil) q)
/-- what a context knows of method m of class c -/
structure MK (md : Bool) (Z : Cd) (X : Cx) (k : Nat) (Φ : CallF) (c : Nat) (m : Str) (q : Nat) (f : Addr) : Prop where
  cl : L2.Cls X.K (Z.cA c)
  me : Meth X.K (Z.cA c) m f
  fk : FK md Z X k Φ q f
  no : m ∉ Z.names c
theorem look_none {m : Str} : ∀ {ns : List Str} {vs : List V}, m ∉ ns → (ns.zip vs).lookup m = none
  | [], vs, _ => rfl
  | n :: ns, [], _ => rfl
  | n :: ns, v :: vs, h => by
    simp only [List.mem_cons, not_or] at h
    have ne : (m == n) = false := by rw [beq_eq_false_iff_ne]; exact h.1
    simp only [List.zip_cons_cons, List.lookup_cons, ne]
    exact look_none h.2
theorem mcal_core {m : Nat} {mx : Str} {o as : E} (hr : Room k X.A) (hM : ∀ c q, B.mth c m = some q → ∃ f, MK md Z X k Φ c mx q f) {σ : L2.St} {H : Hp} {Q : VK} (h : t1 Z W (ev B Φ (.mcal m o as)) σ H Q) :
    tMethZ md X W mx (t1 Z W (ev B Φ o)) (tA Z W (ev B Φ as)) σ H Q := by
  obtain ⟨ρ, F, I, h⟩ := h
  refine ⟨ρ, F, I, ?_⟩
  refine EQs.one h I (EvO.ev o ρ) fun r ρ1 v H1 F1 _ p x q => ?_
  cases r with
  | o w => exact False.elim q
  | w i => exact False.elim q
  | v d =>
    cases d with
    | obj c ds =>
      dsimp only at q
      cases hq : B.mth c m with
      | none => rw [hq] at q; exact False.elim q
      | some f =>
        rw [hq] at q
        dsimp only at q
        obtain ⟨fa, mk⟩ := hM c f hq
        obtain ⟨fd, ps, FO, hb⟩ := mk.fk.ok
        have x0 : Rep Z F1 H1 (.obj c ds) v := x
        simp only [Rep] at x0
        obtain ⟨a, dx, us, rfl, fa1, hH, hl, ra⟩ := x0
        refine ⟨a, _, dx, _, k, fa, fd, ps, spF Z Φ f, rfl, hH, look_none mk.no, mk.cl, mk.me, FO, hr, hb, ρ1, F1, p.rs, ?_⟩
        refine EQs.bnd (EQs.later q p) p.rs (EvO.ev as ρ1) fun rs ρ2 vs H2 F2 e p2 y q2 => ?_
        have y2 : RepRs Z H1 F2 H2 σ (.v (.obj c ds) :: rs) (.ref a :: vs) := ⟨_, _, rfl, Rep.mo (p2.st.mono p.rs) _ _ x, y, fun b z => by cases z⟩
        refine call_sp p.rs p2 y2 ?_
        cases ha : argA ρ2 rs with
        | none => rw [ha] at q2; exact q2.elim
        | some ss =>
          rw [ha] at q2
          simp only [argA, argS, ha, wIx]
          exact q2
    | _ => exact False.elim q
theorem ze_mcal {m : Nat} {mx : Str} {o as : E} {eo e : Expr} {es : List Expr} {apos pos : Pos} {pl : Sem Bool} (hr : Room k X.A) (tk : TakesM md X W) (hM : ∀ c q, B.mth c m = some q → ∃ f, MK md Z X k Φ c mx q f) (ho : PE X eo (t1 Z W (ev B Φ o))) (ha : PA X (e :: es) (tA Z W (ev B Φ as)))
    (hst : starEach (e :: es) X.env = (false, eval e X.env) :: starEach es X.env) (hpl : (backTo pos (starEach es X.env)).any (·.1) = false)
    (ht : eval (.Call (.Attribute eo mx apos) (e :: es) [] pos) X.env = (do
      let ov ← eval eo X.env
      standAt apos.atName
      let (f, first) ← holding [ov] (getMethod ov mx pl)
      callWith pos f first (backTo pos (starEach (e :: es) X.env)) (backToKw pos (keywordEach [] X.env)))) :
    PE X (.Call (.Attribute eo mx apos) (e :: es) [] pos) (t1 Z W (ev B Φ (.mcal m o as))) :=
  PE.weak (pe_methZ ho tk ha hst hpl ht) fun σ H Q h => mcal_core hr hM h
theorem nil_weak {σ : L2.St} {H : Hp} {Q : List V → Hp → Prop} (h : tA Z W (ev B Φ .nil) σ H Q) : tNil σ H Q := let ⟨ρ, F, I, h⟩ := h; h [] H F .refl I rfl
theorem ze_mcal0 {m : Nat} {mx : Str} {o : E} {eo : Expr} {apos pos : Pos} {pl : Sem Bool} (hr : Room k X.A) (tk : TakesM md X W) (hM : ∀ c q, B.mth c m = some q → ∃ f, MK md Z X k Φ c mx q f) (ho : PE X eo (t1 Z W (ev B Φ o)))
    (ht : eval (.Call (.Attribute eo mx apos) [] [] pos) X.env = (do
      let ov ← eval eo X.env
      standAt apos.atName
      let (f, first) ← holding [ov] (getMethod ov mx pl)
      callWith pos f first (backTo pos (starEach [] X.env)) (backToKw pos (keywordEach [] X.env)))) :
    PE X (.Call (.Attribute eo mx apos) [] [] pos) (t1 Z W (ev B Φ (.mcal m o .nil))) := by
  refine ⟨fun pins s σ H Q I h => ?_⟩
  refine (pe_methZ0 ho tk ht).run pins s σ H Q I ?_
  obtain ⟨ρ, F, I', h⟩ := mcal_core hr hM h
  refine ⟨ρ, F, I', ?_⟩
  cases e : ev B Φ o ρ with
  | st => rw [e] at h; exact h
  | ex c ρ1 => rw [e] at h; exact h
  | ok rs ρ1 =>
    rw [e] at h
    intro vs H1 F1 s1 I1 rr
    obtain ⟨v, rfl, a, C, dx, fs, k, f, fd, ps, sp, ex, ea, l, c, hm, FO, hr, hb, q⟩ := h vs H1 F1 s1 I1 rr
    exact ⟨v, rfl, a, C, dx, fs, k, f, fd, ps, sp, ex, ea, l, c, hm, FO, hr, hb, nil_weak q⟩
/-! ### a new instance -/
theorem run_makeZ {pins : List (Addr × Obj)} {σ : St} {H : Hp} {s : Shared} {Q : VK} {us : List Value} {vs : List V} {C f : Addr} {fd : FuncData} {ps : List Str} {sp : Sp} (M : Mk X.K C f) (F : FnOk X.prog X.w X.K X.mg X.base (CXM md X.prog X.w) k f fd ps sp) (hr : Room (k + 1) X.A) (hb : Binds X.K fd ps [])
    (tk : TakesM md X W) (I : Inv X pins σ H s) (r : Vals vs us)
    (h : ∀ x dx, H x = none → H dx = none → dx ≠ x → sp (.ref x :: vs) (upd (upd H dx (.own x)) x (.ins C dx [])) (fun v H2 => v = .non ∧ Q (.ref x) H2) (WE W σ)) :
    wpAny (model X.prog X.w) X.A (call (.ref C) us) (EP X pins σ Q) X.xe s := by
  have hq := h (s.heap.objs.size + 1) s.heap.objs.size (I.hok.fresh (Nat.le_succ _)) (I.hok.fresh (Nat.le_refl _)) (Nat.ne_of_lt (Nat.lt_succ_self _))
  have I2 := Inv.made (C := C) I
  have r2 : Vals (V.ref (s.heap.objs.size + 1) :: vs) (Value.ref (s.heap.objs.size + 1) :: us) := .cons rfl r
  have hl : (Value.ref (s.heap.objs.size + 1) :: us ++ []).length = ps.length := by
    have e := r2.length
    rw [F.len _ _ _ _ hq] at e
    rw [List.append_nil]
    exact e.symm
  have hbb := hb _ (Value.ref (s.heap.objs.size + 1) :: us) I2.kIn hl
  rw [List.append_nil] at hbb
  refine wpAny_call (make_map (f := f) I.kIn M.makes M.init (beq_iff_eq.mp M.fn) (codeAny_mono (F.run _ X.stack _ _ ⟨Value.ref (s.heap.objs.size + 1) :: us, []⟩ (Value.ref (s.heap.objs.size + 1) :: us) _ _ (WE W σ) (hr.make C us [])
    (I2.env0.make C us []) hbb r2 hq) fun r s' hq' => ?_))
  cases r with
  | error e => exact passAtM tk σ pins _ _ e s' I2 hq'
  | ok fl =>
    cases fl with
    | ret u =>
      obtain ⟨v, H', I3, rv, ev, q3⟩ := I2.after hq'
      subst ev
      exact ⟨rv, ⟨V.ref (s.heap.objs.size + 1), H', I3, rfl, q3⟩⟩
    | next => exact False.elim hq'
    | brk => exact False.elim hq'
    | cont => exact False.elim hq'
def tMakeZ (W : WX) (C : Addr) (sp : Sp) (t : TA) : TE := fun σ H Q => t σ H fun vs H1 => ∀ x dx, H1 x = none → H1 dx = none → dx ≠ x →
  sp (.ref x :: vs) (upd (upd H1 dx (.own x)) x (.ins C dx [])) (fun v H2 => v = .non ∧ Q (.ref x) H2) (WE W σ)
theorem pe_makeZ {C f : Addr} {fd : FuncData} {ps : List Str} {sp : Sp} {x : Str} {e : Expr} {es : List Expr} {t : TA} {p pos : Pos} (M : Mk X.K C f) (F : FnOk X.prog X.w X.K X.mg X.base (CXM md X.prog X.w) k f fd ps sp) (hr : Room (k + 1) X.A) (hg : Gl X x) (hm : X.mg x = some (.ref C)) (hb : Binds X.K fd ps []) (tk : TakesM md X W)
    (ha : PA X (e :: es) t) (hdb : (x == ("__debug__" : Str)) = false) (he : starEach (e :: es) X.env = (false, eval e X.env) :: starEach es X.env) (hpl : (backTo pos (starEach es X.env)).any (·.1) = false) :
    PE X (.Call (.Name x p) (e :: es) [] pos) (tMakeZ W C sp t) := by
  refine ⟨fun pins s σ H Q I h => ?_⟩
  refine wpAny_Call_Name_kw (ld_glob I hg hm ?_ hdb)
  refine PySem.W.callWith_K (h₀ := X.base) I.ok.mod.kin M.kp (thn (ha.run pos pins s σ H _ I h) fun us s1 ⟨vs, H1, I1, r, q⟩ => ⟨I1.kIn, ?_⟩) he hpl
  exact run_makeZ M F hr hb tk I1 r q
theorem pe_makeZ0 {C f : Addr} {fd : FuncData} {ps : List Str} {sp : Sp} {x : Str} {p pos : Pos} (M : Mk X.K C f) (F : FnOk X.prog X.w X.K X.mg X.base (CXM md X.prog X.w) k f fd ps sp) (hr : Room (k + 1) X.A) (hg : Gl X x) (hm : X.mg x = some (.ref C)) (hb : Binds X.K fd ps []) (tk : TakesM md X W)
    (hdb : (x == ("__debug__" : Str)) = false) : PE X (.Call (.Name x p) [] [] pos) (tMakeZ W C sp tNil) := by
  refine ⟨fun pins s σ H Q I h => ?_⟩
  refine wpAny_Call_Name_kw (ld_glob I hg hm ?_ hdb)
  exact PySem.W.callWith_K0 I.kIn M.kp (run_makeZ (us := []) M F hr hb tk I .nil h)
/-- a class without own __init__ -/
structure Mk0 (K : PySem.W.Frag) (C : Addr) : Prop where
  makes : PySem.W.makesIn K C = true
  init : PySem.W.findIn K (.ref C) "__init__" = some (some (.builtin "object.__init__"))
  top : PySem.W.mroIn K C (.type "object") = some true
  kp : PySem.W.keepIn K (.ref C) = true
theorem run_make0 {pins : List (Addr × Obj)} {σ : St} {H : Hp} {s : Shared} {Q : VK} {C : Addr} (M : Mk0 X.K C) (I : Inv X pins σ H s)
    (h : ∀ x dx, H x = none → H dx = none → dx ≠ x → Q (.ref x) (upd (upd H dx (.own x)) x (.ins C dx []))) : wpAny (model X.prog X.w) X.A (call (.ref C) []) (EP X pins σ Q) X.xe s := by
  have hq := h (s.heap.objs.size + 1) s.heap.objs.size (I.hok.fresh (Nat.le_succ _)) (I.hok.fresh (Nat.le_refl _)) (Nat.ne_of_lt (Nat.lt_succ_self _))
  have I2 := Inv.made (C := C) I
  have e2 : ((s.heap.push PySem.W.emptyDict).push (PySem.W.instObj C s.heap.objs.size)).get? (s.heap.objs.size + 1) = some (PySem.W.instObj C s.heap.objs.size) := by
    have := Heap.get?_push_size (s.heap.push PySem.W.emptyDict) (o := PySem.W.instObj C s.heap.objs.size) rfl
    rwa [Heap.size_push] at this
  refine wpAny_call (make_map0 I.kIn M.makes M.init (fun self => PySem.W.Looks.of_pure (PySem.W.oi_bind _)) ?_)
  have t1 : PySem.W.Looks (model X.prog X.w) ((s.heap.push PySem.W.emptyDict).push (PySem.W.instObj C s.heap.objs.size)) (typeOf (.ref (s.heap.objs.size + 1))) (.ref C) := NwA.type_at e2 rfl
  have t2 : PySem.W.Looks (model X.prog X.w) ((s.heap.push PySem.W.emptyDict).push (PySem.W.instObj C s.heap.objs.size)) (isInstance (.ref (s.heap.objs.size + 1)) (.type "object")) true := t1.andThen (PySem.W.looks_mroIn I2.kIn M.top)
  refine codeAny_call_builtin PySem.W.oi_plain PySem.W.entry_oi (@PySem.W.check_slot (model X.prog X.w) _ _ _ "object.__init__" "object" "__init__" (.ref (s.heap.objs.size + 1)) [] [] _ PySem.W.oi_kind PySem.W.oi_split t2 (NwA.oi_args_any _ [] []) ?_)
  rw [PySem.W.oi_run]
  exact wpAny_pure (And.intro rfl ⟨V.ref (s.heap.objs.size + 1), _, I2, rfl, hq⟩)
theorem ze_make_no {c : Nat} {x : Str} {p pos : Pos} (M : Mk0 X.K (Z.cA c)) (hg : Gl X x) (hm : X.mg x = some (.ref (Z.cA c))) (hdb : (x == ("__debug__" : Str)) = false) (hi : (B.cls c).init = none) (hB : Z.B = B) (hf : (B.cls c).flds = []) :
    PE X (.Call (.Name x p) [] [] pos) (t1 Z W (ev B Φ (.make c .nil))) := by
  have z : PE X (.Call (.Name x p) [] [] pos) (fun σ H Q => ∀ x dx, H x = none → H dx = none → dx ≠ x → Q (.ref x) (upd (upd H dx (.own x)) x (.ins (Z.cA c) dx []))) := by
    refine ⟨fun pins s σ H Q I h => ?_⟩
    refine wpAny_Call_Name_kw (ld_glob I hg hm ?_ hdb)
    exact PySem.W.callWith_K0 I.kIn M.kp (run_make0 M I h)
  refine PE.weak z fun σ H Q ⟨ρ, F, I, h⟩ => fun x dx hx hd ne => ?_
  have e : ev B Φ (.make c .nil) ρ = .ok [.v (.obj c [])] ρ := by
    simp only [ev, Out.bnd, hi]
  rw [e] at h
  have p1 := Pt.new (o := .own x) I hd
  have hx2 : upd H dx (.own x) x = none := by rw [upd_ne (Ne.symm ne)]; exact hx
  have p2 := Pt.newF (o := .ins (Z.cA c) dx []) p1.rs hx2
  refine W1.out (EQs.val h (p1.trans p2) ?_)
  have hn : Z.names c = [] := by unfold Cd.names; rw [hB, hf]; rfl
  simp only [Rep]
  exact ⟨x, dx, [], rfl, .inr rfl, by rw [upd_same, hn]; rfl, by rw [hn]; rfl, .nil_⟩
end
end Z

/-! raise, try; a new instance by __init__, its fields -/
namespace Z
open PySem L2
section
variable {Z : Cd} {W : WX} {B : Tb} {Φ : CallF} {X : Cx} {k : Nat}
/-- what is asked of an exception's class -/
structure XcOk (X : Cx) (C : Addr) : Prop where
  ok : ∃ B newId initId bmB, ExcBaseFacts B newId initId bmB ∧ PySem.W.excIn X.K C bmB newId = true
  kp : PySem.W.keepIn X.K (.ref C) = true
  ra : Raises X (.ref C)
theorem zs_raise {c : Nat} {x m : Str} {j : Nat} {p p2 pos pos' : Pos} {md : Bool} (hc : X.calm = true) (tk : TakesM md X W) (xc : XcOk X (Z.cA c)) (gC : X.mg x = some (.ref (Z.cA c))) (hg : Gl X x) (hdb : (x == ("__debug__" : Str)) = false) :
    PS X (.Raise (some (.Call (.Name x p) [.Constant (.str m) j p2] [] pos)) none pos') (tS Z W (exe B Φ (.rai c))) := by
  obtain ⟨Bn, newId, initId, bmB, F, q⟩ := xc.ok
  cases md
  · exact PS.weak (L2.ps_raise hc tk (L2.pmk_own F q gC xc.kp xc.ra hg hdb)) fun D σ H ⟨ρ, F, I, h⟩ => h σ F H (.refl I)
  · exact PS.weak (L2N.ps_raise hc tk (L2N.pmk_own F q gC xc.kp xc.ra hg hdb)) fun D σ H ⟨ρ, F, I, h⟩ => h σ F H (.refl I)
/-- try without a name; its suite raises -/
theorem zs_tryo {c e : Nat} {b : S} {x y m : Str} {j : Nat} {cv : Value} {body : List Stmt} {np p p2 q1 q2 pos pos' : Pos} (hs : X.stack = X.env :: X.outer) (hf : X.env.frame = some X.env.locals) (hc : Names X x cv) (hpa : ∀ hd : Option Value, PassesOwnAt (model X.prog X.w) (X.A.mark hd) X.A X.env X.xe) (tk : L2.Takes X W)
    (hx : ∀ d, B.exn d = true → PySem.W.exmOne X.K (.ref (Z.cA d)) cv = some (B.sub d c)) (xc : XcOk X (Z.cA e)) (gC : X.mg y = some (.ref (Z.cA e))) (hg : Gl X y) (hdb : (y == ("__debug__" : Str)) = false)
    (hb : ∀ (W : WX) (pn : List (Addr × Obj)) (xe : Value → Shared → Prop), L2N.Takes (X.tr pn xe) W → PassesOwn (model X.prog X.w) X.A X.env xe → PSs (X.tr pn xe) body (tS Z W (exe B Φ b))) :
    PS X (.Try body [.ExceptHandler (some (.Name x np)) none [.Raise (some (.Call (.Name y p) [.Constant (.str m) j p2] [] q1)) none q2] pos'] [] [] pos) (tS Z W (exe B Φ (.tryo b c (.seq (.rai e) .skip)))) := by
  obtain ⟨Bn, newId, initId, bmB, F, q⟩ := xc.ok
  refine PS.weak (L2H.ps_try_onlyX (ts := fun a cls d D σ H => W (.ref (Z.cA e)) none σ H) (tb := fun W => tS Z W (exe B Φ b)) hs hf hc hpa tk (fun W pn xe tkN _ ow => hb W pn xe tkN ow) (fun a oe cls d pn _ _ tkS hot => ?_)) ?_
  · exact pss_one (L2H.ps_raiseH hot tkS (L2N.pmk_own F q gC xc.kp xc.ra hg hdb))
  · intro D σ H ⟨ρ, F, I, h⟩
    refine ⟨ρ, F, I, ?_⟩
    unfold exe at h
    cases e1 : exe B Φ b ρ with
    | st => rw [e1] at h; exact h
    | ok r ρ1 => rw [e1] at h; cases r <;> exact h
    | ex d ρ1 =>
      rw [e1] at h
      dsimp only at h
      intro σ1 F1 H1 x1
      by_cases en : B.exn d = true
      · rw [if_pos en] at h
        refine ⟨B.sub d c, hx d en, fun hb1 a na => ?_, fun hb1 => ?_⟩
        · rw [if_pos hb1] at h
          exact h σ1 F1 H1 x1
        · rw [if_neg (by rw [hb1]; simp)] at h
          exact h σ1 F1 H1 x1
      · rw [if_neg en] at h
        exact h.elim
/-! ### try -/
def Cd.wx (Z : Cd) (e : Option (Addr × Nat)) : Cd := { Z with xa := e }
mutual
theorem Rep.wx {F : Addr → Prop} {H : Hp} {e : Option (Addr × Nat)} : ∀ (d : D) (v : V), Rep (Z.wx e) F H d v ↔ Rep Z F H d v
  | .non, v => by simp only [Rep]
  | .bl b, v => by simp only [Rep]
  | .int i, v => by simp only [Rep]
  | .str x, v => by simp only [Rep]
  | .tup ds, v => by
    simp only [Rep]
    exact exists_congr fun a => exists_congr fun vs => and_congr_right fun _ => and_congr Iff.rfl (RepA.wx ds vs)
  | .lst ds, v => by
    simp only [Rep]
    exact exists_congr fun a => exists_congr fun vs => and_congr_right fun _ => and_congr Iff.rfl (RepA.wx ds vs)
  | .dct ks ds, v => by
    simp only [Rep]
    exact exists_congr fun a => exists_congr fun vs => and_congr_right fun _ => and_congr_right fun _ => and_congr_right fun _ => and_congr_right fun _ => RepA.wx ds vs
  | .obj c ds, v => by
    simp only [Rep]
    exact exists_congr fun a => exists_congr fun dx => exists_congr fun vs => and_congr_right fun _ => and_congr_right fun _ => and_congr Iff.rfl (and_congr Iff.rfl (RepA.wx ds vs))
theorem RepA.wx {F : Addr → Prop} {H : Hp} {e : Option (Addr × Nat)} : ∀ (ds : List D) (vs : List V), RepA (Z.wx e) F H ds vs ↔ RepA Z F H ds vs
  | [], vs => by simp only [RepA]
  | d :: ds, vs => by
    simp only [RepA]
    exact exists_congr fun v => exists_congr fun r => and_congr_right fun _ => and_congr (Rep.wx d v) (RepA.wx ds r)
end
section
variable {F F' F1 : Addr → Prop} {H H' H1 : Hp} {σ σ1 : L2.St} {ρ ρ1 : Env} {e : Option (Addr × Nat)}
theorem ROw.wx {a : Addr} {w : Ow} : ROw (Z.wx e) F H a w ↔ ROw Z F H a w := by
  cases w with
  | L ds => exact and_congr_right fun _ => exists_congr fun vs => and_congr_right fun _ => RepA.wx ds vs
  | K ks ds => exact and_congr_right fun _ => exists_congr fun vs => and_congr_right fun _ => and_congr_right fun _ => RepA.wx ds vs
theorem RNw.wx {a : Addr} {c : Nat} {ds : List D} : RNw (Z.wx e) F H a c ds ↔ RNw Z F H a c ds :=
  and_congr_right fun _ => exists_congr fun dx => exists_congr fun vs => and_congr Iff.rfl (and_congr Iff.rfl (RepA.wx ds vs))
theorem RSl.wx {x : Option V} {s : Sl} (n : ∀ c, s ≠ .e c) : RSl (Z.wx e) F H x s ↔ RSl Z F H x s := by
  cases s with
  | u => exact Iff.rfl
  | v d f => exact exists_congr fun v => and_congr_right fun _ => Rep.wx d v
  | o w f => exact exists_congr fun a => and_congr_right fun _ => ROw.wx
  | k w f => exact exists_congr fun a => and_congr_right fun _ => ROw.wx
  | e c => exact absurd rfl (n c)
  | n c ds => exact exists_congr fun a => and_congr_right fun _ => RNw.wx
theorem RepR.wx {H0 : Hp} {r : R} {v : V} : RepR (Z.wx e) H0 F H σ r v ↔ RepR Z H0 F H σ r v := by
  cases r with
  | v d => exact Rep.wx d v
  | o w => exact exists_congr fun a => and_congr_right fun _ => and_congr ROw.wx Iff.rfl
  | w i => exact Iff.rfl
end
theorem zs_try {c i : Nat} {b s : S} {x n : Str} {cv : Value} {body suite : List Stmt} {b₀ : Stmt} {np pos pos' : Pos} (hs : X.stack = X.env :: X.outer) (hf : X.env.frame = some X.env.locals) (hN : X.N.Nodup) (hi : X.N[i]? = some n) (hln : X.env.kindOf n = some .local) (hc : Names X x cv) (tk : Takes X W)
    (hxa : Z.xa = none) (hx : ∀ d, B.exn d = true → PySem.W.exmOne X.K (.ref (Z.cA d)) cv = some (B.sub d c))
    (hb : ∀ (W : WX) (pn : List (Addr × Obj)) (xe : Value → Shared → Prop), Takes (X.tr pn xe) W → PassesOwn (model X.prog X.w) X.A X.env xe → PSs (X.tr pn xe) body (tS Z W (exe B Φ b)))
    (hsu : ∀ (W : WX) (a : Addr) (oe : Obj) (d : Nat) (pn : List (Addr × Obj)), B.exn d = true → Zc (.ref (Z.cA d)) none oe → (∃ vs, oe.data = .fields vs) → PSs (X.suite a ((a, oe) :: pn)) (b₀ :: suite) (tS (Z.wx (some (a, d))) W (exe B Φ s))) :
    PS X (.Try body [.ExceptHandler (some (.Name x np)) (some n) (b₀ :: suite) pos'] [] [] pos) (tS Z W (exe B Φ (.try b c i s))) := by
  refine PS.weak (ps_try_as (ts := fun a cls d D σ H => ∃ c', B.exn c' = true ∧ cls = .ref (Z.cA c') ∧ d = none ∧ tS (Z.wx (some (a, c'))) W (exe B Φ s) D σ H) (tb := fun W => tS Z W (exe B Φ b)) hs hf hN hi hln hc tk hb ?_) ?_
  · intro a oe cls d pn hz hv
    refine ⟨fun pins s σ H D I ⟨c', en, e1, e2, q⟩ => ?_⟩
    subst e1 e2
    exact (hsu W a oe c' pn en hz hv).run pins s σ H D I q
  · intro D σ H ⟨ρ, F, I, h⟩
    refine ⟨ρ, F, I, ?_⟩
    unfold exe at h
    cases e : exe B Φ b ρ with
    | st => rw [e] at h; exact h
    | ok r ρ1 => rw [e] at h; cases r <;> exact h
    | ex d ρ1 =>
      rw [e] at h
      dsimp only at h
      intro σ1 F1 H1 x1
      by_cases en : B.exn d = true
      · rw [if_pos en] at h
        refine ⟨B.sub d c, hx d en, fun hb1 a na => ?_, fun hb1 => ?_⟩
        · rw [if_pos hb1] at h
          refine ⟨d, en, rfl, rfl, pt ρ1 i (.e d), F1, ?_, ?_⟩
          · have noe : ∀ j c, gt ρ1 j ≠ .e c := fun j c z => by
              have q := x1.rs.sl j
              rw [z] at q
              obtain ⟨_, _, q⟩ := q
              rw [hxa] at q
              cases q
            have I2 : RS (Z.wx (some (a, d))) F1 H1 σ1 ρ1 := ⟨x1.rs.fok, x1.rs.len, fun j => (RSl.wx (noe j)).mpr (x1.rs.sl j), x1.rs.ap⟩
            exact I2.put (s := .e d) ⟨a, rfl, rfl⟩ fun b z => by cases z
          · have noe : ∀ j c, gt ρ1 j ≠ .e c := fun j c z => by
              have q := x1.rs.sl j
              rw [z] at q
              obtain ⟨_, _, q⟩ := q
              rw [hxa] at q
              cases q
            have c0 : SC σ ρ F H (σ1.set i (some (.ref a))) (pt ρ1 i (.e d)) F1 H1 := x1.toSC.put x1.rs.len (s := .e d) rfl (fun b z => by cases z) fun w f z => by cases z
            have back : ∀ {σ2 ρ2 F2 H2}, SS (Z.wx (some (a, d))) (σ1.set i (some (.ref a))) (pt ρ1 i (.e d)) F1 H1 σ2 ρ2 F2 H2 → SS Z σ ρ F H (σ2.set i none) (pt ρ2 i .u) F2 H2 := fun {σ2 ρ2 F2 H2} x2 => by
              have only : ∀ j c, gt ρ2 j = .e c → j = i := fun j c z => by
                have q := x2.ee j c z
                by_cases e : j = i
                · exact e
                · rw [gt_pt_ne _ _ e] at q
                  exact absurd q (noe j c)
              have noe2 : ∀ j c, gt (pt ρ2 i .u) j ≠ .e c := fun j c z => by
                by_cases e : j = i
                · subst e
                  rw [gt_pt] at z
                  split at z
                  · cases z
                  · rename_i q
                    have : ρ2.length ≤ j := Nat.le_of_not_lt fun y => q ⟨rfl, y⟩
                    rw [gt_ge _ this] at z
                    cases z
                · rw [gt_pt_ne _ _ e] at z
                  exact e (only j c z)
              have J := x2.rs.put (i := i) (v := none) (s := .u) trivial fun b z => by cases z
              exact { (c0.trans x2.toSC).put x2.rs.len (s := .u) rfl (fun b z => by cases z) (fun w f z => by cases z) with
                rs := ⟨J.fok, J.len, fun j => (RSl.wx (noe2 j)).mp (J.sl j), J.ap⟩
                ee := fun j c z => absurd z (noe2 j c) }
            cases e2 : exe B Φ s (pt ρ1 i (.e d)) with
            | st => rw [e2] at h; exact h
            | ex c2 ρ2 => rw [e2] at h; exact h.elim
            | ok r ρ2 =>
              rw [e2] at h
              cases r with
              | nx => exact fun σ2 F2 H2 x2 => h _ F2 H2 (back x2)
              | cont => exact fun σ2 F2 H2 x2 => h _ F2 H2 (back x2)
              | brk => exact fun σ2 F2 H2 x2 => h _ F2 H2 (back x2)
              | ret r =>
                have rr : ∀ {σ2 F2 H2 v}, SS (Z.wx (some (a, d))) (σ1.set i (some (.ref a))) (pt ρ1 i (.e d)) F1 H1 σ2 ρ2 F2 H2 → RepR (Z.wx (some (a, d))) H1 F2 H2 σ2 r v → RepR Z H F2 H2 σ2 r v := fun {σ2 F2 H2 v} x2 z => (RepR.wx.mp z).from x1.st.dead
                cases r with
                | v g => exact fun σ2 F2 H2 v x2 z => h _ F2 H2 v (back x2) (rr x2 z : RepR Z H F2 H2 σ2 (.v g) v)
                | o w => exact fun σ2 F2 H2 v x2 z => h _ F2 H2 v (back x2) (rr x2 z : RepR Z H F2 H2 σ2 (.o w) v)
                | w j =>
                  have h : SQs Z W F H σ ρ (if j = i then .st else .ok (.ret (.w j)) (pt ρ2 i .u)) D := h
                  by_cases ej : j = i
                  · rw [if_pos ej] at h; exact h.elim
                  · rw [if_neg ej] at h
                    refine fun σ2 F2 H2 v x2 z => h _ F2 H2 v (back x2) ?_
                    have z : sg σ2 j = some v := z
                    show sg (σ2.set i none) j = some v
                    rw [sg_set, if_neg (fun q => ej q.1)]
                    exact z
        · rw [if_neg (by rw [hb1]; simp)] at h
          exact h σ1 F1 H1 x1
      · rw [if_neg en] at h
        exact h.elim
/-- isinstance(e, C), in the suite -/
theorem ze_isx {i c d : Nat} {a : Addr} {oe : Obj} {pn : List (Addr × Obj)} {n : Str} {eT : Expr} {v : V} {u : Value} {p p2 pos : Pos} (hxa : Z.xa = some (a, d)) (hz : Zc (.ref (Z.cA d)) none oe) (hv : ∃ vs, oe.data = .fields vs) (hE : ExcC X.K (Z.cA d))
    (hg : Gl X "isinstance") (hm : X.mg "isinstance" = none) (hN : X.N[i]? = some n) (hvis : Vis X.env.scope n) (hd1 : (n == ("__debug__" : Str)) = false) (hd2 : (n == ("__classdict__" : Str)) = false)
    (hT : PE (X.suite a ((a, oe) :: pn)) eT (tC v)) (hcl : ∀ w, RelV v w → w = u) (hk : PySem.W.kitOne X.K (.ref (Z.cA d)) u = some (B.sub d c))
    (he : starEach [.Name n p2, eT] X.env = (false, eval (.Name n p2) X.env) :: starEach [eT] X.env) (he2 : starEach [eT] X.env = (false, eval eT X.env) :: starEach [] X.env) :
    PE (X.suite a ((a, oe) :: pn)) (.Call (.Name "isinstance" p) [.Name n p2, eT] [] pos) (t1 Z W (ev B Φ (.isx i c))) := by
  have hvar : PE (X.suite a ((a, oe) :: pn)) (.Name n p2) (tVar i) := pe_var (X := X.suite a ((a, oe) :: pn)) hN hvis hd1 hd2
  refine PE.weak (call2 (X := X.suite a ((a, oe) :: pn)) (.inl ⟨_, rfl⟩) (call_isE (X := X) hE hz hv) hg hm PyProof.Rows.boot_isinstance (by decide) (by decide) hvar hT he he2) fun σ H Q ⟨ρ, F, I, h⟩ => ?_
  simp only [ev] at h
  split at h
  · rename_i d' g
    have q := I.sl i
    rw [g] at q
    obtain ⟨b, e1, e2⟩ := q
    rw [hxa] at e2
    cases e2
    exact ⟨_, sg_some.mp e1, v, u, B.sub d c, rfl, hcl, hk, fin_v h I (by simp [Rep])⟩
  · exact h.elim
def nstarE : Expr → Bool
  | .Starred .. => false
  | _ => true
/-! ### an own list is changed -/
section
variable {F F' F1 : Addr → Prop} {H H' H1 : Hp} {σ σ1 : L2.St} {ρ ρ1 : Env}
theorem Pt.write (I : RS Z F H σ ρ) {i : Nat} {a : Addr} {xs ys : List D} {f : Bool} {vs' : List V} (g : gt ρ i = .o (.L xs) f) (e : sg σ i = some (.ref a)) (r : RepA Z F H ys vs') :
    Pt Z σ ρ F H (pt ρ i (.o (.L ys) f)) F (upd H a (.lst vs')) := by
  have oi : oa (sg σ i) (gt ρ i) = some a := by rw [g, e]; rfl
  have wi : Wr σ ρ a := ⟨i, by rw [g, e]; rfl⟩
  have nF : ∀ b, F b → b ≠ a := fun b f z => (I.oa_nf ⟨i, oi⟩).1 (z ▸ f)
  have l0 := lt_of_gt ρ (i := i) (by rw [g]; nofun)
  have mo : ∀ b, F b → F b ∧ ∀ o, H b = some o → upd H a (.lst vs') b = some o := fun b f => ⟨f, fun o e => by rw [upd_ne (nF b f)]; exact e⟩
  have ev : Ev ρ (pt ρ i (.o (.L ys) f)) := .pt (.inr ⟨_, f, g, .inl ⟨_, rfl⟩⟩)
  refine ⟨⟨fun b o e n => ?_, fun b e => ?_, fun _ f => f, fun _ f => .inl f⟩, ⟨fun b f => ?_, (pt_length ..).trans I.len, fun j => ?_, fun j k b n h1 h2 => I.ap j k b n ((ev.at_ j).oa h1) ((ev.at_ k).oa h2)⟩, fun b w => Ev.wr ev w, fun b w => Ev.oa ev w⟩
  · rw [upd_ne (fun z => n (by rw [z]; exact wi))]; exact e
  · by_cases z : b = a
    · rw [z, upd_same]; simp
    · rw [upd_ne z]; exact e
  · rw [upd_ne (nF b f)]; exact I.fok b f
  · by_cases z : j = i
    · subst z
      rw [gt_pt_eq _ _ l0]
      exact ⟨a, e, fun f => nF a f rfl, vs', upd_same, r.mo mo⟩
    · rw [gt_pt_ne _ _ z]
      have hj := I.sl j
      have ne : ∀ b, oa (sg σ j) (gt ρ j) = some b → b ≠ a := fun b q w => z (I.apart q (w ▸ oi))
      cases gj : gt ρ j with
      | u => trivial
      | v d f =>
        rw [gj] at hj
        obtain ⟨v', h1, h2⟩ := hj
        exact ⟨v', h1, h2.mo mo⟩
      | o w f =>
        rw [gj] at hj ne
        obtain ⟨b, h1, h2⟩ := hj
        exact ⟨b, h1, h2.mo mo h2.nf fun o e => by rw [upd_ne (ne b (oa_o.mpr h1))]; exact e⟩
      | k w f =>
        rw [gj] at hj ne
        obtain ⟨b, h1, h2⟩ := hj
        exact ⟨b, h1, h2.mo mo h2.nf fun o e => by rw [upd_ne (ne b (by rw [h1]; rfl))]; exact e⟩
      | e k => rw [gj] at hj; exact hj
      | n k es =>
        rw [gj] at hj ne
        obtain ⟨b, h1, h2⟩ := hj
        exact ⟨b, h1, h2.mo mo h2.1 fun o e => by rw [upd_ne (ne b (by rw [h1]; rfl))]; exact e⟩
theorem SlSt.own {s t : Sl} (h : SlSt s t) {w : Ow} {f : Bool} (e : t = .o w f) : ∃ w', s = .o w' f := by
  rcases h with q | ⟨w1, f1, q, ⟨w', z⟩ | ⟨d, z⟩ | z⟩
  · exact ⟨w, q ▸ e⟩
  · rw [z] at e
    cases e
    exact ⟨w1, q⟩
  · rw [z] at e; cases e
  · rw [z] at e; cases e
end
theorem list_extQ (l b : Addr) (xs ys : Array Value) (n m : Nat) (dd : Option Addr) (sl : Array (Option Value)) (h0 : ¬(!xs.isEmpty && Builtin.List.listTooLong (xs.size + ys.size)) = true) (h1 : xs.size ≤ sizeLine) (h2 : xs.size + ys.size ≤ sizeLine + 1) :
    Meets (Builtin.«list.extend» ⟨[.ref l, .ref b], []⟩) (fun _ R s => s.heap.get? l = some { cls := .type "list", dict := none, data := .seq xs n, slots := #[] } ∧ s.heap.get? b = some { cls := .type "list", dict := dd, data := .seq ys m, slots := sl } ∧ R (.ok (.ret Value.none)) { s with heap := s.heap.update l (Obj.mapSeq fun x => x ++ ys), toks := s.toks }) :=
  .of_wp fun prog w A R s h => by
    obtain ⟨hp, gg, dr, tk, osz⟩ := s
    obtain ⟨hl, hb, h⟩ := h
    have k1 := AutoSeq1.idx_int
    have k2 := AutoSeq1.sub_tuple_tuple
    have k3 := AutoSeq1.sub_list_list
    have k4 := AutoSeq1.sub_tuple_list
    have k5 := AutoSeq1.sub_list_tuple
    have h3 : (xs ++ ys).size ≤ sizeLine + 1 := by rw [Array.size_append]; omega
    wp_walk using (wpAny_updateSeq hl rfl (hz := h1) (_hz' := h3)), AutoSeq1.wpAny_loadPart' hl, AutoSeq1.wpAny_loadPart' hb
    exact ⟨_, rfl, h⟩
/-- xs.extend(ys), ys any list -/
def rExtQ (K : PySem.W.Frag) : V → List V → Hp → VK → Prop := fun x us H Q => ∃ l b xs zs, x = .ref l ∧ us = [.ref b] ∧ H l = some (.lst xs) ∧ SqL K H b zs ∧ xs.length + zs.length ≤ sizeLine ∧ Q .non (upd H l (.lst (xs ++ zs)))
theorem mt_extQ : MtM X "list.extend" (rExtQ X.K) := by
  intro pins s σ H x vs v us Q I rx rv h
  obtain ⟨l, b, xs, zs, rfl, rfl, hH, hB, hz, q⟩ := h
  cases rx
  obtain ⟨u, rfl, ru⟩ := rv.one
  cases ru
  obtain ⟨z, its, n, r, hl, e⟩ := I.lstM hH
  obtain ⟨its2, r2, p2, z2⟩ := I.list hB
  obtain ⟨⟨cls2, dd2, data2, sl2⟩, n2, ho2, hc2, hdn2, hd2⟩ := p2
  simp only at hc2 hd2
  subst hc2 hd2
  have hl2 := r2.length
  have hsz : its.toArray.size + its2.toArray.size ≤ sizeLine := by rw [List.size_toArray, List.size_toArray]; omega
  have hlong : ¬ (!its.toArray.isEmpty && Builtin.List.listTooLong (its.toArray.size + its2.toArray.size)) = true := by
    rw [notLongL hsz, Bool.and_false]
    exact Bool.false_ne_true
  have q1 : its.toArray.size ≤ sizeLine := by rw [List.size_toArray]; omega
  refine call_meets PySem.F.slot_list_extend ⟨_, e, rfl⟩ PySem.F.entry_list_extend (PySem.F.args_list_extend_2 _ _) (list_extQ l b its.toArray its2.toArray n n2 dd2 sl2 hlong q1 (by omega)) ⟨e, ho2, ?_⟩
  refine ⟨.non, _, I.lset (its' := its ++ its2) hH e (by simp) (r.append r2) ?_, rfl, q⟩
  rw [List.length_append]
  omega
/-- a list method's reading, of data -/
def mutId : MM → String
  | .append => "list.append" | .extend => "list.extend" | .pop => "list.pop" | .insert => "list.insert" | .clear => "list.clear"
def mutNm : MM → Str
  | .append => "append" | .extend => "extend" | .pop => "pop" | .insert => "insert" | .clear => "clear"
theorem rule_mut (hZ : Z.K = X.K) {m : MM} {xs ys ds : List D} {d : D} (h : mutD m xs ds = some (d, ys)) : ∃ r, MtM X (mutId m) r ∧ ∀ (F : Addr → Prop) (H : Hp) (a : Addr) (vs us : List V) (Q : VK), H a = some (.lst vs) → RepA Z F H xs vs → RepA Z F H ds us →
    (∀ y vs', RepA Z F H ys vs' → Rep Z F H d y → Q y (upd H a (.lst vs'))) → r (.ref a) us H Q := by
  unfold mutD at h
  split at h
  · split at h
    · rename_i xs y hl
      cases h
      refine ⟨_, mt_append, fun F H a vs us Q hH r1 r2 k => ?_⟩
      simp only [RepA] at r2
      obtain ⟨u, t, rfl, r3, rfl⟩ := r2
      exact ⟨a, vs, u, rfl, rfl, hH, by rw [← r1.len, sizeLim]; exact hl, k _ _ (r1.app (.cons_ r3 .nil_)) (by simp [Rep])⟩
    · cases h
  · rename_i i
    split at h
    case isFalse => cases h
    rename_i hlim
    cases hi : ixD xs.length i with
    | none => rw [hi] at h; cases h
    | some j =>
      rw [hi] at h
      obtain ⟨y, hy, e⟩ := Option.map_eq_some_iff.mp h
      cases e
      obtain ⟨z1, z2, z3, z4⟩ := ixN_seq hi
      refine ⟨_, mt_popAt, fun F H a vs us Q hH r1 r2 k => ?_⟩
      simp only [RepA, Rep] at r2
      obtain ⟨u, t, rfl, r3, rfl⟩ := r2
      subst r3
      obtain ⟨v, h1, h2⟩ := r1.get hy
      have hl2 : lim = 16777216 := rfl
      exact ⟨a, vs, i, j, v, rfl, rfl, hH, by omega, by omega, by rw [← r1.len]; exact z1, h1, k _ _ (r1.erase_ j) h2⟩
  · obtain ⟨y, hy, e⟩ := Option.map_eq_some_iff.mp h
    cases e
    refine ⟨_, mt_pop, fun F H a vs us Q hH r1 r2 k => ?_⟩
    simp only [RepA] at r2
    subst r2
    obtain ⟨v, h1, h2⟩ := r1.get hy
    rw [r1.len] at h1
    refine ⟨a, vs, v, rfl, rfl, hH, h1, k _ _ ?_ h2⟩
    rw [List.dropLast_eq_take, List.dropLast_eq_take, r1.len]
    exact r1.take_ _
  · rename_i es
    split at h
    · rename_i hl
      cases h
      refine ⟨_, mt_extQ, fun F H a vs us Q hH r1 r2 k => ?_⟩
      simp only [RepA, Rep] at r2
      obtain ⟨u, t, rfl, ⟨b, zs, rfl, lf, h3⟩, rfl⟩ := r2
      exact ⟨a, b, vs, zs, rfl, rfl, hH, hZ ▸ lf.sq, by rw [← r1.len, ← h3.len, sizeLim]; exact hl, k _ _ (r1.app h3) (by simp [Rep])⟩
    · cases h
  · cases h
    refine ⟨_, mt_clear, fun F H a vs us Q hH r1 r2 k => ?_⟩
    simp only [RepA] at r2
    subst r2
    exact ⟨a, vs, rfl, rfl, hH, k _ _ .nil_ (by simp [Rep])⟩
  · cases h
theorem mutSlot (m : MM) : Slot "list" (mutNm m) (mutId m) := by
  cases m
  · exact PySem.F.slot_list_append
  · exact PySem.F.slot_list_extend
  · exact PySem.F.slot_list_pop
  · exact PySem.F.slot_list_insert
  · exact PySem.F.slot_list_clear
theorem mutTy (m : MM) : typeOf (.builtin (mutId m)) = pure (.type "method_descriptor") := by
  cases m
  · exact PySem.F.type_list_append
  · exact PySem.F.type_list_extend
  · exact PySem.F.type_list_pop
  · exact PySem.F.type_list_insert
  · exact PySem.F.type_list_clear
/-- the reading of xs.m(..) -/
theorem mut_core {m : MM} {i : Nat} {as : E} {σ : L2.St} {H : Hp} {Q : VK} (hZ : Z.K = X.K) (h : t1 Z W (ev B Φ (.mut m i as)) σ H Q) : ∃ r, MtM X (mutId m) r ∧ tBM X.K "list" r (tVar i) (tA Z W (ev B Φ as)) σ H Q := by
  obtain ⟨ρ, F, I, h⟩ := h
  unfold ev at h
  by_cases ho : isOL (gt ρ i) = true
  · rw [if_pos ho] at h
    obtain ⟨xs0, f0, g0⟩ : ∃ xs0 f0, gt ρ i = .o (.L xs0) f0 := by
      unfold isOL at ho
      split at ho
      · rename_i xs f e
        exact ⟨xs, f, e⟩
      · cases ho
    have q0 := I.sl i
    rw [g0] at q0
    obtain ⟨a, ea, nf0, vs0, hH0, r0⟩ := q0
    have ty : tyV X.K "list" (.ref a) H := .inl ⟨rfl, vs0, SqL.of hH0⟩
    have ee := EvO.ev (B := B) (Φ := Φ) as ρ
    cases q : ev B Φ as ρ with
    | st => rw [q] at h; exact h.elim
    | ex c ρ1 =>
      rw [q] at h ee
      refine ⟨fun _ _ _ _ => False, (by intro pins s σ H x xs v us Q I rx rv z; exact z.elim), .ref a, sg_some.mp ea, ty, ρ, F, I, ?_⟩
      rw [q]
      exact h
    | ok rs ρ1 =>
      rw [q] at h ee
      simp only [Out.bnd] at h
      by_cases mo : mutO ρ1 m rs = true
      · rw [if_pos mo] at h
        cases hf : fzA ρ1 rs with
        | none => rw [hf] at h; exact h.elim
        | some z =>
          obtain ⟨ds, ρ2⟩ := z
          rw [hf] at h
          dsimp only at h
          split at h
          · rename_i xs f g
            cases hm : mutD m xs ds with
            | none => rw [hm] at h; exact h.elim
            | some z =>
              obtain ⟨d, ys⟩ := z
              rw [hm] at h
              dsimp only at h
              obtain ⟨r, hr, rule⟩ := rule_mut (X := X) (Z := Z) hZ hm
              refine ⟨r, hr, .ref a, sg_some.mp ea, ty, ρ, F, I, ?_⟩
              rw [q]
              intro us H1 F1 s I1 rr
              have p : Pt Z σ ρ F H ρ1 F1 H1 := ⟨s, I1, fun _ w => Ev.wr ee w, fun _ w => Ev.oa ee w⟩
              obtain ⟨F2, p2, ra, mF⟩ := RepRs.froz (Fz.of I p) rr hf
              have h2 := p2.rs.sl i
              rw [g] at h2
              obtain ⟨a', ea', nf, vs, hH, rx⟩ := h2
              rw [ea] at ea'
              cases ea'
              refine rule F2 H1 a vs us Q hH rx ra (fun y vs' r1 r2 => ?_)
              have p3 := Pt.write p2.rs g ea r1
              exact W1.out (EQs.val h (p2.toPt.trans p3) (Rep.mo (p3.st.mono p2.rs) _ _ r2))
          · exact h.elim
      · rw [if_neg mo] at h
        exact h.elim
  · rw [if_neg ho] at h
    exact h.elim
theorem few_ok {es : List Expr} (h : es.all nstarE = true) (hn : es.length < 30) (pos : Pos) (env : PySem.Env) : ((backTo pos (starEach es env)).all (fun x => !x.1) && (backToKw pos (keywordEach [] env)).all (fun x => x.1.isSome)
      && decide (es.length + ([] : List Keyword).length + (if ([] : List Keyword).isEmpty then 0 else 1) < 30)) = true := by
  have e : (backTo pos (starEach es env)).all (fun x => !x.1) = true := by
    clear hn
    induction es with
    | nil => rfl
    | cons e es ih =>
      rw [List.all_cons, Bool.and_eq_true] at h
      have : starEach (e :: es) env = (false, eval e env) :: starEach es env := by cases e <;> first | rfl | exact absurd h.1 Bool.false_ne_true
      rw [this]
      exact ih h.2
  rw [e]
  show (true && true && decide (es.length + 0 + 0 < 30)) = true
  simp [hn]
theorem ze_mut {m : MM} {i : Nat} {x : Str} {as : E} {e : Expr} {es : List Expr} {p apos pos : Pos} (hZ : Z.K = X.K) (hN : X.N[i]? = some x) (hv : Vis X.env.scope x) (hd : (x == ("__debug__" : Str)) = false) (hcd : (x == ("__classdict__" : Str)) = false) (ha : PA X (e :: es) (tA Z W (ev B Φ as)))
    (hfew : ((backTo pos (starEach (e :: es) X.env)).all (fun x => !x.1) && (backToKw pos (keywordEach [] X.env)).all (fun x => x.1.isSome)
      && decide ((e :: es).length + ([] : List Keyword).length + (if ([] : List Keyword).isEmpty then 0 else 1) < 30)) = true)
    (hline : (apos.endLine == pos.line) = true) (hs : starEach (e :: es) X.env = (false, eval e X.env) :: starEach es X.env) (hpl : (backTo pos (starEach es X.env)).any (·.1) = false) :
    PE X (.Call (.Attribute (.Name x p) (mutNm m) apos) (e :: es) [] pos) (t1 Z W (ev B Φ (.mut m i as))) :=
  PE.of fun σ H Q h => let ⟨r, hr, q⟩ := mut_core hZ h; ⟨_, pe_bm PySem.F.plainAttrs_list (mutSlot m) (mutTy m) hr (pe_var hN hv hd hcd) ha rfl hfew hline hs hpl, q⟩
theorem ze_mut0 {m : MM} {i : Nat} {x : Str} {p apos pos : Pos} (hZ : Z.K = X.K) (hN : X.N[i]? = some x) (hv : Vis X.env.scope x) (hd : (x == ("__debug__" : Str)) = false) (hcd : (x == ("__classdict__" : Str)) = false) (hline : (apos.endLine == pos.line) = true) :
    PE X (.Call (.Attribute (.Name x p) (mutNm m) apos) [] [] pos) (t1 Z W (ev B Φ (.mut m i .nil))) :=
  PE.of fun σ H Q h => let ⟨r, hr, q⟩ := mut_core hZ h; ⟨_, pe_bm0 PySem.F.plainAttrs_list (mutSlot m) (mutTy m) hr (pe_var hN hv hd hcd) rfl hline, by
    obtain ⟨v, h1, h2, ρ, F, I, h3⟩ := q
    exact ⟨v, h1, h2, h3 [] H F .refl I rfl⟩⟩
/-! ### methods of texts -/
def bmId : BM → String
  | .starts => "str.startswith" | .part => "str.partition" | .index => "str.index" | .join => "str.join" | .split => "str.split" | .repl => "str.replace" | .upper => "str.upper" | .count => "str.count"
def bmNm : BM → Str
  | .starts => "startswith" | .part => "partition" | .index => "index" | .join => "join" | .split => "split" | .repl => "replace" | .upper => "upper" | .count => "count"
theorem bmSlot (m : BM) : Slot "str" (bmNm m) (bmId m) := by
  cases m
  · exact PySem.F.slot_str_startswith
  · exact PySem.F.slot_str_partition
  · exact PySem.F.slot_str_index
  · exact PySem.F.slot_str_join
  · exact PySem.F.slot_str_split
  · exact PySem.F.slot_str_replace
  · exact PySem.F.slot_str_upper
  · exact PySem.F.slot_str_count
theorem bmTy (m : BM) : typeOf (.builtin (bmId m)) = pure (.type "method_descriptor") := by
  cases m
  · exact PySem.F.type_str_startswith
  · exact PySem.F.type_str_partition
  · exact PySem.F.type_str_index
  · exact PySem.F.type_str_join
  · exact PySem.F.type_str_split
  · exact PySem.F.type_str_replace
  · exact PySem.F.type_str_upper
  · exact PySem.F.type_str_count
section
variable {F F1 : Addr → Prop} {H H1 : Hp} {σ : L2.St} {ρ ρ1 : Env}
def RepTA (Z : Cd) (F : Addr → Prop) (H : Hp) : List D → List V → Prop
  | [], vs => vs = []
  | d :: ds, vs => ∃ v t, vs = v :: t ∧ RepT Z F H d v ∧ RepTA Z F H ds t
theorem RepRs.readA {H0 : Hp} : ∀ {rs : List R} {vs : List V} {ds : List D}, RepRs Z H0 F H σ rs vs → RS Z F H σ ρ → drA ρ rs = some ds → RepTA Z F H ds vs
  | [], vs, ds, h, I, e => by
    cases e
    exact h
  | r :: rs, vs, ds, h, I, e => by
    unfold drA at e
    cases e1 : dr ρ r with
    | none => rw [e1] at e; cases e
    | some d =>
      cases e2 : drA ρ rs with
      | none => rw [e1, e2] at e; cases e
      | some es =>
        rw [e1, e2] at e
        cases e
        obtain ⟨v, t, rfl, x, y, _⟩ := h
        exact ⟨v, t, rfl, x.read I e1, RepRs.readA y I e2⟩
theorem tS_tL (s : Str) : tS' (tL s) = s := by
  cases s
  rfl
theorem rep_str (s : Str) : Rep Z F H (.str (tL s)) (.str s) := by
  simp only [Rep] <;> rw [tS_tL]
theorem rep_strs : ∀ (l : List Str), RepA Z F H (l.map fun s => .str (tL s)) (l.map V.str)
  | [] => by simp [RepA]
  | s :: l => by
    simp only [List.map_cons, RepA]
    exact ⟨_, _, rfl, rep_str s, rep_strs l⟩
theorem strs_rep : ∀ (ys : List D) (ts : List (List Nat)) (vs : List V), allStr ys = some ts → RepA Z F H ys vs → vs = (ts.map tS').map V.str
  | [], ts, vs, e, r => by
    cases e
    simpa [RepA] using r
  | y :: ys, ts, vs, e, r => by
    cases y with
    | str x =>
      unfold allStr at e
      cases e1 : allStr ys with
      | none => rw [e1] at e; cases e
      | some us =>
        rw [e1] at e
        cases e
        simp only [RepA] at r
        obtain ⟨v, t, rfl, r1, r2⟩ := r
        simp only [Rep] at r1
        rw [r1, strs_rep ys us t e1 r2]
        rfl
    | _ => cases e
theorem rule_bm (hZ : Z.K = X.K) {m : BM} {x : List Nat} {ds : List D} {res : R} (h : bmD m x ds = some res) : ∃ r, MtR X (bmId m) r ∧ ∀ (F : Addr → Prop) (H : Hp) (σ : L2.St) (ρ : Env) (us : List V) (Q : VK), RS Z F H σ ρ → RepTA Z F H ds us → EQs Z W F H σ ρ (.ok [res] ρ) (W1 Q) → r (.str (tS' x)) us H Q := by
  have one : ∀ {F : Addr → Prop} {H : Hp} {y : List Nat} {us : List V}, RepTA Z F H [.str y] us → us = [.str (tS' y)] := fun h => by
    obtain ⟨v, t, rfl, r, h⟩ := h
    have h : t = [] := h
    have r : v = .str (tS' _) := r
    rw [h, r]
  unfold bmD at h
  split at h
  · cases h
    exact ⟨_, mt_startswith, fun F H σ ρ us Q I r q => ⟨_, _, rfl, one r, fin_v q I (by simp [Rep])⟩⟩
  · split at h
    · rename_i y i rest e
      cases h
      exact ⟨_, mt_sindex, fun F H σ ρ us Q I r q => ⟨_, _, i, rest, rfl, one r, e, fin_v q I (by simp [Rep])⟩⟩
    · cases h
  · split at h
    · rename_i hl
      cases h
      exact ⟨_, mt_partition, fun F H σ ρ us Q I r q => ⟨_, _, rfl, one r, hl.1, hl.2, fun p hp => fin_tup q I (by
        simp only [RepA]
        exact ⟨_, _, rfl, rep_str _, _, _, rfl, rep_str _, _, _, rfl, rep_str _, rfl⟩) hp⟩⟩
    · cases h
  · rename_i ys
    obtain ⟨ts, e, h⟩ := Option.bind_eq_some_iff.mp h
    split at h
    · rename_i hl
      cases h
      refine ⟨_, mt_join, fun F H σ ρ us Q I r q => ?_⟩
      obtain ⟨v, t, rfl, r, h⟩ := r
      have h : t = [] := h
      subst h
      obtain ⟨a, vs, rfl, s, ra⟩ := r
      have e2 := strs_rep ys ts vs e ra
      subst e2
      exact ⟨_, a, ts.map tS', rfl, rfl, .inl (hZ ▸ s), hl, fin_v q I (rep_str _)⟩
    · cases h
  · rename_i ys
    obtain ⟨ts, e, h⟩ := Option.bind_eq_some_iff.mp h
    split at h
    · rename_i hl
      cases h
      refine ⟨_, mt_join, fun F H σ ρ us Q I r q => ?_⟩
      obtain ⟨v, t, rfl, r, h⟩ := r
      have h : t = [] := h
      subst h
      simp only [RepT, Rep] at r
      obtain ⟨a, vs, rfl, s, ra⟩ := r
      have e2 := strs_rep ys ts vs e ra
      subst e2
      exact ⟨_, a, ts.map tS', rfl, rfl, .inr (hZ ▸ s.sq), hl, fin_v q I (rep_str _)⟩
    · cases h
  · split at h
    · rename_i hl
      cases h
      exact ⟨_, mt_split, fun F H σ ρ us Q I r q => ⟨_, _, rfl, one r, hl.1, hl.2, fun p hp => fin_lst q I (rep_strs _) hp⟩⟩
    · cases h
  · split at h
    · rename_i hl
      cases h
      refine ⟨_, mt_upper, fun F H σ ρ us Q I r q => ?_⟩
      have r : us = [] := r
      subst r
      exact ⟨_, rfl, rfl, hl, fin_v q I (rep_str _)⟩
    · cases h
  · cases h
    exact ⟨_, mt_count, fun F H σ ρ us Q I r q => ⟨_, _, rfl, one r, fin_v q I (by simp [Rep])⟩⟩
  · cases h
theorem bm_core {m : BM} {o as : E} {Q : VK} (hZ : Z.K = X.K) (h : t1 Z W (ev B Φ (.bm m o as)) σ H Q) : ∃ r, MtR X (bmId m) r ∧ tBM X.K "str" r (t1 Z W (ev B Φ o)) (tA Z W (ev B Φ as)) σ H Q := by
  obtain ⟨ρ, F, I, h⟩ := h
  have no : MtR X (bmId m) (fun _ _ _ _ => False) := fun _ _ _ _ _ _ _ _ _ _ _ _ z => z.elim
  have ee := EvO.ev (B := B) (Φ := Φ) o ρ
  unfold ev at h
  cases q : ev B Φ o ρ with
  | st => rw [q] at h; exact h.elim
  | ex c ρ1 =>
    rw [q] at h
    exact ⟨_, no, ρ, F, I, by rw [q]; exact h⟩
  | ok xs ρ1 =>
    rw [q] at h ee
    match xs, q, h with
    | [], _, h => exact h.elim
    | _ :: _ :: _, _, h => exact h.elim
    | [x], q, h =>
      simp only [Out.one, Out.bnd] at h
      split at h
      · rename_i s
        have e2 := EvO.ev (B := B) (Φ := Φ) as ρ1
        have start : ∀ {r : V → List V → Hp → VK → Prop}, (∀ H1 F1, Pt Z σ ρ F H ρ1 F1 H1 → tA Z W (ev B Φ as) σ H1 fun ys H2 => r (.str (tS' s)) ys H2 Q) → tBM X.K "str" r (t1 Z W (ev B Φ o)) (tA Z W (ev B Φ as)) σ H Q := fun {r} k => by
          refine ⟨ρ, F, I, ?_⟩
          rw [q]
          intro vs H1 F1 s1 I1 rr
          obtain ⟨v, t, rfl, x, y, _⟩ := rr
          have : t = [] := y
          subst this
          have hv : v = .str (tS' s) := x
          subst hv
          exact ⟨_, rfl, rfl, k H1 F1 ⟨s1, I1, fun _ w => Ev.wr ee w, fun _ w => Ev.oa ee w⟩⟩
        cases q2 : ev B Φ as ρ1 with
        | st => rw [q2] at h; exact h.elim
        | ex c ρ2 =>
          rw [q2] at h
          refine ⟨_, no, start fun H1 F1 p => ⟨ρ1, F1, p.rs, ?_⟩⟩
          rw [q2]
          intro H2 F2 s2 I2
          exact h H2 F2 (p.st.trans s2 p.sub) I2
        | ok rs ρ2 =>
          rw [q2] at h e2
          simp only [Out.bnd] at h
          cases hd : drA ρ2 rs with
          | none => rw [hd] at h; exact h.elim
          | some ds =>
            rw [hd] at h
            dsimp only at h
            cases hb : bmD m s ds with
            | none => rw [hb] at h; exact h.elim
            | some res =>
              rw [hb] at h
              obtain ⟨r, hr, rule⟩ := rule_bm (W := W) hZ hb
              refine ⟨r, hr, start fun H1 F1 p => ⟨ρ1, F1, p.rs, ?_⟩⟩
              rw [q2]
              intro us H2 F2 s2 I2 rr
              have p2 : Pt Z σ ρ1 F1 H1 ρ2 F2 H2 := ⟨s2, I2, fun _ w => Ev.wr e2 w, fun _ w => Ev.oa e2 w⟩
              exact rule F2 H2 σ ρ2 us Q I2 (RepRs.readA rr I2 hd) (EQs.later h (p.trans p2))
      · exact h.elim
theorem ze_bm {m : BM} {o as : E} {eo e : Expr} {es : List Expr} {apos pos : Pos} (hZ : Z.K = X.K) (ho : PE X eo (t1 Z W (ev B Φ o))) (hb : attributeBase eo (bmNm m) X.env (eval eo X.env) = eval eo X.env) (ha : PA X (e :: es) (tA Z W (ev B Φ as)))
    (hfew : ((backTo pos (starEach (e :: es) X.env)).all (fun x => !x.1) && (backToKw pos (keywordEach [] X.env)).all (fun x => x.1.isSome)
      && decide ((e :: es).length + ([] : List Keyword).length + (if ([] : List Keyword).isEmpty then 0 else 1) < 30)) = true)
    (hline : (apos.endLine == pos.line) = true) (hs : starEach (e :: es) X.env = (false, eval e X.env) :: starEach es X.env) (hpl : (backTo pos (starEach es X.env)).any (·.1) = false) :
    PE X (.Call (.Attribute eo (bmNm m) apos) (e :: es) [] pos) (t1 Z W (ev B Φ (.bm m o as))) :=
  PE.of fun σ H Q h => let ⟨r, hr, q⟩ := bm_core hZ h; ⟨_, pe_bm PySem.F.plainAttrs_str (bmSlot m) (bmTy m) hr ho ha hb hfew hline hs hpl, q⟩
theorem ze_bm0 {m : BM} {o : E} {eo : Expr} {apos pos : Pos} (hZ : Z.K = X.K) (ho : PE X eo (t1 Z W (ev B Φ o))) (hb : attributeBase eo (bmNm m) X.env (eval eo X.env) = eval eo X.env) (hline : (apos.endLine == pos.line) = true) :
    PE X (.Call (.Attribute eo (bmNm m) apos) [] [] pos) (t1 Z W (ev B Φ (.bm m o .nil))) :=
  PE.of fun σ H Q h => let ⟨r, hr, q⟩ := bm_core hZ h; ⟨_, pe_bm0 PySem.F.plainAttrs_str (bmSlot m) (bmTy m) hr ho hb hline, by
    obtain ⟨ρ, F, I, h3⟩ := q
    refine ⟨ρ, F, I, ?_⟩
    cases e : ev B Φ o ρ with
    | st => rw [e] at h3; exact h3
    | ex c ρ1 => rw [e] at h3; exact h3
    | ok rs ρ1 =>
      rw [e] at h3
      intro vs H1 F1 s1 I1 rr
      obtain ⟨v, rfl, ty, ρ2, F2, I2, h4⟩ := h3 vs H1 F1 s1 I1 rr
      exact ⟨v, rfl, ty, h4 [] H1 F2 .refl I2 rfl⟩⟩
end
/-! ### a new instance by its __init__ -/
section
variable {F F' F1 : Addr → Prop} {H H' H1 : Hp} {σ : L2.St} {ρ ρ1 : Env}
/-- a thing that no slot owns is frozen, whatever it is -/
theorem RS.addF {a : Addr} (I : RS Z F H σ ρ) (na : ¬ Oa σ ρ a) (t : H a ≠ none) : RS Z (fun b => F b ∨ b = a) H σ ρ := by
  have m : ∀ b, F b → (F b ∨ b = a) ∧ ∀ o, H b = some o → H b = some o := fun b h => ⟨.inl h, fun _ q => q⟩
  refine ⟨fun b h => h.elim (I.fok b) fun q => by rw [q]; exact t, I.len, fun j => ?_, I.ap⟩
  have h := I.sl j
  have ne : ∀ b, oa (sg σ j) (gt ρ j) = some b → b ≠ a := fun b q z => na ⟨j, z ▸ q⟩
  cases g : gt ρ j with
  | u => trivial
  | v d b =>
    rw [g] at h
    obtain ⟨v, x, y⟩ := h
    exact ⟨v, x, y.mo m⟩
  | o w2 b =>
    rw [g] at h ne
    obtain ⟨b2, x, y⟩ := h
    exact ⟨b2, x, y.mo m (fun z => z.elim y.nf (ne b2 (oa_o.mpr x))) fun _ q => q⟩
  | k w2 b =>
    rw [g] at h ne
    obtain ⟨b2, x, y⟩ := h
    exact ⟨b2, x, y.mo m (fun z => z.elim y.nf (ne b2 (by rw [x]; rfl))) fun _ q => q⟩
  | e c => rw [g] at h; exact h
  | n c ds =>
    rw [g] at h ne
    obtain ⟨b2, x, y⟩ := h
    exact ⟨b2, x, y.mo m (fun z => z.elim y.1 (ne b2 (by rw [x]; rfl))) fun _ q => q⟩
theorem wr_cons {s : Sl} {v : Option V} {a : Addr} (h : Wr (v :: σ) (s :: ρ) a) : wa v s = some a ∨ Wr σ ρ a := by
  obtain ⟨i, h⟩ := h
  cases i with
  | zero => exact .inl h
  | succ i => exact .inr ⟨i, h⟩
theorem RS.tail {s : Sl} {v : Option V} (I : RS Z F H (v :: σ) (s :: ρ)) : RS Z F H σ ρ :=
  ⟨I.fok, by have := I.len; simpa using this, fun i => I.sl (i + 1), fun i j a n h1 h2 => I.ap (i + 1) (j + 1) a (by omega) h1 h2⟩
theorem make_sp {rs : List R} {vs : List V} {q c : Nat} {Q : VK} (hB : Z.B = B) (I : RS Z F H σ ρ) (p : Pt Z σ ρ F H ρ1 F1 H1) (x : RepRs Z H F1 H1 σ rs vs) (h : EQs Z W F H σ ρ (match argA ρ1 rs with
    | some ss => if noDup (wIx rs) then (mkO (B.cls c).flds.length c (Φ q (.n c [] :: ss))).back ρ1 rs else .st
    | none => .st) (W1 Q)) : ∀ a dx, H1 a = none → H1 dx = none → dx ≠ a → spF Z Φ q (.ref a :: vs) (upd (upd H1 dx (.own a)) a (.ins (Z.cA c) dx [])) (fun v H2 => v = .non ∧ Q (.ref a) H2) (WE W σ) := by
  intro a dx ha0 hd0 ne
  cases ha : argA ρ1 rs with
  | none => rw [ha] at h; exact h.elim
  | some ss =>
    rw [ha] at h
    dsimp only at h
    by_cases nd : noDup (wIx rs) = true
    · rw [if_pos nd] at h
      have ri := call_in I p x ha nd
      have p1 := Pt.new (o := .own a) ri hd0
      have ha2 : upd H1 dx (.own a) a = none := by rw [upd_ne (Ne.symm ne)]; exact ha0
      have p2 := Pt.new (o := .ins (Z.cA c) dx []) p1.rs ha2
      have fa : ¬ F1 a := fun f => p.rs.fok a f ha0
      have noa : ¬ Oa (vs.map some) ss a := fun ⟨j, hj⟩ => (ri.oa_nf ⟨j, hj⟩).2 ha0
      have kp : ∀ b o, H1 b = some o → upd (upd H1 dx (.own a)) a (.ins (Z.cA c) dx []) b = some o := fun b o e => by
        rw [upd_ne (ne_of_none e ha0), upd_ne (ne_of_none e hd0)]; exact e
      refine ⟨F1, .n c [] :: ss, ⟨p2.rs.fok, by have := ri.len; simpa using this, fun i => ?_, fun i j b m h1 h2 => ?_⟩, fun j w => ?_, ?_⟩
      · cases i with
        | zero => exact ⟨a, rfl, fa, dx, [], by rw [upd_same]; rfl, Nat.zero_le _, .nil_⟩
        | succ i => exact p2.rs.sl i
      · cases i with
        | zero =>
          have e : V.ref a = V.ref b ∧ True := by
            have : some a = some b := h1
            exact ⟨by rw [Option.some.inj this], trivial⟩
          cases e.1
          cases j with
          | zero => exact m rfl
          | succ j => exact noa ⟨j, h2⟩
        | succ i => cases j with
          | zero =>
            have : some a = some b := h2
            cases this
            exact noa ⟨i, h1⟩
          | succ j => exact p2.rs.ap i j b (by omega) h1 h2
      · cases j with
        | zero => exact ⟨nofun, nofun⟩
        | succ j => exact argA_all ha j w
      · have core : ∀ {outs0 : List Sl} {F' : Addr → Prop} {H' : Hp} {s0 : Sl} {outs : List Sl}, outs0 = s0 :: outs → Step ((V.ref a :: vs).map some) (.n c [] :: ss) F1 (upd (upd H1 dx (.own a)) a (.ins (Z.cA c) dx [])) F' H' → RS Z F' H' ((V.ref a :: vs).map some) outs0 →
            Step (vs.map some) ss F1 H1 F' H' ∧ RS Z F' H' (vs.map some) outs ∧ RSl Z F' H' (some (.ref a)) s0 ∧ (oa (some (.ref a)) s0 = some a → ¬ Oa (vs.map some) outs a) := by
          intro outs0 F' H' s0 outs eo st ro
          subst eo
          refine ⟨⟨fun b o e n => st.keep b o (kp b o e) fun w => ?_, fun b e => st.live b ?_, st.fmo, fun b f => ?_⟩, ro.tail, ro.sl 0, fun z ⟨j, hj⟩ => ro.ap 0 (j + 1) a (by omega) z hj⟩
          · rcases wr_cons w with z | z
            · have : some a = some b := z
              cases this
              rw [ha0] at e; cases e
            · exact n z
          · cases q : H1 b with
            | none => exact absurd q e
            | some o => rw [kp b o q]; simp
          · rcases st.fnew b f with z | z | z
            · exact .inl z
            · refine .inr (.inl ?_)
              cases q : H1 b with
              | none => rfl
              | some o => rw [kp b o q] at z; cases z
            · rcases wr_cons z with y | y
              · have : some a = some b := y
                cases this
                exact .inr (.inl ha0)
              · exact .inr (.inr y)
        cases e : Φ q (.n c [] :: ss) with
        | st => rw [e] at h; exact h.elim
        | ex k outs0 =>
          rw [e] at h
          intro H' F' st ro
          cases outs0 with
          | nil => exact h.elim
          | cons s0 outs =>
            obtain ⟨s1, s2, _, _⟩ := core rfl st ro
            obtain ⟨t1', t2'⟩ := call_out I p x ha nd s1 s2
            exact h H' F' t1' t2'
        | ok r outs0 =>
          rw [e] at h
          intro v H' F' st ro rv
          cases r with
          | o w => exact h.elim
          | w i => exact h.elim
          | v d =>
            cases d with
            | non =>
              cases outs0 with
              | nil => exact h.elim
              | cons s0 outs =>
                cases s0 with
                | n c' ds =>
                  obtain ⟨s1, s2, s3, s4⟩ := core rfl st ro
                  have h : EQs Z W F H σ ρ ((if c' = c ∧ ds.length = (B.cls c).flds.length then FOut.ok (.v (.obj c ds)) outs else .st).back ρ1 rs) (W1 Q) := h
                  by_cases hc : c' = c ∧ ds.length = (B.cls c).flds.length
                  · rw [if_pos hc] at h
                    obtain ⟨rfl, hl⟩ := hc
                    obtain ⟨a', ea, nf, dx', us, hH, hle, ra⟩ := s3
                    cases ea
                    have hl2 : (Z.names c').length = us.length := by
                      have := ra.len
                      unfold Cd.names
                      rw [List.length_map, hB]
                      omega
                    have tr : H' a ≠ none := by rw [hH]; simp
                    have s2' := s2.addF (s4 rfl) tr
                    have s1' : Step (vs.map some) ss F1 H1 (fun b => F' b ∨ b = a) H' := ⟨s1.keep, s1.live, fun b f => .inl (s1.fmo b f), fun b f => f.elim (s1.fnew b) fun z => .inr (.inl (by rw [z]; exact ha0))⟩
                    obtain ⟨t1', t2'⟩ := call_out I p x ha nd s1' s2'
                    have rv' : v = .non := rv
                    refine ⟨rv', W1.out (h [.ref a] H' _ t1' t2' (Rep1 (r := .v (.obj c' ds)) ?_))⟩
                    show Rep Z _ H' (.obj c' ds) (.ref a)
                    simp only [Rep]
                    rw [← hl2, List.take_length] at hH
                    exact ⟨a, dx', us, rfl, .inr rfl, hH, hl2, ra.mo fun b f => ⟨.inl f, fun _ z => z⟩⟩
                  · rw [if_neg hc] at h
                    exact h.elim
                | _ => exact h.elim
            | _ => exact h.elim
    · rw [if_neg nd] at h
      exact h.elim
end
/-- what a context knows of a class that is made by __init__ -/
structure IK (md : Bool) (Z : Cd) (X : Cx) (k : Nat) (Φ : CallF) (c q : Nat) (f : Addr) : Prop where
  km : Mk X.K (Z.cA c) f
  fk : FK md Z X k Φ q f
theorem ze_make {q c : Nat} {f : Addr} {x : Str} {as : E} {e : Expr} {es : List Expr} {p pos : Pos} (hB : Z.B = B) (hi : (B.cls c).init = some q) {md : Bool} (ik : IK md Z X k Φ c q f) (hr : Room (k + 1) X.A) (tk : TakesM md X W) (hg : Gl X x) (hm : X.mg x = some (.ref (Z.cA c))) (ha : PA X (e :: es) (tA Z W (ev B Φ as))) (hdb : (x == ("__debug__" : Str)) = false)
    (he : starEach (e :: es) X.env = (false, eval e X.env) :: starEach es X.env) (hpl : (backTo pos (starEach es X.env)).any (·.1) = false) : PE X (.Call (.Name x p) (e :: es) [] pos) (t1 Z W (ev B Φ (.make c as))) := by
  obtain ⟨fd, ps, F, hb⟩ := ik.fk.ok
  exact PE.weak (pe_makeZ ik.km F hr hg hm hb tk ha hdb he hpl) fun σ H Q ⟨ρ, F, I, h⟩ => ⟨ρ, F, I, EQs.bnd h I (EvO.ev as ρ) fun rs ρ1 vs H1 F1 e p x q => by
    rw [hi] at q
    exact make_sp hB I p x q⟩
theorem ze_make0 {q c : Nat} {f : Addr} {x : Str} {p pos : Pos} (hB : Z.B = B) (hi : (B.cls c).init = some q) {md : Bool} (ik : IK md Z X k Φ c q f) (hr : Room (k + 1) X.A) (tk : TakesM md X W) (hg : Gl X x) (hm : X.mg x = some (.ref (Z.cA c))) (hdb : (x == ("__debug__" : Str)) = false) : PE X (.Call (.Name x p) [] [] pos) (t1 Z W (ev B Φ (.make c .nil))) := by
  obtain ⟨fd, ps, F, hb⟩ := ik.fk.ok
  refine PE.weak (pe_makeZ0 ik.km F hr hg hm hb tk hdb) fun σ H Q ⟨ρ, F, I, h⟩ => ?_
  have h : EQs Z W F H σ ρ (match (B.cls c).init with
    | some f => (match argA ρ [] with
      | some ss => if noDup (wIx []) then (mkO (B.cls c).flds.length c (Φ f (.n c [] :: ss))).back ρ [] else .st
      | none => .st)
    | none => .ok [.v (.obj c [])] ρ) (W1 Q) := h
  rw [hi] at h
  exact make_sp (rs := []) hB I (.refl I) rfl h
/-! ### a field is set -/
theorem put_app : ∀ {ns : List Str} {vs : List V} {f : Str} {y : V}, ns.Nodup → vs.length < ns.length → ns[vs.length]? = some f → putF f y ((ns.take vs.length).zip vs) = (ns.take (vs.length + 1)).zip (vs ++ [y])
  | [], vs, f, y, _, h, _ => by cases h
  | n :: ns, [], f, y, _, _, e => by
    simp at e
    subst e
    simp [putF]
  | n :: ns, v :: vs, f, y, nd, h, e => by
    rw [List.nodup_cons] at nd
    have e2 : ns[vs.length]? = some f := by simpa using e
    have ne : ¬ n = f := fun z => nd.1 (by rw [z]; exact List.mem_of_getElem? e2)
    have ih := put_app (y := y) nd.2 (by simpa using h) e2
    simp only [List.length_cons, List.take_succ_cons, List.zip_cons_cons, putF, if_neg ne, ih, List.cons_append]
theorem zs_setf {f : Nat} {e : E} {x : Str} {ee : Expr} {p p' pos : Pos} (hB : Z.B = B) (hnd : ∀ c, (Z.names c).Nodup) (hsm : ∀ c, (Z.names c).length < 1000) (hf : ∀ c, f ∈ (B.cls c).flds → L2.Cls X.K (Z.cA c) ∧ NoAttr X.K (Z.cA c) (Z.fN f)) (hN : X.N[0]? = some x) (hv : Vis X.env.scope x) (hd : (x == ("__debug__" : Str)) = false) (hcd : (x == ("__classdict__" : Str)) = false)
    (he : PE X ee (t1 Z W (ev B Φ e))) (hs : swapsWith ee (some (.Attribute (.Name x p) (Z.fN f) p')) pos.line X.env = pure false) : PS X (.Assign [.Attribute (.Name x p) (Z.fN f) p'] ee pos) (tS Z W (exe B Φ (.setf f e))) := by
  refine PS.weak (ps_fld (pe_var hN hv hd hcd) he hs) fun D σ H ⟨ρ, F, I, h⟩ => ⟨ρ, F, I, SQs.one h I (EvO.ev e ρ) fun r ρ1 v H1 F1 _ p ev' x q => ?_⟩
  split at q
  · rename_i d ρ2 e2
    obtain ⟨F2, p2, y, _⟩ := RepR.froz (Fz.of I p) x e2
    split at q
    · rename_i c ds g
      split at q
      · rename_i hfl
        have h0 := p2.rs.sl 0
        rw [g] at h0
        obtain ⟨a, ea, nf, dx, us, hH, hle, ra⟩ := h0
        have hm : f ∈ (B.cls c).flds := List.mem_of_getElem? hfl
        obtain ⟨c1, c2⟩ := hf c hm
        have lds := ra.len
        have hn : (Z.names c)[us.length]? = some (Z.fN f) := by
          unfold Cd.names
          rw [hB, List.getElem?_map, ← lds, hfl]; rfl
        have hlt : us.length < (Z.names c).length := (List.getElem?_eq_some_iff.mp hn).1
        have hp := put_app (y := v) (hnd c) hlt hn
        refine ⟨.ref a, sg_some.mp ea, a, _, dx, _, rfl, hH, c1, c2, ?_, ?_⟩
        · have := hsm c
          rw [List.length_zip]
          omega
        · rw [hp]
          have x2 := SS.ofFz p2 (ev'.trans (Ev.fz e2))
          have wr0 : Wr σ ρ2 a := ⟨0, by rw [g, ea]; rfl⟩
          have oa0 : oa (sg σ 0) (gt ρ2 0) = some a := by rw [g, ea]; rfl
          have l0 : 0 < ρ2.length := lt_of_gt ρ2 (by rw [g]; nofun)
          have nF : ∀ b, F2 b → b ≠ a := fun b f z => nf (z ▸ f)
          have mo : ∀ b, F2 b → F2 b ∧ ∀ o, H1 b = some o → upd H1 a (.ins (Z.cA c) dx (((Z.names c).take (us.length + 1)).zip (us ++ [v]))) b = some o := fun b f => ⟨f, fun o e => by rw [upd_ne (nF b f)]; exact e⟩
          have at_ : ∀ j, (j = 0 ∧ gt (pt ρ2 0 (.n c (ds ++ [d]))) j = .n c (ds ++ [d])) ∨ (j ≠ 0 ∧ gt (pt ρ2 0 (.n c (ds ++ [d]))) j = gt ρ2 j) := fun j => by
            by_cases z : j = 0
            · exact .inl ⟨z, by rw [z, gt_pt_eq _ _ l0]⟩
            · exact .inr ⟨z, gt_pt_ne _ _ z⟩
          have oe : ∀ j, oa (sg σ j) (gt (pt ρ2 0 (.n c (ds ++ [d]))) j) = oa (sg σ j) (gt ρ2 j) := fun j => by
            rcases at_ j with ⟨z, z2⟩ | ⟨_, z2⟩
            · subst z
              rw [z2, g]
              cases sg σ 0 with
              | none => rfl
              | some v => cases v <;> rfl
            · rw [z2]
          have we : ∀ b, Wr σ (pt ρ2 0 (.n c (ds ++ [d]))) b → Wr σ ρ2 b := fun b ⟨j, hj⟩ => by
            refine ⟨j, ?_⟩
            rcases at_ j with ⟨z, z2⟩ | ⟨_, z2⟩
            · subst z
              rw [z2] at hj
              rw [g]
              cases q : sg σ 0 with
              | none => rw [q] at hj; cases hj
              | some v => rw [q] at hj; cases v <;> exact hj
            · rw [z2] at hj; exact hj
          have y3 : SS Z σ ρ2 F2 H1 σ (pt ρ2 0 (.n c (ds ++ [d]))) F2 (upd H1 a (.ins (Z.cA c) dx (((Z.names c).take (us.length + 1)).zip (us ++ [v])))) := by
            refine { rs := ⟨fun b f => ?_, (pt_length ..).trans p2.rs.len, fun j => ?_, fun i j b m h1 h2 => p2.rs.ap i j b m (oe i ▸ h1) (oe j ▸ h2)⟩, st := ⟨fun b o e n => ?_, fun b e => ?_, fun _ f => f, fun _ f => .inl f⟩, flag := fun j hj => ?_, own := fun j b hj hn => ?_, sub := fun b hb => .inl (we b hb), kk := fun j w f hj => ?_, ln := rfl, ee := fun j k hj => ?_ }
            · rw [upd_ne (fun z => n (by rw [z]; exact wr0))]; exact e
            · by_cases z : b = a
              · rw [z, upd_same]; simp
              · rw [upd_ne z]; exact e
            · rcases at_ j with ⟨z, z2⟩ | ⟨_, z2⟩
              · subst z
                exact ⟨by rw [g]; rfl, rfl⟩
              · rw [z2] at hj
                exact ⟨hj, rfl⟩
            · rcases at_ j with ⟨z, z2⟩ | ⟨_, z2⟩
              · rw [z2] at hn; cases hn
              · rw [z2] at hj hn
                exact .inr ⟨j, hj, hn⟩
            · rcases at_ j with ⟨z, z2⟩ | ⟨_, z2⟩
              · rw [z2] at hj; cases hj
              · rw [z2] at hj; exact ⟨hj, rfl⟩
            · rw [upd_ne (nF b f)]; exact p2.rs.fok b f
            · rcases at_ j with ⟨z, z2⟩ | ⟨z, z2⟩
              · subst z
                rw [z2]
                refine ⟨a, ea, nf, dx, us ++ [v], by rw [upd_same, List.length_append]; rfl, by rw [List.length_append]; exact hlt, (ra.mo mo).app (.cons_ (Rep.mo mo _ _ y) .nil_)⟩
              · rw [z2]
                have hj := p2.rs.sl j
                have ne : ∀ b, oa (sg σ j) (gt ρ2 j) = some b → b ≠ a := fun b q w => z (p2.rs.apart q (w ▸ oa0))
                cases gj : gt ρ2 j with
                | u => trivial
                | v d f =>
                  rw [gj] at hj
                  obtain ⟨v', h1, h2⟩ := hj
                  exact ⟨v', h1, h2.mo mo⟩
                | o w f =>
                  rw [gj] at hj ne
                  obtain ⟨b, h1, h2⟩ := hj
                  exact ⟨b, h1, h2.mo mo h2.nf fun o e => by rw [upd_ne (ne b (oa_o.mpr h1))]; exact e⟩
                | k w f =>
                  rw [gj] at hj ne
                  obtain ⟨b, h1, h2⟩ := hj
                  exact ⟨b, h1, h2.mo mo h2.nf fun o e => by rw [upd_ne (ne b (by rw [h1]; rfl))]; exact e⟩
                | e k => rw [gj] at hj; exact hj
                | n k es =>
                  rw [gj] at hj ne
                  obtain ⟨b, h1, h2⟩ := hj
                  exact ⟨b, h1, h2.mo mo h2.1 fun o e => by rw [upd_ne (ne b (by rw [h1]; rfl))]; exact e⟩
            · rcases at_ j with ⟨z, z2⟩ | ⟨_, z2⟩
              · rw [z2] at hj; cases hj
              · rw [z2] at hj; exact hj
          exact q σ F2 _ (x2.trans y3)
      · exact q.elim
    · exact q.elim
  · exact q.elim
end
end Z

/-! zip of two walks, whatever they walk -/
namespace ZM
open PySem PySem.Spec PyProof.Rows L2
/-- a thing that is drawn from: its marker, the sequence behind, what the heap tells of both -/
structure Dr (it l : Addr) (I : Heap → Nat → Prop) (L : Heap → Array Value → Prop) : Prop where
  iat : ∀ {h h' : Heap} {i : Nat}, I h i → (∀ o, h.get? it = some o → h'.get? it = some o) → I h' i
  lat : ∀ {h h' : Heap} {xs : Array Value}, L h xs → (∀ o, h.get? l = some o → h'.get? l = some o) → L h' xs
  ige : ∀ {h : Heap} {i : Nat}, I h i → ∃ o, h.get? it = some o ∧ ∀ v, o.data ≠ .cell v
  item : ∀ {prog : Program} {w : World} {A : Around} {E : Value → Shared → Prop} {s : Shared} {i : Nat} {xs : Array Value} {x : Value} {Q : Value → Shared → Prop}, I s.heap i → L s.heap xs → xs[i]? = some x →
    (∀ h', I h' (i + 1) → Heap.SameBut it s.heap h' → Q x { s with heap := h' }) → wpAny (model prog w) A (Builtin.SmallTypes.nextOf (.ref it)) Q E s
  fin : ∀ {prog : Program} {w : World} {A : Around} {E : Value → Shared → Prop} {s : Shared} {i : Nat} {xs : Array Value} {Q : Value → Shared → Prop}, A.handled = none → I s.heap i → L s.heap xs → xs[i]? = none →
    (∀ h' e, Heap.ExtBut it s.heap h' → (∃ o, h'.get? e = some o ∧ o.cls = .type "StopIteration") → E (.ref e) { s with heap := h' }) → wpAny (model prog w) A (Builtin.SmallTypes.nextOf (.ref it)) Q E s
theorem Dr.list (it l : Addr) : Dr it l (fun h i => h.IsListIter it l i) (fun h xs => h.IsList l xs) where
  iat := fun a b => a.at b
  lat := fun a b => a.at b
  ige := fun ⟨o, e, _, d⟩ => ⟨o, e, fun v q => by rw [d] at q; cases q⟩
  item := fun a b c d => wpAny_nextOf_list_item a b c d
  fin := fun a b c d e => wpAny_nextOf_list_end a b c d e
theorem Dr.tuple (it l : Addr) : Dr it l (fun h i => h.IsTupleIter it l i) (fun h xs => h.IsTuple l xs) where
  iat := fun a b => a.at b
  lat := fun ⟨o, e, r⟩ b => ⟨o, b _ e, r⟩
  ige := fun ⟨o, e, _, d⟩ => ⟨o, e, fun v q => by rw [d] at q; cases q⟩
  item := fun a b c d => RZ.nextOf_tuple_item a b c d
  fin := fun a b c d e => RZ.nextOf_tuple_end a b c d e
section
variable {prog : Program} {w : World} {A : Around} {E : Value → Shared → Prop} {s : Shared} {z TI TO i1 i2 l1 l2 : Addr} {I1 I2 : Heap → Nat → Prop} {L1 L2 : Heap → Array Value → Prop} {k1 k2 : Nat} {xs ys : Array Value} {a b : Value}
theorem item0 (R1 : Dr i1 l1 I1 L1) (R2 : Dr i2 l2 I2 L2) {x y : Value} {Q : Value → Shared → Prop} (D : ZipApart z TI TO i1 i2 l1 l2)
    (hz : IsZip s.heap z TI TO .none) (hTI : IsPair s.heap TI (.ref i1) (.ref i2)) (hTO : IsPair s.heap TO a b)
    (h1 : I1 s.heap k1) (h2 : I2 s.heap k2) (hl1 : L1 s.heap xs) (hl2 : L2 s.heap ys) (hx : xs[k1]? = some x) (hy : ys[k2]? = some y)
    (hQ : ∀ h', IsZip h' z TI TO (rawInt s.heap.objs.size) → IsPair h' TO x y → I1 h' (k1 + 1) → I2 h' (k2 + 1) → IsPair h' s.heap.objs.size x y → h'.objs.size = s.heap.objs.size + 1 →
      (∀ c o, c ≠ z → c ≠ TO → c ≠ i1 → c ≠ i2 → s.heap.get? c = some o → h'.get? c = some o) → Q (.ref s.heap.objs.size) { s with heap := h' }) :
    wpAny (model prog w) A (Builtin.«zip.__next__» ⟨[.ref z], []⟩) (fun fin s' => ∃ v, fin = .done (.ret v) ∧ Q v s') E s := by
  show wpAny _ _ (field (.ref z) 2 >>= _) _ _ _
  refine wpAny_bind (wpAny_field hz rfl (x := .bool false) rfl ?_)
  show wpAny _ _ (field (.ref z) 3 >>= _) _ _ _
  refine wpAny_bind (wpAny_field hz rfl (x := .ref TI) rfl (wpAny_bind (wpAny_seqItems hTI rfl ?_)))
  show wpAny _ _ (Builtin.SmallTypes.ownedTupleIsFree (.ref z) >>= _) _ _ _
  unfold Builtin.SmallTypes.ownedTupleIsFree
  refine wpAny_bind (wpAny_bind (wpAny_field hz rfl (x := .none) rfl (wpAny_pure ?_)))
  simp only [if_true]
  refine wpAny_bind (wpAny_rule (wpAny_bind (wpAny_field hz rfl (x := .ref TO) rfl (wpAny_bind (wpAny_setField_rec hz (by simp) fun g1 z1 b1 => ?_)))))
  replace z1 : IsZip g1 z TI TO .ellipsis := z1
  have e1 : ∀ c o, c ≠ z → s.heap.get? c = some o → g1.get? c = some o := fun c o n e => b1.extBut _ _ n e
  refine wpAny_bind ?_
  simp only [List.zipIdx_cons, List.zipIdx_nil, List.forIn_cons, List.forIn_nil]
  refine wpAny_bind (wpAny_bind (wpAny_onRaise ?_))
  show wpAny _ _ (Builtin.SmallTypes.nextOf (.ref i1) >>= _) _ _ _
  refine wpAny_bind (R1.item (s := { s with heap := g1 }) (R1.iat h1 fun o => e1 _ o D.i1z) (R1.lat hl1 fun o => e1 _ o D.l1z) hx fun g2 p2 b2 => wpAny_pure ?_)
  have e2 : ∀ c o, c ≠ i1 → g1.get? c = some o → g2.get? c = some o := fun c o n e => b2.extBut _ _ n e
  have t2 : IsPair g2 TO a b := e2 _ _ D.TOi1 (e1 _ _ D.TOz hTO)
  refine wpAny_bind (wpAny_seqItems t2 rfl (wpAny_bind (wpAny_updateSeq_pair t2 fun g3 t3 b3 => ?_)))
  replace t3 : IsPair g3 TO x b := t3
  have e3 : ∀ c o, c ≠ TO → g2.get? c = some o → g3.get? c = some o := fun c o n e => b3.extBut _ _ n e
  have e13 : ∀ c o, c ≠ z → c ≠ i1 → c ≠ TO → s.heap.get? c = some o → g3.get? c = some o := fun c o n m q e => e3 _ _ q (e2 _ _ m (e1 _ _ n e))
  refine wpAny_bind (wpAny_letGo (wpAny_pure ?_))
  refine wpAny_bind (wpAny_bind (wpAny_onRaise ?_))
  show wpAny _ _ (Builtin.SmallTypes.nextOf (.ref i2) >>= _) _ _ _
  refine wpAny_bind (R2.item (s := { s with heap := g3 }) (R2.iat h2 fun o => e13 _ o D.i2z D.i12.symm D.TOi2.symm) (R2.lat hl2 fun o => e13 _ o D.l2z D.l2i1 D.l2TO) hy fun g4 p4 b4 => wpAny_pure ?_)
  have e4 : ∀ c o, c ≠ i2 → g3.get? c = some o → g4.get? c = some o := fun c o n e => b4.extBut _ _ n e
  have t4 : IsPair g4 TO x b := e4 _ _ D.TOi2 t3
  refine wpAny_bind (wpAny_seqItems t4 rfl (wpAny_bind (wpAny_updateSeq_pair t4 fun g5 t5 b5 => ?_)))
  replace t5 : IsPair g5 TO x y := t5
  have e5 : ∀ c o, c ≠ TO → g4.get? c = some o → g5.get? c = some o := fun c o n e => b5.extBut _ _ n e
  refine wpAny_bind (wpAny_letGo (wpAny_pure (wpAny_pure (wpAny_bind (wpAny_seqItems t5 rfl (wpAny_bind (wpAny_newTuple ?_)))))))
  have sz : g5.objs.size = s.heap.objs.size := by rw [b5.1, b4.1, b3.1, b2.1, b1.1]
  have z5 : IsZip g5 z TI TO .ellipsis := e5 _ _ D.TOz.symm (e4 _ _ D.i2z.symm (e3 _ _ D.TOz.symm (e2 _ _ D.i1z.symm z1)))
  have p5 : I1 g5 (k1 + 1) := R1.iat (R1.iat (R1.iat p2 fun o => e3 _ o D.TOi1.symm) fun o => e4 _ o D.i12) fun o => e5 _ o D.TOi1.symm
  have q5 : I2 g5 (k2 + 1) := R2.iat p4 fun o => e5 _ o D.TOi2.symm
  have zlt : z < g5.objs.size := Heap.lt_size z5
  show wpAny _ _ (Builtin.SmallTypes.ownedTupleHandOut (.ref z) (.ref g5.objs.size) >>= _) _ _ _
  unfold Builtin.SmallTypes.ownedTupleHandOut
  have z6 : IsZip (g5.push { cls := .type "tuple", data := .seq #[x, y] }) z TI TO .ellipsis := Heap.get?_push_of_some _ z5
  refine wpAny_bind (wpAny_bind (wpAny_setField_rec z6 (by simp) fun g7 z7 b7 => ?_))
  replace z7 : IsZip g7 z TI TO (rawInt g5.objs.size) := z7
  refine wpAny_setField_rec z7 (by simp) fun g8 z8 b8 => ?_
  replace z8 : IsZip g8 z TI TO (rawInt g5.objs.size) := z8
  have up : ∀ c o, c ≠ z → (g5.push { cls := .type "tuple", data := .seq #[x, y] }).get? c = some o → g8.get? c = some o := fun c o n e => b8.extBut _ _ n (b7.extBut _ _ n e)
  have up5 : ∀ c o, c ≠ z → g5.get? c = some o → g8.get? c = some o := fun c o n e => up _ _ n (Heap.get?_push_of_some _ e)
  have pT : IsPair g8 g5.objs.size x y := up _ _ (Nat.ne_of_gt zlt) (Heap.get?_push_size _ rfl)
  have s8 : g8.objs.size = g5.objs.size + 1 := by rw [b8.1, b7.1, Heap.size_push]
  rw [sz] at z8 pT s8
  refine wpAny_pure ⟨_, rfl, ?_⟩
  show Q (.ref g5.objs.size) _
  rw [sz]
  exact hQ g8 z8 (up5 _ _ D.TOz t5) (R1.iat p5 fun o => up5 _ o D.i1z) (R2.iat q5 fun o => up5 _ o D.i2z) pT s8 fun c o c1 c2 c3 c4 e => up5 c o c1 (e5 _ _ c2 (e4 _ _ c4 (e13 _ _ c1 c3 c2 e)))
theorem end0 (R1 : Dr i1 l1 I1 L1) (R2 : Dr i2 l2 I2 L2) {Q : Fin → Shared → Prop} (hh : A.handled = none) (D : ZipApart z TI TO i1 i2 l1 l2)
    (hz : IsZip s.heap z TI TO .none) (hTI : IsPair s.heap TI (.ref i1) (.ref i2)) (hTO : IsPair s.heap TO a b)
    (h1 : I1 s.heap k1) (h2 : I2 s.heap k2) (hl1 : L1 s.heap xs) (hl2 : L2 s.heap ys) (hend : xs[k1]? = none ∨ ys[k2]? = none)
    (hE : ∀ h' e, (∀ c o, c ≠ z → c ≠ TO → c ≠ i1 → c ≠ i2 → s.heap.get? c = some o → h'.get? c = some o) → (∃ o, h'.get? e = some o ∧ o.cls = .type "StopIteration") → E (.ref e) { s with heap := h' }) :
    wpAny (model prog w) A (Builtin.«zip.__next__» ⟨[.ref z], []⟩) Q E s := by
  show wpAny _ _ (field (.ref z) 2 >>= _) _ _ _
  refine wpAny_bind (wpAny_field hz rfl (x := .bool false) rfl ?_)
  show wpAny _ _ (field (.ref z) 3 >>= _) _ _ _
  refine wpAny_bind (wpAny_field hz rfl (x := .ref TI) rfl (wpAny_bind (wpAny_seqItems hTI rfl ?_)))
  show wpAny _ _ (Builtin.SmallTypes.ownedTupleIsFree (.ref z) >>= _) _ _ _
  unfold Builtin.SmallTypes.ownedTupleIsFree
  refine wpAny_bind (wpAny_bind (wpAny_field hz rfl (x := .none) rfl (wpAny_pure ?_)))
  simp only [if_true]
  refine wpAny_bind (wpAny_rule (wpAny_bind (wpAny_field hz rfl (x := .ref TO) rfl (wpAny_bind (wpAny_setField_rec hz (by simp) fun g1 z1 b1 => ?_)))))
  replace z1 : IsZip g1 z TI TO .ellipsis := z1
  have e1 : ∀ c o, c ≠ z → s.heap.get? c = some o → g1.get? c = some o := fun c o n e => b1.extBut _ _ n e
  have off : ∀ {g : Heap} {e : Addr}, IsZip g z TI TO .ellipsis → (∃ o, g.get? e = some o ∧ o.cls = .type "StopIteration") → e ≠ z := fun y ⟨o, e, c⟩ q => by subst q; rw [y] at e; cases e; simp at c
  refine wpAny_bind ?_
  simp only [List.zipIdx_cons, List.zipIdx_nil, List.forIn_cons, List.forIn_nil]
  refine wpAny_bind (wpAny_bind (wpAny_onRaise ?_))
  show wpAny _ _ (Builtin.SmallTypes.nextOf (.ref i1) >>= _) _ _ _
  have r1 := R1.iat h1 fun o => e1 _ o D.i1z
  have r2 := R1.lat hl1 fun o => e1 _ o D.l1z
  cases hx : xs[k1]? with
  | none =>
    refine wpAny_bind (R1.fin (s := { s with heap := g1 }) hh r1 r2 hx fun g2 e b2 he => ?_)
    have z2 : IsZip g2 z TI TO .ellipsis := b2 _ _ D.i1z.symm z1
    have ez := off z2 he
    obtain ⟨oe, hoe, hce⟩ := he
    exact wpAny_setField_rec z2 (by simp) fun g3 _ b3 => hE g3 e (fun c o c1 _ c3 _ x => b3.extBut _ _ c1 (b2 _ _ c3 (e1 _ _ c1 x))) ⟨oe, b3.extBut _ _ ez hoe, hce⟩
  | some x =>
    have hy : ys[k2]? = none := hend.resolve_left (by rw [hx]; exact fun q => by cases q)
    refine wpAny_bind (R1.item (s := { s with heap := g1 }) r1 r2 hx fun g2 p2 b2 => wpAny_pure ?_)
    have e2 : ∀ c o, c ≠ i1 → g1.get? c = some o → g2.get? c = some o := fun c o n e => b2.extBut _ _ n e
    have t2 : IsPair g2 TO a b := e2 _ _ D.TOi1 (e1 _ _ D.TOz hTO)
    refine wpAny_bind (wpAny_seqItems t2 rfl (wpAny_bind (wpAny_updateSeq_pair t2 fun g3 t3 b3 => ?_)))
    have e3 : ∀ c o, c ≠ TO → g2.get? c = some o → g3.get? c = some o := fun c o n e => b3.extBut _ _ n e
    have e13 : ∀ c o, c ≠ z → c ≠ i1 → c ≠ TO → s.heap.get? c = some o → g3.get? c = some o := fun c o n m q e => e3 _ _ q (e2 _ _ m (e1 _ _ n e))
    refine wpAny_bind (wpAny_letGo (wpAny_pure (wpAny_bind (wpAny_bind (wpAny_onRaise ?_)))))
    show wpAny _ _ (Builtin.SmallTypes.nextOf (.ref i2) >>= _) _ _ _
    refine wpAny_bind (R2.fin (s := { s with heap := g3 }) hh (R2.iat h2 fun o => e13 _ o D.i2z D.i12.symm D.TOi2.symm) (R2.lat hl2 fun o => e13 _ o D.l2z D.l2i1 D.l2TO) hy fun g4 e b4 he => ?_)
    have z4 : IsZip g4 z TI TO .ellipsis := b4 _ _ D.i2z.symm (e3 _ _ D.TOz.symm (e2 _ _ D.i1z.symm z1))
    have ez := off z4 he
    obtain ⟨oe, hoe, hce⟩ := he
    exact wpAny_setField_rec z4 (by simp) fun g5 _ b5 => hE g5 e (fun c o c1 c2 c3 c4 x => b5.extBut _ _ c1 (b4 _ _ c4 (e13 _ _ c1 c3 c2 x))) ⟨oe, b5.extBut _ _ ez hoe, hce⟩
theorem itemN (R1 : Dr i1 l1 I1 L1) (R2 : Dr i2 l2 I2 L2) {x y : Value} {Q : Option Value → Shared → Prop} (D : ZipApart z TI TO i1 i2 l1 l2)
    (hz : IsZip s.heap z TI TO .none) (hTI : IsPair s.heap TI (.ref i1) (.ref i2)) (hTO : IsPair s.heap TO a b)
    (h1 : I1 s.heap k1) (h2 : I2 s.heap k2) (hl1 : L1 s.heap xs) (hl2 : L2 s.heap ys) (hx : xs[k1]? = some x) (hy : ys[k2]? = some y)
    (hQ : ∀ h', IsZip h' z TI TO (rawInt s.heap.objs.size) → IsPair h' TO x y → I1 h' (k1 + 1) → I2 h' (k2 + 1) → IsPair h' s.heap.objs.size x y → h'.objs.size = s.heap.objs.size + 1 →
      (∀ c o, c ≠ z → c ≠ TO → c ≠ i1 → c ≠ i2 → s.heap.get? c = some o → h'.get? c = some o) → Q (some (.ref s.heap.objs.size)) { s with heap := h' }) :
    wpAny (model prog w) A (pyNext (.ref z)) Q E s := by
  have hT : s.TypeIs (.ref z) "zip" := ⟨_, hz, rfl⟩
  unfold pyNext
  exact wpAny_bind (wpAny_attempt (wpAny_callSpecial?_slot (name := Str.ofString "__next__") hT F.slot_zip_next (wpAny_call_entry F.slot_zip_next hT F.entry_zip_next
    (item0 R1 R2 D hz hTI hTO h1 h2 hl1 hl2 hx hy fun h' c1 c2 c3 c4 c5 c6 c7 => wpAny_pure (hQ h' c1 c2 c3 c4 c5 c6 c7)) (F.args_zip_next_1 _))))
theorem endN (R1 : Dr i1 l1 I1 L1) (R2 : Dr i2 l2 I2 L2) {Q : Option Value → Shared → Prop} (hh : A.handled = none) (D : ZipApart z TI TO i1 i2 l1 l2)
    (hz : IsZip s.heap z TI TO .none) (hTI : IsPair s.heap TI (.ref i1) (.ref i2)) (hTO : IsPair s.heap TO a b)
    (h1 : I1 s.heap k1) (h2 : I2 s.heap k2) (hl1 : L1 s.heap xs) (hl2 : L2 s.heap ys) (hend : xs[k1]? = none ∨ ys[k2]? = none)
    (hQ : ∀ h', (∀ c o, c ≠ z → c ≠ TO → c ≠ i1 → c ≠ i2 → s.heap.get? c = some o → h'.get? c = some o) → Q none { s with heap := h' }) : wpAny (model prog w) A (pyNext (.ref z)) Q E s := by
  have hT : s.TypeIs (.ref z) "zip" := ⟨_, hz, rfl⟩
  unfold pyNext
  refine wpAny_bind (wpAny_attempt (wpAny_callSpecial?_slot (name := Str.ofString "__next__") hT F.slot_zip_next
    (wpAny_call_entry F.slot_zip_next hT F.entry_zip_next (end0 R1 R2 hh D hz hTI hTO h1 h2 hl1 hl2 hend fun h' e hk ⟨o, ho, hc⟩ => ?_) (F.args_zip_next_1 _))))
  exact wpAny_bind (wpAny_isInstance (T := "StopIteration") (b := true) ⟨o, ho, hc⟩ isSubtype_stop (wpAny_pure (hQ _ hk)))
end
/-- a tuple and a list -/
abbrev nH (h : Heap) (l1 l2 : Addr) : Heap := ((((h.push { cls := .type "tuple_iterator", data := .fields #[.ref l1, .int 0 0] }).push { cls := .type "list_iterator", data := .fields #[.ref l2, .int 0 0] }).push { cls := .type "tuple", data := .seq #[.ref h.objs.size, .ref (h.objs.size + 1)] }).push
  { cls := .type "tuple", data := .seq #[.none, .none] }).push { cls := .type "zip", data := .fields #[.none, .bool false, .bool false, .ref (h.objs.size + 2), .ref (h.objs.size + 3)] }
theorem meets_new (l1 l2 : Addr) (xs ys : Array Value) :
    Meets (Builtin.«zip.__new__» ⟨[.type "zip", .ref l1, .ref l2], []⟩) (fun _ R s => s.heap.IsTuple l1 xs ∧ s.heap.IsList l2 ys ∧ R (.ok (.ret (.ref (s.heap.objs.size + 4)))) { s with heap := nH s.heap l1 l2 }) :=
  .of_wp fun prog w A R s h => by
    obtain ⟨hp, g, d, tk, os⟩ := s; obtain ⟨hl1, hl2, h⟩ := h
    have hsub := sub_zip
    have hL1 : Heap.IsTuple (Shared.heap ⟨hp, g, d, tk, os⟩) l1 xs := hl1
    have hL2 : Heap.IsList (Shared.heap ⟨hp.push { cls := .type "tuple_iterator", data := .fields #[.ref l1, .int 0 0] }, g, d, tk, os⟩) l2 ys := Heap.IsList.push hl2 _
    have z1 : (hp.push { cls := .type "tuple_iterator", data := .fields #[.ref l1, .int 0 0] }).objs.size = hp.objs.size + 1 := Heap.size_push ..
    wp_walk using wpAny_pyIter_tuple hL1, wpAny_pyIter_list hL2
    refine ⟨_, rfl, ?_⟩
    simp only [Heap.size_push, Nat.add_assoc, Nat.reduceAdd]
    exact h
theorem call_new {prog : Program} {w : World} {A : Around} {E : Value → Shared → Prop} {s : Shared} {l1 l2 : Addr} {xs ys : Array Value} {Q : Value → Shared → Prop} (hl1 : s.heap.IsTuple l1 xs) (hl2 : s.heap.IsList l2 ys)
    (h : ∀ h', IsZip h' (s.heap.objs.size + 4) (s.heap.objs.size + 2) (s.heap.objs.size + 3) .none → IsPair h' (s.heap.objs.size + 2) (.ref s.heap.objs.size) (.ref (s.heap.objs.size + 1)) →
      IsPair h' (s.heap.objs.size + 3) .none .none → h'.IsTupleIter s.heap.objs.size l1 0 → h'.IsListIter (s.heap.objs.size + 1) l2 0 →
      (∀ c o, s.heap.get? c = some o → h'.get? c = some o) → Q (.ref (s.heap.objs.size + 4)) { s with heap := h' }) :
    wpAny (model prog w) A (call (.type "zip") [.ref l1, .ref l2]) Q E s := by
  refine callType_new F.called_zip (by decide) (F.typeCall_zip_2 _ _) (F.newCall_zip_2 _ _) (fun obj => F.args_object_init_3 obj _ _) F.entry_zip_new (meets_new l1 l2 xs ys) ⟨hl1, hl2, ?_⟩
  have at_ : ∀ {g : Heap} {o : Obj} {n : Nat}, g.objs.size = n → o.isFreed = false → (g.push o).get? n = some o := fun e f => by subst e; exact Heap.get?_push_size _ f
  have up : ∀ {g : Heap} {o o' : Obj} {c : Addr}, g.get? c = some o → (g.push o').get? c = some o := fun e => Heap.get?_push_of_some _ e
  exact ⟨⟨_, at_ (by simp only [Heap.size_push]) rfl, rfl⟩, h _ (at_ (by simp only [Heap.size_push]) rfl) (up (up (at_ (by simp only [Heap.size_push]) rfl))) (up (at_ (by simp only [Heap.size_push]) rfl))
    ⟨_, up (up (up (up (at_ rfl rfl)))), rfl, rfl⟩ ⟨_, up (up (up (at_ (by simp only [Heap.size_push]) rfl))), rfl, rfl⟩ fun c o x => up (up (up (up (up x))))⟩
def ItM (K : PySem.W.Frag) (a b : Addr) : It :=
  ⟨fun i H => ∃ (xs ys : List V) (x y : V), SqT K H a xs ∧ SqL K H b ys ∧ xs[i]? = some x ∧ ys[i]? = some y,
    fun i H v H' => ∃ T x y, v = .ref T ∧ H T = none ∧ H' = upd H T (.tup [x, y]) ∧ (∀ xs, SqT K H a xs → xs[i]? = some x) ∧ ∀ ys, SqL K H b ys → ys[i]? = some y,
    fun i H => ∃ xs ys : List V, SqT K H a xs ∧ SqL K H b ys ∧ (xs.length ≤ i ∨ ys.length ≤ i)⟩
theorem turn {P : Program} {w : World} {K : PySem.W.Frag} {elts : List Expr} {kk : Nat} {tpos : Pos} {a b z TI TO i1 i2 : Addr} (D : ZipApart z TI TO i1 i2 a b) :
    Turn P w K (.Tuple elts kk tpos) (ItM K a b) [z, TI, TO, i1, i2] z (fun i h => IsZip h z TI TO .none ∧ IsPair h TI (.ref i1) (.ref i2) ∧ (∃ x y, IsPair h TO x y) ∧ h.IsTupleIter i1 a i ∧ h.IsListIter i2 b i) where
  mem := by simp
  obj := fun i h ⟨hz, hTI, ⟨x, y, hTO⟩, h1, h2⟩ c hc => by
    simp only [List.mem_cons, List.not_mem_nil, or_false] at hc
    rcases hc with rfl | rfl | rfl | rfl | rfl
    · exact ⟨_, hz, fun v q => nomatch q⟩
    · exact ⟨_, hTI, fun v q => nomatch q⟩
    · exact ⟨_, hTO, fun v q => nomatch q⟩
    · exact (Dr.tuple _ _).ige h1
    · exact (Dr.list _ _).ige h2
  keep := fun i h h' ⟨hz, hTI, ⟨x, y, hTO⟩, h1, h2⟩ k => ⟨k z (by simp) _ hz, k TI (by simp) _ hTI, ⟨x, y, k TO (by simp) _ hTO⟩, h1.at fun o q => k i1 (by simp) o q, h2.at fun o q => k i2 (by simp) o q⟩
  item := by
    intro X hP hw hK hc i pins s σ H E I hf st hg
    subst hP hw hK
    obtain ⟨hz, hTI, ⟨x0, y0, hTO⟩, h1, h2⟩ := st
    obtain ⟨xs, ys, x, y, hqx, hqy, hx, hy⟩ := hg
    obtain ⟨its, rv, p, _⟩ := I.tuple hqx
    obtain ⟨its2, rv2, p2, _⟩ := I.list hqy
    obtain ⟨u, hu, ru⟩ := rv.get hx
    obtain ⟨u2, hu2, ru2⟩ := rv2.get hy
    have hzl : z < s.heap.objs.size := Heap.lt_size hz
    refine itemN (Dr.tuple i1 a) (Dr.list i2 b) D hz hTI hTO h1 h2 p p2.isList (x := u) (y := u2) (by simpa using hu) (by simpa using hu2) fun h' z' TO' h1' h2' hT _ hk => ?_
    refine ⟨_, rfl, wpAny_letOwnedTupleGo_zip (s := { s with heap := h' }) z' fun h'' z'' sb => ?_⟩
    have k2 : ∀ c o, c ≠ z → h'.get? c = some o → h''.get? c = some o := fun c o n e => (sb.2 c n).trans e
    have new : ObjOk X.prog X.w (upd H s.heap.objs.size (.tup [x, y])) h'' s.heap.objs.size (.tup [x, y]) :=
      ⟨by show 2 ≤ sizeLine; decide, [u, u2], .cons ru (.cons ru2 .nil), ⟨_, k2 _ _ (Nat.ne_of_gt hzl) hT, rfl, _, rfl⟩⟩
    have J : Inv X pins σ (upd H s.heap.objs.size (.tup [x, y])) { s with heap := h'' } :=
      I.turnedNew (t' := s.toks) (ch := [z, TI, TO, i1, i2]) (fun c o hb q => k2 c o (fun q' => hb (by simp [q'])) (hk c o (fun q' => hb (by simp [q'])) (fun q' => hb (by simp [q'])) (fun q' => hb (by simp [q'])) (fun q' => hb (by simp [q'])) q)) hf (Nat.le_refl _) new
    refine ⟨.ref s.heap.objs.size, _, J, rfl, ⟨_, x, y, rfl, I.hok.fresh (Nat.le_refl _), rfl, fun l hl => by rw [I.tuple_inj hl hqx]; exact hx, fun l hl => by rw [I.list_inj hl hqy]; exact hy⟩,
      ⟨z'', k2 _ _ D.TIz (hk _ _ D.TIz D.TITO D.TIi1 D.TIi2 hTI), ⟨u, u2, k2 _ _ D.TOz TO'⟩, h1'.at fun o q => k2 _ o D.i1z q, h2'.at fun o q => k2 _ o D.i2z q⟩, fun c hcm => ?_⟩
    have hlt : c < s.heap.objs.size := by
      simp only [List.mem_cons, List.not_mem_nil, or_false] at hcm
      rcases hcm with rfl | rfl | rfl | rfl | rfl
      · exact hzl
      · exact Heap.lt_size hTI
      · exact Heap.lt_size hTO
      · obtain ⟨_, e1, _⟩ := h1; exact Heap.lt_size e1
      · obtain ⟨_, e2, _⟩ := h2; exact Heap.lt_size e2
    rw [upd_ne (Nat.ne_of_lt hlt)]
    exact (hf c hcm).1
  done := by
    intro X hP hw hK hc i pins s σ H E I hf st hg
    subst hP hw hK
    obtain ⟨hz, hTI, ⟨x0, y0, hTO⟩, h1, h2⟩ := st
    obtain ⟨xs, ys, hqx, hqy, hend⟩ := hg
    obtain ⟨its, rv, p, _⟩ := I.tuple hqx
    obtain ⟨its2, rv2, p2, _⟩ := I.list hqy
    have l1 := rv.length
    have l2 := rv2.length
    have he : its.toArray[i]? = none ∨ its2.toArray[i]? = none := hend.imp (fun q => by simp; omega) fun q => by simp; omega
    exact endN (Dr.tuple i1 a) (Dr.list i2 b) (I.ok.hd hc) D hz hTI hTO h1 h2 p p2.isList he fun h' hk => ⟨rfl, I.turnedL (t' := s.toks) (ch := [z, TI, TO, i1, i2]) (fun c o hb q =>
      hk c o (fun q' => hb (by simp [q'])) (fun q' => hb (by simp [q'])) (fun q' => hb (by simp [q'])) (fun q' => hb (by simp [q'])) q) hf⟩
  self := fun A i s Q E st h => wpAny_pyIter_zip st.1 h
def iM (K : PySem.W.Frag) (ta : TA) : TI := fun σ H R => ta σ H fun vs H1 => ∃ a b xs ys, vs = [.ref a, .ref b] ∧ ((SqL K H1 a xs ∧ SqL K H1 b ys ∧ R (Itz K a b) H1) ∨ (SqT K H1 a xs ∧ SqT K H1 b ys ∧ R (RZ.ItzT K a b) H1) ∨ (SqT K H1 a xs ∧ SqL K H1 b ys ∧ R (ItM K a b) H1))
theorem pi_m {X : Cx} {e e2 : Expr} {ta : TA} {p pos tpos : Pos} {elts : List Expr} {kk : Nat} (hg : Gl X "zip") (hm : X.mg "zip" = none) (ha : PA X [e, e2] ta)
    (hs : starEach [e, e2] X.env = (false, eval e X.env) :: starEach [e2] X.env := by rfl) (hpl : (backTo pos (starEach [e2] X.env)).any (·.1) = false := by rfl) :
    PI X (.Tuple elts kk tpos) (.Call (.Name "zip" p) [e, e2] [] pos) (iM X.K ta) := by
  refine ⟨fun pins s σ H R I h => Call_ (ld_blt I hg hm PyProof.Rows.boot_zip (PyProof.Rows.callWith_type1 (thn (ha.run pos pins s σ H _ I h) fun us s1 ⟨vs, H1, J, r1, q1⟩ => ?_) hs hpl))⟩
  obtain ⟨a, b, xs, ys, rfl, q1⟩ := q1
  cases r1 with
  | cons r rr =>
    cases rr with
    | cons r' rr =>
      cases rr
      cases r
      cases r'
      have fr : ∀ c, c ∈ [s1.heap.objs.size + 4, s1.heap.objs.size + 2, s1.heap.objs.size + 3, s1.heap.objs.size, s1.heap.objs.size + 1] → FpOk X pins H1 c := fun c hc => by
        have hle : s1.heap.objs.size ≤ c := by
          simp only [List.mem_cons, List.not_mem_nil, or_false] at hc
          omega
        exact J.fpOk hle (J.hok.fresh hle)
      have ap : a < s1.heap.objs.size → b < s1.heap.objs.size → ZipApart (s1.heap.objs.size + 4) (s1.heap.objs.size + 2) (s1.heap.objs.size + 3) s1.heap.objs.size (s1.heap.objs.size + 1) a b := fun la lb => PySem.W.ktu_apart s1.heap.objs.size a b la lb
      rcases q1 with ⟨hx, hy, q⟩ | ⟨hx, hy, q⟩ | ⟨hx, hy, q⟩
      · obtain ⟨its, _, p1, _⟩ := J.list hx
        obtain ⟨its2, _, p2, _⟩ := J.list hy
        exact call_zip_2 p1.isList p2.isList fun h' hz hTI hTO h1 h2 _ hk => wpAny_pyIter_zip hz ⟨_, _, _, _, H1, rfl, J.kept (t' := s1.toks) hk, turn_zip (ap p1.lt p2.lt), ⟨hz, hTI, ⟨_, _, hTO⟩, h1, h2⟩, fr, q⟩
      · obtain ⟨its, _, p1, _⟩ := J.tuple hx
        obtain ⟨its2, _, p2, _⟩ := J.tuple hy
        obtain ⟨o1, ho1, _⟩ := id p1
        obtain ⟨o2, ho2, _⟩ := id p2
        exact RZ.call_zipT (show s1.heap.IsTuple a its.toArray from p1) (show s1.heap.IsTuple b its2.toArray from p2) fun h' hz hTI hTO h1 h2 _ hk => wpAny_pyIter_zip hz ⟨_, _, _, _, H1, rfl, J.kept (t' := s1.toks) hk, RZ.turn_zipT (ap (Heap.lt_size ho1) (Heap.lt_size ho2)), ⟨hz, hTI, ⟨_, _, hTO⟩, h1, h2⟩, fr, q⟩
      · obtain ⟨its, _, p1, _⟩ := J.tuple hx
        obtain ⟨its2, _, p2, _⟩ := J.list hy
        obtain ⟨o1, ho1, _⟩ := id p1
        exact call_new (show s1.heap.IsTuple a its.toArray from p1) p2.isList fun h' hz hTI hTO h1 h2 hk => wpAny_pyIter_zip hz ⟨_, _, _, _, H1, rfl, J.kept (t' := s1.toks) hk, turn (ap (Heap.lt_size ho1) p2.lt), ⟨hz, hTI, ⟨_, _, hTO⟩, h1, h2⟩, fr, q⟩
end ZM

set_option maxHeartbeats 1000000
/-! reversed of a text -/
namespace ZR
open PySem PySem.Spec PyProof.Rows L2
theorem norev_str : typeLookup (.type "str") "__reversed__" = pure none := by rw [typeLookup_type, builtinLookup_eq_fast]; kernel_rfl
theorem get_str : typeLookup (.type "str") "__getitem__" = pure (some (.builtin "str.__getitem__")) := F.slot_str_getitem.lookup
def rsObj (z : Str) (t : Tok) (i : Int) : Obj := { cls := .type "reversed", data := .fields #[.str z t, rawInt i] }
def IsRs (h : Heap) (a : Addr) (z : Str) (t : Tok) (i : Int) : Prop := ∃ o, h.get? a = some o ∧ o.cls = .type "reversed" ∧ o.data = .fields #[.str z t, rawInt i]
theorem IsRs.at {h h' : Heap} {a : Addr} {z : Str} {t : Tok} {i : Int} (x : IsRs h a z t i) (e : ∀ o, h.get? a = some o → h'.get? a = some o) : IsRs h' a z t i := let ⟨o, ho, r⟩ := x; ⟨o, e _ ho, r⟩
section
variable {prog : Program} {w : World} {A : Around} {E : Value → Shared → Prop} {s : Shared}
theorem IsRs.typeIs {a : Addr} {z : Str} {t : Tok} {i : Int} (x : IsRs s.heap a z t i) : s.TypeIs (.ref a) "reversed" := let ⟨o, ho, hc, _⟩ := x; ⟨o, ho, hc⟩
theorem code_rs {z : Str} {t : Tok} {Q₁ : Value → Shared → Prop} (hz : z.length ≤ 16777216)
    (h : Q₁ (.ref s.heap.objs.size) { s with heap := s.heap.push (rsObj z t ((z.length : Int) - 1)), toks := s.toks + 1 + 1 }) :
    codeAny (model prog w) A (.call (.builtin "reversed.__new__") ⟨[.type "reversed", .str z t], []⟩) (wants Q₁ E) s := by
  have hT : s.TypeIs (.str z t) "str" := typeIs_str s z t
  refine codeAny_of_tree ?_
  show wpAny _ A.in1 (do checkBuiltinCall "reversed.__new__" ⟨[.type "reversed", .str z t], []⟩; again (.builtin "reversed.__new__" ⟨[.type "reversed", .str z t], []⟩)) _ _ s
  refine wpAny_bind (wpAny_of_eq (F.newCall_reversed_1 _) (wpAny_pure ⟨plainId_quiet F.plain_reversed_new _, codeAny_builtin F.entry_reversed_new ?_⟩))
  rw [Around.under_plainId F.plain_reversed_new _]
  unfold Builtin.«reversed.__new__»
  refine wpAny_bind (wpAny_of_eq (newClass_reversed _) ?_)
  try dsimp only
  refine wpAny_bind (wpAny_of_eq (a := ()) (by first | rfl | kernel_rfl) ?_)
  try dsimp only
  refine wpAny_bind (wpAny_of_eq (a := ()) (by first | rfl | kernel_rfl) ?_)
  try dsimp only
  refine wpAny_bind (wpAny_specialOf hT norev_str ?_)
  try dsimp only
  refine wpAny_bind ?_
  wp_delta
  refine wpAny_bind (wpAny_isInstance (T := "str") (U := "dict") (b := false) hT (by rw [isSubtype_type]; kernel_rfl) ?_)
  try dsimp only
  try rw [if_neg Bool.false_ne_true]
  try dsimp only
  refine wpAny_bind (wpAny_specialOf hT get_str ?_)
  try dsimp only
  try rw [if_pos (by decide +kernel)]
  refine wpAny_pure ?_
  try dsimp only
  try rw [if_neg (by decide)]
  try dsimp only
  refine wpAny_bind (P.len_str (by omega) ?_)
  refine wpAny_bind (wpAny_of_eq (a := some ((z.length : Nat) : Int)) rfl ?_)
  try dsimp only
  refine wpAny_bind ?_
  show wpAny _ _ (newObj (.type "reversed") (.fields #[.str z t, rawInt ((z.length : Int) - 1)])) _ _ _
  refine wpAny_newObj_type ?_
  exact wpAny_pure h
theorem call_rs {z : Str} {t : Tok} {Q : Value → Shared → Prop} (hz : z.length ≤ 16777216)
    (h : Q (.ref s.heap.objs.size) { s with heap := s.heap.push (rsObj z t ((z.length : Int) - 1)), toks := s.toks + 1 + 1 }) : wpAny (model prog w) A (call (.type "reversed") [.str z t]) Q E s := by
  refine callType_codes (Q₁ := fun obj s₁ => s₁.TypeIs obj "reversed" ∧ Q obj s₁) RT.called_rt (F.typeCall_reversed_1 _) F.entry_object_init
    (code_rs (A := A.in1) hz ⟨⟨_, Heap.get?_push_size _ rfl, rfl⟩, h⟩) fun obj s₁ h₁ => ?_
  exact ⟨h₁.1, F.args_object_init_2 obj _, object_init_meets RT.called_rt.init.lookup RT.called_rt.made (by decide) prog w A.in1 _ s₁ ⟨h₁.1, rfl, h₁.2⟩⟩
theorem next_item {it : Addr} {z : Str} {t : Tok} {i c : Nat} {Q : Option Value → Shared → Prop} (hit : IsRs s.heap it z t (i : Int)) (hi : i < z.length) (hx : z.cps[i]? = some c) (hsz : z.length ≤ 16777216)
    (hQ : ∀ h', IsRs h' it z t ((i : Int) - 1) → Heap.SameBut it s.heap h' → ∀ u tk, Q (some (.str ⟨#[c]⟩ u)) { s with heap := h', toks := tk }) : wpAny (model prog w) A (pyNext (.ref it)) Q E s := by
  obtain ⟨o, ho, hc, hd⟩ := id hit
  have hT : s.TypeIs (.str z t) "str" := typeIs_str s z t
  unfold pyNext
  refine wpAny_bind (wpAny_attempt (wpAny_callSpecial?_slot (name := Str.ofString "__next__") hit.typeIs RT.slot_rt_next
    (wpAny_call_entry RT.slot_rt_next hit.typeIs RT.entry_rt_next ?_ (RT.args_rt_next _))))
  unfold Builtin.«reversed.__next__»
  refine wpAny_bind (wpAny_of_eq (a := (Value.ref it, [])) rfl ?_)
  try dsimp only
  refine wpAny_bind (wpAny_field ho hd (x := .str z t) rfl ?_)
  try dsimp only
  refine wpAny_bind (wpAny_field ho hd (x := rawInt (i : Int)) rfl ?_)
  show wpAny _ _ (if (i : Int) < 0 then _ else _) _ _ s
  rw [if_neg (by omega)]
  try dsimp only
  refine wpAny_bind (wpAny_specialOf hT get_str ?_)
  try dsimp only
  try rw [if_neg (by decide)]
  try dsimp only
  refine wpAny_bind (wpAny_mkInt ?_)
  refine wpAny_bind (wpAny_attempt ?_)
  have e : seqIndex? (i : Int) z.length = some i := seqIndex_of (by omega) (by omega)
  refine P.getItem_str (c := c) (by
    have e1 : decide ((i : Int) < -(2 ^ 63 : Int)) = false := decide_eq_false (by omega)
    have e2 : decide ((i : Int) ≥ 2 ^ 63) = false := decide_eq_false (by omega)
    rw [e1, e2] <;> rfl) (by rw [e]; exact hx) ?_
  try dsimp only
  refine wpAny_bind (wpAny_field (s := { s with toks := s.toks + 1 + 1 }) ho hd (x := rawInt (i : Int)) rfl ?_)
  try dsimp only
  refine wpAny_bind (wpAny_setField (s := { s with toks := s.toks + 1 + 1 }) ho hd (by simp) ?_)
  first
  | refine wpAny_pure ⟨_, rfl, wpAny_pure (hQ _ ?_ (Heap.SameBut.update ..) _ _)⟩
  | refine wpAny_bind (wpAny_pure (wpAny_pure ⟨_, rfl, wpAny_pure (hQ _ ?_ (Heap.SameBut.update ..) _ _)⟩))
  exact ⟨_, Heap.get?_update_self _ ho (Obj.isFreed_of_fields (Obj.data_mapFields hd _)), (Obj.cls_mapFields ..).trans hc, by
    rw [Obj.data_mapFields hd]; simp⟩
theorem next_end {it : Addr} {z : Str} {t : Tok} {Q : Option Value → Shared → Prop} (hh : A.handled = none) (hit : IsRs s.heap it z t (-1))
    (hQ : ∀ h', Heap.ExtBut it s.heap h' → Q none { s with heap := h' }) : wpAny (model prog w) A (pyNext (.ref it)) Q E s := by
  obtain ⟨o, ho, hc, hd⟩ := id hit
  unfold pyNext
  refine wpAny_bind (wpAny_attempt (wpAny_callSpecial?_slot (name := Str.ofString "__next__") hit.typeIs RT.slot_rt_next
    (wpAny_call_entry RT.slot_rt_next hit.typeIs RT.entry_rt_next ?_ (RT.args_rt_next _))))
  unfold Builtin.«reversed.__next__»
  refine wpAny_bind (wpAny_of_eq (a := (Value.ref it, [])) rfl ?_)
  try dsimp only
  refine wpAny_bind (wpAny_field ho hd (x := .str z t) rfl ?_)
  try dsimp only
  refine wpAny_bind (wpAny_field ho hd (x := rawInt (-1)) rfl ?_)
  show wpAny _ _ (if (-1 : Int) < 0 then _ else _) _ _ s
  rw [if_pos (by decide)]
  try dsimp only
  refine wpAny_bind (wpAny_rule ?_)
  refine wpAny_bind ?_
  wp_delta
  refine wpAny_bind (wpAny_setField ho hd (by simp) ?_)
  have ho2 := Heap.get?_update_self (Obj.mapFields (·.setIfInBounds 1 (rawInt (-1)))) ho (Obj.isFreed_of_fields (Obj.data_mapFields hd _))
  refine wpAny_setField (s := { s with heap := s.heap.update it (Obj.mapFields (·.setIfInBounds 1 (rawInt (-1)))) }) ho2 (Obj.data_mapFields hd _) (by simp) ?_
  try dsimp only
  first
  | show wpAny _ _ (newExc (.type "StopIteration") [] >>= _) _ _ _
  | (refine wpAny_bind ?_; show wpAny _ _ (newExc (.type "StopIteration") [] >>= _) _ _ _)
  | (refine wpAny_bind ?_; wp_delta; show wpAny _ _ (newExc (.type "StopIteration") [] >>= _) _ _ _)
  refine wpAny_bind ?_
  simp only [newExc, newTuple]
  refine wpAny_bind (wpAny_newObj_type ?_ (by size_fits))
  refine wpAny_bind (m := firstArgMember _ _) (wpAny_of_eq (a := Value.none) (by first | rfl | (simp only [firstArgMember]; rfl)) ?_)
  refine wpAny_newObj_type ?_ (by size_fits)
  simp only [raiseNew]
  refine wpAny_bind (wpAny_handled ?_)
  first | rw [show A.in1.handled = none from hh] | rw [hh]
  refine wpAny_bind (wpAny_pure (wpAny_throw ?_))
  refine wpAny_bind (wpAny_isInstance (T := "StopIteration") (b := true) ⟨_, Heap.get?_push_size _ rfl, rfl⟩ isSubtype_stop ?_)
  refine wpAny_pure (hQ _ ?_)
  refine ((?_ : Heap.ExtBut it s.heap _).push _).push _
  exact fun b ob hb e => (Heap.get?_update_other _ _ (Ne.symm hb)).trans ((Heap.get?_update_other _ _ (Ne.symm hb)).trans e)
theorem iter_rs {it : Addr} {z : Str} {t : Tok} {i : Int} {Q : Value → Shared → Prop} (hit : IsRs s.heap it z t i) (h : Q (.ref it) s) : wpAny (model prog w) A (pyIter (.ref it)) Q E s := by
  refine wpAny_pyIter_slot hit.typeIs RT.slot_rt_iter (wpAny_call_entry RT.slot_rt_iter hit.typeIs RT.entry_rt_iter ?_ (RT.args_rt_iter _))
  show wpAny _ _ (ret (.ref it)) _ _ s
  exact wpAny_pure ⟨_, rfl, "reversed", _, hit.typeIs, RT.slot_rt_next.lookup, h⟩
end
def ItrS (z : Str) : It := ⟨fun i _ => i < z.cps.size, fun i H v H' => H' = H ∧ ∃ c, z.cps[z.cps.size - 1 - i]? = some c ∧ v = .str ⟨#[c]⟩, fun i _ => z.cps.size ≤ i⟩
theorem turn_rs {P : Program} {w : World} {K : PySem.W.Frag} {tg : Expr} (it : Addr) (z : Str) (t : Tok) (hz : z.cps.size ≤ 16777216) : Turn P w K tg (ItrS z) [it] it (fun i h => i ≤ z.cps.size ∧ IsRs h it z t ((z.cps.size : Int) - 1 - (i : Nat))) where
  mem := by simp
  obj := fun i h st b hb => by
    have e : b = it := by simpa using hb
    subst e
    obtain ⟨_, o, e, c, d⟩ := st
    exact ⟨o, e, fun v z => by rw [d] at z; cases z⟩
  keep := fun i h h' st k => ⟨st.1, st.2.at fun o e => k it (by simp) o e⟩
  item := by
    intro X hP hw hK hc i pins s σ H E I hf st hg
    subst hP hw hK
    have hin : i < z.cps.size := hg
    obtain ⟨f0, f1, f2, f3, f4, f5⟩ := hf it (by simp)
    obtain ⟨_, hit⟩ := st
    have e1 : (z.cps.size : Int) - 1 - ((i : Nat) : Int) = ((z.cps.size - 1 - i : Nat) : Int) := by omega
    rw [e1] at hit
    have hj : z.cps.size - 1 - i < z.cps.size := by omega
    refine next_item hit hj (Array.getElem?_eq_getElem hj) hz fun h' st' sb u tk => ?_
    have e2 : ((z.cps.size - 1 - i : Nat) : Int) - 1 = (z.cps.size : Int) - 1 - ((i + 1 : Nat) : Int) := by omega
    rw [e2] at st'
    have I1 : Inv X pins σ H { s with heap := h', toks := tk } := I.turned (t' := tk) (fun b o hb e => (sb.2 b hb).trans e) f0 f1 f3 f4 f5
    obtain ⟨o, e, c, d⟩ := id st'
    exact ⟨_, rfl, go_of (s := { s with heap := h', toks := tk }) e c d (by decide) ⟨.str ⟨#[z.cps[z.cps.size - 1 - i]]⟩, H, I1, ⟨u, rfl⟩, ⟨rfl, _, Array.getElem?_eq_getElem hj, rfl⟩, ⟨hin, st'⟩, fun b hb => (hf b hb).1⟩⟩
  done := by
    intro X hP hw hK hc i pins s σ H E I hf st hg
    subst hP hw hK
    obtain ⟨f0, f1, f2, f3, f4, f5⟩ := hf it (by simp)
    obtain ⟨hin, hit⟩ := st
    have hge : z.cps.size ≤ i := hg
    have e1 : (z.cps.size : Int) - 1 - ((i : Nat) : Int) = -1 := by omega
    rw [e1] at hit
    exact next_end (I.ok.hd hc) hit fun h' eb => ⟨rfl, I.turned (t' := s.toks) (fun b o hb e => eb b o hb e) f0 f1 f3 f4 f5⟩
  self := fun A i s Q E st h => iter_rs st.2 h
theorem walk_revS {z : Str} : Walk (ItrS z) z.cps.size (fun _ => True) (fun i H v H' => H' = H ∧ ∃ c, z.cps[z.cps.size - 1 - i]? = some c ∧ v = .str ⟨#[c]⟩) :=
  ⟨fun _ _ hi _ => hi, fun _ _ => Nat.le_refl _, fun _ _ _ _ _ _ y => y⟩
/-- reversed(x), x a list, a tuple or a text -/
def iR (K : PySem.W.Frag) (te : TE) : TI := fun σ H R => te σ H fun v H1 => (∃ (a : Addr) (xs : List V), v = .ref a ∧ ((SqL K H1 a xs ∧ R (Itv K a xs.length) H1) ∨ (SqT K H1 a xs ∧ R (RT.ItvT K a xs.length) H1))) ∨ ∃ z : Str, v = .str z ∧ z.cps.size ≤ 16777216 ∧ R (ItrS z) H1
theorem pi_r {X : Cx} {tg : Expr} {e : Expr} {te : TE} {p pos : Pos} (hg : Gl X "reversed") (hm : X.mg "reversed" = none) (he : PE X e te) (hs : starEach [e] X.env = (false, eval e X.env) :: starEach [] X.env := by rfl) : PI X tg (.Call (.Name "reversed" p) [e] [] pos) (iR X.K te) := by
  refine ⟨fun pins s σ H R I h => ?_⟩
  refine Call_ (ld_blt I hg hm PyProof.Rows.boot_reversed (PyProof.Rows.callWith_type1 (args_cons (thn (he.run pins s σ H _ I h) fun u s1 ⟨v, H1, I1, r1, q1⟩ => args_nil ?_) hs) hs rfl))
  rcases q1 with ⟨a, xs, ev, q⟩ | ⟨z, ev, hz, q⟩
  · subst ev
    obtain rfl : u = Value.ref a := r1
    rcases q with ⟨hq, q⟩ | ⟨hq, q⟩
    · obtain ⟨its, rv, p', hz⟩ := I1.list hq
      have hl := rv.length
      have e1 : ((its.toArray.size : Nat) : Int) - 1 = (xs.length : Int) - 1 - ((0 : Nat) : Int) := by simp only [List.size_toArray]; omega
      refine call_reversed_list p'.isList (wpAny_pyIter_revIter (l := a) (i := ((its.toArray.size : Nat) : Int) - 1) ⟨_, Heap.get?_push_size _ rfl, rfl, rfl⟩ ?_)
      refine pi_one (tk := s1.toks) I1 _ (turn_rev a _ xs.length) ⟨Nat.zero_le _, ?_⟩ q
      rw [← e1]
      exact ⟨_, Heap.get?_push_size _ rfl, rfl, rfl⟩
    · obtain ⟨its, rv, p', hz⟩ := I1.tuple hq
      have hl := rv.length
      have hn := line63
      have e1 : ((its.toArray.size : Nat) : Int) - 1 = (xs.length : Int) - 1 - ((0 : Nat) : Int) := by simp only [List.size_toArray]; omega
      refine RT.call_reversed_tup p' (fun A E Q k => len_tuple p' (by simp only [List.size_toArray] <;> omega) k) (RT.iter_rt (t := a) (i := ((its.toArray.size : Nat) : Int) - 1) ⟨_, Heap.get?_push_size _ rfl, rfl, rfl⟩ ?_)
      refine pi_one (tk := s1.toks + 1 + 1) I1 _ (RT.turn_rt a _ xs.length) ⟨Nat.zero_le _, ?_⟩ q
      rw [← e1]
      exact ⟨_, Heap.get?_push_size _ rfl, rfl, rfl⟩
  · subst ev
    obtain ⟨t, rfl⟩ := r1
    have e1 : ((z.cps.size : Nat) : Int) - 1 = (z.cps.size : Int) - 1 - ((0 : Nat) : Int) := by omega
    refine call_rs (z := z) (t := t) hz (iter_rs (z := z) (t := t) (i := ((z.cps.size : Nat) : Int) - 1) ⟨_, Heap.get?_push_size _ rfl, rfl, rfl⟩ ?_)
    refine pi_one (tk := s1.toks + 1 + 1) I1 _ (turn_rs _ z t hz) ⟨Nat.zero_le _, ?_⟩ q
    rw [← e1]
    exact ⟨_, Heap.get?_push_size _ rfl, rfl, rfl⟩
end ZR
/-! enumerate of a list, a tuple, a text -/
namespace ZE
open PySem PySem.Spec PyProof.Rows L2
open AutoSeq1 (wpAny_loadPart')
theorem meets_enumerate_newT (l : Addr) (items : Array Value) :
    Meets (Builtin.«enumerate.__new__» ⟨[.type "enumerate", .ref l], []⟩) (fun _ R s => s.heap.IsTuple l items ∧
      R (.ok (.ret (.ref (s.heap.push { cls := .type "tuple_iterator", data := .fields #[.ref l, .int 0 0] }).objs.size)))
        { s with heap := (s.heap.push { cls := .type "tuple_iterator", data := .fields #[.ref l, .int 0 0] }).push { cls := .type "enumerate", data := .fields #[.none, .bool false, .ref s.heap.objs.size, rawInt 0, .none, .none] } }) :=
  .of_wp fun prog w A R s h => by
    obtain ⟨hp, g, d, tk, os⟩ := s; obtain ⟨hL, h⟩ := h
    have hsub := sub_enumerate
    wp_walk using wpAny_pyIter_tuple hL
    refine wpAny_stack_any fun st => wpAny_pure ?_
    split
    · rename_i c _ _ _ _ _
      cases (c == Value.type "enumerate")
      · wp_walk using wpAny_pyIter_tuple hL
        exact ⟨_, rfl, h⟩
      · wp_walk using wpAny_pyIter_tuple hL
        exact ⟨_, rfl, h⟩
    · wp_walk using wpAny_pyIter_tuple hL
      exact ⟨_, rfl, h⟩
section
variable {prog : Program} {w : World} {A : Around} {E : Value → Shared → Prop} {s : Shared}
theorem call_enumerate_tuple {l : Addr} {items : Array Value} {Q : Value → Shared → Prop} (hL : s.heap.IsTuple l items)
    (h : ∀ h', IsEnum h' (s.heap.objs.size + 1) s.heap.objs.size 0 .none → h'.IsTupleIter s.heap.objs.size l 0 → h'.objs.size = s.heap.objs.size + 2 →
      (∀ b o, s.heap.get? b = some o → h'.get? b = some o) → Q (.ref (s.heap.objs.size + 1)) { s with heap := h' }) :
    wpAny (model prog w) A (call (.type "enumerate") [.ref l]) Q E s := by
  refine callType_new F.called_enumerate (by decide) (F.typeCall_enumerate_1 _) (F.newCall_enumerate_1 _) (fun obj => F.args_object_init_2 obj _) F.entry_enumerate_new
    (meets_enumerate_newT l items) ⟨hL, ?_⟩
  have hz : (s.heap.push { cls := .type "tuple_iterator", data := .fields #[.ref l, .int 0 0] }).objs.size = s.heap.objs.size + 1 := Heap.size_push ..
  show _ ∧ _
  rw [hz]
  have he : IsEnum ((s.heap.push { cls := .type "tuple_iterator", data := .fields #[.ref l, .int 0 0] }).push
      { cls := .type "enumerate", data := .fields #[.none, .bool false, .ref s.heap.objs.size, rawInt 0, .none, .none] }) (s.heap.objs.size + 1) s.heap.objs.size 0 .none := by
    have := Heap.get?_push_size (s.heap.push { cls := .type "tuple_iterator", data := .fields #[.ref l, .int 0 0] })
      (o := { cls := .type "enumerate", data := .fields #[.none, .bool false, .ref s.heap.objs.size, rawInt 0, .none, .none] }) rfl
    rw [hz] at this; exact this
  refine ⟨⟨_, he, rfl⟩, h _ he ⟨_, Heap.get?_push_of_some _ (Heap.get?_push_size _ rfl), rfl, rfl⟩ (by rw [Heap.size_push, hz]) fun b o x => Heap.get?_push_of_some _ (Heap.get?_push_of_some _ x)⟩
end
theorem drawsT {prog : Program} {w : World} {A : Around} (hh : A.handled = none) (it l : Addr) (hne : l ≠ it) (items : Array Value) :
    Draws prog w A it [it, l] items.size (fun i v => items[i]? = some v) (fun i h => h.IsTupleIter it l i ∧ h.IsTuple l items) where
  live := fun _ _ st => let ⟨o, ho, _⟩ := st.1; ⟨o, ho⟩
  frame := fun _ _ _ st hk => ⟨let ⟨o, ho, r⟩ := st.1; ⟨o, hk it (by simp) o ho, r⟩, let ⟨o, ho, r⟩ := st.2; ⟨o, hk l (by simp) o ho, r⟩⟩
  item := fun i s Q E hi st hQ => by
    refine RZ.nextOf_tuple_item st.1 st.2 (x := items[i]) (by simp [hi]) fun h' hit' hs' => ?_
    exact hQ _ h' s.toks (by simp [hi]) ⟨hit', let ⟨o, ho, r⟩ := st.2; ⟨o, (hs'.2 l hne).trans ho, r⟩⟩ hs'
  done := fun s Q E st hE => RZ.nextOf_tuple_end hh st.1 st.2 (by simp) fun h' e h1 h2 => hE h' e h1 h2
/-- what is drawn from, the number put ahead -/
def ItE (go stop : Nat → Hp → Prop) (yl : Nat → Hp → V → Prop) : It := ⟨go, fun i H v H' => ∃ T x, v = .ref T ∧ H T = none ∧ H' = upd H T (.tup [.int (i : Nat), x]) ∧ yl i H x, stop⟩
structure US (P : Program) (w : World) (K : PySem.W.Frag) (it : Addr) (go stop : Nat → Hp → Prop) (yl : Nat → Hp → V → Prop) (tn : Nat → Heap → Prop) : Prop where
  obj : ∀ i h, tn i h → ∃ o, h.get? it = some o ∧ ∀ v, o.data ≠ .cell v
  keep : ∀ i h h', tn i h → (∀ o, h.get? it = some o → h'.get? it = some o) → tn i h'
  draw : ∀ (X : Cx), X.prog = P → X.w = w → X.K = K → X.calm = true → ∀ (i : Nat) (pins : List (Addr × Obj)) (s : Shared) (σ : L2.St) (H : Hp) (e : Addr), Inv X pins σ H s → (∃ o, s.heap.get? e = some o ∧ o.cls = .type "enumerate") → e ≠ it → tn i s.heap → (go i H ∨ stop i H) →
    ∃ (fp : List Addr) (n : Nat) (Pd : Nat → Value → Prop) (Sd : Nat → Heap → Prop), Draws P w X.A.in1 it fp n Pd Sd ∧ e ∉ fp ∧ Sd i s.heap ∧ (∀ h, i < n → Sd (i + 1) h → tn (i + 1) h) ∧ (go i H → i < n ∧ ∀ v, Pd i v → ∃ x, RelV x v ∧ yl i H x) ∧ (stop i H → i = n)
theorem turn_e {P : Program} {w : World} {K : PySem.W.Frag} {elts : List Expr} {kk : Nat} {tpos : Pos} {e it : Addr} {go stop : Nat → Hp → Prop} {yl : Nat → Hp → V → Prop} {tn : Nat → Heap → Prop} (U : US P w K it go stop yl tn) :
    Turn P w K (.Tuple elts kk tpos) (ItE go stop yl) [e, it] e (fun i h => (∃ old, IsEnum h e it ((i : Nat) : Int) old) ∧ tn i h ∧ e ≠ it) where
  mem := by simp
  obj := fun i h st b hb => by
    obtain ⟨⟨old, he⟩, hi, _⟩ := st
    have e' : b = e ∨ b = it := by simpa using hb
    rcases e' with z | z
    · rw [z]; exact ⟨_, he, fun v q => nomatch q⟩
    · rw [z]; exact U.obj i h hi
  keep := fun i h h' st k => let ⟨⟨old, he⟩, hi, hne⟩ := st; ⟨⟨old, k e (by simp) _ he⟩, U.keep i h h' hi (fun o q => k it (by simp) o q), hne⟩
  item := by
    intro X hP hw hK hc i pins s σ H E I hf st hg
    obtain ⟨⟨old, he⟩, hit, hne⟩ := st
    obtain ⟨fp, n, Pd, Sd, D, hef, hS, hT, hgo, _⟩ := U.draw X hP hw hK hc i pins s σ H e I ⟨_, he, rfl⟩ hne hit (.inl hg)
    subst hP hw hK
    obtain ⟨hin, hyl⟩ := hgo hg
    have hel : e < s.heap.objs.size := Heap.lt_size he
    have hil : it < s.heap.objs.size := by obtain ⟨_, q, _⟩ := U.obj i _ hit; exact Heap.lt_size q
    refine wpAny_pyNext_enum_itemD D he hS hin hne hef fun u h' tk hP ho hS' hT' hsz hk => ?_
    obtain ⟨x, ru, hy⟩ := hyl u hP
    refine ⟨_, rfl, wpAny_letOwnedTupleGo_enum (s := { s with heap := h', toks := tk + 1 }) ho fun h'' he' sb => ?_⟩
    have hT2 : h''.get? s.heap.objs.size = some { cls := .type "tuple", data := .seq #[.int i tk, u] } := (sb.2 _ (Nat.ne_of_gt hel)).trans hT'
    have new : ObjOk X.prog X.w (upd H s.heap.objs.size (.tup [.int (i : Nat), x])) h'' s.heap.objs.size (.tup [.int (i : Nat), x]) :=
      ⟨by show 2 ≤ sizeLine; decide, [.int i tk, u], .cons ⟨_, rfl⟩ (.cons ru .nil), ⟨_, hT2, rfl, _, rfl⟩⟩
    have I1 : Inv X pins σ (upd H s.heap.objs.size (.tup [.int (i : Nat), x])) { s with heap := h'', toks := tk + 1 } :=
      I.turnedNew (ch := [e, it]) (fun b ob hb q => (sb.2 b (fun z => hb (by simp [z]))).trans (hk b ob (fun z => hb (by simp [z])) (fun z => hb (by simp [z])) q)) hf (Nat.le_refl _) new
    refine ⟨.ref s.heap.objs.size, _, I1, rfl, ⟨_, x, rfl, I.hok.fresh (Nat.le_refl _), rfl, hy⟩, ⟨⟨u, ?_⟩, U.keep _ _ _ (hT h' hin hS') (fun o q => (sb.2 it (Ne.symm hne)).trans q), hne⟩, fun b hb => ?_⟩
    · have e1 : ((i + 1 : Nat) : Int) = (i : Int) + 1 := by omega
      rw [e1]; exact he'
    · have hb' : b < s.heap.objs.size := by
        have e' : b = e ∨ b = it := by simpa using hb
        rcases e' with z | z
        · rw [z]; exact hel
        · rw [z]; exact hil
      rw [upd_ne (Nat.ne_of_lt hb')]
      exact (hf b hb).1
  done := by
    intro X hP hw hK hc i pins s σ H E I hf st hg
    obtain ⟨⟨old, he⟩, hit, hne⟩ := st
    obtain ⟨fp, n, Pd, Sd, D, hef, hS, hT, _, hst⟩ := U.draw X hP hw hK hc i pins s σ H e I ⟨_, he, rfl⟩ hne hit (.inr hg)
    subst hP hw hK
    have hin := hst hg
    subst hin
    obtain ⟨f0, f1, f2, f3, f4, f5⟩ := hf it (by simp)
    exact wpAny_pyNext_enum_endD D he hS fun h' eb => ⟨rfl, I.turned (t' := s.toks) (fun b o hb q => eb b o hb q) f0 f1 f3 f4 f5⟩
  self := fun A i s Q E st h => let ⟨⟨_, he⟩, _⟩ := st; wpAny_pyIter_enum he h
/-! a tuple's, a text's -/
def goT (K : PySem.W.Frag) (a : Addr) (m : Nat) : Nat → Hp → Prop := fun i H => i < m ∧ ∃ xs, SqT K H a xs ∧ xs.length = m
def stT (K : PySem.W.Frag) (a : Addr) (m : Nat) : Nat → Hp → Prop := fun i H => m ≤ i ∧ ∃ xs, SqT K H a xs ∧ xs.length = m
def ylT (K : PySem.W.Frag) (a : Addr) : Nat → Hp → V → Prop := fun i H x => ∀ xs, SqT K H a xs → xs[i]? = some x
theorem us_t {P : Program} {w : World} {K : PySem.W.Frag} {it a : Addr} {m : Nat} : US P w K it (goT K a m) (stT K a m) (ylT K a) (fun i h => i ≤ m ∧ h.IsTupleIter it a i) where
  obj := fun i h st => let ⟨o, e, c, d⟩ := st.2; ⟨o, e, fun v z => by rw [d] at z; cases z⟩
  keep := fun i h h' st k => ⟨st.1, let ⟨o, e, r⟩ := st.2; ⟨o, k o e, r⟩⟩
  draw := by
    intro X hP hw hK hc i pins s σ H e I fe hne st hg
    subst hP hw hK
    have hq : ∃ xs, SqT X.K H a xs ∧ xs.length = m := hg.elim (fun q => q.2) fun q => q.2
    obtain ⟨xs, hq, hl⟩ := hq
    obtain ⟨its, rv, p, hz⟩ := I.tuple hq
    have hlen := rv.length
    have ni : it ≠ a := fun z => by
      obtain ⟨o, e1, c1, _⟩ := st.2
      obtain ⟨o2, e2, c2, _⟩ := p
      rw [z, e2] at e1
      cases e1
      rw [c2] at c1
      exact absurd c1 (by decide)
    have ne : e ≠ a := fun z => by
      obtain ⟨o, e1, c1⟩ := fe
      obtain ⟨o2, e2, c2, _⟩ := p
      rw [z, e2] at e1
      cases e1
      rw [c2] at c1
      exact absurd c1 (by decide)
    refine ⟨[it, a], its.toArray.size, fun i v => its.toArray[i]? = some v, fun i h => h.IsTupleIter it a i ∧ h.IsTuple a its.toArray, drawsT (A := X.A.in1) (I.ok.hd hc) it a (Ne.symm ni) its.toArray, ?_, ⟨st.2, p⟩, fun h hi q => ⟨by simp at hi; omega, q.1⟩, fun g => ⟨by have := g.1; simp; omega, fun v hv => ?_⟩, fun g => by have := g.1; have := st.1; simp; omega⟩
    · intro hm
      have : e = it ∨ e = a := by simpa using hm
      exact this.elim hne ne
    · have hi : i < xs.length := by have := g.1; omega
      obtain ⟨u, hu, ru⟩ := rv.get (List.getElem?_eq_getElem hi)
      have hv' : its[i]? = some v := by simpa using hv
      rw [hu] at hv'
      cases hv'
      exact ⟨xs[i], ru, fun ys hy => by rw [I.tuple_inj hy hq]; exact List.getElem?_eq_getElem hi⟩
def goS (z : Str) : Nat → Hp → Prop := fun i _ => i < z.cps.size
def stS (z : Str) : Nat → Hp → Prop := fun i _ => z.cps.size ≤ i
def ylS (z : Str) : Nat → Hp → V → Prop := fun i _ x => ∃ c, z.cps[i]? = some c ∧ x = .str ⟨#[c]⟩
theorem us_s {P : Program} {w : World} {K : PySem.W.Frag} {it : Addr} {z : Str} {t : Tok} : US P w K it (goS z) (stS z) (ylS z) (fun i h => i ≤ z.cps.size ∧ h.IsStrIter it (strIterType z) z t i) where
  obj := fun i h st => let ⟨o, e, c, d⟩ := st.2; ⟨o, e, fun v z => by rw [d] at z; cases z⟩
  keep := fun i h h' st k => ⟨st.1, let ⟨o, e, r⟩ := st.2; ⟨o, k o e, r⟩⟩
  draw := by
    intro X hP hw hK hc i pins s σ H e I fe hne st hg
    subst hP hw hK
    have D : Draws X.prog X.w X.A.in1 it [it] z.cps.size (fun i v => ∃ c u, z.cps[i]? = some c ∧ v = .str ⟨#[c]⟩ u) (fun i h => h.IsStrIter it (strIterType z) z t i) := by
      unfold strIterType
      cases ha : z.cps.all (· < 128)
      · simp only [Bool.false_eq_true, if_false]; exact Draws.strWide (A := X.A.in1) (I.ok.hd hc) it z t
      · simp only [if_true]; exact Draws.strAscii (A := X.A.in1) (I.ok.hd hc) it z t
    refine ⟨[it], _, _, _, D, by simpa using hne, st.2, fun h hi q => ⟨by omega, q⟩, fun g => ⟨g, fun v ⟨c, u, hc, hv⟩ => ⟨.str ⟨#[c]⟩, ⟨u, hv⟩, c, hc, rfl⟩⟩, fun g => by have := st.1; have : z.cps.size ≤ i := g; omega⟩
/-- enumerate(x), x a list, a tuple or a text -/
def iE (K : PySem.W.Frag) (te : TE) : TI := fun σ H R => te σ H fun v H1 => (∃ (a : Addr) (xs : List V), v = .ref a ∧ ((SqL K H1 a xs ∧ R (Ite K a) H1) ∨ (SqT K H1 a xs ∧ R (ItE (goT K a xs.length) (stT K a xs.length) (ylT K a)) H1))) ∨ ∃ z : Str, v = .str z ∧ R (ItE (goS z) (stS z) (ylS z)) H1
theorem pi_e {X : Cx} {e : Expr} {te : TE} {p pos tpos : Pos} {elts : List Expr} {kk : Nat} (hg : Gl X "enumerate") (hm : X.mg "enumerate" = none) (he : PE X e te) (hs : starEach [e] X.env = (false, eval e X.env) :: starEach [] X.env := by rfl) :
    PI X (.Tuple elts kk tpos) (.Call (.Name "enumerate" p) [e] [] pos) (iE X.K te) := by
  refine ⟨fun pins s σ H R I h => ?_⟩
  refine Call_ (ld_blt I hg hm boot_enumerate (PyProof.Rows.callWith_type1 (args_cons (thn (he.run pins s σ H _ I h) fun u s1 ⟨v, H1, I1, r1, q1⟩ => args_nil ?_) hs) hs rfl))
  have fr : ∀ b, b = s1.heap.objs.size + 1 ∨ b = s1.heap.objs.size → s1.heap.objs.size ≤ b := fun b e' => by
    rcases e' with z | z
    · rw [z]; exact Nat.le_add_right _ _
    · rw [z]; exact Nat.le_refl _
  rcases q1 with ⟨a, xs, ev, q⟩ | ⟨z, ev, q⟩
  · subst ev
    obtain rfl : u = Value.ref a := r1
    rcases q with ⟨hq, q⟩ | ⟨hq, q⟩
    · obtain ⟨its, rv, p', hz⟩ := I1.list hq
      refine call_enumerate_list p'.isList fun h' he hit hsz hk => wpAny_pyIter_enum he ?_
      have I2 : Inv X pins σ H1 { s1 with heap := h' } := I1.kept (t' := s1.toks) hk
      refine ⟨s1.heap.objs.size + 1, [s1.heap.objs.size + 1, s1.heap.objs.size], _, _, H1, rfl, I2, turn_enum a (s1.heap.objs.size + 1) s1.heap.objs.size, ⟨⟨.none, he⟩, hit, Nat.succ_ne_self _⟩, fun b hb => ?_, q⟩
      have hle := fr b (by simpa using hb)
      exact I1.fpOk hle (I1.hok.fresh hle)
    · obtain ⟨its, rv, p', hz⟩ := I1.tuple hq
      refine call_enumerate_tuple p' fun h' he hit hsz hk => wpAny_pyIter_enum he ?_
      have I2 : Inv X pins σ H1 { s1 with heap := h' } := I1.kept (t' := s1.toks) hk
      refine ⟨s1.heap.objs.size + 1, [s1.heap.objs.size + 1, s1.heap.objs.size], _, _, H1, rfl, I2, turn_e us_t, ⟨⟨.none, he⟩, ⟨Nat.zero_le _, hit⟩, Nat.succ_ne_self _⟩, fun b hb => ?_, q⟩
      have hle := fr b (by simpa using hb)
      exact I1.fpOk hle (I1.hok.fresh hle)
  · subst ev
    obtain ⟨t, rfl⟩ := r1
    refine call_enumerate_str fun h' he hit hsz hk => wpAny_pyIter_enum he ?_
    have I2 : Inv X pins σ H1 { s1 with heap := h' } := I1.kept (t' := s1.toks) hk
    refine ⟨s1.heap.objs.size + 1, [s1.heap.objs.size + 1, s1.heap.objs.size], _, _, H1, rfl, I2, turn_e us_s, ⟨⟨.none, he⟩, ⟨Nat.zero_le _, hit⟩, Nat.succ_ne_self _⟩, fun b hb => ?_, q⟩
    have hle := fr b (by simpa using hb)
    exact I1.fpOk hle (I1.hok.fresh hle)
end ZE
set_option maxHeartbeats 200000
/-! loops -/
namespace Z
open PySem L2
section
variable {Z : Cd} {W : WX} {F F' F1 F2 : Addr → Prop} {H H' H1 H2 : Hp} {σ σ' σ1 σ2 : L2.St} {ρ ρ' ρ1 ρ2 : Env}
theorem lk_cases (ρ : Env) : ∀ (l : List Nat) (j : Nat), gt (lkA ρ l) j = gt ρ j ∨ ∃ w f, gt ρ j = .o w f ∧ gt (lkA ρ l) j = .k w f := fun l j => by
  by_cases h : j ∈ l
  · cases g : gt ρ j with
    | o w f => exact .inr ⟨w, f, rfl, lkA_at h (.inl g)⟩
    | k w f => exact .inl (lkA_at h (.inr g))
    | u => left; exact lk_oth l j (fun w f z => by rw [g] at z; cases z) ▸ g
    | v d f => left; exact lk_oth l j (fun w f z => by rw [g] at z; cases z) ▸ g
    | e c => left; exact lk_oth l j (fun w f z => by rw [g] at z; cases z) ▸ g
    | n c vs => left; exact lk_oth l j (fun w f z => by rw [g] at z; cases z) ▸ g
  · exact .inl (lkA_gt h)
where lk_oth : ∀ {ρ : Env} (l : List Nat) (j : Nat), (∀ w f, gt ρ j ≠ .o w f) → gt ρ j = gt (lkA ρ l) j
  | ρ, [], j, _ => rfl
  | ρ, i :: r, j, h => by
    unfold lkA
    have e : gt (lk ρ i) j = gt ρ j := by
      unfold lk
      split
      · rename_i w f g
        by_cases q : j = i
        · subst q
          exact absurd g (h w f)
        · exact gt_pt_ne _ _ q
      · rfl
    rw [← e]
    exact lk_oth r j (fun w f z => h w f (e ▸ z))
theorem ul_cases (ρ : Env) : ∀ (l : List Nat) (j : Nat), gt (ulA ρ l) j = gt ρ j ∨ (j ∈ l ∧ ∃ w f, gt ρ j = .k w f ∧ gt (ulA ρ l) j = .o w f) := fun l j => by
  by_cases h : j ∈ l
  · cases g : gt ρ j with
    | k w f => exact .inr ⟨h, w, f, rfl, ulA_at h (.inr g)⟩
    | o w f => exact .inl (ulA_at h (.inl g))
    | u => left; exact ul_oth l j (fun w f z => by rw [g] at z; cases z) ▸ g
    | v d f => left; exact ul_oth l j (fun w f z => by rw [g] at z; cases z) ▸ g
    | e c => left; exact ul_oth l j (fun w f z => by rw [g] at z; cases z) ▸ g
    | n c vs => left; exact ul_oth l j (fun w f z => by rw [g] at z; cases z) ▸ g
  · exact .inl (ulA_gt h)
where ul_oth : ∀ {ρ : Env} (l : List Nat) (j : Nat), (∀ w f, gt ρ j ≠ .k w f) → gt ρ j = gt (ulA ρ l) j
  | ρ, [], j, _ => rfl
  | ρ, i :: r, j, h => by
    unfold ulA
    have e : gt (ul ρ i) j = gt ρ j := by
      unfold ul
      split
      · rename_i w f g
        by_cases q : j = i
        · subst q
          exact absurd g (h w f)
        · exact gt_pt_ne _ _ q
      · rfl
    rw [← e]
    exact ul_oth r j (fun w f z => h w f (e ▸ z))
theorem oa_k {a : Addr} {w : Ow} {f : Bool} {x : Option V} : oa x (.k w f) = some a ↔ x = some (.ref a) := by
  cases x with
  | none => simp [oa]
  | some v => cases v <;> simp [oa]
theorem oa_lk (l : List Nat) (j : Nat) (x : Option V) : oa x (gt (lkA ρ l) j) = oa x (gt ρ j) := by
  rcases lk_cases ρ l j with e | ⟨w, f, e1, e2⟩
  · rw [e]
  · rw [e1, e2]
    cases x with
    | none => rfl
    | some v => cases v <;> rfl
theorem flg_lk (l : List Nat) (j : Nat) : flg (gt (lkA ρ l) j) = flg (gt ρ j) := by
  rcases lk_cases ρ l j with e | ⟨w, f, e1, e2⟩
  · rw [e]
  · rw [e1, e2]; rfl
theorem oa_ul (l : List Nat) (j : Nat) (x : Option V) : oa x (gt (ulA ρ l) j) = oa x (gt ρ j) := by
  rcases ul_cases ρ l j with e | ⟨_, w, f, e1, e2⟩
  · rw [e]
  · rw [e1, e2]
    cases x with
    | none => rfl
    | some v => cases v <;> rfl
theorem flg_ul (l : List Nat) (j : Nat) : flg (gt (ulA ρ l) j) = flg (gt ρ j) := by
  rcases ul_cases ρ l j with e | ⟨_, w, f, e1, e2⟩
  · rw [e]
  · rw [e1, e2]; rfl
theorem wr_lk {l : List Nat} {a : Addr} (h : Wr σ (lkA ρ l) a) : Wr σ ρ a := by
  obtain ⟨j, h⟩ := h
  refine ⟨j, ?_⟩
  rcases lk_cases ρ l j with e | ⟨w, f, e1, e2⟩
  · rw [← e]; exact h
  · rw [e2] at h
    cases q : sg σ j with
    | none => rw [q] at h; cases h
    | some v => rw [q] at h; cases v <;> cases h
theorem RS.lkA (I : RS Z F H σ ρ) (l : List Nat) : RS Z F H σ (lkA ρ l) where
  fok := I.fok
  len := (lkA_length l ρ).trans I.len
  sl := fun j => by
    have q := I.sl j
    rcases lk_cases ρ l j with e | ⟨w, f, e1, e2⟩
    · rw [e]; exact q
    · rw [e2]
      rw [e1] at q
      exact q
  ap := fun i j a n h1 h2 => I.ap i j a n (oa_lk l i _ ▸ h1) (oa_lk l j _ ▸ h2)
theorem RS.ulA (I : RS Z F H σ ρ) (l : List Nat) : RS Z F H σ (ulA ρ l) where
  fok := I.fok
  len := (ulA_length l ρ).trans I.len
  sl := fun j => by
    have q := I.sl j
    rcases ul_cases ρ l j with e | ⟨_, w, f, e1, e2⟩
    · rw [e]; exact q
    · rw [e2]
      rw [e1] at q
      exact q
  ap := fun i j a n h1 h2 => I.ap i j a n (oa_ul l i _ ▸ h1) (oa_ul l j _ ▸ h2)
/-- locked, run, unlocked -/
theorem SS.locked {l : List Nat} (x : SS Z σ ρ F H σ ρ1 F1 H1) (y : SS Z σ (lkA ρ1 (owA ρ1 l)) F1 H1 σ' ρ' F' H') : SS Z σ ρ F H σ' (ulA ρ' (owA ρ1 l)) F' H' where
  rs := y.rs.ulA _
  st := ⟨fun a o e n => y.st.keep a o (x.st.keep a o e n) fun w => (x.sub a (wr_lk w)).elim n fun z => (by rw [z] at e; cases e),
    fun a h => y.st.live a (x.st.live a h), fun a h => y.st.fmo a (x.st.fmo a h), fun a h => by
      rcases y.st.fnew a h with q | q | q
      · exact x.st.fnew a q
      · exact .inr (.inl (x.st.dead a q))
      · exact (x.sub a (wr_lk q)).elim (fun z => .inr (.inr z)) fun z => .inr (.inl z)⟩
  flag := fun i h => by
    rw [flg_ul] at h
    obtain ⟨h1, e1⟩ := y.flag i h
    rw [flg_lk] at h1
    obtain ⟨h2, e2⟩ := x.flag i h1
    exact ⟨h2, e1.trans e2⟩
  own := fun i a h n => by
    rw [oa_ul] at h
    rw [flg_ul] at n
    rcases y.own i a h n with q | ⟨j, q, m⟩
    · exact .inl (x.st.dead a q)
    · rw [oa_lk] at q
      rw [flg_lk] at m
      exact x.own j a q m
  sub := fun a h => by
    obtain ⟨j, h⟩ := h
    rcases ul_cases ρ' (owA ρ1 l) j with e | ⟨hj, w, f, e1, e2⟩
    · rw [e] at h
      rcases y.sub a ⟨j, h⟩ with q | q
      · exact x.sub a (wr_lk q)
      · exact .inr (x.st.dead a q)
    · obtain ⟨k1, k2⟩ := y.kk j w f e1
      obtain ⟨w0, f0, g⟩ := owA_at hj
      rw [e2, k2] at h
      exact x.sub a ⟨j, by rw [g]; exact wa_o.mpr (wa_o.mp h)⟩
  kk := fun i w f h => by
    rcases ul_cases ρ' (owA ρ1 l) i with e | ⟨hj, w', f', e1, e2⟩
    · rw [e] at h
      obtain ⟨k1, k2⟩ := y.kk i w f h
      by_cases hi : i ∈ owA ρ1 l
      · have := ulA_at hi (.inr h)
        rw [e, h] at this
        cases this
      · rw [lkA_gt hi] at k1
        obtain ⟨z1, z2⟩ := x.kk i w f k1
        exact ⟨z1, k2.trans z2⟩
    · rw [e2] at h
      cases h
  ln := y.ln.trans x.ln
  ee := fun i c h => by
    rcases ul_cases ρ' (owA ρ1 l) i with e | ⟨hj, w', f', e1, e2⟩
    · rw [e] at h
      have q := y.ee i c h
      rcases lk_cases ρ1 (owA ρ1 l) i with z | ⟨w, f, z1, z2⟩
      · rw [z] at q
        exact x.ee i c q
      · rw [z2] at q
        cases q
    · rw [e2] at h
      cases h
theorem SQs.locked {l : List Nat} {o : Out Fl} {D : Ends} (h : SQs Z W F H σ ρ (mapE o fun ρ2 => _root_.Z.ulA ρ2 (owA ρ1 l)) D) (x : SS Z σ ρ F H σ ρ1 F1 H1) : SQs Z W F1 H1 σ (lkA ρ1 (owA ρ1 l)) o D := by
  cases o with
  | ok r ρ' =>
    cases r with
    | nx => exact fun σ' F' H' s => h σ' F' H' (x.locked s)
    | cont => exact fun σ' F' H' s => h σ' F' H' (x.locked s)
    | brk => exact fun σ' F' H' s => h σ' F' H' (x.locked s)
    | ret r => exact fun σ' F' H' v s q => h σ' F' H' v (x.locked s) (q.from x.st.dead)
  | ex c ρ' => exact fun σ' F' H' s => h σ' F' H' (x.locked s)
  | st => exact h
/-! ### targets -/
def TgOk (Z : Cd) (t : Tg) (g : TG) : Prop := ∀ (d : D) (v : V) (ρ ρ' : Env) (F : Addr → Prop) (H : Hp) (σ : L2.St) (Q : L2.St → Hp → Prop), RS Z F H σ ρ → Rep Z F H d v → asg t d ρ = some ρ' → (∀ σ', SS Z σ ρ F H σ' ρ' F H → (∀ l, tgIn t l = true → wipe σ' l = wipe σ l) → (∀ a, Oa σ' ρ' a → Oa σ ρ a) → Q σ' H) → g v σ H Q
theorem wipe_get (σ : L2.St) (j : Nat) : ∀ l : List Nat, (wipe σ l)[j]? = if j ∈ l then σ[j]?.map (fun _ => none) else σ[j]?
  | [] => by simp [wipe]
  | i :: l => by
    unfold wipe
    rw [List.getElem?_set, wipe_length]
    by_cases h : i = j
    · subst h
      rw [if_pos rfl, if_pos List.mem_cons_self]
      by_cases hl : i < σ.length
      · rw [if_pos hl, List.getElem?_eq_getElem hl]; rfl
      · rw [if_neg hl, List.getElem?_eq_none (by omega)]; rfl
    · rw [if_neg h, wipe_get σ j l]
      have e : (j ∈ i :: l) = (j ∈ l) := by
        rw [List.mem_cons]
        exact propext ⟨fun z => z.elim (fun q => absurd q.symm h) id, .inr⟩
      simp only [e]
theorem wipe_put {i : Nat} {v : Option V} {l : List Nat} (h : i ∈ l) : wipe (σ.set i v) l = wipe σ l := by
  apply List.ext_getElem?
  intro j
  rw [wipe_get, wipe_get]
  by_cases hj : j ∈ l
  · rw [if_pos hj, if_pos hj, List.getElem?_set]
    by_cases e : i = j
    · subst e
      rw [if_pos rfl]
      by_cases hl : i < σ.length
      · rw [if_pos hl, List.getElem?_eq_getElem hl]; rfl
      · rw [if_neg hl, List.getElem?_eq_none (by omega)]
    · rw [if_neg e]
  · rw [if_neg hj, if_neg hj, List.getElem?_set, if_neg (show ¬ i = j from fun e => hj (e ▸ h))]
theorem oa_put {i : Nat} {v : V} {d : D} {f : Bool} {a : Addr} (ln : ρ.length = σ.length) (h : Oa (σ.set i (some v)) (pt ρ i (.v d f)) a) : Oa σ ρ a := by
  obtain ⟨j, e⟩ := h
  rw [sg_set, gt_pt] at e
  by_cases z : j = i ∧ i < σ.length
  · rw [if_pos z, if_pos ⟨z.1, by omega⟩] at e
    cases v <;> cases e
  · rw [if_neg z, if_neg (fun q => z ⟨q.1, by omega⟩)] at e
    exact ⟨j, e⟩
theorem tg_one {i : Nat} : TgOk Z (.one i) (gName i) := fun d v ρ ρ' F H σ Q I r e k => by
  cases e
  exact k _ ((SS.refl I).putV r) (fun l hl => wipe_put (by simpa [tgIn] using hl)) fun a h => oa_put I.len h
def gNames : List Nat → TGs
  | [] => gNil
  | i :: is => gCons (gName i) (gNames is)
theorem tg_names : ∀ (is : List Nat) (ds : List D) (vs : List V) (ρ ρ' : Env) (F : Addr → Prop) (H : Hp) (σ : L2.St) (Q : L2.St → Hp → Prop), RS Z F H σ ρ → RepA Z F H ds vs → asg.go is ds ρ = some ρ' → (∀ σ', SS Z σ ρ F H σ' ρ' F H → (∀ l, tgIn (.tup is) l = true → wipe σ' l = wipe σ l) → (∀ a, Oa σ' ρ' a → Oa σ ρ a) → Q σ' H) → gNames is vs σ H Q
  | [], [], vs, ρ, ρ', F, H, σ, Q, I, r, e, k => by
    cases e
    simp only [RepA] at r
    exact ⟨r, k σ (.refl I) (fun _ _ => rfl) fun _ h => h⟩
  | [], _ :: _, vs, ρ, ρ', F, H, σ, Q, I, r, e, k => by cases e
  | _ :: _, [], vs, ρ, ρ', F, H, σ, Q, I, r, e, k => by cases e
  | i :: is, d :: ds, vs, ρ, ρ', F, H, σ, Q, I, r, e, k => by
    simp only [RepA] at r
    obtain ⟨v, t, rfl, x, y⟩ := r
    unfold asg.go at e
    have s1 := (SS.refl I).putV (i := i) x
    exact ⟨v, t, rfl, tg_names is ds t _ ρ' F H _ Q s1.rs y e fun σ' s2 w o => k σ' (s1.trans s2) (fun l hl => by
      have hl : (is.all fun i => l.contains i) = true ∧ i ∈ l := by
        simp only [tgIn, List.all_cons, Bool.and_eq_true] at hl
        exact ⟨hl.2, by simpa using hl.1⟩
      rw [w l hl.1, wipe_put hl.2]) fun a h => oa_put I.len (o a h)⟩
theorem asg_go_length : ∀ {is : List Nat} {ds : List D} {ρ ρ' : Env}, asg.go is ds ρ = some ρ' → ds.length = is.length
  | [], [], _, _, _ => rfl
  | [], _ :: _, _, _, e => by cases e
  | _ :: _, [], _, _, e => by cases e
  | i :: is, d :: ds, ρ, ρ', e => by
    unfold asg.go at e
    simp [asg_go_length e]
/-- (a, b, ..) = a tuple or a list of that length -/
def gTL (K : PySem.W.Frag) (n : Nat) (t : TGs) : TG := fun v σ H Q => gTup K n t v σ H Q ∨ gUnl K n t v σ H Q
theorem pg_tl {X : Cx} {pos : Pos} {es : List Expr} {k : Nat} {t : TGs} {n : Nat} (hc : X.calm = true) (h : PGs X es t)
    (hn : (assignEach es X.env).length = n) (hst : (assignEach es X.env).findIdx? (·.1) = none) : PG X (.Tuple es k pos) (gTL X.K n t) :=
  ⟨fun pins s σ H v u Q I r hw => hw.elim (fun a => (pg_tup hc h hn hst).run pins s σ H v u Q I r a) fun a => (pg_unl hc h hn hst).run pins s σ H v u Q I r a⟩
theorem tg_tup {K : PySem.W.Frag} (hZ : Z.K = K) {is : List Nat} : TgOk Z (.tup is) (gTL K is.length (gNames is)) := fun d v ρ ρ' F H σ Q I r e k => by
  cases d with
  | lst ds =>
    simp only [Rep] at r
    obtain ⟨a, vs, rfl, t, y⟩ := r
    have e : asg.go is ds ρ = some ρ' := e
    exact .inr ⟨a, vs, rfl, hZ ▸ t.sq, by rw [← y.len]; exact asg_go_length e, tg_names is ds vs ρ ρ' F H σ Q I y e k⟩
  | tup ds =>
    simp only [Rep] at r
    obtain ⟨a, vs, rfl, t, y⟩ := r
    have e : asg.go is ds ρ = some ρ' := e
    exact .inl ⟨a, vs, rfl, hZ ▸ t.sq, by rw [← y.len]; exact asg_go_length e, tg_names is ds vs ρ ρ' F H σ Q I y e k⟩
  | _ => cases e
/-- names = a tuple -/
theorem zs_unp {B : Tb} {Φ : CallF} {X : Cx} {t : List Nat} {g : TG} {e : E} {tg ee : Expr} {pos : Pos} (to : TgOk Z (.tup t) g) (hg : PG X tg g) (he : PE X ee (t1 Z W (ev B Φ e))) (hs : swapsWithSole [tg] ee pos.line X.env = pure false) (hw : swappedStores [tg] ee X.env = pure none) (h1 : (assignEach [tg] X.env).map (·.2) = [assign tg X.env]) :
    PS X (.Assign [tg] ee pos) (tS Z W (exe B Φ (.unp t e))) :=
  PS.weak (ps_asg he hg hs hw h1) fun D σ H ⟨ρ, F, I, h⟩ => ⟨ρ, F, I, SQs.one h I (EvO.ev e ρ) fun r ρ1 v H1 F1 _ p ev' x q => by
    split at q
    · rename_i d ρ2 e2
      obtain ⟨F2, p2, y, _⟩ := RepR.froz (Fz.of I p) x e2
      split at q
      · rename_i ρ3 e3
        exact to d v ρ2 ρ3 F2 H1 σ D.nx p2.rs y e3 fun σ' s _ _ => q σ' F2 H1 ((SS.ofFz p2 (ev'.trans (Ev.fz e2))).trans s)
      · exact q.elim
    · exact q.elim⟩
/-- name += a number, name -= a number -/
theorem zs_aug {B : Tb} {Φ : CallF} {X : Cx} {i : Nat} {x : Str} {op : BOp} {e : E} {ee : Expr} {p pos : Pos} (hN : X.N.Nodup) (hi : X.N[i]? = some x) (hx : L2.Loc X.env.scope x) (hf : X.fn x = true ∨ X.env.scope.names.lookup x = some .local) (hop : op = .add ∨ op = .sub) (he : PE X ee (t1 Z W (ev B Φ e))) :
    PS X (.AugAssign (.Name x p) (bop op) ee pos) (tS Z W (exe B Φ (.aug i op e))) := by
  have core : ∀ (D : Ends) (σ : L2.St) (H : Hp) (ti : TIp), (∀ d g z, augD op d g = some z → ∃ a b c : Int, d = .int a ∧ g = .int b ∧ z = .int c ∧ ∀ H Q, Q (V.int c) H → ti (.int a) (.int b) H Q) → tS Z W (exe B Φ (.aug i op e)) D σ H → tAug i (t1 Z W (ev B Φ e)) ti D σ H := by
    intro D σ H ti hti ⟨ρ, F, I, h⟩
    unfold exe at h
    cases g : gt ρ i with
    | v d f =>
      rw [g] at h
      have q := I.sl i
      rw [g] at q
      obtain ⟨u, e1, r1⟩ := q
      refine ⟨u, sg_some.mp e1, ρ, F, I, SQs.one h I (EvO.ev e ρ) fun r ρ1 v H1 F1 _ p ev' x q => ?_⟩
      cases hd : dr ρ1 r with
      | none => rw [hd] at q; exact q.elim
      | some k =>
        rw [hd] at q
        dsimp only at q
        cases ha : augD op d k with
        | none => rw [ha] at q; exact q.elim
        | some z =>
          rw [ha] at q
          obtain ⟨a, b, c, rfl, rfl, rfl, k2⟩ := hti d k z ha
          have hv : v = .int b := x.read p.rs hd
          have hu : u = .int a := r1
          subst hv hu
          exact k2 _ _ (q _ F1 H1 ((SS.ofPt p ev').putV (v := .int c) (by simp [Rep])))
    | _ => rw [g] at h; exact h.elim
  rcases hop with rfl | rfl
  · exact PS.weak (ps_aug hN hi hx he ip_add hf) fun D σ H h => core D σ H _ (fun d g z e => by
      cases d with
      | int a => cases g with
        | int b => cases e; exact ⟨_, _, _, rfl, rfl, rfl, fun H Q q => ⟨_, _, rfl, rfl, q⟩⟩
        | _ => cases e
      | _ => cases e) h
  · exact PS.weak (ps_aug hN hi hx he ip_sub hf) fun D σ H h => core D σ H _ (fun d g z e => by
      cases d with
      | int a => cases g with
        | int b => cases e; exact ⟨_, _, _, rfl, rfl, rfl, fun H Q q => ⟨_, _, rfl, rfl, q⟩⟩
        | _ => cases e
      | _ => cases e) h
/-! ### what is walked -/
structure Src (Z : Cd) (J : It) (xs : List D) (σ : L2.St) (ρ : Env) (F : Addr → Prop) (H : Hp) : Prop where
  src : ∃ (G : Hp → Prop) (Y : Nat → Hp → V → Hp → Prop), Walk J xs.length G Y ∧ ∀ σ' ρ' F' H', SS Z σ ρ F H σ' ρ' F' H' → G H' ∧ ∀ i x H'', i < xs.length → Y i H' x H'' → ∃ F'' d, xs[i]? = some d ∧ SS Z σ' ρ' F' H' σ' ρ' F'' H'' ∧ Rep Z F'' H'' d x
theorem loop_core {B : Tb} {Φ : CallF} {b : S} {J : It} {t : Tg} {g : TG} {xs : List D} {D : Ends} (src : Src Z J xs σ ρ F H) (tg : TgOk Z t g) (I : RS Z F H σ ρ) (h : SQs Z W F H σ ρ (lpL t (exe B Φ b) xs ρ) D) :
    ∃ W' : Nat → Nat → St → Hp → Prop, (∃ m, W' 0 m σ H) ∧ ∀ i m σ H, W' i m σ H →
      (J.stop i H ∧ D.nx σ H) ∨ (J.go i H ∧ ∃ N : St → Hp → Prop, (∀ σ' H', N σ' H' → ∃ m', m' < m ∧ W' (i + 1) m' σ' H') ∧ ∀ x H', J.yld i H x H' → g x σ H' fun σ2 H2 => tS Z W (exe B Φ b) { D with nx := N, ct := N, bk := D.nx } σ2 H2) := by
  obtain ⟨G, Y, wk, sv⟩ := src.src
  refine for_it wk (fun i σ' H' => ∃ ρ' F', SS Z σ ρ F H σ' ρ' F' H' ∧ SQs Z W F' H' σ' ρ' (lpL t (exe B Φ b) (xs.drop i) ρ') D) ⟨ρ, F, .refl I, h⟩ (fun i σ' H' _ ⟨ρ', F', s, _⟩ => (sv _ _ _ _ s).1) (fun i x σ' H' H'' hi ⟨ρ', F', s, q⟩ hy => ?_) fun σ' H' ⟨ρ', F', s, q⟩ => ?_
  · obtain ⟨F2, d, e1, s2, rd⟩ := (sv _ _ _ _ s).2 i x H'' hi hy
    have ed : xs.drop i = d :: xs.drop (i + 1) := by
      rw [List.drop_eq_getElem_cons hi]
      rw [List.getElem?_eq_getElem hi] at e1
      cases e1
      rfl
    rw [ed] at q
    unfold lpL at q
    cases ea : asg t d ρ' with
    | none => rw [ea] at q; exact q.elim
    | some ρ1 =>
      rw [ea] at q
      dsimp only at q
      refine tg d x ρ' ρ1 F2 H'' σ' _ s2.rs rd ea fun σ1 s3 _ _ => ⟨ρ1, F2, s3.rs, ?_⟩
      have q2 := SQs.later q (s2.trans s3)
      cases e2 : exe B Φ b ρ1 with
      | st => rw [e2] at q2; exact q2
      | ex c ρ2 => rw [e2] at q2; exact q2
      | ok r ρ2 =>
        rw [e2] at q2
        have s4 := s.trans (s2.trans s3)
        cases r with
        | nx => exact fun σ3 F3 H3 s5 => ⟨ρ2, F3, s4.trans s5, SQs.later q2 s5⟩
        | cont => exact fun σ3 F3 H3 s5 => ⟨ρ2, F3, s4.trans s5, SQs.later q2 s5⟩
        | brk => exact q2
        | ret r => exact q2
  · rw [List.drop_length] at q
    exact q σ' F' H' (.refl s.rs)
/-- a list, a tuple that stays as it is through later states -/
theorem SqL.later {K : PySem.W.Frag} {a : Addr} {vs : List V} (h : SqL K H a vs) (s : SS Z σ ρ F H σ' ρ' F' H') (n : H a ≠ none → ¬ Wr σ ρ a) : SqL K H' a vs := by
  rcases h with h | h
  · refine .inl ?_
    rcases h with h | ⟨o, h⟩
    · exact .inl (s.st.keep a _ h (n (by rw [h]; simp)))
    · exact .inr ⟨o, s.st.keep a _ h (n (by rw [h]; simp))⟩
  · exact .inr h
theorem TF.later {K : PySem.W.Frag} {a : Addr} {vs : List V} (h : TF K F H a vs) (I : RS Z F H σ ρ) (s : SS Z σ ρ F H σ' ρ' F' H') : SqT K H' a vs := (h.mo (s.st.mono I)).sq
/-- a list stays -/
def StL (Z : Cd) (σ : L2.St) (ρ : Env) (F : Addr → Prop) (H : Hp) (a : Addr) (vs : List V) : Prop := ∀ σ' ρ' F' H', SS Z σ ρ F H σ' ρ' F' H' → SqL Z.K H' a vs
theorem LF.stay {a : Addr} {vs : List V} (h : LF Z.K F H a vs) (I : RS Z F H σ ρ) : StL Z σ ρ F H a vs := fun σ' ρ' F' H' s => (h.mo (s.st.mono I)).sq
/-- the operands of a walk: how they stand, locked -/
theorem walked_l {rs : List R} {i : Nat} {r : R} {v : V} {ds : List D} (I : RS Z F H σ ρ) (p : Pt Z σ ρ F H ρ1 F1 H1) (hi : rs[i]? = some r) (x : RepR Z H F1 H1 σ r v) (hd : dr ρ1 r = some (.lst ds)) :
    ∃ a vs, v = .ref a ∧ SqL Z.K H1 a vs ∧ RepA Z F1 H1 ds vs ∧ StL Z σ (lkA ρ1 (owA ρ1 (wIx rs))) F1 H1 a vs := by
  have viaF : ∀ {v : V}, Rep Z F1 H1 (.lst ds) v → ∃ a vs, v = .ref a ∧ SqL Z.K H1 a vs ∧ RepA Z F1 H1 ds vs ∧ StL Z σ (lkA ρ1 (owA ρ1 (wIx rs))) F1 H1 a vs := fun {v} h => by
    simp only [Rep] at h
    obtain ⟨a, vs, rfl, t, r⟩ := h
    exact ⟨a, vs, rfl, t.sq, r, t.stay (p.rs.lkA _)⟩
  have viaO : ∀ {a : Addr} {w : Ow}, w.d = .lst ds → ROw Z F1 H1 a w → ¬ Wr σ (lkA ρ1 (owA ρ1 (wIx rs))) a → ∃ b vs, V.ref a = .ref b ∧ SqL Z.K H1 b vs ∧ RepA Z F1 H1 ds vs ∧ StL Z σ (lkA ρ1 (owA ρ1 (wIx rs))) F1 H1 b vs := fun {a w} e h n => by
    cases w with
    | L es =>
      cases e
      obtain ⟨_, vs, q, r⟩ := h
      exact ⟨a, vs, rfl, .of q, r, fun σ' ρ' F' H' s => SqL.later (.of q) s fun _ => n⟩
    | K ks es => cases e
  cases r with
  | v d =>
    cases hd
    exact viaF x
  | o w =>
    have hd : some w.d = some (D.lst ds) := hd
    obtain ⟨a, rfl, z, n⟩ := x
    exact viaO (Option.some.inj hd) z fun q => (I.oa_nf (p.subO a (Wr.oa (wr_lk q)))).2 n
  | w k =>
    have x : sg σ k = some v := x
    have q := p.rs.sl k
    unfold dr at hd
    dsimp only at hd
    split at hd
    · rename_i d f g
      cases hd
      rw [g, x] at q
      obtain ⟨u, e, y⟩ := q
      cases e
      exact viaF y
    · rename_i w f g
      rw [g, x] at q
      obtain ⟨a, e, y⟩ := q
      cases e
      refine viaO (Option.some.inj hd) y fun z => ?_
      obtain ⟨j, hj⟩ := z
      have o1 := oa_of_wa hj
      rw [oa_lk] at o1
      have e := p.rs.apart o1 (show oa (sg σ k) (gt ρ1 k) = some a by rw [g, x]; rfl)
      subst e
      have hk : j ∈ owA ρ1 (wIx rs) := owA_mem (wIx_mem hi) g
      rw [lkA_at hk (.inl g), x] at hj
      cases hj
    · rename_i w f g
      rw [g, x] at q
      obtain ⟨a, e, y⟩ := q
      cases e
      refine viaO (Option.some.inj hd) y fun z => ?_
      obtain ⟨j, hj⟩ := wr_lk z
      have e := p.rs.apart (oa_of_wa hj) (show oa (sg σ k) (gt ρ1 k) = some a by rw [g, x]; rfl)
      subst e
      rw [g, x] at hj
      cases hj
    · cases hd
where owA_mem : ∀ {l : List Nat} {ρ : Env} {j : Nat} {w : Ow} {f : Bool}, j ∈ l → gt ρ j = .o w f → j ∈ owA ρ l
  | i :: l, ρ, j, w, f, h, g => by
    unfold owA
    rcases List.mem_cons.mp h with e | e
    · subst e
      rw [g]
      exact List.mem_cons_self
    · have := owA_mem e g
      split
      · exact List.mem_cons_of_mem _ this
      · exact this
theorem walked_t {r : R} {v : V} {ds : List D} {l : List Nat} (I : RS Z F H σ ρ) (p : Pt Z σ ρ F H ρ1 F1 H1) (x : RepR Z H F1 H1 σ r v) (hd : dr ρ1 r = some (.tup ds)) :
    ∃ a vs, v = .ref a ∧ SqT Z.K H1 a vs ∧ RepA Z F1 H1 ds vs ∧ ∀ σ' ρ' F' H', SS Z σ (lkA ρ1 l) F1 H1 σ' ρ' F' H' → SqT Z.K H' a vs := by
  have h : Rep Z F1 H1 (.tup ds) v := x.read p.rs hd
  simp only [Rep] at h
  obtain ⟨a, vs, rfl, t, r⟩ := h
  exact ⟨a, vs, rfl, t.sq, r, fun σ' ρ' F' H' s => t.later (p.rs.lkA _) s⟩
/-- items at their places -/
theorem src_at {J : It} {G : Hp → Prop} {ds : List D} {vs : List V} (wk : Walk J vs.length G (YAt vs)) (I : RS Z F H σ ρ) (r : RepA Z F H ds vs) (hG : ∀ σ' ρ' F' H', SS Z σ ρ F H σ' ρ' F' H' → G H') : Src Z J ds σ ρ F H := by
  refine ⟨G, YAt vs, by rw [r.len]; exact wk, fun σ' ρ' F' H' s => ⟨hG _ _ _ _ s, fun i x H'' hi hy => ?_⟩⟩
  obtain ⟨rfl, e⟩ := hy
  have r2 := r.mo (s.st.mono I)
  obtain ⟨v, e1, e2⟩ := r2.get (List.getElem?_eq_getElem hi)
  rw [e] at e1
  cases e1
  exact ⟨F', ds[i], List.getElem?_eq_getElem hi, .refl s.rs, e2⟩
/-! ### iterables -/
/-- what is wanted of a walk's operands' run -/
def EQi (Z : Cd) (W : WX) (F : Addr → Prop) (H : Hp) (σ : L2.St) (ρ : Env) (k : ItK) (o : Out (List R)) (R : It → Hp → Prop) : Prop := match o with
  | .ok rs ρ1 => ∃ ds xs, drA ρ1 rs = some ds ∧ itD k ds = some xs ∧ ∀ J H1 F1, Pt Z σ ρ F H ρ1 F1 H1 → Src Z J xs σ (lkA ρ1 (owA ρ1 (wIx rs))) F1 H1 → R J H1
  | .ex c ρ1 => ∀ H' F', Step σ ρ F H F' H' → RS Z F' H' σ ρ1 → W (.ref (Z.cA c)) none σ H'
  | .st => False
def ItOk (Z : Cd) (W : WX) (B : Tb) (Φ : CallF) (X : Cx) (k : ItK) (as : E) (tg iter : Expr) : Prop := ∀ (σ : L2.St) (H : Hp) (ρ : Env) (F : Addr → Prop) (R : It → Hp → Prop), RS Z F H σ ρ → EQi Z W F H σ ρ k (ev B Φ as ρ) R → ∃ wi, PI X tg iter wi ∧ wi σ H R
theorem drA_cons {r : R} {rs : List R} {ds : List D} (h : drA ρ (r :: rs) = some ds) : ∃ d es, ds = d :: es ∧ dr ρ r = some d ∧ drA ρ rs = some es := by
  unfold drA at h
  cases e1 : dr ρ r with
  | none => rw [e1] at h; cases h
  | some d =>
    cases e2 : drA ρ rs with
    | none => rw [e1, e2] at h; cases h
    | some es =>
      rw [e1, e2] at h
      cases h
      exact ⟨d, es, rfl, rfl, rfl⟩
theorem drA_nil {rs : List R} (h : drA ρ rs = some []) : rs = [] := by
  cases rs with
  | nil => rfl
  | cons r rs =>
    obtain ⟨d, es, e, _⟩ := drA_cons h
    cases e
section
variable {B : Tb} {Φ : CallF} {X : Cx}
/-- one operand's row, as the operand itself -/
theorem row1 {a : E} {rs : List R} (h : ev B Φ (.cons a .nil) ρ = .ok rs ρ1) : ∃ r, rs = [r] ∧ ev B Φ a ρ = .ok [r] ρ1 := by
  unfold ev at h
  unfold Out.one at h
  cases q : ev B Φ a ρ with
  | st => rw [q] at h; cases h
  | ex c ρ2 => rw [q] at h; cases h
  | ok xs ρ2 =>
    rw [q] at h
    match xs, h with
    | [], h => cases h
    | _ :: _ :: _, h => cases h
    | [x], h =>
      simp only [Out.bnd, ev] at h
      cases h
      exact ⟨x, rfl, rfl⟩
theorem row1_ex {a : E} {c : Nat} (h : ev B Φ (.cons a .nil) ρ = .ex c ρ1) : ev B Φ a ρ = .ex c ρ1 := by
  unfold ev at h
  unfold Out.one at h
  cases q : ev B Φ a ρ with
  | st => rw [q] at h; cases h
  | ex d ρ2 => rw [q] at h; exact h
  | ok xs ρ2 =>
    rw [q] at h
    match xs, h with
    | [], h => cases h
    | _ :: _ :: _, h => cases h
    | [x], h =>
      simp only [Out.bnd, ev] at h
      cases h
/-- a sequence itself -/
theorem zi_seq (hZ : Z.K = X.K) {a : E} {tg ea : Expr} (ha : PE X ea (t1 Z W (ev B Φ a))) : ItOk Z W B Φ X .seq (.cons a .nil) tg ea := by
  intro σ H ρ F R I h
  cases e : ev B Φ (.cons a .nil) ρ with
  | st => rw [e] at h; exact h.elim
  | ex c ρ1 =>
    rw [e] at h
    refine ⟨_, pi_list ha, ρ, F, I, ?_⟩
    rw [row1_ex e]
    exact h
  | ok rs ρ1 =>
    rw [e] at h
    obtain ⟨r, rfl, e1⟩ := row1 e
    obtain ⟨ds, xs, h1, h2, h3⟩ := h
    obtain ⟨d, es, rfl, hd, h4⟩ := drA_cons h1
    cases h4
    have ee := EvO.ev (B := B) (Φ := Φ) a ρ
    rw [e1] at ee
    have run : ∀ {P : V → Hp → Prop}, (∀ v H1 F1, Pt Z σ ρ F H ρ1 F1 H1 → RepR Z H F1 H1 σ r v → P v H1) → t1 Z W (ev B Φ a) σ H P := fun {P} k => by
      refine ⟨ρ, F, I, ?_⟩
      rw [e1]
      intro vs H1 F1 s I1 rr
      obtain ⟨v, t, rfl, x, y, _⟩ := rr
      have : t = [] := y
      subst this
      exact ⟨v, rfl, k v H1 F1 ⟨s, I1, fun _ w => Ev.wr ee w, fun _ w => Ev.oa ee w⟩ x⟩
    cases d with
    | lst zs =>
      cases h2
      refine ⟨_, pi_list ha, run fun v H1 F1 p x => ?_⟩
      obtain ⟨b, vs, rfl, s1, s2, s3⟩ := walked_l (i := 0) (rs := [r]) I p rfl x hd
      exact ⟨b, rfl, ⟨vs, hZ ▸ s1⟩, h3 _ _ _ p (src_at walk_list (p.rs.lkA _) s2 fun _ _ _ _ s => hZ ▸ s3 _ _ _ _ s)⟩
    | tup zs =>
      cases h2
      refine ⟨_, pi_tup ha, run fun v H1 F1 p x => ?_⟩
      obtain ⟨b, vs, rfl, s1, s2, s3⟩ := walked_t (l := owA ρ1 (wIx [r])) I p x hd
      exact ⟨b, rfl, ⟨vs, hZ ▸ s1⟩, h3 _ _ _ p (src_at walk_tup (p.rs.lkA _) s2 fun _ _ _ _ s => hZ ▸ s3 _ _ _ _ s)⟩
    | str z =>
      cases h2
      refine ⟨_, pi_str ha, run fun v H1 F1 p x => ?_⟩
      have hv : v = .str ⟨z.toArray⟩ := x.read p.rs hd
      refine ⟨_, hv, h3 _ _ _ p ⟨_, _, by rw [List.length_map]; exact walk_str (z := ⟨z.toArray⟩), fun σ' ρ' F' H' s => ⟨trivial, fun i x H'' hi hy => ?_⟩⟩⟩
      obtain ⟨rfl, c, e2, rfl⟩ := hy
      have e2 : z[i]? = some c := by simpa using e2
      exact ⟨F', .str [c], by rw [List.getElem?_map, e2]; rfl, .refl s.rs, by simp [Rep]⟩
    | _ => cases h2
theorem zi_rng (hZ : Z.K = X.K) {a : E} {tg ea : Expr} {p pos : Pos} (hg : Gl X "range") (hm : X.mg "range" = none) (ha : PA X [ea] (tA Z W (ev B Φ (.cons a .nil)))) (hs : starEach [ea] X.env = [(false, eval ea X.env)]) : ItOk Z W B Φ X .rng (.cons a .nil) tg (.Call (.Name "range" p) [ea] [] pos) := by
  intro σ H ρ F R I h
  refine ⟨_, pi_range1 hg hm ha hs, ρ, F, I, ?_⟩
  have ee := EvO.ev (B := B) (Φ := Φ) (.cons a .nil) ρ
  cases e : ev B Φ (.cons a .nil) ρ with
  | st => rw [e] at h; exact h.elim
  | ex c ρ1 => rw [e] at h; exact h
  | ok rs ρ1 =>
    rw [e] at h ee
    obtain ⟨ds, xs, h1, h2, h3⟩ := h
    intro vs H1 F1 s I1 rr
    have p : Pt Z σ ρ F H ρ1 F1 H1 := ⟨s, I1, fun _ w => Ev.wr ee w, fun _ w => Ev.oa ee w⟩
    obtain ⟨r, rfl, e1⟩ := row1 e
    obtain ⟨v, t, rfl, x, y, _⟩ := rr
    have : t = [] := y
    subst this
    obtain ⟨d, es, rfl, hd, h4⟩ := drA_cons h1
    cases h4
    cases d with
    | int n =>
      have hv : v = .int n := x.read I1 hd
      have h2 : (if -(lim : Int) ≤ n ∧ n ≤ lim then some ((List.range n.toNat).map fun i => D.int (i : Nat)) else none) = some xs := h2
      split at h2
      · rename_i hl
        cases h2
        have e2 : (lim : Int) = 16777216 := rfl
        have e3 : ((2 : Int) ^ 62) = 4611686018427387904 := by decide
        refine ⟨n, by rw [hv], by omega, by omega, h3 _ _ _ p ⟨_, _, by rw [List.length_map, List.length_range]; exact walk_range, fun σ' ρ' F' H' s => ⟨trivial, fun i x H'' hi hy => ?_⟩⟩⟩
        obtain ⟨rfl, rfl⟩ := hy
        rw [List.length_map, List.length_range] at hi
        exact ⟨F', .int (i : Nat), by rw [List.getElem?_map, List.getElem?_range hi]; rfl, .refl s.rs, by simp [Rep]⟩
      · cases h2
    | _ => cases h2
theorem row2 {a b : E} {rs : List R} (h : ev B Φ (.cons a (.cons b .nil)) ρ = .ok rs ρ1) : ∃ r s ρ0, rs = [r, s] ∧ ev B Φ a ρ = .ok [r] ρ0 ∧ ev B Φ b ρ0 = .ok [s] ρ1 := by
  unfold ev at h
  unfold Out.one at h
  cases q : ev B Φ a ρ with
  | st => rw [q] at h; cases h
  | ex c ρ2 => rw [q] at h; cases h
  | ok xs ρ2 =>
    rw [q] at h
    match xs, h with
    | [], h => cases h
    | _ :: _ :: _, h => cases h
    | [x], h =>
      simp only [Out.bnd] at h
      cases q2 : ev B Φ (.cons b .nil) ρ2 with
      | st => rw [q2] at h; cases h
      | ex d ρ3 => rw [q2] at h; cases h
      | ok ys ρ3 =>
        rw [q2] at h
        cases h
        obtain ⟨s, rfl, e⟩ := row1 q2
        exact ⟨x, s, ρ2, rfl, rfl, e⟩
theorem zi_rng2 (hZ : Z.K = X.K) {a b : E} {tg ea eb : Expr} {p pos : Pos} (hg : Gl X "range") (hm : X.mg "range" = none) (ha : PA X [ea, eb] (tA Z W (ev B Φ (.cons a (.cons b .nil))))) (hs : starEach [ea, eb] X.env = [(false, eval ea X.env), (false, eval eb X.env)]) (hs2 : starEach [eb] X.env = [(false, eval eb X.env)]) :
    ItOk Z W B Φ X .rng2 (.cons a (.cons b .nil)) tg (.Call (.Name "range" p) [ea, eb] [] pos) := by
  intro σ H ρ F R I h
  refine ⟨_, pi_range2 hg hm ha hs hs2, ρ, F, I, ?_⟩
  have ee := EvO.ev (B := B) (Φ := Φ) (.cons a (.cons b .nil)) ρ
  cases e : ev B Φ (.cons a (.cons b .nil)) ρ with
  | st => rw [e] at h; exact h.elim
  | ex c ρ1 => rw [e] at h; exact h
  | ok rs ρ1 =>
    rw [e] at h ee
    obtain ⟨ds, xs, h1, h2, h3⟩ := h
    intro vs H1 F1 s I1 rr
    have p : Pt Z σ ρ F H ρ1 F1 H1 := ⟨s, I1, fun _ w => Ev.wr ee w, fun _ w => Ev.oa ee w⟩
    obtain ⟨r, s, ρ0, rfl, e1, _⟩ := row2 e
    obtain ⟨v, t, rfl, x, y, _⟩ := rr
    obtain ⟨w, t2, rfl, x2, y2, _⟩ := y
    have : t2 = [] := y2
    subst this
    obtain ⟨d, es, rfl, hd, h4⟩ := drA_cons h1
    obtain ⟨d2, es2, rfl, hd2, h5⟩ := drA_cons h4
    cases h5
    cases d with
    | int n =>
      cases d2 with
      | int m =>
        have hv : v = .int n := x.read I1 hd
        have hw : w = .int m := x2.read I1 hd2
        have h2 : (if -(lim : Int) ≤ n ∧ n ≤ lim ∧ -(lim : Int) ≤ m ∧ m ≤ lim then some ((List.range (m - n).toNat).map fun i => D.int (n + (i : Nat))) else none) = some xs := h2
        split at h2
        · rename_i hl
          cases h2
          have e2 : (lim : Int) = 16777216 := rfl
          have e3 : ((2 : Int) ^ 62) = 4611686018427387904 := by decide
          refine ⟨n, m, by rw [hv, hw], ⟨by omega, by omega, by omega, by omega⟩, h3 _ _ _ p ⟨_, _, by rw [List.length_map, List.length_range]; exact walk_range, fun σ' ρ' F' H' s => ⟨trivial, fun i x H'' hi hy => ?_⟩⟩⟩
          obtain ⟨rfl, rfl⟩ := hy
          rw [List.length_map, List.length_range] at hi
          exact ⟨F', .int (n + (i : Nat)), by rw [List.getElem?_map, List.getElem?_range hi]; rfl, .refl s.rs, by simp [Rep]⟩
        · cases h2
      | _ => cases h2
    | _ => cases h2
/-! ### for -/
theorem PS.of {X : Cx} {e : Stmt} {t : TS} (h : ∀ D σ H, t D σ H → ∃ t', PS X e t' ∧ t' D σ H) : PS X e t := ⟨fun pins s σ H D I q => let ⟨_, p, z⟩ := h D σ H q; p.run pins s σ H D I z⟩
theorem zs_for {k : ItK} {as : E} {t : Tg} {g : TG} {b : S} {tg iter : Expr} {body : List Stmt} {pos : Pos} (hp : PassesOwn (model X.prog X.w) X.A X.env X.xe) (hc : X.calm = true) (it : ItOk Z W B Φ X k as tg iter) (to : TgOk Z t g) (hg : PG X tg g) (hb : PSs X body (tS Z W (exe B Φ b)))
    (hs : ∀ x, foldedSetIterable iter X.env x = pure x) : PS X (.For tg iter body [] pos) (tS Z W (exe B Φ (.loop k as t b))) := by
  refine PS.of fun D σ H ⟨ρ, F, I, h⟩ => ?_
  have ee := EvO.ev (B := B) (Φ := Φ) as ρ
  obtain ⟨wi, h1, h2⟩ := it σ H ρ F (fun J H1 => ∃ W' : Nat → Nat → St → Hp → Prop, (∃ m, W' 0 m σ H1) ∧ ∀ i m σ H, W' i m σ H →
      (J.stop i H ∧ D.nx σ H) ∨ (J.go i H ∧ ∃ N : St → Hp → Prop, (∀ σ' H', N σ' H' → ∃ m', m' < m ∧ W' (i + 1) m' σ' H') ∧ ∀ x H', J.yld i H x H' → g x σ H' fun σ2 H2 => tS Z W (exe B Φ b) { D with nx := N, ct := N, bk := D.nx } σ2 H2)) I (by
    unfold exe at h
    cases e : ev B Φ as ρ with
    | st => rw [e] at h; exact h
    | ex c ρ1 =>
      rw [e] at h ee
      intro H' F' s I'
      exact h σ F' H' (.ofPt ⟨s, I', fun a q => Ev.wr ee q, fun a q => Ev.oa ee q⟩ ee)
    | ok rs ρ1 =>
      rw [e] at h ee
      simp only [Out.bnd] at h
      cases e1 : drA ρ1 rs with
      | none => rw [e1] at h; exact h.elim
      | some ds =>
        rw [e1] at h
        dsimp only at h
        cases e2 : itD k ds with
        | none => rw [e2] at h; exact h.elim
        | some xs =>
          rw [e2] at h
          refine ⟨ds, xs, e1, e2, fun J H1 F1 p src => ?_⟩
          exact loop_core src to (p.rs.lkA _) (SQs.locked h (.ofPt p ee)))
  exact ⟨_, ps_for hp hc h1 hg hb hs, h2⟩
/-! ### names[i] = .. -/
theorem zs_seti {i : Nat} {x e : E} {y : Str} {py pos tpos : Pos} {ex ee : Expr} (hN : X.N[i]? = some y) (hv : Vis X.env.scope y) (hd : (y == ("__debug__" : Str)) = false) (hcd : (y == ("__classdict__" : Str)) = false) (he : PE X ee (t1 Z W (ev B Φ e))) (hx : PE X ex (t1 Z W (ev B Φ x)))
    (ha : ∀ v, assign (.Subscript (.Name y py) ex tpos) X.env v = (do
      let ov ← holding [v] (eval (.Name y py) X.env)
      let iv ← holding [v, ov] (eval ex X.env)
      standAt tpos
      holding [v, ov, iv] (setItem ov iv v)
      release [v, ov, iv] []))
    (hs : swapsWithSole [.Subscript (.Name y py) ex tpos] ee pos.line X.env = pure false) (hw : swappedStores [.Subscript (.Name y py) ex tpos] ee X.env = pure none) (h1 : (assignEach [.Subscript (.Name y py) ex tpos] X.env).map (·.2) = [assign (.Subscript (.Name y py) ex tpos) X.env]) :
    PS X (.Assign [.Subscript (.Name y py) ex tpos] ee pos) (tS Z W (exe B Φ (.seti i x e))) := by
  refine PS.weak (ps_asg he (pg_sub (pe_var hN hv hd hcd) hx set_list ha) hs hw h1) fun D σ H ⟨ρ, F, I, h⟩ => ⟨ρ, F, I, SQs.one h I (EvO.ev e ρ) fun r ρ1 v H1 F1 _ p ev1 xr q => ?_⟩
  by_cases ho : isOL (gt ρ1 i) = true
  · rw [if_pos ho] at q
    obtain ⟨xs0, f0, g0⟩ : ∃ xs0 f0, gt ρ1 i = .o (.L xs0) f0 := by
      unfold isOL at ho
      split at ho
      · rename_i xs f e
        exact ⟨xs, f, e⟩
      · cases ho
    have q0 := p.rs.sl i
    rw [g0] at q0
    obtain ⟨a, ea, nf0, vs0, hH0, r0⟩ := q0
    have ev2 := EvO.ev (B := B) (Φ := Φ) x ρ1
    refine ⟨.ref a, sg_some.mp ea, ρ1, F1, p.rs, ?_⟩
    cases e2 : ev B Φ x ρ1 with
    | st => rw [e2] at q; exact q.elim
    | ex c ρ2 =>
      rw [e2] at q ev2
      intro H' F' s I'
      exact q σ F' H' (.ofPt (p.trans ⟨s, I', fun a q => Ev.wr ev2 q, fun a q => Ev.oa ev2 q⟩) (ev1.trans ev2))
    | ok ys ρ2 =>
      rw [e2] at q ev2
      match ys, e2, q with
      | [], _, q => exact q.elim
      | _ :: _ :: _, _, q => exact q.elim
      | [y], e2', q =>
        intro us H2 F2 s2 I2 rr
        obtain ⟨w, t, rfl, yr, yt, dj⟩ := rr
        have : t = [] := yt
        subst this
        refine ⟨w, rfl, ?_⟩
        have p2 : Pt Z σ ρ1 F1 H1 ρ2 F2 H2 := ⟨s2, I2, fun a q => Ev.wr ev2 q, fun a q => Ev.oa ev2 q⟩
        simp only [Out.one, Out.bnd] at q
        split at q
        · rename_i j
          have hw : w = .int j := yr
          subst hw
          split at q
          · rename_i d ρ3 e3
            have xr2 : RepR Z H F2 H2 σ r v := xr.later p.rs p2.st fun b w => (I.wr_nf (p.sub b w)).2
            have pz : Pt Z σ ρ F H ρ2 F2 H2 := p.trans p2
            obtain ⟨F3, p3, rd, _⟩ := RepR.froz (Fz.of I pz) xr2 e3
            split at q
            · rename_i xs f g3
              split at q
              · rename_i k hk
                have h3 := p3.rs.sl i
                rw [g3] at h3
                obtain ⟨a', ea', nf, vs, hH, rx⟩ := h3
                rw [ea] at ea'
                cases ea'
                refine ⟨a, vs, j, k, rfl, rfl, hH, by rw [← rx.len]; exact hk, ?_⟩
                have p4 := Pt.write p3.rs g3 ea (rx.set_ k rd)
                have e4 : Ev ρ (pt ρ3 i (.o (.L (xs.set k d)) f)) := ((ev1.trans ev2).trans (Ev.fz e3)).trans (.pt (.inr ⟨_, f, g3, .inl ⟨_, rfl⟩⟩))
                exact q σ F3 _ (.ofPt (p3.toPt.trans p4) e4)
              · exact q.elim
            · exact q.elim
          · exact q.elim
        · exact q.elim
  · rw [if_neg ho] at q
    exact q.elim
/-! ### zip, reversed -/
theorem rep_pair {T : Addr} {d e : D} {x y : V} (h1 : Rep Z F H d x) (h2 : Rep Z F H e y) (hT : H T = none) (I : RS Z F H σ ρ) : SS Z σ ρ F H σ ρ (fun a => F a ∨ a = T) (upd H T (.tup [x, y])) ∧ Rep Z (fun a => F a ∨ a = T) (upd H T (.tup [x, y])) (.tup [d, e]) (.ref T) := by
  have p := Pt.newF I (o := .tup [x, y]) hT
  have m := p.st.mono I
  refine ⟨SS.ofPt p (.refl ρ), ?_⟩
  simp only [Rep]
  refine ⟨T, [x, y], rfl, .inl ⟨.inr rfl, .inl upd_same⟩, ?_⟩
  simp only [RepA]
  exact ⟨x, _, rfl, h1.mo m, y, _, rfl, h2.mo m, rfl⟩
theorem src_pair {J : It} {G : Hp → Prop} {ds es : List D} {vs us : List V} (wk : Walk J (min vs.length us.length) G (YPair (fun i => vs[i]?) (fun i => us[i]?))) (I : RS Z F H σ ρ) (r1 : RepA Z F H ds vs) (r2 : RepA Z F H es us) (hG : ∀ σ' ρ' F' H', SS Z σ ρ F H σ' ρ' F' H' → G H') : Src Z J (ds.zipWith (fun x y => .tup [x, y]) es) σ ρ F H := by
  refine ⟨G, _, by rw [List.length_zipWith, r1.len, r2.len]; exact wk, fun σ' ρ' F' H' s => ⟨hG _ _ _ _ s, fun i x H'' hi hy => ?_⟩⟩
  obtain ⟨T, x, y, rfl, hT, rfl, e1, e2⟩ := hy
  rw [List.length_zipWith] at hi
  have q1 := r1.mo (s.st.mono I)
  have q2 := r2.mo (s.st.mono I)
  obtain ⟨v, a1, a2⟩ := q1.get (List.getElem?_eq_getElem (show i < ds.length by omega))
  obtain ⟨u, b1, b2⟩ := q2.get (List.getElem?_eq_getElem (show i < es.length by omega))
  have a1 : vs[i]? = some v := a1
  have b1 : us[i]? = some u := b1
  rw [show vs[i]? = some x from e1] at a1
  rw [show us[i]? = some y from e2] at b1
  cases a1
  cases b1
  obtain ⟨z1, z2⟩ := rep_pair a2 b2 hT s.rs
  refine ⟨_, .tup [ds[i], es[i]], ?_, z1, z2⟩
  rw [List.getElem?_zipWith, List.getElem?_eq_getElem (show i < ds.length by omega), List.getElem?_eq_getElem (show i < es.length by omega)]
theorem walk_zipT' {K : PySem.W.Frag} {a b : Addr} {xs ys : List V} : Walk (RZ.ItzT K a b) (min xs.length ys.length) (fun H => SqT K H a xs ∧ SqT K H b ys) (YPair (fun i => xs[i]?) (fun i => ys[i]?)) := by
  refine ⟨fun i _ hi q => ?_, fun _ q => ⟨xs, ys, q.1, q.2, by omega⟩, fun i H v H' _ q y => ?_⟩
  · have h1 : i < xs.length := by omega
    have h2 : i < ys.length := by omega
    exact ⟨xs, ys, xs[i], ys[i], q.1, q.2, by simp [h1], by simp [h2]⟩
  · obtain ⟨T, x, z, h1, h2, h3, h4, h5⟩ := y
    exact ⟨T, x, z, h1, h2, h3, h4 xs q.1, h5 ys q.2⟩
theorem walk_zipM {K : PySem.W.Frag} {a b : Addr} {xs ys : List V} : Walk (ZM.ItM K a b) (min xs.length ys.length) (fun H => SqT K H a xs ∧ SqL K H b ys) (YPair (fun i => xs[i]?) (fun i => ys[i]?)) := by
  refine ⟨fun i _ hi q => ?_, fun _ q => ⟨xs, ys, q.1, q.2, by omega⟩, fun i H v H' _ q y => ?_⟩
  · have h1 : i < xs.length := by omega
    have h2 : i < ys.length := by omega
    exact ⟨xs, ys, xs[i], ys[i], q.1, q.2, by simp [h1], by simp [h2]⟩
  · obtain ⟨T, x, z, h1, h2, h3, h4, h5⟩ := y
    exact ⟨T, x, z, h1, h2, h3, h4 xs q.1, h5 ys q.2⟩
theorem zi_zip (hZ : Z.K = X.K) {a b : E} {ea eb : Expr} {elts : List Expr} {kk : Nat} {tpos p pos : Pos} (hg : Gl X "zip") (hm : X.mg "zip" = none) (ha : PA X [ea, eb] (tA Z W (ev B Φ (.cons a (.cons b .nil))))) (hs : starEach [ea, eb] X.env = (false, eval ea X.env) :: starEach [eb] X.env) (hpl : (backTo pos (starEach [eb] X.env)).any (·.1) = false) :
    ItOk Z W B Φ X .zip (.cons a (.cons b .nil)) (.Tuple elts kk tpos) (.Call (.Name "zip" p) [ea, eb] [] pos) := by
  intro σ H ρ F R I h
  refine ⟨_, ZM.pi_m hg hm ha hs hpl, ρ, F, I, ?_⟩
  have ee := EvO.ev (B := B) (Φ := Φ) (.cons a (.cons b .nil)) ρ
  cases e : ev B Φ (.cons a (.cons b .nil)) ρ with
  | st => rw [e] at h; exact h.elim
  | ex c ρ1 => rw [e] at h; exact h
  | ok rs ρ1 =>
    rw [e] at h ee
    obtain ⟨ds, xs, h1, h2, h3⟩ := h
    intro vs H1 F1 s I1 rr
    have p : Pt Z σ ρ F H ρ1 F1 H1 := ⟨s, I1, fun _ w => Ev.wr ee w, fun _ w => Ev.oa ee w⟩
    obtain ⟨r, s', ρ0, rfl, e1, _⟩ := row2 e
    obtain ⟨v, t, rfl, x, y, _⟩ := rr
    obtain ⟨w, t2, rfl, x2, y2, _⟩ := y
    have : t2 = [] := y2
    subst this
    obtain ⟨d, es, rfl, hd, h4⟩ := drA_cons h1
    obtain ⟨d2, es2, rfl, hd2, h5⟩ := drA_cons h4
    cases h5
    cases d with
    | lst zs =>
      cases d2 with
      | lst us =>
        cases h2
        obtain ⟨a1, vs1, rfl, q1, q2, q3⟩ := walked_l (i := 0) (rs := [r, s']) I p rfl x hd
        obtain ⟨b1, vs2, rfl, w1, w2, w3⟩ := walked_l (i := 1) (rs := [r, s']) I p rfl x2 hd2
        exact ⟨a1, b1, vs1, vs2, rfl, .inl ⟨hZ ▸ q1, hZ ▸ w1, h3 _ _ _ p (src_pair (walk_zip rfl) (p.rs.lkA _) q2 w2 fun _ _ _ _ s => ⟨hZ ▸ q3 _ _ _ _ s, hZ ▸ w3 _ _ _ _ s⟩)⟩⟩
      | _ => cases h2
    | tup zs =>
      cases d2 with
      | tup us =>
        cases h2
        obtain ⟨a1, vs1, rfl, q1, q2, q3⟩ := walked_t (l := owA ρ1 (wIx [r, s'])) I p x hd
        obtain ⟨b1, vs2, rfl, w1, w2, w3⟩ := walked_t (l := owA ρ1 (wIx [r, s'])) I p x2 hd2
        exact ⟨a1, b1, vs1, vs2, rfl, .inr (.inl ⟨hZ ▸ q1, hZ ▸ w1, h3 _ _ _ p (src_pair walk_zipT' (p.rs.lkA _) q2 w2 fun _ _ _ _ s => ⟨hZ ▸ q3 _ _ _ _ s, hZ ▸ w3 _ _ _ _ s⟩)⟩)⟩
      | lst us =>
        cases h2
        obtain ⟨a1, vs1, rfl, q1, q2, q3⟩ := walked_t (l := owA ρ1 (wIx [r, s'])) I p x hd
        obtain ⟨b1, vs2, rfl, w1, w2, w3⟩ := walked_l (i := 1) (rs := [r, s']) I p rfl x2 hd2
        exact ⟨a1, b1, vs1, vs2, rfl, .inr (.inr ⟨hZ ▸ q1, hZ ▸ w1, h3 _ _ _ p (src_pair walk_zipM (p.rs.lkA _) q2 w2 fun _ _ _ _ s => ⟨hZ ▸ q3 _ _ _ _ s, hZ ▸ w3 _ _ _ _ s⟩)⟩)⟩
      | _ => cases h2
    | _ => cases h2
theorem walk_revT {K : PySem.W.Frag} {a : Addr} {xs : List V} : Walk (RT.ItvT K a xs.length) xs.length (fun H => SqT K H a xs) (fun i H x H' => H' = H ∧ xs[xs.length - 1 - i]? = some x) :=
  ⟨fun i _ hi q => ⟨hi, xs, xs[xs.length - 1 - i]'(by omega), q, by simp [show xs.length - 1 - i < xs.length by omega]⟩, fun _ _ => Nat.le_refl _, fun _ _ _ _ _ q y => ⟨y.1, y.2 xs q⟩⟩
theorem src_rev {J : It} {G : Hp → Prop} {ds : List D} {vs : List V} (wk : Walk J vs.length G (fun i H x H' => H' = H ∧ vs[vs.length - 1 - i]? = some x)) (I : RS Z F H σ ρ) (r : RepA Z F H ds vs) (hG : ∀ σ' ρ' F' H', SS Z σ ρ F H σ' ρ' F' H' → G H') : Src Z J ds.reverse σ ρ F H := by
  refine ⟨G, _, by rw [List.length_reverse, r.len]; exact wk, fun σ' ρ' F' H' s => ⟨hG _ _ _ _ s, fun i x H'' hi hy => ?_⟩⟩
  obtain ⟨rfl, e⟩ := hy
  rw [List.length_reverse] at hi
  have r2 := r.mo (s.st.mono I)
  obtain ⟨v, e1, e2⟩ := r2.get (List.getElem?_eq_getElem (show ds.length - 1 - i < ds.length by omega))
  rw [← r.len, e1] at e
  cases e
  exact ⟨F', _, by rw [List.getElem?_reverse hi, List.getElem?_eq_getElem (show ds.length - 1 - i < ds.length by omega)], .refl s.rs, e2⟩
theorem zi_rev (hZ : Z.K = X.K) {a : E} {tg ea : Expr} {p pos : Pos} (hg : Gl X "reversed") (hm : X.mg "reversed" = none) (ha : PE X ea (t1 Z W (ev B Φ a))) (hs : starEach [ea] X.env = (false, eval ea X.env) :: starEach [] X.env) : ItOk Z W B Φ X .rev (.cons a .nil) tg (.Call (.Name "reversed" p) [ea] [] pos) := by
  intro σ H ρ F R I h
  refine ⟨_, ZR.pi_r hg hm ha hs, ρ, F, I, ?_⟩
  cases e : ev B Φ (.cons a .nil) ρ with
  | st => rw [e] at h; exact h.elim
  | ex c ρ1 =>
    rw [e] at h
    rw [row1_ex e]
    exact h
  | ok rs ρ1 =>
    rw [e] at h
    obtain ⟨r, rfl, e1⟩ := row1 e
    obtain ⟨ds, xs, h1, h2, h3⟩ := h
    obtain ⟨d, es, rfl, hd, h4⟩ := drA_cons h1
    cases h4
    have ee := EvO.ev (B := B) (Φ := Φ) a ρ
    rw [e1] at ee ⊢
    intro vs H1 F1 s I1 rr
    obtain ⟨v, t, rfl, x, y, _⟩ := rr
    have : t = [] := y
    subst this
    have p : Pt Z σ ρ F H ρ1 F1 H1 := ⟨s, I1, fun _ w => Ev.wr ee w, fun _ w => Ev.oa ee w⟩
    refine ⟨v, rfl, ?_⟩
    cases d with
    | lst zs =>
      cases h2
      obtain ⟨b, vs, rfl, s1, s2, s3⟩ := walked_l (i := 0) (rs := [r]) I p rfl x hd
      exact .inl ⟨b, vs, rfl, .inl ⟨hZ ▸ s1, h3 _ _ _ p (src_rev walk_rev (p.rs.lkA _) s2 fun _ _ _ _ s => hZ ▸ s3 _ _ _ _ s)⟩⟩
    | tup zs =>
      cases h2
      obtain ⟨b, vs, rfl, s1, s2, s3⟩ := walked_t (l := owA ρ1 (wIx [r])) I p x hd
      exact .inl ⟨b, vs, rfl, .inr ⟨hZ ▸ s1, h3 _ _ _ p (src_rev walk_revT (p.rs.lkA _) s2 fun _ _ _ _ s => hZ ▸ s3 _ _ _ _ s)⟩⟩
    | str z =>
      have h2 : (if z.length ≤ lim then some (z.reverse.map fun c => D.str [c]) else none) = some xs := h2
      have hzl : z.length ≤ lim := Classical.byContradiction fun q => by rw [if_neg q] at h2; cases h2
      rw [if_pos hzl] at h2
      cases h2
      have hv : v = .str ⟨z.toArray⟩ := x.read p.rs hd
      refine .inr ⟨_, hv, by simpa [lim] using hzl, h3 _ _ _ p ⟨_, _, by rw [List.length_map, List.length_reverse]; exact ZR.walk_revS (z := ⟨z.toArray⟩), fun σ' ρ' F' H' s => ⟨trivial, fun i x H'' hi hy => ?_⟩⟩⟩
      obtain ⟨rfl, c, e2, rfl⟩ := hy
      rw [List.length_map, List.length_reverse] at hi
      have e2 : z[z.length - 1 - i]? = some c := by simpa using e2
      exact ⟨F', .str [c], by rw [List.getElem?_map, List.getElem?_reverse hi, e2]; rfl, .refl s.rs, by simp [Rep]⟩
    | _ => cases h2
theorem str_items (z : List Nat) : RepA Z F H (z.map fun c => D.str [c]) (z.map fun c => V.str ⟨#[c]⟩) := by
  induction z with
  | nil => simp [RepA]
  | cons c z ih => exact ⟨_, _, rfl, by simp [Rep], ih⟩
theorem src_enum {J : It} {ds : List D} {vs : List V} {G : Hp → Prop} (wk : Walk J vs.length G (fun i H v H' => ∃ T x, v = .ref T ∧ H T = none ∧ H' = upd H T (.tup [.int (i : Nat), x]) ∧ vs[i]? = some x)) (I : RS Z F H σ ρ) (r : RepA Z F H ds vs) (hG : ∀ σ' ρ' F' H', SS Z σ ρ F H σ' ρ' F' H' → G H') : Src Z J ((List.range ds.length).zipWith (fun i x => .tup [.int (i : Nat), x]) ds) σ ρ F H := by
  refine ⟨G, _, by rw [List.length_zipWith, List.length_range, Nat.min_self, r.len]; exact wk, fun σ' ρ' F' H' s => ⟨hG _ _ _ _ s, fun i x H'' hi hy => ?_⟩⟩
  obtain ⟨T, y, rfl, hT, rfl, e1⟩ := hy
  rw [List.length_zipWith, List.length_range, Nat.min_self] at hi
  have q1 := r.mo (s.st.mono I)
  obtain ⟨v, a1, a2⟩ := q1.get (List.getElem?_eq_getElem hi)
  rw [e1] at a1
  cases a1
  obtain ⟨z1, z2⟩ := rep_pair (d := .int (i : Nat)) (x := .int (i : Nat)) rfl a2 hT s.rs
  refine ⟨_, .tup [.int (i : Nat), ds[i]], ?_, z1, z2⟩
  rw [List.getElem?_zipWith, List.getElem?_range hi, List.getElem?_eq_getElem hi]
theorem walk_enL {K : PySem.W.Frag} {a : Addr} {xs : List V} : Walk (Ite K a) xs.length (fun H => SqL K H a xs) (fun i H v H' => ∃ T x, v = .ref T ∧ H T = none ∧ H' = upd H T (.tup [.int (i : Nat), x]) ∧ xs[i]? = some x) :=
  ⟨fun i _ hi q => ⟨xs, xs[i], q, List.getElem?_eq_getElem hi⟩, fun _ q => ⟨xs, q, Nat.le_refl _⟩, fun i H v H' _ q ⟨T, x, h1, h2, h3, h4⟩ => ⟨T, x, h1, h2, h3, h4 xs q⟩⟩
theorem walk_enT {K : PySem.W.Frag} {a : Addr} {xs : List V} : Walk (ZE.ItE (ZE.goT K a xs.length) (ZE.stT K a xs.length) (ZE.ylT K a)) xs.length (fun H => SqT K H a xs) (fun i H v H' => ∃ T x, v = .ref T ∧ H T = none ∧ H' = upd H T (.tup [.int (i : Nat), x]) ∧ xs[i]? = some x) :=
  ⟨fun i _ hi q => ⟨hi, xs, q, rfl⟩, fun _ q => ⟨Nat.le_refl _, xs, q, rfl⟩, fun i H v H' _ q ⟨T, x, h1, h2, h3, h4⟩ => ⟨T, x, h1, h2, h3, h4 xs q⟩⟩
theorem walk_enS {z : Str} {xs : List V} (hx : xs.length = z.cps.size) (hv : ∀ (i c : Nat), z.cps[i]? = some c → xs[i]? = some (V.str ⟨#[c]⟩)) : Walk (ZE.ItE (ZE.goS z) (ZE.stS z) (ZE.ylS z)) xs.length (fun _ => True) (fun i H v H' => ∃ T x, v = .ref T ∧ H T = none ∧ H' = upd H T (.tup [.int (i : Nat), x]) ∧ xs[i]? = some x) :=
  ⟨fun i _ hi _ => by show i < z.cps.size; omega, fun _ _ => by show z.cps.size ≤ xs.length; omega, fun i H v H' _ _ ⟨T, x, h1, h2, h3, h4⟩ => by
    obtain ⟨c, h5, rfl⟩ := h4
    exact ⟨T, _, h1, h2, h3, hv i c h5⟩⟩
theorem zi_enm (hZ : Z.K = X.K) {a : E} {ea : Expr} {elts : List Expr} {kk : Nat} {tpos p pos : Pos} (hg : Gl X "enumerate") (hm : X.mg "enumerate" = none) (ha : PE X ea (t1 Z W (ev B Φ a))) (hs : starEach [ea] X.env = (false, eval ea X.env) :: starEach [] X.env) : ItOk Z W B Φ X .enm (.cons a .nil) (.Tuple elts kk tpos) (.Call (.Name "enumerate" p) [ea] [] pos) := by
  intro σ H ρ F R I h
  refine ⟨_, ZE.pi_e hg hm ha hs, ρ, F, I, ?_⟩
  cases e : ev B Φ (.cons a .nil) ρ with
  | st => rw [e] at h; exact h.elim
  | ex c ρ1 =>
    rw [e] at h
    rw [row1_ex e]
    exact h
  | ok rs ρ1 =>
    rw [e] at h
    obtain ⟨r, rfl, e1⟩ := row1 e
    obtain ⟨ds, xs, h1, h2, h3⟩ := h
    obtain ⟨d, es, rfl, hd, h4⟩ := drA_cons h1
    cases h4
    have ee := EvO.ev (B := B) (Φ := Φ) a ρ
    rw [e1] at ee ⊢
    intro vs H1 F1 s I1 rr
    obtain ⟨v, t, rfl, x, y, _⟩ := rr
    have : t = [] := y
    subst this
    have p : Pt Z σ ρ F H ρ1 F1 H1 := ⟨s, I1, fun _ w => Ev.wr ee w, fun _ w => Ev.oa ee w⟩
    refine ⟨v, rfl, ?_⟩
    cases d with
    | lst zs =>
      cases h2
      obtain ⟨b, vs, rfl, s1, s2, s3⟩ := walked_l (i := 0) (rs := [r]) I p rfl x hd
      exact .inl ⟨b, vs, rfl, .inl ⟨hZ ▸ s1, h3 _ _ _ p (src_enum walk_enL (p.rs.lkA _) s2 fun _ _ _ _ s => hZ ▸ s3 _ _ _ _ s)⟩⟩
    | tup zs =>
      cases h2
      obtain ⟨b, vs, rfl, s1, s2, s3⟩ := walked_t (l := owA ρ1 (wIx [r])) I p x hd
      exact .inl ⟨b, vs, rfl, .inr ⟨hZ ▸ s1, h3 _ _ _ p (src_enum walk_enT (p.rs.lkA _) s2 fun _ _ _ _ s => hZ ▸ s3 _ _ _ _ s)⟩⟩
    | str z =>
      have h2 : some ((List.range z.length).zipWith (fun i x => D.tup [.int (i : Nat), .str [x]]) z) = some xs := h2
      cases h2
      have hv : v = .str ⟨z.toArray⟩ := x.read p.rs hd
      refine .inr ⟨_, hv, h3 _ _ _ p ?_⟩
      have key := src_enum (Z := Z) (σ := σ) (F := F1) (H := H1) (ds := z.map fun c => D.str [c]) (vs := z.map fun c => V.str ⟨#[c]⟩) (walk_enS (z := ⟨z.toArray⟩) (xs := z.map fun c => V.str ⟨#[c]⟩) (by simp) fun i c hc => by
        have hc : z[i]? = some c := by simpa using hc
        rw [List.getElem?_map, hc]; rfl) (p.rs.lkA (owA ρ1 (wIx [r]))) (str_items z) fun _ _ _ _ _ => trivial
      rw [List.length_map, List.zipWith_map_right] at key
      exact key
    | _ => cases h2
/-! ### comprehensions -/
theorem ownOk_at {own : List Nat} {ρ : Env} : ownOk ρ own = true → ∀ j, j ∈ own → gt ρ j = .u ∨ ∃ d f, gt ρ j = .v d f := by
  induction own with
  | nil => intro _ j h; cases h
  | cons i r ih =>
    intro h j hj
    unfold ownOk at h
    rw [Bool.and_eq_true] at h
    rcases List.mem_cons.mp hj with e | e
    · subst e
      have h := h.1
      split at h
      · rename_i g; exact .inl g
      · rename_i d f g; exact .inr ⟨d, f, g⟩
      · cases h
    · exact ih h.2 j e
theorem ownOk_by {own : List Nat} {ρ : Env} (h : ∀ j, j ∈ own → gt ρ j = .u ∨ ∃ d f, gt ρ j = .v d f) : ownOk ρ own = true := by
  induction own with
  | nil => rfl
  | cons i r ih =>
    unfold ownOk
    rw [Bool.and_eq_true]
    refine ⟨?_, ih fun j hj => h j (List.mem_cons_of_mem _ hj)⟩
    rcases h i List.mem_cons_self with g | ⟨d, f, g⟩ <;> rw [g]
theorem wipG (j : Nat) : ∀ (own : List Nat) (ρ : Env), gt (wip ρ own) j = if j ∈ own then .u else gt ρ j
  | [], ρ => by simp [wip]
  | i :: r, ρ => by
    unfold wip
    rw [wipG j r, gt_pt]
    by_cases hr : j ∈ r
    · rw [if_pos hr, if_pos (List.mem_cons_of_mem _ hr)]
    · rw [if_neg hr]
      by_cases hi : j = i
      · subst hi
        rw [if_pos List.mem_cons_self]
        by_cases hl : j < ρ.length
        · rw [if_pos ⟨rfl, hl⟩]
        · rw [if_neg (fun z => hl z.2), gt_ge _ (by omega)]
      · rw [if_neg (fun z => hi z.1), if_neg (fun z => (List.mem_cons.mp z).elim hi hr)]
theorem wipL : ∀ (own : List Nat) (ρ : Env), (wip ρ own).length = ρ.length
  | [], ρ => rfl
  | i :: r, ρ => by unfold wip; rw [wipL r, pt_length]
theorem bckL (ρ0 : Env) : ∀ (own : List Nat) (ρ : Env), (bck ρ0 ρ own).length = ρ.length
  | [], ρ => rfl
  | i :: r, ρ => by unfold bck; rw [bckL ρ0 r, pt_length]
theorem bckG (ρ0 : Env) (j : Nat) : ∀ (own : List Nat) (ρ : Env), ρ0.length = ρ.length → gt (bck ρ0 ρ own) j = if j ∈ own then gt ρ0 j else gt ρ j
  | [], ρ, _ => by simp [bck]
  | i :: r, ρ, hl => by
    unfold bck
    rw [bckG ρ0 j r _ (by rw [pt_length]; exact hl), gt_pt]
    by_cases hr : j ∈ r
    · rw [if_pos hr, if_pos (List.mem_cons_of_mem _ hr)]
    · rw [if_neg hr]
      by_cases hi : j = i
      · subst hi
        rw [if_pos List.mem_cons_self]
        by_cases hl2 : j < ρ.length
        · rw [if_pos ⟨rfl, hl2⟩]
        · rw [if_neg (fun z => hl2 z.2), gt_ge _ (by omega), gt_ge _ (by omega)]
      · rw [if_neg (fun z => hi z.1), if_neg (fun z => (List.mem_cons.mp z).elim hi hr)]
theorem wipe_sg (σ : L2.St) (j : Nat) (l : List Nat) : sg (wipe σ l) j = if j ∈ l then none else sg σ j := by
  unfold sg
  rw [wipe_get]
  by_cases h : j ∈ l
  · rw [if_pos h, if_pos h]
    cases σ[j]? <;> rfl
  · rw [if_neg h, if_neg h]
theorem oa_uv {x : Option V} {s : Sl} {a : Addr} (h : s = .u ∨ ∃ d f, s = .v d f) : oa x s ≠ some a := by
  rcases h with rfl | ⟨d, f, rfl⟩ <;> cases x with
  | none => simp [oa]
  | some v => cases v <;> simp [oa]
theorem wa_uv {x : Option V} {s : Sl} {a : Addr} (h : s = .u ∨ ∃ d f, s = .v d f) : wa x s ≠ some a := fun e => oa_uv h (oa_of_wa e)
/-- the block's state: its own slots forgotten -/
theorem RS.wip {own : List Nat} (I : RS Z F H σ ρ) : RS Z F H (wipe σ own) (wip ρ own) where
  fok := I.fok
  len := by rw [wipL, wipe_length]; exact I.len
  sl := fun j => by
    rw [wipG, wipe_sg]
    by_cases h : j ∈ own
    · rw [if_pos h, if_pos h]; trivial
    · rw [if_neg h, if_neg h]; exact I.sl j
  ap := fun i j a n h1 h2 => by
    rw [wipG, wipe_sg] at h1 h2
    by_cases hi : i ∈ own
    · rw [if_pos hi, if_pos hi] at h1; cases h1
    · by_cases hj : j ∈ own
      · rw [if_pos hj, if_pos hj] at h2; cases h2
      · rw [if_neg hi, if_neg hi] at h1
        rw [if_neg hj, if_neg hj] at h2
        exact I.ap i j a n h1 h2
theorem wr_wip {own : List Nat} {a : Addr} (h : Wr (wipe σ own) (_root_.Z.wip ρ own) a) : Wr σ ρ a := by
  obtain ⟨j, e⟩ := h
  rw [wipG, wipe_sg] at e
  by_cases hj : j ∈ own
  · rw [if_pos hj, if_pos hj] at e; cases e
  · rw [if_neg hj, if_neg hj] at e; exact ⟨j, e⟩
/-- a turn of the block, seen from outside -/
theorem SS.unwip {own : List Nat} (I : RS Z F H σ ρ) (ok : ownOk ρ own = true) (s : SS Z (wipe σ own) (_root_.Z.wip ρ own) F H σ1 ρ1 F1 H1) (w : wipe σ1 own = wipe σ own) : SS Z σ ρ F H σ (bck ρ ρ1 own) F1 H1 := by
  have uv := ownOk_at ok
  have hl : ρ.length = ρ1.length := by
    rw [s.rs.len, s.ln, wipe_length, I.len]
  have es : ∀ j, j ∉ own → sg σ1 j = sg σ j := fun j hj => by
    have h1 := wipe_sg σ1 j own
    have h2 := wipe_sg σ j own
    rw [if_neg hj] at h1 h2
    rw [← h1, ← h2, w]
  have g : ∀ j, gt (bck ρ ρ1 own) j = if j ∈ own then gt ρ j else gt ρ1 j := fun j => bckG ρ j own ρ1 hl
  have mo := s.st.mono (I.wip (own := own))
  refine ⟨⟨⟨fun a o e n => s.st.keep a o e fun q => n (wr_wip q), s.st.live, s.st.fmo, fun a f => ?_⟩, fun i h => ?_, fun i a h n => ?_, fun a h => ?_, fun i w' f h => ?_, rfl⟩, ⟨s.rs.fok, ?_, fun j => ?_, fun i j a n h1 h2 => ?_⟩, fun i c h => ?_⟩
  · rcases s.st.fnew a f with q | q | q
    · exact .inl q
    · exact .inr (.inl q)
    · exact .inr (.inr (wr_wip q))
  · rw [g] at h
    by_cases hi : i ∈ own
    · rw [if_pos hi] at h; exact ⟨h, rfl⟩
    · rw [if_neg hi] at h
      have := (s.flag i h).1
      rw [wipG, if_neg hi] at this
      exact ⟨this, rfl⟩
  · rw [g] at h n
    by_cases hi : i ∈ own
    · rw [if_pos hi] at h; exact absurd h (oa_uv (uv i hi))
    · rw [if_neg hi] at h n
      rw [← es i hi] at h
      rcases s.own i a h n with q | ⟨j, q1, q2⟩
      · exact .inl q
      · rw [wipG] at q1 q2
        rw [wipe_sg] at q1
        by_cases hj : j ∈ own
        · rw [if_pos hj, if_pos hj] at q1; cases q1
        · rw [if_neg hj] at q2
          rw [if_neg hj, if_neg hj] at q1
          exact .inr ⟨j, q1, q2⟩
  · obtain ⟨i, e⟩ := h
    rw [g] at e
    by_cases hi : i ∈ own
    · rw [if_pos hi] at e; exact absurd e (wa_uv (uv i hi))
    · rw [if_neg hi, ← es i hi] at e
      rcases s.sub a ⟨i, e⟩ with q | q
      · exact .inl (wr_wip q)
      · exact .inr q
  · rw [g] at h
    by_cases hi : i ∈ own
    · rw [if_pos hi] at h; exact ⟨h, rfl⟩
    · rw [if_neg hi] at h
      have := (s.kk i w' f h).1
      rw [wipG, if_neg hi] at this
      exact ⟨this, rfl⟩
  · rw [bckL, ← hl, I.len]
  · rw [g]
    by_cases hj : j ∈ own
    · rw [if_pos hj]
      have q := I.sl j
      rcases uv j hj with e | ⟨d, f, e⟩
      · rw [e]; trivial
      · rw [e] at q ⊢
        obtain ⟨v, x, y⟩ := q
        exact ⟨v, x, y.mo mo⟩
    · rw [if_neg hj, ← es j hj]
      exact s.rs.sl j
  · rw [g] at h1 h2
    by_cases hi : i ∈ own
    · rw [if_pos hi] at h1; exact absurd h1 (oa_uv (uv i hi))
    · by_cases hj : j ∈ own
      · rw [if_pos hj] at h2; exact absurd h2 (oa_uv (uv j hj))
      · rw [if_neg hi, ← es i hi] at h1
        rw [if_neg hj, ← es j hj] at h2
        exact s.rs.ap i j a n h1 h2
  · rw [g] at h
    by_cases hi : i ∈ own
    · rw [if_pos hi] at h; exact h
    · rw [if_neg hi] at h
      have := s.ee i c h
      rw [wipG, if_neg hi] at this
      exact this
/-- a thing that no slot owns is made, or written -/
theorem SS.upd_ (s : SS Z σ ρ F H σ1 ρ1 F1 H1) {a : Addr} {u : HO} (h0 : H a = none) (nF : ¬ F1 a) (nO : ¬ Oa σ1 ρ1 a) : SS Z σ ρ F H σ1 ρ1 F1 (upd H1 a u) := by
  have ne : ∀ b, F1 b → b ≠ a := fun b f z => nF (z ▸ f)
  have mo : ∀ b, F1 b → F1 b ∧ ∀ o, H1 b = some o → upd H1 a u b = some o := fun b f => ⟨f, fun o e => by rw [upd_ne (ne b f)]; exact e⟩
  refine ⟨⟨⟨fun b o e n => ?_, fun b e => ?_, s.st.fmo, s.st.fnew⟩, s.flag, s.own, s.sub, s.kk, s.ln⟩, ⟨fun b f => ?_, s.rs.len, fun j => ?_, s.rs.ap⟩, s.ee⟩
  · rw [upd_ne (fun z => by rw [z, h0] at e; cases e)]
    exact s.st.keep b o e n
  · by_cases z : b = a
    · rw [z, upd_same]; simp
    · rw [upd_ne z]; exact s.st.live b e
  · rw [upd_ne (ne b f)]; exact s.rs.fok b f
  · have h := s.rs.sl j
    have no : ∀ b, oa (sg σ1 j) (gt ρ1 j) = some b → b ≠ a := fun b q z => nO ⟨j, z ▸ q⟩
    cases g : gt ρ1 j with
    | u => trivial
    | v d f =>
      rw [g] at h
      obtain ⟨v, x, y⟩ := h
      exact ⟨v, x, y.mo mo⟩
    | o w f =>
      rw [g] at h no
      obtain ⟨b, x, y⟩ := h
      exact ⟨b, x, y.mo mo y.nf fun o e => by rw [upd_ne (no b (oa_o.mpr x))]; exact e⟩
    | k w f =>
      rw [g] at h no
      obtain ⟨b, x, y⟩ := h
      exact ⟨b, x, y.mo mo y.nf fun o e => by rw [upd_ne (no b (by rw [x]; rfl))]; exact e⟩
    | e c => rw [g] at h; exact h
    | n c ds =>
      rw [g] at h no
      obtain ⟨b, x, y⟩ := h
      exact ⟨b, x, y.mo mo y.1 fun o e => by rw [upd_ne (no b (by rw [x]; rfl))]; exact e⟩
theorem oa_unwip {own : List Nat} {a : Addr} (ok : ownOk ρ own = true) (hl : ρ.length = ρ1.length) (w : wipe σ1 own = wipe σ own) (h : ∀ a, Oa σ1 ρ1 a → Oa (wipe σ own) (_root_.Z.wip ρ own) a) (o : Oa σ (bck ρ ρ1 own) a) : Oa σ ρ a := by
  obtain ⟨j, e⟩ := o
  rw [bckG ρ j own ρ1 hl] at e
  by_cases hj : j ∈ own
  · rw [if_pos hj] at e; exact ⟨j, e⟩
  · rw [if_neg hj] at e
    have h1 := wipe_sg σ1 j own
    have h2 := wipe_sg σ j own
    rw [if_neg hj] at h1 h2
    rw [← h2, ← w, h1] at e
    obtain ⟨i, q⟩ := h a ⟨j, e⟩
    rw [wipG, wipe_sg] at q
    by_cases hi : i ∈ own
    · rw [if_pos hi, if_pos hi] at q; cases q
    · rw [if_neg hi, if_neg hi] at q; exact ⟨i, q⟩
theorem wipe_wipe (l : List Nat) : wipe (wipe σ l) l = wipe σ l := by
  apply List.ext_getElem?
  intro j
  rw [wipe_get, wipe_get]
  by_cases h : j ∈ l
  · rw [if_pos h, if_pos h]
    cases σ[j]? <;> rfl
  · rw [if_neg h, if_neg h]
/-- nothing is raised in a block -/
def W0 : WX := fun _ _ _ _ => False
def tTst (Z : Cd) (B : Tb) (Φ : CallF) (cnd : E) : TT := if cnd.isNil = true then tYes else tT Z W0 (ev B Φ cnd)
theorem comp_core {J : It} {t : Tg} {g : TG} {xs : List D} {own : List Nat} {elt cnd : E} (src : Src Z J xs σ ρ F H) (tg : TgOk Z t g) (I : RS Z F H σ ρ) (hin : tgIn t own = true) (hown : ownOk ρ own = true) (hlen : xs.length ≤ lim) {res : List D} {ρe : Env}
    (h : cmpL own t (if cnd.isNil then none else some (ev B Φ cnd)) (ev B Φ elt) xs [] ρ = .ok res ρe) {a : Addr} (hD : H a = none) {Q : VK}
    (k : ∀ F' H' vs, SS Z σ ρ F H σ ρe F' H' → H' a = some (.lst vs) → RepA Z F' H' res vs → ¬ F' a → Q (.ref a) H') :
    ∃ W' : Nat → Nat → Hp → Prop, (∃ m, W' 0 m (upd H a (.lst []))) ∧ ∀ i m H, W' i m H →
      (J.stop i H ∧ Q (.ref a) H) ∨ (J.go i H ∧ ∃ Nx : Hp → Prop, (∀ H', Nx H' → ∃ m', m' < m ∧ W' (i + 1) m' H') ∧ ∀ x H', J.yld i H x H' → g x (wipe σ own) H' fun σ2 H2 => wipe σ2 own = wipe σ own ∧ tTst Z B Φ cnd σ2 H2 fun b H3 =>
        if b = true then t1 Z W0 (ev B Φ elt) σ2 H3 fun y H4 => ∃ acc, H4 a = some (.lst acc) ∧ acc.length < sizeLine ∧ Nx (upd H4 a (.lst (acc ++ [y]))) else Nx H3) := by
  obtain ⟨G, Y, wk, sv⟩ := src.src
  obtain ⟨cc, hcc⟩ : ∃ cc, cc = (if cnd.isNil then none else some (ev B Φ cnd)) := ⟨_, rfl⟩
  rw [← hcc] at h
  have nF0 : ¬ F a := fun f => I.fok a f hD
  have nO0 : ¬ Oa σ ρ a := fun o => (I.oa_nf o).2 hD
  refine lc_it wk (fun i H' => ∃ ρ' F' acc vs, SS Z σ ρ F H σ ρ' F' H' ∧ ownOk ρ' own = true ∧ ¬ F' a ∧ ¬ Oa σ ρ' a ∧ H' a = some (.lst vs) ∧ RepA Z F' H' acc vs ∧ acc.length ≤ i ∧
      cmpL own t cc (ev B Φ elt) (xs.drop i) acc ρ' = .ok res ρe)
    ⟨ρ, F, [], [], (SS.refl I).upd_ hD nF0 nO0, hown, nF0, nO0, upd_same, .nil_, Nat.le_refl _, h⟩ (fun i H' _ ⟨ρ', F', acc, vs, s, _⟩ => (sv _ _ _ _ s).1) (fun i x H' H'' hi ⟨ρ', F', acc, vs, s, ok, nF, nO, hA, ra, le, q⟩ hy => ?_) (fun H' ⟨ρ', F', acc, vs, s, ok, nF, nO, hA, ra, le, q⟩ => ?_)
  · obtain ⟨F2, d, e1, s2, rd⟩ := (sv _ _ _ _ s).2 i x H'' hi hy
    have ed : xs.drop i = d :: xs.drop (i + 1) := by
      rw [List.drop_eq_getElem_cons hi]
      rw [List.getElem?_eq_getElem hi] at e1
      cases e1
      rfl
    rw [ed] at q
    unfold cmpL at q
    cases ea : asg t d (_root_.Z.wip ρ' own) with
    | none => rw [ea] at q; cases q
    | some ρ1 =>
      rw [ea] at q
      dsimp only at q
      have I2 := s2.rs
      refine tg d x _ ρ1 F2 H'' (wipe σ own) _ (I2.wip (own := own)) rd ea fun σ2 s3 hw hO => ?_
      have hw2 : wipe σ2 own = wipe σ own := (hw own hin).trans (wipe_wipe own)
      have fin : ∀ ρ3 F3 H3, SS Z (wipe σ own) (_root_.Z.wip ρ' own) F2 H'' σ2 ρ3 F3 H3 → (∀ a, Oa σ2 ρ3 a → Oa (wipe σ own) (_root_.Z.wip ρ' own) a) →
          SS Z σ ρ F H σ (bck ρ' ρ3 own) F3 H3 ∧ ownOk (bck ρ' ρ3 own) own = true ∧ ¬ F3 a ∧ ¬ Oa σ (bck ρ' ρ3 own) a ∧ H3 a = some (.lst vs) ∧ RepA Z F3 H3 acc vs := fun ρ3 F3 H3 s4 o4 => by
        have hl : ρ'.length = ρ3.length := by rw [s4.rs.len, s4.ln, wipe_length, I2.len]
        have s5 := SS.unwip I2 ok s4 hw2
        have s6 := s2.trans s5
        have noW : ¬ Wr σ ρ' a := fun w => nO (Wr.oa w)
        have nO3 : ¬ Oa σ (bck ρ' ρ3 own) a := fun o => nO (oa_unwip ok hl hw2 o4 o)
        refine ⟨s.trans s6, ownOk_by fun j hj => ?_, fun f => ?_, nO3, s6.st.keep a _ hA noW, ra.mo (s6.st.mono s.rs)⟩
        · rw [bckG ρ' j own ρ3 hl, if_pos hj]
          exact ownOk_at ok j hj
        · rcases s6.st.fnew a f with z | z | z
          · exact nF z
          · rw [hA] at z; cases z
          · exact noW z
      have elem : ∀ ρ3 F3 H3, SS Z (wipe σ own) (_root_.Z.wip ρ' own) F2 H'' σ2 ρ3 F3 H3 → (∀ a, Oa σ2 ρ3 a → Oa (wipe σ own) (_root_.Z.wip ρ' own) a) →
          (match ev B Φ elt ρ3 with
          | .ok [r] ρ4 => (match fz ρ4 r with
            | some (d, ρ5) => cmpL own t cc (ev B Φ elt) (xs.drop (i + 1)) (acc ++ [d]) (bck ρ' ρ5 own)
            | none => .st)
          | _ => .st) = .ok res ρe →
          t1 Z W0 (ev B Φ elt) σ2 H3 fun y H4 => ∃ acc', H4 a = some (.lst acc') ∧ acc'.length < sizeLine ∧ ∃ ρ' F' acc vs, SS Z σ ρ F H σ ρ' F' (upd H4 a (.lst (acc' ++ [y]))) ∧ ownOk ρ' own = true ∧ ¬ F' a ∧ ¬ Oa σ ρ' a ∧ (upd H4 a (.lst (acc' ++ [y]))) a = some (.lst vs) ∧ RepA Z F' (upd H4 a (.lst (acc' ++ [y]))) acc vs ∧ acc.length ≤ i + 1 ∧
            cmpL own t cc (ev B Φ elt) (xs.drop (i + 1)) acc ρ' = .ok res ρe := fun ρ3 F3 H3 s4 o4 q => by
        refine ⟨ρ3, F3, s4.rs, ?_⟩
        have ee := EvO.ev (B := B) (Φ := Φ) elt ρ3
        cases e2 : ev B Φ elt ρ3 with
        | st => rw [e2] at q; cases q
        | ex c ρ4 => rw [e2] at q; cases q
        | ok rs ρ4 =>
          rw [e2] at q ee
          match rs, e2, q with
          | [], _, q => cases q
          | _ :: _ :: _, _, q => cases q
          | [r], e2', q =>
            intro us H4 F4 st4 I4 rr
            obtain ⟨y, t', rfl, xr, yt, dj⟩ := rr
            have : t' = [] := yt
            subst this
            dsimp only at q
            cases ef : fz ρ4 r with
            | none => rw [ef] at q; cases q
            | some z =>
              obtain ⟨d', ρ5⟩ := z
              rw [ef] at q
              dsimp only at q
              have p : Pt Z σ2 ρ3 F3 H3 ρ4 F4 H4 := ⟨st4, I4, fun _ w => Ev.wr ee w, fun _ w => Ev.oa ee w⟩
              obtain ⟨F5, p5, rd5, _⟩ := RepR.froz (Fz.of s4.rs p) xr ef
              have ev5 := ee.trans (Ev.fz ef)
              obtain ⟨s7, ok7, nF7, nO7, hA7, ra7⟩ := fin ρ5 F5 H4 (s4.trans (SS.ofFz p5 ev5)) (fun b o => o4 b (Ev.oa ev5 o))
              have mo : ∀ b, F5 b → F5 b ∧ ∀ o, H4 b = some o → upd H4 a (.lst (vs ++ [y])) b = some o := fun b f => ⟨f, fun o e => by rw [upd_ne (show b ≠ a from fun z => nF7 (z ▸ f))]; exact e⟩
              refine ⟨y, rfl, vs, hA7, ?_, bck ρ' ρ5 own, F5, acc ++ [d'], vs ++ [y], s7.upd_ hD nF7 nO7, ok7, nF7, nO7, upd_same, (ra7.app (.cons_ rd5 .nil_)).mo mo, by simp; exact le, q⟩
              have e3 : sizeLine = lim := rfl
              rw [← ra.len, e3]
              omega
      refine ⟨hw2, ?_⟩
      unfold tTst
      by_cases hc : cnd.isNil = true
      · rw [if_pos hc]
        rw [if_pos hc] at hcc
        subst hcc
        exact elem ρ1 F2 H'' s3 hO q
      · rw [if_neg hc]
        rw [if_neg hc] at hcc
        subst hcc
        dsimp only at q
        refine ⟨ρ1, F2, s3.rs, ?_⟩
        have ee := EvO.ev (B := B) (Φ := Φ) cnd ρ1
        cases e2 : ev B Φ cnd ρ1 with
        | st => rw [e2] at q; cases q
        | ex c ρ4 => rw [e2] at q; cases q
        | ok rs ρ4 =>
          rw [e2] at q ee
          have hb : ∃ b, rs = [.v (.bl b)] := by
            match rs, q with
            | [], q => cases q
            | _ :: _ :: _, q => (rename_i r _ _; cases r with
              | v d => cases d <;> cases q
              | o w => cases q
              | w i => cases q)
            | [r], q => cases r with
              | v d => cases d with
                | bl b => exact ⟨b, rfl⟩
                | _ => cases q
              | o w => cases q
              | w i => cases q
          obtain ⟨b, rfl⟩ := hb
          intro us H4 F4 st4 I4 rr
          obtain ⟨y, t', rfl, xr, yt, dj⟩ := rr
          have : t' = [] := yt
          subst this
          have hy : y = .bl b := xr
          subst hy
          have p : Pt Z σ2 ρ1 F2 H'' ρ4 F4 H4 := ⟨st4, I4, fun _ w => Ev.wr ee w, fun _ w => Ev.oa ee w⟩
          have s4 := s3.trans (SS.ofPt p ee)
          have o4 : ∀ a, Oa σ2 ρ4 a → Oa (wipe σ own) (_root_.Z.wip ρ' own) a := fun b o => hO b (Ev.oa ee o)
          refine ⟨b, rfl, ?_⟩
          cases b with
          | false =>
            obtain ⟨s7, ok7, nF7, nO7, hA7, ra7⟩ := fin ρ4 F4 H4 s4 o4
            exact ⟨bck ρ' ρ4 own, F4, acc, vs, s7, ok7, nF7, nO7, hA7, ra7, by omega, q⟩
          | true => exact elem ρ4 F4 H4 s4 o4 q
  · rw [List.drop_length] at q
    unfold cmpL at q
    cases q
    exact k F' H' vs s hA ra nF
theorem comp_lc {k : ItK} {as : E} {t : Tg} {g : TG} {own : List Nat} {elt cnd : E} {tg iter : Expr} {Q : VK} (it : ItOk Z W B Φ X k as tg iter) (to : TgOk Z t g) (h : t1 Z W (ev B Φ (.comp k as t own elt cnd)) σ H Q) :
    ∃ wi, PI X tg iter wi ∧ tLc wi g (tTst Z B Φ cnd) (t1 Z W0 (ev B Φ elt)) own σ H Q := by
  obtain ⟨ρ, F, I, h⟩ := h
  have ee := EvO.ev (B := B) (Φ := Φ) as ρ
  refine it σ H ρ F _ I ?_
  unfold ev at h
  cases e : ev B Φ as ρ with
  | st => rw [e] at h; exact h.elim
  | ex c ρ1 => rw [e] at h; exact h
  | ok rs ρ1 =>
    rw [e] at h ee
    simp only [Out.bnd] at h
    cases e1 : drA ρ1 rs with
    | none => rw [e1] at h; exact h.elim
    | some ds =>
      rw [e1] at h
      dsimp only at h
      by_cases hc : (tgIn t own && ownOk ρ1 own) = true
      · rw [if_pos hc] at h
        rw [Bool.and_eq_true] at hc
        cases e2 : itD k ds with
        | none => rw [e2] at h; exact h.elim
        | some xs =>
          rw [e2] at h
          dsimp only at h
          by_cases hl : xs.length ≤ lim
          · rw [if_pos hl] at h
            refine ⟨ds, xs, e1, e2, fun J H1 F1 p src a ha => ?_⟩
            split at h
            · rename_i res ρe ec
              refine comp_core src to (p.rs.lkA _) hc.1 (ownOk_by fun j hj => ?_) hl ec ha fun F' H' vs s hA ra nF => ?_
              · rcases lk_cases ρ1 (owA ρ1 (wIx rs)) j with q | ⟨w, f, q, _⟩
                · rw [q]; exact ownOk_at hc.2 j hj
                · rcases ownOk_at hc.2 j hj with z | ⟨d, f', z⟩ <;> rw [q] at z <;> cases z
              · have s2 := SS.locked (SS.ofPt p ee) s
                obtain ⟨v, e3, q⟩ := h [.ref a] H' F' s2.st s2.rs (Rep1 (r := .o (.L res)) ⟨a, rfl, ⟨nF, vs, hA, ra⟩, p.st.dead a ha⟩)
                cases e3
                exact q
            · exact h.elim
          · rw [if_neg hl] at h; exact h.elim
      · rw [if_neg hc] at h; exact h.elim
theorem ze_comp {k : ItK} {as : E} {t : Tg} {g : TG} {own : List (Str × Nat)} {elt cnd : E} {ee tg iter : Expr} {ifs : List Expr} {scope : Scope} {pos : Pos} (hc : X.calm = true) (hN : X.N.Nodup) (it : ItOk Z W B Φ X k as tg iter) (to : TgOk Z t g) (ok : BlkOk X.N X.env.scope scope own)
    (hg : ∀ (s : Shared) (H : Hp) (C : Addr) (cl : List (Str × Addr)) (fp : List Addr), PG (X.blk s H scope (compEnvC scope cl C X.env) fp) tg g) (ht : ∀ (s : Shared) (H : Hp) (C : Addr) (cl : List (Str × Addr)) (fp : List Addr), PTs (X.blk s H scope (compEnvC scope cl C X.env) fp) ifs (tTst Z B Φ cnd))
    (he : ∀ (s : Shared) (H : Hp) (C : Addr) (cl : List (Str × Addr)) (fp : List Addr), PE (X.blk s H scope (compEnvC scope cl C X.env) fp) ee (t1 Z W0 (ev B Φ elt))) (hs : ∀ x, foldedSetIterable iter X.env x = pure x) :
    PE X (.ListComp ee [⟨tg, iter, ifs, 0⟩] scope pos) (t1 Z W (ev B Φ (.comp k as t (own.map (·.2)) elt cnd))) :=
  PE.of fun σ H Q h => let ⟨wi, h1, h2⟩ := comp_lc it to h; ⟨_, pe_lc hc hN h1 ok hg ht he hs, h2⟩
theorem set_core {i : Nat} {e : E} {D : Ends} (h : tS Z W (exe B Φ (.set i e)) D σ H) : t1 Z W (ev B Φ e) σ H fun x H1 => gName i x σ H1 D.nx :=
  let ⟨ρ, F, I, h⟩ := h
  ⟨ρ, F, I, SQs.one h I (EvO.ev e ρ) fun r ρ1 v H1 F1 _ p ev x q => by
    split at q
    · rename_i r w
      obtain ⟨a, rfl, z, n⟩ := x
      exact q _ F1 H1 ((SS.ofPt p ev).putO z n fun o => (I.oa_nf (p.subO a o)).2 n)
    · split at q
      · rename_i d ρ2 e2
        obtain ⟨F2, p2, y, m2, _⟩ := RepR.froz (Fz.of I p) x e2
        exact q _ F2 H1 ((SS.ofFz p2 (ev.trans (Ev.fz e2))).putV y)
      · exact q.elim⟩
theorem zs_setComp {i : Nat} {y : Str} {py : Pos} {k : ItK} {as : E} {t : Tg} {g : TG} {own : List (Str × Nat)} {elt cnd : E} {ee tg iter : Expr} {ifs : List Expr} {scope : Scope} {pos spos : Pos} (hc : X.calm = true) (hN : X.N.Nodup) (hy : X.N[i]? = some y) (hyl : X.env.scope.names.lookup y = some .local)
    (hsw : swapsWith (.ListComp ee [⟨tg, iter, ifs, 0⟩] scope pos) (some (.Name y py)) spos.line X.env = pure true) (it : ItOk Z W B Φ X k as tg iter) (to : TgOk Z t g) (ok : BlkOk X.N X.env.scope scope own)
    (hg : ∀ (s : Shared) (H : Hp) (C : Addr) (cl : List (Str × Addr)) (fp : List Addr), PG (X.blk s H scope (compEnvC scope cl C X.env) fp) tg g) (ht : ∀ (s : Shared) (H : Hp) (C : Addr) (cl : List (Str × Addr)) (fp : List Addr), PTs (X.blk s H scope (compEnvC scope cl C X.env) fp) ifs (tTst Z B Φ cnd))
    (he : ∀ (s : Shared) (H : Hp) (C : Addr) (cl : List (Str × Addr)) (fp : List Addr), PE (X.blk s H scope (compEnvC scope cl C X.env) fp) ee (t1 Z W0 (ev B Φ elt))) (hs : ∀ x, foldedSetIterable iter X.env x = pure x) :
    PS X (.Assign [.Name y py] (.ListComp ee [⟨tg, iter, ifs, 0⟩] scope pos) spos) (tS Z W (exe B Φ (.set i (.comp k as t (own.map (·.2)) elt cnd)))) :=
  PS.of fun D σ H h => let ⟨wi, h1, h2⟩ := comp_lc it to (set_core h); ⟨_, ps_setLc hc hN hy hyl hsw h1 ok hg ht he hs, h2⟩
end
end
end Z

/-! a def, by its body -/
namespace Z
open PySem L2
theorem gt_app : ∀ (ss : Env) (n i : Nat), gt (ss ++ List.replicate n .u) i = gt ss i
  | [], 0, i => rfl
  | [], n + 1, 0 => rfl
  | [], n + 1, i + 1 => gt_app [] n i
  | s :: ss, n, 0 => rfl
  | s :: ss, n, i + 1 => gt_app ss n i
theorem sg_app : ∀ (σ : L2.St) (n i : Nat), sg (σ ++ List.replicate n none) i = sg σ i
  | [], 0, i => rfl
  | [], n + 1, 0 => rfl
  | [], n + 1, i + 1 => by
    have := sg_app [] n i
    simpa [sg, List.replicate_succ] using this
  | s :: ss, n, 0 => rfl
  | s :: ss, n, i + 1 => by
    have := sg_app ss n i
    simpa [sg] using this
theorem gt_out : ∀ (ρ : Env) (n i : Nat), gt ((ρ.take n).map outF) i = if i < n then outF (gt ρ i) else .u
  | [], n, i => by simp [gt, outF]
  | s :: ρ, 0, i => by simp [gt]
  | s :: ρ, n + 1, 0 => by simp [gt]
  | s :: ρ, n + 1, i + 1 => by
    have := gt_out ρ n i
    simp only [List.take_succ_cons, List.map_cons, gt, this]
    by_cases h : i < n
    · rw [if_pos h, if_pos (by omega)]
    · rw [if_neg h, if_neg (by omega)]
section
variable {Z : Cd} {W : WX} {B : Tb} {Φ Φ' : CallF} {F F' : Addr → Prop} {H H' : Hp} {σ' : L2.St} {ρ' : Env} {N : List Str} {vs : List V} {ss : Env} {n : Nat}
theorem fn_in (I : RS Z F H (vs.map some) ss) (hl : vs.length + n = N.length) : RS Z F H (L2.start N vs) (ss ++ List.replicate n .u) where
  fok := I.fok
  len := by
    have := I.len
    rw [List.length_map] at this
    unfold L2.start
    simp only [List.length_append, List.length_replicate, List.length_map, this]
    omega
  sl := fun i => by
    unfold L2.start
    rw [gt_app, sg_app]
    exact I.sl i
  ap := fun i j a m h1 h2 => by
    unfold L2.start at h1 h2
    rw [gt_app, sg_app] at h1 h2
    exact I.ap i j a m h1 h2
theorem wr_in {a : Addr} (h : Wr (L2.start N vs) (ss ++ List.replicate n .u) a) : Wr (vs.map some) ss a := by
  obtain ⟨i, h⟩ := h
  unfold L2.start at h
  rw [gt_app, sg_app] at h
  exact ⟨i, h⟩
theorem outF_u {s : Sl} : outF s = .u ∨ (outF s = s ∧ flg s = true) := by
  cases s with
  | u => exact .inl rfl
  | v d f => cases f <;> first | exact .inl rfl | exact .inr ⟨rfl, rfl⟩
  | o d f => cases f <;> first | exact .inl rfl | exact .inr ⟨rfl, rfl⟩
  | k d f => cases f <;> first | exact .inl rfl | exact .inr ⟨rfl, rfl⟩
  | e c => exact .inl rfl
  | n c vs => exact .inr ⟨rfl, rfl⟩
theorem fn_out (I : RS Z F H (vs.map some) ss) (hl : vs.length + n = N.length) (x : SS Z (L2.start N vs) (ss ++ List.replicate n .u) F H σ' ρ' F' H') : Step (vs.map some) ss F H F' H' ∧ RS Z F' H' (vs.map some) ((ρ'.take vs.length).map outF) := by
  have at_ : ∀ i, gt ((ρ'.take vs.length).map outF) i = .u ∨ (gt ((ρ'.take vs.length).map outF) i = gt ρ' i ∧ sg σ' i = sg (vs.map some) i) := fun i => by
    rw [gt_out]
    split
    · rcases outF_u (s := gt ρ' i) with e | ⟨e, f⟩
      · exact .inl e
      · obtain ⟨_, z⟩ := x.flag i f
        unfold L2.start at z
        rw [sg_app] at z
        exact .inr ⟨e, z⟩
    · exact .inl rfl
  refine ⟨⟨fun a o e m => x.st.keep a o e fun w => m (wr_in w), x.st.live, x.st.fmo, fun a h => (x.st.fnew a h).elim .inl fun q => q.elim (fun z => .inr (.inl z)) fun z => .inr (.inr (wr_in z))⟩, x.rs.fok, ?_, fun i => ?_, fun i j a m h1 h2 => ?_⟩
  · have h1 := x.rs.len
    have h2 := x.ln
    have h3 : (L2.start N vs).length = N.length := by
      unfold L2.start
      simp only [List.length_append, List.length_replicate, List.length_map]
      omega
    simp only [List.length_map, List.length_take]
    omega
  · rcases at_ i with e | ⟨e, z⟩
    · rw [e]; trivial
    · rw [e, ← z]; exact x.rs.sl i
  · have o1 : ∀ i, oa (sg (vs.map some) i) (gt ((ρ'.take vs.length).map outF) i) = some a → oa (sg σ' i) (gt ρ' i) = some a := fun i h => by
      rcases at_ i with e | ⟨e, z⟩
      · rw [e] at h; exact absurd h oa_u
      · rw [e, ← z] at h; exact h
    exact x.rs.ap i j a m (o1 i h1) (o1 j h2)
/-- the body's end is the call's -/
theorem fn_body {Fn : Fn} {q : Nat} {Q : VK} {E : XK} (hΦ : ∀ ss, Φ' q ss = runF B Φ Fn ss) (hnn : Fn.nn = N.length) (hle : Fn.np ≤ Fn.nn) (h : spF Z Φ' q vs H Q E) :
    tS Z (fun cls d _ H => E cls d H) (exe B Φ Fn.body) { nx := fun _ H' => Q .non H', rt := Q } (L2.start N vs) H := by
  obtain ⟨F, ss, I, al, h⟩ := h
  rw [hΦ] at h
  unfold runF at h
  by_cases hp : ss.length = Fn.np
  · rw [if_pos hp] at h
    have hv : vs.length = Fn.np := by
      have := I.len
      rw [List.length_map] at this
      omega
    have hl : vs.length + (Fn.nn - Fn.np) = N.length := by omega
    refine ⟨_, F, fn_in (n := Fn.nn - Fn.np) I hl, ?_⟩
    rw [← hv] at h ⊢
    cases e : exe B Φ Fn.body (ss ++ List.replicate (Fn.nn - vs.length) .u) with
    | st => rw [e] at h; exact h
    | ex c ρ' =>
      rw [e] at h
      intro σ' F' H' x
      obtain ⟨s1, s2⟩ := fn_out I (by rw [← hv] at hl; exact hl) x
      exact h H' F' s1 s2
    | ok r ρ' =>
      rw [e] at h
      cases r with
      | nx =>
        intro σ' F' H' x
        obtain ⟨s1, s2⟩ := fn_out I (by rw [← hv] at hl; exact hl) x
        exact h .non H' F' s1 s2 (by simp [RepF, Rep])
      | cont => exact h.elim
      | brk => exact h.elim
      | ret r =>
        intro σ' F' H' v x rv
        have hl2 : vs.length + (Fn.nn - vs.length) = N.length := by rw [← hv] at hl; exact hl
        cases r with
        | v d =>
          obtain ⟨s1, s2⟩ := fn_out I hl2 x
          exact h v H' F' s1 s2 rv
        | o w =>
          obtain ⟨s1, s2⟩ := fn_out I hl2 x
          exact h v H' F' s1 s2 rv
        | w i =>
          have rv : sg σ' i = some v := rv
          have qi := x.rs.sl i
          rw [rv] at qi
          simp only [retR] at h
          cases g : gt ρ' i with
          | u => rw [g] at h; exact h.elim
          | e c => rw [g] at h; exact h.elim
          | n c ds => rw [g] at h; exact h.elim
          | k w f => rw [g] at h; exact h.elim
          | v d f =>
            rw [g] at h qi
            obtain ⟨s1, s2⟩ := fn_out I hl2 x
            obtain ⟨u, e1, e2⟩ := qi
            cases e1
            exact h v H' F' s1 s2 e2
          | o w f =>
            rw [g] at qi
            obtain ⟨a, e1, rw'⟩ := qi
            cases e1
            cases f with
            | true =>
              rw [g] at h
              obtain ⟨p2, rep⟩ := Pt.frz x.rs g rv
              have x2 := x.trans (SS.ofPt p2 (Ev.pt (.inr ⟨w, true, g, .inr (.inl ⟨_, rfl⟩)⟩)))
              obtain ⟨s1, s2⟩ := fn_out I hl2 x2
              exact h _ H' _ s1 s2 rep
            | false =>
              rw [g] at h
              have x2 := x.putU (i := i) (v := none)
              obtain ⟨s1, s2⟩ := fn_out I hl2 x2
              refine h _ H' F' s1 s2 ⟨a, rfl, rw', ?_⟩
              rcases x.own i a (by rw [g, rv]; rfl) (by rw [g]; rfl) with z | ⟨j, z1, z2⟩
              · exact z
              · unfold L2.start at z1
                rw [gt_app, sg_app] at z1
                rw [gt_app] at z2
                have aj := al j
                generalize gt ss j = s at z1 z2 aj
                exfalso
                cases s with
                | u => exact oa_u z1
                | v d f => exact oa_v z1
                | o w f =>
                  have z2 : f = false := z2
                  subst z2
                  exact (aj w).1 rfl
                | k w f =>
                  have z2 : f = false := z2
                  subst z2
                  exact (aj w).2 rfl
                | e c =>
                  cases hs : sg (List.map some vs) j with
                  | none => rw [hs] at z1; cases z1
                  | some v => rw [hs] at z1; cases v <;> cases z1
                | n c ds => cases z2
  · rw [if_neg hp] at h
    exact h.elim
end
end Z

/-! what the text's form gives -/
namespace Z
open PySem L2
abbrev nstar : Expr → Bool := nstarE
theorem nstar_ok {e : Expr} (h : nstar e = true) (es : List Expr) (env : PySem.Env) : starEach (e :: es) env = (false, eval e env) :: starEach es env := by
  cases e <;> first | rfl | cases h
theorem nstar_back {es : List Expr} (h : es.all nstar = true) (pos : Pos) (env : PySem.Env) : (backTo pos (starEach es env)).any (·.1) = false := by
  induction es with
  | nil => rfl
  | cons e es ih =>
    rw [List.all_cons, Bool.and_eq_true] at h
    rw [nstar_ok h.1]
    show (false || (backTo pos (starEach es env)).any (·.1)) = false
    rw [ih h.2]; rfl
def pix : Expr → Bool
  | .Slice .. => false
  | _ => true
theorem pix_ok {e : Expr} (h : pix e = true) : PlainIx e := by
  intro o i
  cases e <;> first | rfl | cases h
def nset : Expr → Bool
  | .Set .. => false
  | _ => true
theorem nset_ok {e : Expr} (h : nset e = true) (op : CmpOp) : behindInMarks op e = false := by
  cases e <;> first | rfl | cases h
theorem nset_fold {e : Expr} (h : nset e = true) (env : PySem.Env) (x : Value) : foldedSetIterable e env x = pure x := by
  cases e <;> first | rfl | cases h
def ncomp : Expr → Bool
  | .ListComp .. => false
  | .SetComp .. => false
  | .DictComp .. => false
  | _ => true
theorem ncomp_ok {e : Expr} (h : ncomp e = true) (t : Option Expr) (l : Nat) (env : PySem.Env) : swapsWith e t l env = pure false := by
  cases e <;> first | rfl | cases h
/-- what is asked plainly for its truth -/
def tval : Expr → Bool
  | .UnaryOp .Not _ _ => false
  | .BoolOp .. => false
  | .IfExp .. => false
  | .Compare .. => false
  | _ => true
theorem tval_ok {e : Expr} (h : tval e = true) (env : PySem.Env) (whole : Sem Value) : isTrue e env whole = (do let v ← whole; standAt e.pos; holding [v] (truthy v)) := by
  cases e <;> first
    | rfl
    | (rename_i op _ _; cases op <;> first | rfl | cases h)
    | cases h
def abase : Expr → Bool
  | .Call _ [] _ _ => false
  | _ => true
theorem abase_ok {o : Expr} (h : abase o = true) (m : Str) (env : PySem.Env) (w : Sem Value) : attributeBase o m env w = w := by
  cases o with
  | Call f as ks p =>
    cases as with
    | nil => cases h
    | cons x xs => cases f <;> rfl
  | _ => rfl
theorem form_ok {es : List Expr} (h : es.all nstar = true) (hn : es.length < 30) (pos : Pos) (env : PySem.Env) : methodCallForm (es.length + ([] : List Keyword).length) (backTo pos (starEach es env)) (backToKw pos (keywordEach [] env)) = true := by
  have e : (backTo pos (starEach es env)).all (fun x => !x.1) = true := by
    have := nstar_back h pos env
    rw [List.any_eq_false] at this
    rw [List.all_eq_true]
    intro x hx
    have := this x hx
    simpa using this
  unfold methodCallForm
  rw [e]
  show (true && (true && decide (es.length + 0 + 0 < 30))) = true
  simp [hn]
theorem mcall_ok {o : Expr} {m : Str} {apos pos : Pos} {es : List Expr} {env : PySem.Env} (ho : abase o = true) (h : es.all nstar = true) (hn : es.length < 30) (hl : (apos.endLine == pos.line) = true) :
    eval (.Call (.Attribute o m apos) es [] pos) env = (do
      let ov ← eval o env
      standAt apos.atName
      let (f, first) ← holding [ov] (getMethod ov m (do return (← importBound o env).getD true))
      callWith pos f first (backTo pos (starEach es env)) (backToKw pos (keywordEach [] env))) := by
  have e1 : eval (.Call (.Attribute o m apos) es [] pos) env = (do
      let ov ← attributeBase o m env (eval o env)
      standAt apos.atName
      methodCall o m apos pos env ov (es.length + ([] : List Keyword).length) (backTo pos (starEach es env)) (backToKw pos (keywordEach [] env))) := by rfl
  rw [e1, abase_ok ho]
  unfold methodCall
  rw [form_ok h hn]
  have e2 : ∀ ov, calleeOf true o env ov m = getMethod ov m (do return (← importBound o env).getD true) := fun ov => rfl
  have e3 : methodCallPos true o env apos pos = pure pos := by
    unfold methodCallPos
    rw [hl]; rfl
  rw [e3]
  rfl
/-- two names, two values, at once -/
theorem swap2_ok {x y : Str} {px py pt' pt2 : Pos} {kt k2 : Nat} {ea eb : Expr} {env : PySem.Env} (hk : env.scope.kind = .function) (hx : env.kindOf x = some .local) (hy : env.kindOf y = some .local) (hl : (px.line == py.line) = true) (hne : (x == y) = false)
    (h1 : nstar ea = true) (h2 : nstar eb = true) (h3 : ([ea, eb].all (foldedForSure 8)) = false) (h4 : ([ea, eb].all (constantsAlone 8)) = false) :
    swappedStores [.Tuple [.Name x px, .Name y py] kt pt'] (.Tuple [ea, eb] k2 pt2) env = pure (some [x, y]) := by
  have b : env.blockKind = .function := by
    unfold Env.blockKind
    rw [hk]; rfl
  have hst : ([ea, eb].any fun | .Starred .. => true | _ => false) = false := by
    cases ea <;> first | exact absurd h1 Bool.false_ne_true | (cases eb <;> first | exact absurd h2 Bool.false_ne_true | rfl)
  have hnames : ([Expr.Name x px, Expr.Name y py].filterMap fun
      | .Name id pos => if env.kindOf id == some .local && pos.line == px.line then some id else none
      | _ => none) = [x, y] := by
    have l2 : (py.line == px.line) = true := by rw [beq_iff_eq] at hl ⊢; exact hl.symm
    simp [List.filterMap, hx, hy, l2]
  have hdup : [x, y].eraseDups.length = 2 := by
    have : (y == x) = false := by
      rw [beq_eq_false_iff_ne] at hne ⊢
      exact Ne.symm hne
    simp [List.eraseDups_cons, hne, this]
  have l2 : (py.line == px.line) = true := by rw [beq_iff_eq] at hl ⊢; exact hl.symm
  unfold swappedStores
  dsimp only
  rw [b]
  rw [if_neg (by simp)]
  refine (if_neg (fun h => Bool.noConfusion (hst.symm.trans h))).trans ?_
  have c1 : ((env.kindOf x == some NameKind.local && px.line == px.line) = true) := by rw [hx]; simp
  have c2 : ((env.kindOf y == some NameKind.local && py.line == px.line) = true) := by rw [hy, l2]; rfl
  have fm : ∀ (f : Expr → Option Str), f (Expr.Name x px) = some x → f (Expr.Name y py) = some y → List.filterMap f [Expr.Name x px, Expr.Name y py] = [x, y] := fun f e1 e2 => by
    simp [List.filterMap, e1, e2]
  rw [fm _ (if_pos c1) (if_pos c2)]
  rw [if_neg (by rw [hdup]; simp), if_neg (by rw [h3]; simp), if_neg (by rw [h4]; simp)]
/-- no tuple, no list written -/
def ntl : Expr → Bool
  | .Tuple .. => false
  | .List .. => false
  | _ => true
theorem ntl_ok {ts : List Expr} {k : Nat} {p : Pos} {e : Expr} (h : ntl e = true) (env : PySem.Env) : swappedStores [.Tuple ts k p] e env = pure none := by
  cases e <;> first | rfl | exact absurd h Bool.false_ne_true
end Z

/-! the text against the interpreter's form: expressions -/
namespace Z
open PySem L2
/-- the names behind the numbers, in one def -/
structure Ct where
  N : List Str
  sc : List (Str × NameKind)
  fn : List Str
  cn : List Str
  mn : List Str
  fl : List Str
  gn : List Str
  /-- ValueError's number -/
  vE : Nat
  B : Tb
  /-- no try stands here -/
  nt : Bool := false
  /-- the defs that may be called; those whose exceptions have no context -/
  sq : Nat → Bool := fun _ => true
  ss : Nat → Bool := fun _ => false
def Ct.str (C : Ct) : Ct := { C with nt := true, sq := C.ss, mn := [] }
def Ct.in_ (C : Ct) : Ct := { C with nt := true }
def bnames : List Str := ["abs", "len", "int", "str", "tuple", "list", "min", "max", "sum", "all", "any", "isinstance", "range", "enumerate", "zip", "reversed", "bool", "ValueError", "set", "dict"]
def isName (x : Str) : Bool := !(x == ("__debug__" : Str)) && !(x == ("__classdict__" : Str)) && !(x == ("__name__" : Str))
def Ct.vis (C : Ct) (x : Str) : Bool := decide (C.sc.lookup x = some .local) || decide (C.sc.lookup x = some .cell) || decide (C.sc.lookup x = some .free)
def Ct.loc (C : Ct) (x : Str) : Bool := decide (C.sc.lookup x = some .local) || decide (C.sc.lookup x = some .cell)
def Ct.glb (C : Ct) (x : Str) : Bool := decide (C.sc.lookup x = some .globalImplicit)
def conM : D → Const → Bool
  | .non, .none => true
  | .bl b, .bool c => b == c
  | .int i, .int j => i == j
  | .str x, .str y => y.cps.toList == x
  | _, _ => false
def conV : D → V
  | .bl b => .bl b
  | .int i => .int i
  | .str x => .str ⟨x.toArray⟩
  | _ => .non
def tailB (op : BoolOp) (y : Expr) (rest : List Expr) (pos : Pos) : Expr := match rest with
  | [] => y
  | _ :: _ => .BoolOp op (y :: rest) pos
def tyM (C : Ct) : Ty → Str → Bool
  | .int, x => x == "int"
  | .bool, x => x == "bool"
  | .str, x => x == "str"
  | .tup, x => x == "tuple"
  | .lst, x => x == "list"
  | .cls c, x => C.cn[c]? == some x && C.B.ins c
abbrev abase2 : Expr → Bool := abase
theorem abase2_ok {o : Expr} (h : abase2 o = true) (m : Str) (env : PySem.Env) (w : Sem Value) : attributeBase o m env w = w := abase_ok h m env w
def mNames (C : Ct) : List Nat → List Expr → Bool
  | [], [] => true
  | i :: is, .Name x _ :: es => C.N[i]? == some x && C.loc x && mNames C is es
  | _, _ => false
def mG (C : Ct) : Tg → Expr → Bool
  | .one i, .Name x _ => C.N[i]? == some x && C.loc x
  | .tup is, .Tuple es _ _ => mNames C is es
  | _, _ => false
/-- the operands of what is walked -/
def itA (C : Ct) : ItK → Expr → Expr → Option (List Expr)
  | .seq, _, it => some [it]
  | .rng, _, .Call (.Name x _) [ea] [] _ => if x == "range" && C.glb x then some [ea] else none
  | .rng2, _, .Call (.Name x _) [ea, eb] [] _ => if x == "range" && C.glb x then some [ea, eb] else none
  | .zip, .Tuple _ _ _, .Call (.Name x _) [ea, eb] [] _ => if x == "zip" && C.glb x then some [ea, eb] else none
  | .rev, _, .Call (.Name x _) [ea] [] _ => if x == "reversed" && C.glb x then some [ea] else none
  | .enm, .Tuple _ _ _, .Call (.Name x _) [ea] [] _ => if x == "enumerate" && C.glb x then some [ea] else none
  | _, _, _ => none
def Ct.blk (C : Ct) (scope : Scope) : Ct := { C with sc := scope.names }
def ownP (C : Ct) (own : List Nat) : List (Str × Nat) := own.filterMap fun i => C.N[i]?.map fun x => (x, i)
def compB (C : Ct) (scope : Scope) (own : List Nat) : Bool := L2.blkC C.N { scope with names := C.sc } scope (ownP C own) && decide ((ownP C own).map (·.2) = own)
def litMA : E → List Expr → Bool
  | .nil, [] => true
  | .cons (.con d) as, .Constant c _ _ :: es => conM d c && litMA as es
  | _, _ => false
def litM : E → Expr → Bool
  | .con d, .Constant c _ _ => conM d c
  | .tup as, .Tuple es _ _ => isRow as && decide (aLen as ≤ 1000) && litMA as es
  | _, _ => false
def litMs : List (List Nat) → E → List (Option Expr) → List Expr → Bool
  | [], .nil, [], [] => true
  | k :: ks, .cons a as, some (.Constant (.str x) _ _) :: kes, e :: es => x.cps.toList == k && litM a e && litMs ks as kes es
  | _, _, _, _ => false
mutual
def mE (C : Ct) (hot : Bool) : E → Expr → Bool
  | .var i, ex => (match ex with
    | .Name x _ => C.N[i]? == some x && C.vis x && isName x
    | _ => false)
  | .con d, ex => (match ex with
    | .Constant c _ _ => conM d c
    | _ => false)
  | .glo g, ex => (match ex with
    | .Name x _ => C.gn[g]? == some x && C.glb x && isName x
    | _ => false)
  | .frz a, ex => tval ex && mE C hot a ex
  | .bin op a b, ex => (match ex with
    | .BinOp ea o eb _ => decide (o = bop op) && mE C hot a ea && mE C hot b eb
    | _ => false)
  | .neg a, ex => (match ex with
    | .UnaryOp .USub ea _ => mE C hot a ea
    | _ => false)
  | .nt a, ex => (match ex with
    | .UnaryOp .Not ea _ => mE C hot a ea
    | _ => false)
  | .cmp op a b, ex => (match ex with
    | .Compare ea [o] [eb] _ => decide (o = cop op) && nset eb && mE C hot a ea && mE C hot b eb
    | _ => false)
  | .cmp2 o1 o2 a b c, ex => (match ex with
    | .Compare ea [p1, p2] [eb, ec] _ => decide (p1 = cop o1) && decide (p2 = cop o2) && nset ec && mE C hot a ea && mE C hot b eb && mE C hot c ec
    | _ => false)
  | .and a b, ex => (match ex with
    | .BoolOp .And (x :: y :: rest) pos => mE C hot a x && mE C hot b (tailB .And y rest pos)
    | _ => false)
  | .or a b, ex => (match ex with
    | .BoolOp .Or (x :: y :: rest) pos => mE C hot a x && mE C hot b (tailB .Or y rest pos)
    | _ => false)
  | .ite c a b, ex => (match ex with
    | .IfExp ec ea eb _ => mE C hot c ec && mE C hot a ea && mE C hot b eb
    | _ => false)
  | .tup as, ex => (match ex with
    | .Tuple es _ _ => isRow as && decide (aLen as ≤ 1000) && mA C hot as es
    | _ => false)
  | .lst as, ex => (match ex with
    | .List es _ => isRow as && decide (aLen as ≤ 1000) && mA C hot as es
    | _ => false)
  | .idx a b, ex => (match ex with
    | .Subscript ea eb _ => pix eb && mE C hot a ea && mE C hot b eb
    | _ => false)
  | .sl a lo hi, ex => (match ex with
    | .Subscript ea (.Slice el eh none _) _ => mE C hot a ea && (match el with
      | none => lo.isNil
      | some e => !lo.isNil && mE C hot lo e) && (match eh with
      | none => hi.isNil
      | some e => !hi.isNil && mE C hot hi e)
    | _ => false)
  | .rv a, ex => (match ex with
    | .Subscript ea (.Slice none none (some (.UnaryOp .USub (.Constant (.int 1) _ _) _)) _) _ => mE C hot a ea
    | _ => false)
  | .fld a f, ex => (match ex with
    | .Attribute ea x _ => C.fl[f]? == some x && abase ea && mE C hot a ea
    | _ => false)
  | .call q as, ex => (match ex with
    | .Call (.Name x _) es [] _ => !hot && C.sq q && C.fn[q]? == some x && C.glb x && isName x && mA C hot as es
    | _ => false)
  | .mcal m o as, ex => (match ex with
    | .Call (.Attribute eo x apos) es [] pos => !hot && C.mn[m]? == some x && abase eo && decide (es.length < 30) && (apos.endLine == pos.line) && mE C hot o eo && mA C hot as es
    | _ => false)
  | .make c as, ex => (match ex with
    | .Call (.Name x _) es [] _ => !hot && C.cn[c]? == some x && C.glb x && isName x && C.B.ins c && (match (C.B.cls c).init with
      | some q => C.sq q
      | none => true) && ((C.B.cls c).init.isSome || ((C.B.cls c).flds.isEmpty && as.isNil)) && mA C hot as es
    | _ => false)
  | .b1 b a, ex => (match ex with
    | .Call (.Name x _) [ea] [] _ => !(cold b && hot) && x == b1n b && C.glb x && nstar ea && mE C hot a ea
    | _ => false)
  | .b2 b a1 a2, ex => (match ex with
    | .Call (.Name x _) [ea, eb] [] _ => !hot && x == b2n b && C.glb x && nstar ea && nstar eb && mE C hot a1 ea && mE C hot a2 eb
    | _ => false)
  | .isi a t, ex => (match ex with
    | .Call (.Name x _) [ea, .Name y _] [] _ => x == "isinstance" && C.glb x && C.glb y && isName y && tyM C t y && nstar ea && mE C hot a ea
    | _ => false)
  | .isx i c, ex => (match ex with
    | .Call (.Name x _) [.Name n _, .Name y _] [] _ => hot && x == "isinstance" && C.glb x && C.N[i]? == some n && C.vis n && isName n && C.glb y && isName y && ((C.cn[c]? == some y && C.B.exn c) || (c == C.vE && y == "ValueError"))
    | _ => false)
  | .bm m o as, ex => (match ex with
    | .Call (.Attribute eo y apos) es [] pos => y == bmNm m && abase2 eo && (apos.endLine == pos.line) && decide (es.length < 30) && mE C hot o eo && mA C hot as es
    | _ => false)
  | .mut m i as, ex => (match ex with
    | .Call (.Attribute (.Name x _) y apos) es [] pos => y == mutNm m && C.N[i]? == some x && C.vis x && isName x && (apos.endLine == pos.line) && decide (es.length < 30) && mA C hot as es
    | _ => false)
  | .comp kd as t own elt cnd, ex => (match ex with
    | .ListComp ee [⟨tg, iter, ifs, 0⟩] scope _ => !hot && nset iter && (match itA C kd tg iter with
      | some es => mA C false as es
      | none => false) && compB C scope own && mG (C.blk scope) t tg && mE (C.blk scope) false elt ee && (match ifs with
      | [] => cnd.isNil
      | [ec] => !cnd.isNil && mE (C.blk scope) false cnd ec
      | _ => false)
    | _ => false)
  | .dnew, ex => (match ex with
    | .Dict [] [] _ => true
    | _ => false)
  | .dix ks as x, ex => (match ex with
    | .Subscript (.Dict kes es _) eb _ => pix eb && decide (ks ≠ []) && decide (ks.length ≤ 15) && decide (ks.Nodup) && litMs ks as kes es && mE C hot x eb
    | _ => false)
  | .tix ts a, ex => (match ex with
    | .Call (.Attribute (.Tuple es _ _) y apos) [ea] [] pos => y == ("index" : Str) && conStrs ts es && decide (ts.length ≤ 1000) && nstar ea && (apos.endLine == pos.line) && mE C hot a ea
    | _ => false)
  | .lset a, ex => (match ex with
    | .Call (.Name x _) [.Call (.Name y _) [ea] [] _] [] _ => !hot && x == ("len" : Str) && y == ("set" : Str) && C.glb x && C.glb y && nstar ea && mE C hot a ea
    | _ => false)
  | .nil, _ => false
  | .cons _ _, _ => false
def mA (C : Ct) (hot : Bool) : E → List Expr → Bool
  | .nil, es => es.isEmpty
  | .cons a as, es => (match es with
    | e :: es => nstar e && mE C hot a e && mA C hot as es
    | [] => false)
  | _, _ => false
end
/-- what a context tells -/
structure Gd (Z : Cd) (X : Cx) (C : Ct) : Prop where
  hZ : Z.K = X.K
  hB : Z.B = C.B
  hN : X.N = C.N
  nd : C.N.Nodup
  gl_ : ∀ x, C.glb x = true → X.env.scope.names.lookup x = some .globalImplicit
  vs_ : ∀ x, C.vis x = true → Vis X.env.scope x
  lo_ : ∀ x, C.loc x = true → L2.Loc X.env.scope x ∧ (X.fn x = true ∨ X.env.scope.names.lookup x = some .local)
  lc_ : ∀ x, C.sc.lookup x = some .local → X.env.scope.names.lookup x = some .local
  fr_ : ∀ x, C.sc.lookup x = some .cell ∨ C.sc.lookup x = some .free → X.env.scope.names.lookup x = some .cell ∨ X.env.scope.names.lookup x = some .free
  ki : X.env.scope.kind = .function
  hu : X.A.units + 200 < cLine
  fN : ∀ f x, C.fl[f]? = some x → Z.fN f = x
  fnd : ∀ c, (Z.names c).Nodup
  fsm : ∀ c, (Z.names c).length < 1000
  bt : ∀ x, x ∈ bnames → X.mg x = none
  cls : ∀ c x, C.cn[c]? = some x → X.mg x = some (.ref (Z.cA c))
  fld : ∀ f c, f ∈ (C.B.cls c).flds → L2.Cls X.K (Z.cA c) ∧ NoAttr X.K (Z.cA c) (Z.fN f)
  ins : ∀ d, C.B.ins d = true → InsOk X.K (Z.cA d)
  kit : ∀ d c, C.B.ins d = true → C.B.ins c = true → PySem.W.kitOne X.K (.ref (Z.cA d)) (.ref (Z.cA c)) = some (C.B.sub d c)
  glo : ∀ g x, C.gn[g]? = some x → ∃ u v, X.mg x = some u ∧ RelV v u ∧ ∀ F H, Rep Z F H (C.B.glo g) v
/-- .. where nothing is handled -/
structure Gc (md : Bool) (Z : Cd) (X : Cx) (C : Ct) (W : WX) (Φ : CallF) (k : Nat) : Prop where
  cm : X.calm = true
  tk : TakesM md X W
  rm : Room (k + 1) X.A
  fns : ∀ q x, C.fn[q]? = some x → C.sq q = true → ∃ f, X.mg x = some (.ref f) ∧ FK md Z X k Φ q f
  mth : ∀ m x, C.mn[m]? = some x → ∀ c q, C.B.mth c m = some q → ∃ f, MK md Z X k Φ c x q f
  mk0 : ∀ c, C.B.ins c = true → (C.B.cls c).init = none → Mk0 X.K (Z.cA c)
  ini : ∀ c q, C.B.ins c = true → (C.B.cls c).init = some q → C.sq q = true → ∃ f, IK md Z X k Φ c q f
  exc : ∀ c, C.B.exn c = true → XcOk X (Z.cA c)
/-- .. and where statements run -/
structure Gs (md : Bool) (Z : Cd) (X : Cx) (C : Ct) (W : WX) (Φ : CallF) (k : Nat) : Prop extends Gc md Z X C W Φ k where
  ow : PassesOwn (model X.prog X.w) X.A X.env X.xe
  nmd : md = true → C.nt = true
  owa : C.nt = false → ∀ hd : Option Value, PassesOwnAt (model X.prog X.w) (X.A.mark hd) X.A X.env X.xe
  sfn : ∀ q x, C.fn[q]? = some x → C.ss q = true → ∃ f, X.mg x = some (.ref f) ∧ FK true Z X k Φ q f
  sin : ∀ c q, C.B.ins c = true → (C.B.cls c).init = some q → C.ss q = true → ∃ f, IK true Z X k Φ c q f
  stk : X.stack = X.env :: X.outer
  frm : X.env.frame = some X.env.locals
  xa : Z.xa = none
  exm : ∀ d c, C.B.exn d = true → C.B.exn c = true → PySem.W.exmOne X.K (.ref (Z.cA d)) (.ref (Z.cA c)) = some (C.B.sub d c)
  xcc : ∀ d, C.B.exn d = true → ExcC X.K (Z.cA d) ∧ (∀ c, C.B.exn c = true → PySem.W.kitOne X.K (.ref (Z.cA d)) (.ref (Z.cA c)) = some (C.B.sub d c)) ∧ PySem.W.kitOne X.K (.ref (Z.cA d)) (.type "ValueError") = some (C.B.sub d C.vE)
/-- .. in an except suite -/
structure Gh (Z : Cd) (X : Cx) (C : Ct) : Prop where
  ex : ∃ (X' : Cx) (a : Addr) (oe : Obj) (d : Nat) (pn : List (Addr × Obj)), X = X'.suite a ((a, oe) :: pn) ∧ Z.xa = some (a, d) ∧ Zc (.ref (Z.cA d)) none oe ∧ (∃ vs, oe.data = .fields vs) ∧ ExcC X'.K (Z.cA d) ∧
    (∀ c, C.B.exn c = true → PySem.W.kitOne X'.K (.ref (Z.cA d)) (.ref (Z.cA c)) = some (C.B.sub d c)) ∧ PySem.W.kitOne X'.K (.ref (Z.cA d)) (.type "ValueError") = some (C.B.sub d C.vE)
section
variable {Z : Cd} {W : WX} {Φ : CallF} {X : Cx} {C : Ct} {k : Nat} {hot md : Bool}
theorem Gd.gl (g : Gd Z X C) {x : Str} (h : C.glb x = true) : Gl X x := g.gl_ x h
theorem Gd.vs (g : Gd Z X C) {x : Str} (h : C.vis x = true) : Vis X.env.scope x := g.vs_ x h
theorem Gd.lo (g : Gd Z X C) {x : Str} (h : C.loc x = true) : L2.Loc X.env.scope x := (g.lo_ x h).1
theorem Gd.fv (g : Gd Z X C) {x : Str} (h : C.loc x = true) : X.fn x = true ∨ X.env.scope.names.lookup x = some .local := (g.lo_ x h).2
theorem isName_ok {x : Str} (h : isName x = true) : (x == ("__debug__" : Str)) = false ∧ (x == ("__classdict__" : Str)) = false ∧ x ≠ "__name__" := by
  unfold isName at h
  simp only [Bool.and_eq_true, Bool.not_eq_true'] at h
  exact ⟨h.1.1, h.1.2, beq_eq_false_iff_ne.mp h.2⟩
theorem con_ok {d : D} {c : Const} {j : Nat} {pos : Pos} (h : conM d c = true) : PE X (.Constant c j pos) (tC (conV d)) ∧ ∀ F H, Rep Z F H d (conV d) := by
  cases d with
  | non =>
    cases c <;> first | exact absurd h Bool.false_ne_true | exact ⟨pe_non, fun F H => by simp [Rep, conV]⟩
  | bl b =>
    cases c with
    | bool e =>
      have : b = e := by simpa [conM] using h
      subst this
      exact ⟨pe_bl, fun F H => by simp [Rep, conV]⟩
    | _ => exact absurd h Bool.false_ne_true
  | int b =>
    cases c with
    | int e =>
      have : b = e := by simpa [conM] using h
      subst this
      exact ⟨pe_int, fun F H => by simp [Rep, conV]⟩
    | _ => exact absurd h Bool.false_ne_true
  | str b =>
    cases c with
    | str e =>
      have : e.cps.toList = b := by simpa [conM] using h
      subst this
      exact ⟨by simpa [conV] using pe_str, fun F H => by simp [Rep, conV]⟩
    | _ => exact absurd h Bool.false_ne_true
  | _ => cases c <;> exact absurd h Bool.false_ne_true
/-! ### a comprehension's block -/
theorem blkRel (scope : Scope) (env : PySem.Env) : (relabel scope env).names = scope.names.map fun (n, k) => if (k == NameKind.free && env.scope.kind == .function && env.kindOf n == some .cell) then (n, NameKind.cell) else (n, k) := rfl
theorem compB_ok (g : Gd Z X C) {scope : Scope} {own : List Nat} (h : compB C scope own = true) : BlkOk X.N X.env.scope scope (ownP C own) ∧ (ownP C own).map (·.2) = own := by
  unfold compB at h
  rw [Bool.and_eq_true] at h
  have b := L2.blkOk_by h.1
  exact ⟨⟨b.kind, b.uniq, by rw [g.hN]; exact b.ix, fun y hy e => g.fr_ _ (b.free y hy e), by rw [g.hN]; exact b.own⟩, of_decide_eq_true h.2⟩
theorem keepL {env : PySem.Env} {names : List (Str × NameKind)} {x : Str} {k : NameKind} (h : k ≠ .free) (e : names.lookup x = some k) :
    (names.map fun (n, k) => if (k == NameKind.free && env.scope.kind == .function && env.kindOf n == some .cell) then (n, NameKind.cell) else (n, k)).lookup x = some k := L2.lookup_relS_keep (sc := env.scope) h e
theorem freeL {env : PySem.Env} {x : Str} : ∀ {names : List (Str × NameKind)}, names.lookup x = some .free →
    (names.map fun (n, k) => if (k == NameKind.free && env.scope.kind == .function && env.kindOf n == some .cell) then (n, NameKind.cell) else (n, k)).lookup x = some .cell ∨
    (names.map fun (n, k) => if (k == NameKind.free && env.scope.kind == .function && env.kindOf n == some .cell) then (n, NameKind.cell) else (n, k)).lookup x = some .free
  | [], h => by cases h
  | (n, k) :: r, h => by
    rw [List.lookup_cons] at h
    rw [List.map_cons]
    cases hx : x == n with
    | true =>
      rw [hx] at h
      cases h
      dsimp only
      split
      · left; rw [List.lookup_cons, hx]
      · right; rw [List.lookup_cons, hx]
    | false =>
      rw [hx] at h
      have ih := freeL (env := env) h
      dsimp only
      split <;> (rw [List.lookup_cons, hx]; exact ih)
theorem Gd.blk (g : Gd Z X C) {scope : Scope} {own : List Nat} (h : compB C scope own = true) (s : Shared) (H : Hp) (a : Addr) (cl : List (Str × Addr)) (fp : List Addr) : Gd Z (X.blk s H scope (compEnvC scope cl a X.env) fp) (C.blk scope) where
  hZ := g.hZ
  hB := g.hB
  hN := g.hN
  nd := g.nd
  gl_ := fun x h => keepL (by decide) (of_decide_eq_true h)
  vs_ := fun x h => by
    unfold Ct.vis at h
    simp only [Bool.or_eq_true, decide_eq_true_eq] at h
    rcases h with (h | h) | h
    · exact .inl (keepL (by decide) h)
    · exact .inr (.inl (keepL (by decide) h))
    · exact .inr (freeL h)
  lo_ := fun x h => by
    unfold Ct.loc at h
    simp only [Bool.or_eq_true, decide_eq_true_eq] at h
    rcases h with h | h
    · exact ⟨.inl (keepL (by decide) h), .inr (keepL (by decide) h)⟩
    · refine ⟨.inr (keepL (by decide) h), .inl ?_⟩
      show (scope.names.lookup x == some .cell) = true
      have h : scope.names.lookup x = some .cell := h
      rw [h]; rfl
  lc_ := fun x h => keepL (by decide) h
  fr_ := fun x h => by
    rcases h with h | h
    · exact .inl (keepL (by decide) h)
    · exact freeL h
  ki := (compB_ok g h).1.kind
  hu := g.hu
  fN := g.fN
  fnd := g.fnd
  fsm := g.fsm
  bt := g.bt
  cls := g.cls
  fld := g.fld
  ins := g.ins
  kit := g.kit
  glo := g.glo
theorem FK.blk {q : Nat} {f : Addr} (h : FK md Z X k Φ q f) (s : Shared) (H : Hp) (scope : Scope) (ce : PySem.Env) (fp : List Addr) : FK md Z (X.blk s H scope ce fp) k Φ q f := ⟨h.ok, h.kp⟩
theorem Gc.blk (g : Gc md Z X C W Φ k) {scope : Scope} (s : Shared) (H : Hp) (a : Addr) (cl : List (Str × Addr)) (fp : List Addr) : Gc md Z (X.blk s H scope (compEnvC scope cl a X.env) fp) (C.blk scope) W0 Φ k where
  cm := g.cm
  tk := by
    cases md
    · exact fun u s' ⟨_, _, _, _, _, _, _, _, _, _, _, _, _, _, _, _, w⟩ => w.elim
    · exact fun u s' ⟨_, _, _, _, _, _, _, _, _, _, _, _, _, _, _, _, w⟩ => w.elim
  rm := g.rm
  fns := fun q x h h2 => let ⟨f, m, fk⟩ := g.fns q x h h2; ⟨f, m, fk.blk _ _ _ _ _⟩
  mth := fun m x h c q hq => let ⟨f, y⟩ := g.mth m x h c q hq; ⟨f, y.cl, y.me, y.fk.blk _ _ _ _ _, y.no⟩
  mk0 := g.mk0
  ini := fun c q h1 h2 h3 => let ⟨f, y⟩ := g.ini c q h1 h2 h3; ⟨f, y.km, y.fk.blk _ _ _ _ _⟩
  exc := fun c h => let z := g.exc c h; ⟨z.ok, z.kp, z.ra⟩
theorem names_ok (g : Gd Z X C) : ∀ (is : List Nat) (es : List Expr), mNames C is es = true → PGs X es (gNames is) ∧ (assignEach es X.env).length = is.length ∧ (assignEach es X.env).findIdx? (·.1) = none
  | [], [], _ => ⟨pgs_nil, rfl, rfl⟩
  | [], _ :: _, h => by cases h
  | i :: is, [], h => by cases h
  | i :: is, e :: es, h => by
    cases e with
    | Name x p =>
      simp only [mNames, Bool.and_eq_true, beq_iff_eq] at h
      obtain ⟨⟨h1, h2⟩, h3⟩ := h
      obtain ⟨a, b, c⟩ := names_ok g is es h3
      refine ⟨pgs_cons (pg_name (by rw [g.hN]; exact g.nd) (by rw [g.hN]; exact h1) (g.lo h2) (g.fv h2)) a rfl, ?_, ?_⟩
      · show ((false, assign (.Name x p) X.env) :: assignEach es X.env).length = _
        rw [List.length_cons, List.length_cons, b]
      · show ((false, assign (.Name x p) X.env) :: assignEach es X.env).findIdx? (·.1) = none
        rw [List.findIdx?_cons, c]; rfl
    | _ => cases h
/-- a target's meaning -/
def tgG (K : PySem.W.Frag) : Tg → TG
  | .one i => gName i
  | .tup is => gTL K is.length (gNames is)
theorem tgG_ok (hZ : Z.K = X.K) (t : Tg) : TgOk Z t (tgG X.K t) := by
  cases t with
  | one i => exact tg_one
  | tup is => exact tg_tup hZ
theorem mG_ok (g : Gd Z X C) (cm : X.calm = true) (t : Tg) (tg : Expr) (h : mG C t tg = true) : PG X tg (tgG X.K t) := by
  cases t with
  | one i =>
    cases tg with
    | Name x p =>
      simp only [mG, Bool.and_eq_true, beq_iff_eq] at h
      exact pg_name (by rw [g.hN]; exact g.nd) (by rw [g.hN]; exact h.1) (g.lo h.2) (g.fv h.2)
    | _ => cases h
  | tup is =>
    cases tg with
    | Tuple es j p =>
      obtain ⟨a, b, c⟩ := names_ok g is es h
      exact pg_tl cm a b c
    | _ => cases h
theorem mA_one {C : Ct} {hot : Bool} {as : E} {e : Expr} (h : mA C hot as [e] = true) : ∃ a, as = .cons a .nil := by
  cases as with
  | cons a as =>
    simp only [mA, Bool.and_eq_true] at h
    cases as with
    | nil => exact ⟨a, rfl⟩
    | cons b bs => simp [mA] at h
    | _ => cases h.2
  | _ => cases h
theorem mA_two {C : Ct} {hot : Bool} {as : E} {e f : Expr} (h : mA C hot as [e, f] = true) : ∃ a b, as = .cons a (.cons b .nil) := by
  cases as with
  | cons a as =>
    simp only [mA, Bool.and_eq_true] at h
    obtain ⟨b, e⟩ := mA_one h.2
    exact ⟨a, b, by rw [e]⟩
  | _ => cases h
theorem itA_ok (g : Gd Z X C) {kd : ItK} {tg iter : Expr} {es : List Expr} {as : E} {hot : Bool} (h : itA C kd tg iter = some es) (hA : mA C hot as es = true) (ha : PA X es (tA Z W (ev C.B Φ as))) (hs : es.all nstar = true)
    (h1 : ∀ a, as = .cons a .nil → ∀ e, es = [e] → PE X e (t1 Z W (ev C.B Φ a))) : ItOk Z W C.B Φ X kd as tg iter := by
  unfold itA at h
  split at h
  · cases h
    obtain ⟨a, rfl⟩ := mA_one hA
    exact zi_seq g.hZ (h1 a rfl _ rfl)
  · split at h
    · rename_i hc
      cases h
      simp only [Bool.and_eq_true, beq_iff_eq] at hc
      obtain ⟨rfl, h2⟩ := hc
      obtain ⟨a, rfl⟩ := mA_one hA
      simp only [List.all_cons, Bool.and_eq_true] at hs
      exact zi_rng g.hZ (g.gl h2) (g.bt _ (by decide +kernel)) ha (nstar_ok hs.1 _ _)
    · cases h
  · split at h
    · rename_i hc
      cases h
      simp only [Bool.and_eq_true, beq_iff_eq] at hc
      obtain ⟨rfl, h2⟩ := hc
      obtain ⟨a, b, rfl⟩ := mA_two hA
      simp only [List.all_cons, Bool.and_eq_true] at hs
      exact zi_rng2 g.hZ (g.gl h2) (g.bt _ (by decide +kernel)) ha (by rw [nstar_ok hs.1, nstar_ok hs.2.1]; rfl) (nstar_ok hs.2.1 _ _)
    · cases h
  · split at h
    · rename_i hc
      cases h
      simp only [Bool.and_eq_true, beq_iff_eq] at hc
      obtain ⟨rfl, h2⟩ := hc
      obtain ⟨a, b, rfl⟩ := mA_two hA
      simp only [List.all_cons, Bool.and_eq_true] at hs
      exact zi_zip g.hZ (g.gl h2) (g.bt _ (by decide +kernel)) ha (nstar_ok hs.1 _ _) (nstar_back (by simp only [List.all_cons, Bool.and_eq_true]; exact hs.2) _ _)
    · cases h
  · split at h
    · rename_i hc
      cases h
      simp only [Bool.and_eq_true, beq_iff_eq] at hc
      obtain ⟨rfl, h2⟩ := hc
      obtain ⟨a, rfl⟩ := mA_one hA
      simp only [List.all_cons, Bool.and_eq_true] at hs
      exact zi_rev g.hZ (g.gl h2) (g.bt _ (by decide +kernel)) (h1 a rfl _ rfl) (nstar_ok hs.1 _ _)
    · cases h
  · split at h
    · rename_i hc
      cases h
      simp only [Bool.and_eq_true, beq_iff_eq] at hc
      obtain ⟨rfl, h2⟩ := hc
      obtain ⟨a, rfl⟩ := mA_one hA
      simp only [List.all_cons, Bool.and_eq_true] at hs
      exact zi_enm g.hZ (g.gl h2) (g.bt _ (by decide +kernel)) (h1 a rfl _ rfl) (nstar_ok hs.1 _ _)
    · cases h
  · cases h
end
end Z

namespace Z
open PySem L2
section
variable {Z : Cd} {W : WX} {Φ : CallF} {X : Cx} {C : Ct} {k : Nat} {hot md : Bool}
/-- both readings -/
abbrev Both (Z : Cd) (W : WX) (Φ : CallF) (X : Cx) (C : Ct) (e : E) (ex : Expr) : Prop := PE X ex (t1 Z W (ev C.B Φ e)) ∧ PT X ex (tT Z W (ev C.B Φ e))
theorem Both.val {e : E} {ex : Expr} (h : PE X ex (t1 Z W (ev C.B Φ e))) (t : tval ex = true) : Both Z W Φ X C e ex := ⟨h, zt_val h fun whole => tval_ok t X.env whole⟩
theorem pe_boolop1 {op : BoolOp} {a : Expr} {ta : TE} {pos : Pos} (h : PE X a ta) : PE X (.BoolOp op [a] pos) ta := ⟨fun pins s σ H Q I q => by
  have e : eval (.BoolOp op [a] pos) X.env = eval a X.env := by first | rfl | (cases op <;> rfl)
  rw [e]
  exact h.run pins s σ H Q I q⟩
theorem tail_pe {op : BoolOp} {y : Expr} {rest : List Expr} {pos : Pos} {t : TE} (h : PE X (tailB op y rest pos) t) : PE X (.BoolOp op (y :: rest) pos) t := by
  cases rest with
  | nil => exact pe_boolop1 h
  | cons z rest => exact h
theorem tail_pw {op : BoolOp} {y : Expr} {rest : List Expr} {pos : Pos} {t : TT} (h : PT X (tailB op y rest pos) t) : PW X (.BoolOp op (y :: rest) pos) t := by
  cases rest with
  | nil => cases op with
    | And => exact pw_and1 h
    | Or => exact pw_or1 h
  | cons z rest => exact ⟨fun wh pins s σ H Q I q => h.run pins s σ H Q I q⟩
theorem pt_ite {c a b : Expr} {tc ta tb : TT} {pos : Pos} (hc : PT X c tc) (ha : PT X a ta) (hb : PT X b tb) : PT X (.IfExp c a b pos) (fun σ H Q => tc σ H fun k H1 => if k = true then ta σ H1 Q else tb σ H1 Q) := by
  refine ⟨fun pins s σ H Q I h => ?_⟩
  refine PyProof.Rows.isTrue_IfExp (thn (hc.run pins s σ H _ I h) fun d s1 ⟨H1, I1, q1⟩ => ?_)
  cases d with
  | true => exact ha.run pins s1 σ H1 Q I1 q1
  | false => exact hb.run pins s1 σ H1 Q I1 q1
theorem zt_ite {a b c : E} {ea eb ec : Expr} {pos : Pos} (hc : PT X ec (tT Z W (ev C.B Φ c))) (ha : PT X ea (tT Z W (ev C.B Φ a))) (hb : PT X eb (tT Z W (ev C.B Φ b))) : PT X (.IfExp ec ea eb pos) (tT Z W (ev C.B Φ (.ite c a b))) :=
  PT.weak (pt_ite hc ha hb) fun σ H Q ⟨ρ, F, I, h⟩ => ⟨ρ, F, I, EQs.test h I (EvO.ev c ρ) fun k ρ1 H1 F1 p q => by
    cases k with
    | false => exact ⟨ρ1, F1, p.rs, EQs.later q p⟩
    | true => exact ⟨ρ1, F1, p.rs, EQs.later q p⟩⟩
theorem litMA_ok {B : Tb} : ∀ {as : E} {es : List Expr}, litMA as es = true → (∃ ds, litA as = some ds) ∧ PA X es (tA Z W (ev B Φ as))
  | .nil, [], _ => ⟨⟨[], rfl⟩, za_nil⟩
  | .cons (.con d) as, .Constant c kk kp :: es, h => by
    simp only [litMA, Bool.and_eq_true] at h
    obtain ⟨⟨ds, h1⟩, h2⟩ := litMA_ok h.2
    obtain ⟨a1, a2⟩ := con_ok (X := X) (j := kk) (pos := kp) h.1
    exact ⟨⟨d :: ds, by show (litA as).map (d :: ·) = _; rw [h1]; rfl⟩, za_cons (ze_con a1 a2) h2 rfl⟩
theorem litM_ok {B : Tb} {a : E} {e : Expr} (h : litM a e = true) : ∃ d, litE a = some d ∧ PE X e (t1 Z W (ev B Φ a)) := by
  unfold litM at h
  split at h
  · obtain ⟨a1, a2⟩ := con_ok (X := X) (j := _) (pos := _) h
    exact ⟨_, rfl, ze_con a1 a2⟩
  · rename_i as es kk kp
    simp only [Bool.and_eq_true, decide_eq_true_eq] at h
    obtain ⟨⟨ds, h1⟩, h2⟩ := litMA_ok (X := X) (Z := Z) (W := W) (B := B) (Φ := Φ) h.2
    exact ⟨.tup ds, by show (litA as).map D.tup = _; rw [h1]; rfl, ze_tup h2 (fun ρ rs ρ1 e => row_ok h.1.1 (Nat.le_trans h.1.2 (by decide)) ρ rs ρ1 e)⟩
  · cases h
theorem litMs_ok {B : Tb} : ∀ {ks : List (List Nat)} {as : E} {kes : List (Option Expr)} {es : List Expr}, litMs ks as kes es = true → ∃ ds, Lits X Z W B Φ ks as ds kes es
  | ks, as, kes, es, h => by
    unfold litMs at h
    split at h
    · exact ⟨[], .nil⟩
    · simp only [Bool.and_eq_true, beq_iff_eq] at h
      obtain ⟨⟨h1, h2⟩, h3⟩ := h
      obtain ⟨d, d1, d2⟩ := litM_ok (X := X) (Z := Z) (W := W) (B := B) (Φ := Φ) h2
      obtain ⟨ds, d3⟩ := litMs_ok h3
      exact ⟨d :: ds, .cons h1 d2 d1 d3⟩
    · cases h
mutual
theorem mE_ok : ∀ {hot : Bool} {W : WX} {X : Cx} {C : Ct} (_ : Gd Z X C) (_ : hot = false → Gc md Z X C W Φ k) (_ : hot = true → Gh Z X C) (e : E) (ex : Expr), mE C hot e ex = true → Both Z W Φ X C e ex
  | hot, W, X, C, g, gc, gh, .var i, ex, h => by
    simp only [mE] at h
    split at h
    · rename_i x pos
      simp only [Bool.and_eq_true, beq_iff_eq] at h
      obtain ⟨⟨h1, h2⟩, h3⟩ := h
      obtain ⟨n1, n2, _⟩ := isName_ok h3
      exact Both.val (ze_var (by rw [g.hN]; exact h1) (g.vs h2) n1 n2) rfl
    · cases h
  | hot, W, X, C, g, gc, gh, .con d, ex, h => by
    simp only [mE] at h
    split at h
    · obtain ⟨h1, h2⟩ := con_ok (X := X) (j := _) (pos := _) h
      exact Both.val (ze_con h1 h2) rfl
    · cases h
  | hot, W, X, C, g, gc, gh, .glo q, ex, h => by
    simp only [mE] at h
    split at h
    · rename_i x pos
      simp only [Bool.and_eq_true, beq_iff_eq] at h
      obtain ⟨⟨h1, h2⟩, h3⟩ := h
      obtain ⟨n1, n2, _⟩ := isName_ok h3
      obtain ⟨u, v, m, r, rep⟩ := g.glo q x h1
      exact Both.val (ze_glo (pe_glob (g.gl h2) m r n1) rep) rfl
    · cases h
  | hot, W, X, C, g, gc, gh, .frz a, ex, h => by
    simp only [mE, Bool.and_eq_true] at h
    exact Both.val (ze_frz (mE_ok g gc gh a ex h.2).1) h.1
  | hot, W, X, C, g, gc, gh, .bin op a b, ex, h => by
    simp only [mE] at h
    split at h
    · rename_i ea o eb pos
      simp only [Bool.and_eq_true, decide_eq_true_eq] at h
      obtain ⟨⟨h1, h2⟩, h3⟩ := h
      subst h1
      exact Both.val (ze_bin g.hZ (mE_ok g gc gh a ea h2).1 (mE_ok g gc gh b eb h3).1) rfl
    · cases h
  | hot, W, X, C, g, gc, gh, .neg a, ex, h => by
    simp only [mE] at h
    split at h
    · rename_i ea pos
      exact Both.val (ze_neg (mE_ok g gc gh a ea h).1) rfl
    · cases h
  | hot, W, X, C, g, gc, gh, .nt a, ex, h => by
    simp only [mE] at h
    split at h
    · rename_i ea pos
      obtain ⟨h1, h2⟩ := mE_ok g gc gh a ea h
      exact ⟨ze_not h1, zt_not h2⟩
    · cases h
  | hot, W, X, C, g, gc, gh, .cmp op a b, ex, h => by
    simp only [mE] at h
    split at h
    · rename_i ea o eb pos
      simp only [Bool.and_eq_true, decide_eq_true_eq] at h
      obtain ⟨⟨⟨h1, h2⟩, h3⟩, h4⟩ := h
      subst h1
      have ha := (mE_ok g gc gh a ea h3).1
      have hb := (mE_ok g gc gh b eb h4).1
      exact ⟨ze_cmp g.hZ g.hu ha hb (nset_ok h2 _), zt_cmp g.hZ g.hu ha hb (nset_ok h2 _)⟩
    · cases h
  | hot, W, X, C, g, gc, gh, .cmp2 o1 o2 a b c, ex, h => by
    simp only [mE] at h
    split at h
    · rename_i ea p1 p2 eb ec pos
      simp only [Bool.and_eq_true, decide_eq_true_eq] at h
      obtain ⟨⟨⟨⟨⟨h1, h2⟩, h3⟩, h4⟩, h5⟩, h6⟩ := h
      subst h1 h2
      have ha := (mE_ok g gc gh a ea h4).1
      have hb := (mE_ok g gc gh b eb h5).1
      have hc := (mE_ok g gc gh c ec h6).1
      exact ⟨ze_chain g.hZ g.hu ha hb hc (nset_ok h3 _), zt_chain g.hZ g.hu ha hb hc (nset_ok h3 _)⟩
    · cases h
  | hot, W, X, C, g, gc, gh, .and a b, ex, h => by
    simp only [mE] at h
    split at h
    · rename_i x y rest pos
      simp only [Bool.and_eq_true] at h
      obtain ⟨a1, a2⟩ := mE_ok g gc gh a x h.1
      obtain ⟨b1, b2⟩ := mE_ok g gc gh b _ h.2
      exact ⟨ze_and a1 (tail_pe b1), (zw_and a2 (tail_pw b2)).pt⟩
    · cases h
  | hot, W, X, C, g, gc, gh, .or a b, ex, h => by
    simp only [mE] at h
    split at h
    · rename_i x y rest pos
      simp only [Bool.and_eq_true] at h
      obtain ⟨a1, a2⟩ := mE_ok g gc gh a x h.1
      obtain ⟨b1, b2⟩ := mE_ok g gc gh b _ h.2
      exact ⟨ze_or a1 (tail_pe b1), (zw_or a2 (tail_pw b2)).pt⟩
    · cases h
  | hot, W, X, C, g, gc, gh, .ite c a b, ex, h => by
    simp only [mE] at h
    split at h
    · rename_i ec ea eb pos
      simp only [Bool.and_eq_true] at h
      have hc := mE_ok g gc gh c ec h.1.1
      have ha := mE_ok g gc gh a ea h.1.2
      have hb := mE_ok g gc gh b eb h.2
      exact ⟨ze_ite hc.2 ha.1 hb.1, zt_ite hc.2 ha.2 hb.2⟩
    · cases h
  | hot, W, X, C, g, gc, gh, .tup as, ex, h => by
    simp only [mE] at h
    split at h
    · rename_i es j pos
      simp only [Bool.and_eq_true, decide_eq_true_eq] at h
      have ha := (mA_ok g gc gh as es h.2).1
      exact Both.val (ze_tup ha (fun ρ rs ρ1 e => row_ok h.1.1 (Nat.le_trans h.1.2 (by decide)) ρ rs ρ1 e)) rfl
    · cases h
  | hot, W, X, C, g, gc, gh, .lst as, ex, h => by
    simp only [mE] at h
    split at h
    · rename_i es pos
      simp only [Bool.and_eq_true, decide_eq_true_eq] at h
      have ha := (mA_ok g gc gh as es h.2).1
      exact Both.val (ze_lst ha (fun ρ rs ρ1 e => row_ok h.1.1 (Nat.le_trans h.1.2 (by decide)) ρ rs ρ1 e)) rfl
    · cases h
  | hot, W, X, C, g, gc, gh, .idx a b, ex, h => by
    simp only [mE] at h
    split at h
    · rename_i ea eb pos
      simp only [Bool.and_eq_true] at h
      exact Both.val (ze_idx g.hZ (mE_ok g gc gh a ea h.1.2).1 (mE_ok g gc gh b eb h.2).1 (pix_ok h.1.1)) rfl
    · cases h
  | hot, W, X, C, g, gc, gh, .sl a lo hi, ex, h => by
    simp only [mE] at h
    split at h
    · rename_i ea el eh p2 pos
      simp only [Bool.and_eq_true] at h
      obtain ⟨⟨h1, h2⟩, h3⟩ := h
      have hl : PO X el (tO Z W (fun ρ => partI lo.isNil (ev C.B Φ lo ρ) ρ)) := by
        split at h2
        · exact zo_none h2
        · rename_i e
          simp only [Bool.and_eq_true, Bool.not_eq_true'] at h2
          exact zo_some h2.1 (mE_ok g gc gh lo e h2.2).1
      have hh : PO X eh (tO Z W (fun ρ => partI hi.isNil (ev C.B Φ hi ρ) ρ)) := by
        split at h3
        · exact zo_none h3
        · rename_i e
          simp only [Bool.and_eq_true, Bool.not_eq_true'] at h3
          exact zo_some h3.1 (mE_ok g gc gh hi e h3.2).1
      exact Both.val (ze_sl g.hZ (mE_ok g gc gh a ea h1).1 hl hh) rfl
    · cases h
  | hot, W, X, C, g, gc, gh, .rv a, ex, h => by
    simp only [mE] at h
    split at h
    · exact Both.val (ze_revL g.hZ (mE_ok g gc gh a _ h).1) rfl
    · cases h
  | hot, W, X, C, g, gc, gh, .fld a f, ex, h => by
    simp only [mE] at h
    split at h
    · rename_i ea x pos
      simp only [Bool.and_eq_true, beq_iff_eq] at h
      obtain ⟨⟨h1, h2⟩, h3⟩ := h
      have e := g.fN f x h1
      subst e
      exact Both.val (ze_fld g.hB g.fnd (fun c hc => g.fld f c hc) (mE_ok g gc gh a ea h3).1 (abase_ok h2 _ _ _)) rfl
    · cases h
  | hot, W, X, C, g, gc, gh, .call q as, ex, h => by
    simp only [mE] at h
    split at h
    · rename_i x p es pos
      simp only [Bool.and_eq_true, beq_iff_eq, Bool.not_eq_true'] at h
      obtain ⟨⟨⟨⟨⟨h1, hsq⟩, h2⟩, h3⟩, h4⟩, h5⟩ := h
      have c := gc h1
      obtain ⟨f, m, fk⟩ := c.fns q x h2 hsq
      obtain ⟨n1, _, _⟩ := isName_ok h4
      obtain ⟨ha, hs, _⟩ := mA_ok g gc gh as es h5
      cases es with
      | nil =>
        cases as with
        | nil => exact Both.val (ze_call0 fk (c.rm.mono (Nat.le_succ k)) c.tk (g.gl h3) m n1) rfl
        | _ => cases h5
      | cons e es =>
        rw [List.all_cons, Bool.and_eq_true] at hs
        exact Both.val (ze_call fk (c.rm.mono (Nat.le_succ k)) c.tk (g.gl h3) m ha n1 (nstar_ok hs.1 _ _) (nstar_back hs.2 _ _)) rfl
    · cases h
  | hot, W, X, C, g, gc, gh, .mcal m o as, ex, h => by
    simp only [mE] at h
    split at h
    · rename_i eo x apos es pos
      simp only [Bool.and_eq_true, beq_iff_eq, Bool.not_eq_true', decide_eq_true_eq] at h
      obtain ⟨⟨⟨⟨⟨⟨h1, h2⟩, h3⟩, h4⟩, h5⟩, h6⟩, h7⟩ := h
      have c := gc h1
      obtain ⟨ha, hs, _⟩ := mA_ok g gc gh as es h7
      have ho := (mE_ok g gc gh o eo h6).1
      have ht := fun (es : List Expr) (hs : es.all nstar = true) (h4 : es.length < 30) => mcall_ok (env := X.env) (m := x) (pos := pos) h3 hs h4 (by rw [beq_iff_eq]; exact h5)
      cases es with
      | nil =>
        cases as with
        | nil => exact Both.val (ze_mcal0 (c.rm.mono (Nat.le_succ k)) c.tk (c.mth m x h2) ho (ht [] rfl (by decide))) rfl
        | _ => cases h7
      | cons e es =>
        have hs2 := hs
        rw [List.all_cons, Bool.and_eq_true] at hs2
        exact Both.val (ze_mcal (c.rm.mono (Nat.le_succ k)) c.tk (c.mth m x h2) ho ha (nstar_ok hs2.1 _ _) (nstar_back hs2.2 _ _) (ht (e :: es) hs h4)) rfl
    · cases h
  | hot, W, X, C, g, gc, gh, .make c as, ex, h => by
    simp only [mE] at h
    split at h
    · rename_i x p es pos
      simp only [Bool.and_eq_true, beq_iff_eq, Bool.not_eq_true', Bool.or_eq_true] at h
      obtain ⟨⟨⟨⟨⟨⟨⟨h1, h2⟩, h3⟩, h4⟩, h5⟩, hsq⟩, h6⟩, h7⟩ := h
      have cc := gc h1
      obtain ⟨n1, _, _⟩ := isName_ok h4
      obtain ⟨ha, hs, _⟩ := mA_ok g gc gh as es h7
      cases hi : (C.B.cls c).init with
      | none =>
        rw [hi] at h6
        rcases h6 with h6 | ⟨h6, h8⟩
        · cases h6
        · cases as with
          | nil =>
            cases es with
            | nil => exact Both.val (ze_make_no (cc.mk0 c h5 hi) (g.gl h3) (g.cls c x h2) n1 hi g.hB (by simpa using h6)) rfl
            | cons _ _ => cases h7
          | _ => cases h8
      | some q =>
        rw [hi] at hsq
        obtain ⟨f, ik⟩ := cc.ini c q h5 hi hsq
        cases es with
        | nil =>
          cases as with
          | nil => exact Both.val (ze_make0 g.hB hi ik cc.rm cc.tk (g.gl h3) (g.cls c x h2) n1) rfl
          | _ => cases h7
        | cons e es =>
          rw [List.all_cons, Bool.and_eq_true] at hs
          exact Both.val (ze_make g.hB hi ik cc.rm cc.tk (g.gl h3) (g.cls c x h2) ha n1 (nstar_ok hs.1 _ _) (nstar_back hs.2 _ _)) rfl
    · cases h
  | hot, W, X, C, g, gc, gh, .b1 b a, ex, h => by
    simp only [mE] at h
    split at h
    · rename_i x p ea pos
      simp only [Bool.and_eq_true, beq_iff_eq] at h
      obtain ⟨⟨⟨⟨hco, h1⟩, h2⟩, h3⟩, h4⟩ := h
      subst h1
      exact Both.val (ze_b1 g.hZ (fun z => by
        cases hot with
        | true => rw [z] at hco; cases hco
        | false => exact (gc rfl).cm) (g.gl h2) (g.bt _ (by cases b <;> decide +kernel)) (mE_ok g gc gh a ea h4).1 (nstar_ok h3 _ _)) rfl
    · cases h
  | hot, W, X, C, g, gc, gh, .b2 b a1 a2, ex, h => by
    simp only [mE] at h
    split at h
    · rename_i x p ea eb pos
      simp only [Bool.and_eq_true, beq_iff_eq, Bool.not_eq_true'] at h
      obtain ⟨⟨⟨⟨⟨⟨h0, h1⟩, h2⟩, h3⟩, h4⟩, h5⟩, h6⟩ := h
      subst h1
      exact Both.val (ze_b2 (gc h0).cm (g.gl h2) (g.bt _ (by cases b <;> decide +kernel)) (mE_ok g gc gh a1 ea h5).1 (mE_ok g gc gh a2 eb h6).1 (nstar_ok h3 _ _) (nstar_ok h4 _ _)) rfl
    · cases h
  | hot, W, X, C, g, gc, gh, .isi a t, ex, h => by
    simp only [mE] at h
    split at h
    · rename_i x p ea y p2 pos
      simp only [Bool.and_eq_true, beq_iff_eq] at h
      obtain ⟨⟨⟨⟨⟨⟨h1, h2⟩, h3⟩, h4⟩, h5⟩, h6⟩, h7⟩ := h
      subst h1
      obtain ⟨n1, _, n2⟩ := isName_ok h4
      have hT : ∃ v u, TyVal Z X.K t v u ∧ PE X (.Name y p2) (tC v) := by
        cases t with
        | cls c =>
          simp only [tyM, Bool.and_eq_true, beq_iff_eq] at h5
          refine ⟨_, _, ⟨rfl, rfl, fun d hd => ?_⟩, pe_glob (g.gl h3) (g.cls c y h5.1) rfl n1⟩
          rw [g.hB] at hd ⊢
          exact ⟨g.ins d hd, g.kit d c hd h5.2⟩
        | int =>
          simp only [tyM, beq_iff_eq] at h5
          subst h5
          exact ⟨_, _, ⟨rfl, rfl⟩, pe_bltn (g.gl h3) (g.bt _ (by decide +kernel)) (by decide +kernel) rfl n2 n1⟩
        | bool =>
          simp only [tyM, beq_iff_eq] at h5
          subst h5
          exact ⟨_, _, ⟨rfl, rfl⟩, pe_bltn (g.gl h3) (g.bt _ (by decide +kernel)) (by decide +kernel) rfl n2 n1⟩
        | str =>
          simp only [tyM, beq_iff_eq] at h5
          subst h5
          exact ⟨_, _, ⟨rfl, rfl⟩, pe_bltn (g.gl h3) (g.bt _ (by decide +kernel)) (by decide +kernel) rfl n2 n1⟩
        | tup =>
          simp only [tyM, beq_iff_eq] at h5
          subst h5
          exact ⟨_, _, ⟨rfl, rfl⟩, pe_bltn (g.gl h3) (g.bt _ (by decide +kernel)) (by decide +kernel) rfl n2 n1⟩
        | lst =>
          simp only [tyM, beq_iff_eq] at h5
          subst h5
          exact ⟨_, _, ⟨rfl, rfl⟩, pe_bltn (g.gl h3) (g.bt _ (by decide +kernel)) (by decide +kernel) rfl n2 n1⟩
      obtain ⟨v, u, hv, hp⟩ := hT
      exact Both.val (ze_isi g.hZ g.hB (g.gl h2) (g.bt _ (by decide +kernel)) hv hp (mE_ok g gc gh a ea h7).1 (nstar_ok h6 _ _) (nstar_ok rfl _ _)) rfl
    · cases h
  | hot, W, X, C, g, gc, gh, .isx i c, ex, h => by
    simp only [mE] at h
    split at h
    · rename_i x p n p1 y p2 pos
      simp only [Bool.and_eq_true, beq_iff_eq, Bool.or_eq_true] at h
      obtain ⟨⟨⟨⟨⟨⟨⟨⟨h1, h2⟩, h3⟩, h4⟩, h5⟩, h6⟩, h7⟩, h8⟩, h9⟩ := h
      subst h2
      obtain ⟨n1, n2, _⟩ := isName_ok h6
      obtain ⟨m1, _, m3⟩ := isName_ok h8
      obtain ⟨X', a, oe, d, pn, rfl, hxa, hz, hv, hE, hk1, hk2⟩ := (gh h1).ex
      have hT : ∃ v u, PE (X'.suite a ((a, oe) :: pn)) (.Name y p2) (tC v) ∧ (∀ w, RelV v w → w = u) ∧ PySem.W.kitOne X'.K (.ref (Z.cA d)) u = some (C.B.sub d c) := by
        rcases h9 with ⟨q1, q2⟩ | ⟨q1, q2⟩
        · exact ⟨_, _, pe_glob (v := .ref (Z.cA c)) (g.gl h7) (g.cls c y q1) rfl m1, fun w r => r, hk1 c q2⟩
        · subst q2
          rw [q1]
          exact ⟨_, _, pe_bltn (v := .ty "ValueError") (g.gl h7) (g.bt _ (by decide +kernel)) (by decide +kernel) rfl m3 m1, fun w r => r, hk2⟩
      obtain ⟨v, u, hp, hcl, hk⟩ := hT
      exact Both.val (ze_isx (X := X') hxa hz hv hE (g.gl h3) (g.bt _ (by decide +kernel)) (by have := g.hN; exact (congrArg (fun l => l[i]?) this).trans h4) (g.vs h5) n1 n2 hp hcl hk (nstar_ok rfl _ _) (nstar_ok rfl _ _)) rfl
    · cases h
  | hot, W, X, C, g, gc, gh, .bm m o as, ex, h => by
    simp only [mE] at h
    split at h
    · rename_i eo y apos es pos
      simp only [Bool.and_eq_true, beq_iff_eq, decide_eq_true_eq] at h
      obtain ⟨⟨⟨⟨⟨h1, h2⟩, h3⟩, h4⟩, h5⟩, h6⟩ := h
      subst h1
      obtain ⟨ha, hs, _⟩ := mA_ok g gc gh as es h6
      have ho := (mE_ok g gc gh o eo h5).1
      cases es with
      | nil =>
        cases as with
        | nil => exact Both.val (ze_bm0 g.hZ ho (abase2_ok h2 _ _ _) (by rw [beq_iff_eq]; exact h3)) rfl
        | _ => cases h6
      | cons e es =>
        have hs2 := hs
        rw [List.all_cons, Bool.and_eq_true] at hs2
        exact Both.val (ze_bm g.hZ ho (abase2_ok h2 _ _ _) ha (few_ok hs h4 _ _) (by rw [beq_iff_eq]; exact h3) (nstar_ok hs2.1 _ _) (nstar_back hs2.2 _ _)) rfl
    · cases h
  | hot, W, X, C, g, gc, gh, .mut m i as, ex, h => by
    simp only [mE] at h
    split at h
    · rename_i x p y apos es pos
      simp only [Bool.and_eq_true, beq_iff_eq, decide_eq_true_eq] at h
      obtain ⟨⟨⟨⟨⟨⟨h1, h2⟩, h3⟩, h4⟩, h5⟩, h6⟩, h7⟩ := h
      subst h1
      obtain ⟨n1, n2, _⟩ := isName_ok h4
      obtain ⟨ha, hs, _⟩ := mA_ok g gc gh as es h7
      cases es with
      | nil =>
        cases as with
        | nil => exact Both.val (ze_mut0 g.hZ (by rw [g.hN]; exact h2) (g.vs h3) n1 n2 (by rw [beq_iff_eq]; exact h5)) rfl
        | _ => cases h7
      | cons e es =>
        have hs2 := hs
        rw [List.all_cons, Bool.and_eq_true] at hs2
        exact Both.val (ze_mut g.hZ (by rw [g.hN]; exact h2) (g.vs h3) n1 n2 ha (few_ok hs h6 _ _) (by rw [beq_iff_eq]; exact h5) (nstar_ok hs2.1 _ _) (nstar_back hs2.2 _ _)) rfl
    · cases h
  | hot, W, X, C, g, gc, gh, .comp kd as t own elt cnd, ex, h => by
    simp only [mE] at h
    split at h
    · rename_i ee tg iter ifs scope pos
      simp only [Bool.and_eq_true, Bool.not_eq_true'] at h
      obtain ⟨⟨⟨⟨⟨⟨h0, h1⟩, h2⟩, h3⟩, h4⟩, h5⟩, h6⟩ := h
      have c := gc h0
      split at h2
      · rename_i es he
        obtain ⟨ha, hs, h7⟩ := mA_ok (hot := false) g (fun _ => c) (fun z => by cases z) as es h2
        obtain ⟨bo, eo⟩ := compB_ok g h3
        have z := ze_comp (W := W) (Z := Z) (B := C.B) (Φ := Φ) (elt := elt) (cnd := cnd) (ee := ee) (ifs := ifs) (pos := pos) c.cm (by rw [g.hN]; exact g.nd) (itA_ok g he h2 ha hs h7) (tgG_ok g.hZ t) bo
          (fun s H a cl fp => mG_ok (g.blk h3 s H a cl fp) c.cm t tg h4)
          (fun s H a cl fp => by
            unfold tTst
            split at h6
            · rw [if_pos h6]; exact pts_nil
            · rename_i ec
              simp only [Bool.and_eq_true, Bool.not_eq_true'] at h6
              rw [if_neg (by rw [h6.1]; exact Bool.false_ne_true)]
              exact pts_one (mE_ok (hot := false) (g.blk h3 s H a cl fp) (fun _ => c.blk s H a cl fp) (fun z => by cases z) cnd ec h6.2).2
            · cases h6)
          (fun s H a cl fp => (mE_ok (hot := false) (g.blk h3 s H a cl fp) (fun _ => c.blk s H a cl fp) (fun z => by cases z) elt ee h5).1)
          (fun x => nset_fold h1 _ _)
        rw [eo] at z
        exact Both.val z rfl
      · cases h2
    · cases h
  | hot, W, X, C, g, gc, gh, .dnew, ex, h => by
    simp only [mE] at h
    split at h
    · exact Both.val ze_dnew rfl
    · cases h
  | hot, W, X, C, g, gc, gh, .dix ks as x, ex, h => by
    simp only [mE] at h
    split at h
    · rename_i kes es pd eb pos
      simp only [Bool.and_eq_true, decide_eq_true_eq] at h
      obtain ⟨⟨⟨⟨⟨h1, h2⟩, h3⟩, h4⟩, h5⟩, h6⟩ := h
      obtain ⟨ds, hd⟩ := litMs_ok (X := X) (Z := Z) (W := W) (B := C.B) (Φ := Φ) h5
      exact Both.val (ze_dix g.hu hd h2 h3 h4 (mE_ok g gc gh x eb h6).1 (pix_ok h1)) rfl
    · cases h
  | hot, W, X, C, g, gc, gh, .tix ts a, ex, h => by
    simp only [mE] at h
    split at h
    · rename_i es kk tp y apos ea pos
      simp only [Bool.and_eq_true, beq_iff_eq, decide_eq_true_eq] at h
      obtain ⟨⟨⟨⟨⟨h1, h2⟩, h3⟩, h4⟩, h5⟩, h6⟩ := h
      subst h1
      exact Both.val (ze_tix g.hZ h2 h3 (mE_ok g gc gh a ea h6).1 (nstar_ok h4 _ _) (by rw [beq_iff_eq]; exact h5)) rfl
    · cases h
  | hot, W, X, C, g, gc, gh, .lset a, ex, h => by
    simp only [mE] at h
    split at h
    · rename_i x p y p2 ea q pos
      simp only [Bool.and_eq_true, beq_iff_eq, Bool.not_eq_true'] at h
      obtain ⟨⟨⟨⟨⟨⟨h0, h1⟩, h2⟩, h3⟩, h4⟩, h5⟩, h6⟩ := h
      subst h0 h1 h2
      exact Both.val (ze_lset (gc rfl).cm (g.gl h3) (g.bt _ (by decide +kernel)) (g.gl h4) (g.bt _ (by decide +kernel)) (mE_ok g gc gh a ea h6).1 (nstar_ok h5 _ _)) rfl
    · cases h
  | hot, W, X, C, g, gc, gh, .nil, ex, h => by cases h
  | hot, W, X, C, g, gc, gh, .cons _ _, ex, h => by cases h
theorem mA_ok : ∀ {hot : Bool} {W : WX} {X : Cx} {C : Ct} (_ : Gd Z X C) (_ : hot = false → Gc md Z X C W Φ k) (_ : hot = true → Gh Z X C) (e : E) (es : List Expr), mA C hot e es = true → PA X es (tA Z W (ev C.B Φ e)) ∧ es.all nstar = true ∧ (∀ a, e = .cons a .nil → ∀ e1, es = [e1] → PE X e1 (t1 Z W (ev C.B Φ a)))
  | hot, W, X, C, g, gc, gh, .nil, es, h => by
    cases es with
    | nil => exact ⟨za_nil, rfl, fun a e => by cases e⟩
    | cons _ _ => cases h
  | hot, W, X, C, g, gc, gh, .cons a as, es, h => by
    simp only [mA] at h
    split at h
    · rename_i e es
      simp only [Bool.and_eq_true] at h
      obtain ⟨h1, h2, _⟩ := mA_ok g gc gh as es h.2
      have q := (mE_ok g gc gh a e h.1.2).1
      exact ⟨za_cons q h1 (nstar_ok h.1.1 _ _), by rw [List.all_cons, h.1.1, h2]; rfl, fun a' ea e1 ee => by cases ea; cases ee; exact q⟩
    · cases h
  | hot, W, X, C, g, gc, gh, .var _, es, h => by cases h
  | hot, W, X, C, g, gc, gh, .con _, es, h => by cases h
  | hot, W, X, C, g, gc, gh, .glo _, es, h => by cases h
  | hot, W, X, C, g, gc, gh, .frz _, es, h => by cases h
  | hot, W, X, C, g, gc, gh, .bin _ _ _, es, h => by cases h
  | hot, W, X, C, g, gc, gh, .neg _, es, h => by cases h
  | hot, W, X, C, g, gc, gh, .nt _, es, h => by cases h
  | hot, W, X, C, g, gc, gh, .cmp _ _ _, es, h => by cases h
  | hot, W, X, C, g, gc, gh, .cmp2 _ _ _ _ _, es, h => by cases h
  | hot, W, X, C, g, gc, gh, .and _ _, es, h => by cases h
  | hot, W, X, C, g, gc, gh, .or _ _, es, h => by cases h
  | hot, W, X, C, g, gc, gh, .ite _ _ _, es, h => by cases h
  | hot, W, X, C, g, gc, gh, .tup _, es, h => by cases h
  | hot, W, X, C, g, gc, gh, .lst _, es, h => by cases h
  | hot, W, X, C, g, gc, gh, .idx _ _, es, h => by cases h
  | hot, W, X, C, g, gc, gh, .sl _ _ _, es, h => by cases h
  | hot, W, X, C, g, gc, gh, .rv _, es, h => by cases h
  | hot, W, X, C, g, gc, gh, .fld _ _, es, h => by cases h
  | hot, W, X, C, g, gc, gh, .call _ _, es, h => by cases h
  | hot, W, X, C, g, gc, gh, .mcal _ _ _, es, h => by cases h
  | hot, W, X, C, g, gc, gh, .make _ _, es, h => by cases h
  | hot, W, X, C, g, gc, gh, .b1 _ _, es, h => by cases h
  | hot, W, X, C, g, gc, gh, .b2 _ _ _, es, h => by cases h
  | hot, W, X, C, g, gc, gh, .isi _ _, es, h => by cases h
  | hot, W, X, C, g, gc, gh, .isx _ _, es, h => by cases h
  | hot, W, X, C, g, gc, gh, .bm _ _ _, es, h => by cases h
  | hot, W, X, C, g, gc, gh, .mut _ _ _, es, h => by cases h
  | hot, W, X, C, g, gc, gh, .comp _ _ _ _ _ _, es, h => by cases h
end
end
end Z

/-! the text against the interpreter's form: statements -/
namespace Z
open PySem L2
/-- a comprehension's value, stored at once -/
def isCo : E → Bool
  | .comp _ _ _ _ _ _ => true
  | _ => false
def swB (C : Ct) (x : Str) (p : Pos) : Expr → Bool
  | .ListComp _ [⟨_, _, _, 0⟩] scope pos => decide (C.sc.lookup x = some .local) && (p.line == pos.line) && !(scope.names.any fun (n, k) => n == x && (k == .local || k == .cell))
  | _ => false
mutual
def mS (C : Ct) (hot : Bool) : S → Stmt → Bool
  | .skip, st => (match st with
    | .Pass _ => true
    | _ => false)
  | .seq _ _, _ => false
  | .set i e, st => (match st with
    | .Assign [.Name x p] ee _ => C.N[i]? == some x && C.loc x && (ncomp ee || (isCo e && swB C x p ee)) && mE C hot e ee
    | _ => false)
  | .par i j a b, st => (match st with
    | .Assign [.Tuple [.Name x px, .Name y py] _ _] (.Tuple [ea, eb] _ _) _ => !hot && C.N[i]? == some x && C.N[j]? == some y && !(i == j) && decide (C.sc.lookup x = some .local) && decide (C.sc.lookup y = some .local) && (px.line == py.line) && !(x == y) &&
        nstar ea && nstar eb && !([ea, eb].all (foldedForSure 8)) && !([ea, eb].all (constantsAlone 8)) && mA C hot (.cons a (.cons b .nil)) [ea, eb]
    | _ => false)
  | .unp t e, st => (match st with
    | .Assign [.Tuple es j p] ee _ => !hot && mG C (.tup t) (.Tuple es j p) && ntl ee && ncomp ee && mE C hot e ee
    | _ => false)
  | .seti i ix e, st => (match st with
    | .Assign [.Subscript (.Name x _) exi _] ee _ => C.N[i]? == some x && C.vis x && isName x && pix exi && ncomp ee && mE C hot ix exi && mE C hot e ee
    | _ => false)
  | .setf f e, st => (match st with
    | .Assign [.Attribute (.Name x _) y _] ee _ => C.fl[f]? == some y && C.N[0]? == some x && C.vis x && isName x && ncomp ee && mE C hot e ee
    | _ => false)
  | .aug i op e, st => (match st with
    | .AugAssign (.Name x _) o ee _ => C.N[i]? == some x && C.loc x && decide (o = bop op) && (decide (op = .add) || decide (op = .sub)) && mE C hot e ee
    | _ => false)
  | .ex e, st => (match st with
    | .Expr ee _ => ncomp ee && mE C hot e ee
    | _ => false)
  | .ite c a b, st => (match st with
    | .If ec as bs _ => mE C hot c ec && mB C hot a as && mB C hot b bs
    | _ => false)
  | .whl c b, st => (match st with
    | .While ec bs [] _ => !hot && mE C hot c ec && mB C hot b bs
    | _ => false)
  | .loop k as t b, st => (match st with
    | .For tg iter body [] _ => !hot && nset iter && (match itA C k tg iter with
      | some es => mA C false as es
      | none => false) && mG C t tg && mB C hot b body
    | _ => false)
  | .ret e, st => (match st with
    | .Return (some ee) _ => mE C hot e ee
    | _ => false)
  | .retn, st => (match st with
    | .Return none _ => true
    | _ => false)
  | .rai c, st => (match st with
    | .Raise (some (.Call (.Name x _) [.Constant (.str _) _ _] [] _)) none _ => !hot && C.cn[c]? == some x && C.B.exn c && C.glb x && isName x
    | _ => false)
  | .try b c i s, st => (match st with
    | .Try body [.ExceptHandler (some (.Name x _)) (some n) (b0 :: suite) _] [] [] _ => !hot && !C.nt && C.cn[c]? == some x && C.B.exn c && C.glb x && isName x && C.N[i]? == some n && decide (C.sc.lookup n = some .local) && mB C.in_ false b body && mB C true s (b0 :: suite)
    | _ => false)
  | .tryo b c s, st => (match st with
    | .Try body [.ExceptHandler (some (.Name x _)) none [.Raise (some (.Call (.Name y _) [.Constant (.str _) _ _] [] _)) none _] _] [] [] _ => (match s with
      | .seq (.rai e) .skip => !hot && !C.nt && C.cn[c]? == some x && C.B.exn c && C.glb x && isName x && C.cn[e]? == some y && C.B.exn e && C.glb y && isName y && mB C.str false b body
      | _ => false)
    | _ => false)
  | .cont, st => (match st with
    | .Continue _ => true
    | _ => false)
  | .brk, st => (match st with
    | .Break _ => true
    | _ => false)
def mB (C : Ct) (hot : Bool) : S → List Stmt → Bool
  | .skip, l => l.isEmpty
  | .seq a b, l => (match l with
    | st :: rest => mS C hot a st && mB C hot b rest
    | [] => false)
  | _, _ => false
end
section
variable {Z : Cd} {W : WX} {Φ : CallF} {X : Cx} {C : Ct} {k : Nat} {hot md : Bool}
theorem Gd.tr (g : Gd Z X C) (pn : List (Addr × Obj)) (xe : Value → Shared → Prop) : Gd Z (X.tr pn xe) C := ⟨g.hZ, g.hB, g.hN, g.nd, g.gl_, g.vs_, g.lo_, g.lc_, g.fr_, g.ki, g.hu, g.fN, g.fnd, g.fsm, g.bt, g.cls, g.fld, g.ins, g.kit, g.glo⟩
theorem FK.tr {q : Nat} {f : Addr} (h : FK md Z X k Φ q f) (pn : List (Addr × Obj)) (xe : Value → Shared → Prop) : FK md Z (X.tr pn xe) k Φ q f := ⟨h.ok, h.kp⟩
theorem Gd.str (g : Gd Z X C) : Gd Z X C.str := ⟨g.hZ, g.hB, g.hN, g.nd, g.gl_, g.vs_, g.lo_, g.lc_, g.fr_, g.ki, g.hu, g.fN, g.fnd, g.fsm, g.bt, g.cls, g.fld, g.ins, g.kit, g.glo⟩
theorem Gd.in_ (g : Gd Z X C) : Gd Z X C.in_ := ⟨g.hZ, g.hB, g.hN, g.nd, g.gl_, g.vs_, g.lo_, g.lc_, g.fr_, g.ki, g.hu, g.fN, g.fnd, g.fsm, g.bt, g.cls, g.fld, g.ins, g.kit, g.glo⟩
/-- within a try that names its exception -/
theorem Gs.trN (g : Gs md Z X C W Φ k) (pn : List (Addr × Obj)) (xe : Value → Shared → Prop) {W' : WX} (tk : TakesM md (X.tr pn xe) W') (ow : PassesOwn (model X.prog X.w) X.A X.env xe) : Gs md Z (X.tr pn xe) C.in_ W' Φ k where
  cm := g.cm
  tk := tk
  rm := g.rm
  ow := ow
  nmd := fun _ => rfl
  owa := fun h => by cases h
  sfn := fun q x h h2 => let ⟨f, m, fk⟩ := g.sfn q x h h2; ⟨f, m, fk.tr pn xe⟩
  sin := fun c q h1 h2 h3 => let ⟨f, y⟩ := g.sin c q h1 h2 h3; ⟨f, y.km, y.fk.tr pn xe⟩
  fns := fun q x h h2 => let ⟨f, m, fk⟩ := g.fns q x h h2; ⟨f, m, fk.tr pn xe⟩
  mth := fun m x h c q hq => let ⟨f, y⟩ := g.mth m x h c q hq; ⟨f, y.cl, y.me, y.fk.tr pn xe, y.no⟩
  mk0 := g.mk0
  ini := fun c q h1 h2 h3 => let ⟨f, y⟩ := g.ini c q h1 h2 h3; ⟨f, y.km, y.fk.tr pn xe⟩
  exc := fun c h => let z := g.exc c h; ⟨z.ok, z.kp, z.ra⟩
  stk := g.stk
  frm := g.frm
  xa := g.xa
  exm := g.exm
  xcc := g.xcc
/-- .. that doesn't -/
theorem Gs.trS (g : Gs md Z X C W Φ k) (pn : List (Addr × Obj)) (xe : Value → Shared → Prop) {W' : WX} (tk : L2N.Takes (X.tr pn xe) W') (ow : PassesOwn (model X.prog X.w) X.A X.env xe) : Gs true Z (X.tr pn xe) C.str W' Φ k where
  cm := g.cm
  tk := tk
  rm := g.rm
  ow := ow
  nmd := fun _ => rfl
  owa := fun h => by cases h
  sfn := fun q x h h2 => let ⟨f, m, fk⟩ := g.sfn q x h h2; ⟨f, m, fk.tr pn xe⟩
  sin := fun c q h1 h2 h3 => let ⟨f, y⟩ := g.sin c q h1 h2 h3; ⟨f, y.km, y.fk.tr pn xe⟩
  fns := fun q x h h2 => let ⟨f, m, fk⟩ := g.sfn q x h h2; ⟨f, m, fk.tr pn xe⟩
  mth := fun m x h => by cases m <;> cases h
  mk0 := g.mk0
  ini := fun c q h1 h2 h3 => let ⟨f, y⟩ := g.sin c q h1 h2 h3; ⟨f, y.km, y.fk.tr pn xe⟩
  exc := fun c h => let z := g.exc c h; ⟨z.ok, z.kp, z.ra⟩
  stk := g.stk
  frm := g.frm
  xa := g.xa
  exm := g.exm
  xcc := g.xcc
theorem mark_units (A : Around) (v : Option Value) : (A.mark v).units = A.units := rfl
theorem Gd.suite (g : Gd Z X C) (a : Addr) (pn : List (Addr × Obj)) (e : Option (Addr × Nat)) : Gd (Z.wx e) (X.suite a pn) C := ⟨g.hZ, g.hB, g.hN, g.nd, g.gl_, g.vs_, g.lo_, g.lc_, g.fr_, g.ki, g.hu, g.fN, g.fnd, g.fsm, g.bt, g.cls, g.fld, g.ins, g.kit, fun q x h => let ⟨u, v, m, r, z⟩ := g.glo q x h; ⟨u, v, m, r, fun F H => (Rep.wx _ _).mpr (z F H)⟩⟩
mutual
theorem mS_ok : ∀ {C : Ct} {md : Bool} (s : S) (hot : Bool) (Z : Cd) (W : WX) (X : Cx) (st : Stmt), Gd Z X C → (hot = false → Gs md Z X C W Φ k) → (hot = true → Gh Z X C) → mS C hot s st = true → PS X st (tS Z W (exe C.B Φ s))
  | C, md, .skip, hot, Z, W, X, st, g, gc, gh, h => by
    simp only [mS] at h
    split at h
    · exact zs_pass
    · cases h
  | C, md, .seq _ _, hot, Z, W, X, st, g, gc, gh, h => by cases h
  | C, md, .set i e, hot, Z, W, X, st, g, gc, gh, h => by
    simp only [mS] at h
    split at h
    · rename_i x p ee pos
      simp only [Bool.and_eq_true, beq_iff_eq] at h
      obtain ⟨⟨⟨h1, h2⟩, h3⟩, h4⟩ := h
      rw [Bool.or_eq_true] at h3
      rcases h3 with h3 | h3
      · exact zs_set (by rw [g.hN]; exact g.nd) (by rw [g.hN]; exact h1) (g.lo h2) (mE_ok g (fun z => (gc z).toGc) gh e ee h4).1 (ncomp_ok h3 _ _ _) (g.fv h2)
      · rw [Bool.and_eq_true] at h3
        obtain ⟨hco, h3⟩ := h3
        unfold swB at h3
        split at h3
        · rename_i ee tg iter ifs scope pos'
          simp only [Bool.and_eq_true, decide_eq_true_eq, Bool.not_eq_true'] at h3
          obtain ⟨⟨l1, l2⟩, l3⟩ := h3
          cases e with
          | comp kd as t own elt cnd =>
            simp only [mE] at h4
            simp only [Bool.and_eq_true, Bool.not_eq_true'] at h4
            obtain ⟨⟨⟨⟨⟨⟨h0, h1'⟩, h2'⟩, h3'⟩, h4'⟩, h5⟩, h6⟩ := h4
            have c := gc h0
            split at h2'
            · rename_i es he
              obtain ⟨ha, hs, h7⟩ := mA_ok (hot := false) g (fun _ => c.toGc) (fun z => by cases z) as es h2'
              obtain ⟨bo, eo⟩ := compB_ok g h3'
              have z := zs_setComp (W := W) (Z := Z) (B := C.B) (Φ := Φ) (elt := elt) (cnd := cnd) (ee := ee) (ifs := ifs) (pos := pos') (spos := pos) (py := p) c.cm (by rw [g.hN]; exact g.nd) (by rw [g.hN]; exact h1) (g.lc_ _ l1) (sw_true g.ki (g.lc_ _ l1) l2 l3) (itA_ok g he h2' ha hs h7) (tgG_ok g.hZ t) bo
                (fun s H a cl fp => mG_ok (g.blk h3' s H a cl fp) c.cm t tg h4')
                (fun s H a cl fp => by
                  unfold tTst
                  split at h6
                  · rw [if_pos h6]; exact pts_nil
                  · rename_i ec
                    simp only [Bool.and_eq_true, Bool.not_eq_true'] at h6
                    rw [if_neg (by rw [h6.1]; exact Bool.false_ne_true)]
                    exact pts_one (mE_ok (hot := false) (g.blk h3' s H a cl fp) (fun _ => c.toGc.blk s H a cl fp) (fun z => by cases z) cnd ec h6.2).2
                  · cases h6)
                (fun s H a cl fp => (mE_ok (hot := false) (g.blk h3' s H a cl fp) (fun _ => c.toGc.blk s H a cl fp) (fun z => by cases z) elt ee h5).1)
                (fun x => nset_fold h1' _ _)
              rw [eo] at z
              exact z
            · cases h2'
          | _ => cases hco
        · cases h3
    · cases h
  | C, md, .par i j a b, hot, Z, W, X, st, g, gc, gh, h => by
    simp only [mS] at h
    split at h
    · rename_i x px y py k1 p1 ea eb k2 p2 pos
      simp only [Bool.and_eq_true, beq_iff_eq, Bool.not_eq_true', decide_eq_true_eq, beq_eq_false_iff_ne] at h
      obtain ⟨⟨⟨⟨⟨⟨⟨⟨⟨⟨⟨⟨h0, h1⟩, h2⟩, h3⟩, h4⟩, h5⟩, h6⟩, h7⟩, h8⟩, h9⟩, h10⟩, h11⟩, h12⟩ := h
      have hx : X.env.scope.names.lookup x = some .local := g.lc_ _ h4
      have hy : X.env.scope.names.lookup y = some .local := g.lc_ _ h5
      exact zs_par (gc h0).cm (by rw [g.hN]; exact g.nd) (by rw [g.hN]; exact h1) (by rw [g.hN]; exact h2) h3 hx hy (mA_ok g (fun z => (gc z).toGc) gh _ _ h12).1
        (swap2_ok g.ki hx hy (by rw [beq_iff_eq]; exact h6) (by rw [beq_eq_false_iff_ne]; exact h7) h8 h9 h10 h11) rfl
    · cases h
  | C, md, .unp t e, hot, Z, W, X, st, g, gc, gh, h => by
    simp only [mS] at h
    split at h
    · rename_i es j p ee pos
      simp only [Bool.and_eq_true, Bool.not_eq_true'] at h
      obtain ⟨⟨⟨⟨h0, h1⟩, h2⟩, h3⟩, h4⟩ := h
      obtain ⟨a, b, c⟩ := names_ok g t es h1
      exact zs_unp (tg_tup g.hZ) (pg_tl (gc h0).cm a b c) (mE_ok g (fun z => (gc z).toGc) gh e ee h4).1 (by unfold swapsWithSole; exact ncomp_ok h3 _ _ _) (ntl_ok h2 _) rfl
    · cases h
  | C, md, .seti i ix e, hot, Z, W, X, st, g, gc, gh, h => by
    simp only [mS] at h
    split at h
    · rename_i x p exi tp ee pos
      simp only [Bool.and_eq_true, beq_iff_eq] at h
      obtain ⟨⟨⟨⟨⟨⟨h1, h2⟩, h3⟩, h4⟩, h5⟩, h6⟩, h7⟩ := h
      obtain ⟨n1, n2, _⟩ := isName_ok h3
      exact zs_seti (by rw [g.hN]; exact h1) (g.vs h2) n1 n2 (mE_ok g (fun z => (gc z).toGc) gh e ee h7).1 (mE_ok g (fun z => (gc z).toGc) gh ix exi h6).1 (fun v => by cases exi <;> first | rfl | cases h4) (by unfold swapsWithSole; exact ncomp_ok h5 _ _ _) (by rfl) (by rfl)
    · cases h
  | C, md, .setf f e, hot, Z, W, X, st, g, gc, gh, h => by
    simp only [mS] at h
    split at h
    · rename_i x p y p' ee pos
      simp only [Bool.and_eq_true, beq_iff_eq] at h
      obtain ⟨⟨⟨⟨⟨h1, h2⟩, h3⟩, h4⟩, h5⟩, h6⟩ := h
      obtain ⟨n1, n2, _⟩ := isName_ok h4
      have e1 := g.fN f y h1
      subst e1
      exact zs_setf g.hB g.fnd g.fsm (fun c hc => g.fld f c hc) (by rw [g.hN]; exact h2) (g.vs h3) n1 n2 (mE_ok g (fun z => (gc z).toGc) gh e ee h6).1 (ncomp_ok h5 _ _ _)
    · cases h
  | C, md, .aug i op e, hot, Z, W, X, st, g, gc, gh, h => by
    simp only [mS] at h
    split at h
    · rename_i x p o ee pos
      simp only [Bool.and_eq_true, beq_iff_eq, decide_eq_true_eq, Bool.or_eq_true] at h
      obtain ⟨⟨⟨⟨h1, h2⟩, h3⟩, h4⟩, h5⟩ := h
      subst h3
      exact zs_aug (by rw [g.hN]; exact g.nd) (by rw [g.hN]; exact h1) (g.lo h2) (g.fv h2) h4 (mE_ok g (fun z => (gc z).toGc) gh e ee h5).1
    · cases h
  | C, md, .ex e, hot, Z, W, X, st, g, gc, gh, h => by
    simp only [mS] at h
    split at h
    · rename_i ee pos
      simp only [Bool.and_eq_true] at h
      exact zs_ex (mE_ok g (fun z => (gc z).toGc) gh e ee h.2).1 (ncomp_ok h.1 _ _ _)
    · cases h
  | C, md, .ite c a b, hot, Z, W, X, st, g, gc, gh, h => by
    simp only [mS] at h
    split at h
    · rename_i ec as bs pos
      simp only [Bool.and_eq_true] at h
      exact zs_if (mE_ok g (fun z => (gc z).toGc) gh c ec h.1.1).2 (mB_ok a hot Z W X as g gc gh h.1.2) (mB_ok b hot Z W X bs g gc gh h.2)
    · cases h
  | C, md, .whl c b, hot, Z, W, X, st, g, gc, gh, h => by
    simp only [mS] at h
    split at h
    · rename_i ec bs pos
      simp only [Bool.and_eq_true, Bool.not_eq_true'] at h
      exact zs_while (gc h.1.1).ow (mE_ok g (fun z => (gc z).toGc) gh c ec h.1.2).2 (mB_ok b hot Z W X bs g gc gh h.2)
    · cases h
  | C, md, .loop kd as t b, hot, Z, W, X, st, g, gc, gh, h => by
    simp only [mS] at h
    split at h
    · rename_i tg iter body pos
      simp only [Bool.and_eq_true, Bool.not_eq_true'] at h
      obtain ⟨⟨⟨⟨h0, h1⟩, h2⟩, h3⟩, h4⟩ := h
      split at h2
      · rename_i es he
        obtain ⟨ha, hs, h7⟩ := mA_ok (hot := false) g (fun _ => (gc h0).toGc) (fun z => by cases z) as es h2
        exact zs_for (gc h0).ow (gc h0).cm (itA_ok g he h2 ha hs h7) (tgG_ok g.hZ t) (mG_ok g (gc h0).cm t tg h3) (mB_ok b hot Z W X body g gc gh h4) (fun x => nset_fold h1 _ _)
      · cases h2
    · cases h
  | C, md, .ret e, hot, Z, W, X, st, g, gc, gh, h => by
    simp only [mS] at h
    split at h
    · exact zs_ret (mE_ok g (fun z => (gc z).toGc) gh e _ h).1
    · cases h
  | C, md, .retn, hot, Z, W, X, st, g, gc, gh, h => by
    simp only [mS] at h
    split at h
    · exact zs_retn
    · cases h
  | C, md, .rai c, hot, Z, W, X, st, g, gc, gh, h => by
    simp only [mS] at h
    split at h
    · rename_i x p m j p2 pos pos'
      simp only [Bool.and_eq_true, beq_iff_eq, Bool.not_eq_true'] at h
      obtain ⟨⟨⟨⟨h0, h1⟩, h2⟩, h3⟩, h4⟩ := h
      obtain ⟨n1, _, _⟩ := isName_ok h4
      exact zs_raise (gc h0).cm (gc h0).tk ((gc h0).exc c h2) (g.cls c x h1) (g.gl h3) n1
    · cases h
  | C, md, .try b c i s, hot, Z, W, X, st, g, gc, gh, h => by
    simp only [mS] at h
    split at h
    · rename_i body x p n b0 suite p2 pos
      simp only [Bool.and_eq_true, beq_iff_eq, Bool.not_eq_true', decide_eq_true_eq] at h
      obtain ⟨⟨⟨⟨⟨⟨⟨⟨⟨h0, hnt⟩, h1⟩, h2⟩, h3⟩, h4⟩, h5⟩, h6⟩, h7⟩, h8⟩ := h
      obtain ⟨n1, _, _⟩ := isName_ok h4
      have c0 := gc h0
      cases md with
      | true => rw [c0.nmd rfl] at hnt; cases hnt
      | false =>
      have hln : X.env.kindOf n = some .local := by
        exact g.lc_ _ h6
      refine zs_try c0.stk c0.frm (by rw [g.hN]; exact g.nd) (by rw [g.hN]; exact h5) hln (cv := .ref (Z.cA c)) ⟨g.gl h3, n1, .inl (g.cls c x h1)⟩ c0.tk c0.xa (fun d hd => c0.exm d c hd h2) (fun W' pn xe tk ow => ?_) (fun W' a oe d pn hd hz hv => ?_)
      · exact mB_ok (C := C.in_) (md := false) b false Z W' (X.tr pn xe) body (g.tr pn xe).in_ (fun _ => c0.trN pn xe tk ow) (fun z => by cases z) h7
      · obtain ⟨e1, e2, e3⟩ := c0.xcc d hd
        exact mB_ok (md := false) s true (Z.wx (some (a, d))) W' (X.suite a ((a, oe) :: pn)) (b0 :: suite) (g.suite _ _ _) (fun z => by cases z) (fun _ => ⟨X, a, oe, d, pn, rfl, rfl, hz, hv, e1, e2, e3⟩) h8
    · cases h
  | C, md, .tryo b c s, hot, Z, W, X, st, g, gc, gh, h => by
    simp only [mS] at h
    split at h
    · split at h
      · rename_i e
        simp only [Bool.and_eq_true, beq_iff_eq, Bool.not_eq_true'] at h
        obtain ⟨⟨⟨⟨⟨⟨⟨⟨⟨⟨h0, hnt⟩, h1⟩, h2⟩, h3⟩, h4⟩, h5⟩, h6⟩, h7⟩, h8⟩, h9⟩ := h
        obtain ⟨n1, _, _⟩ := isName_ok h4
        obtain ⟨n2, _, _⟩ := isName_ok h8
        have c0 := gc h0
        cases md with
        | true => rw [c0.nmd rfl] at hnt; cases hnt
        | false =>
        exact zs_tryo c0.stk c0.frm (cv := .ref (Z.cA c)) ⟨g.gl h3, n1, .inl (g.cls c _ h1)⟩ (c0.owa hnt) c0.tk (fun d hd => c0.exm d c hd h2) (c0.exc e h6) (g.cls e _ h5) (g.gl h7) n2 (fun W' pn xe tk ow =>
          mB_ok (C := C.str) (md := true) b false Z W' (X.tr pn xe) _ (g.tr pn xe).str (fun _ => c0.trS pn xe tk ow) (fun z => by cases z) h9)
      · cases h
    · cases h
  | C, md, .cont, hot, Z, W, X, st, g, gc, gh, h => by
    simp only [mS] at h
    split at h
    · exact zs_cont
    · cases h
  | C, md, .brk, hot, Z, W, X, st, g, gc, gh, h => by
    simp only [mS] at h
    split at h
    · exact zs_brk
    · cases h
theorem mB_ok : ∀ {C : Ct} {md : Bool} (s : S) (hot : Bool) (Z : Cd) (W : WX) (X : Cx) (l : List Stmt), Gd Z X C → (hot = false → Gs md Z X C W Φ k) → (hot = true → Gh Z X C) → mB C hot s l = true → PSs X l (tS Z W (exe C.B Φ s))
  | C, md, .skip, hot, Z, W, X, l, g, gc, gh, h => by
    cases l with
    | nil => exact zb_nil
    | cons _ _ => cases h
  | C, md, .seq a b, hot, Z, W, X, l, g, gc, gh, h => by
    simp only [mB] at h
    split at h
    · rename_i st rest
      simp only [Bool.and_eq_true] at h
      exact zb_cons (mS_ok a hot Z W X st g gc gh h.1) (mB_ok b hot Z W X rest g gc gh h.2)
    · cases h
  | C, md, .set _ _, hot, Z, W, X, l, g, gc, gh, h => by cases h
  | C, md, .par _ _ _ _, hot, Z, W, X, l, g, gc, gh, h => by cases h
  | C, md, .unp _ _, hot, Z, W, X, l, g, gc, gh, h => by cases h
  | C, md, .seti _ _ _, hot, Z, W, X, l, g, gc, gh, h => by cases h
  | C, md, .setf _ _, hot, Z, W, X, l, g, gc, gh, h => by cases h
  | C, md, .aug _ _ _, hot, Z, W, X, l, g, gc, gh, h => by cases h
  | C, md, .ex _, hot, Z, W, X, l, g, gc, gh, h => by cases h
  | C, md, .ite _ _ _, hot, Z, W, X, l, g, gc, gh, h => by cases h
  | C, md, .whl _ _, hot, Z, W, X, l, g, gc, gh, h => by cases h
  | C, md, .loop _ _ _ _, hot, Z, W, X, l, g, gc, gh, h => by cases h
  | C, md, .ret _, hot, Z, W, X, l, g, gc, gh, h => by cases h
  | C, md, .retn, hot, Z, W, X, l, g, gc, gh, h => by cases h
  | C, md, .rai _, hot, Z, W, X, l, g, gc, gh, h => by cases h
  | C, md, .try _ _ _ _, hot, Z, W, X, l, g, gc, gh, h => by cases h
  | C, md, .tryo _ _ _, hot, Z, W, X, l, g, gc, gh, h => by cases h
  | C, md, .cont, hot, Z, W, X, l, g, gc, gh, h => by cases h
  | C, md, .brk, hot, Z, W, X, l, g, gc, gh, h => by cases h
end
end
end Z

/-! a text's defs, all together -/
namespace Z
open PySem L2
theorem look_some : ∀ {ns : List Str} {us : List Value} {n : Str}, n ∈ ns → us.length = ns.length → ((ns.zip us).lookup n).isSome = true
  | [], us, n, h, _ => by cases h
  | m :: ns, [], n, h, l => by cases l
  | m :: ns, u :: us, n, h, l => by
    simp only [List.zip_cons_cons, List.lookup_cons]
    cases e : (n == m) with
    | true => rfl
    | false =>
      rcases List.mem_cons.mp h with q | q
      · rw [q, beq_self_eq_true] at e; cases e
      · exact look_some q (by simpa using l)
theorem zip_map : ∀ {ns : List Str} {us : List Value}, ns.Nodup → us.length = ns.length → (ns.filterMap fun n => ((ns.zip us).lookup n).map fun v => (n, v)) = ns.zip us := by
  have gen : ∀ (pre : List (Str × Value)) (ns : List Str) (us : List Value), ns.Nodup → us.length = ns.length → (∀ n ∈ ns, pre.lookup n = none) → (ns.filterMap fun n => ((pre ++ ns.zip us).lookup n).map fun v => (n, v)) = ns.zip us := by
    intro pre ns
    induction ns generalizing pre with
    | nil => intro us _ _ _; rfl
    | cons m ns ih =>
      intro us nd l hp
      cases us with
      | nil => cases l
      | cons u us =>
        rw [List.nodup_cons] at nd
        have la : ∀ (p q : List (Str × Value)) (n : Str), p.lookup n = none → (p ++ q).lookup n = q.lookup n := by
          intro p q n
          induction p with
          | nil => intro _; rfl
          | cons x p ih2 =>
            intro h
            rw [List.lookup_cons] at h
            rw [List.cons_append, List.lookup_cons]
            cases e : (n == x.1) with
            | true => rw [e] at h; cases h
            | false => rw [e] at h; exact ih2 h
        have e1 : ((pre ++ (m :: ns).zip (u :: us)).lookup m) = some u := by
          rw [la _ _ _ (hp m List.mem_cons_self)]
          simp [List.lookup_cons]
        rw [List.filterMap_cons, e1]
        show (m, u) :: _ = (m, u) :: _
        congr 1
        have e2 : pre ++ (m :: ns).zip (u :: us) = (pre ++ [(m, u)]) ++ ns.zip us := by simp
        rw [e2]
        refine ih (pre ++ [(m, u)]) us nd.2 (by simpa using l) fun n hn => ?_
        rw [la _ _ _ (hp n (List.mem_cons_of_mem _ hn))]
        have ne : (n == m) = false := by
          rw [beq_eq_false_iff_ne]
          intro z
          exact nd.1 (z ▸ hn)
        rw [List.lookup_cons, ne]; rfl
  intro ns us nd l
  exact gen [] ns us nd l fun n _ => rfl
theorem plain_binds {fd : FuncData} {as : List Arg} (hp : fd.params = ⟨[], as, none, [], [], none, []⟩) (hd : fd.defaults = .none) (nd : (as.map (·.arg)).Nodup) (us : List Value) (hl : us.length = as.length) : PySem.bindArgs fd ⟨us, []⟩ = pure ((as.map (·.arg)).zip us) := by
  unfold PySem.bindArgs
  rw [hp, hd]
  have h1 : ((as.map (·.arg)).filter fun n => (((as.map (·.arg)).zip us).lookup n).isNone) = [] := by
    rw [List.filter_eq_nil_iff]
    intro n hn
    have := look_some hn (us := us) (by rw [List.length_map]; exact hl)
    cases e : ((as.map (·.arg)).zip us).lookup n with
    | none => rw [e] at this; cases this
    | some v => simp
  have h2 := zip_map nd (us := us) (by rw [List.length_map]; exact hl)
  have h3 : seqItems? Value.none = pure none := by rfl
  rw [h3]
  simp [hl, h1, h2]
  refine (if_neg ?_).trans ?_
  · have e : ((as.map (·.arg)).take ((([] : List Arg).map (·.arg) ++ as.map (·.arg)).length - (List.drop ((#[] : Array Value).size - (([] : List Arg).map (·.arg) ++ as.map (·.arg)).length) ([] : List Value)).length)) = as.map (·.arg) := by
      apply List.take_of_length_le
      simp
    show ¬ (!(((as.map (·.arg)).take _).filter _).isEmpty) = true
    rw [e, h1]
    simp
  · rw [← List.filterMap_map]
    exact congrArg pure h2
end Z

namespace Z
open PySem L2
/-- a def of the text: its class, name, qualified name, statement; its slots' names, how many are parameters, the body -/
structure Df where
  cl : Option Str
  name : Str
  qual : Str
  st : Stmt
  N : List Str
  np : Nat
  body : S
def Df.at_ (d : Df) : Str × Option Str := match d.cl with
  | none => (d.name, none)
  | some c => (c, some d.name)
def Df.toD (d : Df) : He.DefD := ⟨d.at_, d.name, d.qual, defArgs d.st, defBody d.st, defScope d.st, [], []⟩
def Df.ct (C : Ct) (d : Df) : Ct := { C with N := d.N, sc := (defScope d.st).names }
def argsB (a : Arguments) (ps : List Str) : Bool := match a with
  | ⟨[], as, none, [], [], none, []⟩ => decide (as.map (·.arg) = ps)
  | _ => false
theorem argsB_ok {a : Arguments} {ps : List Str} (h : argsB a ps = true) : ∃ as, a = ⟨[], as, none, [], [], none, []⟩ ∧ as.map (·.arg) = ps := by
  unfold argsB at h
  split at h
  · exact ⟨_, rfl, of_decide_eq_true h⟩
  · cases h
def Df.ok (C : Ct) (d : Df) : Bool :=
  argsB (defArgs d.st) (d.N.take d.np) && decide ((defScope d.st).kind = .function) && !(defScope d.st).isCoroutine && !(defScope d.st).isGenerator && decide d.N.Nodup && decide (d.np ≤ d.N.length) &&
  ((d.N.take d.np).all fun x => decide ((defScope d.st).names.lookup x = some .local) || decide ((defScope d.st).names.lookup x = some .cell)) && ((defScope d.st).names.all fun y => !decide (y.2 = .free)) && mB (d.ct C) false d.body (defBody d.st)
theorem Df.scope {C : Ct} {d : Df} (h : d.ok C = true) : FnScope d.N (d.N.take d.np) (defScope d.st) := by
  unfold Df.ok at h
  simp only [Bool.and_eq_true, decide_eq_true_eq, Bool.not_eq_true', List.all_eq_true, Bool.or_eq_true, decide_eq_false_iff_not] at h
  obtain ⟨⟨⟨⟨⟨⟨⟨⟨h1, h2⟩, h3⟩, h4⟩, h5⟩, h6⟩, h7⟩, h8⟩, h9⟩ := h
  exact ⟨h2, h3, h4, h5, by simp, h7, fun y hy => h8 y hy⟩
theorem Df.body_ok {C : Ct} {d : Df} (h : d.ok C = true) : mB (d.ct C) false d.body (defBody d.st) = true := by
  unfold Df.ok at h
  simp only [Bool.and_eq_true] at h
  exact h.2
theorem Df.len {C : Ct} {d : Df} (h : d.ok C = true) : d.np ≤ d.N.length := by
  unfold Df.ok at h
  simp only [Bool.and_eq_true, decide_eq_true_eq] at h
  exact h.1.1.1.2
theorem Df.nod {C : Ct} {d : Df} (h : d.ok C = true) : d.N.Nodup := (Df.scope h).nd
theorem Df.args {C : Ct} {d : Df} (h : d.ok C = true) : ∃ as, defArgs d.st = ⟨[], as, none, [], [], none, []⟩ ∧ as.map (·.arg) = d.N.take d.np := by
  unfold Df.ok at h
  simp only [Bool.and_eq_true] at h
  exact argsB_ok h.1.1.1.1.1.1.1.1
def Tof (ds : List Df) : Nat → Option Fn := fun q => (ds[q]?).map fun d => ⟨d.np, d.N.length, d.body⟩
/-- what the text's own part of the heap tells -/
structure Pf (Z : Cd) (C : Ct) (ds : List Df) (mg : Str → Option Value) : Prop where
  hB : Z.B = C.B
  xa : Z.xa = none
  fN : ∀ f x, C.fl[f]? = some x → Z.fN f = x
  fnd : ∀ c, (Z.names c).Nodup
  fsm : ∀ c, (Z.names c).length < 1000
  bt : ∀ x, x ∈ bnames → mg x = none
  cls : ∀ c x, C.cn[c]? = some x → mg x = some (.ref (Z.cA c))
  fld : ∀ f c, f ∈ (C.B.cls c).flds → L2.Cls Z.K (Z.cA c) ∧ NoAttr Z.K (Z.cA c) (Z.fN f)
  ins : ∀ d, C.B.ins d = true → InsOk Z.K (Z.cA d)
  kit : ∀ d c, C.B.ins d = true → C.B.ins c = true → PySem.W.kitOne Z.K (.ref (Z.cA d)) (.ref (Z.cA c)) = some (C.B.sub d c)
  glo : ∀ g x, C.gn[g]? = some x → ∃ u v, mg x = some u ∧ RelV v u ∧ ∀ F H, Rep Z F H (C.B.glo g) v
  fns : ∀ (q : Nat) (x : Str), C.fn[q]? = some x → ∃ d : Df, ds[q]? = some d ∧ mg x = some (.ref (He.fAd Z.K d.at_))
  mth : ∀ (m : Nat) (x : Str), C.mn[m]? = some x → ∀ (c q : Nat), C.B.mth c m = some q → ∃ d : Df, ds[q]? = some d ∧ L2.Cls Z.K (Z.cA c) ∧ Meth Z.K (Z.cA c) x (He.fAd Z.K d.at_) ∧ x ∉ Z.names c
  mk0 : ∀ c, C.B.ins c = true → (C.B.cls c).init = none → Mk0 Z.K (Z.cA c)
  ini : ∀ c q, C.B.ins c = true → (C.B.cls c).init = some q → ∃ d : Df, ds[q]? = some d ∧ Mk Z.K (Z.cA c) (He.fAd Z.K d.at_)
  exc : ∀ c, C.B.exn c = true → (∃ B newId initId bmB, ExcBaseFacts B newId initId bmB ∧ PySem.W.excIn Z.K (Z.cA c) bmB newId = true) ∧ PySem.W.keepIn Z.K (.ref (Z.cA c)) = true ∧
    PySem.W.subIn Z.K (.ref (Z.cA c)) (.type "BaseException") = some true ∧ PySem.W.typeIn Z.K (.ref (Z.cA c)) = some (.type "type")
  exm : ∀ d c, C.B.exn d = true → C.B.exn c = true → PySem.W.exmOne Z.K (.ref (Z.cA d)) (.ref (Z.cA c)) = some (C.B.sub d c)
  xcc : ∀ d, C.B.exn d = true → ExcC Z.K (Z.cA d) ∧ (∀ c, C.B.exn c = true → PySem.W.kitOne Z.K (.ref (Z.cA d)) (.ref (Z.cA c)) = some (C.B.sub d c)) ∧ PySem.W.kitOne Z.K (.ref (Z.cA d)) (.type "ValueError") = some (C.B.sub d C.vE)
  defs : ∀ (q : Nat) (d : Df), ds[q]? = some d → ∃ fd, FunD Z.K d.name d.qual (defArgs d.st) (defBody d.st) (defScope d.st) [] [] (He.fAd Z.K d.at_) fd
  ok : ∀ d : Df, d ∈ ds → d.ok C = true
  sq1 : ∀ q, C.sq q = true
  nt0 : C.nt = false
  oks : ∀ (q : Nat) (d : Df), ds[q]? = some d → C.ss q = true → d.ok C.str = true
theorem Df.binds {C : Ct} {d : Df} (h : d.ok C = true) {K : PySem.W.Frag} {f : Addr} {fd : FuncData} (F : FunD K d.name d.qual (defArgs d.st) (defBody d.st) (defScope d.st) [] [] f fd) (us : List Value) (hl : us.length = (d.N.take d.np).length) : PySem.bindArgs fd ⟨us, []⟩ = pure ((d.N.take d.np).zip us) := by
  obtain ⟨as, e1, e2⟩ := Df.args h
  obtain ⟨oc, od, dV, kV, doc, pm, an, cdv, ct, osl, rfl, lk, hcd, hD, hK⟩ := F.ex
  rcases hD with ⟨_, rfl⟩ | ⟨e, _⟩
  · rw [← e2]
    refine plain_binds (as := as) (by rw [← e1]) rfl (by rw [e2]; exact (Df.nod h).sublist (List.take_sublist _ _)) us (by rw [hl, ← e2, List.length_map])
  · exact absurd rfl e
theorem vis_ok {C : Ct} {sc : Scope} {N : List Str} {x : Str} (h : Ct.vis { C with N := N, sc := sc.names } x = true) : Vis sc x := by
  unfold Ct.vis at h
  simp only [Bool.or_eq_true, decide_eq_true_eq] at h
  rcases h with (h | h) | h
  · exact .inl h
  · exact .inr (.inl h)
  · exact .inr (.inr h)
theorem loc_ok {C : Ct} {sc : Scope} {N : List Str} {x : Str} (h : Ct.loc { C with N := N, sc := sc.names } x = true) : L2.Loc sc x := by
  unfold Ct.loc at h
  simp only [Bool.or_eq_true, decide_eq_true_eq] at h
  exact h
theorem pg_okS {Z : Cd} {C : Ct} {ds : List Df} {mg : Str → Option Value} {P : Program} {w : World} {base : Heap} (pf : Pf Z C ds mg) : ∀ (n q : Nat) (d : Df) (fd : FuncData), ds[q]? = some d → C.ss q = true → FunD Z.K d.name d.qual (defArgs d.st) (defBody d.st) (defScope d.st) [] [] (He.fAd Z.K d.at_) fd →
    FnOk P w Z.K mg base (CXM true P w) (2 * n) (He.fAd Z.K d.at_) fd (d.N.take d.np) (spF Z (cal C.B (Tof ds) n) q) ∧ Binds Z.K fd (d.N.take d.np) [] := by
  intro n
  induction n with
  | zero =>
    intro q d fd hq hss F
    exact ⟨⟨fun vs H Q E ⟨_, _, _, _, h⟩ => h.elim, fun A outer s H args us vs Q E _ _ _ _ ⟨_, _, _, _, h⟩ => h.elim⟩, .all fun us hl => Df.binds (pf.oks q d hq hss) F us hl⟩
  | succ n ih =>
    intro q d fd hq hss F
    have dok := pf.oks q d hq hss
    have hT : ∀ ss, cal C.B (Tof ds) (n + 1) q ss = runF C.B (cal C.B (Tof ds) n) ⟨d.np, d.N.length, d.body⟩ ss := fun ss => by
      show (match Tof ds q with
        | some F => runF C.B (cal C.B (Tof ds) n) F ss
        | none => .st) = _
      unfold Tof
      rw [hq]; rfl
    refine ⟨?_, .all fun us hl => Df.binds dok F us hl⟩
    show FnOk P w Z.K mg base (CXM true P w) (2 * n + 1 + 1) _ _ _ _
    refine F.ok (Df.scope dok) (fun vs H Q E ⟨F0, ss, I, _, h⟩ => ?_) fun cdv A outer s H vs Q E hr hsp => ?_
    · rw [hT] at h
      unfold runF at h
      by_cases hp : ss.length = d.np
      · have := I.len
        rw [List.length_map] at this
        rw [List.length_take, ← this, hp]
        have := Df.len dok
        omega
      · rw [if_neg hp] at h
        exact h.elim
    · refine ⟨_, ?_, fn_body (B := C.B) hT rfl (Df.len dok) hsp⟩
      have g : Gd Z (cxOf (CXM true P w) P w Z.K mg base d.N d.qual (defScope d.st) (He.fAd Z.K d.at_) cdv A outer s H E) (d.ct C.str) :=
        ⟨rfl, pf.hB, rfl, Df.nod dok, fun x h => of_decide_eq_true h, fun x h => vis_ok h, fun x h => ⟨loc_ok h, .inl rfl⟩, fun _ h => h, fun _ h => h, (Df.scope dok).kind, by have := hr.un; show (A.deeper _).units + 200 < cLine; omega, pf.fN, pf.fnd, pf.fsm, pf.bt, pf.cls, pf.fld, pf.ins, pf.kit, pf.glo⟩
      have fk : ∀ q' d', ds[q']? = some d' → C.ss q' = true → FK true Z (cxOf (CXM true P w) P w Z.K mg base d.N d.qual (defScope d.st) (He.fAd Z.K d.at_) cdv A outer s H E) (2 * n) (cal C.B (Tof ds) n) q' (He.fAd Z.K d'.at_) := fun q' d' hq' hs' => by
        obtain ⟨fd', F'⟩ := pf.defs q' d' hq'
        obtain ⟨h1, h2⟩ := ih q' d' fd' hq' hs' F'
        exact ⟨⟨fd', _, h1, h2⟩, F'.kp⟩
      have gc : Gs true Z (cxOf (CXM true P w) P w Z.K mg base d.N d.qual (defScope d.st) (He.fAd Z.K d.at_) cdv A outer s H E) (d.ct C.str) (fun cls d _ H => E cls d H) (cal C.B (Tof ds) n) (2 * n) :=
        { cm := rfl
          tk := L2N.takes_of rfl rfl rfl rfl
          nmd := fun _ => rfl
          owa := fun h => by cases h
          sfn := fun q' x h hs => by
            obtain ⟨d', h1, h2⟩ := pf.fns q' x h
            exact ⟨_, h2, fk q' d' h1 hs⟩
          sin := fun c q' h1 h2 hs => by
            obtain ⟨d', h3, h4⟩ := pf.ini c q' h1 h2
            exact ⟨_, h4, fk q' d' h3 hs⟩
          rm := hr
          ow := passes_of rfl
          fns := fun q' x h hs => by
            obtain ⟨d', h1, h2⟩ := pf.fns q' x h
            exact ⟨_, h2, fk q' d' h1 hs⟩
          mth := fun m x h => by cases m <;> cases h
          mk0 := pf.mk0
          ini := fun c q' h1 h2 hs => by
            obtain ⟨d', h3, h4⟩ := pf.ini c q' h1 h2
            exact ⟨_, h4, fk q' d' h3 hs⟩
          exc := fun c h => by
            obtain ⟨h1, h2, h3, h4⟩ := pf.exc c h
            exact ⟨h1, h2, raises_own h3 h4⟩
          stk := rfl
          frm := rfl
          xa := pf.xa
          exm := pf.exm
          xcc := pf.xcc }
      exact mB_ok (C := d.ct C.str) d.body false Z _ _ _ g (fun _ => gc) (fun z => by cases z) (Df.body_ok dok)
theorem pg_ok {Z : Cd} {C : Ct} {ds : List Df} {mg : Str → Option Value} {P : Program} {w : World} {base : Heap} (pf : Pf Z C ds mg) : ∀ (n q : Nat) (d : Df) (fd : FuncData), ds[q]? = some d → FunD Z.K d.name d.qual (defArgs d.st) (defBody d.st) (defScope d.st) [] [] (He.fAd Z.K d.at_) fd →
    FnOk P w Z.K mg base (CXM false P w) (2 * n) (He.fAd Z.K d.at_) fd (d.N.take d.np) (spF Z (cal C.B (Tof ds) n) q) ∧ Binds Z.K fd (d.N.take d.np) [] := by
  intro n
  induction n with
  | zero =>
    intro q d fd hq F
    exact ⟨⟨fun vs H Q E ⟨_, _, _, _, h⟩ => h.elim, fun A outer s H args us vs Q E _ _ _ _ ⟨_, _, _, _, h⟩ => h.elim⟩, .all fun us hl => Df.binds (pf.ok d (List.mem_of_getElem? hq)) F us hl⟩
  | succ n ih =>
    intro q d fd hq F
    have dok := pf.ok d (List.mem_of_getElem? hq)
    have hT : ∀ ss, cal C.B (Tof ds) (n + 1) q ss = runF C.B (cal C.B (Tof ds) n) ⟨d.np, d.N.length, d.body⟩ ss := fun ss => by
      show (match Tof ds q with
        | some F => runF C.B (cal C.B (Tof ds) n) F ss
        | none => .st) = _
      unfold Tof
      rw [hq]; rfl
    refine ⟨?_, .all fun us hl => Df.binds dok F us hl⟩
    show FnOk P w Z.K mg base (CXM false P w) (2 * n + 1 + 1) _ _ _ _
    refine F.ok (Df.scope dok) (fun vs H Q E ⟨F0, ss, I, _, h⟩ => ?_) fun cdv A outer s H vs Q E hr hsp => ?_
    · rw [hT] at h
      unfold runF at h
      by_cases hp : ss.length = d.np
      · have := I.len
        rw [List.length_map] at this
        rw [List.length_take, ← this, hp]
        have := Df.len dok
        omega
      · rw [if_neg hp] at h
        exact h.elim
    · refine ⟨_, ?_, fn_body (B := C.B) hT rfl (Df.len dok) hsp⟩
      have g : Gd Z (cxOf (CXM false P w) P w Z.K mg base d.N d.qual (defScope d.st) (He.fAd Z.K d.at_) cdv A outer s H E) (d.ct C) :=
        ⟨rfl, pf.hB, rfl, Df.nod dok, fun x h => of_decide_eq_true h, fun x h => vis_ok h, fun x h => ⟨loc_ok h, .inl rfl⟩, fun _ h => h, fun _ h => h, (Df.scope dok).kind, by have := hr.un; show (A.deeper _).units + 200 < cLine; omega, pf.fN, pf.fnd, pf.fsm, pf.bt, pf.cls, pf.fld, pf.ins, pf.kit, pf.glo⟩
      have fk : ∀ q' d', ds[q']? = some d' → FK false Z (cxOf (CXM false P w) P w Z.K mg base d.N d.qual (defScope d.st) (He.fAd Z.K d.at_) cdv A outer s H E) (2 * n) (cal C.B (Tof ds) n) q' (He.fAd Z.K d'.at_) := fun q' d' hq' => by
        obtain ⟨fd', F'⟩ := pf.defs q' d' hq'
        obtain ⟨h1, h2⟩ := ih q' d' fd' hq' F'
        exact ⟨⟨fd', _, h1, h2⟩, F'.kp⟩
      have fks : ∀ q' d', ds[q']? = some d' → C.ss q' = true → FK true Z (cxOf (CXM false P w) P w Z.K mg base d.N d.qual (defScope d.st) (He.fAd Z.K d.at_) cdv A outer s H E) (2 * n) (cal C.B (Tof ds) n) q' (He.fAd Z.K d'.at_) := fun q' d' hq' hs' => by
        obtain ⟨fd', F'⟩ := pf.defs q' d' hq'
        obtain ⟨h1, h2⟩ := pg_okS (P := P) (w := w) (base := base) pf n q' d' fd' hq' hs' F'
        exact ⟨⟨fd', _, h1, h2⟩, F'.kp⟩
      have gc : Gs false Z (cxOf (CXM false P w) P w Z.K mg base d.N d.qual (defScope d.st) (He.fAd Z.K d.at_) cdv A outer s H E) (d.ct C) (fun cls d _ H => E cls d H) (cal C.B (Tof ds) n) (2 * n) :=
        { cm := rfl
          tk := L2.takes_of rfl rfl rfl rfl
          nmd := fun z => by cases z
          owa := fun _ hd => L2H.passesAt_of rfl hd
          sfn := fun q' x h hs => by
            obtain ⟨d', h1, h2⟩ := pf.fns q' x h
            exact ⟨_, h2, fks q' d' h1 hs⟩
          sin := fun c q' h1 h2 hs => by
            obtain ⟨d', h3, h4⟩ := pf.ini c q' h1 h2
            exact ⟨_, h4, fks q' d' h3 hs⟩
          rm := hr
          ow := passes_of rfl
          fns := fun q' x h _ => by
            obtain ⟨d', h1, h2⟩ := pf.fns q' x h
            exact ⟨_, h2, fk q' d' h1⟩
          mth := fun m x h c q' hq' => by
            obtain ⟨d', h1, h2, h3, h4⟩ := pf.mth m x h c q' hq'
            exact ⟨_, h2, h3, fk q' d' h1, h4⟩
          mk0 := pf.mk0
          ini := fun c q' h1 h2 _ => by
            obtain ⟨d', h3, h4⟩ := pf.ini c q' h1 h2
            exact ⟨_, h4, fk q' d' h3⟩
          exc := fun c h => by
            obtain ⟨h1, h2, h3, h4⟩ := pf.exc c h
            exact ⟨h1, h2, raises_own h3 h4⟩
          stk := rfl
          frm := rfl
          xa := pf.xa
          exm := pf.exm
          xcc := pf.xcc }
      exact mB_ok (C := d.ct C) d.body false Z _ _ _ g (fun _ => gc) (fun z => by cases z) (Df.body_ok dok)
end Z

/-! the head: a text's facts -/
namespace Z
open PySem L2
/-- a class: its fields, its __init__, whether it is of instances, of exceptions, the classes that it stands under -/
structure Ci where
  flds : List Nat := []
  init : Option Nat := none
  ins : Bool := false
  exn : Bool := false
  sup : List Nat := []
structure Pg where
  ds : List Df
  fn : List Str
  cn : List Str
  ci : List Ci
  mn : List Str
  fl : List Str
  mt : List (Nat × Nat × Nat)
  gl : List (Str × D)
  vE : Nat
  /-- the defs whose exceptions have no context -/
  sn : List Nat := []
section
variable (p : Pg)
def Pg.ci_ (c : Nat) : Ci := (p.ci[c]?).getD {}
def Pg.tb : Tb where
  glo := fun g => ((p.gl[g]?).map (·.2)).getD .non
  cls := fun c => ⟨(p.ci_ c).flds, (p.ci_ c).init⟩
  mth := fun c m => (p.mt.find? fun t => t.1 == c && t.2.1 == m).map (·.2.2)
  sub := fun d c => (p.ci_ d).sup.contains c
  ins := fun c => (p.ci_ c).ins
  exn := fun c => (p.ci_ c).exn
def Pg.ct : Ct := { N := [], sc := [], fn := p.fn, cn := p.cn, mn := p.mn, fl := p.fl, gn := p.gl.map (·.1), vE := p.vE, B := p.tb, ss := fun q => p.sn.contains q }
def Pg.cnm (c : Nat) : Str := (p.cn[c]?).getD Str.empty
def Pg.cd (K : PySem.W.Frag) : Cd := ⟨K, fun c => He.ga K (p.cnm c), fun f => (p.fl[f]?).getD Str.empty, p.tb, none⟩
/-- what is looked at in the text alone -/
def Pg.stat : Bool :=
  (p.sn.all fun q => match p.ds[q]? with
    | some d => d.ok p.ct.str
    | none => true) && (p.ds.all fun d => d.ok p.ct) && decide (p.ci.length = p.cn.length) && ((List.range p.fn.length).all fun q => match p.ds[q]? with
    | some d => d.cl.isNone && decide (p.fn[q]? = some d.name)
    | none => false) &&
  (p.ci.all fun c => decide ((c.flds.map fun f => (p.fl[f]?).getD Str.empty).Nodup) && decide (c.flds.length < 1000) && (c.flds.isEmpty || c.ins)) &&
  (p.mt.all fun t => (p.ds[t.2.2]?).isSome && decide (t.1 < p.cn.length) && (p.ci_ t.1).ins && !decide ((p.mn[t.2.1]?).getD Str.empty ∈ ((p.ci_ t.1).flds.map fun f => (p.fl[f]?).getD Str.empty)))
def insB (K : PySem.W.Frag) (A : Addr) : Bool :=
  He.eqO (PySem.W.findIn K (.ref A) "__class__") (some (some (.builtin "object.__class__"))) && (He.eqO (PySem.W.specialIn K (.builtin "object.__class__") "__get__") (some (some (.builtin "getset_descriptor.__get__"))) &&
    (decide (PySem.W.takesIn K (.builtin "object.__class__") = some true) && decide (PySem.W.mroIn K A (.type "object") = some true)))
theorem insB_ok {K : PySem.W.Frag} {x : Str} (c : (He.Fa.cls x).ok K = true) (h : insB K (He.ga K x) = true) : InsOk K (He.ga K x) := by
  unfold insB at h
  simp only [Bool.and_eq_true, decide_eq_true_eq] at h
  exact ⟨He.cls_ok c, He.eqO_ok h.1, He.eqO_ok h.2.1, h.2.2.1, h.2.2.2⟩
def mk0B (K : PySem.W.Frag) (A : Addr) : Bool :=
  PySem.W.makesIn K A && (He.eqO (PySem.W.findIn K (.ref A) "__init__") (some (some (.builtin "object.__init__"))) && (decide (PySem.W.mroIn K A (.type "object") = some true) && PySem.W.keepIn K (.ref A)))
theorem mk0B_ok {K : PySem.W.Frag} {A : Addr} (h : mk0B K A = true) : Mk0 K A := by
  unfold mk0B at h
  simp only [Bool.and_eq_true, decide_eq_true_eq] at h
  exact ⟨h.1, He.eqO_ok h.2.1, h.2.2.1, h.2.2.2⟩
def excB (K : PySem.W.Frag) (A : Addr) : Bool :=
  He.eqO (PySem.W.findIn K (.ref A) "__getattribute__") (some (some (.builtin "BaseException.__getattribute__"))) && (He.eqO (PySem.W.findIn K (.ref A) "__getattr__") (some none) && (decide (PySem.W.subIn K (.ref A) (.type "BaseException") = some true) && (PySem.W.hasDictIn K A && insB K A)))
theorem excB_ok {K : PySem.W.Frag} {A : Addr} (h : excB K A = true) : ExcC K A := by
  unfold excB insB at h
  simp only [Bool.and_eq_true, decide_eq_true_eq] at h
  exact ⟨He.eqO_ok h.1, He.eqO_ok h.2.1, h.2.2.1, h.2.2.2.1, He.eqO_ok h.2.2.2.2.1, He.eqO_ok h.2.2.2.2.2.1, h.2.2.2.2.2.2.1, h.2.2.2.2.2.2.2⟩
def gloB (K : PySem.W.Frag) (x : Str) (d : D) : Bool := match d with
  | .int i => (He.Fa.int x i).ok K
  | .str z => (He.Fa.str x ⟨z.toArray⟩).ok K
  | _ => false
def Pg.clsB (K : PySem.W.Frag) (c : Nat) : Bool :=
  (He.Fa.glo (p.cnm c)).ok K &&
  (!(p.ci_ c).ins || ((He.Fa.cls (p.cnm c)).ok K && insB K (He.ga K (p.cnm c)) && (match (p.ci_ c).init with
      | none => mk0B K (He.ga K (p.cnm c))
      | some q => (He.Fa.mkr (p.cnm c)).ok K && (match p.ds[q]? with
        | some d => decide (He.ma K (He.ga K (p.cnm c)) "__init__" = He.fAd K d.at_)
        | none => false)) && ((p.ci_ c).flds.all fun f => (He.Fa.noat (p.cnm c) ((p.fl[f]?).getD Str.empty)).ok K) &&
    ((List.range p.cn.length).all fun e => !(p.ci_ e).ins || decide (PySem.W.kitOne K (.ref (He.ga K (p.cnm c))) (.ref (He.ga K (p.cnm e))) = some (p.tb.sub c e))))) &&
  (!(p.ci_ c).exn || ((He.Fa.exc (p.cnm c)).ok K && excB K (He.ga K (p.cnm c)) && ((List.range p.cn.length).all fun e => !(p.ci_ e).exn || (decide (PySem.W.exmOne K (.ref (He.ga K (p.cnm c))) (.ref (He.ga K (p.cnm e))) = some (p.tb.sub c e)) &&
      decide (PySem.W.kitOne K (.ref (He.ga K (p.cnm c))) (.ref (He.ga K (p.cnm e))) = some (p.tb.sub c e)))) && decide (PySem.W.kitOne K (.ref (He.ga K (p.cnm c))) (.type "ValueError") = some (p.tb.sub c p.vE))))
def Pg.mtB (K : PySem.W.Frag) (t : Nat × Nat × Nat) : Bool := (He.Fa.meth (p.cnm t.1) ((p.mn[t.2.1]?).getD Str.empty)).ok K && (match p.ds[t.2.2]? with
  | some d => decide (He.ma K (He.ga K (p.cnm t.1)) ((p.mn[t.2.1]?).getD Str.empty) = He.fAd K d.at_)
  | none => false)
/-- what is looked at in the heap -/
def Pg.xs (K : PySem.W.Frag) : Bool :=
  (p.fn.all fun x => (He.Fa.glo x).ok K) && (bnames.all fun x => (He.Fa.free x).ok K) && (p.gl.all fun g => gloB K g.1 g.2) && ((List.range p.cn.length).all fun c => p.clsB K c) && (p.mt.all fun t => p.mtB K t)
end
theorem all_range {n : Nat} {f : Nat → Bool} (h : (List.range n).all f = true) {i : Nat} (hi : i < n) : f i = true := List.all_eq_true.mp h i (List.mem_range.mpr hi)
theorem pf_of {p : Pg} {K : PySem.W.Frag} {h : Heap} {mg : Str → Option Value} (KX : K.In h) (G : h.Ns mainGlobals mg) (st : p.stat = true) (xs : p.xs K = true) (sd : He.SaysD [] (p.ds.map Df.toD) K) : Pf (p.cd K) p.ct p.ds mg := by
  unfold Pg.stat at st
  simp only [Bool.and_eq_true, decide_eq_true_eq] at st
  obtain ⟨⟨⟨⟨⟨s0, s1⟩, s2⟩, s3⟩, s4⟩, s5⟩ := st
  unfold Pg.xs at xs
  simp only [Bool.and_eq_true] at xs
  obtain ⟨⟨⟨⟨x1, x2⟩, x3⟩, x4⟩, x5⟩ := xs
  have small : ∀ c, (p.ci_ c).ins = true ∨ (p.ci_ c).exn = true → c < p.cn.length := fun c h => by
    by_cases hc : c < p.ci.length
    · omega
    · unfold Pg.ci_ at h
      rw [List.getElem?_eq_none (by omega)] at h
      rcases h with h | h <;> cases h
  have cb : ∀ c, c < p.cn.length → p.clsB K c = true := fun c hc => all_range x4 hc
  have insF : ∀ c, (p.ci_ c).ins = true → _ := fun c h => by
    have q := cb c (small c (.inl h))
    unfold Pg.clsB at q
    simp only [Bool.and_eq_true, h, Bool.not_true, Bool.false_or] at q
    exact q.1.2
  have excF : ∀ c, (p.ci_ c).exn = true → _ := fun c h => by
    have q := cb c (small c (.inr h))
    unfold Pg.clsB at q
    simp only [Bool.and_eq_true, h, Bool.not_true, Bool.false_or] at q
    exact q.2
  have cnx : ∀ (c : Nat) (x : Str), p.cn[c]? = some x → p.cnm c = x ∧ c < p.cn.length := fun c x h => by
    obtain ⟨hc, _⟩ := List.getElem?_eq_some_iff.mp h
    exact ⟨by unfold Pg.cnm; rw [h]; rfl, hc⟩
  refine ⟨rfl, rfl, fun f x h => ?_, fun c => ?_, fun c => ?_, fun x h => ?_, fun c x h => ?_, fun f c h => ?_, fun d h => ?_, fun d c h1 h2 => ?_, fun g x h => ?_, fun q x h => ?_, fun m x h c q h2 => ?_, fun c h1 h2 => ?_, fun c q h1 h2 => ?_, fun c h => ?_, fun d c h1 h2 => ?_, fun d h => ?_, fun q d h => ?_, fun d h => ?_, fun q => rfl, rfl, fun q d h hs => ?_⟩
  · show (p.fl[f]?).getD Str.empty = x
    have h : p.fl[f]? = some x := h
    rw [h]; rfl
  · show ((p.ci_ c).flds.map fun f => (p.fl[f]?).getD Str.empty).Nodup
    unfold Pg.ci_
    cases e : p.ci[c]? with
    | none => exact List.nodup_nil
    | some i =>
      have q := List.all_eq_true.mp s4 i (List.mem_of_getElem? e)
      simp only [Bool.and_eq_true, decide_eq_true_eq] at q
      exact q.1.1
  · show ((p.ci_ c).flds.map fun f => (p.fl[f]?).getD Str.empty).length < 1000
    rw [List.length_map]
    unfold Pg.ci_
    cases e : p.ci[c]? with
    | none => exact (by decide : (0 : Nat) < 1000)
    | some i =>
      have q := List.all_eq_true.mp s4 i (List.mem_of_getElem? e)
      simp only [Bool.and_eq_true, decide_eq_true_eq] at q
      exact q.1.2
  · exact He.free_ok KX G (List.all_eq_true.mp x2 x h)
  · obtain ⟨e, hc⟩ := cnx c x h
    have q := cb c hc
    unfold Pg.clsB at q
    simp only [Bool.and_eq_true] at q
    show mg x = some (.ref (He.ga K (p.cnm c)))
    rw [← e]
    exact He.glo_ok KX G q.1.1
  · have h : f ∈ (p.ci_ c).flds := h
    have hi : (p.ci_ c).ins = true := by
      unfold Pg.ci_ at h ⊢
      cases e : p.ci[c]? with
      | none => rw [e] at h; cases h
      | some i =>
        rw [e] at h
        have q := List.all_eq_true.mp s4 i (List.mem_of_getElem? e)
        simp only [Bool.and_eq_true, Bool.or_eq_true, List.isEmpty_iff] at q
        rcases q.2 with z | z
        · have h : f ∈ i.flds := h
          rw [z] at h; cases h
        · exact z
    obtain ⟨⟨⟨⟨q1, q2⟩, q3⟩, q4⟩, q5⟩ := insF c hi
    exact ⟨He.cls_ok q1, He.noat_ok (List.all_eq_true.mp q4 f h)⟩
  · obtain ⟨⟨⟨⟨q1, q2⟩, q3⟩, q4⟩, q5⟩ := insF d h
    exact insB_ok q1 q2
  · obtain ⟨⟨⟨⟨q1, q2⟩, q3⟩, q4⟩, q5⟩ := insF d h1
    have z := all_range q5 (small c (.inl h2))
    have h2 : (p.ci_ c).ins = true := h2
    simp only [h2, Bool.not_true, Bool.false_or, decide_eq_true_eq] at z
    exact z
  · have h : (p.gl.map (·.1))[g]? = some x := h
    rw [List.getElem?_map] at h
    cases e : p.gl[g]? with
    | none => rw [e] at h; cases h
    | some y =>
      rw [e] at h
      cases h
      have q := List.all_eq_true.mp x3 y (List.mem_of_getElem? e)
      have eg : (p.ct.B.glo g) = y.2 := by
        show ((p.gl[g]?).map (·.2)).getD .non = y.2
        rw [e]; rfl
      rw [eg]
      unfold gloB at q
      split at q
      · rename_i i ed
        obtain ⟨t, m⟩ := He.int_ok KX G q
        exact ⟨_, .int i, m, ⟨t, rfl⟩, fun F H => by rw [ed]; simp [Rep]⟩
      · rename_i z ed
        obtain ⟨t, m⟩ := He.str_ok KX G q
        exact ⟨_, .str ⟨z.toArray⟩, m, ⟨t, rfl⟩, fun F H => by rw [ed]; simp [Rep]⟩
      · cases q
  · have h : p.fn[q]? = some x := h
    obtain ⟨hq, _⟩ := List.getElem?_eq_some_iff.mp h
    have z := all_range s3 hq
    cases e : p.ds[q]? with
    | none => rw [e] at z; cases z
    | some d =>
      rw [e] at z
      simp only [Bool.and_eq_true, decide_eq_true_eq, Option.isNone_iff_eq_none] at z
      rw [h] at z
      have en : x = d.name := Option.some.inj z.2
      refine ⟨d, rfl, ?_⟩
      show mg x = some (.ref (He.fAd K d.at_))
      have : He.fAd K d.at_ = He.ga K x := by
        unfold Df.at_
        rw [z.1, ← en]; rfl
      rw [this]
      exact He.glo_ok KX G (List.all_eq_true.mp x1 x (List.mem_of_getElem? h))
  · have h : p.mn[m]? = some x := h
    have h2 : (p.mt.find? fun t => t.1 == c && t.2.1 == m).map (·.2.2) = some q := h2
    obtain ⟨t, ht, rfl⟩ := Option.map_eq_some_iff.mp h2
    have hm := List.mem_of_find?_eq_some ht
    have hp := List.find?_some ht
    simp only [Bool.and_eq_true, beq_iff_eq] at hp
    obtain ⟨e1, e2⟩ := hp
    have a := List.all_eq_true.mp s5 t hm
    simp only [Bool.and_eq_true, decide_eq_true_eq, Bool.not_eq_true', decide_eq_false_iff_not] at a
    obtain ⟨⟨⟨a1, a2⟩, a3⟩, a4⟩ := a
    have b := List.all_eq_true.mp x5 t hm
    unfold Pg.mtB at b
    rw [e1] at a3 a4 b
    rw [e2, h] at a4 b
    simp only [Bool.and_eq_true] at b
    cases e : p.ds[t.2.2]? with
    | none => rw [e] at a1; cases a1
    | some d =>
      rw [e] at b
      obtain ⟨⟨⟨⟨q1, q2⟩, q3⟩, q4⟩, q5⟩ := insF c a3
      refine ⟨d, rfl, He.cls_ok q1, ?_, a4⟩
      have eb : He.ma K (He.ga K (p.cnm c)) x = He.fAd K d.at_ := of_decide_eq_true b.2
      show Meth K (He.ga K (p.cnm c)) x (He.fAd K d.at_)
      rw [← eb]
      exact He.meth_ok b.1
  · obtain ⟨⟨⟨⟨q1, q2⟩, q3⟩, q4⟩, q5⟩ := insF c h1
    have h2 : (p.ci_ c).init = none := h2
    rw [h2] at q3
    have q3 : mk0B K (He.ga K (p.cnm c)) = true := q3
    exact mk0B_ok q3
  · obtain ⟨⟨⟨⟨q1, q2⟩, q3⟩, q4⟩, q5⟩ := insF c h1
    have h2 : (p.ci_ c).init = some q := h2
    rw [h2] at q3
    cases e : p.ds[q]? with
    | none =>
      simp only [e, Bool.and_false] at q3
      cases q3
    | some d =>
      simp only [e, Bool.and_eq_true, decide_eq_true_eq] at q3
      refine ⟨d, rfl, ?_⟩
      show Mk K (He.ga K (p.cnm c)) (He.fAd K d.at_)
      rw [← q3.2]
      exact He.mkr_ok q3.1
  · obtain ⟨⟨⟨q1, q2⟩, q3⟩, q4⟩ := excF c h
    obtain ⟨z1, z2, z3, z4⟩ := He.exc_ok q1
    exact ⟨⟨_, _, _, _, PySem.F.excBase_ValueError, z1⟩, z2, z3, z4⟩
  · obtain ⟨⟨⟨q1, q2⟩, q3⟩, q4⟩ := excF d h1
    have z := all_range q3 (small c (.inr h2))
    have h2 : (p.ci_ c).exn = true := h2
    simp only [h2, Bool.not_true, Bool.false_or, decide_eq_true_eq, Bool.and_eq_true] at z
    exact z.1
  · obtain ⟨⟨⟨q1, q2⟩, q3⟩, q4⟩ := excF d h
    refine ⟨excB_ok q2, fun c h2 => ?_, of_decide_eq_true q4⟩
    have z := all_range q3 (small c (.inr h2))
    have h2 : (p.ci_ c).exn = true := h2
    simp only [h2, Bool.not_true, Bool.false_or, decide_eq_true_eq, Bool.and_eq_true] at z
    exact z.2
  · have e : (p.ds.map Df.toD)[q]? = some d.toD := by rw [List.getElem?_map, h]; rfl
    exact sd.def_ q e
  · exact List.all_eq_true.mp s1 d h
  · have hs : p.sn.contains q = true := hs
    have q0 := List.all_eq_true.mp s0 q (by simpa using hs)
    rw [h] at q0
    exact q0
/-! ### the head -/
def obsZ (n : Nat) (p : Pg) (g : Addr → Option Obj) : He.AlD × Bool := (He.obsDG n [] (p.ds.map Df.toD) g, p.xs (He.frG g (He.asD g n)))
def hookZ (n : Nat) (p : Pg) : PySem.W.Hook where
  α := He.AlD × Bool
  obs := fun s => obsZ n p s.heap.get?
  val := fun _ => (He.valD (p.ds.map Df.toD), true)
  says := fun _ h => ∃ K : PySem.W.Frag, K.In h ∧ He.SaysD [] (p.ds.map Df.toD) K ∧ p.xs K = true
  of := fun _ _ e => ⟨_, He.frG_in, congrArg Prod.fst e, congrArg Prod.snd e⟩
  keeps := fun _ _ _ ⟨K, hK, c⟩ k => ⟨K, PySem.W.Frag.In.keeps hK k, c⟩
def obZ (n : Nat) (p : Pg) (s : PySem.W.SharedT) : He.AlD × Bool := obsZ n p (HandSHeadRun.getT s)
theorem obZ_eq (n : Nat) (p : Pg) (s : PySem.W.SharedT) : obZ n p s = (hookZ n p).obs s.abs := by
  have e : HandSHeadRun.getT s = s.abs.heap.get? := funext fun a => HandSHeadRun.getT_eq s a
  show obsZ n p (HandSHeadRun.getT s) = obsZ n p s.abs.heap.get?
  rw [e]
/-- no exception leaves: the wish at the top -/
theorem FnOk.top {P : Program} {w : World} {K : PySem.W.Frag} {mg : Str → Option Value} {base : Heap} {k : Nat} {f : Addr} {fd : FuncData} {ps : List Str} {sp : Sp} (F : FnOk P w K mg base (L2.CX P w) k f fd ps sp) :
    FnOk P w K mg base L2.CX0 k f fd ps (fun vs H Q _ => sp vs H Q fun _ _ _ => False) :=
  ⟨fun vs H Q E h => F.len vs H Q _ h, fun A outer s H args us vs Q E hr he hb hv h => codeAny_mono (F.run A outer s H args us vs Q _ hr he hb hv h) fun r s' z => by
    cases r with
    | ok fl => cases fl <;> exact z
    | error e =>
      obtain ⟨a, B, H', cls, d, _, _, _, _, _, _, _, w⟩ := z
      exact w.elim⟩
/-- the law's def at a script -/
theorem sp_law {Z : Cd} {Φ : CallF} {q : Nat} {H : Hp} {a : Addr} {ns : List Int} (hS : SqL Z.K H a (ns.map V.int)) (h : ∃ outs, Φ q [.v (.lst (ns.map .int)) false] = .ok (.v (.bl true)) outs) :
    spF Z Φ q [.ref a] H (fun v _ => v = .bl true) fun _ _ _ => False := by
  obtain ⟨outs, h⟩ := h
  have hr : ∀ (F : Addr → Prop) (H : Hp) (ns : List Int), RepA Z F H (ns.map .int) (ns.map V.int) := fun F H ns => by
    induction ns with
    | nil => exact .nil_
    | cons n ns ih => exact .cons_ (by simp [Rep]) ih
  refine ⟨fun b => b = a ∧ H a ≠ none, [.v (.lst (ns.map .int)) false], ⟨fun b hb => by rw [hb.1]; exact hb.2, rfl, fun i => ?_, fun i j b n h1 h2 => ?_⟩, fun j w => ?_, ?_⟩
  · cases i with
    | zero =>
      refine ⟨.ref a, rfl, ?_⟩
      simp only [Rep]
      refine ⟨a, _, rfl, ?_, hr _ _ _⟩
      rcases hS with hS | hS
      · refine .inl ⟨⟨rfl, ?_⟩, hS⟩
        rcases hS with hS | ⟨o, hS⟩ <;> rw [hS] <;> simp
      · exact .inr hS
    | succ i => trivial
  · cases i with
    | zero => exact absurd h1 oa_v
    | succ i => exact absurd h1 oa_u
  · cases j with
    | zero => exact ⟨nofun, nofun⟩
    | succ j => exact ⟨nofun, nofun⟩
  · rw [h]
    intro v H' F' _ _ r
    exact r
/-- what the end wants, of any law -/
theorem F_any {p : Pg} {depth k q : Nat} {d : Df} {x : Str} (st : p.stat = true) (hq : p.ds[q]? = some d) (hfn : p.fn[q]? = some "law") (hx : d.N.take d.np = [x])
    (law : ∀ ns : List Int, ns.length ≤ 63 → ∃ outs, cal p.tb (Tof p.ds) k q [.v (.lst (ns.map .int)) false] = .ok (.v (.bl true)) outs) (P : Program) (w : World) (mg : Str → Option Value) (fa : Addr) (h : Heap) (Y : (hookZ depth p).says w h) (G : h.Ns mainGlobals mg) (hmg : mg ("law" : Str) = some (.ref fa)) :
    ∃ (K : PySem.W.Frag) (fd : FuncData) (sp : Sp), K.In h ∧ (∀ (s : Shared) (u : Value), BindsTo s fd ⟨[u], []⟩ [(x, u)]) ∧
      (∀ (H : Hp) (a : Addr) (ns : List Int), ns.length ≤ 63 → Only H → SqL K H a (ns.map V.int) → sp [.ref a] H (fun v _ => v = .bl true) fun _ _ _ => False) ∧
      ∀ base : Heap, K.In base → base.Ns mainGlobals mg → FnOk P w K mg base L2.CX0 (2 * k) fa fd [x] sp := by
  obtain ⟨K, KX, sd, xs⟩ := Y
  have pf := pf_of KX G st xs sd
  obtain ⟨d', hd', hm⟩ := pf.fns q "law" hfn
  rw [hq] at hd'
  cases hd'
  rw [hmg] at hm
  have efa : fa = He.fAd K d.at_ := Value.ref.inj (Option.some.inj hm)
  subst efa
  obtain ⟨fd, F⟩ := pf.defs q d hq
  refine ⟨K, fd, fun vs H Q _ => spF (p.cd K) (cal p.tb (Tof p.ds) k) q vs H Q fun _ _ _ => False, KX, fun s u => ?_, fun H a ns hl _ hS => sp_law hS (law ns hl), fun base _ _ => ?_⟩
  · have z := Df.binds (pf.ok d (List.mem_of_getElem? hq)) F [u] (by rw [hx]; rfl)
    rw [hx] at z
    exact .of_eq z
  · have z := (pg_ok (P := P) (w := w) (base := base) pf k q d fd hq F).1
    rw [hx] at z
    exact FnOk.top z
/-- .. of a law that looks at the size of its numbers -/
theorem F_anyB {p : Pg} {depth k q : Nat} {d : Df} {x : Str} (st : p.stat = true) (hq : p.ds[q]? = some d) (hfn : p.fn[q]? = some "law") (hx : d.N.take d.np = [x])
    (law : ∀ ns : List Int, ns.length ≤ 63 → (∀ z ∈ ns, Builtin.Int.intBits z ≤ 1048576) → ∃ outs, cal p.tb (Tof p.ds) k q [.v (.lst (ns.map .int)) false] = .ok (.v (.bl true)) outs) (P : Program) (w : World) (mg : Str → Option Value) (fa : Addr) (h : Heap) (Y : (hookZ depth p).says w h) (G : h.Ns mainGlobals mg) (hmg : mg ("law" : Str) = some (.ref fa)) :
    ∃ (K : PySem.W.Frag) (fd : FuncData) (sp : Sp), K.In h ∧ (∀ (s : Shared) (u : Value), BindsTo s fd ⟨[u], []⟩ [(x, u)]) ∧
      (∀ (H : Hp) (a : Addr) (ns : List Int), ns.length ≤ 63 → (∀ z ∈ ns, Builtin.Int.intBits z ≤ 1048576) → Only H → SqL K H a (ns.map V.int) → sp [.ref a] H (fun v _ => v = .bl true) fun _ _ _ => False) ∧
      ∀ base : Heap, K.In base → base.Ns mainGlobals mg → FnOk P w K mg base L2.CX0 (2 * k) fa fd [x] sp := by
  obtain ⟨K, KX, sd, xs⟩ := Y
  have pf := pf_of KX G st xs sd
  obtain ⟨d', hd', hm⟩ := pf.fns q "law" hfn
  rw [hq] at hd'
  cases hd'
  rw [hmg] at hm
  have efa : fa = He.fAd K d.at_ := Value.ref.inj (Option.some.inj hm)
  subst efa
  obtain ⟨fd, F⟩ := pf.defs q d hq
  refine ⟨K, fd, fun vs H Q _ => spF (p.cd K) (cal p.tb (Tof p.ds) k) q vs H Q fun _ _ _ => False, KX, fun s u => ?_, fun H a ns hl hbits _ hS => sp_law hS (law ns hl hbits), fun base _ _ => ?_⟩
  · have z := Df.binds (pf.ok d (List.mem_of_getElem? hq)) F [u] (by rw [hx]; rfl)
    rw [hx] at z
    exact .of_eq z
  · have z := (pg_ok (P := P) (w := w) (base := base) pf k q d fd hq F).1
    rw [hx] at z
    exact FnOk.top z
/-- the end of a law whose numbers' sizes are looked at -/
theorem walk_bits {l : PySem.W.OpenLaw} {k : Nat} {q : Program} {loose : List Str} {XP : (Str → Option Value) → Heap → Prop} {YP : World → Heap → Prop} {d : DefRec} {x : Str} (hn : l.most = some 63) (hdf : d.params.defaults = []) (hr : Room k callerA)
    (F : ∀ (w : World) (mg : Str → Option Value) (fa : Addr) (h : Heap), YP w h → h.Ns mainGlobals mg → mg d.name = some (.ref fa) → ∃ (K : PySem.W.Frag) (fd : FuncData) (sp : Sp), K.In h ∧ (∀ (s : Shared) (u : Value), BindsTo s fd ⟨[u], []⟩ [(x, u)]) ∧ (∀ (H : Hp) (a : Addr) (ns : List Int), ns.length ≤ 63 → (∀ z ∈ ns, Builtin.Int.intBits z ≤ 1048576) → Only H → SqL K H a (ns.map V.int) → sp [.ref a] H (fun v _ => v = .bl true) fun _ _ _ => False) ∧ ∀ base : Heap, K.In base → base.Ns mainGlobals mg → FnOk l.prog w K mg base L2.CX0 k fa fd [x] sp) :
    PySem.W.WalkO q loose XP YP l.row.toRowW d [] (fun f vs => PySem.call f vs) :=
  Att.attach_callB hn hdf fun w _ s mg _ fa _ _ _ _ a vs ns G Y _ _ _ hmg hobj hints hlen hbits hg =>
    let ⟨_, _, _, KX, hb, hsp, hF⟩ := F w mg fa _ Y G.T.g hmg
    law_call KX G.T.g G.T.b G.T.builtins G.T.nolimit hg hobj hints (Nat.le_trans hlen (by decide)) hr hF hb (fun H hO hS => hsp H a ns hlen hbits hO hS) fun _ _ _ z => z
/-- a statement of the text, of a class in it -/
def topS (p : Program) (i : Nat) : Stmt := p.main.body.getD i (.Pass ⟨0, 0, 0, 0⟩)
def metS (p : Program) (i j : Nat) : Stmt := match topS p i with
  | .ClassDef (body := b) .. => b.getD j (.Pass ⟨0, 0, 0, 0⟩)
  | s => s
end Z

/-! runs: loops, calls -/
namespace Z
open PySem
section
variable {c : Env → Out (List R)} {b : Env → Out Fl}
theorem whN_mono : ∀ (n : Nat) (ρ : Env), whN c b n ρ ≠ .st → whN c b (n + 1) ρ = whN c b n ρ
  | 0, ρ, h => absurd rfl h
  | n + 1, ρ, h => by
    unfold whN at h ⊢
    cases e : c ρ with
    | st => rw [e] at h; exact absurd rfl h
    | ex k ρ1 => rfl
    | ok rs ρ1 =>
      rw [e] at h
      match rs, h with
      | [], h => exact absurd rfl h
      | _ :: _ :: _, h => exact absurd rfl h
      | [r], h =>
        cases r with
        | o w => exact absurd rfl h
        | w i => exact absurd rfl h
        | v d =>
          cases d with
          | bl k =>
            cases k with
            | false => rfl
            | true =>
              simp only [Out.one, Out.bnd] at h ⊢
              cases e2 : b ρ1 with
              | st => rfl
              | ex k ρ2 => rfl
              | ok f ρ2 =>
                rw [e2] at h
                cases f with
                | nx => exact whN_mono n ρ2 h
                | cont => exact whN_mono n ρ2 h
                | brk => rfl
                | ret r => rfl
          | _ => exact absurd rfl h
theorem whN_le {n m : Nat} {ρ : Env} (h : whN c b n ρ ≠ .st) (l : n ≤ m) : whN c b m ρ = whN c b n ρ := by
  obtain ⟨k, rfl⟩ := Nat.le.dest l
  clear l
  induction k with
  | zero => rfl
  | succ k ih => rw [show n + (k + 1) = n + k + 1 from rfl, whN_mono (n + k) ρ (by rw [ih]; exact h), ih]
theorem whC_of {n : Nat} {ρ : Env} (h : whN c b n ρ ≠ .st) : whC c b ρ = whN c b n ρ := by
  unfold whC
  have e : ∃ n, whN c b n ρ ≠ .st := ⟨n, h⟩
  rw [dif_pos e]
  have h2 := Classical.choose_spec e
  rcases Nat.le_total n (Classical.choose e) with l | l
  · exact whN_le h l
  · exact (whN_le h2 l).symm
/-- one turn of a while -/
theorem whC_eq (ρ : Env) : whC c b ρ = (c ρ).one fun r ρ1 => match r with
    | .v (.bl true) => (match b ρ1 with
      | .ok .nx ρ2 => whC c b ρ2
      | .ok .cont ρ2 => whC c b ρ2
      | .ok .brk ρ2 => .ok .nx ρ2
      | o => o)
    | .v (.bl false) => .ok .nx ρ1
    | _ => .st := by
  by_cases h : ∃ n, whN c b n ρ ≠ .st
  · obtain ⟨n, h⟩ := h
    rw [whC_of h]
    cases n with
    | zero => exact absurd rfl h
    | succ n =>
      unfold whN at h ⊢
      cases e : c ρ with
      | st => rfl
      | ex k ρ1 => rfl
      | ok rs ρ1 =>
        rw [e] at h
        match rs, h with
        | [], h => rfl
        | _ :: _ :: _, h => rfl
        | [r], h =>
          cases r with
          | o w => rfl
          | w i => rfl
          | v d =>
            cases d with
            | bl k =>
              cases k with
              | false => rfl
              | true =>
                simp only [Out.one, Out.bnd] at h ⊢
                cases e2 : b ρ1 with
                | st => rfl
                | ex k ρ2 => rfl
                | ok f ρ2 =>
                  rw [e2] at h
                  cases f with
                  | nx => exact (whC_of h).symm
                  | cont => exact (whC_of h).symm
                  | brk => rfl
                  | ret r => rfl
            | _ => rfl
  · have e0 : whC c b ρ = .st := by
      unfold whC
      rw [dif_neg h]
    rw [e0]
    have all : ∀ n, whN c b n ρ = .st := fun n => Classical.byContradiction fun q => h ⟨n, q⟩
    cases e : c ρ with
    | st => rfl
    | ex k ρ1 => have := all 1; unfold whN at this; rw [e] at this; cases this
    | ok rs ρ1 =>
      match rs, e with
      | [], e => rfl
      | _ :: _ :: _, e => rfl
      | [r], e =>
        cases r with
        | o w => rfl
        | w i => rfl
        | v d =>
          cases d with
          | bl k =>
            cases k with
            | false => have := all 1; unfold whN at this; rw [e] at this; cases this
            | true =>
              have a2 : ∀ n, (match b ρ1 with
                  | .ok .nx ρ2 => whN c b n ρ2
                  | .ok .cont ρ2 => whN c b n ρ2
                  | .ok .brk ρ2 => .ok .nx ρ2
                  | o => o) = .st := fun n => by
                have := all (n + 1)
                unfold whN at this
                rw [e] at this
                exact this
              simp only [Out.one, Out.bnd]
              cases e2 : b ρ1 with
              | st => rfl
              | ex k ρ2 => have := a2 0; rw [e2] at this; exact this.symm
              | ok f ρ2 =>
                rw [e2] at a2
                cases f with
                | nx =>
                  have : ¬ ∃ n, whN c b n ρ2 ≠ .st := fun ⟨n, q⟩ => q (a2 n)
                  show Out.st = whC c b ρ2
                  unfold whC
                  rw [dif_neg this]
                | cont =>
                  have : ¬ ∃ n, whN c b n ρ2 ≠ .st := fun ⟨n, q⟩ => q (a2 n)
                  show Out.st = whC c b ρ2
                  unfold whC
                  rw [dif_neg this]
                | brk => have := a2 0; exact this.symm
                | ret r => have := a2 0; exact this.symm
          | _ => rfl
end
/-- a call, one deeper -/
theorem cal_eq {B : Tb} {T : Nat → Option Fn} {F : Fn} {n q : Nat} {ss : List Sl} (h : T q = some F) : cal B T (n + 1) q ss = runF B (cal B T n) F ss := by
  show (match T q with
    | some F => runF B (cal B T n) F ss
    | none => .st) = _
  rw [h]
end Z

/-! how a run is reckoned: one row a form -/
namespace Z
open PySem
section
variable {B : Tb} {Φ : CallF} {ρ ρ1 ρ2 : Env} {a b c : E} {d e : D} {r x y : R} {w : Ow}
@[simp] theorem gt0 {s : Sl} : gt (s :: ρ) 0 = s := rfl
@[simp] theorem gtS {s : Sl} {i : Nat} : gt (s :: ρ) (i + 1) = gt ρ i := rfl
@[simp] theorem pt0 {s t : Sl} : pt (s :: ρ) 0 t = t :: ρ := rfl
@[simp] theorem ptS {s t : Sl} {i : Nat} : pt (s :: ρ) (i + 1) t = s :: pt ρ i t := rfl
def rdV (s : Sl) (i : Nat) (ρ : Env) : Out (List R) := match s with
  | .v d _ => .ok [.v d] ρ
  | .o _ _ => .ok [.w i] ρ
  | .k _ _ => .ok [.w i] ρ
  | _ => .st
@[simp] theorem rdV_v {i : Nat} {f : Bool} : rdV (.v d f) i ρ = .ok [.v d] ρ := rfl
@[simp] theorem rdV_o {i : Nat} {f : Bool} : rdV (.o w f) i ρ = .ok [.w i] ρ := rfl
@[simp] theorem rdV_k {i : Nat} {f : Bool} : rdV (.k w f) i ρ = .ok [.w i] ρ := rfl
def drS (s : Sl) : Option D := match s with
  | .v d _ => some d
  | .o w _ => some w.d
  | .k w _ => some w.d
  | _ => none
@[simp] theorem drS_v {f : Bool} : drS (.v d f) = some d := rfl
@[simp] theorem drS_o {f : Bool} : drS (.o w f) = some w.d := rfl
@[simp] theorem drS_k {f : Bool} : drS (.k w f) = some w.d := rfl
@[simp] theorem dr_v : dr ρ (.v d) = some d := rfl
@[simp] theorem dr_o : dr ρ (.o w) = some w.d := rfl
@[simp] theorem dr_w {i : Nat} : dr ρ (.w i) = drS (gt ρ i) := rfl
@[simp] theorem Ow_d {ds : List D} : (Ow.L ds).d = .lst ds := rfl
@[simp] theorem one_ok {β : Type} {f : R → Env → Out β} : (Out.ok [r] ρ).one f = f r ρ := rfl
@[simp] theorem one_ex {β : Type} {k : Nat} {f : R → Env → Out β} : (Out.ex k ρ).one f = .ex k ρ := rfl
@[simp] theorem one_st {β : Type} {f : R → Env → Out β} : (Out.st).one f = .st := rfl
@[simp] theorem bnd_ok {α β : Type} {z : α} {f : α → Env → Out β} : (Out.ok z ρ).bnd f = f z ρ := rfl
@[simp] theorem bnd_ex {α β : Type} {k : Nat} {f : α → Env → Out β} : (Out.ex k ρ).bnd f = .ex k ρ := rfl
@[simp] theorem bnd_st {α β : Type} {f : α → Env → Out β} : (Out.st).bnd f = .st := rfl
@[simp] theorem one_if {β : Type} {f : R → Env → Out β} {p : Prop} [Decidable p] {u v : Out (List R)} : (if p then u else v).one f = if p then u.one f else v.one f := by split <;> rfl
@[simp] theorem bnd_if {α β : Type} {f : α → Env → Out β} {p : Prop} [Decidable p] {u v : Out α} : (if p then u else v).bnd f = if p then u.bnd f else v.bnd f := by split <;> rfl
@[simp] theorem ofO_some : ofO (some r) ρ = .ok [r] ρ := rfl
@[simp] theorem ofO_none : ofO none ρ = .st := rfl
@[simp] theorem ofO_if {p : Prop} [Decidable p] {u v : Option R} : ofO (if p then u else v) ρ = if p then ofO u ρ else ofO v ρ := by split <;> rfl
@[simp] theorem ap1_v {f : D → Option R} : ap1 (.ok [.v d] ρ) f = ofO (f d) ρ := rfl
@[simp] theorem ap1_o {f : D → Option R} : ap1 (.ok [.o w] ρ) f = ofO (f w.d) ρ := rfl
def apD (o : Option D) (f : D → Option R) (ρ : Env) : Out (List R) := match o with
  | some d => ofO (f d) ρ
  | none => .st
@[simp] theorem apD_some {f : D → Option R} : apD (some d) f ρ = ofO (f d) ρ := rfl
@[simp] theorem ap1_w {i : Nat} {f : D → Option R} : ap1 (.ok [.w i] ρ) f = apD (drS (gt ρ i)) f ρ := rfl
@[simp] theorem ap1_ex {k : Nat} {f : D → Option R} : ap1 (.ex k ρ) f = .ex k ρ := rfl
@[simp] theorem ap1_st {f : D → Option R} : ap1 .st f = .st := rfl
@[simp] theorem ap1_if {f : D → Option R} {p : Prop} [Decidable p] {u v : Out (List R)} : ap1 (if p then u else v) f = if p then ap1 u f else ap1 v f := by split <;> rfl
def ap2b (x : R) (o : Out (List R)) (f : D → D → Option R) : Out (List R) := o.one fun y ρ2 => match dr ρ2 x, dr ρ2 y with
  | some d, some e => ofO (f d e) ρ2
  | _, _ => .st
def apE (o u : Option D) (f : D → D → Option R) (ρ : Env) : Out (List R) := match o, u with
  | some d, some e => ofO (f d e) ρ
  | _, _ => .st
@[simp] theorem apE_some {f : D → D → Option R} : apE (some d) (some e) f ρ = ofO (f d e) ρ := rfl
@[simp] theorem ap2_ok {q : Env → Out (List R)} {f : D → D → Option R} : ap2 (.ok [x] ρ) q f = ap2b x (q ρ) f := rfl
@[simp] theorem ap2_ex {k : Nat} {q : Env → Out (List R)} {f : D → D → Option R} : ap2 (.ex k ρ) q f = .ex k ρ := rfl
@[simp] theorem ap2_st {q : Env → Out (List R)} {f : D → D → Option R} : ap2 .st q f = .st := rfl
@[simp] theorem ap2_if {q : Env → Out (List R)} {f : D → D → Option R} {p : Prop} [Decidable p] {u v : Out (List R)} : ap2 (if p then u else v) q f = if p then ap2 u q f else ap2 v q f := by split <;> rfl
@[simp] theorem ap2b_ok {f : D → D → Option R} : ap2b x (.ok [y] ρ) f = apE (dr ρ x) (dr ρ y) f ρ := rfl
@[simp] theorem ap2b_ex {k : Nat} {f : D → D → Option R} : ap2b x (.ex k ρ) f = .ex k ρ := rfl
@[simp] theorem ap2b_st {f : D → D → Option R} : ap2b x .st f = .st := rfl
@[simp] theorem ap2b_if {f : D → D → Option R} {p : Prop} [Decidable p] {u v : Out (List R)} : ap2b x (if p then u else v) f = if p then ap2b x u f else ap2b x v f := by split <;> rfl
@[simp] theorem trw_ok {k : Bool} {f : Bool → Env → Out (List R)} : trw (.ok [.v (.bl k)] ρ) f = f k ρ := rfl
@[simp] theorem trw_if {f : Bool → Env → Out (List R)} {p : Prop} [Decidable p] {u v : Out (List R)} : trw (if p then u else v) f = if p then trw u f else trw v f := by split <;> rfl
/-! expressions -/
@[simp] theorem ev_var {i : Nat} : ev B Φ (.var i) ρ = rdV (gt ρ i) i ρ := rfl
@[simp] theorem ev_con : ev B Φ (.con d) ρ = .ok [.v d] ρ := rfl
@[simp] theorem ev_glo {g : Nat} : ev B Φ (.glo g) ρ = .ok [.v (B.glo g)] ρ := rfl
@[simp] theorem ev_bin {op : BOp} : ev B Φ (.bin op a b) ρ = ap2 (ev B Φ a ρ) (ev B Φ b) (binD op) := rfl
def negD (d : D) : Option R := match d with
  | .int i => some (.v (.int (-i)))
  | _ => none
@[simp] theorem negD_int {i : Int} : negD (.int i) = some (.v (.int (-i))) := rfl
@[simp] theorem ev_neg : ev B Φ (.neg a) ρ = ap1 (ev B Φ a ρ) negD := rfl
@[simp] theorem ev_nt : ev B Φ (.nt a) ρ = trw (ev B Φ a ρ) fun b ρ => .ok [.v (.bl (!b))] ρ := rfl
def cmpR (op : COp) (d e : D) : Option R := (cmpD op d e).map fun b => .v (.bl b)
@[simp] theorem ev_cmp {op : COp} : ev B Φ (.cmp op a b) ρ = ap2 (ev B Φ a ρ) (ev B Φ b) (cmpR op) := rfl
def evF (B : Tb) (Φ : CallF) (k : Bool) (t e : E) (ρ : Env) : Out (List R) := if k then ev B Φ t ρ else ev B Φ e ρ
@[simp] theorem ev_and : ev B Φ (.and a b) ρ = trw (ev B Φ a ρ) fun k ρ1 => evF B Φ k b (.con (.bl false)) ρ1 := rfl
@[simp] theorem ev_or : ev B Φ (.or a b) ρ = trw (ev B Φ a ρ) fun k ρ1 => evF B Φ k (.con (.bl true)) b ρ1 := rfl
@[simp] theorem ev_ite : ev B Φ (.ite c a b) ρ = trw (ev B Φ c ρ) fun k ρ1 => evF B Φ k a b ρ1 := rfl
@[simp] theorem evF_t : evF B Φ true a b ρ = ev B Φ a ρ := rfl
@[simp] theorem evF_f : evF B Φ false a b ρ = ev B Φ b ρ := rfl
@[simp] theorem evF_d {p : Prop} [Decidable p] : evF B Φ (decide p) a b ρ = if p then ev B Φ a ρ else ev B Φ b ρ := by
  unfold evF
  by_cases h : p <;> simp [h]
@[simp] theorem evF_n {k : Bool} : evF B Φ (!k) a b ρ = evF B Φ k b a ρ := by cases k <;> rfl
def fzK (o : Option (List D × Env)) (f : List D → Env → Out (List R)) : Out (List R) := match o with
  | some (ds, ρ) => f ds ρ
  | none => .st
@[simp] theorem fzK_some {ds : List D} {f : List D → Env → Out (List R)} : fzK (some (ds, ρ)) f = f ds ρ := rfl
@[simp] theorem ev_tup : ev B Φ (.tup a) ρ = (ev B Φ a ρ).bnd fun rs ρ1 => fzK (fzA ρ1 rs) fun ds ρ2 => .ok [.v (.tup ds)] ρ2 := by
  show Out.bnd _ _ = Out.bnd _ _
  congr 1
@[simp] theorem ev_lst : ev B Φ (.lst a) ρ = (ev B Φ a ρ).bnd fun rs ρ1 => fzK (fzA ρ1 rs) fun ds ρ2 => .ok [.o (.L ds)] ρ2 := by
  show Out.bnd _ _ = Out.bnd _ _
  congr 1
@[simp] theorem fzA_nil : fzA ρ [] = some ([], ρ) := rfl
def fzC (o : Option (D × Env)) (rs : List R) : Option (List D × Env) := match o with
  | some (d, ρ1) => (match fzA ρ1 rs with
      | some (ds, ρ2) => some (d :: ds, ρ2)
      | none => none)
  | none => none
def fzC2 (d : D) (o : Option (List D × Env)) : Option (List D × Env) := match o with
  | some (ds, ρ2) => some (d :: ds, ρ2)
  | none => none
@[simp] theorem fzC2_some {ds : List D} : fzC2 d (some (ds, ρ)) = some (d :: ds, ρ) := rfl
@[simp] theorem fzA_cons {rs : List R} : fzA ρ (r :: rs) = fzC (fz ρ r) rs := rfl
@[simp] theorem fzC_some {rs : List R} : fzC (some (d, ρ)) rs = fzC2 d (fzA ρ rs) := rfl
@[simp] theorem fz_v : fz ρ (.v d) = some (d, ρ) := rfl
@[simp] theorem fz_o : fz ρ (.o w) = some (w.d, ρ) := rfl
def fzS (s : Sl) (i : Nat) (ρ : Env) : Option (D × Env) := match s with
  | .v d _ => some (d, ρ)
  | .o w f => some (w.d, pt ρ i (.v w.d f))
  | _ => none
@[simp] theorem fz_w {i : Nat} : fz ρ (.w i) = fzS (gt ρ i) i ρ := rfl
@[simp] theorem fzS_v {i : Nat} {f : Bool} : fzS (.v d f) i ρ = some (d, ρ) := rfl
@[simp] theorem fzS_o {i : Nat} {f : Bool} : fzS (.o w f) i ρ = some (w.d, pt ρ i (.v w.d f)) := rfl
def idxR (d e : D) : Option R := (idxD d e).map .v
@[simp] theorem ev_idx : ev B Φ (.idx a b) ρ = ap2 (ev B Φ a ρ) (ev B Φ b) idxR := rfl
def slK (o : Option D) (l h : Option Int) (ρ : Env) : Out (List R) := match o with
  | some d => ofO (slD d l h) ρ
  | none => .st
@[simp] theorem slK_some {l h : Option Int} : slK (some d) l h ρ = ofO (slD d l h) ρ := rfl
@[simp] theorem ev_sl : ev B Φ (.sl a b c) ρ = (ev B Φ a ρ).one fun x ρ1 => (partI b.isNil (ev B Φ b ρ1) ρ1).bnd fun l ρ2 => (partI c.isNil (ev B Φ c ρ2) ρ2).bnd fun h ρ3 => slK (dr ρ3 x) l h ρ3 := rfl
@[simp] theorem partI_t {o : Out (List R)} : partI true o ρ = .ok none ρ := rfl
@[simp] theorem partI_f {i : Int} : partI false (.ok [.v (.int i)] ρ1) ρ = .ok (some i) ρ1 := rfl
@[simp] theorem isNil_nil : E.isNil .nil = true := rfl
@[simp] theorem isNil_con : E.isNil (.con d) = false := rfl
@[simp] theorem isNil_var {i : Nat} : E.isNil (.var i) = false := rfl
@[simp] theorem isNil_bin {op : BOp} : E.isNil (.bin op a b) = false := rfl
@[simp] theorem isNil_neg : E.isNil (.neg a) = false := rfl
@[simp] theorem isNil_b1 {k : B1} : E.isNil (.b1 k a) = false := rfl
def callK (B : Tb) (Φ : CallF) (q : Nat) (o : Option (List Sl)) (rs : List R) (ρ : Env) : Out (List R) := match o with
  | some ss => if noDup (wIx rs) then (Φ q ss).back ρ rs else .st
  | none => .st
@[simp] theorem ev_call {q : Nat} : ev B Φ (.call q a) ρ = (ev B Φ a ρ).bnd fun rs ρ1 => callK B Φ q (argA ρ1 rs) rs ρ1 := rfl
@[simp] theorem callK_some {q : Nat} {ss : List Sl} {rs : List R} : callK B Φ q (some ss) rs ρ = if noDup (wIx rs) then (Φ q ss).back ρ rs else .st := rfl
@[simp] theorem back_ok {rs : List R} {outs : List Sl} : (FOut.ok r outs).back ρ rs = .ok [r] (outA ρ rs outs) := rfl
@[simp] theorem back_ex {k : Nat} {rs : List R} {outs : List Sl} : (FOut.ex k outs).back ρ rs = .ex k (outA ρ rs outs) := rfl
@[simp] theorem argA_nil : argA ρ [] = some [] := rfl
def argC (o : Option Sl) (u : Option (List Sl)) : Option (List Sl) := match o with
  | some s => (match u with
      | some ss => some (s :: ss)
      | none => none)
  | none => none
@[simp] theorem argA_cons {rs : List R} : argA ρ (r :: rs) = argC (argS ρ r) (argA ρ rs) := rfl
@[simp] theorem argC_some {s : Sl} {ss : List Sl} : argC (some s) (some ss) = some (s :: ss) := rfl
@[simp] theorem argS_v : argS ρ (.v d) = some (.v d false) := rfl
@[simp] theorem argS_o : argS ρ (.o w) = some (.o w true) := rfl
def argW (s : Sl) : Option Sl := match s with
  | .v d _ => some (.v d false)
  | .o w _ => some (.o w true)
  | .k w _ => some (.k w true)
  | _ => none
@[simp] theorem argS_w {i : Nat} : argS ρ (.w i) = argW (gt ρ i) := rfl
@[simp] theorem argW_v {f : Bool} : argW (.v d f) = some (.v d false) := rfl
@[simp] theorem argW_o {f : Bool} : argW (.o w f) = some (.o w true) := rfl
@[simp] theorem argW_k {f : Bool} : argW (.k w f) = some (.k w true) := rfl
@[simp] theorem wIx_nil : wIx [] = [] := rfl
@[simp] theorem wIx_v {rs : List R} : wIx (.v d :: rs) = wIx rs := rfl
@[simp] theorem wIx_o {rs : List R} : wIx (.o w :: rs) = wIx rs := rfl
@[simp] theorem wIx_w {i : Nat} {rs : List R} : wIx (.w i :: rs) = i :: wIx rs := rfl
@[simp] theorem noDup_nil : noDup [] = true := rfl
@[simp] theorem noDup_cons' {i : Nat} {l : List Nat} : noDup (i :: l) = (!l.contains i && noDup l) := rfl
@[simp] theorem outA_nil {ss : List Sl} : outA ρ [] ss = ρ := by unfold outA; rfl
@[simp] theorem outA_v {rs : List R} {s : Sl} {ss : List Sl} : outA ρ (.v d :: rs) (s :: ss) = outA ρ rs ss := rfl
@[simp] theorem outA_o {rs : List R} {s : Sl} {ss : List Sl} : outA ρ (.o w :: rs) (s :: ss) = outA ρ rs ss := rfl
@[simp] theorem outA_w {i : Nat} {rs : List R} {s : Sl} {ss : List Sl} : outA ρ (.w i :: rs) (s :: ss) = outA (pt ρ i (outS (gt ρ i) s)) rs ss := rfl
@[simp] theorem outS_o {w' : Ow} {f g : Bool} : outS (.o w f) (.o w' g) = .o w' f := rfl
@[simp] theorem outS_ov {f : Bool} : outS (.o w f) (.v d true) = .v d f := rfl
@[simp] theorem outS_k {f : Bool} {s : Sl} : outS (.k w f) s = .k w f := rfl
@[simp] theorem outS_v {f : Bool} {s : Sl} : outS (.v d f) s = .v d f := rfl
def mcK (B : Tb) (Φ : CallF) (m : Nat) (x : R) (as : E) (ρ : Env) : Out (List R) := match x with
  | .v (.obj c vs) => (match B.mth c m with
      | some f => (ev B Φ as ρ).bnd fun rs ρ2 => match argA ρ2 rs with
        | some ss => if noDup (wIx rs) then (Φ f (.v (.obj c vs) false :: ss)).back ρ2 (.v (.obj c vs) :: rs) else .st
        | none => .st
      | none => .st)
  | _ => .st
def mcF (B : Tb) (Φ : CallF) (o : Option Nat) (k : Nat) (vs : List D) (as : E) (ρ : Env) : Out (List R) := match o with
  | some f => (ev B Φ as ρ).bnd fun rs ρ2 => callK B Φ f ((argA ρ2 rs).map (Sl.v (.obj k vs) false :: ·)) (.v (.obj k vs) :: rs) ρ2
  | none => .st
@[simp] theorem ev_mcal {m : Nat} : ev B Φ (.mcal m a b) ρ = (ev B Φ a ρ).one fun x ρ1 => mcK B Φ m x b ρ1 := rfl
@[simp] theorem mcK_v {m k : Nat} {vs : List D} : mcK B Φ m (.v (.obj k vs)) a ρ = mcF B Φ (B.mth k m) k vs a ρ := by
  unfold mcK mcF
  dsimp only
  cases B.mth k m with
  | none => rfl
  | some f =>
    dsimp only
    congr 1; funext rs ρ2
    cases argA ρ2 rs with
    | none => rfl
    | some ss => rfl
@[simp] theorem mcF_some {f k : Nat} {vs : List D} : mcF B Φ (some f) k vs a ρ = (ev B Φ a ρ).bnd fun rs ρ2 => callK B Φ f ((argA ρ2 rs).map (Sl.v (.obj k vs) false :: ·)) (.v (.obj k vs) :: rs) ρ2 := rfl
theorem ev_make_no {k : Nat} (h : (B.cls k).init = none) : ev B Φ (.make k .nil) ρ = .ok [.v (.obj k [])] ρ := by
  simp only [ev, Out.bnd, h]
def mkK (B : Tb) (Φ : CallF) (c : Nat) (o : Option Nat) (rs : List R) (ρ : Env) : Out (List R) := match o with
  | some f => (match argA ρ rs with
      | some ss => if noDup (wIx rs) then (mkO (B.cls c).flds.length c (Φ f (.n c [] :: ss))).back ρ rs else .st
      | none => .st)
  | none => (match rs with
      | [] => .ok [.v (.obj c [])] ρ
      | _ => .st)
def mkA (B : Tb) (Φ : CallF) (c f : Nat) (o : Option (List Sl)) (rs : List R) (ρ : Env) : Out (List R) := match o with
  | some ss => if noDup (wIx rs) then (mkO (B.cls c).flds.length c (Φ f (.n c [] :: ss))).back ρ rs else .st
  | none => .st
@[simp] theorem ev_make {k : Nat} : ev B Φ (.make k a) ρ = (ev B Φ a ρ).bnd fun rs ρ1 => mkK B Φ k (B.cls k).init rs ρ1 := rfl
@[simp] theorem mkK_none {k : Nat} : mkK B Φ k none [] ρ = .ok [.v (.obj k [])] ρ := rfl
@[simp] theorem mkK_some {k f : Nat} {rs : List R} : mkK B Φ k (some f) rs ρ = mkA B Φ k f (argA ρ rs) rs ρ := rfl
@[simp] theorem mkA_some {k f : Nat} {ss : List Sl} {rs : List R} : mkA B Φ k f (some ss) rs ρ = if noDup (wIx rs) then (mkO (B.cls k).flds.length k (Φ f (.n k [] :: ss))).back ρ rs else .st := rfl
@[simp] theorem mkO_ok {n k j : Nat} {vs : List D} {outs : List Sl} : mkO n k (.ok (.v .non) (.n j vs :: outs)) = if j = k ∧ vs.length = n then .ok (.v (.obj k vs)) outs else .st := rfl
@[simp] theorem mkO_ex {n k j : Nat} {s : Sl} {outs : List Sl} : mkO n k (.ex j (s :: outs)) = .ex j outs := rfl
@[simp] theorem outF_n {k : Nat} {vs : List D} : outF (.n k vs) = .n k vs := rfl
def fldK (o : Option Nat) (vs : List D) : Option R := match o with
  | some j => (vs[j]?).map .v
  | none => none
def fldR (B : Tb) (f : Nat) (d : D) : Option R := match d with
  | .obj c vs => fldK ((B.cls c).flds.findIdx? (· == f)) vs
  | _ => none
@[simp] theorem ev_fld {f : Nat} : ev B Φ (.fld a f) ρ = ap1 (ev B Φ a ρ) (fldR B f) := by
  show ap1 _ _ = ap1 _ _
  congr 1
  funext d
  cases d <;> first | rfl | skip
  rename_i c vs
  unfold fldR fldK
  dsimp only
  cases (B.cls c).flds.findIdx? (· == f) <;> rfl
@[simp] theorem fldR_o {f c : Nat} {vs : List D} : fldR B f (.obj c vs) = fldK ((B.cls c).flds.findIdx? (· == f)) vs := rfl
@[simp] theorem fldK_some {j : Nat} {vs : List D} : fldK (some j) vs = (vs[j]?).map .v := rfl
@[simp] theorem ev_b1 {k : B1} : ev B Φ (.b1 k a) ρ = ap1 (ev B Φ a ρ) (b1D k) := rfl
@[simp] theorem ev_b2 {k : B2} : ev B Φ (.b2 k a b) ρ = ap2 (ev B Φ a ρ) (ev B Φ b) (b2D k) := rfl
def isiR (B : Tb) (t : Ty) (d : D) : Option R := (isiD B.ins B.sub t d).map fun b => .v (.bl b)
@[simp] theorem ev_isi {t : Ty} : ev B Φ (.isi a t) ρ = ap1 (ev B Φ a ρ) (isiR B t) := rfl
def isxK (B : Tb) (k : Nat) (s : Sl) (ρ : Env) : Out (List R) := match s with
  | .e d => .ok [.v (.bl (B.sub d k))] ρ
  | _ => .st
@[simp] theorem ev_isx {i k : Nat} : ev B Φ (.isx i k) ρ = isxK B k (gt ρ i) ρ := rfl
@[simp] theorem isxK_e {k n : Nat} : isxK B k (.e n) ρ = .ok [.v (.bl (B.sub n k))] ρ := rfl
@[simp] theorem ev_nil : ev B Φ .nil ρ = .ok [] ρ := rfl
@[simp] theorem ev_cons : ev B Φ (.cons a b) ρ = (ev B Φ a ρ).one fun r ρ1 => (ev B Φ b ρ1).bnd fun rs ρ2 => .ok (r :: rs) ρ2 := rfl
/-! data -/
@[simp] theorem bin_add {i j : Int} : binD .add (.int i) (.int j) = some (.v (.int (i + j))) := rfl
@[simp] theorem bin_sub {i j : Int} : binD .sub (.int i) (.int j) = some (.v (.int (i - j))) := rfl
@[simp] theorem bin_mul {i j : Int} : binD .mul (.int i) (.int j) = if mulOk i j then some (.v (.int (i * j))) else none := rfl
@[simp] theorem bin_fdiv {i j : Int} : binD .fdiv (.int i) (.int j) = if divOk j || bigOk i j then some (.v (.int (i.fdiv j))) else none := rfl
@[simp] theorem bin_mod {i j : Int} : binD .mod (.int i) (.int j) = if j = 0 then none else some (.v (.int (i.fmod j))) := rfl
@[simp] theorem bin_pow {i j : Int} : binD .pow (.int i) (.int j) = if powOk i j then some (.v (.int (i ^ j.toNat))) else none := rfl
@[simp] theorem bin_cat {p q : List D} : binD .add (.lst p) (.lst q) = if p.length + q.length ≤ lim then some (.o (.L (p ++ q))) else none := rfl
@[simp] theorem bin_catT {p q : List D} : binD .add (.tup p) (.tup q) = if p.length + q.length ≤ lim then some (.v (.tup (p ++ q))) else none := rfl
@[simp] theorem bin_catS {p q : List Nat} : binD .add (.str p) (.str q) = if p.length + q.length ≤ lim then some (.v (.str (p ++ q))) else none := rfl
@[simp] theorem cmp_eq {i j : Int} : cmpR .eq (.int i) (.int j) = some (.v (.bl (decide (i = j)))) := by
  show some (R.v (.bl (i == j))) = _
  rfl
@[simp] theorem cmp_ne {i j : Int} : cmpR .ne (.int i) (.int j) = some (.v (.bl (!decide (i = j)))) := by
  show some (R.v (.bl (!(i == j)))) = _
  rfl
@[simp] theorem cmp_lt {i j : Int} : cmpR .lt (.int i) (.int j) = some (.v (.bl (decide (i < j)))) := rfl
@[simp] theorem cmp_le {i j : Int} : cmpR .le (.int i) (.int j) = some (.v (.bl (decide (i ≤ j)))) := rfl
@[simp] theorem cmp_gt {i j : Int} : cmpR .gt (.int i) (.int j) = some (.v (.bl (decide (j < i)))) := rfl
@[simp] theorem cmp_ge {i j : Int} : cmpR .ge (.int i) (.int j) = some (.v (.bl (decide (j ≤ i)))) := rfl
@[simp] theorem cmp_isN : cmpR .is d .non = some (.v (.bl (isNon d))) := by cases d <;> rfl
@[simp] theorem cmp_isnN : cmpR .isn d .non = some (.v (.bl (!isNon d))) := by cases d <;> rfl
@[simp] theorem isNon_n : isNon .non = true := rfl
@[simp] theorem isNon_i {i : Int} : isNon (.int i) = false := rfl
@[simp] theorem isNon_b {i : Bool} : isNon (.bl i) = false := rfl
@[simp] theorem isNon_s {i : List Nat} : isNon (.str i) = false := rfl
@[simp] theorem isNon_t {i : List D} : isNon (.tup i) = false := rfl
@[simp] theorem isNon_l {i : List D} : isNon (.lst i) = false := rfl
@[simp] theorem cmp_isB {p q : Bool} : cmpR .is (.bl p) (.bl q) = some (.v (.bl (decide (p = q)))) := rfl
@[simp] theorem cmp_isnB {p q : Bool} : cmpR .isn (.bl p) (.bl q) = some (.v (.bl (!decide (p = q)))) := rfl
@[simp] theorem cmp_eqS {p q : List Nat} : cmpR .eq (.str p) (.str q) = some (.v (.bl (decide (p = q)))) := by
  show some (R.v (.bl (p == q))) = _
  rw [show (p == q) = decide (p = q) from by rw [Bool.eq_iff_iff]; simp]
@[simp] theorem cmp_neS {p q : List Nat} : cmpR .ne (.str p) (.str q) = some (.v (.bl (!decide (p = q)))) := by
  show some (R.v (.bl (!(p == q)))) = _
  rw [show (p == q) = decide (p = q) from by rw [Bool.eq_iff_iff]; simp]
@[simp] theorem cmp_eqB {p q : Bool} : cmpR .eq (.bl p) (.bl q) = some (.v (.bl (decide (p = q)))) := by cases p <;> cases q <;> rfl
@[simp] theorem cmp_neB {p q : Bool} : cmpR .ne (.bl p) (.bl q) = some (.v (.bl (!decide (p = q)))) := by cases p <;> cases q <;> rfl
@[simp] theorem b1_abs {i : Int} : b1D .abs (.int i) = some (.v (.int (if i < 0 then -i else i))) := rfl
@[simp] theorem b1_lenL {p : List D} : b1D .len (.lst p) = some (.v (.int p.length)) := rfl
@[simp] theorem b1_lenT {p : List D} : b1D .len (.tup p) = some (.v (.int p.length)) := rfl
@[simp] theorem b1_int {i : Int} : b1D .int (.int i) = some (.v (.int i)) := rfl
@[simp] theorem b1_intB {i : Bool} : b1D .int (.bl i) = some (.v (.int (if i then 1 else 0))) := rfl
@[simp] theorem b1_tupL {p : List D} : b1D .tup (.lst p) = some (.v (.tup p)) := rfl
@[simp] theorem b1_tupT {p : List D} : b1D .tup (.tup p) = some (.v (.tup p)) := rfl
@[simp] theorem b1_lstL {p : List D} : b1D .lst (.lst p) = some (.o (.L p)) := rfl
@[simp] theorem b1_lstT {p : List D} : b1D .lst (.tup p) = some (.o (.L p)) := rfl
@[simp] theorem b2_min {i j : Int} : b2D .min (.int i) (.int j) = some (.v (.int (if j < i then j else i))) := rfl
@[simp] theorem b2_max {i j : Int} : b2D .max (.int i) (.int j) = some (.v (.int (if j > i then j else i))) := rfl
@[simp] theorem isi_ii {i : Int} : isiR B .int (.int i) = some (.v (.bl true)) := rfl
@[simp] theorem isi_ib {i : Bool} : isiR B .int (.bl i) = some (.v (.bl true)) := rfl
@[simp] theorem isi_in : isiR B .int .non = some (.v (.bl false)) := rfl
@[simp] theorem isi_bi {i : Int} : isiR B .bool (.int i) = some (.v (.bl false)) := rfl
@[simp] theorem isi_bb {i : Bool} : isiR B .bool (.bl i) = some (.v (.bl true)) := rfl
@[simp] theorem isi_bn : isiR B .bool .non = some (.v (.bl false)) := rfl
@[simp] theorem isi_tt {i : List D} : isiR B .tup (.tup i) = some (.v (.bl true)) := rfl
@[simp] theorem isi_ll {i : List D} : isiR B .lst (.lst i) = some (.v (.bl true)) := rfl
@[simp] theorem isi_ss {i : List Nat} : isiR B .str (.str i) = some (.v (.bl true)) := rfl
@[simp] theorem idx_1 : idxR (.tup [d]) (.int 0) = some (.v d) := rfl
@[simp] theorem idx_20 : idxR (.tup [d, e]) (.int 0) = some (.v d) := rfl
@[simp] theorem idx_21 : idxR (.tup [d, e]) (.int 1) = some (.v e) := rfl
@[simp] theorem idx_30 {g : D} : idxR (.tup [d, e, g]) (.int 0) = some (.v d) := rfl
@[simp] theorem idx_31 {g : D} : idxR (.tup [d, e, g]) (.int 1) = some (.v e) := rfl
@[simp] theorem idx_32 {g : D} : idxR (.tup [d, e, g]) (.int 2) = some (.v g) := rfl
theorem atI_nat {α : Type} {xs : List α} {i : Int} {k : Nat} (hi : i = k) (h : k < xs.length) : L2.atI xs i = some xs[k] := by
  subst hi
  unfold L2.atI L2.ixN
  rw [if_pos (by omega), if_pos (by omega)]
  show xs[Int.toNat (k : Int)]? = some xs[k]
  rw [Int.toNat_natCast, List.getElem?_eq_getElem h]
theorem idx_lst {xs : List D} {i : Int} {k : Nat} (hi : i = k) (h : k < xs.length) : idxR (.lst xs) (.int i) = some (.v xs[k]) := by
  show (L2.atI xs i).map R.v = _
  rw [atI_nat hi h]; rfl
theorem idx_tup {xs : List D} {i : Int} {k : Nat} (hi : i = k) (h : k < xs.length) : idxR (.tup xs) (.int i) = some (.v xs[k]) := by
  show (L2.atI xs i).map R.v = _
  rw [atI_nat hi h]; rfl
theorem cut_take {α : Type} (xs : List α) (k : Nat) : cutD xs none (some (k : Int)) = xs.take k := by
  have e1 : HT.sIx xs.length 0 none = 0 := rfl
  have e2 : HT.sIx xs.length xs.length (some (k : Int)) = min k xs.length := HT.sIx_nat _ _ _
  unfold cutD
  rw [e1, e2]
  simp [List.take_eq_take_iff]
@[simp] theorem sl_lst {xs : List D} {l h : Option Int} : slD (.lst xs) l h = some (.o (.L (cutD xs l h))) := rfl
@[simp] theorem sl_tup {xs : List D} {l h : Option Int} : slD (.tup xs) l h = some (.v (.tup (cutD xs l h))) := rfl
/-! statements -/
section
variable {s t : S} {f : Env → Out Fl} {i j : Nat}
@[simp] theorem exe_skip : exe B Φ .skip ρ = .ok .nx ρ := rfl
@[simp] theorem exe_seq : exe B Φ (.seq s t) ρ = (exe B Φ s ρ).sq (exe B Φ t) := rfl
@[simp] theorem sq_nx : (Out.ok Fl.nx ρ).sq f = f ρ := rfl
@[simp] theorem sq_ret : (Out.ok (Fl.ret r) ρ).sq f = .ok (.ret r) ρ := rfl
@[simp] theorem sq_cont : (Out.ok Fl.cont ρ).sq f = .ok .cont ρ := rfl
@[simp] theorem sq_brk : (Out.ok Fl.brk ρ).sq f = .ok .brk ρ := rfl
@[simp] theorem sq_ex {k : Nat} : (Out.ex k ρ).sq f = .ex k ρ := rfl
@[simp] theorem sq_st : (Out.st).sq f = .st := rfl
@[simp] theorem sq_if {p : Prop} [Decidable p] {u v : Out Fl} : (if p then u else v).sq f = if p then u.sq f else v.sq f := by split <;> rfl
def setK (i : Nat) (r : R) (ρ : Env) : Out Fl := match r with
  | .o w => .ok .nx (pt ρ i (.o w false))
  | r => (match fz ρ r with
      | some (d, ρ2) => .ok .nx (pt ρ2 i (.v d false))
      | none => .st)
@[simp] theorem exe_set : exe B Φ (.set i a) ρ = (ev B Φ a ρ).one (setK i) := rfl
@[simp] theorem setK_v : setK i (.v d) ρ = .ok .nx (pt ρ i (.v d false)) := rfl
@[simp] theorem setK_o : setK i (.o w) ρ = .ok .nx (pt ρ i (.o w false)) := rfl
def setS (i : Nat) (o : Option (D × Env)) : Out Fl := match o with
  | some (d, ρ2) => .ok .nx (pt ρ2 i (.v d false))
  | none => .st
@[simp] theorem setK_w : setK i (.w j) ρ = setS i (fzS (gt ρ j) j ρ) := rfl
@[simp] theorem setS_some : setS i (some (d, ρ)) = .ok .nx (pt ρ i (.v d false)) := rfl
def parK (i j : Nat) (o : Option (List D × Env)) : Out Fl := match o with
  | some ([d, e], ρ3) => .ok .nx (pt (pt ρ3 i (.v d false)) j (.v e false))
  | _ => .st
@[simp] theorem exe_par : exe B Φ (.par i j a b) ρ = (ev B Φ a ρ).one fun x ρ1 => (ev B Φ b ρ1).one fun y ρ2 => parK i j (fzA ρ2 [x, y]) := rfl
@[simp] theorem parK_some : parK i j (some ([d, e], ρ)) = .ok .nx (pt (pt ρ i (.v d false)) j (.v e false)) := rfl
@[simp] theorem exe_ex : exe B Φ (.ex a) ρ = (ev B Φ a ρ).one fun _ ρ1 => .ok .nx ρ1 := rfl
noncomputable def iteK (B : Tb) (Φ : CallF) (s t : S) (r : R) (ρ : Env) : Out Fl := match r with
  | .v (.bl true) => exe B Φ s ρ
  | .v (.bl false) => exe B Φ t ρ
  | _ => .st
@[simp] theorem exe_ite : exe B Φ (.ite a s t) ρ = (ev B Φ a ρ).one (iteK B Φ s t) := by
  show Out.one _ _ = Out.one _ _
  congr 1
@[simp] theorem iteK_t : iteK B Φ s t (.v (.bl true)) ρ = exe B Φ s ρ := rfl
@[simp] theorem iteK_f : iteK B Φ s t (.v (.bl false)) ρ = exe B Φ t ρ := rfl
@[simp] theorem iteK_d {p : Prop} [Decidable p] : iteK B Φ s t (.v (.bl (decide p))) ρ = if p then exe B Φ s ρ else exe B Φ t ρ := by
  by_cases h : p <;> simp [h]
@[simp] theorem iteK_n {k : Bool} : iteK B Φ s t (.v (.bl (!k))) ρ = iteK B Φ t s (.v (.bl k)) ρ := by cases k <;> rfl
def unpK (t : List Nat) (o : Option (D × Env)) : Out Fl := match o with
  | some (d, ρ2) => (match asg (.tup t) d ρ2 with
      | some ρ3 => .ok .nx ρ3
      | none => .st)
  | none => .st
def unpO (o : Option Env) : Out Fl := match o with
  | some ρ3 => .ok .nx ρ3
  | none => .st
@[simp] theorem exe_unp {l : List Nat} : exe B Φ (.unp l a) ρ = (ev B Φ a ρ).one fun r ρ1 => unpK l (fz ρ1 r) := rfl
@[simp] theorem unpK_some {l : List Nat} : unpK l (some (d, ρ)) = unpO (asg (.tup l) d ρ) := rfl
@[simp] theorem unpO_some : unpO (some ρ) = .ok .nx ρ := rfl
def augR (op : BOp) (i : Nat) (d e : D) (ρ : Env) : Out Fl := match augD op d e with
  | some z => .ok .nx (pt ρ i (.v z false))
  | none => .st
def augG (op : BOp) (i : Nat) (d : D) (o : Option D) (ρ : Env) : Out Fl := match o with
  | some g => augR op i d g ρ
  | none => .st
def augS (B : Tb) (Φ : CallF) (op : BOp) (i : Nat) (s : Sl) (e : E) (ρ : Env) : Out Fl := match s with
  | .v d _ => (ev B Φ e ρ).one fun r ρ1 => augG op i d (dr ρ1 r) ρ1
  | _ => .st
@[simp] theorem exe_aug {op : BOp} : exe B Φ (.aug i op a) ρ = augS B Φ op i (gt ρ i) a ρ := by
  unfold augS exe
  cases gt ρ i with
  | v d f =>
    dsimp only
    congr 1
  | _ => rfl
@[simp] theorem augS_v {op : BOp} {f : Bool} : augS B Φ op i (.v d f) a ρ = (ev B Φ a ρ).one fun r ρ1 => augG op i d (dr ρ1 r) ρ1 := rfl
@[simp] theorem augG_some {op : BOp} : augG op i d (some e) ρ = augR op i d e ρ := rfl
@[simp] theorem augR_add {x y : Int} : augR .add i (.int x) (.int y) ρ = .ok .nx (pt ρ i (.v (.int (x + y)) false)) := rfl
@[simp] theorem augR_sub {x y : Int} : augR .sub i (.int x) (.int y) ρ = .ok .nx (pt ρ i (.v (.int (x - y)) false)) := rfl
def setfR (B : Tb) (f : Nat) (s : Sl) (d : D) (ρ : Env) : Out Fl := match s with
  | .n c vs => if (B.cls c).flds[vs.length]? = some f then .ok .nx (pt ρ 0 (.n c (vs ++ [d]))) else .st
  | _ => .st
def setfK (B : Tb) (f : Nat) (o : Option (D × Env)) : Out Fl := match o with
  | some (d, ρ2) => setfR B f (gt ρ2 0) d ρ2
  | none => .st
@[simp] theorem exe_setf {f : Nat} : exe B Φ (.setf f a) ρ = (ev B Φ a ρ).one fun r ρ1 => setfK B f (fz ρ1 r) := by
  show Out.one _ _ = Out.one _ _
  congr 1
@[simp] theorem setfK_some {f : Nat} : setfK B f (some (d, ρ)) = setfR B f (gt ρ 0) d ρ := rfl
@[simp] theorem setfR_n {f c : Nat} {vs : List D} : setfR B f (.n c vs) d ρ = if (B.cls c).flds[vs.length]? = some f then .ok .nx (pt ρ 0 (.n c (vs ++ [d]))) else .st := rfl
@[simp] theorem exe_whl : exe B Φ (.whl a s) ρ = whC (ev B Φ a) (exe B Φ s) ρ := rfl
@[simp] theorem exe_ret : exe B Φ (.ret a) ρ = (ev B Φ a ρ).one fun r ρ1 => .ok (.ret r) ρ1 := rfl
@[simp] theorem exe_retn : exe B Φ .retn ρ = .ok (.ret (.v .non)) ρ := rfl
@[simp] theorem exe_rai {k : Nat} : exe B Φ (.rai k) ρ = .ex k ρ := rfl
@[simp] theorem exe_cont : exe B Φ .cont ρ = .ok .cont ρ := rfl
@[simp] theorem exe_brk : exe B Φ .brk ρ = .ok .brk ρ := rfl
noncomputable def tryK (B : Tb) (Φ : CallF) (c i : Nat) (s : S) (o : Out Fl) : Out Fl := match o with
  | .ex d ρ1 => if B.exn d then (if B.sub d c then outT i (exe B Φ s (pt ρ1 i (.e d))) else .ex d ρ1) else .st
  | o => o
@[simp] theorem exe_try {k : Nat} : exe B Φ (.try s k i t) ρ = tryK B Φ k i t (exe B Φ s ρ) := rfl
@[simp] theorem tryK_ok {k : Nat} {fl : Fl} : tryK B Φ k i t (.ok fl ρ) = .ok fl ρ := rfl
@[simp] theorem tryK_ex {k n : Nat} : tryK B Φ k i t (.ex n ρ) = if B.exn n then (if B.sub n k then outT i (exe B Φ t (pt ρ i (.e n))) else .ex n ρ) else .st := rfl
@[simp] theorem outT_nx : outT i (.ok .nx ρ) = .ok .nx (pt ρ i .u) := rfl
@[simp] theorem outT_cont : outT i (.ok .cont ρ) = .ok .cont (pt ρ i .u) := rfl
@[simp] theorem outT_brk : outT i (.ok .brk ρ) = .ok .brk (pt ρ i .u) := rfl
@[simp] theorem outT_rv : outT i (.ok (.ret (.v d)) ρ) = .ok (.ret (.v d)) (pt ρ i .u) := rfl
@[simp] theorem outT_ro : outT i (.ok (.ret (.o w)) ρ) = .ok (.ret (.o w)) (pt ρ i .u) := rfl
noncomputable def loopK (B : Tb) (Φ : CallF) (t : Tg) (s : S) (o : Option (List D)) (l : List Nat) (ρ : Env) : Out Fl := match o with
  | some xs => mapE (lpL t (exe B Φ s) xs (lkA ρ l)) fun ρ2 => ulA ρ2 l
  | none => .st
def loopD (k : ItK) (o : Option (List D)) : Option (List D) := match o with
  | some ds => itD k ds
  | none => none
@[simp] theorem exe_loop {k : ItK} {tg : Tg} : exe B Φ (.loop k a tg s) ρ = (ev B Φ a ρ).bnd fun rs ρ1 => loopK B Φ tg s (loopD k (drA ρ1 rs)) (owA ρ1 (wIx rs)) ρ1 := by
  show Out.bnd _ _ = Out.bnd _ _
  congr 1; funext rs ρ1
  unfold loopK loopD
  cases drA ρ1 rs with
  | none => rfl
  | some ds => first
    | rfl
    | (cases itD k ds <;> rfl)
    | (dsimp only; cases itD k ds <;> rfl)
@[simp] theorem loopK_some {tg : Tg} {xs : List D} {l : List Nat} : loopK B Φ tg s (some xs) l ρ = mapE (lpL tg (exe B Φ s) xs (lkA ρ l)) fun ρ2 => ulA ρ2 l := rfl
@[simp] theorem loopD_some {k : ItK} {ds : List D} : loopD k (some ds) = itD k ds := rfl
@[simp] theorem drA_nil' : drA ρ [] = some [] := rfl
def drC (o : Option D) (u : Option (List D)) : Option (List D) := match o, u with
  | some d, some ds => some (d :: ds)
  | _, _ => none
@[simp] theorem drA_cons' {rs : List R} : drA ρ (r :: rs) = drC (dr ρ r) (drA ρ rs) := rfl
@[simp] theorem drC_some {ds : List D} : drC (some d) (some ds) = some (d :: ds) := rfl
@[simp] theorem owA_nil : owA ρ [] = [] := rfl
def owC (s : Sl) (i : Nat) (l : List Nat) : List Nat := match s with
  | .o _ _ => i :: l
  | _ => l
@[simp] theorem owA_cons {l : List Nat} : owA ρ (i :: l) = owC (gt ρ i) i (owA ρ l) := rfl
@[simp] theorem owC_o {f : Bool} {l : List Nat} : owC (.o w f) i l = i :: l := rfl
@[simp] theorem owC_v {f : Bool} {l : List Nat} : owC (.v d f) i l = l := rfl
@[simp] theorem owC_k {f : Bool} {l : List Nat} : owC (.k w f) i l = l := rfl
def lkS (s : Sl) (i : Nat) (ρ : Env) : Env := match s with
  | .o w f => pt ρ i (.k w f)
  | _ => ρ
@[simp] theorem lkA_cons {l : List Nat} : lkA ρ (i :: l) = lkA (lkS (gt ρ i) i ρ) l := rfl
@[simp] theorem lkS_o {f : Bool} : lkS (.o w f) i ρ = pt ρ i (.k w f) := rfl
@[simp] theorem lkS_v {f : Bool} : lkS (.v d f) i ρ = ρ := rfl
def ulS (s : Sl) (i : Nat) (ρ : Env) : Env := match s with
  | .k w f => pt ρ i (.o w f)
  | _ => ρ
@[simp] theorem ulA_cons {l : List Nat} : ulA ρ (i :: l) = ulA (ulS (gt ρ i) i ρ) l := rfl
@[simp] theorem ulS_k {f : Bool} : ulS (.k w f) i ρ = pt ρ i (.o w f) := rfl
@[simp] theorem ulS_v {f : Bool} : ulS (.v d f) i ρ = ρ := rfl
@[simp] theorem lkA_nil : lkA ρ [] = ρ := rfl
@[simp] theorem ulA_nil : ulA ρ [] = ρ := rfl
@[simp] theorem mapE_ok {α : Type} {z : α} {g : Env → Env} : mapE (.ok z ρ) g = .ok z (g ρ) := rfl
@[simp] theorem mapE_ex {α : Type} {k : Nat} {g : Env → Env} : mapE (α := α) (.ex k ρ) g = .ex k (g ρ) := rfl
@[simp] theorem lpL_nil {tg : Tg} : lpL tg f [] ρ = .ok .nx ρ := rfl
end
/-! a def's end -/
def finF (np : Nat) (o : Out Fl) : FOut := match o with
  | .ok .nx ρ => .ok (.v .non) ((ρ.take np).map outF)
  | .ok (.ret r) ρ => (match retR ρ r with
      | some (r', ρ') => .ok r' ((ρ'.take np).map outF)
      | none => .st)
  | .ok _ _ => .st
  | .ex c ρ => .ex c ((ρ.take np).map outF)
  | .st => .st
theorem runF_eq {F : Fn} {ss : List Sl} (h : ss.length = F.np) : runF B Φ F ss = finF F.np (exe B Φ F.body (ss ++ List.replicate (F.nn - F.np) .u)) := by
  unfold runF
  rw [if_pos h]
  cases exe B Φ F.body (ss ++ List.replicate (F.nn - F.np) .u) with
  | st => rfl
  | ex c ρ => rfl
  | ok fl ρ => cases fl <;> rfl
@[simp] theorem finF_nx {np : Nat} : finF np (.ok .nx ρ) = .ok (.v .non) ((ρ.take np).map outF) := rfl
@[simp] theorem finF_rv {np : Nat} : finF np (.ok (.ret (.v d)) ρ) = .ok (.v d) ((ρ.take np).map outF) := rfl
@[simp] theorem finF_ro {np : Nat} : finF np (.ok (.ret (.o w)) ρ) = .ok (.o w) ((ρ.take np).map outF) := rfl
def retS (s : Sl) (i : Nat) (ρ : Env) : Option (R × Env) := match s with
  | .o w false => some (.o w, pt ρ i .u)
  | .o w true => some (.v w.d, pt ρ i (.v w.d true))
  | .v d _ => some (.v d, ρ)
  | _ => none
def finR (np : Nat) (o : Option (R × Env)) : FOut := match o with
  | some (r', ρ') => .ok r' ((ρ'.take np).map outF)
  | none => .st
@[simp] theorem finF_rw {np i : Nat} : finF np (.ok (.ret (.w i)) ρ) = finR np (retS (gt ρ i) i ρ) := rfl
@[simp] theorem finR_some {np : Nat} : finR np (some (r, ρ)) = .ok r ((ρ.take np).map outF) := rfl
@[simp] theorem retS_v {i : Nat} {f : Bool} : retS (.v d f) i ρ = some (.v d, ρ) := rfl
@[simp] theorem retS_of {i : Nat} : retS (.o w false) i ρ = some (.o w, pt ρ i .u) := rfl
@[simp] theorem retS_ot {i : Nat} : retS (.o w true) i ρ = some (.v w.d, pt ρ i (.v w.d true)) := rfl
@[simp] theorem finF_ex {np k : Nat} : finF np (.ex k ρ) = .ex k ((ρ.take np).map outF) := rfl
@[simp] theorem finF_if {np : Nat} {p : Prop} [Decidable p] {u v : Out Fl} : finF np (if p then u else v) = if p then finF np u else finF np v := by split <;> rfl
@[simp] theorem outF_vf : outF (.v d false) = .u := rfl
@[simp] theorem outF_vt : outF (.v d true) = .v d true := rfl
@[simp] theorem outF_of : outF (.o w false) = .u := rfl
@[simp] theorem outF_ot : outF (.o w true) = .o w true := rfl
@[simp] theorem outF_kt : outF (.k w true) = .k w true := rfl
@[simp] theorem outF_u' : outF .u = .u := rfl
@[simp] theorem outF_e {k : Nat} : outF (.e k) = .u := rfl
end
/-- a call, reckoned -/
theorem cal_run {B : Tb} {T : Nat → Option Fn} {F : Fn} {n q : Nat} {ss : List Sl} (h : T q = some F) (hl : ss.length = F.np) : cal B T (n + 1) q ss = finF F.np (exe B (cal B T n) F.body (ss ++ List.replicate (F.nn - F.np) .u)) := by
  rw [cal_eq h, runF_eq hl]
@[simp] theorem asg_one {i : Nat} {d : D} {ρ : Env} : asg (.one i) d ρ = some (pt ρ i (.v d false)) := rfl
@[simp] theorem asg_2 {i j : Nat} {d e : D} {ρ : Env} : asg (.tup [i, j]) (.tup [d, e]) ρ = some (pt (pt ρ i (.v d false)) j (.v e false)) := rfl
@[simp] theorem asg_3 {i j k : Nat} {d e g : D} {ρ : Env} : asg (.tup [i, j, k]) (.tup [d, e, g]) ρ = some (pt (pt (pt ρ i (.v d false)) j (.v e false)) k (.v g false)) := rfl
@[simp] theorem asg_2L {i j : Nat} {d e : D} {ρ : Env} : asg (.tup [i, j]) (.lst [d, e]) ρ = some (pt (pt ρ i (.v d false)) j (.v e false)) := rfl
@[simp] theorem asg_3L {i j k : Nat} {d e g : D} {ρ : Env} : asg (.tup [i, j, k]) (.lst [d, e, g]) ρ = some (pt (pt (pt ρ i (.v d false)) j (.v e false)) k (.v g false)) := rfl
@[simp] theorem asg_4 {i j k l : Nat} {d e g c : D} {ρ : Env} : asg (.tup [i, j, k, l]) (.tup [d, e, g, c]) ρ = some (pt (pt (pt (pt ρ i (.v d false)) j (.v e false)) k (.v g false)) l (.v c false)) := rfl
/-- a loop whose turns all end well -/
theorem lpL_inv {t : Tg} {f : Env → Out Fl} (Pv : Nat → Env → Prop) : ∀ (xs : List D) (n : Nat) (ρ : Env), Pv n ρ →
    (∀ i d ρ, xs[i]? = some d → Pv (n + i) ρ → ∃ ρ1 ρ2, asg t d ρ = some ρ1 ∧ (f ρ1 = .ok .nx ρ2 ∨ f ρ1 = .ok .cont ρ2) ∧ Pv (n + i + 1) ρ2) → ∃ ρ', lpL t f xs ρ = .ok .nx ρ' ∧ Pv (n + xs.length) ρ'
  | [], n, ρ, h, _ => ⟨ρ, rfl, h⟩
  | x :: xs, n, ρ, h, hs => by
    obtain ⟨ρ1, ρ2, e1, e2, h2⟩ := hs 0 x ρ rfl h
    obtain ⟨ρ', e3, h3⟩ := lpL_inv Pv xs (n + 1) ρ2 h2 fun i d ρ e q => by
      have := hs (i + 1) d ρ (by simpa using e) (by rw [show n + (i + 1) = n + 1 + i by omega]; exact q)
      rw [show n + (i + 1) + 1 = n + 1 + i + 1 by omega] at this
      exact this
    refine ⟨ρ', ?_, by rw [List.length_cons, show n + (xs.length + 1) = n + 1 + xs.length by omega]; exact h3⟩
    unfold lpL
    rw [e1]
    dsimp only
    rcases e2 with e2 | e2 <;> rw [e2] <;> exact e3
theorem it_rng {n : Int} {k : Nat} (h : n = k) (hl : k ≤ lim) : itD .rng [.int n] = some ((List.range k).map fun i => .int (i : Nat)) := by
  show (if -(lim : Int) ≤ n ∧ n ≤ lim then some ((List.range n.toNat).map fun i => D.int (i : Nat)) else none) = _
  rw [if_pos (by omega), h]
  rfl
theorem it_rng2 {a b : Int} {k : Nat} (h : b - a = k) (h1 : -(lim : Int) ≤ a ∧ a ≤ lim ∧ -(lim : Int) ≤ b ∧ b ≤ lim) : itD .rng2 [.int a, .int b] = some ((List.range k).map fun i => .int (a + (i : Nat))) := by
  show (if -(lim : Int) ≤ a ∧ a ≤ lim ∧ -(lim : Int) ≤ b ∧ b ≤ lim then some ((List.range (b - a).toNat).map fun i => D.int (a + (i : Nat))) else none) = _
  rw [if_pos h1, h]
  rfl
@[simp] theorem it_seqL {xs : List D} : itD .seq [.lst xs] = some xs := rfl
@[simp] theorem it_seqT {xs : List D} : itD .seq [.tup xs] = some xs := rfl
end Z

/-! what many laws reckon alike -/
namespace Z
open PySem
/-! ### sizes -/
theorem big : (10 : Nat) ^ 1000 < 2 ^ 9000 := by decide +kernel
theorem log_lt {i : Int} (h : i.natAbs < 10 ^ 1000) : i.natAbs.log2 < 9000 := by
  by_cases h0 : i = 0
  · rw [h0]; decide
  · exact (Nat.log2_lt (by omega)).mpr (Nat.lt_trans h big)
theorem divOk_of {i : Int} (h0 : i ≠ 0) (h : i.natAbs < 10 ^ 1000) : divOk i = true := by
  unfold divOk
  simp [h0, log_lt h]
theorem mulOk_of {i j : Int} (h : i.natAbs < 10 ^ 1000) (h2 : j.natAbs < 10 ^ 1000) : mulOk i j = true := by
  unfold mulOk
  have := log_lt h
  have := log_lt h2
  simp
  omega
theorem pow_le_big {m n : Nat} (h : n < 10 ^ m) (hm : m ≤ 1000) : n < 10 ^ 1000 := Nat.lt_of_lt_of_le h (Nat.pow_le_pow_right (by decide) hm)
theorem mul_lt_pow {a b : Int} {m n : Nat} (h : a.natAbs < 10 ^ m) (h2 : b.natAbs < 10 ^ n) : (a * b).natAbs < 10 ^ (m + n) := by
  rw [Int.natAbs_mul, Nat.pow_add]
  exact Nat.mul_lt_mul_of_lt_of_le h (Nat.le_of_lt h2) (Nat.pow_pos (by decide))
theorem add_lt_pow {a b : Int} {m : Nat} (h : a.natAbs < 10 ^ m) (h2 : b.natAbs < 10 ^ m) : (a + b).natAbs < 10 ^ (m + 1) := by
  rw [Nat.pow_succ]
  omega
theorem fmod_nn (a : Int) {b : Int} (h : 0 < b) : 0 ≤ a.fmod b ∧ a.fmod b < b := by
  rw [Int.fmod_eq_emod_of_nonneg _ (by omega)]
  exact ⟨Int.emod_nonneg a (by omega), Int.emod_lt_of_pos a h⟩
/-! ### Euclid -/
theorem gcd_fmod (a b : Int) : Int.gcd b (a.fmod b) = Int.gcd a b := by
  rw [Int.fmod_def, Int.gcd_sub_mul_left_right, Int.gcd_comm]
theorem fmod_lt (a b : Int) (h : b ≠ 0) : (a.fmod b).natAbs < b.natAbs := by
  rcases Int.lt_or_gt_of_ne h with h1 | h1
  · have e : a.fmod b = -((-a).fmod (-b)) := by
      rw [Int.fmod_def, Int.fmod_def, Int.neg_fdiv_neg]
      rw [Int.neg_mul]
      omega
    have h2 := fmod_nn (-a) (show 0 < -b by omega)
    omega
  · have h2 := fmod_nn a h1
    omega
theorem gcd_le_left {a b : Int} {m : Nat} (h : a.natAbs < 10 ^ m) (h2 : b.natAbs < 10 ^ m) : Int.gcd a b < 10 ^ m := by
  by_cases h0 : a = 0
  · subst h0
    simpa using h2
  · have : Int.gcd a b ≤ a.natAbs := Nat.le_of_dvd (by omega) (Nat.gcd_dvd_left _ _)
    omega
section
variable {B : Tb} {Φ : CallF}
def L_euclid : S := .seq (.par 0 1 (.var 1) (.bin .mod (.var 0) (.var 1))) .skip
theorem loop_gt : ∀ (m : Nat) (a b : Int), 0 ≤ a → 0 ≤ b → b.toNat ≤ m → whC (ev B Φ (.cmp .gt (.var 1) (.con (.int 0)))) (exe B Φ L_euclid) [.v (.int a) false, .v (.int b) false] = .ok .nx [.v (.int (Int.gcd a b)) false, .v (.int 0) false] := by
  intro m
  induction m with
  | zero =>
    intro a b ha hb hm
    have : b = 0 := by omega
    subst this
    rw [whC_eq]
    simp [Int.natAbs_of_nonneg ha]
  | succ m ih =>
    intro a b ha hb hm
    rw [whC_eq]
    by_cases h0 : b = 0
    · subst h0
      simp [Int.natAbs_of_nonneg ha]
    · have hb1 : 0 < b := by omega
      have e := fmod_nn a hb1
      have q := ih b (a.fmod b) hb (by omega) (by omega)
      rw [gcd_fmod a b] at q
      simp [L_euclid, hb1, h0]
      exact q
theorem loop_ne : ∀ (m : Nat) (a b : Int), b.natAbs ≤ m → ∃ g : Int, g.natAbs = Int.gcd a b ∧ whC (ev B Φ (.cmp .ne (.var 1) (.con (.int 0)))) (exe B Φ L_euclid) [.v (.int a) false, .v (.int b) false] = .ok .nx [.v (.int g) false, .v (.int 0) false] := by
  intro m
  induction m with
  | zero =>
    intro a b hm
    have : b = 0 := by omega
    subst this
    refine ⟨a, by simp, ?_⟩
    rw [whC_eq]
    simp
  | succ m ih =>
    intro a b hm
    by_cases h0 : b = 0
    · subst h0
      refine ⟨a, by simp, ?_⟩
      rw [whC_eq]
      simp
    · have h1 := fmod_lt a b h0
      obtain ⟨g, h2, h3⟩ := ih b (a.fmod b) (by omega)
      refine ⟨g, by rw [h2, gcd_fmod], ?_⟩
      rw [whC_eq]
      simp [L_euclid, h0]
      exact h3
def S_divisor : S := .seq (.set 0 (.b1 .abs (.var 0))) (.seq (.set 1 (.b1 .abs (.var 1))) (.seq (.whl (.cmp .gt (.var 1) (.con (.int 0))) L_euclid) (.seq (.ret (.var 0)) .skip)))
theorem g_divisor (a b : Int) : finF 2 (exe B Φ S_divisor [.v (.int a) false, .v (.int b) false]) = .ok (.v (.int (Int.gcd a b))) [.u, .u] := by
  have e1 : (if a < 0 then -a else a) = a.natAbs := by split <;> omega
  have e2 : (if b < 0 then -b else b) = b.natAbs := by split <;> omega
  simp [S_divisor, e1, e2]
  rw [loop_gt _ _ _ (by omega) (by omega) (Nat.le_refl _)]
  simp
  rfl
def S_ldiv : S := .seq (.whl (.cmp .ne (.var 1) (.con (.int 0))) L_euclid) (.seq (.ret (.b1 .abs (.var 0))) .skip)
theorem g_ldiv (a b : Int) : finF 2 (exe B Φ S_ldiv [.v (.int a) false, .v (.int b) false]) = .ok (.v (.int (Int.gcd a b))) [.u, .u] := by
  obtain ⟨g, hg, hw⟩ := loop_ne (B := B) (Φ := Φ) b.natAbs a b (Nat.le_refl _)
  have e1 : (if g < 0 then -g else g) = (Int.gcd a b : Int) := by rw [← hg]; split <;> omega
  simp [S_ldiv, hw, e1]
def S_whole : S := .seq (.ret (.and (.isi (.var 0) .int) (.nt (.isi (.var 0) .bool)))) .skip
theorem g_whole (a : Int) : finF 1 (exe B Φ S_whole [.v (.int a) false]) = .ok (.v (.bl true)) [.u] := by
  simp [S_whole]
/-! ### the drawn number -/
def num (c : Int) : Int := if c.fmod 3 = 0 then (c.fdiv 3).fmod 19 - 9 else if c.fmod 3 = 1 then (c.fdiv 3).fmod 2000003 - 1000001 else (c.fdiv 3).fmod (2 * 10 ^ 30 - 1) - (10 ^ 30 - 1)
theorem num_le (c : Int) : (num c).natAbs < 10 ^ 30 := by
  unfold num
  split
  · have := fmod_nn (c.fdiv 3) (show (0 : Int) < 19 by omega)
    omega
  · split
    · have := fmod_nn (c.fdiv 3) (show (0 : Int) < 2000003 by omega)
      omega
    · have := fmod_nn (c.fdiv 3) (show (0 : Int) < 2 * 10 ^ 30 - 1 by omega)
      omega
def S_number : S := .seq (.ite (.cmp .eq (.bin .mod (.var 0) (.con (.int 3))) (.con (.int 0))) (.seq (.ret (.bin .sub (.bin .mod (.bin .fdiv (.var 0) (.con (.int 3))) (.con (.int 19))) (.con (.int 9)))) .skip) .skip) (.seq (.ite (.cmp .eq (.bin .mod (.var 0) (.con (.int 3))) (.con (.int 1))) (.seq (.ret (.bin .sub (.bin .mod (.bin .fdiv (.var 0) (.con (.int 3))) (.con (.int 2000003))) (.con (.int 1000001)))) .skip) .skip) (.seq (.ret (.bin .sub (.bin .mod (.bin .fdiv (.var 0) (.con (.int 3))) (.bin .sub (.bin .mul (.con (.int 2)) (.bin .pow (.con (.int 10)) (.con (.int 30)))) (.con (.int 1)))) (.bin .sub (.bin .pow (.con (.int 10)) (.con (.int 30))) (.con (.int 1))))) .skip))
theorem dk3 : divOk 3 = true := by decide
theorem pk : powOk 10 30 = true := by decide
theorem mk30 : mulOk 2 1000000000000000000000000000000 = true := by decide +kernel
theorem g_number (c : Int) : finF 1 (exe B Φ S_number [.v (.int c) false]) = .ok (.v (.int (num c))) [.u] := by
  simp [S_number, dk3, pk, mk30]
  unfold num
  by_cases h1 : c.fmod 3 = 0
  · simp [h1]
  · by_cases h2 : c.fmod 3 = 1
    · simp [h2]
    · simp [h1, h2]
/-! ### fractions -/
/-- a fraction in lowest terms of a / b, b above 0 -/
def frT (a b : Int) : Int := a.fdiv (Int.gcd a b)
def frB (a b : Int) : Int := b.fdiv (Int.gcd a b)
abbrev frD (a b : Int) : D := .tup [.int (frT a b), .int (frB a b)]
/-- what is known of a fraction in lowest terms -/
structure Fr (p q : Int) : Prop where
  pos : 0 < q
  low : Int.gcd p q = 1
theorem fr_spec (a b : Int) (h : 0 < b) : a = Int.gcd a b * frT a b ∧ b = Int.gcd a b * frB a b ∧ Fr (frT a b) (frB a b) ∧ (frT a b).natAbs ≤ a.natAbs ∧ (frB a b).natAbs ≤ b.natAbs ∧ Int.gcd a b ≠ 0 := by
  have hg : Int.gcd a b ≠ 0 := by
    rw [Ne, Int.gcd_eq_zero_iff]
    omega
  have hg2 : (Int.gcd a b : Int) ≠ 0 := by omega
  obtain ⟨u, hu⟩ := Int.gcd_dvd_left a b
  obtain ⟨v, hv⟩ := Int.gcd_dvd_right a b
  have e1 : frT a b = u := by
    unfold frT
    obtain ⟨g, eg⟩ : ∃ g : Int, g = (Int.gcd a b : Int) := ⟨_, rfl⟩
    rw [← eg] at hu hg2 ⊢
    rw [hu, Int.mul_fdiv_cancel_left _ hg2]
  have e2 : frB a b = v := by
    unfold frB
    obtain ⟨g, eg⟩ : ∃ g : Int, g = (Int.gcd a b : Int) := ⟨_, rfl⟩
    rw [← eg] at hv hg2 ⊢
    rw [hv, Int.mul_fdiv_cancel_left _ hg2]
  have l1 : u.natAbs ≤ a.natAbs := by
    conv => rhs; rw [hu]
    rw [Int.natAbs_mul]
    exact Nat.le_mul_of_pos_left _ (by omega)
  have l2 : v.natAbs ≤ b.natAbs := by
    conv => rhs; rw [hv]
    rw [Int.natAbs_mul]
    exact Nat.le_mul_of_pos_left _ (by omega)
  have e3 : Int.gcd u v = 1 := by
    obtain ⟨g, eg⟩ : ∃ g : Nat, g = Int.gcd a b := ⟨_, rfl⟩
    have q : g = g * Int.gcd u v := by
      have z : Int.gcd a b = (g : Int).natAbs * Int.gcd u v := by
        rw [← Int.gcd_mul_left]
        rw [eg, ← hu, ← hv]
      rw [← eg] at z
      simpa using z
    have q2 : g * 1 = g * Int.gcd u v := by rw [Nat.mul_one]; exact q
    exact (Nat.eq_of_mul_eq_mul_left (by omega) q2).symm
  have e4 : 0 < v := by
    rcases Int.lt_trichotomy v 0 with q | q | q
    · have := Int.mul_neg_of_pos_of_neg (show (0 : Int) < Int.gcd a b by omega) q
      omega
    · rw [q] at hv
      simp at hv
      omega
    · exact q
  rw [e1, e2]
  exact ⟨hu, hv, ⟨e4, e3⟩, l1, l2, hg⟩
theorem fr_id {p q : Int} (h : Fr p q) : frT p q = p ∧ frB p q = q := by
  unfold frT frB
  rw [h.low]
  exact ⟨by simp, by simp⟩
theorem cop_dvd {p q v : Int} (h : Int.gcd p q = 1) (d : q ∣ p * v) : q ∣ v := by
  have t : q.natAbs ∣ p.natAbs * v.natAbs := by rw [← Int.natAbs_mul]; exact Int.natAbs_dvd_natAbs.mpr d
  have c : Nat.Coprime q.natAbs p.natAbs := by
    show Nat.gcd q.natAbs p.natAbs = 1
    rw [Nat.gcd_comm]
    exact h
  exact Int.natAbs_dvd_natAbs.mp (c.dvd_of_dvd_mul_left t)
/-- crosswise -/
theorem fr_cross (a b : Int) (h : 0 < b) : frT a b * b = a * frB a b := by
  obtain ⟨e1, e2, _⟩ := fr_spec a b h
  revert e1 e2
  generalize frT a b = u
  generalize frB a b = v
  generalize (Int.gcd a b : Int) = g
  intro e1 e2
  rw [e1, e2, Int.mul_comm g u, Int.mul_assoc]
/-- a fraction is told by its cross -/
theorem fr_uniq {p q a b : Int} (h : Fr p q) (hb : 0 < b) (c : p * b = a * q) : frT a b = p ∧ frB a b = q := by
  obtain ⟨_, _, hf, _⟩ := fr_spec a b hb
  have k := fr_cross a b hb
  revert hf k
  generalize frT a b = u
  generalize frB a b = v
  intro hf k
  have x : p * v = u * q := by
    have hb0 : b ≠ 0 := by omega
    apply Int.eq_of_mul_eq_mul_right hb0
    calc p * v * b = p * b * v := by rw [Int.mul_right_comm]
      _ = a * q * v := by rw [c]
      _ = a * v * q := by rw [Int.mul_right_comm]
      _ = u * b * q := by rw [k]
      _ = u * q * b := by rw [Int.mul_right_comm]
  have d1 : q ∣ v := cop_dvd h.low ⟨u, by rw [x, Int.mul_comm]⟩
  have d2 : v ∣ q := cop_dvd hf.low ⟨p, by rw [← x, Int.mul_comm]⟩
  have hq := h.pos
  have hv := hf.pos
  have l1 := Int.le_of_dvd hv d1
  have l2 := Int.le_of_dvd hq d2
  have ev2 : v = q := by omega
  subst ev2
  exact ⟨(Int.eq_of_mul_eq_mul_right (by omega) x).symm, rfl⟩
/-- fraction(a, b), b above 0: its divisor is def qd -/
def S_fraction (qd c : Nat) : S := .seq (.ite (.cmp .eq (.var 1) (.con (.int 0))) (.seq (.rai c) .skip) .skip) (.seq (.set 2 (.call qd (.cons (.var 0) (.cons (.var 1) .nil)))) (.seq (.ite (.cmp .lt (.var 1) (.con (.int 0))) (.seq (.set 2 (.neg (.var 2))) .skip) .skip) (.seq (.ret (.tup (.cons (.bin .fdiv (.var 0) (.var 2)) (.cons (.bin .fdiv (.var 1) (.var 2)) .nil)))) .skip)))
theorem g_fraction {qd c : Nat} (a b : Int) (hd : Φ qd [.v (.int a) false, .v (.int b) false] = .ok (.v (.int (Int.gcd a b))) [.u, .u]) (hb : 0 < b) (h1 : b.natAbs < 10 ^ 1000) : finF 2 (exe B Φ (S_fraction qd c) [.v (.int a) false, .v (.int b) false, .u]) = .ok (.v (frD a b)) [.u, .u] := by
  obtain ⟨_, _, _, _, _, hg⟩ := fr_spec a b hb
  have hl : Int.gcd a b ≤ b.natAbs := Nat.le_of_dvd (by omega) (Nat.gcd_dvd_right _ _)
  have d1 : divOk (Int.gcd a b) = true := divOk_of (by omega) (by omega)
  have n1 : ¬ b < 0 := by omega
  have n2 : ¬ b = 0 := by omega
  simp [S_fraction, hd, n1, n2, d1, frD, frT, frB]
def S_low (qd : Nat) : S := .seq (.set 2 (.call qd (.cons (.var 0) (.cons (.var 1) .nil)))) (.seq (.ret (.tup (.cons (.bin .fdiv (.var 0) (.var 2)) (.cons (.bin .fdiv (.var 1) (.var 2)) .nil)))) .skip)
theorem g_low {qd : Nat} (a b : Int) (hd : Φ qd [.v (.int a) false, .v (.int b) false] = .ok (.v (.int (Int.gcd a b))) [.u, .u]) (hb : 0 < b) (h1 : b.natAbs < 10 ^ 1000) : finF 2 (exe B Φ (S_low qd) [.v (.int a) false, .v (.int b) false, .u]) = .ok (.v (frD a b)) [.u, .u] := by
  obtain ⟨_, _, _, _, _, hg⟩ := fr_spec a b hb
  have hl : Int.gcd a b ≤ b.natAbs := Nat.le_of_dvd (by omega) (Nat.gcd_dvd_right _ _)
  have d1 : divOk (Int.gcd a b) = true := divOk_of (by omega) (by omega)
  simp [S_low, hd, d1, frD, frT, frB]
@[simp] theorem cmp_neF {a b c d : Int} : cmpR .ne (.tup [.int a, .int b]) (.tup [.int c, .int d]) = some (.v (.bl (!(decide (a = c) && decide (b = d))))) := by
  show some (R.v (.bl (!(a == c && (b == d && true))))) = _
  rw [Bool.and_true]; rfl
@[simp] theorem cmp_eqF {a b c d : Int} : cmpR .eq (.tup [.int a, .int b]) (.tup [.int c, .int d]) = some (.v (.bl (decide (a = c) && decide (b = d)))) := by
  show some (R.v (.bl (a == c && (b == d && true)))) = _
  rw [Bool.and_true]; rfl
end
end Z

/-! weights of the four kinds, and what they come to -/
namespace Z
open PySem
/-- weights: sums, products, what stands for them, a size -/
structure Sr where
  α : Type
  add : α → α → α
  mul : α → α → α
  z : α
  o : α
  d : α → D
  sz : Nat → α → Prop
  dec : DecidableEq α
  ac : ∀ x y, add x y = add y x
  aa : ∀ x y w, add (add x y) w = add x (add y w)
  az : ∀ x, add x z = x
  mc : ∀ x y, mul x y = mul y x
  ma : ∀ x y w, mul (mul x y) w = mul x (mul y w)
  mo : ∀ x, mul x o = x
  mz : ∀ x, mul x z = z
  md : ∀ x y w, mul x (add y w) = add (mul x y) (mul x w)
  zo : z ≠ o
  ne : ∀ x y, cmpR .ne (d x) (d y) = some (.v (.bl (!@decide (x = y) (dec x y))))
  eq : ∀ x y, cmpR .eq (d x) (d y) = some (.v (.bl (@decide (x = y) (dec x y))))
  sa : ∀ m n x y, sz m x → sz n y → sz (m + n + 1) (add x y)
  sm : ∀ m n x y, sz m x → sz n y → sz (m + n + 1) (mul x y)
  sl : ∀ m n x, m ≤ n → sz m x → sz n x
  s0 : sz 1 z
  s1 : sz 1 o
namespace Sr
variable (s : Sr)
instance : DecidableEq s.α := s.dec
theorem za (x : s.α) : s.add s.z x = x := by rw [s.ac, s.az]
theorem om (x : s.α) : s.mul s.o x = x := by rw [s.mc, s.mo]
theorem zm (x : s.α) : s.mul s.z x = s.z := by rw [s.mc, s.mz]
theorem dm (x y w : s.α) : s.mul (s.add x y) w = s.add (s.mul x w) (s.mul y w) := by rw [s.mc, s.md, s.mc w x, s.mc w y]
end Sr
/-! ### fractions -/
def rd (r : Rat) : D := .tup [.int r.num, .int r.den]
theorem rd_Fr (r : Rat) : Fr r.num r.den := ⟨by have := r.den_pos; omega, by have := r.reduced; simpa [Int.gcd] using this⟩
theorem frD_of {a b : Int} (hb : 0 < b) (r : Rat) (c : r.num * b = a * r.den) : frD a b = rd r := by
  obtain ⟨e1, e2⟩ := fr_uniq (rd_Fr r) hb c
  show D.tup _ = D.tup _
  rw [e1, e2]
theorem frD_mk {a b : Int} (hb : 0 < b) : frD a b = rd (mkRat a b.toNat) := by
  refine frD_of hb _ ?_
  have e : mkRat (mkRat a b.toNat).num (mkRat a b.toNat).den = mkRat a b.toNat := Rat.mkRat_self _
  have := (Rat.mkRat_eq_iff (by have := (mkRat a b.toNat).den_pos; omega) (by omega)).mp e
  rw [Int.toNat_of_nonneg (by omega)] at this
  exact this
theorem rd_add (x y : Rat) : frD (x.num * y.den + y.num * x.den) (x.den * y.den) = rd (x + y) := by
  have h1 := x.den_pos
  have h2 := y.den_pos
  have h3 : (0 : Int) < x.den * y.den := Int.mul_pos (by omega) (by omega)
  rw [frD_mk h3, Rat.add_def']
  congr 2
theorem rd_mul (x y : Rat) : frD (x.num * y.num) (x.den * y.den) = rd (x * y) := by
  have h1 := x.den_pos
  have h2 := y.den_pos
  have h3 : (0 : Int) < x.den * y.den := Int.mul_pos (by omega) (by omega)
  rw [frD_mk h3, Rat.mul_def']
  congr 2
theorem rd_inj {x y : Rat} (h : rd x = rd y) : x = y := by
  unfold rd at h
  injection h with h
  injection h with h1 h2
  injection h2 with h2
  injection h1 with h1
  injection h2 with h2
  exact Rat.ext h1 (by omega)
def rsz (m : Nat) (x : Rat) : Prop := x.num.natAbs < 10 ^ m ∧ x.den < 10 ^ m
theorem rsz_of {a b : Int} (hb : 0 < b) {m : Nat} {r : Rat} (e : frD a b = rd r) (h1 : a.natAbs < 10 ^ m) (h2 : b.natAbs < 10 ^ m) : rsz m r := by
  obtain ⟨_, _, f, l1, l2, _⟩ := fr_spec a b hb
  unfold rd frD at e
  injection e with e
  injection e with e1 e2
  injection e2 with e2
  injection e1 with e1
  injection e2 with e2
  constructor
  · rw [← e1]; omega
  · have := f.pos
    omega
def SF : Sr where
  α := Rat
  add := (· + ·)
  mul := (· * ·)
  z := 0
  o := 1
  d := rd
  sz := rsz
  dec := inferInstance
  ac := Rat.add_comm
  aa := Rat.add_assoc
  az := Rat.add_zero
  mc := Rat.mul_comm
  ma := Rat.mul_assoc
  mo := Rat.mul_one
  mz := Rat.mul_zero
  md := Rat.mul_add
  zo := by decide
  ne := fun x y => by
    unfold rd
    rw [cmp_neF]
    congr 4
    rw [← Bool.decide_and]
    congr 1
    refine propext ⟨fun h => Rat.ext h.1 (by omega), fun h => by subst h; exact ⟨rfl, rfl⟩⟩
  eq := fun x y => by
    unfold rd
    rw [cmp_eqF]
    congr 3
    rw [← Bool.decide_and]
    congr 1
    refine propext ⟨fun h => Rat.ext h.1 (by omega), fun h => by subst h; exact ⟨rfl, rfl⟩⟩
  sa := fun m n x y h1 h2 => by
    have p1 := x.den_pos
    have p2 := y.den_pos
    have h3 : (0 : Int) < x.den * y.den := Int.mul_pos (by omega) (by omega)
    refine rsz_of h3 (rd_add x y) ?_ ?_
    · refine add_lt_pow (mul_lt_pow h1.1 (by simpa using h2.2)) ?_
      rw [Nat.add_comm]
      exact mul_lt_pow h2.1 (by simpa using h1.2)
    · exact Nat.lt_of_lt_of_le (mul_lt_pow (m := m) (n := n) (by simpa using h1.2) (by simpa using h2.2)) (Nat.pow_le_pow_right (by decide) (by omega))
  sm := fun m n x y h1 h2 => by
    have p1 := x.den_pos
    have p2 := y.den_pos
    have h3 : (0 : Int) < x.den * y.den := Int.mul_pos (by omega) (by omega)
    refine rsz_of h3 (rd_mul x y) ?_ ?_
    · exact Nat.lt_of_lt_of_le (mul_lt_pow (m := m) (n := n) h1.1 h2.1) (Nat.pow_le_pow_right (by decide) (by omega))
    · exact Nat.lt_of_lt_of_le (mul_lt_pow (m := m) (n := n) (by simpa using h1.2) (by simpa using h2.2)) (Nat.pow_le_pow_right (by decide) (by omega))
  sl := fun m n x h h1 => ⟨Nat.lt_of_lt_of_le h1.1 (Nat.pow_le_pow_right (by decide) h), Nat.lt_of_lt_of_le h1.2 (Nat.pow_le_pow_right (by decide) h)⟩
  s0 := by constructor <;> decide
  s1 := by constructor <;> decide
/-! ### residues -/
theorem em1 (a b n : Int) : (a % n * b) % n = (a * b) % n := by rw [Int.mul_emod, Int.emod_emod, ← Int.mul_emod]
theorem em2 (a b n : Int) : (a * (b % n)) % n = (a * b) % n := by rw [Int.mul_emod, Int.emod_emod, ← Int.mul_emod]
def SRes (p : Int) (hp : 1 < p) : Sr where
  α := { x : Int // 0 ≤ x ∧ x < p }
  add := fun x y => ⟨(x.1 + y.1).fmod p, fmod_nn _ (by omega)⟩
  mul := fun x y => ⟨(x.1 * y.1).fmod p, fmod_nn _ (by omega)⟩
  z := ⟨0, by omega⟩
  o := ⟨1, by omega⟩
  d := fun x => .int x.1
  sz := fun _ _ => True
  dec := inferInstance
  ac := fun x y => by simp [Int.add_comm]
  aa := fun x y w => by
    refine Subtype.ext ?_
    simp only [Int.fmod_eq_emod_of_nonneg _ (show 0 ≤ p by omega)]
    rw [Int.emod_add_emod, Int.add_emod_emod, Int.add_assoc]
  az := fun x => by
    refine Subtype.ext ?_
    simp only [Int.fmod_eq_emod_of_nonneg _ (show 0 ≤ p by omega), Int.add_zero]
    exact Int.emod_eq_of_lt x.2.1 x.2.2
  mc := fun x y => by simp [Int.mul_comm]
  ma := fun x y w => by
    refine Subtype.ext ?_
    simp only [Int.fmod_eq_emod_of_nonneg _ (show 0 ≤ p by omega)]
    rw [em1, em2, Int.mul_assoc]
  mo := fun x => by
    refine Subtype.ext ?_
    simp only [Int.fmod_eq_emod_of_nonneg _ (show 0 ≤ p by omega), Int.mul_one]
    exact Int.emod_eq_of_lt x.2.1 x.2.2
  mz := fun x => by
    refine Subtype.ext ?_
    simp only [Int.fmod_eq_emod_of_nonneg _ (show 0 ≤ p by omega), Int.mul_zero]
    exact Int.emod_eq_of_lt (by omega) (by omega)
  md := fun x y w => by
    refine Subtype.ext ?_
    simp only [Int.fmod_eq_emod_of_nonneg _ (show 0 ≤ p by omega)]
    rw [em2, Int.emod_add_emod, Int.add_emod_emod, Int.mul_add]
  zo := by simp
  ne := fun x y => by rw [cmp_ne]; simp [Subtype.ext_iff]
  eq := fun x y => by rw [cmp_eq]; simp [Subtype.ext_iff]
  sa := fun _ _ _ _ _ _ => trivial
  sm := fun _ _ _ _ _ _ => trivial
  sl := fun _ _ _ _ _ => trivial
  s0 := trivial
  s1 := trivial
/-! ### costs -/
def cD : Option Int → D
  | none => .non
  | some i => .int i
def cAdd : Option Int → Option Int → Option Int
  | none, y => y
  | x, none => x
  | some i, some j => some (if j < i then j else i)
def cMul : Option Int → Option Int → Option Int
  | some i, some j => some (i + j)
  | _, _ => none
def SCo : Sr where
  α := Option Int
  add := cAdd
  mul := cMul
  z := none
  o := some 0
  d := cD
  sz := fun _ _ => True
  dec := inferInstance
  ac := fun x y => by cases x <;> cases y <;> simp [cAdd]; omega
  aa := fun x y w => by cases x <;> cases y <;> cases w <;> simp [cAdd]; split <;> split <;> (try split) <;> omega
  az := fun x => by cases x <;> rfl
  mc := fun x y => by cases x <;> cases y <;> simp [cMul]; omega
  ma := fun x y w => by cases x <;> cases y <;> cases w <;> simp [cMul]; omega
  mo := fun x => by cases x <;> simp [cMul]
  mz := fun x => by cases x <;> simp [cMul]
  md := fun x y w => by cases x <;> cases y <;> cases w <;> simp [cMul, cAdd]; split <;> rfl
  zo := by simp
  ne := fun x y => by
    cases x <;> cases y <;> first
      | rfl
      | (simp only [cD]; rw [cmp_ne]; simp)
      | (simp [cD, cmpR, cmpD, scalD, eqv])
  eq := fun x y => by
    cases x <;> cases y <;> first
      | rfl
      | (simp only [cD]; rw [cmp_eq]; simp)
      | (simp [cD, cmpR, cmpD, scalD, eqv])
  sa := fun _ _ _ _ _ _ => trivial
  sm := fun _ _ _ _ _ _ => trivial
  sl := fun _ _ _ _ _ => trivial
  s0 := trivial
  s1 := trivial
/-! ### truths -/
def STr : Sr where
  α := Bool
  add := or
  mul := and
  z := false
  o := true
  d := .bl
  sz := fun _ _ => True
  dec := inferInstance
  ac := by decide
  aa := by decide
  az := by decide
  mc := by decide
  ma := by decide
  mo := by decide
  mz := by decide
  md := by decide
  zo := by decide
  ne := fun x y => cmp_neB
  eq := fun x y => cmp_eqB
  sa := fun _ _ _ _ _ _ => trivial
  sm := fun _ _ _ _ _ _ => trivial
  sl := fun _ _ _ _ _ => trivial
  s0 := trivial
  s1 := trivial
/-- the four, by number -/
def srOf (p : Int) (hp : 1 < p) : Nat → Sr
  | 0 => SF
  | 1 => SRes p hp
  | 2 => SCo
  | _ => STr
/-- .. told by the program's kinds: plus, times, nought, one, is_weight -/
structure Kn (B : Tb) (Φ : CallF) (s : Sr) (c : Nat) (vs : List D) (mP mT m0 m1 mW : Nat) : Prop where
  plus : ∃ q, B.mth c mP = some q ∧ ∀ x y, s.sz 400 x → s.sz 400 y → Φ q [.v (.obj c vs) false, .v (s.d x) false, .v (s.d y) false] = .ok (.v (s.d (s.add x y))) [.u, .u, .u]
  times : ∃ q, B.mth c mT = some q ∧ ∀ x y, s.sz 400 x → s.sz 400 y → Φ q [.v (.obj c vs) false, .v (s.d x) false, .v (s.d y) false] = .ok (.v (s.d (s.mul x y))) [.u, .u, .u]
  nought : ∃ q, B.mth c m0 = some q ∧ Φ q [.v (.obj c vs) false] = .ok (.v (s.d s.z)) [.u]
  one : ∃ q, B.mth c m1 = some q ∧ Φ q [.v (.obj c vs) false] = .ok (.v (s.d s.o)) [.u]
  isw : ∃ q, B.mth c mW = some q ∧ ∀ x, Φ q [.v (.obj c vs) false, .v (s.d x) false] = .ok (.v (.bl true)) [.u, .u]
/-! ### primes -/
/-- no number from b on divides n, tried m times -/
def pl' : Nat → Int → Int → Bool
  | 0, _, _ => true
  | m + 1, n, b => if b * b ≤ n then (if n.fmod b = 0 then false else pl' m n (b + 1)) else true
section
variable {B : Tb} {Φ : CallF}
def L_prime (s : S) : S := .seq (.ite (.cmp .eq (.bin .mod (.var 0) (.var 1)) (.con (.int 0))) (.seq (.ret (.con (.bl false))) .skip) .skip) (.seq s .skip)
theorem loop_prime (s : S) (hs : ∀ n b : Int, exe B Φ s [.v (.int n) false, .v (.int b) false] = .ok .nx [.v (.int n) false, .v (.int (b + 1)) false]) (n : Int) (hn : n.natAbs < 10 ^ 1000) : ∀ (m : Nat) (b : Int), 2 ≤ b → b ≤ n → n < (b + m) * (b + m) →
    ∃ x, whC (ev B Φ (.cmp .le (.bin .mul (.var 1) (.var 1)) (.var 0))) (exe B Φ (L_prime s)) [.v (.int n) false, .v (.int b) false] = if pl' m n b then .ok .nx [.v (.int n) false, x] else .ok (.ret (.v (.bl false))) [.v (.int n) false, x]
  | 0, b, h1, h2, h3 => by
    have mk : mulOk b b = true := mulOk_of (by omega) (by omega)
    refine ⟨.v (.int b) false, ?_⟩
    rw [whC_eq]
    have e : ¬ (b * b ≤ n) := by simp at h3; omega
    simp [mk, e, pl']
  | m + 1, b, h1, h2, h3 => by
    have mk : mulOk b b = true := mulOk_of (by omega) (by omega)
    by_cases e : b * b ≤ n
    · by_cases e2 : n.fmod b = 0
      · refine ⟨.v (.int b) false, ?_⟩
        rw [whC_eq]
        have b0 : ¬ b = 0 := by omega
        simp [mk, e, pl', L_prime, e2, b0]
      · have q : b + 1 ≤ n := by
          have := Int.mul_le_mul_of_nonneg_right h1 (show 0 ≤ b by omega)
          omega
        obtain ⟨x, hx⟩ := loop_prime s hs n hn m (b + 1) (by omega) q (by
          have : b + 1 + (m : Int) = b + ((m + 1 : Nat) : Int) := by omega
          rw [this]; exact h3)
        refine ⟨x, ?_⟩
        rw [whC_eq]
        have b0 : ¬ b = 0 := by omega
        simp [mk, e, pl', L_prime, e2, b0, hs]
        simp [L_prime] at hx
        exact hx
    · refine ⟨.v (.int b) false, ?_⟩
      rw [whC_eq]
      simp [mk, e, pl']
def S_prime (s : S) : S := .seq (.ite (.cmp .lt (.var 0) (.con (.int 2))) (.seq (.ret (.con (.bl false))) .skip) .skip) (.seq (.set 1 (.con (.int 2))) (.seq (.whl (.cmp .le (.bin .mul (.var 1) (.var 1)) (.var 0)) (L_prime s)) (.seq (.ret (.con (.bl true))) .skip)))
theorem g_prime (s : S) (hs : ∀ n b : Int, exe B Φ s [.v (.int n) false, .v (.int b) false] = .ok .nx [.v (.int n) false, .v (.int (b + 1)) false]) (n : Int) (hn : n.natAbs < 10 ^ 1000) (m : Nat) (h : n < (2 + m) * (2 + m)) :
    finF 1 (exe B Φ (S_prime s) [.v (.int n) false, .u]) = .ok (.v (.bl (decide (2 ≤ n) && pl' m n 2))) [.u] := by
  by_cases h2 : n < 2
  · have : ¬ 2 ≤ n := by omega
    simp [S_prime, h2, this]
  · have h3 : 2 ≤ n := by omega
    obtain ⟨x, hx⟩ := loop_prime s hs n hn m 2 (by omega) h3 h
    simp [S_prime, h2, h3, hx]
    cases pl' m n 2 <;> simp
theorem prime_add (n b : Int) : exe B Φ (.aug 1 .add (.con (.int 1))) [.v (.int n) false, .v (.int b) false] = .ok .nx [.v (.int n) false, .v (.int (b + 1)) false] := by simp
theorem prime_set (n b : Int) : exe B Φ (.set 1 (.bin .add (.var 1) (.con (.int 1)))) [.v (.int n) false, .v (.int b) false] = .ok .nx [.v (.int n) false, .v (.int (b + 1)) false] := by simp
end
end Z

/-! more rows; the kinds' methods, as every law prints them -/
namespace Z
open PySem
section
variable {B : Tb} {Φ : CallF} {ρ : Env} {a b c : E} {d e : D} {x y r : R} {i : Nat} {f : Bool}
def c2B (B : Tb) (Φ : CallF) (o2 : COp) (c : E) (y : R) (k : Option Bool) (ρ2 : Env) : Out (List R) := match k with
  | some true => (ev B Φ c ρ2).one fun z ρ3 => apE (dr ρ3 y) (dr ρ3 z) (cmpR o2) ρ3
  | some false => .ok [.v (.bl false)] ρ2
  | none => .st
def c2A (B : Tb) (Φ : CallF) (o1 o2 : COp) (c : E) (y : R) (od oe : Option D) (ρ2 : Env) : Out (List R) := match od, oe with
  | some d, some e => c2B B Φ o2 c y (cmpD o1 d e) ρ2
  | _, _ => .st
@[simp] theorem ev_cmp2 {o1 o2 : COp} : ev B Φ (.cmp2 o1 o2 a b c) ρ = (ev B Φ a ρ).one fun x ρ1 => (ev B Φ b ρ1).one fun y ρ2 => c2A B Φ o1 o2 c y (dr ρ2 x) (dr ρ2 y) ρ2 := by
  first
  | rfl
  | (show Out.one _ _ = Out.one _ _; congr 1)
@[simp] theorem c2A_some {o1 o2 : COp} : c2A B Φ o1 o2 c y (some d) (some e) ρ = c2B B Φ o2 c y (cmpD o1 d e) ρ := rfl
@[simp] theorem c2B_le {o2 : COp} {p q : Int} : c2B B Φ o2 c y (cmpD .le (.int p) (.int q)) ρ = if p ≤ q then (ev B Φ c ρ).one (fun z ρ3 => apE (dr ρ3 y) (dr ρ3 z) (cmpR o2) ρ3) else .ok [.v (.bl false)] ρ := by
  show c2B B Φ o2 c y (some (decide (p ≤ q))) ρ = _
  by_cases h : p ≤ q <;> simp [h, c2B]
@[simp] theorem c2B_lt {o2 : COp} {p q : Int} : c2B B Φ o2 c y (cmpD .lt (.int p) (.int q)) ρ = if p < q then (ev B Φ c ρ).one (fun z ρ3 => apE (dr ρ3 y) (dr ρ3 z) (cmpR o2) ρ3) else .ok [.v (.bl false)] ρ := by
  show c2B B Φ o2 c y (some (decide (p < q))) ρ = _
  by_cases h : p < q <;> simp [h, c2B]
def mutF (m : MM) (i : Nat) (s : Sl) (ds : List D) (ρ2 : Env) : Out (List R) := match s with
  | .o (.L xs) f => (match mutD m xs ds with
        | some (d, ys) => .ok [.v d] (pt ρ2 i (.o (.L ys) f))
        | none => .st)
  | _ => .st
def mutG (m : MM) (i : Nat) (o : Option (List D × Env)) : Out (List R) := match o with
  | some (ds, ρ2) => mutF m i (gt ρ2 i) ds ρ2
  | none => .st
@[simp] theorem ev_mut {m : MM} : ev B Φ (.mut m i a) ρ = if isOL (gt ρ i) then (ev B Φ a ρ).bnd fun rs ρ1 => mutG m i (if mutO ρ1 m rs then fzA ρ1 rs else none) else .st := by
  show (if _ then Out.bnd _ _ else _) = _
  split
  · congr 1
  · rfl
@[simp] theorem mutG_some {m : MM} {ds : List D} : mutG m i (some (ds, ρ)) = mutF m i (gt ρ i) ds ρ := rfl
@[simp] theorem isOL_o {xs : List D} : isOL (.o (.L xs) f) = true := rfl
@[simp] theorem mutO_app {rs : List R} : mutO ρ .append rs = true := rfl
@[simp] theorem mutO_pop {rs : List R} : mutO ρ .pop rs = true := rfl
@[simp] theorem mutO_clear {rs : List R} : mutO ρ .clear rs = true := rfl
@[simp] theorem mutO_ext {xs : List D} : mutO ρ .extend [.o (.L xs)] = true := rfl
@[simp] theorem mutF_app {xs : List D} : mutF .append i (.o (.L xs) f) [d] ρ = if xs.length < lim then .ok [.v .non] (pt ρ i (.o (.L (xs ++ [d])) f)) else .st := by
  unfold mutF mutD
  dsimp only
  by_cases h : xs.length < lim <;> simp [h]
@[simp] theorem mutF_ext {xs ys : List D} : mutF .extend i (.o (.L xs) f) [.lst ys] ρ = if xs.length + ys.length ≤ lim then .ok [.v .non] (pt ρ i (.o (.L (xs ++ ys)) f)) else .st := by
  unfold mutF mutD
  dsimp only
  by_cases h : xs.length + ys.length ≤ lim <;> simp [h]
@[simp] theorem isNil_call {q : Nat} : E.isNil (.call q a) = false := rfl
@[simp] theorem isNil_idx : E.isNil (.idx a b) = false := rfl
end
section
variable {B : Tb} {Φ : CallF} {o : D}
/-- fraction's answers -/
def HF (Φ : CallF) (qf : Nat) : Prop := ∀ a b : Int, 0 < b → b.natAbs < 10 ^ 1000 → Φ qf [.v (.int a) false, .v (.int b) false] = .ok (.v (frD a b)) [.u, .u]
theorem rmul {x y : Rat} (h1 : rsz 400 x) (h2 : rsz 400 y) : mulOk x.num y.den = true ∧ mulOk y.num x.den = true ∧ mulOk x.den y.den = true ∧ mulOk x.num y.num = true := by
  have p : (10 : Nat) ^ 400 < 10 ^ 1000 := Nat.pow_lt_pow_right (by decide) (by decide)
  refine ⟨mulOk_of ?_ ?_, mulOk_of ?_ ?_, mulOk_of ?_ ?_, mulOk_of ?_ ?_⟩
  · exact Nat.lt_trans h1.1 p
  · exact Nat.lt_trans (by simpa using h2.2) p
  · exact Nat.lt_trans h2.1 p
  · exact Nat.lt_trans (by simpa using h1.2) p
  · exact Nat.lt_trans (by simpa using h1.2) p
  · exact Nat.lt_trans (by simpa using h2.2) p
  · exact Nat.lt_trans h1.1 p
  · exact Nat.lt_trans h2.1 p
theorem rdpos {x y : Rat} (h1 : rsz 400 x) (h2 : rsz 400 y) : (0 : Int) < x.den * y.den ∧ ((x.den : Int) * y.den).natAbs < 10 ^ 1000 := by
  have p1 := x.den_pos
  have p2 := y.den_pos
  refine ⟨Int.mul_pos (by omega) (by omega), pow_le_big (mul_lt_pow (m := 400) (n := 400) (by simpa using h1.2) (by simpa using h2.2)) (by decide)⟩
def S_Fplus (qf : Nat) : S := .seq (.ret (.call qf (.cons (.bin .add (.bin .mul (.idx (.var 1) (.con (.int 0))) (.idx (.var 2) (.con (.int 1)))) (.bin .mul (.idx (.var 2) (.con (.int 0))) (.idx (.var 1) (.con (.int 1))))) (.cons (.bin .mul (.idx (.var 1) (.con (.int 1))) (.idx (.var 2) (.con (.int 1)))) .nil)))) .skip
theorem g_Fplus {qf : Nat} (hf : HF Φ qf) (x y : Rat) (h1 : rsz 400 x) (h2 : rsz 400 y) : finF 3 (exe B Φ (S_Fplus qf) [.v o false, .v (SF.d x) false, .v (SF.d y) false]) = .ok (.v (SF.d (SF.add x y))) [.u, .u, .u] := by
  obtain ⟨m1, m2, m3, m4⟩ := rmul h1 h2
  obtain ⟨p, q⟩ := rdpos h1 h2
  have g := hf (x.num * y.den + y.num * x.den) (x.den * y.den) p q
  rw [rd_add] at g
  show finF 3 (exe B Φ (S_Fplus qf) [.v o false, .v (rd x) false, .v (rd y) false]) = .ok (.v (rd (x + y))) [.u, .u, .u]
  unfold rd at g ⊢
  simp [S_Fplus, m1, m2, m3, g]
def S_Ftimes (qf : Nat) : S := .seq (.ret (.call qf (.cons (.bin .mul (.idx (.var 1) (.con (.int 0))) (.idx (.var 2) (.con (.int 0)))) (.cons (.bin .mul (.idx (.var 1) (.con (.int 1))) (.idx (.var 2) (.con (.int 1)))) .nil)))) .skip
theorem g_Ftimes {qf : Nat} (hf : HF Φ qf) (x y : Rat) (h1 : rsz 400 x) (h2 : rsz 400 y) : finF 3 (exe B Φ (S_Ftimes qf) [.v o false, .v (SF.d x) false, .v (SF.d y) false]) = .ok (.v (SF.d (SF.mul x y))) [.u, .u, .u] := by
  obtain ⟨m1, m2, m3, m4⟩ := rmul h1 h2
  obtain ⟨p, q⟩ := rdpos h1 h2
  have g := hf (x.num * y.num) (x.den * y.den) p q
  rw [rd_mul] at g
  show finF 3 (exe B Φ (S_Ftimes qf) [.v o false, .v (rd x) false, .v (rd y) false]) = .ok (.v (rd (x * y))) [.u, .u, .u]
  unfold rd at g ⊢
  simp [S_Ftimes, m3, m4, g]
def S_Fisw (qw qd : Nat) : S := .seq (.ite (.or (.nt (.isi (.var 1) .tup)) (.cmp .ne (.b1 .len (.var 1)) (.con (.int 2)))) (.seq (.ret (.con (.bl false))) .skip) .skip) (.seq (.ite (.or (.nt (.call qw (.cons (.idx (.var 1) (.con (.int 0))) .nil))) (.or (.nt (.call qw (.cons (.idx (.var 1) (.con (.int 1))) .nil))) (.cmp .lt (.idx (.var 1) (.con (.int 1))) (.con (.int 1))))) (.seq (.ret (.con (.bl false))) .skip) .skip) (.seq (.ret (.cmp .eq (.call qd (.cons (.idx (.var 1) (.con (.int 0))) (.cons (.idx (.var 1) (.con (.int 1))) .nil))) (.con (.int 1)))) .skip))
/-- is_whole's answers -/
def HW (Φ : CallF) (qw : Nat) : Prop := ∀ a : Int, Φ qw [.v (.int a) false] = .ok (.v (.bl true)) [.u]
/-- divisor's answers -/
def HDv (Φ : CallF) (qd : Nat) : Prop := ∀ a b : Int, Φ qd [.v (.int a) false, .v (.int b) false] = .ok (.v (.int (Int.gcd a b))) [.u, .u]
theorem g_Fisw {qw qd : Nat} (hw : HW Φ qw) (hd : HDv Φ qd) (x : Rat) : finF 2 (exe B Φ (S_Fisw qw qd) [.v o false, .v (SF.d x) false]) = .ok (.v (.bl true)) [.u, .u] := by
  have p1 := x.den_pos
  have e := (rd_Fr x).low
  have h1 := hw x.num
  have h2 := hw x.den
  have h3 := hd x.num x.den
  have l : ¬ (x.den : Int) < 1 := by omega
  show finF 2 (exe B Φ (S_Fisw qw qd) [.v o false, .v (rd x) false]) = _
  unfold rd
  simp [S_Fisw, h1, h2, h3, e, l]
/-! residues -/
variable {p : Int} {hp : 1 < p} {c f : Nat}
def S_Rplus (f : Nat) : S := .seq (.ret (.bin .mod (.bin .add (.var 1) (.var 2)) (.fld (.var 0) f))) .skip
theorem g_Rplus (hf : (B.cls c).flds = [f]) (x y : (SRes p hp).α) : finF 3 (exe B Φ (S_Rplus f) [.v (.obj c [.int p]) false, .v ((SRes p hp).d x) false, .v ((SRes p hp).d y) false]) = .ok (.v ((SRes p hp).d ((SRes p hp).add x y))) [.u, .u, .u] := by
  have p0 : ¬ p = 0 := by omega
  simp [S_Rplus, hf, SRes, p0, List.findIdx?_cons]
def S_Rtimes (f : Nat) : S := .seq (.ret (.bin .mod (.bin .mul (.var 1) (.var 2)) (.fld (.var 0) f))) .skip
theorem g_Rtimes (hf : (B.cls c).flds = [f]) (hl : p < 10 ^ 1000) (x y : (SRes p hp).α) : finF 3 (exe B Φ (S_Rtimes f) [.v (.obj c [.int p]) false, .v ((SRes p hp).d x) false, .v ((SRes p hp).d y) false]) = .ok (.v ((SRes p hp).d ((SRes p hp).mul x y))) [.u, .u, .u] := by
  have p0 : ¬ p = 0 := by omega
  have m : mulOk x.1 y.1 = true := mulOk_of (by have := x.2; omega) (by have := y.2; omega)
  simp [S_Rtimes, hf, SRes, p0, List.findIdx?_cons]
  simp [m]
def S_Risw (qw f : Nat) : S := .seq (.ret (.and (.call qw (.cons (.var 1) .nil)) (.cmp2 .le .lt (.con (.int 0)) (.var 1) (.fld (.var 0) f)))) .skip
theorem g_Risw {qw : Nat} (hw : HW Φ qw) (hf : (B.cls c).flds = [f]) (x : (SRes p hp).α) : finF 2 (exe B Φ (S_Risw qw f) [.v (.obj c [.int p]) false, .v ((SRes p hp).d x) false]) = .ok (.v (.bl true)) [.u, .u] := by
  have h1 := x.2.1
  have h2 := x.2.2
  have h3 := hw x.1
  simp [S_Risw, SRes, hf, h3, h1, h2, List.findIdx?_cons]
/-! costs -/
def S_Cplus : S := .seq (.ite (.cmp .is (.var 1) (.con .non)) (.seq (.ret (.var 2)) .skip) .skip) (.seq (.ite (.cmp .is (.var 2) (.con .non)) (.seq (.ret (.var 1)) .skip) .skip) (.seq (.ret (.b2 .min (.var 1) (.var 2))) .skip))
theorem g_Cplus (x y : SCo.α) : finF 3 (exe B Φ S_Cplus [.v o false, .v (SCo.d x) false, .v (SCo.d y) false]) = .ok (.v (SCo.d (SCo.add x y))) [.u, .u, .u] := by
  cases x <;> cases y <;> simp [S_Cplus, SCo, cD, cAdd]
def S_Ctimes : S := .seq (.ite (.or (.cmp .is (.var 1) (.con .non)) (.cmp .is (.var 2) (.con .non))) (.seq (.ret (.con .non)) .skip) .skip) (.seq (.ret (.bin .add (.var 1) (.var 2))) .skip)
theorem g_Ctimes (x y : SCo.α) : finF 3 (exe B Φ S_Ctimes [.v o false, .v (SCo.d x) false, .v (SCo.d y) false]) = .ok (.v (SCo.d (SCo.mul x y))) [.u, .u, .u] := by
  cases x <;> cases y <;> simp [S_Ctimes, SCo, cD, cMul]
def S_Cisw (qw : Nat) : S := .seq (.ret (.or (.cmp .is (.var 1) (.con .non)) (.call qw (.cons (.var 1) .nil)))) .skip
theorem g_Cisw {qw : Nat} (hw : HW Φ qw) (x : SCo.α) : finF 2 (exe B Φ (S_Cisw qw) [.v o false, .v (SCo.d x) false]) = .ok (.v (.bl true)) [.u, .u] := by
  cases x with
  | none => simp [S_Cisw, SCo, cD]
  | some i => have h := hw i; simp [S_Cisw, SCo, cD, h]
/-! truths -/
def S_Tplus : S := .seq (.ret (.or (.var 1) (.var 2))) .skip
theorem g_Tplus (x y : STr.α) : finF 3 (exe B Φ S_Tplus [.v o false, .v (STr.d x) false, .v (STr.d y) false]) = .ok (.v (STr.d (STr.add x y))) [.u, .u, .u] := by
  cases x <;> cases y <;> simp [S_Tplus, STr]
def S_Ttimes : S := .seq (.ret (.and (.var 1) (.var 2))) .skip
theorem g_Ttimes (x y : STr.α) : finF 3 (exe B Φ S_Ttimes [.v o false, .v (STr.d x) false, .v (STr.d y) false]) = .ok (.v (STr.d (STr.mul x y))) [.u, .u, .u] := by
  cases x <;> cases y <;> simp [S_Ttimes, STr]
def S_Tisw : S := .seq (.ret (.isi (.var 1) .bool)) .skip
theorem g_Tisw (x : STr.α) : finF 2 (exe B Φ S_Tisw [.v o false, .v (STr.d x) false]) = .ok (.v (.bl true)) [.u, .u] := by
  cases x <;> simp [S_Tisw, STr]
/-- Residues(prime), of a prime: its is_whole is qw, is_prime qp, the bound global g -/
def S_Rini (qw qp g c f : Nat) : S := .seq (.ite (.or (.nt (.call qw (.cons (.var 1) .nil))) (.or (.cmp .gt (.var 1) (.glo g)) (.nt (.call qp (.cons (.var 1) .nil))))) (.seq (.rai c) .skip) .skip) (.seq (.setf f (.var 1)) .skip)
theorem g_Rini {qw qp g ce : Nat} (hw : HW Φ qw) (hg : B.glo g = .int 1000000) (hf : (B.cls c).flds = [f]) (n : Int) (k : Bool) (hpr : n ≤ 1000000 → Φ qp [.v (.int n) false] = .ok (.v (.bl k)) [.u]) : finF 2 (exe B Φ (S_Rini qw qp g ce f) [.n c [], .v (.int n) false]) = if n ≤ 1000000 ∧ k = true then .ok (.v .non) [.n c [.int n], .u] else .ex ce [.n c [], .u] := by
  have h1 := hw n
  by_cases l : n ≤ 1000000
  · have l2 : ¬ 1000000 < n := by omega
    have h2 := hpr l
    cases k <;> simp [S_Rini, h1, hg, l2, h2, hf, l]
  · have l2 : 1000000 < n := by omega
    simp [S_Rini, h1, hg, l2, l]
end
theorem idx_get {xs : List D} {i : Int} {k : Nat} {v : D} (hi : i = k) (h : xs[k]? = some v) : idxR (.lst xs) (.int i) = some (.v v) := by
  obtain ⟨h1, h2⟩ := List.getElem?_eq_some_iff.mp h
  rw [idx_lst hi h1, h2]
theorem idx_getT {xs : List D} {i : Int} {k : Nat} {v : D} (hi : i = k) (h : xs[k]? = some v) : idxR (.tup xs) (.int i) = some (.v v) := by
  obtain ⟨h1, h2⟩ := List.getElem?_eq_some_iff.mp h
  rw [idx_tup hi h1, h2]
/-- for k in range(N) -/
theorem lpL_rng {i : Nat} {f : Env → Out Fl} (N : Nat) (Pv : Nat → Env → Prop) (ρ : Env) (h : Pv 0 ρ) (hs : ∀ k, k < N → ∀ ρ, Pv k ρ → ∃ ρ2, (f (pt ρ i (.v (.int k) false)) = .ok .nx ρ2 ∨ f (pt ρ i (.v (.int k) false)) = .ok .cont ρ2) ∧ Pv (k + 1) ρ2) :
    ∃ ρ', lpL (.one i) f ((List.range N).map fun i => .int (i : Nat)) ρ = .ok .nx ρ' ∧ Pv N ρ' := by
  obtain ⟨ρ', h1, h2⟩ := lpL_inv (t := .one i) (f := f) Pv ((List.range N).map fun i => .int (i : Nat)) 0 ρ h (fun k d ρ hd q => by
    rw [List.getElem?_map] at hd
    cases hr : (List.range N)[k]? with
    | none => rw [hr] at hd; cases hd
    | some j =>
      rw [hr] at hd
      cases hd
      obtain ⟨hi, ej⟩ := List.getElem?_eq_some_iff.mp hr
      rw [List.length_range] at hi
      rw [List.getElem_range] at ej
      subst ej
      rw [Nat.zero_add] at q
      obtain ⟨ρ2, h1, h2⟩ := hs k hi ρ q
      exact ⟨_, ρ2, rfl, h1, by rw [Nat.zero_add]; exact h2⟩)
  refine ⟨ρ', h1, ?_⟩
  rw [Nat.zero_add, List.length_map, List.length_range] at h2
  exact h2
/-- for x in xs -/
theorem lpL_each {i : Nat} {f : Env → Out Fl} (xs : List D) (Pv : Env → Prop) (ρ : Env) (h : Pv ρ) (hs : ∀ d, d ∈ xs → ∀ ρ, Pv ρ → ∃ ρ2, (f (pt ρ i (.v d false)) = .ok .nx ρ2 ∨ f (pt ρ i (.v d false)) = .ok .cont ρ2) ∧ Pv ρ2) :
    ∃ ρ', lpL (.one i) f xs ρ = .ok .nx ρ' ∧ Pv ρ' := by
  obtain ⟨ρ', h1, h2⟩ := lpL_inv (t := .one i) (f := f) (fun _ => Pv) xs 0 ρ h (fun k d ρ hd q => by
    obtain ⟨ρ2, h1, h2⟩ := hs d (List.mem_of_getElem? hd) ρ q
    exact ⟨_, ρ2, rfl, h1, h2⟩)
  exact ⟨ρ', h1, h2⟩
end Z

/-! fields: minus, inverse -/
namespace Z
open PySem
/-- a field's minus and inverse -/
structure Fi (s : Sr) where
  neg : s.α → s.α
  inv : s.α → s.α
  an : ∀ x, s.add x (neg x) = s.z
  mi : ∀ x, x ≠ s.z → s.mul x (inv x) = s.o
  sn : ∀ m x, s.sz m x → s.sz m (neg x)
  si : ∀ m x, s.sz m x → s.sz m (inv x)
namespace Fi
variable {s : Sr} (f : Fi s)
theorem uniq_neg {x a b : s.α} (h1 : s.add x a = s.z) (h2 : s.add x b = s.z) : a = b := by
  have : s.add (s.add x a) b = s.add (s.add x b) a := by rw [s.aa, s.ac a b, ← s.aa]
  rw [h1, h2, s.za, s.za] at this
  exact this.symm
theorem nn (x : s.α) : f.neg (f.neg x) = x := uniq_neg (f.an (f.neg x)) (by rw [s.ac]; exact f.an x)
theorem uniq_inv {x a b : s.α} (h1 : s.mul x a = s.o) (h2 : s.mul x b = s.o) : a = b := by
  have : s.mul (s.mul x a) b = s.mul (s.mul x b) a := by rw [s.ma, s.mc a b, ← s.ma]
  rw [h1, h2, s.om, s.om] at this
  exact this.symm
theorem iz {x : s.α} (h : x ≠ s.z) : f.inv x ≠ s.z := fun e => by
  have := f.mi x h
  rw [e, s.mz] at this
  exact s.zo this
theorem ii {x : s.α} (h : x ≠ s.z) : f.inv (f.inv x) = x := uniq_inv (f.mi _ (f.iz h)) (by rw [s.mc]; exact f.mi x h)
end Fi
/-! ### fractions -/
def FiF : Fi SF where
  neg := fun (x : Rat) => -x
  inv := Rat.inv
  an := Rat.add_neg_cancel
  mi := fun x h => Rat.mul_inv_cancel x h
  sn := fun m (x : Rat) (h : rsz m x) => by
    show rsz m (-x)
    unfold rsz at *
    rw [Rat.neg_num, Rat.neg_den, Int.natAbs_neg]
    exact h
  si := fun m (x : Rat) (h : rsz m x) => by
    obtain ⟨h1, h2⟩ := h
    show rsz m (Rat.inv x)
    unfold Rat.inv
    by_cases q : x.num < 0
    · rw [dif_pos q]
      exact ⟨by show (-(x.den : Int)).natAbs < _; rw [Int.natAbs_neg]; simpa using h2, h1⟩
    · rw [dif_neg q]
      by_cases q2 : x.num > 0
      · rw [dif_pos q2]
        exact ⟨by show ((x.den : Int)).natAbs < _; simpa using h2, h1⟩
      · rw [dif_neg q2]
        exact ⟨h1, h2⟩
/-- .. as told -/
theorem inv_neg {x : Rat} (h : x.num < 0) : rd x⁻¹ = .tup [.int (-x.den), .int (-x.num)] := by
  show rd (Rat.inv x) = _
  unfold Rat.inv
  rw [dif_pos h]
  unfold rd
  dsimp only
  rw [show ((x.num.natAbs : Nat) : Int) = -x.num by omega]
theorem inv_pos {x : Rat} (h : 0 < x.num) : rd x⁻¹ = .tup [.int x.den, .int x.num] := by
  show rd (Rat.inv x) = _
  unfold Rat.inv
  rw [dif_neg (by omega), dif_pos h]
  unfold rd
  dsimp only
  rw [show ((x.num.natAbs : Nat) : Int) = x.num by omega]
/-! ### residues -/
theorem pl_spec : ∀ (m : Nat) (n b : Int), pl' m n b = true → 0 ≤ b → n < (b + m) * (b + m) → ∀ d : Int, b ≤ d → d * d ≤ n → n.fmod d ≠ 0
  | 0, n, b, h, hb, h2, d, h3, h4 => by
    simp at h2
    have := Int.mul_le_mul h3 h3 hb (show 0 ≤ d by omega)
    omega
  | m + 1, n, b, h, hb, h2, d, h3, h4 => by
    unfold pl' at h
    have q := Int.mul_le_mul h3 h3 hb (show 0 ≤ d by omega)
    rw [if_pos (show b * b ≤ n by omega)] at h
    by_cases e : n.fmod b = 0
    · rw [if_pos e] at h; cases h
    · rw [if_neg e] at h
      rcases Int.lt_or_eq_of_le h3 with l | l
      · refine pl_spec m n (b + 1) h (by omega) ?_ d (by omega) h4
        have : b + 1 + (m : Int) = b + ((m + 1 : Nat) : Int) := by omega
        rw [this]; exact h2
      · subst l; exact e
/-- a prime -/
def Prm (p : Int) : Prop := 1 < p ∧ ∀ d : Int, 2 ≤ d → d * d ≤ p → p.fmod d ≠ 0
theorem Prm.cop {p x : Int} (h : Prm p) (h1 : 0 < x) (h2 : x < p) : Int.gcd x p = 1 := by
  obtain ⟨g, hg⟩ : ∃ g : Nat, g = Int.gcd x p := ⟨_, rfl⟩
  rw [← hg]
  have d1 : (g : Int) ∣ x := by rw [hg]; exact Int.gcd_dvd_left x p
  have d2 : (g : Int) ∣ p := by rw [hg]; exact Int.gcd_dvd_right x p
  have l1 := Int.le_of_dvd h1 d1
  obtain ⟨k, hk⟩ := d2
  have g0 : g ≠ 0 := by
    intro e
    subst e
    simp at hk
    have := h.1
    omega
  rcases Nat.lt_or_ge 1 g with l | l
  · exfalso
    have k2 : 2 ≤ k := by
      refine Classical.byContradiction fun q => ?_
      have : k ≤ 1 := by omega
      have := Int.mul_le_mul_of_nonneg_left this (show (0 : Int) ≤ g by omega)
      omega
    have nd : ∀ d : Int, d ∣ p → p.fmod d = 0 := fun d hd => Int.fmod_eq_zero_of_dvd hd
    rcases Int.le_total (g : Int) k with q | q
    · refine h.2 g (by omega) ?_ (nd _ ⟨k, hk⟩)
      have := Int.mul_le_mul_of_nonneg_left q (show (0 : Int) ≤ g by omega)
      omega
    · refine h.2 k k2 ?_ (nd _ ⟨g, by rw [hk, Int.mul_comm]⟩)
      have := Int.mul_le_mul_of_nonneg_right q (show (0 : Int) ≤ k by omega)
      omega
  · omega
section
variable {B : Tb} {Φ : CallF} {o : D}
def L_inv : S := .seq (.set 6 (.bin .fdiv (.var 2) (.var 3))) (.seq (.par 2 3 (.var 3) (.bin .sub (.var 2) (.bin .mul (.var 6) (.var 3)))) (.seq (.par 4 5 (.var 5) (.bin .sub (.var 4) (.bin .mul (.var 6) (.var 5)))) .skip))
theorem loop_inv (o x : D) (xi p P : Int) (hP : P < 10 ^ 20) : ∀ (m : Nat) (a b u v : Int), 0 < a → 0 ≤ b → b.toNat ≤ m → a < 10 ^ 20 → b < 10 ^ 20 → (u.natAbs : Int) * b + v.natAbs * a ≤ P → p ∣ u * xi - a → p ∣ v * xi - b → ∀ x6,
    ∃ u' x5 x6', whC (ev B Φ (.cmp .gt (.var 3) (.con (.int 0)))) (exe B Φ L_inv) [.v o false, .v x false, .v (.int a) false, .v (.int b) false, .v (.int u) false, .v (.int v) false, x6] = .ok .nx [.v o false, .v x false, .v (.int (Int.gcd a b)) false, .v (.int 0) false, .v (.int u') false, x5, x6'] ∧ p ∣ u' * xi - (Int.gcd a b : Int) := by
  intro m
  induction m with
  | zero =>
    intro a b u v ha hb hm la lb hs d1 d2 x6
    have : b = 0 := by omega
    subst this
    refine ⟨u, .v (.int v) false, x6, ?_, ?_⟩
    · rw [whC_eq]
      simp [Int.natAbs_of_nonneg (show 0 ≤ a by omega)]
    · simpa [Int.natAbs_of_nonneg (show 0 ≤ a by omega)] using d1
  | succ m ih =>
    intro a b u v ha hb hm la lb hs d1 d2 x6
    by_cases h0 : b = 0
    · subst h0
      refine ⟨u, .v (.int v) false, x6, ?_, ?_⟩
      · rw [whC_eq]
        simp [Int.natAbs_of_nonneg (show 0 ≤ a by omega)]
      · simpa [Int.natAbs_of_nonneg (show 0 ≤ a by omega)] using d1
    · have hb1 : 0 < b := by omega
      obtain ⟨k, hk⟩ : ∃ k, k = a.fdiv b := ⟨_, rfl⟩
      have e := fmod_nn a hb1
      have e2 : a.fmod b = a - k * b := by rw [Int.fmod_def, hk, Int.mul_comm b]
      have k0 : 0 ≤ k := by rw [hk]; exact Int.fdiv_nonneg (by omega) hb
      have kb : k ≤ a := by
        have := Int.mul_le_mul_of_nonneg_left (show 1 ≤ b by omega) k0
        omega
      have vb : (v.natAbs : Int) ≤ P := by
        have h1 := Int.mul_le_mul_of_nonneg_left (show 1 ≤ a by omega) (show (0 : Int) ≤ v.natAbs by omega)
        have h2 := Int.mul_nonneg (show (0 : Int) ≤ u.natAbs by omega) hb
        omega
      have q : ((v.natAbs : Int)) * (a - k * b) + ((u - k * v).natAbs : Int) * b ≤ P := by
        have t : ((u - k * v).natAbs : Int) ≤ u.natAbs + k * v.natAbs := by
          have := Int.natAbs_sub_le u (k * v)
          rw [Int.natAbs_mul] at this
          have kk : (k.natAbs : Int) = k := by omega
          have : ((u - k * v).natAbs : Int) ≤ ((u.natAbs + k.natAbs * v.natAbs : Nat) : Int) := by omega
          rw [Int.natCast_add, Int.natCast_mul, kk] at this
          exact this
        have t2 := Int.mul_le_mul_of_nonneg_right t hb
        rw [Int.add_mul] at t2
        rw [Int.mul_sub]
        have z : (v.natAbs : Int) * (k * b) = k * v.natAbs * b := by rw [← Int.mul_assoc, Int.mul_comm (v.natAbs : Int) k]
        omega
      have d3 : p ∣ (u - k * v) * xi - (a - k * b) := by
        have := Int.dvd_sub d1 (Int.dvd_mul_of_dvd_right (b := k) d2)
        have z : u * xi - a - k * (v * xi - b) = (u - k * v) * xi - (a - k * b) := by
          rw [Int.mul_sub, Int.sub_mul, Int.mul_assoc]; omega
        rw [← z]; exact this
      obtain ⟨u', x5, x6', h1, h2⟩ := ih b (a - k * b) v (u - k * v) hb1 (by omega) (by omega) lb (by omega) q d2 d3 (.v (.int k) false)
      rw [← e2, gcd_fmod a b] at h1 h2
      refine ⟨u', x5, x6', ?_, h2⟩
      have dk : divOk b = true := divOk_of h0 (pow_le_big (m := 21) (by omega) (by decide))
      have m1 : mulOk k b = true := mulOk_of (pow_le_big (m := 21) (by omega) (by decide)) (pow_le_big (m := 21) (by omega) (by decide))
      have m2 : mulOk k v = true := mulOk_of (pow_le_big (m := 21) (by omega) (by decide)) (pow_le_big (m := 21) (by omega) (by decide))
      rw [whC_eq]
      simp [L_inv, hb1, dk, ← hk, m1, m2]
      rw [e2] at h1
      exact h1
def S_Rinv (f ce : Nat) : S := .seq (.ite (.cmp .eq (.var 1) (.con (.int 0))) (.seq (.rai ce) .skip) .skip) (.seq (.set 2 (.var 1)) (.seq (.set 3 (.fld (.var 0) f)) (.seq (.set 4 (.con (.int 1))) (.seq (.set 5 (.con (.int 0))) (.seq (.whl (.cmp .gt (.var 3) (.con (.int 0))) L_inv) (.seq (.ret (.bin .mod (.var 4) (.fld (.var 0) f))) .skip))))))
variable {p : Int} {hp : 1 < p} {c f ce : Nat}
theorem res_inv (h : Prm p) (hl : p < 10 ^ 20) (hf : (B.cls c).flds = [f]) (x : (SRes p hp).α) (hx : x ≠ (SRes p hp).z) : ∃ r : (SRes p hp).α, (SRes p hp).mul x r = (SRes p hp).o ∧ finF 2 (exe B Φ (S_Rinv f ce) [.v (.obj c [.int p]) false, .v ((SRes p hp).d x) false, .u, .u, .u, .u, .u]) = .ok (.v ((SRes p hp).d r)) [.u, .u] := by
  have p0 : ¬ p = 0 := by omega
  have x0 : x.1 ≠ 0 := fun e => hx (Subtype.ext e)
  have x1 := x.2
  have hc := h.cop (show 0 < x.1 by omega) x1.2
  obtain ⟨u', x5, x6', h1, h2⟩ := loop_inv (B := B) (Φ := Φ) (.obj c [.int p]) (.int x.1) x.1 p p hl p.toNat x.1 p 1 0 (by omega) (by omega) (by omega) (by omega) (by omega) (by simp) (by simp) ⟨-1, by omega⟩ .u
  rw [hc] at h1 h2
  refine ⟨⟨u'.fmod p, fmod_nn _ (by omega)⟩, ?_, ?_⟩
  · refine Subtype.ext ?_
    show (x.1 * u'.fmod p).fmod p = 1
    rw [Int.fmod_eq_emod_of_nonneg _ (show 0 ≤ p by omega), Int.fmod_eq_emod_of_nonneg _ (show 0 ≤ p by omega), em2, Int.mul_comm]
    have : u' * x.1 % p = 1 % p := Int.emod_eq_emod_iff_emod_sub_eq_zero.mpr (Int.emod_eq_zero_of_dvd h2)
    rw [this]
    exact Int.emod_eq_of_lt (by omega) (by omega)
  · show finF 2 (exe B Φ (S_Rinv f ce) [.v (.obj c [.int p]) false, .v (.int x.1) false, .u, .u, .u, .u, .u]) = .ok (.v (.int (u'.fmod p))) [.u, .u]
    simp [S_Rinv, x0, hf, List.findIdx?_cons, h1, p0]
end
open Classical in
/-- residues are a field -/
noncomputable def FiR (p : Int) (hp : 1 < p) (h : ∀ x : (SRes p hp).α, x ≠ (SRes p hp).z → ∃ r, (SRes p hp).mul x r = (SRes p hp).o) : Fi (SRes p hp) where
  neg := fun x => ⟨(-x.1).fmod p, fmod_nn _ (by omega)⟩
  inv := fun x => if q : x ≠ (SRes p hp).z then Classical.choose (h x q) else x
  an := fun x => by
    refine Subtype.ext ?_
    show (x.1 + (-x.1).fmod p).fmod p = 0
    rw [Int.fmod_eq_emod_of_nonneg _ (show 0 ≤ p by omega), Int.fmod_eq_emod_of_nonneg _ (show 0 ≤ p by omega), Int.add_emod_emod]
    simp [Int.add_right_neg]
  mi := fun x q => by
    rw [dif_pos q]
    exact Classical.choose_spec (h x q)
  sn := fun _ _ _ => trivial
  si := fun _ _ _ => trivial
section
variable {B : Tb} {Φ : CallF} {o : D} {p : Int} {hp : 1 < p} {c f ce : Nat}
/-! ### the methods -/
structure Kf (B : Tb) (Φ : CallF) (s : Sr) (F : Fi s) (c : Nat) (vs : List D) (mM mI ce : Nat) : Prop where
  minus : ∃ q, B.mth c mM = some q ∧ ∀ x, Φ q [.v (.obj c vs) false, .v (s.d x) false] = .ok (.v (s.d (F.neg x))) [.u, .u]
  inverse : ∃ q, B.mth c mI = some q ∧ (∀ x, x ≠ s.z → s.sz 400 x → Φ q [.v (.obj c vs) false, .v (s.d x) false] = .ok (.v (s.d (F.inv x))) [.u, .u]) ∧ Φ q [.v (.obj c vs) false, .v (s.d s.z) false] = .ex ce [.u, .u]
theorem fdiv_m1 (x : Int) : x.fdiv (-1) = -x := by
  rw [← Int.neg_neg x, Int.neg_fdiv_neg]
  simp
theorem g_fracinv {qd ce : Nat} (hd : HDv Φ qd) (x : Rat) (hx : x.num ≠ 0) : finF 2 (exe B Φ (S_fraction qd ce) [.v (.int x.den) false, .v (.int x.num) false, .u]) = .ok (.v (rd x⁻¹)) [.u, .u] := by
  have e : Int.gcd x.den x.num = 1 := by rw [Int.gcd_comm]; exact (rd_Fr x).low
  have h := hd x.den x.num
  rw [e] at h
  have d1 : divOk 1 = true := by decide
  have d2 : divOk (-1) = true := by decide
  by_cases l : x.num < 0
  · rw [inv_neg l]
    simp [S_fraction, hx, h, l, d1, d2, fdiv_m1]
  · rw [inv_pos (show 0 < x.num by omega)]
    simp [S_fraction, hx, h, l, d1, d2]
def S_Fminus : S := .seq (.ret (.tup (.cons (.neg (.idx (.var 1) (.con (.int 0)))) (.cons (.idx (.var 1) (.con (.int 1))) .nil)))) .skip
theorem g_Fminus (x : Rat) : finF 2 (exe B Φ S_Fminus [.v o false, .v (SF.d x) false]) = .ok (.v (SF.d (FiF.neg x))) [.u, .u] := by
  show finF 2 (exe B Φ S_Fminus [.v o false, .v (rd x) false]) = .ok (.v (rd (-x))) [.u, .u]
  unfold rd
  rw [Rat.neg_num, Rat.neg_den]
  simp [S_Fminus]
def S_Finv (qf ce : Nat) : S := .seq (.ite (.cmp .eq (.idx (.var 1) (.con (.int 0))) (.con (.int 0))) (.seq (.rai ce) .skip) .skip) (.seq (.ret (.call qf (.cons (.idx (.var 1) (.con (.int 1))) (.cons (.idx (.var 1) (.con (.int 0))) .nil)))) .skip)
theorem g_Finv {qf ce : Nat} (x : Rat) (hx : x ≠ SF.z) (hf : Φ qf [.v (.int x.den) false, .v (.int x.num) false] = .ok (.v (rd x⁻¹)) [.u, .u]) : finF 2 (exe B Φ (S_Finv qf ce) [.v o false, .v (SF.d x) false]) = .ok (.v (SF.d (FiF.inv x))) [.u, .u] := by
  have h0 : x.num ≠ 0 := fun e => hx (Rat.num_eq_zero.mp e)
  show finF 2 (exe B Φ (S_Finv qf ce) [.v o false, .v (rd x) false]) = .ok (.v (rd x⁻¹)) [.u, .u]
  unfold rd at hf ⊢
  simp [S_Finv, h0, hf]
theorem g_Finv0 {qf ce : Nat} : finF 2 (exe B Φ (S_Finv qf ce) [.v o false, .v (SF.d SF.z) false]) = .ex ce [.u, .u] := by
  show finF 2 (exe B Φ (S_Finv qf ce) [.v o false, .v (rd 0) false]) = _
  unfold rd
  simp [S_Finv]
def S_Rminus (f : Nat) : S := .seq (.ret (.bin .mod (.neg (.var 1)) (.fld (.var 0) f))) .skip
theorem g_Rminus (hf : (B.cls c).flds = [f]) (x : (SRes p hp).α) : finF 2 (exe B Φ (S_Rminus f) [.v (.obj c [.int p]) false, .v ((SRes p hp).d x) false]) = .ok (.v (.int ((-x.1).fmod p))) [.u, .u] := by
  have p0 : ¬ p = 0 := by omega
  show finF 2 (exe B Φ (S_Rminus f) [.v (.obj c [.int p]) false, .v (.int x.1) false]) = _
  simp [S_Rminus, hf, List.findIdx?_cons, p0]
theorem g_Rinv0 : finF 2 (exe B Φ (S_Rinv f ce) [.v (.obj c [.int p]) false, .v ((SRes p hp).d (SRes p hp).z) false, .u, .u, .u, .u, .u]) = .ex ce [.u, .u] := by
  show finF 2 (exe B Φ (S_Rinv f ce) [.v (.obj c [.int p]) false, .v (.int 0) false, .u, .u, .u, .u, .u]) = _
  simp [S_Rinv]
theorem res_all (h : Prm p) (hl : p < 10 ^ 20) : ∀ x : (SRes p hp).α, x ≠ (SRes p hp).z → ∃ r, (SRes p hp).mul x r = (SRes p hp).o := fun x hx => by
  obtain ⟨r, h1, _⟩ := res_inv (B := ⟨fun _ => .non, fun _ => ⟨[0], none⟩, fun _ _ => none, fun _ _ => false, fun _ => false, fun _ => false⟩) (Φ := fun _ _ => .st) (c := 0) (f := 0) (ce := 0) h hl rfl x hx
  exact ⟨r, h1⟩
theorem g_Rinv (h : Prm p) (hl : p < 10 ^ 20) (hf : (B.cls c).flds = [f]) (x : (SRes p hp).α) (hx : x ≠ (SRes p hp).z) : finF 2 (exe B Φ (S_Rinv f ce) [.v (.obj c [.int p]) false, .v ((SRes p hp).d x) false, .u, .u, .u, .u, .u]) = .ok (.v ((SRes p hp).d ((FiR p hp (res_all h hl)).inv x))) [.u, .u] := by
  obtain ⟨r, h1, h2⟩ := res_inv (B := B) (Φ := Φ) (ce := ce) h hl hf x hx
  rw [h2, Fi.uniq_inv h1 ((FiR p hp (res_all h hl)).mi x hx)]
end
/-! ### the primes that the laws draw -/
structure Pr (p : Int) : Prop where
  gt : 1 < p
  le : p ≤ 1000000
  pr : ∃ m : Nat, p < (2 + m) * (2 + m) ∧ pl' m p 2 = true
theorem Pr.le_big {p : Int} (h : Pr p) : p < 10 ^ 1000 := by
  have := h.le
  have : (1000000 : Int) < 10 ^ 1000 := by decide
  omega
theorem Pr.prm {p : Int} (h : Pr p) : Prm p := by
  obtain ⟨m, h1, h2⟩ := h.pr
  exact ⟨h.gt, fun d h3 h4 => pl_spec m p 2 h2 (by omega) h1 d h3 h4⟩
/-- the fields of kind w -/
def kV (p : Int) : Nat → List D
  | 1 => [.int p]
  | _ => []
theorem prs (k : Nat) (hk : k < 9) : ∃ p, [D.int 2, .int 3, .int 5, .int 7, .int 11, .int 13, .int 101, .int 65537, .int 999983][k]? = some (.int p) ∧ Pr p := by
  match k, hk with
  | 0, _ => exact ⟨_, rfl, by decide, by decide, 1000, by decide, by decide +kernel⟩
  | 1, _ => exact ⟨_, rfl, by decide, by decide, 1000, by decide, by decide +kernel⟩
  | 2, _ => exact ⟨_, rfl, by decide, by decide, 1000, by decide, by decide +kernel⟩
  | 3, _ => exact ⟨_, rfl, by decide, by decide, 1000, by decide, by decide +kernel⟩
  | 4, _ => exact ⟨_, rfl, by decide, by decide, 1000, by decide, by decide +kernel⟩
  | 5, _ => exact ⟨_, rfl, by decide, by decide, 1000, by decide, by decide +kernel⟩
  | 6, _ => exact ⟨_, rfl, by decide, by decide, 1000, by decide, by decide +kernel⟩
  | 7, _ => exact ⟨_, rfl, by decide, by decide, 1000, by decide, by decide +kernel⟩
  | 8, _ => exact ⟨_, rfl, by decide, by decide, 1000, by decide, by decide +kernel⟩
theorem prime9 (c : Int) : ∃ p, idxR (.lst [D.int 2, .int 3, .int 5, .int 7, .int 11, .int 13, .int 101, .int 65537, .int 999983]) (.int (c.fmod 9)) = some (.v (.int p)) ∧ Pr p := by
  have b := fmod_nn c (show (0 : Int) < 9 by omega)
  obtain ⟨k, hk⟩ : ∃ k : Nat, c.fmod 9 = k := ⟨(c.fmod 9).toNat, by omega⟩
  obtain ⟨p, e, h⟩ := prs k (by omega)
  exact ⟨p, idx_get hk e, h⟩
theorem srd (p : Int) (h : 1 < p) : (srOf p h 0).d = rd := rfl
theorem rd_def (r : Rat) : rd r = .tup [.int r.num, .int r.den] := rfl
/-- a drawn number's bottom -/
theorem num_bot (e : Int) : ∃ b : Int, b = (if (if num e < 0 then -num e else num e) > 1 then (if num e < 0 then -num e else num e) else 1) ∧ 0 < b ∧ b.natAbs < 10 ^ 30 := by
  have n2 := num_le e
  refine ⟨_, rfl, ?_⟩
  by_cases h : num e < 0
  · rw [if_pos h]; split <;> omega
  · rw [if_neg h]; split <;> omega
end Z

/-! rows of the wider language -/
namespace Z
open PySem
section
variable {B : Tb} {Φ : CallF} {ρ : Env} {a b c : E} {d e : D} {x y r : R} {i : Nat} {f : Bool}
@[simp] theorem isi_int_non  : isiR B .int .non = some (.v (.bl false)) := rfl
@[simp] theorem isi_int_bl (q : Bool) : isiR B .int (.bl q) = some (.v (.bl true)) := rfl
@[simp] theorem isi_int_int (q : Int) : isiR B .int (.int q) = some (.v (.bl true)) := rfl
@[simp] theorem isi_int_str (q : List Nat) : isiR B .int (.str q) = some (.v (.bl false)) := rfl
@[simp] theorem isi_int_tup (q : List D) : isiR B .int (.tup q) = some (.v (.bl false)) := rfl
@[simp] theorem isi_int_lst (q : List D) : isiR B .int (.lst q) = some (.v (.bl false)) := rfl
@[simp] theorem isi_int_dct (ks : List KD) (q : List D) : isiR B .int (.dct ks q) = some (.v (.bl false)) := rfl
@[simp] theorem isi_bool_non  : isiR B .bool .non = some (.v (.bl false)) := rfl
@[simp] theorem isi_bool_bl (q : Bool) : isiR B .bool (.bl q) = some (.v (.bl true)) := rfl
@[simp] theorem isi_bool_int (q : Int) : isiR B .bool (.int q) = some (.v (.bl false)) := rfl
@[simp] theorem isi_bool_str (q : List Nat) : isiR B .bool (.str q) = some (.v (.bl false)) := rfl
@[simp] theorem isi_bool_tup (q : List D) : isiR B .bool (.tup q) = some (.v (.bl false)) := rfl
@[simp] theorem isi_bool_lst (q : List D) : isiR B .bool (.lst q) = some (.v (.bl false)) := rfl
@[simp] theorem isi_bool_dct (ks : List KD) (q : List D) : isiR B .bool (.dct ks q) = some (.v (.bl false)) := rfl
@[simp] theorem isi_str_non  : isiR B .str .non = some (.v (.bl false)) := rfl
@[simp] theorem isi_str_bl (q : Bool) : isiR B .str (.bl q) = some (.v (.bl false)) := rfl
@[simp] theorem isi_str_int (q : Int) : isiR B .str (.int q) = some (.v (.bl false)) := rfl
@[simp] theorem isi_str_str (q : List Nat) : isiR B .str (.str q) = some (.v (.bl true)) := rfl
@[simp] theorem isi_str_tup (q : List D) : isiR B .str (.tup q) = some (.v (.bl false)) := rfl
@[simp] theorem isi_str_lst (q : List D) : isiR B .str (.lst q) = some (.v (.bl false)) := rfl
@[simp] theorem isi_str_dct (ks : List KD) (q : List D) : isiR B .str (.dct ks q) = some (.v (.bl false)) := rfl
@[simp] theorem isi_tup_non  : isiR B .tup .non = some (.v (.bl false)) := rfl
@[simp] theorem isi_tup_bl (q : Bool) : isiR B .tup (.bl q) = some (.v (.bl false)) := rfl
@[simp] theorem isi_tup_int (q : Int) : isiR B .tup (.int q) = some (.v (.bl false)) := rfl
@[simp] theorem isi_tup_str (q : List Nat) : isiR B .tup (.str q) = some (.v (.bl false)) := rfl
@[simp] theorem isi_tup_tup (q : List D) : isiR B .tup (.tup q) = some (.v (.bl true)) := rfl
@[simp] theorem isi_tup_lst (q : List D) : isiR B .tup (.lst q) = some (.v (.bl false)) := rfl
@[simp] theorem isi_tup_dct (ks : List KD) (q : List D) : isiR B .tup (.dct ks q) = some (.v (.bl false)) := rfl
@[simp] theorem isi_lst_non  : isiR B .lst .non = some (.v (.bl false)) := rfl
@[simp] theorem isi_lst_bl (q : Bool) : isiR B .lst (.bl q) = some (.v (.bl false)) := rfl
@[simp] theorem isi_lst_int (q : Int) : isiR B .lst (.int q) = some (.v (.bl false)) := rfl
@[simp] theorem isi_lst_str (q : List Nat) : isiR B .lst (.str q) = some (.v (.bl false)) := rfl
@[simp] theorem isi_lst_tup (q : List D) : isiR B .lst (.tup q) = some (.v (.bl false)) := rfl
@[simp] theorem isi_lst_lst (q : List D) : isiR B .lst (.lst q) = some (.v (.bl true)) := rfl
@[simp] theorem isi_lst_dct (ks : List KD) (q : List D) : isiR B .lst (.dct ks q) = some (.v (.bl false)) := rfl
/-! methods of a text -/
def bmK (m : BM) (s : List Nat) (o : Option (List D)) (ρ : Env) : Out (List R) := match o with
  | some ds => ofO (bmD m s ds) ρ
  | none => .st
def bmR (B : Tb) (Φ : CallF) (m : BM) (as : E) (x : R) (ρ1 : Env) : Out (List R) := match x with
  | .v (.str s) => (ev B Φ as ρ1).bnd fun rs ρ2 => bmK m s (drA ρ2 rs) ρ2
  | _ => .st
@[simp] theorem ev_bm {m : BM} : ev B Φ (.bm m a b) ρ = (ev B Φ a ρ).one fun x ρ1 => bmR B Φ m b x ρ1 := by
  first
  | rfl
  | (show Out.one _ _ = Out.one _ _; congr 1)
@[simp] theorem bmR_s {m : BM} {s : List Nat} : bmR B Φ m b (.v (.str s)) ρ = (ev B Φ b ρ).bnd fun rs ρ2 => bmK m s (drA ρ2 rs) ρ2 := rfl
@[simp] theorem bmK_some {m : BM} {s : List Nat} {ds : List D} : bmK m s (some ds) ρ = ofO (bmD m s ds) ρ := rfl
@[simp] theorem bm_starts {s t : List Nat} : bmD .starts s [.str t] = some (.v (.bl (Txt.startswith (tS' s) (tS' t)))) := rfl
noncomputable def tryoK (B : Tb) (Φ : CallF) (c : Nat) (s : S) (o : Out Fl) : Out Fl := match o with
  | .ex d ρ1 => if B.exn d then (if B.sub d c then exe B Φ s ρ1 else .ex d ρ1) else .st
  | o => o
/-! a slot of a list -/
def setiH (i : Nat) (o : Option Nat) (d : D) (xs : List D) (f : Bool) (ρ : Env) : Out Fl := match o with
  | some k => .ok .nx (pt ρ i (.o (.L (xs.set k d)) f))
  | none => .st
def setiG (i : Nat) (j : Int) (d : D) (s : Sl) (ρ : Env) : Out Fl := match s with
  | .o (.L xs) f => setiH i (ixD xs.length j) d xs f ρ
  | _ => .st
def setiF (i : Nat) (j : Int) (o : Option (D × Env)) : Out Fl := match o with
  | some (d, ρ3) => setiG i j d (gt ρ3 i) ρ3
  | none => .st
def setiK (i : Nat) (r y : R) (ρ : Env) : Out Fl := match y with
  | .v (.int j) => setiF i j (fz ρ r)
  | _ => .st
@[simp] theorem exe_seti : exe B Φ (.seti i a b) ρ = (ev B Φ b ρ).one fun r ρ1 => if isOL (gt ρ1 i) then (ev B Φ a ρ1).one (setiK i r) else .st := by
  first
  | rfl
  | (show Out.one _ _ = Out.one _ _; congr 1)
@[simp] theorem setiK_v {j : Int} : setiK i r (.v (.int j)) ρ = setiF i j (fz ρ r) := rfl
@[simp] theorem setiF_some {j : Int} : setiF i j (some (d, ρ)) = setiG i j d (gt ρ i) ρ := rfl
@[simp] theorem setiG_o {j : Int} {xs : List D} : setiG i j d (.o (.L xs) f) ρ = setiH i (ixD xs.length j) d xs f ρ := rfl
@[simp] theorem setiH_some {k : Nat} {xs : List D} : setiH i (some k) d xs f ρ = .ok .nx (pt ρ i (.o (.L (xs.set k d)) f)) := rfl
/-! {} -/
@[simp] theorem ev_dnew : ev B Φ .dnew ρ = .ok [.o (.K [] [])] ρ := rfl
def tixR (ts : List (List Nat)) (d : D) : Option R := match d with
  | .str s => if ts.contains s then some (.v (.int (ts.idxOf s : Nat))) else none
  | _ => none
@[simp] theorem ev_tix {ts : List (List Nat)} : ev B Φ (.tix ts a) ρ = ap1 (ev B Φ a ρ) (tixR ts) := by
  first
  | rfl
  | (show ap1 _ _ = ap1 _ _; congr 1)
@[simp] theorem tixR_s {ts : List (List Nat)} {s : List Nat} : tixR ts (.str s) = if ts.contains s then some (.v (.int (ts.idxOf s : Nat))) else none := rfl
@[simp] theorem cmp_inT {s : List Nat} {q : List D} : cmpR .isin (.str s) (.tup q) = (allStr q).map fun ts => R.v (.bl (ts.contains s)) := by
  have h : cmpD .isin (.str s) (.tup q) = (allStr q).map fun ts => ts.contains s := by
    first
    | rfl
    | (cases s with
      | nil => rfl
      | cons x xs => cases xs <;> rfl)
  unfold cmpR
  rw [h, Option.map_map]
  rfl
@[simp] theorem b1_all {q : List D} : b1D .all (.lst q) = (allBl q).map fun bs => R.v (.bl (bs.all id)) := rfl
@[simp] theorem b1_any {q : List D} : b1D .any (.lst q) = (allBl q).map fun bs => R.v (.bl (bs.any id)) := rfl
def lsetR (d : D) : Option R := match d with
  | .str s => if s.length < 4000 then some (.v (.int (dist [] s : Nat))) else none
  | _ => none
@[simp] theorem ev_lset : ev B Φ (.lset a) ρ = ap1 (ev B Φ a ρ) lsetR := by
  first
  | rfl
  | (show ap1 _ _ = ap1 _ _; congr 1)
@[simp] theorem lsetR_s {s : List Nat} : lsetR (.str s) = if s.length < 4000 then some (.v (.int (dist [] s : Nat))) else none := rfl
def rvR (d : D) : Option R := match d with
  | .lst xs => some (.o (.L xs.reverse))
  | .str x => if x.length ≤ lim then some (.v (.str x.reverse)) else none
  | _ => none
@[simp] theorem ev_rv : ev B Φ (.rv a) ρ = ap1 (ev B Φ a ρ) rvR := by
  first
  | rfl
  | (show ap1 _ _ = ap1 _ _; congr 1)
@[simp] theorem rvR_l {xs : List D} : rvR (.lst xs) = some (.o (.L xs.reverse)) := rfl
@[simp] theorem rvR_s {x : List Nat} : rvR (.str x) = if x.length ≤ lim then some (.v (.str x.reverse)) else none := rfl
def dixR (ks : List (List Nat)) (ds : List D) (d : D) : Option R := match d with
  | .str s => (dget ks ds s).map .v
  | _ => none
def dixK (B : Tb) (Φ : CallF) (ks : List (List Nat)) (x : E) (o : Option (List D × Env)) : Out (List R) := match o with
  | some (ds, ρ2) => ap1 (ev B Φ x ρ2) (dixR ks ds)
  | none => .st
@[simp] theorem ev_dix {ks : List (List Nat)} : ev B Φ (.dix ks a b) ρ = (ev B Φ a ρ).bnd fun rs ρ1 => dixK B Φ ks b (fzA ρ1 rs) := by
  first
  | rfl
  | (show Out.bnd _ _ = Out.bnd _ _; congr 1)
@[simp] theorem dixK_some {ks : List (List Nat)} {ds : List D} : dixK B Φ ks b (some (ds, ρ)) = ap1 (ev B Φ b ρ) (dixR ks ds) := rfl
@[simp] theorem dixR_s {ks : List (List Nat)} {ds : List D} {s : List Nat} : dixR ks ds (.str s) = (dget ks ds s).map .v := rfl
/-! comprehensions -/
def compO (o : Out (List D)) (l : List Nat) : Out (List R) := match o with
  | .ok acc ρ2 => .ok [.o (.L acc)] (ulA ρ2 l)
  | _ => .st
def cndO (B : Tb) (Φ : CallF) (cnd : E) : Option (Env → Out (List R)) := if cnd.isNil then none else some (ev B Φ cnd)
def compJ (B : Tb) (Φ : CallF) (t : Tg) (own : List Nat) (elt cnd : E) (o : Option (List D)) (l : List Nat) (ρ : Env) : Out (List R) := match o with
  | some xs => if xs.length ≤ lim then compO (cmpL own t (cndO B Φ cnd) (ev B Φ elt) xs [] (lkA ρ l)) l else .st
  | none => .st
def compK (B : Tb) (Φ : CallF) (k : ItK) (t : Tg) (own : List Nat) (elt cnd : E) (o : Option (List D)) (l : List Nat) (ρ : Env) : Out (List R) := match o with
  | some ds => compJ B Φ t own elt cnd (if tgIn t own && ownOk ρ own then itD k ds else none) l ρ
  | none => .st
@[simp] theorem ev_comp {k : ItK} {t : Tg} {own : List Nat} : ev B Φ (.comp k a t own b c) ρ = (ev B Φ a ρ).bnd fun rs ρ1 => compK B Φ k t own b c (drA ρ1 rs) (owA ρ1 (wIx rs)) ρ1 := by
  have h : ev B Φ (.comp k a t own b c) ρ = (ev B Φ a ρ).bnd fun rs ρ1 => match drA ρ1 rs with
    | some ds => (match if tgIn t own && ownOk ρ1 own then itD k ds else none with
      | some xs => if xs.length ≤ lim then (match cmpL own t (if c.isNil then none else some (ev B Φ c)) (ev B Φ b) xs [] (lkA ρ1 (owA ρ1 (wIx rs))) with
        | .ok acc ρ2 => .ok [.o (.L acc)] (ulA ρ2 (owA ρ1 (wIx rs)))
        | _ => .st) else .st
      | none => .st)
    | none => .st := by
    first
    | rfl
    | (unfold ev; rfl)
  rw [h]
  first
  | (congr 1; done)
  | (
    congr 1
    funext rs ρ1
    cases drA ρ1 rs with
    | none => rfl
    | some ds =>
      show _ = compJ B Φ t own b c (if tgIn t own && ownOk ρ1 own then itD k ds else none) (owA ρ1 (wIx rs)) ρ1
      dsimp only
      cases (if tgIn t own && ownOk ρ1 own then itD k ds else none) with
      | none => rfl
      | some xs =>
        show _ = if xs.length ≤ lim then compO (cmpL own t (cndO B Φ c) (ev B Φ b) xs [] (lkA ρ1 (owA ρ1 (wIx rs)))) (owA ρ1 (wIx rs)) else .st
        dsimp only
        split
        · show _ = compO (cmpL own t (if c.isNil then none else some (ev B Φ c)) (ev B Φ b) xs [] (lkA ρ1 (owA ρ1 (wIx rs)))) (owA ρ1 (wIx rs))
          cases cmpL own t (if c.isNil then none else some (ev B Φ c)) (ev B Φ b) xs [] (lkA ρ1 (owA ρ1 (wIx rs))) <;> rfl
        · rfl)
@[simp] theorem compK_some {k : ItK} {t : Tg} {own l : List Nat} {ds : List D} : compK B Φ k t own b c (some ds) l ρ = compJ B Φ t own b c (if tgIn t own && ownOk ρ own then itD k ds else none) l ρ := rfl
@[simp] theorem compJ_some {t : Tg} {own l : List Nat} {xs : List D} : compJ B Φ t own b c (some xs) l ρ = if xs.length ≤ lim then compO (cmpL own t (cndO B Φ c) (ev B Φ b) xs [] (lkA ρ l)) l else .st := rfl
@[simp] theorem compO_ok {l : List Nat} {xs : List D} : compO (.ok xs ρ) l = .ok [.o (.L xs)] (ulA ρ l) := rfl
@[simp] theorem cndO_nil : cndO B Φ .nil = none := rfl
@[simp] theorem tgIn_one {j : Nat} {own : List Nat} : tgIn (.one j) own = own.contains j := rfl
@[simp] theorem tgIn_tup {js own : List Nat} : tgIn (.tup js) own = js.all fun i => own.contains i := rfl
@[simp] theorem ownOk_nil : ownOk ρ [] = true := rfl
def uvS : Sl → Bool
  | .u => true
  | .v _ _ => true
  | _ => false
@[simp] theorem ownOk_cons {j : Nat} {own : List Nat} : ownOk ρ (j :: own) = (uvS (gt ρ j) && ownOk ρ own) := by
  show ((match gt ρ j with
    | .u => true
    | .v _ _ => true
    | _ => false) && ownOk ρ own) = _
  cases gt ρ j <;> rfl
@[simp] theorem uvS_u : uvS .u = true := rfl
@[simp] theorem uvS_v : uvS (.v d f) = true := rfl
/-- a comprehension that leaves its slots as they were -/
theorem cmpL_map {own : List Nat} {t : Tg} {h : Env → Out (List R)} (g : D → D) : ∀ (xs acc : List D) (ρ : Env),
    (∀ x, x ∈ xs → ∃ ρ1 r ρ3 ρ4, asg t x (wip ρ own) = some ρ1 ∧ h ρ1 = .ok [r] ρ3 ∧ fz ρ3 r = some (g x, ρ4) ∧ bck ρ ρ4 own = ρ) → cmpL own t none h xs acc ρ = .ok (acc ++ xs.map g) ρ
  | [], acc, ρ, _ => by
    unfold cmpL
    simp
  | x :: xs, acc, ρ, hs => by
    obtain ⟨ρ1, r, ρ3, ρ4, h1, h2, h3, h4⟩ := hs x List.mem_cons_self
    unfold cmpL
    rw [h1]
    dsimp only
    rw [h2]
    dsimp only
    rw [h3]
    dsimp only
    rw [h4, cmpL_map g xs (acc ++ [g x]) ρ fun y hy => hs y (List.mem_cons_of_mem _ hy)]
    simp
@[simp] theorem wip_nil : wip ρ [] = ρ := rfl
@[simp] theorem wip_cons {j : Nat} {l : List Nat} : wip ρ (j :: l) = wip (pt ρ j .u) l := rfl
@[simp] theorem bck_nil {ρ0 : Env} : bck ρ0 ρ [] = ρ := rfl
@[simp] theorem bck_cons {ρ0 : Env} {j : Nat} {l : List Nat} : bck ρ0 ρ (j :: l) = bck ρ0 (pt ρ j (gt ρ0 j)) l := rfl
@[simp] theorem mutO_ext' {rs : List R} : mutO ρ .extend rs = true := rfl
@[simp] theorem exe_tryo {k : Nat} {s t : S} : exe B Φ (.tryo s k t) ρ = tryoK B Φ k t (exe B Φ s ρ) := rfl
@[simp] theorem tryoK_ok {k : Nat} {t : S} {fl : Fl} : tryoK B Φ k t (.ok fl ρ) = .ok fl ρ := rfl
@[simp] theorem tryoK_ex {k n : Nat} {t : S} : tryoK B Φ k t (.ex n ρ) = if B.exn n then (if B.sub n k then exe B Φ t ρ else .ex n ρ) else .st := rfl
/-! data -/
@[simp] theorem bin_rep {s : List Nat} {n : Int} : binD .mul (.str s) (.int n) = if s.length ≤ 16 ∧ 0 ≤ n ∧ n.toNat ≤ 1048576 then some (.v (.str (List.replicate n.toNat s).flatten)) else none := rfl
@[simp] theorem b1_intS {s : List Nat} : b1D .int (.str s) = if s.length ≤ 640 then (PySem.intText? ⟨s.toArray⟩).map (fun n => R.v (.int n)) else none := rfl
@[simp] theorem b1_lenS {s : List Nat} : b1D .len (.str s) = if s.length ≤ lim then some (.v (.int s.length)) else none := rfl
@[simp] theorem b1_strI {n : Int} : b1D .str (.int n) = if n.natAbs.log2 < 1920 then some (.v (.str (figs n))) else none := rfl
@[simp] theorem cmp_inS {k : Nat} {z : List Nat} : cmpR .isin (.str [k]) (.str z) = some (.v (.bl (z.contains k))) := rfl
@[simp] theorem cmp_ninS {k : Nat} {z : List Nat} : cmpR .nin (.str [k]) (.str z) = some (.v (.bl (!z.contains k))) := rfl
@[simp] theorem it_seqS {s : List Nat} : itD .seq [.str s] = some (s.map fun k => .str [k]) := rfl
@[simp] theorem sl_str {s : List Nat} {l h : Option Int} : slD (.str s) l h = if s.length ≤ lim then some (.v (.str (cutD s l h))) else none := rfl
theorem cut_drop {α : Type} (xs : List α) (k : Nat) : cutD xs (some (k : Int)) none = xs.drop k := by
  have e1 : HT.sIx xs.length 0 (some (k : Int)) = min k xs.length := HT.sIx_nat _ _ _
  have e2 : HT.sIx xs.length xs.length none = xs.length := rfl
  unfold cutD
  rw [e1, e2, List.take_of_length_le (by rw [List.length_drop]; omega)]
  by_cases h : k ≤ xs.length
  · rw [Nat.min_eq_left h]
  · rw [Nat.min_eq_right (by omega), List.drop_of_length_le (Nat.le_refl _), List.drop_of_length_le (by omega)]
theorem idx_str {s : List Nat} {j : Int} {k : Nat} (hi : j = k) (h : k < s.length) (hl : s.length ≤ lim) : idxR (.str s) (.int j) = some (.v (.str [s[k]])) := by
  show (if s.length ≤ lim then (L2.atI s j).map (fun c => D.str [c]) else none).map R.v = _
  rw [if_pos hl, atI_nat hi h]; rfl
theorem idx_last {s : List Nat} (h : 0 < s.length) (hl : s.length ≤ lim) : idxR (.str s) (.int (-1)) = some (.v (.str [s[s.length - 1]])) := by
  show (if s.length ≤ lim then (L2.atI s (-1)).map (fun c => D.str [c]) else none).map R.v = _
  have e : L2.ixN s.length (-1) = some (s.length - 1) := by
    unfold L2.ixN
    rw [if_neg (by omega)]
    first
    | (rw [if_pos (by omega)]; congr 1; omega)
    | (simp; omega)
  rw [if_pos hl]
  unfold L2.atI
  rw [e]
  show ((s[s.length - 1]?).map (fun c => D.str [c])).map R.v = _
  rw [List.getElem?_eq_getElem (by omega)]
  rfl
@[simp] theorem mutF_pop0 {z : D} {xs : List D} : mutF .pop i (.o (.L (z :: xs)) f) [.int 0] ρ = .ok [.v z] (pt ρ i (.o (.L xs) f)) := by
  have e : ixD (xs.length + 1) 0 = some 0 := by
    unfold ixD L2.ixN
    rw [if_pos (by omega), if_pos (by omega)]; rfl
  unfold mutF mutD
  simp [e, lim]
@[simp] theorem ix_zero {n : Nat} : ixD (n + 1) 0 = some 0 := by
  unfold ixD L2.ixN
  rw [if_pos (by omega), if_pos (by omega)]; rfl
theorem log_small {p : Int} (h : p.natAbs < 10 ^ 40) : p.natAbs.log2 < 1920 := by
  by_cases h0 : p = 0
  · rw [h0]; decide
  · exact (Nat.log2_lt (by omega)).mpr (Nat.lt_trans h (by decide +kernel))
theorem figs_len {p : Int} {k : Nat} (hk : 0 < k) (h : p.natAbs < 10 ^ k) : (figs p).length ≤ k + 1 := by
  have e := int_text_length_le10 hk h
  have l : (figs p).length = (Str.ofString (toString p)).length := by
    unfold figs
    show _ = (Str.ofString (toString p)).cps.size
    simp
  rw [l, ofString_length]
  exact e
end
end Z

/-! the laws' own draws -/
namespace Z
open PySem
section
variable {B : Tb} {Φ : CallF} {ρ : Env}
@[simp] theorem idx_l0 {z : D} {xs : List D} : idxR (.lst (z :: xs)) (.int 0) = some (.v z) := idx_get (k := 0) rfl rfl
def M61 : Int := 2305843009213693951
/-- a state of the draws -/
def dOk (l : List Int) : Prop := (∃ s, l = [s] ∧ 0 ≤ s ∧ s < M61) ∨ ∃ a s, l = [a, s] ∧ 0 < a ∧ 0 ≤ s ∧ s < M61
def S_next : S := .seq (.ite (.cmp .eq (.b1 .len (.var 0)) (.con (.int 2))) (.seq (.set 2 (.bin .mod (.idx (.var 0) (.con (.int 0))) (.var 1))) (.seq (.seti 0 (.con (.int 0)) (.bin .fdiv (.idx (.var 0) (.con (.int 0))) (.var 1))) (.seq (.ite (.cmp .eq (.idx (.var 0) (.con (.int 0))) (.con (.int 0))) (.seq (.ex (.mut .pop 0 (.cons (.con (.int 0)) .nil))) .skip) .skip) (.seq (.ret (.var 2)) .skip)))) .skip) (.seq (.seti 0 (.con (.int 0)) (.bin .mod (.bin .add (.bin .mul (.idx (.var 0) (.con (.int 0))) (.con (.int 1181783497276652981))) (.con (.int 12345678910987))) (.con (.int 2305843009213693951)))) (.seq (.ret (.bin .mod (.bin .fdiv (.idx (.var 0) (.con (.int 0))) (.con (.int 65537))) (.var 1))) .skip))
theorem g_next (l : List Int) (h : dOk l) (m : Int) (hm : 0 < m) (hm2 : m.natAbs < 10 ^ 1000) : ∃ v l', dOk l' ∧ 0 ≤ v ∧ v < m ∧ finF 2 (exe B Φ S_next [.o (.L (l.map .int)) true, .v (.int m) false, .u]) = .ok (.v (.int v)) [.o (.L (l'.map .int)) true, .u] := by
  have m0 : m ≠ 0 := by omega
  have dk := divOk_of m0 hm2
  have ix1 : ixD 1 0 = some 0 := ix_zero
  have ix2 : ixD 2 0 = some 0 := ix_zero
  rcases h with ⟨s, rfl, h0, h1⟩ | ⟨a, s, rfl, h0, h1, h2⟩
  · have mk : mulOk s 1181783497276652981 = true := mulOk_of (pow_le_big (m := 19) (by unfold M61 at h1; omega) (by decide)) (by decide)
    have d2 : divOk 65537 = true := by decide
    have b := fmod_nn (s * 1181783497276652981 + 12345678910987) (show (0 : Int) < 2305843009213693951 by omega)
    refine ⟨(((s * 1181783497276652981 + 12345678910987).fmod 2305843009213693951).fdiv 65537).fmod m, [(s * 1181783497276652981 + 12345678910987).fmod 2305843009213693951], .inl ⟨_, rfl, b.1, b.2⟩, (fmod_nn _ hm).1, (fmod_nn _ hm).2, ?_⟩
    simp [S_next, mk, d2, m0, ix1]
  · have b := fmod_nn a hm
    have q : 0 ≤ a.fdiv m := by
      rw [Int.fdiv_eq_ediv_of_nonneg _ (by omega)]
      exact Int.ediv_nonneg (by omega) (by omega)
    by_cases e : a.fdiv m = 0
    · refine ⟨_, [s], .inl ⟨s, rfl, h1, h2⟩, b.1, b.2, ?_⟩
      simp [S_next, m0, dk, ix2, e]
    · refine ⟨_, [a.fdiv m, s], .inr ⟨_, _, rfl, by omega, h1, h2⟩, b.1, b.2, ?_⟩
      simp [S_next, m0, dk, ix2, e]
def L_state : S := .seq (.set 1 (.bin .mod (.bin .add (.bin .add (.bin .mul (.var 1) (.con (.int 7368787))) (.bin .mod (.var 2) (.bin .pow (.con (.int 10)) (.con (.int 30))))) (.con (.int 11))) (.con (.int 2305843009213693951)))) .skip
def S_state : S := .seq (.set 1 (.con (.int 1000003))) (.seq (.loop .seq (.cons (.sl (.var 0) .nil (.con (.int 200))) .nil) (.one 2) L_state) (.seq (.ite (.and (.cmp .gt (.b1 .len (.var 0)) (.con (.int 0))) (.and (.cmp .gt (.idx (.var 0) (.con (.int 0))) (.con (.int 1))) (.cmp .eq (.bin .mod (.idx (.var 0) (.con (.int 0))) (.con (.int 2))) (.con (.int 1))))) (.seq (.ret (.lst (.cons (.bin .fdiv (.idx (.var 0) (.con (.int 0))) (.con (.int 2))) (.cons (.var 1) .nil)))) .skip) .skip) (.seq (.ret (.lst (.cons (.var 1) .nil))) .skip)))
theorem g_state (ns : List Int) : ∃ l, dOk l ∧ finF 1 (exe B Φ S_state [.v (.lst (ns.map .int)) false, .u, .u]) = .ok (.o (.L (l.map .int))) [.u] := by
  have pk : powOk 10 30 = true := by decide
  have d2 : divOk 2 = true := by decide
  have ec : cutD (ns.map D.int) none (some 200) = (ns.take 200).map D.int := by
    rw [show (200 : Int) = ((200 : Nat) : Int) from rfl, cut_take, List.map_take]
  obtain ⟨ρ', h1, s, x2, b0, b1, e⟩ := lpL_each (i := 2) (f := exe B Φ L_state) ((ns.take 200).map D.int) (fun ρ => ∃ (s : Int) (x2 : Sl), 0 ≤ s ∧ s < M61 ∧ ρ = [.v (.lst (ns.map .int)) false, .v (.int s) false, x2])
    [.v (.lst (ns.map .int)) false, .v (.int 1000003) false, .u] ⟨1000003, .u, by decide, by decide, rfl⟩ (fun d hd ρ ⟨s, x2, b0, b1, e⟩ => by
      subst e
      obtain ⟨c, _, rfl⟩ := List.mem_map.mp hd
      have mk : mulOk s 7368787 = true := mulOk_of (pow_le_big (m := 19) (by unfold M61 at b1; omega) (by decide)) (by decide)
      have b := fmod_nn (s * 7368787 + c.fmod (10 ^ 30) + 11) (show (0 : Int) < 2305843009213693951 by omega)
      refine ⟨[.v (.lst (ns.map .int)) false, .v (.int ((s * 7368787 + c.fmod (10 ^ 30) + 11).fmod 2305843009213693951)) false, .v (.int c) false], .inl ?_, _, _, b.1, b.2, rfl⟩
      simp [L_state, mk, pk])
  subst e
  have e2 : cutD (ns.map D.int) none (some 200) = List.take 200 (ns.map D.int) := by rw [ec, List.map_take]
  have h1' : lpL (.one 2) (exe B Φ L_state) (List.take 200 (ns.map D.int)) [.v (.lst (ns.map .int)) false, .v (.int 1000003) false, .u] = .ok .nx [.v (.lst (ns.map .int)) false, .v (.int s) false, x2] := by
    rw [← List.map_take]; exact h1
  cases ns with
  | nil =>
    refine ⟨[s], .inl ⟨s, rfl, b0, b1⟩, ?_⟩
    simp at e2 h1'
    simp [S_state, e2, h1']
  | cons a r =>
    have hp : (0 : Int) < (r.length : Int) + 1 := by omega
    by_cases c : 1 < a ∧ a.fmod 2 = 1
    · have q : 0 < a.fdiv 2 := by
        rw [Int.fdiv_eq_ediv_of_nonneg _ (by omega)]
        omega
      refine ⟨[a.fdiv 2, s], .inr ⟨_, _, rfl, q, b0, b1⟩, ?_⟩
      simp at e2 h1'
      simp [S_state, e2, h1', hp, c.1, c.2, d2]
    · refine ⟨[s], .inl ⟨s, rfl, b0, b1⟩, ?_⟩
      simp at e2 h1'
      by_cases c1 : 1 < a
      · have c2 : ¬ a.fmod 2 = 1 := fun z => c ⟨c1, z⟩
        simp [S_state, e2, h1', hp, c1, c2]
      · simp [S_state, e2, h1', hp, c1]
end
end Z

/-! rows and tables of weights -/
namespace Z
open PySem
/-! ### sums -/
section
variable {s : Sr}
/-- the sum of the first n -/
def Su (s : Sr) : Nat → (Nat → s.α) → s.α
  | 0, _ => s.z
  | n + 1, f => s.add (Su s n f) (f n)
theorem Su_congr : ∀ {n : Nat} {f g : Nat → s.α}, (∀ k, k < n → f k = g k) → Su s n f = Su s n g
  | 0, _, _, _ => rfl
  | n + 1, f, g, h => by
    unfold Su
    rw [Su_congr fun k hk => h k (by omega), h n (by omega)]
theorem add4 (a b c d : s.α) : s.add (s.add a b) (s.add c d) = s.add (s.add a c) (s.add b d) := by
  rw [s.aa, s.aa, ← s.aa b c d, s.ac b c, s.aa c b d]
theorem Su_add : ∀ (n : Nat) (f g : Nat → s.α), Su s n (fun k => s.add (f k) (g k)) = s.add (Su s n f) (Su s n g)
  | 0, _, _ => (s.az _).symm
  | n + 1, f, g => by
    unfold Su
    rw [Su_add n f g, add4]
theorem Su_z : ∀ n : Nat, Su s n (fun _ => s.z) = s.z
  | 0 => rfl
  | n + 1 => by
    unfold Su
    rw [Su_z n, s.az]
theorem Su_mulL (x : s.α) : ∀ (n : Nat) (f : Nat → s.α), s.mul x (Su s n f) = Su s n (fun k => s.mul x (f k))
  | 0, _ => s.mz _
  | n + 1, f => by
    unfold Su
    rw [s.md, Su_mulL x n f]
theorem Su_mulR (x : s.α) (n : Nat) (f : Nat → s.α) : s.mul (Su s n f) x = Su s n (fun k => s.mul (f k) x) := by
  rw [s.mc, Su_mulL]
  exact Su_congr fun k _ => s.mc _ _
theorem Su_swap : ∀ (n m : Nat) (f : Nat → Nat → s.α), Su s n (fun k => Su s m (fun i => f i k)) = Su s m (fun i => Su s n (fun k => f i k))
  | 0, m, f => (Su_z m).symm
  | n + 1, m, f => by
    show s.add (Su s n fun k => Su s m fun i => f i k) (Su s m fun i => f i n) = Su s m fun i => s.add (Su s n fun k => f i k) (f i n)
    rw [Su_swap n m f, Su_add]
/-- a row by a table by a column, on either road -/
theorem Su_road (n m : Nat) (a : Nat → s.α) (t : Nat → Nat → s.α) (b : Nat → s.α) : Su s m (fun k => s.mul (Su s n fun i => s.mul (a i) (t i k)) (b k)) = Su s n (fun i => s.mul (a i) (Su s m fun k => s.mul (t i k) (b k))) := by
  rw [Su_congr (fun k _ => Su_mulR (b k) n _), Su_swap m n (fun i k => s.mul (s.mul (a i) (t i k)) (b k))]
  refine Su_congr fun i _ => ?_
  rw [Su_mulL]
  exact Su_congr fun k _ => s.ma _ _ _
/-- a row by a column -/
def dt (s : Sr) (xs ys : List s.α) : s.α := Su s (min xs.length ys.length) fun k => s.mul (xs[k]?.getD s.z) (ys[k]?.getD s.z)
end
/-! ### how great they are -/
def BG : Nat := 2 ^ 13400
theorem BG_log {n : Nat} (h : n < BG) : n.log2 < 13400 := by
  by_cases h0 : n = 0
  · rw [h0]; decide
  · exact (Nat.log2_lt h0).mpr h
theorem BG_big {i j : Int} (h0 : j ≠ 0) (h : i.natAbs < BG) : bigOk i j = true := by
  have := BG_log h
  unfold bigOk
  rw [decide_eq_true h0, decide_eq_true (show i.natAbs.log2 < 13500 by omega)]
  rfl
theorem BG_mul {i j : Int} (h : i.natAbs < BG) (h2 : j.natAbs < BG) : mulOk i j = true := by
  have := BG_log h
  have := BG_log h2
  unfold mulOk
  rw [decide_eq_true (show i.natAbs.log2 + j.natAbs.log2 < 134000000 by omega)]
/-- so many parts of M, A times M at most -/
def rq (M A : Nat) (x : Rat) : Prop := 0 < M ∧ ∃ a : Int, a.natAbs ≤ A * M ∧ x = mkRat a M
theorem rq.size {M A : Nat} {x : Rat} (h : rq M A x) : x.num.natAbs ≤ A * M ∧ x.den ≤ M := by
  obtain ⟨h0, a, h1, rfl⟩ := h
  have hb : (0 : Int) < (M : Int) := by omega
  obtain ⟨_, _, f, l1, l2, _⟩ := fr_spec a M hb
  have e := frD_mk (a := a) hb
  unfold rd frD at e
  injection e with e
  injection e with e1 e2
  injection e2 with e2
  injection e1 with e1
  injection e2 with e2
  have e3 : ((M : Int)).toNat = M := by omega
  rw [e3] at e1 e2
  have := f.pos
  constructor
  · rw [← e1]; omega
  · omega
theorem rq.self (x : Rat) : rq x.den x.num.natAbs x := by
  refine ⟨x.den_pos, x.num, ?_, (Rat.mkRat_self x).symm⟩
  exact Nat.le_mul_of_pos_right _ x.den_pos
theorem rq.up {M A N A' : Nat} {x : Rat} (h : rq M A x) (d : M ∣ N) (h0 : 0 < N) (l : A ≤ A') : rq N A' x := by
  obtain ⟨h1, a, h2, rfl⟩ := h
  obtain ⟨k, rfl⟩ := d
  have hk : k ≠ 0 := by
    intro z
    rw [z] at h0
    omega
  refine ⟨h0, a * k, ?_, ?_⟩
  · rw [Int.natAbs_mul, Int.natAbs_natCast, ← Nat.mul_assoc]
    exact Nat.mul_le_mul_right _ (Nat.le_trans h2 (Nat.mul_le_mul_right _ l))
  · exact (Rat.mkRat_mul_right hk).symm
theorem rq.add {M A A' : Nat} {x y : Rat} (h : rq M A x) (h' : rq M A' y) : rq M (A + A') (x + y) := by
  obtain ⟨h1, a, h2, rfl⟩ := h
  obtain ⟨_, b, h4, rfl⟩ := h'
  have hk : M ≠ 0 := by omega
  refine ⟨h1, a + b, ?_, ?_⟩
  · rw [Nat.add_mul]
    have := Int.natAbs_add_le a b
    omega
  · rw [Rat.mkRat_add_mkRat _ _ hk hk, ← Int.add_mul]
    exact Rat.mkRat_mul_right hk
theorem rq.mul {M A N A' : Nat} {x y : Rat} (h : rq M A x) (h' : rq N A' y) : rq (M * N) (A * A') (x * y) := by
  obtain ⟨h1, a, h2, rfl⟩ := h
  obtain ⟨h3, b, h4, rfl⟩ := h'
  refine ⟨Nat.mul_pos h1 h3, a * b, ?_, Rat.mkRat_mul_mkRat _ _ _ _⟩
  rw [Int.natAbs_mul]
  have := Nat.mul_le_mul h2 h4
  rw [show A * A' * (M * N) = A * M * (A' * N) by rw [Nat.mul_assoc, Nat.mul_assoc, Nat.mul_left_comm A' M N]]
  exact this
theorem rq.zero {M : Nat} (h : 0 < M) : rq M 0 0 := ⟨h, 0, by simp, by simp⟩
structure Sq (s : Sr) where
  q : Nat → Nat → s.α → Prop
  pos : ∀ {M A : Nat} {x : s.α}, q M A x → 0 < M
  up : ∀ {M A N A' : Nat} {x : s.α}, q M A x → M ∣ N → 0 < N → A ≤ A' → q N A' x
  add : ∀ {M A A' : Nat} {x y : s.α}, q M A x → q M A' y → q M (A + A') (s.add x y)
  mul : ∀ {M A N A' : Nat} {x y : s.α}, q M A x → q N A' y → q (M * N) (A * A') (s.mul x y)
  zero : ∀ {M : Nat}, 0 < M → q M 0 s.z
  one : q 1 1 s.o
  /-- how many parts one is of -/
  dn : s.α → Nat
def SqF : Sq SF where
  q := rq
  pos := fun h => h.1
  up := rq.up
  add := rq.add
  mul := rq.mul
  zero := rq.zero
  one := ⟨Nat.one_pos, 1, by decide, (Rat.mkRat_self 1).symm⟩
  dn := Rat.den
def SqN (s : Sr) : Sq s where
  q := fun M _ _ => 0 < M
  pos := fun h => h
  up := fun _ _ h _ => h
  add := fun h _ => h
  mul := fun h h2 => Nat.mul_pos h h2
  zero := fun h => h
  one := Nat.one_pos
  dn := fun _ => 1
theorem sd_sh (p : Int) (hp : 1 < p) (w : Nat) (x : (srOf p hp w).α) : pl ((srOf p hp w).d x) = true ∧ dep ((srOf p hp w).d x) ≤ 1 := by
  match w with
  | 0 => exact ⟨rfl, Nat.le_refl _⟩
  | 1 => exact ⟨rfl, Nat.zero_le _⟩
  | 2 => cases x <;> exact ⟨rfl, Nat.zero_le _⟩
  | _ + 3 => exact ⟨rfl, Nat.zero_le _⟩
def sqOf (p : Int) (hp : 1 < p) : (w : Nat) → Sq (srOf p hp w)
  | 0 => SqF
  | 1 => SqN (SRes p hp)
  | 2 => SqN SCo
  | _ + 3 => SqN STr
/-- a kind as the program tells it .. -/
def HOp (B : Tb) (Φ : CallF) (s : Sr) (Q : Sq s) (c : Nat) (vs : List D) (op : s.α → s.α → s.α) (m : Nat) : Prop := ∃ f, B.mth c m = some f ∧ ∀ x y M A N A', Q.q M A x → Q.q N A' y → (M * N) * ((A + 1) * (A' + 1)) < BG → Φ f [.v (.obj c vs) false, .v (s.d x) false, .v (s.d y) false] = .ok (.v (s.d (op x y))) [.u, .u, .u]
def HCon (B : Tb) (Φ : CallF) (s : Sr) (c : Nat) (vs : List D) (x : s.α) (m : Nat) : Prop := ∃ f, B.mth c m = some f ∧ Φ f [.v (.obj c vs) false] = .ok (.v (s.d x)) [.u]
/-- .. and the law's own hand -/
def HLop (Φ : CallF) (s : Sr) (Q : Sq s) (so : D) (op : s.α → s.α → s.α) (q : Nat) : Prop := ∀ x y M A N A', Q.q M A x → Q.q N A' y → (M * N) * ((A + 1) * (A' + 1)) < BG → Φ q [.v so false, .v (s.d x) false, .v (s.d y) false] = .ok (.v (s.d (op x y))) [.u, .u, .u]
def HLcon (Φ : CallF) (s : Sr) (so : D) (x : s.α) (q : Nat) : Prop := Φ q [.v so false] = .ok (.v (s.d x)) [.u]
structure Kb (B : Tb) (Φ : CallF) (s : Sr) (Q : Sq s) (c : Nat) (vs : List D) (mP mT m0 : Nat) : Prop where
  plus : HOp B Φ s Q c vs s.add mP
  times : HOp B Φ s Q c vs s.mul mT
  nought : HCon B Φ s c vs s.z m0
structure Kw (Φ : CallF) (s : Sr) (Q : Sq s) (so : D) (qP qT q0 : Nat) : Prop where
  plus : HLop Φ s Q so s.add qP
  times : HLop Φ s Q so s.mul qT
  nought : HLcon Φ s so s.z q0
/-- what is asked of a row and a column that are multiplied -/
def Dq {s : Sr} (Q : Sq s) (P A A' L : Nat) (xs ys : List s.α) : Prop := ∀ (k : Nat) (x y : s.α), xs[k]? = some x → ys[k]? = some y → ∃ M N, Q.q M A x ∧ Q.q N A' y ∧ M * N ∣ P ∧ M * N < 2 ^ L
structure Bd (P A A' L : Nat) : Prop where
  p0 : 0 < P
  ex : ∃ p a b, P < 2 ^ p ∧ A < 2 ^ a ∧ A' < 2 ^ b ∧ p + L + 2 * (a + b) + 30 ≤ 13400
theorem bd_mul {P A A' L MN : Nat} (b : Bd P A A' L) (h : MN < 2 ^ L) : MN * ((A + 1) * (A' + 1)) < BG := by
  obtain ⟨p, a, c, _, ha, hc, hs⟩ := b.ex
  have h1 : (A + 1) * (A' + 1) ≤ 2 ^ a * 2 ^ c := Nat.mul_le_mul (by omega) (by omega)
  have h2 : MN * ((A + 1) * (A' + 1)) ≤ 2 ^ L * (2 ^ a * 2 ^ c) := Nat.mul_le_mul (by omega) h1
  refine Nat.lt_of_le_of_lt h2 ?_
  show _ < 2 ^ 13400
  rw [← Nat.pow_add, ← Nat.pow_add]
  exact Nat.pow_lt_pow_right (by decide) (by omega)
theorem bd_add {P A A' L MN k : Nat} (b : Bd P A A' L) (h : MN < 2 ^ L) (hk : k ≤ 1000) : (P * MN) * ((k * (A * A') + 1) * (A * A' + 1)) < BG := by
  obtain ⟨p, a, c, hp, ha, hc, hs⟩ := b.ex
  have p2 : 2 ^ a * 2 ^ c = (2 : Nat) ^ (a + c) := by rw [← Nat.pow_add]
  have e0 : (0 : Nat) < 2 ^ (a + c) := Nat.pow_pos (by decide)
  have h1 : A * A' ≤ 2 ^ (a + c) := by
    rw [← p2]
    exact Nat.mul_le_mul (by omega) (by omega)
  have h3 : k * (A * A') + 1 ≤ 2 ^ 10 * 2 ^ (a + c) := by
    have : k * (A * A') ≤ 1000 * 2 ^ (a + c) := Nat.mul_le_mul hk h1
    omega
  have h4 : A * A' + 1 ≤ 2 ^ 10 * 2 ^ (a + c) := by omega
  have h5 : (P * MN) * ((k * (A * A') + 1) * (A * A' + 1)) ≤ (2 ^ p * 2 ^ L) * ((2 ^ 10 * 2 ^ (a + c)) * (2 ^ 10 * 2 ^ (a + c))) :=
    Nat.mul_le_mul (Nat.mul_le_mul (by omega) (by omega)) (Nat.mul_le_mul h3 h4)
  refine Nat.lt_of_le_of_lt h5 ?_
  show _ < 2 ^ 13400
  simp only [← Nat.pow_add]
  exact Nat.pow_lt_pow_right (by decide) (by omega)
end Z

/-! rows and tables: the calls -/
namespace Z
open PySem
section
variable {B : Tb} {Φ : CallF} {ρ : Env}
/-- for x, y in zip(xs, ys) -/
theorem lpL_zip {i j : Nat} {f : Env → Out Fl} (xs ys : List D) (Pv : Nat → Env → Prop) (ρ : Env) (h : Pv 0 ρ) (hs : ∀ k x y, xs[k]? = some x → ys[k]? = some y → ∀ ρ, Pv k ρ → ∃ ρ2, (f (pt (pt ρ i (.v x false)) j (.v y false)) = .ok .nx ρ2 ∨ f (pt (pt ρ i (.v x false)) j (.v y false)) = .ok .cont ρ2) ∧ Pv (k + 1) ρ2) :
    ∃ ρ', lpL (.tup [i, j]) f (xs.zipWith (fun x y => .tup [x, y]) ys) ρ = .ok .nx ρ' ∧ Pv (min xs.length ys.length) ρ' := by
  obtain ⟨ρ', h1, h2⟩ := lpL_inv (t := .tup [i, j]) (f := f) Pv (xs.zipWith (fun x y => .tup [x, y]) ys) 0 ρ h (fun k d ρ hd q => by
    rw [List.getElem?_zipWith] at hd
    cases hx : xs[k]? with
    | none => rw [hx] at hd; cases hd
    | some x =>
      cases hy : ys[k]? with
      | none => rw [hx, hy] at hd; cases hd
      | some y =>
        rw [hx, hy] at hd
        cases hd
        rw [Nat.zero_add] at q
        obtain ⟨ρ2, h1, h2⟩ := hs k x y hx hy ρ q
        exact ⟨_, ρ2, rfl, h1, by rw [Nat.zero_add]; exact h2⟩)
  refine ⟨ρ', h1, ?_⟩
  rw [Nat.zero_add, List.length_zipWith] at h2
  exact h2
/-- a comprehension, step by step -/
theorem cmpL_inv {own : List Nat} {t : Tg} {h : Env → Out (List R)} (Pv : Nat → List D → Env → Prop) : ∀ (xs acc : List D) (n : Nat) (ρ : Env), Pv n acc ρ →
    (∀ k x acc ρ, xs[k]? = some x → Pv (n + k) acc ρ → ∃ ρ1 r ρ3 d ρ4, asg t x (wip ρ own) = some ρ1 ∧ h ρ1 = .ok [r] ρ3 ∧ fz ρ3 r = some (d, ρ4) ∧ Pv (n + k + 1) (acc ++ [d]) (bck ρ ρ4 own)) →
    ∃ acc' ρ', cmpL own t none h xs acc ρ = .ok acc' ρ' ∧ Pv (n + xs.length) acc' ρ'
  | [], acc, n, ρ, h0, _ => ⟨acc, ρ, by unfold cmpL; rfl, h0⟩
  | x :: xs, acc, n, ρ, h0, hs => by
    obtain ⟨ρ1, r, ρ3, d, ρ4, h1, h2, h3, h4⟩ := hs 0 x acc ρ rfl h0
    obtain ⟨acc', ρ', g1, g2⟩ := cmpL_inv Pv xs (acc ++ [d]) (n + 1) (bck ρ ρ4 own) h4 (fun k y acc ρ hk hp => by
      obtain ⟨a1, a2, a3, a4, a5, b1, b2, b3, b4⟩ := hs (k + 1) y acc ρ hk (by rw [show n + (k + 1) = n + 1 + k by omega]; exact hp)
      exact ⟨a1, a2, a3, a4, a5, b1, b2, b3, by rw [show n + 1 + k + 1 = n + (k + 1) + 1 by omega]; exact b4⟩)
    refine ⟨acc', ρ', ?_, by rw [List.length_cons, show n + (xs.length + 1) = n + 1 + xs.length by omega]; exact g2⟩
    unfold cmpL
    rw [h1]
    dsimp only
    rw [h2]
    dsimp only
    rw [h3]
    exact g1
@[simp] theorem it_zipT {xs ys : List D} : itD .zip [.tup xs, .tup ys] = some (xs.zipWith (fun x y => .tup [x, y]) ys) := rfl
@[simp] theorem it_zipM {xs ys : List D} : itD .zip [.tup xs, .lst ys] = some (xs.zipWith (fun x y => .tup [x, y]) ys) := rfl
/-! ### a row by a column -/
section
variable {s : Sr} {Q : Sq s} {c : Nat} {vs : List D} {so : D} {mP mT m0 qP qT q0 : Nat}
theorem getD_at {α : Type} {xs : List α} {k : Nat} {x z : α} (h : xs[k]? = some x) : xs[k]?.getD z = x := by rw [h]; rfl
theorem Su_q {P A : Nat} {f : Nat → s.α} (h0 : 0 < P) : ∀ k, (∀ i, i < k → Q.q P A (f i)) → Q.q P (k * A) (Su s k f)
  | 0, _ => by rw [Nat.zero_mul]; exact Q.zero h0
  | k + 1, h => by
    rw [Nat.succ_mul]
    exact Q.add (Su_q h0 k fun i hi => h i (by omega)) (h k (by omega))
theorem Dq.term {P A A' L : Nat} {xs ys : List s.α} (h : Dq Q P A A' L xs ys) (h0 : 0 < P) (i : Nat) (hi : i < min xs.length ys.length) : Q.q P (A * A') (s.mul (xs[i]?.getD s.z) (ys[i]?.getD s.z)) := by
  have h1 : i < xs.length := by omega
  have h2 : i < ys.length := by omega
  obtain ⟨M, N, a, b, d, _⟩ := h i xs[i] ys[i] (List.getElem?_eq_getElem h1) (List.getElem?_eq_getElem h2)
  rw [getD_at (List.getElem?_eq_getElem h1), getD_at (List.getElem?_eq_getElem h2)]
  exact Q.up (Q.mul a b) d h0 (Nat.le_refl _)
theorem Dq.q {P A A' L : Nat} {xs ys : List s.α} (h : Dq Q P A A' L xs ys) (h0 : 0 < P) : Q.q P (min xs.length ys.length * (A * A')) (dt s xs ys) := Su_q h0 _ fun i hi => h.term h0 i hi
def L_dot (mP mT : Nat) : S := .seq (.set 3 (.mcal mP (.var 0) (.cons (.var 3) (.cons (.mcal mT (.var 0) (.cons (.var 4) (.cons (.var 5) .nil))) .nil)))) .skip
def S_dot (mP mT m0 : Nat) : S := .seq (.set 3 (.mcal m0 (.var 0) .nil)) (.seq (.loop .zip (.cons (.var 1) (.cons (.var 2) .nil)) (.tup [4, 5]) (L_dot mP mT)) (.seq (.ret (.var 3)) .skip))
theorem l_dot (K : Kb B Φ s Q c vs mP mT m0) (s1 s2 x4 x5 : Sl) (xs ys : List s.α) {P A A' L : Nat} (b : Bd P A A' L) (hd : Dq Q P A A' L xs ys) (hl : xs.length ≤ 1000) : ∃ y4 y5, lpL (.tup [4, 5]) (exe B Φ (L_dot mP mT)) (List.zipWith (fun a b => D.tup [s.d a, s.d b]) xs ys) [.v (.obj c vs) false, s1, s2, .v (s.d s.z) false, x4, x5] = .ok .nx [.v (.obj c vs) false, s1, s2, .v (s.d (dt s xs ys)) false, y4, y5] := by
  obtain ⟨fp, p1, p2⟩ := K.plus
  obtain ⟨ft, t1, t2⟩ := K.times
  obtain ⟨ρ', h1, x4, x5, h2⟩ := lpL_zip (i := 4) (j := 5) (f := exe B Φ (L_dot mP mT)) (xs.map s.d) (ys.map s.d) (fun k ρ => ∃ x4 x5, ρ = [.v (.obj c vs) false, s1, s2, .v (s.d (Su s k fun k => s.mul (xs[k]?.getD s.z) (ys[k]?.getD s.z))) false, x4, x5]) [.v (.obj c vs) false, s1, s2, .v (s.d s.z) false, x4, x5] ⟨_, _, rfl⟩ (fun k x y hx hy ρ ⟨x4, x5, e⟩ => by
    subst e
    rw [List.getElem?_map] at hx hy
    obtain ⟨x, gx, rfl⟩ := Option.map_eq_some_iff.mp hx
    obtain ⟨y, gy, rfl⟩ := Option.map_eq_some_iff.mp hy
    obtain ⟨M, N, a1, a2, d, l⟩ := hd k x y gx gy
    obtain ⟨k1, e1⟩ := List.getElem?_eq_some_iff.mp gx
    obtain ⟨k2, e2⟩ := List.getElem?_eq_some_iff.mp gy
    have gx := getD_at (z := s.z) gx
    have gy := getD_at (z := s.z) gy
    have r1 := t2 x y M A N A' a1 a2 (bd_mul b l)
    have r2 := p2 (Su s k fun k => s.mul (xs[k]?.getD s.z) (ys[k]?.getD s.z)) (s.mul x y) P (k * (A * A')) (M * N) (A * A') (Su_q b.p0 k fun i hi => hd.term b.p0 i (by omega)) (Q.mul a1 a2) (bd_add b l (by omega))
    refine ⟨_, .inl ?_, .v (s.d x) false, .v (s.d y) false, rfl⟩
    have e3 : Su s (k + 1) (fun k => s.mul (xs[k]?.getD s.z) (ys[k]?.getD s.z)) = s.add (Su s k fun k => s.mul (xs[k]?.getD s.z) (ys[k]?.getD s.z)) (s.mul x y) := by
      show s.add _ (s.mul (xs[k]?.getD s.z) (ys[k]?.getD s.z)) = _
      rw [gx, gy]
    rw [e3]
    generalize Su s k (fun k => s.mul (xs[k]?.getD s.z) (ys[k]?.getD s.z)) = acc at r2
    simp [L_dot, t1, r1, p1, r2])
  rw [List.length_map, List.length_map] at h2
  rw [List.zipWith_map] at h1
  subst h2
  exact ⟨_, _, h1⟩
theorem g_dot (K : Kb B Φ s Q c vs mP mT m0) (xs ys : List s.α) {P A A' L : Nat} (b : Bd P A A' L) (hd : Dq Q P A A' L xs ys) (hl : xs.length ≤ 1000) : finF 3 (exe B Φ (S_dot mP mT m0) [.v (.obj c vs) false, .v (.tup (xs.map s.d)) false, .v (.tup (ys.map s.d)) false, .u, .u, .u]) = .ok (.v (s.d (dt s xs ys))) [.u, .u, .u] := by
  obtain ⟨f0, n1, n2⟩ := K.nought
  obtain ⟨y4, y5, h⟩ := l_dot K (.v (.tup (xs.map s.d)) false) (.v (.tup (ys.map s.d)) false) .u .u xs ys b hd hl
  simp [S_dot, n1, n2, h]
def L_ldot (qP qT : Nat) : S := .seq (.set 3 (.call qP (.cons (.var 0) (.cons (.var 3) (.cons (.call qT (.cons (.var 0) (.cons (.var 4) (.cons (.var 5) .nil)))) .nil))))) .skip
def S_ldot (qP qT q0 : Nat) : S := .seq (.set 3 (.call q0 (.cons (.var 0) .nil))) (.seq (.loop .zip (.cons (.var 1) (.cons (.var 2) .nil)) (.tup [4, 5]) (L_ldot qP qT)) (.seq (.ret (.var 3)) .skip))
theorem l_ldot (K : Kw Φ s Q so qP qT q0) (s1 s2 x4 x5 : Sl) (xs ys : List s.α) {P A A' L : Nat} (b : Bd P A A' L) (hd : Dq Q P A A' L xs ys) (hl : xs.length ≤ 1000) : ∃ y4 y5, lpL (.tup [4, 5]) (exe B Φ (L_ldot qP qT)) (List.zipWith (fun a b => D.tup [s.d a, s.d b]) xs ys) [.v so false, s1, s2, .v (s.d s.z) false, x4, x5] = .ok .nx [.v so false, s1, s2, .v (s.d (dt s xs ys)) false, y4, y5] := by
  have p2 := K.plus
  have t2 := K.times
  obtain ⟨ρ', h1, x4, x5, h2⟩ := lpL_zip (i := 4) (j := 5) (f := exe B Φ (L_ldot qP qT)) (xs.map s.d) (ys.map s.d) (fun k ρ => ∃ x4 x5, ρ = [.v so false, s1, s2, .v (s.d (Su s k fun k => s.mul (xs[k]?.getD s.z) (ys[k]?.getD s.z))) false, x4, x5]) [.v so false, s1, s2, .v (s.d s.z) false, x4, x5] ⟨_, _, rfl⟩ (fun k x y hx hy ρ ⟨x4, x5, e⟩ => by
    subst e
    rw [List.getElem?_map] at hx hy
    obtain ⟨x, gx, rfl⟩ := Option.map_eq_some_iff.mp hx
    obtain ⟨y, gy, rfl⟩ := Option.map_eq_some_iff.mp hy
    obtain ⟨M, N, a1, a2, d, l⟩ := hd k x y gx gy
    obtain ⟨k1, e1⟩ := List.getElem?_eq_some_iff.mp gx
    obtain ⟨k2, e2⟩ := List.getElem?_eq_some_iff.mp gy
    have gx := getD_at (z := s.z) gx
    have gy := getD_at (z := s.z) gy
    have r1 := t2 x y M A N A' a1 a2 (bd_mul b l)
    have r2 := p2 (Su s k fun k => s.mul (xs[k]?.getD s.z) (ys[k]?.getD s.z)) (s.mul x y) P (k * (A * A')) (M * N) (A * A') (Su_q b.p0 k fun i hi => hd.term b.p0 i (by omega)) (Q.mul a1 a2) (bd_add b l (by omega))
    refine ⟨_, .inl ?_, .v (s.d x) false, .v (s.d y) false, rfl⟩
    have e3 : Su s (k + 1) (fun k => s.mul (xs[k]?.getD s.z) (ys[k]?.getD s.z)) = s.add (Su s k fun k => s.mul (xs[k]?.getD s.z) (ys[k]?.getD s.z)) (s.mul x y) := by
      show s.add _ (s.mul (xs[k]?.getD s.z) (ys[k]?.getD s.z)) = _
      rw [gx, gy]
    rw [e3]
    generalize Su s k (fun k => s.mul (xs[k]?.getD s.z) (ys[k]?.getD s.z)) = acc at r2
    simp [L_ldot, r1, r2])
  rw [List.length_map, List.length_map] at h2
  rw [List.zipWith_map] at h1
  subst h2
  exact ⟨_, _, h1⟩
theorem g_ldotT (K : Kw Φ s Q so qP qT q0) (xs ys : List s.α) {P A A' L : Nat} (b : Bd P A A' L) (hd : Dq Q P A A' L xs ys) (hl : xs.length ≤ 1000) : finF 3 (exe B Φ (S_ldot qP qT q0) [.v so false, .v (.tup (xs.map s.d)) false, .v (.tup (ys.map s.d)) false, .u, .u, .u]) = .ok (.v (s.d (dt s xs ys))) [.u, .u, .u] := by
  have n2 : Φ q0 [.v so false] = .ok (.v (s.d s.z)) [.u] := K.nought
  obtain ⟨y4, y5, h⟩ := l_ldot (B := B) K (.v (.tup (xs.map s.d)) false) (.v (.tup (ys.map s.d)) false) .u .u xs ys b hd hl
  simp [S_ldot, n2, h]
theorem g_ldotL (K : Kw Φ s Q so qP qT q0) (xs ys : List s.α) {P A A' L : Nat} (b : Bd P A A' L) (hd : Dq Q P A A' L xs ys) (hl : xs.length ≤ 1000) : finF 3 (exe B Φ (S_ldot qP qT q0) [.v so false, .v (.tup (xs.map s.d)) false, .o (.L (ys.map s.d)) true, .u, .u, .u]) = .ok (.v (s.d (dt s xs ys))) [.u, .u, .o (.L (ys.map s.d)) true] := by
  have n2 : Φ q0 [.v so false] = .ok (.v (s.d s.z)) [.u] := K.nought
  obtain ⟨y4, y5, h⟩ := l_ldot (B := B) K (.v (.tup (xs.map s.d)) false) (.k (.L (ys.map s.d)) true) .u .u xs ys b hd hl
  simp [S_ldot, n2, Ow.d, h]
end
end
end Z

/-! the four kinds, of any size that the program can divide -/
namespace Z
open PySem
theorem szs {M N A A' a b c d : Nat} (hM : 0 < M) (hN : 0 < N) (ha : a ≤ A * M) (hb : b ≤ A' * N) (hc : c ≤ M) (hd : d ≤ N) (hT : (M * N) * ((A + 1) * (A' + 1)) < BG) :
    a < BG ∧ b < BG ∧ c < BG ∧ d < BG ∧ a * d + b * c < BG ∧ c * d < BG ∧ a * b < BG := by
  obtain ⟨u, hu⟩ : ∃ u, u = M * N := ⟨_, rfl⟩
  have m1 : M ≤ u := by rw [hu]; exact Nat.le_mul_of_pos_right _ hN
  have n1 : N ≤ u := by rw [hu]; exact Nat.le_mul_of_pos_left _ hM
  have e : (M * N) * ((A + 1) * (A' + 1)) = u * (A * A') + u * A + u * A' + u := by
    rw [← hu]
    simp only [Nat.mul_add, Nat.add_mul, Nat.mul_one, Nat.one_mul]
    omega
  rw [e] at hT
  have x1 : a ≤ u * A := by
    rw [Nat.mul_comm]
    exact Nat.le_trans ha (Nat.mul_le_mul_left _ m1)
  have x2 : b ≤ u * A' := by
    rw [Nat.mul_comm]
    exact Nat.le_trans hb (Nat.mul_le_mul_left _ n1)
  have x3 : c * d ≤ u := by rw [hu]; exact Nat.mul_le_mul hc hd
  have x4 : a * d ≤ u * A := by
    have := Nat.mul_le_mul ha hd
    rw [hu, Nat.mul_comm (M * N), ← Nat.mul_assoc]
    exact this
  have x5 : b * c ≤ u * A' := by
    have := Nat.mul_le_mul hb hc
    rw [hu, Nat.mul_comm (M * N), Nat.mul_comm M N, ← Nat.mul_assoc]
    exact this
  have x6 : a * b ≤ u * (A * A') := by
    have := Nat.mul_le_mul ha hb
    rw [hu]
    rw [show A * M * (A' * N) = M * N * (A * A') by ac_rfl] at this
    exact this
  refine ⟨?_, ?_, ?_, ?_, ?_, ?_, ?_⟩ <;> omega
section
variable {B : Tb} {Φ : CallF} {ρ : Env} {o : D}
def HFb (Φ : CallF) (qf : Nat) : Prop := ∀ a b : Int, 0 < b → a.natAbs < BG → b.natAbs < BG → Φ qf [.v (.int a) false, .v (.int b) false] = .ok (.v (frD a b)) [.u, .u]
theorem g_fractionB {qd c : Nat} (a b : Int) (hd : Φ qd [.v (.int a) false, .v (.int b) false] = .ok (.v (.int (Int.gcd a b))) [.u, .u]) (hb : 0 < b) (h0 : a.natAbs < BG) (h1 : b.natAbs < BG) : finF 2 (exe B Φ (S_fraction qd c) [.v (.int a) false, .v (.int b) false, .u]) = .ok (.v (frD a b)) [.u, .u] := by
  obtain ⟨_, _, _, _, _, hg⟩ := fr_spec a b hb
  have d1 : bigOk a (Int.gcd a b) = true := BG_big (by omega) h0
  have d2 : bigOk b (Int.gcd a b) = true := BG_big (by omega) h1
  have n1 : ¬ b < 0 := by omega
  have n2 : ¬ b = 0 := by omega
  simp [S_fraction, hd, n1, n2, d1, d2, frD, frT, frB]
theorem fp_sizes {M A N A' : Nat} {x y : Rat} (h1 : rq M A x) (h2 : rq N A' y) (hT : (M * N) * ((A + 1) * (A' + 1)) < BG) :
    mulOk x.num y.den = true ∧ mulOk y.num x.den = true ∧ mulOk x.den y.den = true ∧ mulOk x.num y.num = true ∧ (0 : Int) < x.den * y.den ∧ ((x.den : Int) * y.den).natAbs < BG ∧ (x.num * y.den + y.num * x.den).natAbs < BG ∧ (x.num * y.num).natAbs < BG := by
  obtain ⟨a1, a2⟩ := h1.size
  obtain ⟨b1, b2⟩ := h2.size
  obtain ⟨z1, z2, z3, z4, z5, z6, z7⟩ := szs h1.1 h2.1 a1 b1 a2 b2 hT
  have p1 := x.den_pos
  have p2 := y.den_pos
  refine ⟨BG_mul z1 (by simpa using z4), BG_mul z2 (by simpa using z3), BG_mul (by simpa using z3) (by simpa using z4), BG_mul z1 z2, Int.mul_pos (by omega) (by omega), ?_, ?_, ?_⟩
  · rw [Int.natAbs_mul]; exact z6
  · have := Int.natAbs_add_le (x.num * y.den) (y.num * x.den)
    rw [Int.natAbs_mul, Int.natAbs_mul] at this
    simp only [Int.natAbs_natCast] at this
    omega
  · rw [Int.natAbs_mul]; exact z7
theorem g_FplusB {qf : Nat} (hf : HFb Φ qf) (x y : Rat) {M A N A' : Nat} (h1 : rq M A x) (h2 : rq N A' y) (hT : (M * N) * ((A + 1) * (A' + 1)) < BG) : finF 3 (exe B Φ (S_Fplus qf) [.v o false, .v (SF.d x) false, .v (SF.d y) false]) = .ok (.v (SF.d (SF.add x y))) [.u, .u, .u] := by
  obtain ⟨m1, m2, m3, m4, p, q, r, t⟩ := fp_sizes h1 h2 hT
  have g := hf (x.num * y.den + y.num * x.den) (x.den * y.den) p r q
  rw [rd_add] at g
  show finF 3 (exe B Φ (S_Fplus qf) [.v o false, .v (rd x) false, .v (rd y) false]) = .ok (.v (rd (x + y))) [.u, .u, .u]
  unfold rd at g ⊢
  simp [S_Fplus, m1, m2, m3, g]
theorem g_FtimesB {qf : Nat} (hf : HFb Φ qf) (x y : Rat) {M A N A' : Nat} (h1 : rq M A x) (h2 : rq N A' y) (hT : (M * N) * ((A + 1) * (A' + 1)) < BG) : finF 3 (exe B Φ (S_Ftimes qf) [.v o false, .v (SF.d x) false, .v (SF.d y) false]) = .ok (.v (SF.d (SF.mul x y))) [.u, .u, .u] := by
  obtain ⟨m1, m2, m3, m4, p, q, r, t⟩ := fp_sizes h1 h2 hT
  have g := hf (x.num * y.num) (x.den * y.den) p t q
  rw [rd_mul] at g
  show finF 3 (exe B Φ (S_Ftimes qf) [.v o false, .v (rd x) false, .v (rd y) false]) = .ok (.v (rd (x * y))) [.u, .u, .u]
  unfold rd at g ⊢
  simp [S_Ftimes, m3, m4, g]
/-! the laws' own -/
def L_low2 : S := .seq (.par 2 3 (.bin .mod (.var 3) (.var 2)) (.var 2)) .skip
theorem loop_low2 (s0 s1 : Sl) : ∀ (m : Nat) (a b : Int), a.natAbs ≤ m → ∃ g : Int, g.natAbs = Int.gcd a b ∧ whC (ev B Φ (.cmp .ne (.var 2) (.con (.int 0)))) (exe B Φ L_low2) [s0, s1, .v (.int a) false, .v (.int b) false] = .ok .nx [s0, s1, .v (.int 0) false, .v (.int g) false] := by
  intro m
  induction m with
  | zero =>
    intro a b hm
    have : a = 0 := by omega
    subst this
    refine ⟨b, by simp, ?_⟩
    rw [whC_eq]
    simp
  | succ m ih =>
    intro a b hm
    by_cases h0 : a = 0
    · subst h0
      refine ⟨b, by simp, ?_⟩
      rw [whC_eq]
      simp
    · have h1 := fmod_lt b a h0
      obtain ⟨g, h2, h3⟩ := ih (b.fmod a) a (by omega)
      refine ⟨g, by rw [h2, Int.gcd_comm, gcd_fmod, Int.gcd_comm], ?_⟩
      rw [whC_eq]
      simp [L_low2, h0]
      exact h3
def S_low2 : S := .seq (.set 2 (.var 0)) (.seq (.set 3 (.var 1)) (.seq (.whl (.cmp .ne (.var 2) (.con (.int 0))) L_low2) (.seq (.set 3 (.b1 .abs (.var 3))) (.seq (.ret (.tup (.cons (.bin .fdiv (.var 0) (.var 3)) (.cons (.bin .fdiv (.var 1) (.var 3)) .nil)))) .skip))))
theorem g_low2 (a b : Int) (hb : 0 < b) (h0 : a.natAbs < BG) (h1 : b.natAbs < BG) : finF 2 (exe B Φ S_low2 [.v (.int a) false, .v (.int b) false, .u, .u]) = .ok (.v (frD a b)) [.u, .u] := by
  obtain ⟨_, _, _, _, _, hg⟩ := fr_spec a b hb
  obtain ⟨g, e, h⟩ := loop_low2 (B := B) (Φ := Φ) (.v (.int a) false) (.v (.int b) false) a.natAbs a b (Nat.le_refl _)
  have eg : (if g < 0 then -g else g) = Int.gcd a b := by omega
  have d1 : bigOk a (Int.gcd a b) = true := BG_big (by omega) h0
  have d2 : bigOk b (Int.gcd a b) = true := BG_big (by omega) h1
  simp [S_low2, h, eg, d1, d2, frD, frT, frB]
def fT : List Nat := [102, 114, 97, 99, 116, 105, 111, 110, 115]
def rT : List Nat := [114, 101, 115, 105, 100, 117, 101, 115]
def cT : List Nat := [99, 111, 115, 116, 115]
def tT' : List Nat := [116, 114, 117, 116, 104, 115]
def soD (p : Int) : Nat → D
  | 0 => .tup [.str [102, 114, 97, 99, 116, 105, 111, 110, 115], .int 0]
  | 1 => .tup [.str [114, 101, 115, 105, 100, 117, 101, 115], .int p]
  | 2 => .tup [.str [99, 111, 115, 116, 115], .int 0]
  | _ => .tup [.str [116, 114, 117, 116, 104, 115], .int 0]
def S_lplus (ql : Nat) : S := (.seq (.ite (.cmp .eq (.idx (.var 0) (.con (.int 0))) (.con (.str [102, 114, 97, 99, 116, 105, 111, 110, 115]))) (.seq (.ret (.call ql (.cons (.bin .add (.bin .mul (.idx (.var 1) (.con (.int 0))) (.idx (.var 2) (.con (.int 1)))) (.bin .mul (.idx (.var 2) (.con (.int 0))) (.idx (.var 1) (.con (.int 1))))) (.cons (.bin .mul (.idx (.var 1) (.con (.int 1))) (.idx (.var 2) (.con (.int 1)))) .nil)))) .skip) .skip) (.seq (.ite (.cmp .eq (.idx (.var 0) (.con (.int 0))) (.con (.str [114, 101, 115, 105, 100, 117, 101, 115]))) (.seq (.ret (.bin .mod (.bin .add (.var 1) (.var 2)) (.idx (.var 0) (.con (.int 1))))) .skip) .skip) (.seq (.ite (.cmp .eq (.idx (.var 0) (.con (.int 0))) (.con (.str [116, 114, 117, 116, 104, 115]))) (.seq (.ret (.or (.var 1) (.var 2))) .skip) .skip) (.seq (.ite (.or (.cmp .is (.var 1) (.con .non)) (.and (.cmp .isn (.var 2) (.con .non)) (.cmp .lt (.var 2) (.var 1)))) (.seq (.ret (.var 2)) .skip) .skip) (.seq (.ret (.var 1)) .skip)))))
def S_ltimes (ql : Nat) : S := (.seq (.ite (.cmp .eq (.idx (.var 0) (.con (.int 0))) (.con (.str [102, 114, 97, 99, 116, 105, 111, 110, 115]))) (.seq (.ret (.call ql (.cons (.bin .mul (.idx (.var 1) (.con (.int 0))) (.idx (.var 2) (.con (.int 0)))) (.cons (.bin .mul (.idx (.var 1) (.con (.int 1))) (.idx (.var 2) (.con (.int 1)))) .nil)))) .skip) .skip) (.seq (.ite (.cmp .eq (.idx (.var 0) (.con (.int 0))) (.con (.str [114, 101, 115, 105, 100, 117, 101, 115]))) (.seq (.ret (.bin .mod (.bin .mul (.var 1) (.var 2)) (.idx (.var 0) (.con (.int 1))))) .skip) .skip) (.seq (.ite (.cmp .eq (.idx (.var 0) (.con (.int 0))) (.con (.str [116, 114, 117, 116, 104, 115]))) (.seq (.ret (.and (.var 1) (.var 2))) .skip) .skip) (.seq (.ite (.or (.cmp .is (.var 1) (.con .non)) (.cmp .is (.var 2) (.con .non))) (.seq (.ret (.con .non)) .skip) .skip) (.seq (.ret (.bin .add (.var 1) (.var 2))) .skip)))))
def S_lnought : S := (.seq (.ret (.dix [[102, 114, 97, 99, 116, 105, 111, 110, 115], [114, 101, 115, 105, 100, 117, 101, 115], [99, 111, 115, 116, 115], [116, 114, 117, 116, 104, 115]] (.cons (.tup (.cons (.con (.int 0)) (.cons (.con (.int 1)) .nil))) (.cons (.con (.int 0)) (.cons (.con .non) (.cons (.con (.bl false)) .nil)))) (.idx (.var 0) (.con (.int 0))))) .skip)
theorem g_lplusF {ql : Nat} (hf : HFb Φ ql) (p : Int) (x y : Rat) {M A N A' : Nat} (h1 : rq M A x) (h2 : rq N A' y) (hT : (M * N) * ((A + 1) * (A' + 1)) < BG) : finF 3 (exe B Φ (S_lplus ql) [.v (soD p 0) false, .v (SF.d x) false, .v (SF.d y) false]) = .ok (.v (SF.d (SF.add x y))) [.u, .u, .u] := by
  obtain ⟨m1, m2, m3, m4, p, q, r, t⟩ := fp_sizes h1 h2 hT
  have g := hf (x.num * y.den + y.num * x.den) (x.den * y.den) p r q
  rw [rd_add] at g
  show finF 3 (exe B Φ (S_lplus ql) [.v (soD _ 0) false, .v (rd x) false, .v (rd y) false]) = .ok (.v (rd (x + y))) [.u, .u, .u]
  unfold rd at g ⊢
  simp [S_lplus, soD, m1, m2, m3, g]
theorem g_ltimesF {ql : Nat} (hf : HFb Φ ql) (p : Int) (x y : Rat) {M A N A' : Nat} (h1 : rq M A x) (h2 : rq N A' y) (hT : (M * N) * ((A + 1) * (A' + 1)) < BG) : finF 3 (exe B Φ (S_ltimes ql) [.v (soD p 0) false, .v (SF.d x) false, .v (SF.d y) false]) = .ok (.v (SF.d (SF.mul x y))) [.u, .u, .u] := by
  obtain ⟨m1, m2, m3, m4, p, q, r, t⟩ := fp_sizes h1 h2 hT
  have g := hf (x.num * y.num) (x.den * y.den) p t q
  rw [rd_mul] at g
  show finF 3 (exe B Φ (S_ltimes ql) [.v (soD _ 0) false, .v (rd x) false, .v (rd y) false]) = .ok (.v (rd (x * y))) [.u, .u, .u]
  unfold rd at g ⊢
  simp [S_ltimes, soD, m3, m4, g]
theorem g_lplusR {ql : Nat} {p : Int} {hp : 1 < p} (x y : (SRes p hp).α) : finF 3 (exe B Φ (S_lplus ql) [.v (soD p 1) false, .v ((SRes p hp).d x) false, .v ((SRes p hp).d y) false]) = .ok (.v ((SRes p hp).d ((SRes p hp).add x y))) [.u, .u, .u] := by
  have z : ¬ p = 0 := by omega
  simp [S_lplus, soD, SRes, z]
theorem g_ltimesR {ql : Nat} {p : Int} {hp : 1 < p} (hl : p < 10 ^ 1000) (x y : (SRes p hp).α) : finF 3 (exe B Φ (S_ltimes ql) [.v (soD p 1) false, .v ((SRes p hp).d x) false, .v ((SRes p hp).d y) false]) = .ok (.v ((SRes p hp).d ((SRes p hp).mul x y))) [.u, .u, .u] := by
  have z : ¬ p = 0 := by omega
  have m : mulOk x.1 y.1 = true := mulOk_of (by have := x.2; omega) (by have := y.2; omega)
  simp [S_ltimes, soD, SRes, z, m]
theorem g_lplusC {ql : Nat} {p : Int} (x y : SCo.α) : finF 3 (exe B Φ (S_lplus ql) [.v (soD p 2) false, .v (SCo.d x) false, .v (SCo.d y) false]) = .ok (.v (SCo.d (SCo.add x y))) [.u, .u, .u] := by
  show finF 3 (exe B Φ (S_lplus ql) [.v (soD p 2) false, .v (cD x) false, .v (cD y) false]) = .ok (.v (cD (cAdd x y))) [.u, .u, .u]
  cases x with
  | none => cases y <;> simp [S_lplus, soD, cD, cAdd]
  | some i => cases y with
    | none => simp [S_lplus, soD, cD, cAdd]
    | some j =>
      by_cases h : j < i
      · simp [S_lplus, soD, cD, cAdd, h]
      · simp [S_lplus, soD, cD, cAdd, h]
theorem g_ltimesC {ql : Nat} {p : Int} (x y : SCo.α) : finF 3 (exe B Φ (S_ltimes ql) [.v (soD p 2) false, .v (SCo.d x) false, .v (SCo.d y) false]) = .ok (.v (SCo.d (SCo.mul x y))) [.u, .u, .u] := by
  show finF 3 (exe B Φ (S_ltimes ql) [.v (soD p 2) false, .v (cD x) false, .v (cD y) false]) = .ok (.v (cD (cMul x y))) [.u, .u, .u]
  cases x <;> cases y <;> simp [S_ltimes, soD, cD, cMul]
theorem g_lplusT {ql : Nat} {p : Int} (x y : STr.α) : finF 3 (exe B Φ (S_lplus ql) [.v (soD p 3) false, .v (STr.d x) false, .v (STr.d y) false]) = .ok (.v (STr.d (STr.add x y))) [.u, .u, .u] := by
  show finF 3 (exe B Φ (S_lplus ql) [.v (soD p 3) false, .v (.bl x) false, .v (.bl y) false]) = .ok (.v (.bl (x || y))) [.u, .u, .u]
  cases x <;> cases y <;> simp [S_lplus, soD]
theorem g_ltimesT {ql : Nat} {p : Int} (x y : STr.α) : finF 3 (exe B Φ (S_ltimes ql) [.v (soD p 3) false, .v (STr.d x) false, .v (STr.d y) false]) = .ok (.v (STr.d (STr.mul x y))) [.u, .u, .u] := by
  show finF 3 (exe B Φ (S_ltimes ql) [.v (soD p 3) false, .v (.bl x) false, .v (.bl y) false]) = .ok (.v (.bl (x && y))) [.u, .u, .u]
  cases x <;> cases y <;> simp [S_ltimes, soD]
theorem g_lnought (p : Int) (hp : 1 < p) (w : Nat) (hw : w < 4) : finF 1 (exe B Φ S_lnought [.v (soD p w) false]) = .ok (.v ((srOf p hp w).d (srOf p hp w).z)) [.u] := by
  match w, hw with
  | 0, _ => simp [S_lnought, soD, dget]; rfl
  | 1, _ => simp [S_lnought, soD, dget]; rfl
  | 2, _ => simp [S_lnought, soD, dget]; rfl
  | 3, _ => simp [S_lnought, soD, dget]; rfl
def S_lone : S := (.seq (.ret (.dix [[102, 114, 97, 99, 116, 105, 111, 110, 115], [114, 101, 115, 105, 100, 117, 101, 115], [99, 111, 115, 116, 115], [116, 114, 117, 116, 104, 115]] (.cons (.tup (.cons (.con (.int 1)) (.cons (.con (.int 1)) .nil))) (.cons (.con (.int 1)) (.cons (.con (.int 0)) (.cons (.con (.bl true)) .nil)))) (.idx (.var 0) (.con (.int 0))))) .skip)
theorem g_lone (p : Int) (hp : 1 < p) (w : Nat) (hw : w < 4) : finF 1 (exe B Φ S_lone [.v (soD p w) false]) = .ok (.v ((srOf p hp w).d (srOf p hp w).o)) [.u] := by
  match w, hw with
  | 0, _ => simp [S_lone, soD, dget]; rfl
  | 1, _ => simp [S_lone, soD, dget]; rfl
  | 2, _ => simp [S_lone, soD, dget]; rfl
  | 3, _ => simp [S_lone, soD, dget]; rfl
end
end Z

/-! tables of weights, drawn, multiplied, held against one another -/
namespace Z
open PySem
section
variable {B : Tb} {Φ : CallF} {ρ : Env} {s : Sr} {Q : Sq s}
theorem limQ : lim = 16777216 := rfl
abbrev rowD (s : Sr) (xs : List s.α) : D := .tup (xs.map s.d)
abbrev tabD (s : Sr) (t : List (List s.α)) : D := .tup (t.map fun r => D.tup (r.map s.d))
/-- the column of a table at a place -/
def cl (s : Sr) (t : List (List s.α)) (j : Nat) : List s.α := t.map fun r => r[j]?.getD s.z
/-- a row by a table so wide -/
def rb (s : Sr) (r : List s.α) (t : List (List s.α)) (w : Nat) : List s.α := (List.range w).map fun j => dt s r (cl s t j)
/-- where it may be multiplied -/
def Ok2 (Q : Sq s) (xs ys : List s.α) : Prop := xs.length ≤ 1000 ∧ ∃ P A A' L, Bd P A A' L ∧ Dq Q P A A' L xs ys
def HDot (Φ : CallF) (Q : Sq s) (qd : Nat) (o : D) : Prop := ∀ xs ys, Ok2 Q xs ys → Φ qd [.v o false, .v (rowD s xs) false, .v (rowD s ys) false] = .ok (.v (s.d (dt s xs ys))) [.u, .u, .u]
def HDotL (Φ : CallF) (Q : Sq s) (qd : Nat) (o : D) : Prop := ∀ xs ys, Ok2 Q xs ys → Φ qd [.v o false, .v (rowD s xs) false, .o (.L (ys.map s.d)) true] = .ok (.v (s.d (dt s xs ys))) [.u, .u, .o (.L (ys.map s.d)) true]
def S_col : S := (.seq (.ret (.b1 .tup (.comp .seq (.cons (.var 0) .nil) (.one 2) [2] (.idx (.var 2) (.var 1)) .nil))) .skip)
theorem at_row {r : List s.α} {j : Nat} (h : j < r.length) : idxR (.tup (r.map s.d)) (.int (j : Nat)) = some (.v (s.d (r[j]?.getD s.z))) :=
  idx_getT rfl (by rw [List.getElem?_map, List.getElem?_eq_getElem h]; rfl)
theorem g_col (t : List (List s.α)) (j : Nat) (h : ∀ r, r ∈ t → j < r.length) (hl : t.length ≤ 1000) : finF 2 (exe B Φ S_col [.v (tabD s t) false, .v (.int (j : Nat)) false, .u]) = .ok (.v (rowD s (cl s t j))) [.u, .u] := by
  have q : t.length ≤ lim := by rw [limQ]; omega
  have cm := cmpL_map (own := [2]) (t := .one 2) (h := ev B Φ (.idx (.var 2) (.var 1))) (fun d => match idxR d (.int (j : Nat)) with
    | some (.v x) => x
    | _ => .non) (t.map fun r => D.tup (r.map s.d)) [] [.v (tabD s t) false, .v (.int (j : Nat)) false, .u] (fun x hx => by
      obtain ⟨r, hr, rfl⟩ := List.mem_map.mp hx
      have e := at_row (h r hr)
      refine ⟨[.v (tabD s t) false, .v (.int (j : Nat)) false, .v (.tup (r.map s.d)) false], .v (s.d (r[j]?.getD s.z)), [.v (tabD s t) false, .v (.int (j : Nat)) false, .v (.tup (r.map s.d)) false], [.v (tabD s t) false, .v (.int (j : Nat)) false, .v (.tup (r.map s.d)) false], rfl, ?_, ?_, rfl⟩
      · simp [e]
      · rw [e]; rfl)
  rw [List.nil_append, List.map_map] at cm
  have e2 : (t.map ((fun d => match idxR d (.int (j : Nat)) with
    | some (.v x) => x
    | _ => .non) ∘ fun r => D.tup (r.map s.d))) = (cl s t j).map s.d := by
    unfold cl
    rw [List.map_map]
    refine List.map_congr_left fun r hr => ?_
    show (match idxR (.tup (r.map s.d)) (.int (j : Nat)) with
    | some (.v x) => x
    | _ => .non) = s.d (r[j]?.getD s.z)
    rw [at_row (h r hr)]
  rw [e2] at cm
  simp [S_col, q, cm]
def HCol (Φ : CallF) (s : Sr) (qc : Nat) : Prop := ∀ (t : List (List s.α)) (j : Nat), (∀ r, r ∈ t → j < r.length) → t.length ≤ 1000 → Φ qc [.v (tabD s t) false, .v (.int (j : Nat)) false] = .ok (.v (rowD s (cl s t j))) [.u, .u]
def S_rowby (qd qc : Nat) : S := (.seq (.ite (.cmp .eq (.var 2) (.tup .nil)) (.seq (.ret (.tup .nil)) .skip) .skip) (.seq (.ret (.b1 .tup (.comp .rng (.cons (.b1 .len (.idx (.var 2) (.con (.int 0)))) .nil) (.one 3) [3] (.call qd (.cons (.var 0) (.cons (.var 1) (.cons (.call qc (.cons (.var 2) (.cons (.var 3) .nil))) .nil)))) .nil))) .skip))
theorem plA_map {f : α → D} (h : ∀ x, pl (f x) = true) : ∀ xs : List α, plA (xs.map f) = true
  | [] => rfl
  | x :: xs => by
    show (pl (f x) && plA (xs.map f)) = true
    rw [h x, plA_map h xs]; rfl
theorem depA_map {f : α → D} {n : Nat} (h : ∀ x, dep (f x) ≤ n) : ∀ xs : List α, depA (xs.map f) ≤ n
  | [] => Nat.zero_le _
  | x :: xs => by
    show max (dep (f x)) (depA (xs.map f)) ≤ n
    have := h x
    have := depA_map h xs
    omega
theorem tab_shp (sh : ∀ x, pl (s.d x) = true ∧ dep (s.d x) ≤ 1) (t : List (List s.α)) : shp (tabD s t) = true := by
  unfold shp
  have h1 : pl (tabD s t) = true := plA_map (f := fun r : List s.α => D.tup (r.map s.d)) (fun r => by
    show plA (r.map s.d) = true
    exact plA_map (fun x => (sh x).1) r) t
  have h2 : depA (t.map fun r => D.tup (r.map s.d)) ≤ 2 := depA_map (fun r => by
    show depA (r.map s.d) + 1 ≤ 2
    have := depA_map (fun x => (sh x).2) r
    omega) t
  have h3 : dep (tabD s t) ≤ 64 := by
    show depA (t.map fun r => D.tup (r.map s.d)) + 1 ≤ 64
    omega
  rw [h1, decide_eq_true h3]; rfl
theorem tab_eq (sh : ∀ x, pl (s.d x) = true ∧ dep (s.d x) ≤ 1) (r : List s.α) (t : List (List s.α)) : cmpR .eq (tabD s (r :: t)) (.tup []) = some (.v (.bl false)) := by
  have h := tab_shp sh (r :: t)
  show (if scalD (tabD s (r :: t)) (.tup []) || (shp (tabD s (r :: t)) && shp (.tup [])) then some (eqv (tabD s (r :: t)) (.tup [])) else none).map _ = _
  rw [h]
  rfl
theorem tab_eq0 : cmpR .eq (.tup []) (.tup []) = some (.v (.bl true)) := rfl
theorem g_rowby {o : D} {qd qc : Nat} (hd : HDot Φ Q qd o) (hc : HCol Φ s qc) (sh : ∀ x, pl (s.d x) = true ∧ dep (s.d x) ≤ 1) (r : List s.α) (t : List (List s.α)) (w : Nat) (ht : t ≠ []) (hw : ∀ q, q ∈ t → q.length = w) (hw2 : w ≤ 1000) (hl : t.length ≤ 1000) (hk : ∀ j, j < w → Ok2 Q r (cl s t j)) :
    finF 3 (exe B Φ (S_rowby qd qc) [.v o false, .v (rowD s r) false, .v (tabD s t) false, .u]) = .ok (.v (rowD s (rb s r t w))) [.u, .u, .u] := by
  cases t with
  | nil => exact absurd rfl ht
  | cons r0 t =>
    have e := tab_eq sh r0 t
    have l0 : r0.length = w := hw r0 List.mem_cons_self
    have il : itD .rng [.int (w : Nat)] = some ((List.range w).map fun i => .int (i : Nat)) := it_rng rfl (by rw [limQ]; omega)
    have q : w ≤ lim := by rw [limQ]; omega
    obtain ⟨T, eT⟩ : ∃ T, T = r0 :: t := ⟨_, rfl⟩
    have hx : ∀ {j : Nat}, j < w → Φ qc [.v (tabD s T) false, .v (.int (j : Nat)) false] = .ok (.v (rowD s (cl s T j))) [.u, .u] := fun {j} h => hc T j (by rw [eT]; exact fun r hr => by rw [hw r hr]; exact h) (by rw [eT]; exact hl)
    have hd2 : ∀ {j : Nat}, j < w → Φ qd [.v o false, .v (rowD s r) false, .v (rowD s (cl s T j)) false] = .ok (.v (s.d (dt s r (cl s T j)))) [.u, .u, .u] := fun {j} h => hd r (cl s T j) (by rw [eT]; exact hk j h)
    have cm := cmpL_map (own := [3]) (t := .one 3) (h := ev B Φ (.call qd (.cons (.var 0) (.cons (.var 1) (.cons (.call qc (.cons (.var 2) (.cons (.var 3) .nil))) .nil))))) (fun (d : D) => match d with
      | .int i => s.d (dt s r (cl s T i.toNat))
      | d => d) ((List.range w).map fun i => .int (i : Nat)) [] [.v o false, .v (rowD s r) false, .v (tabD s T) false, .u] (fun x hx' => by
        obtain ⟨j, hj, rfl⟩ := List.mem_map.mp hx'
        have hj := List.mem_range.mp hj
        have a1 := hx hj
        have a2 := hd2 hj
        refine ⟨[.v o false, .v (rowD s r) false, .v (tabD s T) false, .v (.int j) false], .v (s.d (dt s r (cl s T j))), [.v o false, .v (rowD s r) false, .v (tabD s T) false, .v (.int j) false], [.v o false, .v (rowD s r) false, .v (tabD s T) false, .v (.int j) false], rfl, ?_, rfl, rfl⟩
        simp [a1, a2])
    rw [List.nil_append, List.map_map] at cm
    have e2 : ((List.range w).map ((fun (d : D) => match d with
      | .int i => s.d (dt s r (cl s T i.toNat))
      | d => d) ∘ fun (i : Nat) => D.int (i : Int))) = (rb s r T w).map s.d := by
      unfold rb
      rw [List.map_map]
      exact List.map_congr_left fun j _ => rfl
    rw [e2] at cm
    have i0 : idxR (tabD s T) (.int 0) = some (.v (.tup (r0.map s.d))) := idx_getT (k := 0) rfl (by rw [eT]; rfl)
    rw [← eT] at e ⊢
    have lq : r0.length ≤ lim := by rw [l0]; exact q
    simp [S_rowby, e, i0, l0, il, q, cm]
theorem g_rowby0 {o : D} {qd qc : Nat} (r : List s.α) : finF 3 (exe B Φ (S_rowby qd qc) [.v o false, .v (rowD s r) false, .v (.tup []) false, .u]) = .ok (.v (.tup [])) [.u, .u, .u] := by
  simp [S_rowby, tab_eq0]
def HRow (Φ : CallF) (Q : Sq s) (qr : Nat) (o : D) : Prop := ∀ r t w, t ≠ [] → (∀ q, q ∈ t → q.length = w) → w ≤ 1000 → t.length ≤ 1000 → (∀ j, j < w → Ok2 Q r (cl s t j)) → Φ qr [.v o false, .v (rowD s r) false, .v (tabD s t) false] = .ok (.v (rowD s (rb s r t w))) [.u, .u, .u]
def S_bycol (qd : Nat) : S := (.seq (.ret (.b1 .tup (.comp .seq (.cons (.var 1) .nil) (.one 3) [3] (.call qd (.cons (.var 0) (.cons (.var 3) (.cons (.var 2) .nil)))) .nil))) .skip)
/-- rows, each by something, in a comprehension that changes nothing -/
theorem cm_rows {own : List Nat} {t : Tg} {h : Env → Out (List R)} (f : List s.α → D) (T : List (List s.α)) (ρ : Env) (hs : ∀ r, r ∈ T → ∃ ρ1, asg t (.tup (r.map s.d)) (wip ρ own) = some ρ1 ∧ h ρ1 = .ok [.v (f r)] ρ1 ∧ bck ρ ρ1 own = ρ) :
    cmpL own t none h (T.map fun r => D.tup (r.map s.d)) [] ρ = .ok (T.map f) ρ := by
  have gen : ∀ (T : List (List s.α)) (acc : List D), (∀ r, r ∈ T → ∃ ρ1, asg t (.tup (r.map s.d)) (wip ρ own) = some ρ1 ∧ h ρ1 = .ok [.v (f r)] ρ1 ∧ bck ρ ρ1 own = ρ) → cmpL own t none h (T.map fun r => D.tup (r.map s.d)) acc ρ = .ok (acc ++ T.map f) ρ := by
    intro T
    induction T with
    | nil =>
      intro acc _
      show cmpL own t none h [] acc ρ = _
      unfold cmpL
      simp
    | cons r T ih =>
      intro acc hs
      obtain ⟨ρ1, h1, h2, h3⟩ := hs r List.mem_cons_self
      show cmpL own t none h (D.tup (r.map s.d) :: T.map fun r => D.tup (r.map s.d)) acc ρ = _
      unfold cmpL
      rw [h1]
      dsimp only
      rw [h2]
      show cmpL own t none h (T.map fun r => D.tup (r.map s.d)) (acc ++ [f r]) (bck ρ ρ1 own) = _
      rw [h3, ih (acc ++ [f r]) fun y hy => hs y (List.mem_cons_of_mem _ hy)]
      simp
  have := gen T [] hs
  rw [List.nil_append] at this
  exact this
theorem g_bycol {o : D} {qd : Nat} (hd : HDot Φ Q qd o) (t : List (List s.α)) (c : List s.α) (hl : t.length ≤ 1000) (hk : ∀ r, r ∈ t → Ok2 Q r c) :
    finF 3 (exe B Φ (S_bycol qd) [.v o false, .v (tabD s t) false, .v (rowD s c) false, .u]) = .ok (.v (rowD s (t.map fun r => dt s r c))) [.u, .u, .u] := by
  have q : t.length ≤ lim := by rw [limQ]; omega
  have cm := cm_rows (own := [3]) (t := .one 3) (h := ev B Φ (.call qd (.cons (.var 0) (.cons (.var 3) (.cons (.var 2) .nil))))) (fun r => s.d (dt s r c)) t [.v o false, .v (tabD s t) false, .v (rowD s c) false, .u] (fun r hr => by
    have a := hd r c (hk r hr)
    exact ⟨[.v o false, .v (tabD s t) false, .v (rowD s c) false, .v (.tup (r.map s.d)) false], rfl, by simp [a], rfl⟩)
  simp [S_bycol, q, cm]
def HByc (Φ : CallF) (Q : Sq s) (qb : Nat) (o : D) : Prop := ∀ t c, t.length ≤ 1000 → (∀ r, r ∈ t → Ok2 Q r c) → Φ qb [.v o false, .v (tabD s t) false, .v (rowD s c) false] = .ok (.v (rowD s (t.map fun r => dt s r c))) [.u, .u, .u]
theorem g_bytab {o : D} {qr : Nat} (hr : HRow Φ Q qr o) (t u : List (List s.α)) (w : Nat) (hl : t.length ≤ 1000) (hu : u ≠ []) (hw : ∀ q, q ∈ u → q.length = w) (hw2 : w ≤ 1000) (hul : u.length ≤ 1000) (hk : ∀ r, r ∈ t → ∀ j, j < w → Ok2 Q r (cl s u j)) :
    finF 3 (exe B Φ (S_bycol qr) [.v o false, .v (tabD s t) false, .v (tabD s u) false, .u]) = .ok (.v (tabD s (t.map fun r => rb s r u w))) [.u, .u, .u] := by
  have q : t.length ≤ lim := by rw [limQ]; omega
  have cm := cm_rows (own := [3]) (t := .one 3) (h := ev B Φ (.call qr (.cons (.var 0) (.cons (.var 3) (.cons (.var 2) .nil))))) (fun r => D.tup ((rb s r u w).map s.d)) t [.v o false, .v (tabD s t) false, .v (tabD s u) false, .u] (fun r hr' => by
    have a := hr r u w hu hw hw2 hul (hk r hr')
    exact ⟨[.v o false, .v (tabD s t) false, .v (tabD s u) false, .v (.tup (r.map s.d)) false], rfl, by simp [a], rfl⟩)
  simp [S_bycol, q, cm]
end
end Z

/-! the laws' own tables and draws -/
namespace Z
open PySem
section
variable {B : Tb} {Φ : CallF} {ρ : Env} {s : Sr} {Q : Sq s}
def L_lrowby (qd : Nat) : S := (.seq (.ex (.mut .append 4 (.cons (.call qd (.cons (.var 0) (.cons (.var 1) (.cons (.comp .seq (.cons (.var 2) .nil) (.one 6) [6] (.idx (.var 6) (.var 5)) .nil) .nil)))) .nil))) .skip)
def S_lrowby (qd : Nat) : S := (.seq (.set 4 (.lst .nil)) (.seq (.loop .rng (.cons (.var 3) .nil) (.one 5) (L_lrowby qd)) (.seq (.ret (.b1 .tup (.var 4))) .skip)))
theorem g_lrowby {o : D} {qd : Nat} (hd : HDotL Φ Q qd o) (r : List s.α) (t : List (List s.α)) (w : Nat) (hw : ∀ q, q ∈ t → q.length = w) (hw2 : w ≤ 1000) (hl : t.length ≤ 1000) (hk : ∀ j, j < w → Ok2 Q r (cl s t j)) :
    finF 4 (exe B Φ (S_lrowby qd) [.v o false, .v (rowD s r) false, .v (tabD s t) false, .v (.int (w : Nat)) false, .u, .u, .u]) = .ok (.v (rowD s (rb s r t w))) [.u, .u, .u, .u] := by
  have il : itD .rng [.int (w : Nat)] = some ((List.range w).map fun i => .int (i : Nat)) := it_rng rfl (by rw [limQ]; omega)
  have q : t.length ≤ lim := by rw [limQ]; omega
  obtain ⟨ρ', h1, x5, h2⟩ := lpL_rng (i := 5) (f := exe B Φ (L_lrowby qd)) w (fun k ρ => ∃ x5, ρ = [.v o false, .v (rowD s r) false, .v (tabD s t) false, .v (.int (w : Nat)) false, .o (.L ((List.range k).map fun j => s.d (dt s r (cl s t j)))) false, x5, .u])
    [.v o false, .v (rowD s r) false, .v (tabD s t) false, .v (.int (w : Nat)) false, .o (.L []) false, .u, .u] ⟨_, rfl⟩ (fun k hk' ρ ⟨x5, e⟩ => by
      subst e
      have a := hd r (cl s t k) (hk k hk')
      have cm := cm_rows (own := [6]) (t := .one 6) (h := ev B Φ (.idx (.var 6) (.var 5))) (fun q => s.d (q[k]?.getD s.z)) t [.v o false, .v (rowD s r) false, .v (tabD s t) false, .v (.int (w : Nat)) false, .o (.L ((List.range k).map fun j => s.d (dt s r (cl s t j)))) false, .v (.int (k : Nat)) false, .u] (fun q hq => by
        have b := at_row (s := s) (r := q) (j := k) (by rw [hw q hq]; exact hk')
        exact ⟨[.v o false, .v (rowD s r) false, .v (tabD s t) false, .v (.int (w : Nat)) false, .o (.L ((List.range k).map fun j => s.d (dt s r (cl s t j)))) false, .v (.int (k : Nat)) false, .v (.tup (q.map s.d)) false], rfl, by simp [b], rfl⟩)
      have e1 : (cl s t k).map s.d = t.map fun q => s.d (q[k]?.getD s.z) := by unfold cl; rw [List.map_map]; rfl
      rw [e1] at a
      refine ⟨_, .inl ?_, .v (.int (k : Nat)) false, rfl⟩
      have e2 : ((List.range (k + 1)).map fun j => s.d (dt s r (cl s t j))) = ((List.range k).map fun j => s.d (dt s r (cl s t j))) ++ [s.d (dt s r (cl s t k))] := by
        rw [List.range_succ, List.map_append]; rfl
      rw [e2]
      have q2 : k < lim := by rw [limQ]; omega
      obtain ⟨A, eA⟩ : ∃ A, A = (List.range k).map fun j => s.d (dt s r (cl s t j)) := ⟨_, rfl⟩
      have lA : A.length = k := by rw [eA]; simp
      rw [← eA] at cm ⊢
      simp [L_lrowby, q, cm, a, lA, q2])
  subst h2
  have e3 : ((List.range w).map fun j => s.d (dt s r (cl s t j))) = (rb s r t w).map s.d := by unfold rb; rw [List.map_map]; rfl
  rw [e3] at h1
  simp [S_lrowby, il, h1, Ow.d]
def HLrow (Φ : CallF) (Q : Sq s) (qr : Nat) (o : D) : Prop := ∀ r t w, (∀ q, q ∈ t → q.length = w) → w ≤ 1000 → t.length ≤ 1000 → (∀ j, j < w → Ok2 Q r (cl s t j)) → Φ qr [.v o false, .v (rowD s r) false, .v (tabD s t) false, .v (.int (w : Nat)) false] = .ok (.v (rowD s (rb s r t w))) [.u, .u, .u, .u]
/-! ### the same -/
def S_same : S := (.seq (.ite (.cmp .eq (.idx (.var 0) (.con (.int 0))) (.con (.str [116, 114, 117, 116, 104, 115]))) (.seq (.ret (.and (.isi (.var 1) .bool) (.cmp .eq (.var 1) (.var 2)))) .skip) .skip) (.seq (.ite (.or (.cmp .is (.var 2) (.con .non)) (.cmp .is (.var 1) (.con .non))) (.seq (.ret (.and (.cmp .is (.var 2) (.con .non)) (.cmp .is (.var 1) (.con .non)))) .skip) .skip) (.seq (.ite (.cmp .eq (.idx (.var 0) (.con (.int 0))) (.con (.str [102, 114, 97, 99, 116, 105, 111, 110, 115]))) (.seq (.ite (.or (.nt (.isi (.var 1) .tup)) (.or (.cmp .ne (.b1 .len (.var 1)) (.con (.int 2))) (.or (.isi (.idx (.var 1) (.con (.int 0))) .bool) (.isi (.idx (.var 1) (.con (.int 1))) .bool)))) (.seq (.ret (.con (.bl false))) .skip) .skip) (.seq (.ret (.and (.isi (.idx (.var 1) (.con (.int 0))) .int) (.and (.isi (.idx (.var 1) (.con (.int 1))) .int) (.cmp .eq (.var 1) (.var 2))))) .skip)) .skip) (.seq (.ret (.and (.isi (.var 1) .int) (.and (.nt (.isi (.var 1) .bool)) (.cmp .eq (.var 1) (.var 2))))) .skip))))
theorem g_same (p : Int) (hp : 1 < p) (w : Nat) (hw : w < 4) (x : (srOf p hp w).α) : finF 3 (exe B Φ S_same [.v (soD p w) false, .v ((srOf p hp w).d x) false, .v ((srOf p hp w).d x) false]) = .ok (.v (.bl true)) [.u, .u, .u] := by
  match w, hw with
  | 0, _ =>
    show finF 3 (exe B Φ S_same [.v (soD p 0) false, .v (rd x) false, .v (rd x) false]) = _
    simp [S_same, soD, rd]
  | 1, _ =>
    show finF 3 (exe B Φ S_same [.v (soD p 1) false, .v (.int x.1) false, .v (.int x.1) false]) = _
    simp [S_same, soD]
  | 2, _ =>
    cases x with
    | none =>
      show finF 3 (exe B Φ S_same [.v (soD p 2) false, .v .non false, .v .non false]) = _
      simp [S_same, soD]
    | some i =>
      show finF 3 (exe B Φ S_same [.v (soD p 2) false, .v (.int i) false, .v (.int i) false]) = _
      simp [S_same, soD]
  | 3, _ =>
    have key : ∀ x : Bool, finF 3 (exe B Φ S_same [.v (soD p 3) false, .v (.bl x) false, .v (.bl x) false]) = .ok (.v (.bl true)) [.u, .u, .u] := fun x => by simp [S_same, soD]
    exact key x
def HSame (Φ : CallF) (s : Sr) (qs : Nat) (o : D) : Prop := ∀ x, Φ qs [.v o false, .v (s.d x) false, .v (s.d x) false] = .ok (.v (.bl true)) [.u, .u, .u]
def L_allsame (qs : Nat) : S := (.seq (.ite (.nt (.call qs (.cons (.var 0) (.cons (.var 3) (.cons (.var 4) .nil))))) (.seq (.ret (.con (.bl false))) .skip) .skip) .skip)
def S_allsame (qs : Nat) : S := (.seq (.ite (.or (.nt (.isi (.var 1) .tup)) (.cmp .ne (.b1 .len (.var 1)) (.b1 .len (.var 2)))) (.seq (.ret (.con (.bl false))) .skip) .skip) (.seq (.loop .zip (.cons (.var 1) (.cons (.var 2) .nil)) (.tup [3, 4]) (L_allsame qs)) (.seq (.ret (.con (.bl true))) .skip)))
theorem l_allsame {o : D} {qs : Nat} {α : Type} (f : α → D) (h : ∀ x, Φ qs [.v o false, .v (f x) false, .v (f x) false] = .ok (.v (.bl true)) [.u, .u, .u]) (s1 s2 x3 x4 : Sl) (xs : List α) : ∃ y3 y4, lpL (.tup [3, 4]) (exe B Φ (L_allsame qs)) (xs.map ((fun a => D.tup [a, a]) ∘ f)) [.v o false, s1, s2, x3, x4] = .ok .nx [.v o false, s1, s2, y3, y4] := by
  obtain ⟨ρ', h1, x3, x4, h2⟩ := lpL_zip (i := 3) (j := 4) (f := exe B Φ (L_allsame qs)) (xs.map f) (xs.map f) (fun _ ρ => ∃ x3 x4, ρ = [.v o false, s1, s2, x3, x4]) [.v o false, s1, s2, x3, x4] ⟨_, _, rfl⟩ (fun k x y hx hy ρ ⟨x3, x4, e⟩ => by
    subst e
    rw [hx] at hy
    cases hy
    rw [List.getElem?_map] at hx
    obtain ⟨x, gx, rfl⟩ := Option.map_eq_some_iff.mp hx
    have a := h x
    exact ⟨[.v o false, s1, s2, .v (f x) false, .v (f x) false], .inl (by simp [L_allsame, a]), _, _, rfl⟩)
  subst h2
  rw [List.zipWith_self, List.map_map] at h1
  exact ⟨_, _, h1⟩
theorem g_allsameT {o : D} {qs : Nat} (h : HSame Φ s qs o) (xs : List s.α) (hl : xs.length ≤ 1000) : finF 3 (exe B Φ (S_allsame qs) [.v o false, .v (rowD s xs) false, .v (rowD s xs) false, .u, .u]) = .ok (.v (.bl true)) [.u, .u, .u] := by
  obtain ⟨y3, y4, e⟩ := l_allsame (B := B) s.d h (.v (rowD s xs) false) (.v (rowD s xs) false) .u .u xs
  have q : xs.length ≤ lim := by rw [limQ]; omega
  simp [S_allsame, q, e]
theorem g_allsameL {o : D} {qs : Nat} (h : HSame Φ s qs o) (xs : List s.α) (hl : xs.length ≤ 1000) : finF 3 (exe B Φ (S_allsame qs) [.v o false, .v (rowD s xs) false, .o (.L (xs.map s.d)) true, .u, .u]) = .ok (.v (.bl true)) [.u, .u, .o (.L (xs.map s.d)) true] := by
  obtain ⟨y3, y4, e⟩ := l_allsame (B := B) s.d h (.v (rowD s xs) false) (.k (.L (xs.map s.d)) true) .u .u xs
  have q : xs.length ≤ lim := by rw [limQ]; omega
  simp [S_allsame, q, Ow.d, e]
def HAll (Φ : CallF) (s : Sr) (qa : Nat) (o : D) : Prop := ∀ xs : List s.α, xs.length ≤ 1000 → Φ qa [.v o false, .v (rowD s xs) false, .v (rowD s xs) false] = .ok (.v (.bl true)) [.u, .u, .u]
theorem l_tabsame {o : D} {qa : Nat} (h : HAll Φ s qa o) (s1 s2 x3 x4 : Sl) (t : List (List s.α)) (hl : ∀ r, r ∈ t → r.length ≤ 1000) : ∃ y3 y4, lpL (.tup [3, 4]) (exe B Φ (L_allsame qa)) (t.map ((fun a => D.tup [a, a]) ∘ fun r => D.tup (r.map s.d))) [.v o false, s1, s2, x3, x4] = .ok .nx [.v o false, s1, s2, y3, y4] := by
  obtain ⟨ρ', h1, x3, x4, h2⟩ := lpL_zip (i := 3) (j := 4) (f := exe B Φ (L_allsame qa)) (t.map fun r => D.tup (r.map s.d)) (t.map fun r => D.tup (r.map s.d)) (fun _ ρ => ∃ x3 x4, ρ = [.v o false, s1, s2, x3, x4]) [.v o false, s1, s2, x3, x4] ⟨_, _, rfl⟩ (fun k x y hx hy ρ ⟨x3, x4, e⟩ => by
    subst e
    rw [hx] at hy
    cases hy
    rw [List.getElem?_map] at hx
    obtain ⟨x, gx, rfl⟩ := Option.map_eq_some_iff.mp hx
    have a := h x (hl x (List.mem_of_getElem? gx))
    exact ⟨[.v o false, s1, s2, .v (.tup (x.map s.d)) false, .v (.tup (x.map s.d)) false], .inl (by simp [L_allsame, a]), _, _, rfl⟩)
  subst h2
  rw [List.zipWith_self, List.map_map] at h1
  exact ⟨_, _, h1⟩
theorem g_tabsame {o : D} {qa : Nat} (h : HAll Φ s qa o) (t : List (List s.α)) (hl : t.length ≤ 1000) (hr : ∀ r, r ∈ t → r.length ≤ 1000) : finF 3 (exe B Φ (S_allsame qa) [.v o false, .v (tabD s t) false, .v (tabD s t) false, .u, .u]) = .ok (.v (.bl true)) [.u, .u, .u] := by
  obtain ⟨y3, y4, e⟩ := l_tabsame (B := B) h (.v (tabD s t) false) (.v (tabD s t) false) .u .u t hr
  have q : t.length ≤ lim := by rw [limQ]; omega
  simp [S_allsame, q, e]
end
end Z

/-! weights, rows and tables drawn -/
namespace Z
open PySem
section
variable {B : Tb} {Φ : CallF} {ρ : Env}
def HNext (Φ : CallF) (qn : Nat) : Prop := ∀ (l : List Int) (m : Int), dOk l → 0 < m → m.natAbs < 10 ^ 1000 → ∃ v l', dOk l' ∧ 0 ≤ v ∧ v < m ∧ Φ qn [.o (.L (l.map .int)) true, .v (.int m) false] = .ok (.v (.int v)) [.o (.L (l'.map .int)) true, .u]
/-- a weight that is drawn: few parts, not great -/
def Sm {s : Sr} (Q : Sq s) (x : s.α) : Prop := 0 < Q.dn x ∧ Q.dn x < 2 ^ 40 ∧ Q.q (Q.dn x) (2 ^ 90) x
theorem sm_F {a b : Int} (hb : 0 < b) (ha : a.natAbs < 2 ^ 90) (hb2 : b < 2 ^ 40) : ∃ x : Rat, Sm SqF x ∧ frD a b = rd x := by
  refine ⟨mkRat a b.toNat, ?_, frD_mk hb⟩
  have e := frD_mk (a := a) hb
  obtain ⟨_, _, f, l1, l2, _⟩ := fr_spec a b hb
  unfold rd frD at e
  injection e with e
  injection e with e1 e2
  injection e2 with e2
  injection e1 with e1
  injection e2 with e2
  have h1 : (mkRat a b.toNat).num.natAbs ≤ a.natAbs := by rw [← e1]; exact l1
  have h2 : (mkRat a b.toNat).den ≤ b.natAbs := by have := f.pos; omega
  have h3 := (mkRat a b.toNat).den_pos
  refine ⟨h3, ?_, ?_⟩
  · show (mkRat a b.toNat).den < 2 ^ 40
    omega
  · exact rq.up (rq.self _) (Nat.dvd_refl _) h3 (by omega)
def S_far (qn : Nat) : S := (.ite (.and (.var 2) (.cmp .eq (.call qn (.cons (.var 0) (.cons (.con (.int 3)) .nil))) (.con (.int 0)))) (.seq (.set 3 (.bin .mul (.bin .mul (.call qn (.cons (.var 0) (.cons (.bin .pow (.con (.int 10)) (.con (.int 13))) .nil))) (.bin .pow (.con (.int 10)) (.con (.int 13)))) (.bin .sub (.con (.int 1)) (.bin .mul (.con (.int 2)) (.call qn (.cons (.var 0) (.cons (.con (.int 2)) .nil))))))) .skip) .skip)
theorem g_far {qn : Nat} (hn : HNext Φ qn) (l : List Int) (hl : dOk l) (so : D) (g : Bool) : ∃ (a : Int) (l' : List Int), dOk l' ∧ a.natAbs ≤ 10 ^ 26 ∧ exe B Φ (S_far qn) [.o (.L (l.map .int)) true, .v so false, .v (.bl g) false, .v (.int 0) false] = .ok .nx [.o (.L (l'.map .int)) true, .v so false, .v (.bl g) false, .v (.int a) false] := by
  cases g with
  | false => exact ⟨0, l, hl, by decide, by simp [S_far]⟩
  | true =>
    obtain ⟨v1, l1, d1, a1, b1, e1⟩ := hn l 3 hl (by decide) (pow_le_big (m := 21) (by decide) (by decide))
    by_cases z : v1 = 0
    · obtain ⟨v2, l2, d2, a2, b2, e2⟩ := hn l1 10000000000000 d1 (by decide) (pow_le_big (m := 21) (by decide) (by decide))
      obtain ⟨v3, l3, d3, a3, b3, e3⟩ := hn l2 2 d2 (by decide) (pow_le_big (m := 21) (by decide) (by decide))
      have pk : powOk 10 13 = true := by decide
      have m1 : mulOk v2 10000000000000 = true := mulOk_of (pow_le_big (m := 21) (by omega) (by decide)) (by decide)
      have m2 : mulOk 2 v3 = true := mulOk_of (by decide) (pow_le_big (m := 21) (by omega) (by decide))
      have m3 : mulOk (v2 * 10000000000000) (1 - 2 * v3) = true := mulOk_of (pow_le_big (m := 40) (by omega) (by decide)) (pow_le_big (m := 21) (by omega) (by decide))
      refine ⟨v2 * 10000000000000 * (1 - 2 * v3), l3, d3, ?_, ?_⟩
      · have : v3 = 0 ∨ v3 = 1 := by omega
        rcases this with h | h <;> subst h <;> omega
      · simp [S_far, e1, z, e2, e3, pk, m1, m2, m3]
    · exact ⟨0, l1, d1, by decide, by simp [S_far, e1, z]⟩
def S_weight (qn q0 ql : Nat) : S := (.seq (.ite (.cmp .eq (.call qn (.cons (.var 0) (.cons (.con (.int 4)) .nil))) (.con (.int 0))) (.seq (.ret (.call q0 (.cons (.var 1) .nil))) .skip) .skip) (.seq (.set 3 (.con (.int 0))) (.seq (S_far qn) (.seq (.ite (.cmp .eq (.idx (.var 1) (.con (.int 0))) (.con (.str [102, 114, 97, 99, 116, 105, 111, 110, 115]))) (.seq (.ret (.call ql (.cons (.bin .sub (.bin .add (.var 3) (.call qn (.cons (.var 0) (.cons (.con (.int 9)) .nil)))) (.con (.int 4))) (.cons (.bin .add (.con (.int 1)) (.call qn (.cons (.var 0) (.cons (.bin .add (.con (.int 4)) (.bin .mul (.b1 .int (.cmp .gt (.var 3) (.con (.int 0)))) (.bin .pow (.con (.int 10)) (.con (.int 12))))) .nil)))) .nil)))) .skip) .skip) (.seq (.ite (.cmp .eq (.idx (.var 1) (.con (.int 0))) (.con (.str [114, 101, 115, 105, 100, 117, 101, 115]))) (.seq (.ret (.call qn (.cons (.var 0) (.cons (.idx (.var 1) (.con (.int 1))) .nil)))) .skip) .skip) (.seq (.ite (.cmp .eq (.idx (.var 1) (.con (.int 0))) (.con (.str [99, 111, 115, 116, 115]))) (.seq (.ret (.bin .sub (.bin .add (.var 3) (.call qn (.cons (.var 0) (.cons (.con (.int 9)) .nil)))) (.con (.int 2)))) .skip) .skip) (.seq (.ret (.cmp .eq (.call qn (.cons (.var 0) (.cons (.con (.int 2)) .nil))) (.con (.int 0)))) .skip)))))))
theorem bg40 : (10 : Nat) ^ 40 < BG := by
  show (10 : Nat) ^ 40 < 2 ^ 13400
  exact Nat.lt_of_lt_of_le (show (10 : Nat) ^ 40 < 2 ^ 160 by decide) (Nat.pow_le_pow_right (by decide) (by decide))
theorem g_weight {qn q0 ql : Nat} (hn : HNext Φ qn) (hf : HFb Φ ql) (p : Int) (hp : 1 < p) (hp2 : p < 10 ^ 20) (w : Nat) (hw : w < 4) (h0 : Φ q0 [.v (soD p w) false] = .ok (.v ((srOf p hp w).d (srOf p hp w).z)) [.u]) (l : List Int) (hl : dOk l) (g : Bool) :
    ∃ (x : (srOf p hp w).α) (l' : List Int), dOk l' ∧ Sm (sqOf p hp w) x ∧ finF 3 (exe B Φ (S_weight qn q0 ql) [.o (.L (l.map .int)) true, .v (soD p w) false, .v (.bl g) false, .u]) = (FOut.ok (.v ((srOf p hp w).d x)) [.o (.L (l'.map .int)) true, .u, .u]) := by
  obtain ⟨v1, l1, d1, a1, b1, e1⟩ := hn l 4 hl (by decide) (pow_le_big (m := 21) (by decide) (by decide))
  by_cases z : v1 = 0
  · refine ⟨(srOf p hp w).z, l1, d1, ?_, by simp [S_weight, e1, z, h0]⟩
    match w, hw with
    | 0, _ => exact ⟨Nat.one_pos, by show 1 < 2 ^ 40; decide, rq.up (rq.zero (M := 1) (by decide)) (Nat.dvd_refl _) Nat.one_pos (Nat.zero_le _)⟩
    | 1, _ => exact ⟨Nat.one_pos, by show 1 < 2 ^ 40; decide, Nat.one_pos⟩
    | 2, _ => exact ⟨Nat.one_pos, by show 1 < 2 ^ 40; decide, Nat.one_pos⟩
    | 3, _ => exact ⟨Nat.one_pos, by show 1 < 2 ^ 40; decide, Nat.one_pos⟩
  · obtain ⟨fa, l2, d2, n2, e2⟩ := g_far (B := B) hn l1 d1 (soD p w) g
    match w, hw with
    | 0, _ =>
      obtain ⟨v3, l3, d3, a3, b3, e3⟩ := hn l2 9 d2 (by decide) (pow_le_big (m := 21) (by decide) (by decide))
      have ih : ∃ i : Int, i = (if 0 < fa then 1 else 0) ∧ 0 ≤ i ∧ i ≤ 1 := ⟨_, rfl, by split <;> decide, by split <;> decide⟩
      obtain ⟨i, ei, i0, i1⟩ := ih
      obtain ⟨v4, l4, d4, a4, b4, e4⟩ := hn l3 (4 + i * 1000000000000) d3 (by omega) (pow_le_big (m := 21) (by omega) (by decide))
      have pk : powOk 10 12 = true := by decide
      have m1 : mulOk i 1000000000000 = true := mulOk_of (pow_le_big (m := 21) (by omega) (by decide)) (by decide)
      obtain ⟨x, hx, ex⟩ := sm_F (a := fa + v3 - 4) (b := 1 + v4) (by omega) (by omega) (by omega)
      have lo := hf (fa + v3 - 4) (1 + v4) (by omega) (Nat.lt_trans (show (fa + v3 - 4).natAbs < 10 ^ 40 by omega) bg40) (Nat.lt_trans (show (1 + v4).natAbs < 10 ^ 40 by omega) bg40)
      rw [ex] at lo
      refine ⟨x, l4, d4, hx, ?_⟩
      show finF 3 (exe B Φ (S_weight qn q0 ql) [.o (.L (l.map .int)) true, .v (soD p 0) false, .v (.bl g) false, .u]) = .ok (.v (rd x)) [.o (.L (l4.map .int)) true, .u, .u]
      by_cases hfa : 0 < fa
      · rw [if_pos hfa] at ei
        subst ei
        simp only [Int.one_mul, Int.reduceAdd] at e4
        simp [soD] at e2
        simp [S_weight, soD, e1, z, e2, e3, pk, hfa, e4, lo, mulOk_of, show mulOk 1 1000000000000 = true from m1]
      · rw [if_neg hfa] at ei
        subst ei
        simp only [Int.zero_mul, Int.add_zero] at e4
        simp [soD] at e2
        simp [S_weight, soD, e1, z, e2, e3, pk, hfa, e4, lo, show mulOk 0 1000000000000 = true from m1]
    | 1, _ =>
      obtain ⟨v3, l3, d3, a3, b3, e3⟩ := hn l2 p d2 (by omega) (pow_le_big (m := 21) (by omega) (by decide))
      refine ⟨⟨v3, a3, b3⟩, l3, d3, ⟨Nat.one_pos, by show 1 < 2 ^ 40; decide, Nat.one_pos⟩, ?_⟩
      show finF 3 (exe B Φ (S_weight qn q0 ql) [.o (.L (l.map .int)) true, .v (soD p 1) false, .v (.bl g) false, .u]) = .ok (.v (.int v3)) [.o (.L (l3.map .int)) true, .u, .u]
      simp [soD] at e2
      simp [S_weight, soD, e1, z, e2, e3]
    | 2, _ =>
      obtain ⟨v3, l3, d3, a3, b3, e3⟩ := hn l2 9 d2 (by decide) (pow_le_big (m := 21) (by decide) (by decide))
      refine ⟨some (fa + v3 - 2), l3, d3, ⟨Nat.one_pos, by show 1 < 2 ^ 40; decide, Nat.one_pos⟩, ?_⟩
      show finF 3 (exe B Φ (S_weight qn q0 ql) [.o (.L (l.map .int)) true, .v (soD p 2) false, .v (.bl g) false, .u]) = .ok (.v (.int (fa + v3 - 2))) [.o (.L (l3.map .int)) true, .u, .u]
      simp [soD] at e2
      simp [S_weight, soD, e1, z, e2, e3]
    | 3, _ =>
      obtain ⟨v3, l3, d3, a3, b3, e3⟩ := hn l2 2 d2 (by decide) (pow_le_big (m := 21) (by decide) (by decide))
      refine ⟨decide (v3 = 0), l3, d3, ⟨Nat.one_pos, by show 1 < 2 ^ 40; decide, Nat.one_pos⟩, ?_⟩
      show finF 3 (exe B Φ (S_weight qn q0 ql) [.o (.L (l.map .int)) true, .v (soD p 3) false, .v (.bl g) false, .u]) = .ok (.v (.bl (decide (v3 = 0)))) [.o (.L (l3.map .int)) true, .u, .u]
      simp [soD] at e2
      simp [S_weight, soD, e1, z, e2, e3]
def HWtP (Φ : CallF) (s : Sr) (Pq : Bool → s.α → Prop) (so : D) (qw : Nat) : Prop := ∀ (l : List Int) (g : Bool), dOk l → ∃ x l', dOk l' ∧ Pq g x ∧ Φ qw [.o (.L (l.map .int)) true, .v so false, .v (.bl g) false] = .ok (.v (s.d x)) [.o (.L (l'.map .int)) true, .u, .u]
abbrev HWt (Φ : CallF) (s : Sr) (Q : Sq s) (so : D) (qw : Nat) : Prop := HWtP Φ s (fun _ => Sm Q) so qw
def S_line (qw : Nat) : S := (.seq (.ret (.b1 .tup (.comp .rng (.cons (.var 2) .nil) (.one 4) [4] (.call qw (.cons (.var 0) (.cons (.var 1) (.cons (.var 3) .nil)))) .nil))) .skip)
theorem g_line {s : Sr} {Pq : Bool → s.α → Prop} {so : D} {qw : Nat} (hw : HWtP Φ s Pq so qw) (n : Nat) (hn : n ≤ 1000) (l : List Int) (hl : dOk l) (g : Bool) :
    ∃ (xs : List s.α) (l' : List Int), dOk l' ∧ xs.length = n ∧ (∀ x, x ∈ xs → Pq g x) ∧ finF 4 (exe B Φ (S_line qw) [.o (.L (l.map .int)) true, .v so false, .v (.int (n : Nat)) false, .v (.bl g) false, .u]) = .ok (.v (rowD s xs)) [.o (.L (l'.map .int)) true, .u, .u, .u] := by
  have il : itD .rng [.int (n : Nat)] = some ((List.range n).map fun i => .int (i : Nat)) := it_rng rfl (by rw [limQ]; omega)
  have q : n ≤ lim := by rw [limQ]; omega
  obtain ⟨acc, ρ', h1, l', xs, a1, a2, a3, a4, a5⟩ := cmpL_inv (own := [4]) (t := .one 4) (h := ev B Φ (.call qw (.cons (.var 0) (.cons (.var 1) (.cons (.var 3) .nil))))) (fun k acc ρ => ∃ (l : List Int) (xs : List s.α), dOk l ∧ xs.length = k ∧ (∀ x, x ∈ xs → Pq g x) ∧ acc = xs.map s.d ∧ ρ = [.o (.L (l.map .int)) true, .v so false, .v (.int (n : Nat)) false, .v (.bl g) false, .u])
    ((List.range n).map fun i => .int (i : Nat)) [] 0 [.o (.L (l.map .int)) true, .v so false, .v (.int (n : Nat)) false, .v (.bl g) false, .u] ⟨l, [], hl, rfl, (fun x hx => by cases hx), rfl, rfl⟩ (fun k x acc ρ _ ⟨l, xs, b1, b2, b3, b4, b5⟩ => by
      subst b4 b5
      obtain ⟨y, l', c1, c2, c3⟩ := hw l g b1
      refine ⟨[.o (.L (l.map .int)) true, .v so false, .v (.int (n : Nat)) false, .v (.bl g) false, .v x false], .v (s.d y), [.o (.L (l'.map .int)) true, .v so false, .v (.int (n : Nat)) false, .v (.bl g) false, .v x false], s.d y, [.o (.L (l'.map .int)) true, .v so false, .v (.int (n : Nat)) false, .v (.bl g) false, .v x false], rfl, by simp [c3], rfl, l', xs ++ [y], c1, by simp [b2], fun z hz => ?_, by simp, rfl⟩
      rcases List.mem_append.mp hz with h | h
      · exact b3 z h
      · rw [List.mem_singleton.mp h]; exact c2)
  rw [List.length_map, List.length_range, Nat.zero_add] at a2
  subst a4 a5
  exact ⟨xs, l', a1, a2, a3, by simp [S_line, il, q, h1]⟩
def HLineP (Φ : CallF) (s : Sr) (Pq : Bool → s.α → Prop) (so : D) (ql : Nat) : Prop := ∀ (n : Nat) (l : List Int) (g : Bool), n ≤ 1000 → dOk l → ∃ (xs : List s.α) (l' : List Int), dOk l' ∧ xs.length = n ∧ (∀ x, x ∈ xs → Pq g x) ∧ Φ ql [.o (.L (l.map .int)) true, .v so false, .v (.int (n : Nat)) false, .v (.bl g) false] = .ok (.v (rowD s xs)) [.o (.L (l'.map .int)) true, .u, .u, .u]
abbrev HLine (Φ : CallF) (s : Sr) (Q : Sq s) (so : D) (ql : Nat) : Prop := HLineP Φ s (fun _ => Sm Q) so ql
def S_table (ql : Nat) : S := (.seq (.ret (.b1 .tup (.comp .rng (.cons (.var 2) .nil) (.one 5) [5] (.call ql (.cons (.var 0) (.cons (.var 1) (.cons (.var 3) (.cons (.var 4) .nil))))) .nil))) .skip)
theorem g_table {s : Sr} {Pq : Bool → s.α → Prop} {so : D} {ql : Nat} (hw : HLineP Φ s Pq so ql) (n m : Nat) (hn : n ≤ 1000) (hm : m ≤ 1000) (l : List Int) (hl : dOk l) (g : Bool) :
    ∃ (t : List (List s.α)) (l' : List Int), dOk l' ∧ t.length = n ∧ (∀ r, r ∈ t → r.length = m ∧ ∀ x, x ∈ r → Pq g x) ∧ finF 5 (exe B Φ (S_table ql) [.o (.L (l.map .int)) true, .v so false, .v (.int (n : Nat)) false, .v (.int (m : Nat)) false, .v (.bl g) false, .u]) = .ok (.v (tabD s t)) [.o (.L (l'.map .int)) true, .u, .u, .u, .u] := by
  have il : itD .rng [.int (n : Nat)] = some ((List.range n).map fun i => .int (i : Nat)) := it_rng rfl (by rw [limQ]; omega)
  have q : n ≤ lim := by rw [limQ]; omega
  obtain ⟨acc, ρ', h1, l', xs, a1, a2, a3, a4, a5⟩ := cmpL_inv (own := [5]) (t := .one 5) (h := ev B Φ (.call ql (.cons (.var 0) (.cons (.var 1) (.cons (.var 3) (.cons (.var 4) .nil)))))) (fun k acc ρ => ∃ (l : List Int) (xs : List (List s.α)), dOk l ∧ xs.length = k ∧ (∀ r, r ∈ xs → r.length = m ∧ ∀ x, x ∈ r → Pq g x) ∧ acc = (xs.map fun r => D.tup (r.map s.d)) ∧ ρ = [.o (.L (l.map .int)) true, .v so false, .v (.int (n : Nat)) false, .v (.int (m : Nat)) false, .v (.bl g) false, .u])
    ((List.range n).map fun i => .int (i : Nat)) [] 0 [.o (.L (l.map .int)) true, .v so false, .v (.int (n : Nat)) false, .v (.int (m : Nat)) false, .v (.bl g) false, .u] ⟨l, [], hl, rfl, (fun x hx => by cases hx), rfl, rfl⟩ (fun k x acc ρ _ ⟨l, xs, b1, b2, b3, b4, b5⟩ => by
      subst b4 b5
      obtain ⟨y, l', c1, c2, c4, c3⟩ := hw m l g hm b1
      refine ⟨[.o (.L (l.map .int)) true, .v so false, .v (.int (n : Nat)) false, .v (.int (m : Nat)) false, .v (.bl g) false, .v x false], .v (rowD s y), [.o (.L (l'.map .int)) true, .v so false, .v (.int (n : Nat)) false, .v (.int (m : Nat)) false, .v (.bl g) false, .v x false], rowD s y, [.o (.L (l'.map .int)) true, .v so false, .v (.int (n : Nat)) false, .v (.int (m : Nat)) false, .v (.bl g) false, .v x false], rfl, by simp [c3], rfl, l', xs ++ [y], c1, by simp [b2], fun z hz => ?_, by simp, rfl⟩
      rcases List.mem_append.mp hz with h | h
      · exact b3 z h
      · rw [List.mem_singleton.mp h]; exact ⟨c2, c4⟩)
  rw [List.length_map, List.length_range, Nat.zero_add] at a2
  subst a4 a5
  exact ⟨xs, l', a1, a2, a3, by simp [S_table, il, q, h1]⟩
def HTableP (Φ : CallF) (s : Sr) (Pq : Bool → s.α → Prop) (so : D) (qt : Nat) : Prop := ∀ (n m : Nat) (l : List Int) (g : Bool), n ≤ 1000 → m ≤ 1000 → dOk l → ∃ (t : List (List s.α)) (l' : List Int), dOk l' ∧ t.length = n ∧ (∀ r, r ∈ t → r.length = m ∧ ∀ x, x ∈ r → Pq g x) ∧ Φ qt [.o (.L (l.map .int)) true, .v so false, .v (.int (n : Nat)) false, .v (.int (m : Nat)) false, .v (.bl g) false] = .ok (.v (tabD s t)) [.o (.L (l'.map .int)) true, .u, .u, .u, .u]
abbrev HTable (Φ : CallF) (s : Sr) (Q : Sq s) (so : D) (ql : Nat) : Prop := HTableP Φ s (fun _ => Sm Q) so ql
def S_sort (qn : Nat) : S := (.seq (.set 2 (.idx (.lst (.cons (.con (.int 2)) (.cons (.con (.int 3)) (.cons (.con (.int 5)) (.cons (.con (.int 7)) (.cons (.con (.int 11)) (.cons (.con (.int 13)) (.cons (.con (.int 101)) (.cons (.con (.int 65537)) (.cons (.con (.int 999983)) .nil)))))))))) (.call qn (.cons (.var 0) (.cons (.con (.int 9)) .nil))))) (.seq (.ret (.idx (.lst (.cons (.tup (.cons (.con (.str [102, 114, 97, 99, 116, 105, 111, 110, 115])) (.cons (.con (.int 0)) .nil))) (.cons (.tup (.cons (.con (.str [114, 101, 115, 105, 100, 117, 101, 115])) (.cons (.var 2) .nil))) (.cons (.tup (.cons (.con (.str [99, 111, 115, 116, 115])) (.cons (.con (.int 0)) .nil))) (.cons (.tup (.cons (.con (.str [116, 114, 117, 116, 104, 115])) (.cons (.con (.int 0)) .nil))) .nil))))) (.var 1))) .skip))
theorem g_sort {qn : Nat} (hn : HNext Φ qn) (l : List Int) (hl : dOk l) (w : Nat) (hw : w < 4) : ∃ (p : Int) (l' : List Int), Pr p ∧ dOk l' ∧ finF 2 (exe B Φ (S_sort qn) [.o (.L (l.map .int)) true, .v (.int (w : Nat)) false, .u]) = .ok (.v (soD p w)) [.o (.L (l'.map .int)) true, .u] := by
  obtain ⟨v, l', d, a, b, e⟩ := hn l 9 hl (by decide) (pow_le_big (m := 21) (by decide) (by decide))
  obtain ⟨k, rfl⟩ : ∃ k : Nat, v = k := ⟨v.toNat, by omega⟩
  obtain ⟨p, hp, pr⟩ := prs k (by omega)
  have ix := idx_get (i := (k : Int)) rfl hp
  refine ⟨p, l', pr, d, ?_⟩
  have ix2 : idxR (.lst [.tup [.str [102, 114, 97, 99, 116, 105, 111, 110, 115], .int 0], .tup [.str [114, 101, 115, 105, 100, 117, 101, 115], .int p], .tup [.str [99, 111, 115, 116, 115], .int 0], .tup [.str [116, 114, 117, 116, 104, 115], .int 0]]) (.int (w : Nat)) = some (.v (soD p w)) := idx_get rfl (by
    match w, hw with
    | 0, _ => rfl
    | 1, _ => rfl
    | 2, _ => rfl
    | 3, _ => rfl)
  simp [S_sort, e, ix, ix2, Ow.d]
end
end Z

/-! roads and sizes of rows and tables -/
namespace Z
open PySem
section
variable {s : Sr} {Q : Sq s}
theorem dt_eq {xs ys : List s.α} {n : Nat} (hx : xs.length = n) (hy : ys.length = n) : dt s xs ys = Su s n fun k => s.mul (xs[k]?.getD s.z) (ys[k]?.getD s.z) := by
  unfold dt
  rw [hx, hy, Nat.min_self]
theorem rb_len {r : List s.α} {t : List (List s.α)} {w : Nat} : (rb s r t w).length = w := by unfold rb; simp
theorem rb_get {r : List s.α} {t : List (List s.α)} {w j : Nat} (h : j < w) : (rb s r t w)[j]?.getD s.z = dt s r (cl s t j) := by
  unfold rb
  rw [List.getElem?_map, List.getElem?_range h]
  rfl
theorem cl_len {t : List (List s.α)} {j : Nat} : (cl s t j).length = t.length := by unfold cl; simp
theorem cl_get {t : List (List s.α)} {i j : Nat} (h : i < t.length) : (cl s t j)[i]?.getD s.z = (t[i]?.getD [])[j]?.getD s.z := by
  unfold cl
  rw [List.getElem?_map, List.getElem?_eq_getElem h]
  rfl
theorem mp_get {α : Type} {t : List α} {f : α → s.α} {i : Nat} {d : α} (h : i < t.length) : (t.map f)[i]?.getD s.z = f (t[i]?.getD d) := by
  rw [List.getElem?_map, List.getElem?_eq_getElem h]
  rfl
/-- a row by a table by a column, on either road -/
theorem road {xs : List s.α} {t : List (List s.α)} {c : List s.α} {n m : Nat} (hx : xs.length = n) (ht : t.length = n) (hr : ∀ r, r ∈ t → r.length = m) (hc : c.length = m) :
    dt s (rb s xs t m) c = dt s xs (t.map fun r => dt s r c) := by
  rw [dt_eq (n := m) rb_len hc, dt_eq (n := n) hx (by rw [List.length_map]; exact ht)]
  rw [Su_congr (g := fun k => s.mul (Su s n fun i => s.mul (xs[i]?.getD s.z) ((t[i]?.getD [])[k]?.getD s.z)) (c[k]?.getD s.z)) (fun k hk => by
    rw [rb_get hk, dt_eq (n := n) hx (by rw [cl_len]; exact ht)]
    congr 1
    exact Su_congr fun i hi => by rw [cl_get (by omega)])]
  rw [Su_road n m (fun i => xs[i]?.getD s.z) (fun i k => (t[i]?.getD [])[k]?.getD s.z) (fun k => c[k]?.getD s.z)]
  refine Su_congr fun i hi => ?_
  rw [mp_get (d := []) (show i < t.length by omega)]
  congr 1
  have hl : (t[i]?.getD []).length = m := by
    rw [List.getElem?_eq_getElem (show i < t.length by omega)]
    exact hr _ (List.getElem_mem _)
  rw [dt_eq (n := m) hl hc]
/-- by both tables at once -/
theorem roads {xs : List s.α} {t u : List (List s.α)} {n m l : Nat} (hx : xs.length = n) (ht : t.length = n) (hr : ∀ r, r ∈ t → r.length = m) (hu : u.length = m) :
    rb s xs (t.map fun r => rb s r u l) l = rb s (rb s xs t m) u l := by
  unfold rb
  refine List.map_congr_left fun j hj => ?_
  have hj := List.mem_range.mp hj
  have e := road (c := cl s u j) hx ht hr (by rw [cl_len]; exact hu)
  rw [show (List.map (fun j => dt s xs (cl s t j)) (List.range m)) = rb s xs t m from rfl, e]
  congr 1
  unfold cl
  rw [List.map_map]
  refine List.map_congr_left fun r _ => ?_
  exact rb_get hj
/-! ### sizes -/
def Rs (Q : Sq s) (P A b : Nat) (xs : List s.α) : Prop := 0 < P ∧ ∀ x, x ∈ xs → ∃ M, Q.q M A x ∧ M ∣ P ∧ M < 2 ^ b
theorem Rs.dq {P P' A A' b b' L : Nat} {xs ys : List s.α} (h : Rs Q P A b xs) (h' : Rs Q P' A' b' ys) (hb : b + b' ≤ L) : Dq Q (P * P') A A' L xs ys := fun k x y hx hy => by
  obtain ⟨M, a1, a2, a3⟩ := h.2 x (List.mem_of_getElem? hx)
  obtain ⟨N, b1, b2, b3⟩ := h'.2 y (List.mem_of_getElem? hy)
  refine ⟨M, N, a1, b1, Nat.mul_dvd_mul a2 b2, ?_⟩
  have h1 : M * N ≤ M * 2 ^ b' := Nat.mul_le_mul_left _ (by omega)
  have h2 : M * 2 ^ b' < 2 ^ b * 2 ^ b' := Nat.mul_lt_mul_of_pos_right a3 (Nat.pow_pos (by decide))
  rw [← Nat.pow_add] at h2
  exact Nat.lt_of_lt_of_le (Nat.lt_of_le_of_lt h1 h2) (Nat.pow_le_pow_right (by decide) hb)
theorem Rs.ok3 {P P' A A' b b' p a c : Nat} {xs ys : List s.α} (h : Rs Q P A b xs) (h' : Rs Q P' A' b' ys) (hP : P * P' < 2 ^ p) (hA : A < 2 ^ a) (hA' : A' < 2 ^ c) (hs : p + (b + b') + 2 * (a + c) + 30 ≤ 13400) (hl : xs.length ≤ 1000) : Ok2 Q xs ys :=
  ⟨hl, P * P', A, A', b + b', ⟨Nat.mul_pos h.1 h'.1, p, a, c, hP, hA, hA', hs⟩, h.dq h' (Nat.le_refl _)⟩
theorem Rs.ok2 {P P' A A' b b' : Nat} {xs ys : List s.α} (h : Rs Q P A b xs) (h' : Rs Q P' A' b' ys) (hb : b + b' ≤ 4100) (hP : P * P' < 2 ^ 7300) (hA : A < 2 ^ 300) (hA' : A' < 2 ^ 300) (hl : xs.length ≤ 1000) : Ok2 Q xs ys :=
  h.ok3 h' hP hA hA' (by omega) hl
theorem Rs.dt {P P' A A' b b' : Nat} {xs ys : List s.α} (h : Rs Q P A b xs) (h' : Rs Q P' A' b' ys) (hb : b + b' ≤ 4100) {k : Nat} (hl : xs.length ≤ k) : Q.q (P * P') (k * (A * A')) (Z.dt s xs ys) := by
  have p := Nat.mul_pos h.1 h'.1
  exact Q.up (Dq.q (h.dq h' (Nat.le_refl _)) p) (Nat.dvd_refl _) p (Nat.mul_le_mul_right _ (by omega))
def pd (Q : Sq s) : List s.α → Nat
  | [] => 1
  | x :: xs => Q.dn x * pd Q xs
def ptb (Q : Sq s) : List (List s.α) → Nat
  | [] => 1
  | r :: t => pd Q r * ptb Q t
theorem pd_le : ∀ {xs : List s.α}, (∀ x, x ∈ xs → Sm Q x) → 0 < pd Q xs ∧ pd Q xs ≤ 2 ^ (40 * xs.length)
  | [], _ => ⟨Nat.one_pos, Nat.le_refl _⟩
  | x :: xs, h => by
    obtain ⟨a, b, _⟩ := h x List.mem_cons_self
    obtain ⟨c, d⟩ := pd_le fun y hy => h y (List.mem_cons_of_mem _ hy)
    refine ⟨Nat.mul_pos a c, ?_⟩
    rw [List.length_cons, Nat.mul_succ, Nat.pow_add, Nat.mul_comm (2 ^ (40 * xs.length))]
    exact Nat.mul_le_mul (by omega) d
theorem dn_dvd : ∀ {xs : List s.α} {x : s.α}, x ∈ xs → Q.dn x ∣ pd Q xs
  | [], _, h => by cases h
  | y :: xs, x, h => by
    rcases List.mem_cons.mp h with e | e
    · subst e; exact Nat.dvd_mul_right _ _
    · exact Nat.dvd_trans (dn_dvd e) (Nat.dvd_mul_left _ _)
theorem ptb_le {m : Nat} : ∀ {t : List (List s.α)}, (∀ r, r ∈ t → r.length = m ∧ ∀ x, x ∈ r → Sm Q x) → 0 < ptb Q t ∧ ptb Q t ≤ 2 ^ (40 * m * t.length)
  | [], _ => ⟨Nat.one_pos, Nat.le_refl _⟩
  | r :: t, h => by
    obtain ⟨e, f⟩ := h r List.mem_cons_self
    obtain ⟨a, b⟩ := pd_le f
    obtain ⟨c, d⟩ := ptb_le fun y hy => h y (List.mem_cons_of_mem _ hy)
    refine ⟨Nat.mul_pos a c, ?_⟩
    rw [List.length_cons, Nat.mul_succ, Nat.pow_add, Nat.mul_comm (2 ^ (40 * m * t.length))]
    rw [e] at b
    exact Nat.mul_le_mul b d
theorem pd_pt : ∀ {t : List (List s.α)} {r : List s.α}, r ∈ t → pd Q r ∣ ptb Q t
  | [], _, h => by cases h
  | y :: t, r, h => by
    rcases List.mem_cons.mp h with e | e
    · subst e; exact Nat.dvd_mul_right _ _
    · exact Nat.dvd_trans (pd_pt e) (Nat.dvd_mul_left _ _)
theorem cl_dvd {j : Nat} : ∀ {t : List (List s.α)}, (∀ r, r ∈ t → j < r.length) → pd Q (cl s t j) ∣ ptb Q t
  | [], _ => Nat.dvd_refl _
  | r :: t, h => by
    have a := cl_dvd fun y hy => h y (List.mem_cons_of_mem _ hy)
    have b := h r List.mem_cons_self
    show Q.dn (r[j]?.getD s.z) * pd Q (cl s t j) ∣ pd Q r * ptb Q t
    rw [List.getElem?_eq_getElem b]
    exact Nat.mul_dvd_mul (dn_dvd (List.getElem_mem _)) a
theorem cl_sm {j m : Nat} {t : List (List s.α)} (h : ∀ r, r ∈ t → r.length = m ∧ ∀ x, x ∈ r → Sm Q x) (hj : j < m) : ∀ x, x ∈ cl s t j → Sm Q x := fun x hx => by
  obtain ⟨r, hr, rfl⟩ := List.mem_map.mp hx
  obtain ⟨e, f⟩ := h r hr
  rw [List.getElem?_eq_getElem (show j < r.length by omega)]
  exact f _ (List.getElem_mem _)
theorem Rs_row {xs : List s.α} (h : ∀ x, x ∈ xs → Sm Q x) : Rs Q (pd Q xs) (2 ^ 90) 40 xs :=
  ⟨(pd_le h).1, fun x hx => ⟨Q.dn x, (h x hx).2.2, dn_dvd hx, (h x hx).2.1⟩⟩
end
end Z

/-! weights of parts of twelve -/
namespace Z
open PySem
section
variable {s : Sr} {Q : Sq s}
/-- so many twelfths, so many bits -/
def Zq (Q : Sq s) (n e : Nat) (x : s.α) : Prop := Q.q (12 ^ n) (2 ^ e) x
theorem p12 (n : Nat) : 0 < 12 ^ n := Nat.pow_pos (by decide)
theorem p12_lt (n : Nat) : 12 ^ n ≤ 2 ^ (4 * n) := by
  rw [Nat.pow_mul]
  exact Nat.pow_le_pow_left (by decide) n
theorem Zq.up {n e m f : Nat} {x : s.α} (h : Zq Q n e x) (a : n ≤ m) (b : e ≤ f) : Zq Q m f x :=
  Q.up h (Nat.pow_dvd_pow 12 a) (p12 m) (Nat.pow_le_pow_right (by decide) b)
theorem Zq.mul {n e m f : Nat} {x y : s.α} (h : Zq Q n e x) (k : Zq Q m f y) : Zq Q (n + m) (e + f) (s.mul x y) := by
  unfold Zq
  rw [Nat.pow_add, Nat.pow_add]
  exact Q.mul h k
theorem Zq.add {n e : Nat} {x y : s.α} (h : Zq Q n e x) (k : Zq Q n e y) : Zq Q n (e + 1) (s.add x y) := by
  unfold Zq
  rw [Nat.pow_succ, Nat.mul_two]
  exact Q.add h k
theorem Zq.zero (n e : Nat) : Zq Q n e s.z := Q.up (Q.zero (p12 n)) (Nat.dvd_refl _) (p12 n) (Nat.zero_le _)
theorem Zq.one (n e : Nat) : Zq Q n e s.o := Q.up Q.one (Nat.one_dvd _) (p12 n) (Nat.pow_pos (by decide))
theorem Zq.sum {n e c k : Nat} {f : Nat → s.α} (h : ∀ i, i < k → Zq Q n e (f i)) (hk : k ≤ 2 ^ c) : Zq Q n (e + c) (Su s k f) := by
  have := Su_q (Q := Q) (p12 n) k h
  refine Q.up this (Nat.dvd_refl _) (p12 n) ?_
  rw [Nat.pow_add, Nat.mul_comm]
  exact Nat.mul_le_mul_left _ hk
/-- they may be added, multiplied -/
theorem z_bg {n e m f : Nat} (h : 4 * (n + m) + (e + f) + 10 ≤ 13400) : (12 ^ n * 12 ^ m) * ((2 ^ e + 1) * (2 ^ f + 1)) < BG := by
  have h1 : 12 ^ n * 12 ^ m ≤ 2 ^ (4 * n + 4 * m) := by rw [Nat.pow_add]; exact Nat.mul_le_mul (p12_lt n) (p12_lt m)
  have p : ∀ e : Nat, 2 ^ e + 1 ≤ 2 ^ (e + 1) := fun e => by
    have : 0 < 2 ^ e := Nat.pow_pos (by decide)
    rw [Nat.pow_succ]; omega
  have h2 : (2 ^ e + 1) * (2 ^ f + 1) ≤ 2 ^ (e + 1 + (f + 1)) := by rw [Nat.pow_add 2 (e + 1)]; exact Nat.mul_le_mul (p e) (p f)
  have h3 : (12 ^ n * 12 ^ m) * ((2 ^ e + 1) * (2 ^ f + 1)) ≤ 2 ^ (4 * n + 4 * m + (e + 1 + (f + 1))) := by
    rw [Nat.pow_add 2 (4 * n + 4 * m)]
    exact Nat.mul_le_mul h1 h2
  refine Nat.lt_of_le_of_lt h3 ?_
  show _ < 2 ^ 13400
  exact Nat.pow_lt_pow_right (by decide) (by omega)
def Zs (Q : Sq s) (n e : Nat) (xs : List s.α) : Prop := ∀ x, x ∈ xs → Zq Q n e x
theorem Zs.up {n e m f : Nat} {xs : List s.α} (h : Zs Q n e xs) (a : n ≤ m) (b : e ≤ f) : Zs Q m f xs := fun x hx => (h x hx).up a b
theorem Zs.nil {n e : Nat} : Zs Q n e [] := fun x hx => by cases hx
theorem Zs.app {n e : Nat} {xs ys : List s.α} (h : Zs Q n e xs) (k : Zs Q n e ys) : Zs Q n e (xs ++ ys) := fun x hx => (List.mem_append.mp hx).elim (h x) (k x)
theorem Zs.get {n e : Nat} {xs : List s.α} (h : Zs Q n e xs) (i : Nat) : Zq Q n e (xs[i]?.getD s.z) := by
  cases g : xs[i]? with
  | none => exact Zq.zero n e
  | some x => exact h x (List.mem_of_getElem? g)
theorem Zs.ok2 {n e m f : Nat} {xs ys : List s.α} (h : Zs Q n e xs) (k : Zs Q m f ys) (hs : 8 * (n + m) + 2 * (e + f) + 40 ≤ 13400) (hl : xs.length ≤ 1000) : Ok2 Q xs ys := by
  have hp : 12 ^ n * 12 ^ m < 2 ^ (4 * (n + m) + 1) := by
    have h1 : 12 ^ n * 12 ^ m ≤ 2 ^ (4 * n + 4 * m) := by rw [Nat.pow_add]; exact Nat.mul_le_mul (p12_lt n) (p12_lt m)
    exact Nat.lt_of_le_of_lt h1 (Nat.pow_lt_pow_right (by decide) (by omega))
  refine ⟨hl, 12 ^ n * 12 ^ m, 2 ^ e, 2 ^ f, 4 * (n + m) + 1, ⟨Nat.mul_pos (p12 n) (p12 m), 4 * (n + m) + 1, e + 1, f + 1, hp, Nat.pow_lt_pow_right (by decide) (by omega), Nat.pow_lt_pow_right (by decide) (by omega), by omega⟩, ?_⟩
  intro i x y hx hy
  exact ⟨12 ^ n, 12 ^ m, h x (List.mem_of_getElem? hx), k y (List.mem_of_getElem? hy), Nat.dvd_refl _, hp⟩
theorem Zs.dt {n e m f c : Nat} {xs ys : List s.α} (h : Zs Q n e xs) (k : Zs Q m f ys) (hl : xs.length ≤ 2 ^ c) : Zq Q (n + m) (e + f + c) (dt s xs ys) := by
  unfold Z.dt
  exact Zq.sum (fun i _ => (h.get i).mul (k.get i)) (by omega)
/-- tables -/
def Zt (Q : Sq s) (n e : Nat) (t : List (List s.α)) : Prop := ∀ r, r ∈ t → Zs Q n e r
theorem Zt.up {n e m f : Nat} {t : List (List s.α)} (h : Zt Q n e t) (a : n ≤ m) (b : e ≤ f) : Zt Q m f t := fun x hx => (h x hx).up a b
theorem Zt.cl {n e : Nat} {t : List (List s.α)} (h : Zt Q n e t) (j : Nat) : Zs Q n e (cl s t j) := fun x hx => by
  obtain ⟨r, hr, rfl⟩ := List.mem_map.mp hx
  exact (h r hr).get j
theorem Zs.rb {n e m f c : Nat} {xs : List s.α} {t : List (List s.α)} (h : Zs Q n e xs) (k : Zt Q m f t) (hl : xs.length ≤ 2 ^ c) (w : Nat) : Zs Q (n + m) (e + f + c) (rb s xs t w) := fun x hx => by
  obtain ⟨j, hj, rfl⟩ := List.mem_map.mp hx
  exact h.dt (k.cl j) hl
theorem Zt.bc {n e m f c : Nat} {t : List (List s.α)} {ys : List s.α} (h : Zt Q n e t) (k : Zs Q m f ys) (hl : ∀ r, r ∈ t → r.length ≤ 2 ^ c) : Zs Q (n + m) (e + f + c) (t.map fun r => Z.dt s r ys) := fun x hx => by
  obtain ⟨r, hr, rfl⟩ := List.mem_map.mp hx
  exact (h r hr).dt k (hl r hr)
end
/-- a drawn fraction of few parts -/
theorem zq_F {a b : Int} {e : Nat} (hb : 0 < b) (hb2 : b ≤ 4) (ha : a.natAbs ≤ 2 ^ e) : ∃ x : Rat, Zq SqF 1 e x ∧ frD a b = rd x := by
  refine ⟨mkRat a b.toNat, ?_, frD_mk hb⟩
  have h1 : rq b.toNat (2 ^ e) (mkRat a b.toNat) := ⟨by omega, a, by
    have : 2 ^ e * 1 ≤ 2 ^ e * b.toNat := Nat.mul_le_mul_left _ (by omega)
    omega, rfl⟩
  have d : b.toNat ∣ 12 := by
    have : b = 1 ∨ b = 2 ∨ b = 3 ∨ b = 4 := by omega
    rcases this with h | h | h | h <;> subst h <;> decide
  exact rq.up h1 (by simpa using d) (by decide) (Nat.le_refl _)
end Z

/-! weights of few parts, drawn; letters, machines, drawn -/
namespace Z
open PySem
section
variable {B : Tb} {Φ : CallF} {ρ : Env}
def S_weight2 (qlnext qlnought qllow : Nat) : S := (.seq (.ite (.cmp .eq (.call qlnext (.cons (.var 0) (.cons (.con (.int 4)) .nil))) (.con (.int 0))) (.seq (.ret (.call qlnought (.cons (.var 1) .nil))) .skip) .skip) (.seq (.set 3 (.con (.int 0))) (.seq (S_far qlnext) (.seq (.ite (.cmp .eq (.idx (.var 1) (.con (.int 0))) (.con (.str [102, 114, 97, 99, 116, 105, 111, 110, 115]))) (.seq (.ret (.call qllow (.cons (.bin .sub (.bin .add (.var 3) (.call qlnext (.cons (.var 0) (.cons (.con (.int 9)) .nil)))) (.con (.int 4))) (.cons (.bin .add (.con (.int 1)) (.call qlnext (.cons (.var 0) (.cons (.con (.int 4)) .nil)))) .nil)))) .skip) .skip) (.seq (.ite (.cmp .eq (.idx (.var 1) (.con (.int 0))) (.con (.str [114, 101, 115, 105, 100, 117, 101, 115]))) (.seq (.ret (.call qlnext (.cons (.var 0) (.cons (.idx (.var 1) (.con (.int 1))) .nil)))) .skip) .skip) (.seq (.ite (.cmp .eq (.idx (.var 1) (.con (.int 0))) (.con (.str [99, 111, 115, 116, 115]))) (.seq (.ret (.bin .sub (.bin .add (.var 3) (.call qlnext (.cons (.var 0) (.cons (.con (.int 9)) .nil)))) (.con (.int 2)))) .skip) .skip) (.seq (.ret (.cmp .eq (.call qlnext (.cons (.var 0) (.cons (.con (.int 2)) .nil))) (.con (.int 0)))) .skip)))))))
theorem g_weight2 {qn q0 ql : Nat} (hn : HNext Φ qn) (hf : HFb Φ ql) (p : Int) (hp : 1 < p) (hp2 : p < 10 ^ 20) (w : Nat) (hw : w < 4) (h0 : Φ q0 [.v (soD p w) false] = .ok (.v ((srOf p hp w).d (srOf p hp w).z)) [.u]) (l : List Int) (hl : dOk l) (g : Bool) :
    ∃ (x : (srOf p hp w).α) (l' : List Int), dOk l' ∧ Zq (sqOf p hp w) 1 90 x ∧ finF 3 (exe B Φ (S_weight2 qn q0 ql) [.o (.L (l.map .int)) true, .v (soD p w) false, .v (.bl g) false, .u]) = (FOut.ok (.v ((srOf p hp w).d x)) [.o (.L (l'.map .int)) true, .u, .u]) := by
  obtain ⟨v1, l1, d1, a1, b1, e1⟩ := hn l 4 hl (by decide) (pow_le_big (m := 21) (by decide) (by decide))
  by_cases z : v1 = 0
  · refine ⟨(srOf p hp w).z, l1, d1, ?_, by simp [S_weight2, e1, z, h0]⟩
    exact Zq.zero 1 90
  · obtain ⟨fa, l2, d2, n2, e2⟩ := g_far (B := B) hn l1 d1 (soD p w) g
    match w, hw with
    | 0, _ =>
      obtain ⟨v3, l3, d3, a3, b3, e3⟩ := hn l2 9 d2 (by decide) (pow_le_big (m := 21) (by decide) (by decide))
      obtain ⟨v4, l4, d4, a4, b4, e4⟩ := hn l3 4 d3 (by omega) (pow_le_big (m := 21) (by omega) (by decide))
      obtain ⟨x, hx, ex⟩ := zq_F (a := fa + v3 - 4) (b := 1 + v4) (e := 90) (by omega) (by omega) (by omega)
      have lo := hf (fa + v3 - 4) (1 + v4) (by omega) (Nat.lt_trans (show (fa + v3 - 4).natAbs < 10 ^ 40 by omega) bg40) (Nat.lt_trans (show (1 + v4).natAbs < 10 ^ 40 by omega) bg40)
      rw [ex] at lo
      refine ⟨x, l4, d4, hx, ?_⟩
      show finF 3 (exe B Φ (S_weight2 qn q0 ql) [.o (.L (l.map .int)) true, .v (soD p 0) false, .v (.bl g) false, .u]) = .ok (.v (rd x)) [.o (.L (l4.map .int)) true, .u, .u]
      simp [soD] at e2
      simp [S_weight2, soD, e1, z, e2, e3, e4, lo]
    | 1, _ =>
      obtain ⟨v3, l3, d3, a3, b3, e3⟩ := hn l2 p d2 (by omega) (pow_le_big (m := 21) (by omega) (by decide))
      refine ⟨⟨v3, a3, b3⟩, l3, d3, (p12 1), ?_⟩
      show finF 3 (exe B Φ (S_weight2 qn q0 ql) [.o (.L (l.map .int)) true, .v (soD p 1) false, .v (.bl g) false, .u]) = .ok (.v (.int v3)) [.o (.L (l3.map .int)) true, .u, .u]
      simp [soD] at e2
      simp [S_weight2, soD, e1, z, e2, e3]
    | 2, _ =>
      obtain ⟨v3, l3, d3, a3, b3, e3⟩ := hn l2 9 d2 (by decide) (pow_le_big (m := 21) (by decide) (by decide))
      refine ⟨some (fa + v3 - 2), l3, d3, (p12 1), ?_⟩
      show finF 3 (exe B Φ (S_weight2 qn q0 ql) [.o (.L (l.map .int)) true, .v (soD p 2) false, .v (.bl g) false, .u]) = .ok (.v (.int (fa + v3 - 2))) [.o (.L (l3.map .int)) true, .u, .u]
      simp [soD] at e2
      simp [S_weight2, soD, e1, z, e2, e3]
    | 3, _ =>
      obtain ⟨v3, l3, d3, a3, b3, e3⟩ := hn l2 2 d2 (by decide) (pow_le_big (m := 21) (by decide) (by decide))
      refine ⟨decide (v3 = 0), l3, d3, (p12 1), ?_⟩
      show finF 3 (exe B Φ (S_weight2 qn q0 ql) [.o (.L (l.map .int)) true, .v (soD p 3) false, .v (.bl g) false, .u]) = .ok (.v (.bl (decide (v3 = 0)))) [.o (.L (l3.map .int)) true, .u, .u]
      simp [soD] at e2
      simp [S_weight2, soD, e1, z, e2, e3]
/-! ### letters -/
/-- the letters of a machine -/
structure Lt (L : List Nat) : Prop where
  nd : L.Nodup
  l1 : 1 ≤ L.length
  l3 : L.length ≤ 3
  cp : ∀ c, c ∈ L → 97 ≤ c ∧ c ≤ 122
def L_lletters (qn : Nat) : S := (.seq (.set 4 (.call qn (.cons (.var 0) (.cons (.b1 .len (.var 1)) .nil)))) (.seq (.set 2 (.bin .add (.var 2) (.idx (.var 1) (.var 4)))) (.seq (.set 1 (.bin .add (.sl (.var 1) .nil (.var 4)) (.sl (.var 1) (.bin .add (.var 4) (.con (.int 1))) .nil))) .skip)))
def S_lletters (qn : Nat) : S := (.seq (.set 1 (.con (.str [97, 98, 99, 100, 101, 102, 103, 104, 105, 106, 107, 108, 109, 110, 111, 112, 113, 114, 115, 116, 117, 118, 119, 120, 121, 122]))) (.seq (.set 2 (.con (.str []))) (.seq (.loop .rng (.cons (.bin .add (.con (.int 1)) (.call qn (.cons (.var 0) (.cons (.con (.int 3)) .nil)))) .nil) (.one 3) (L_lletters qn)) (.seq (.ret (.var 2)) .skip))))
theorem g_letters {qn : Nat} (hn : HNext Φ qn) (l : List Int) (h : dOk l) : ∃ L l', Lt L ∧ dOk l' ∧ finF 1 (exe B Φ (S_lletters qn) [.o (.L (l.map .int)) true, .u, .u, .u, .u]) = .ok (.v (.str L)) [.o (.L (l'.map .int)) true] := by
  obtain ⟨v, l1, d1, v0, v1, e1⟩ := hn l 3 h (by omega) (pow_le_big (m := 21) (by decide) (by decide))
  obtain ⟨k, rfl⟩ : ∃ k : Nat, v = k := ⟨v.toNat, by omega⟩
  have i1 : itD .rng [.int (1 + (k : Int))] = some ((List.range (1 + k)).map fun i => .int (i : Nat)) := it_rng (by omega) (by rw [limQ]; omega)
  obtain ⟨ρ', h1, l2, pool, lets, x3, x4, d2, _, ln, nd, cp, e⟩ := lpL_rng (i := 3) (f := exe B Φ (L_lletters qn)) (1 + k) (fun k ρ => ∃ (l : List Int) (pool lets : List Nat) (x3 x4 : Sl), dOk l ∧ pool.length + k = 26 ∧ lets.length = k ∧ (lets ++ pool).Nodup ∧ (∀ c, c ∈ lets ++ pool → 97 ≤ c ∧ c ≤ 122) ∧ ρ = [.o (.L (l.map .int)) true, .v (.str pool) false, .v (.str lets) false, x3, x4])
    [.o (.L (l1.map .int)) true, .v (.str [97, 98, 99, 100, 101, 102, 103, 104, 105, 106, 107, 108, 109, 110, 111, 112, 113, 114, 115, 116, 117, 118, 119, 120, 121, 122]) false, .v (.str []) false, .u, .u] ⟨l1, _, [], .u, .u, d1, rfl, rfl, by decide, by decide, rfl⟩ (fun j hj ρ ⟨l, pool, lets, x3, x4, d, p1, p2, nd, cp, e⟩ => by
      subst e
      obtain ⟨v, l', d', v0, v1, e1⟩ := hn l pool.length d (by omega) (pow_le_big (m := 2) (by omega) (by decide))
      obtain ⟨i, rfl⟩ : ∃ i : Nat, v = i := ⟨v.toNat, by omega⟩
      have hi : i < pool.length := by omega
      have g := idx_str (s := pool) (j := (i : Int)) rfl hi (by rw [limQ]; omega)
      have c1 : pool.length ≤ lim := by rw [limQ]; omega
      have c2 : lets.length + 1 ≤ lim := by rw [limQ]; omega
      have s1 : cutD pool none (some (i : Int)) = pool.take i := cut_take _ _
      have s2 : cutD pool (some ((i : Int) + 1)) none = pool.drop (i + 1) := cut_drop pool (i + 1)
      have c3 : min i pool.length + (pool.length - (i + 1)) ≤ lim := by rw [limQ]; omega
      have sp : pool = pool.take i ++ pool[i] :: pool.drop (i + 1) := by
        rw [List.getElem_cons_drop, List.take_append_drop]
      have pm : (lets ++ [pool[i]] ++ (pool.take i ++ pool.drop (i + 1))).Perm (lets ++ pool) := by
        rw [List.append_assoc]
        refine List.Perm.append_left _ ?_
        have : (pool.take i ++ pool[i] :: pool.drop (i + 1)).Perm (pool[i] :: (pool.take i ++ pool.drop (i + 1))) := List.perm_middle
        rw [← sp] at this
        exact this.symm
      refine ⟨[.o (.L (l'.map .int)) true, .v (.str (pool.take i ++ pool.drop (i + 1))) false, .v (.str (lets ++ [pool[i]])) false, .v (.int j) false, .v (.int i) false], .inl ?_, l', _, _, _, _, d', ?_, ?_, pm.nodup_iff.mpr nd, fun c hc => cp c (pm.mem_iff.mp hc), rfl⟩
      · simp [L_lletters, c1, e1, g, c2, s1, s2, c3]
      · simp; omega
      · simp [p2])
  subst e
  refine ⟨lets, l2, ⟨(List.nodup_append.mp nd).1, by omega, by omega, fun c hc => cp c (List.mem_append_left _ hc)⟩, d2, ?_⟩
  simp [S_lletters, e1, i1, h1]
def HLetters (Φ : CallF) (q : Nat) : Prop := ∀ (l : List Int), dOk l → ∃ L l', Lt L ∧ dOk l' ∧ Φ q [.o (.L (l.map .int)) true] = .ok (.v (.str L)) [.o (.L (l'.map .int)) true]
theorem idx_min {c : Nat} : ∀ (L : List Nat) (i : Nat), i < L.idxOf c → L[i]? ≠ some c
  | [], i, h => by simp at h
  | x :: L, i, h => by
    rw [List.idxOf_cons] at h
    by_cases e : (x == c) = true
    · rw [e] at h
      simp at h
    · rw [Bool.not_eq_true] at e
      rw [e] at h
      cases i with
      | zero =>
        intro z
        simp at z
        subst z
        simp at e
      | succ i =>
        have h : i + 1 < L.idxOf c + 1 := h
        rw [List.getElem?_cons_succ]
        exact idx_min L i (by omega)
theorem idx_one {L : List Nat} {c : Nat} (h : c ∈ L) : bmD .index L [.str [c]] = some (.v (.int (L.idxOf c : Nat))) := by
  have hi : L.idxOf c < L.length := List.idxOf_lt_length_iff.mpr h
  have at_ : ∀ i, StrLaws.At (tS' L) (tS' [c]) (tS' L).length i ↔ L[i]? = some c := fun i => by
    have := StrLaws.subAt_one (tS' L) c i
    simpa [StrLaws.At] using this
  have hc : L[L.idxOf c]? = some c := by rw [List.getElem?_eq_getElem hi, List.getElem_idxOf]
  rcases StrLaws.occ_head (tS' L) (tS' [c]) 1 (Nat.le_refl _) with ⟨h0, hn⟩ | ⟨i, r, h0, ha, hn⟩
  · exact absurd ((at_ _).mpr hc) (hn _)
  · have e : i = L.idxOf c := by
      rcases Nat.lt_trichotomy i (L.idxOf c) with q | q | q
      · have h1 := (at_ i).mp ha
        exact absurd h1 (idx_min L i q)
      · exact q
      · exact absurd ((at_ _).mpr hc) (hn _ q)
    show (match Builtin.Str.occurrences (tS' L) (tS' [c]) 0 (tS' L).length 1 with
      | i :: _ => some (R.v (.int (i : Nat)))
      | [] => none) = _
    rw [h0]
    dsimp only
    rw [e]
/-! ### machines -/
structure Mc (s : Sr) where
  ls : List Nat
  st : List s.α
  tb : List (List (List s.α))
  en : List s.α
variable {s : Sr} {Q : Sq s}
abbrev tabsD (s : Sr) (ts : List (List (List s.α))) : D := .tup (ts.map (tabD s))
def Mc.d (M : Mc s) : D := .tup [.str M.ls, rowD s M.st, tabsD s M.tb, rowD s M.en]
/-- so many rooms, weights so great -/
structure MOk (Q : Sq s) (n e m : Nat) (M : Mc s) : Prop where
  lt : Lt M.ls
  s1 : M.st.length = m
  e1 : M.en.length = m
  t1 : M.tb.length = M.ls.length
  t2 : ∀ t, t ∈ M.tb → t.length = m ∧ ∀ r, r ∈ t → r.length = m
  s2 : Zs Q n e M.st
  e2 : Zs Q n e M.en
  t3 : ∀ t, t ∈ M.tb → Zt Q n e t
def S_lmachine (qlline qltable : Nat) : S := (.seq (.set 5 (.call qlline (.cons (.var 0) (.cons (.var 1) (.cons (.var 3) (.cons (.var 4) .nil)))))) (.seq (.set 6 (.b1 .tup (.comp .seq (.cons (.var 2) .nil) (.one 7) [7] (.call qltable (.cons (.var 0) (.cons (.var 1) (.cons (.var 3) (.cons (.var 3) (.cons (.var 4) .nil)))))) .nil))) (.seq (.ret (.tup (.cons (.var 2) (.cons (.var 5) (.cons (.var 6) (.cons (.call qlline (.cons (.var 0) (.cons (.var 1) (.cons (.var 3) (.cons (.var 4) .nil))))) .nil)))))) .skip)))
abbrev Z90 (Q : Sq s) : Bool → s.α → Prop := fun _ => Zq Q 1 90
theorem g_machine {so : D} {ql qt : Nat} (hl : HLineP Φ s (Z90 Q) so ql) (ht : HTableP Φ s (Z90 Q) so qt) (L : List Nat) (hL : Lt L) (m : Nat) (hm : m ≤ 1000) (l : List Int) (hd : dOk l) (g : Bool) :
    ∃ (M : Mc s) (l' : List Int), dOk l' ∧ M.ls = L ∧ MOk Q 1 90 m M ∧ finF 5 (exe B Φ (S_lmachine ql qt) [.o (.L (l.map .int)) true, .v so false, .v (.str L) false, .v (.int (m : Nat)) false, .v (.bl g) false, .u, .u, .u]) = .ok (.v M.d) [.o (.L (l'.map .int)) true, .u, .u, .u, .u] := by
  obtain ⟨st, l1, d1, a1, a2, e1⟩ := hl m l g hm hd
  have q : L.length ≤ lim := by rw [limQ]; have := hL.l3; omega
  obtain ⟨acc, ρ', h1, l2, ts, d2, b1, b2, b3, b4⟩ := cmpL_inv (own := [7]) (t := .one 7) (h := ev B Φ (.call qt (.cons (.var 0) (.cons (.var 1) (.cons (.var 3) (.cons (.var 3) (.cons (.var 4) .nil)))))))
    (fun k acc ρ => ∃ (l : List Int) (ts : List (List (List s.α))), dOk l ∧ ts.length = k ∧ (∀ t, t ∈ ts → t.length = m ∧ ∀ r, r ∈ t → r.length = m ∧ ∀ x, x ∈ r → Z90 Q g x) ∧ acc = ts.map (tabD s) ∧ ρ = [.o (.L (l.map .int)) true, .v so false, .v (.str L) false, .v (.int (m : Nat)) false, .v (.bl g) false, .v (rowD s st) false, .u, .u])
    (L.map fun k => .str [k]) [] 0 [.o (.L (l1.map .int)) true, .v so false, .v (.str L) false, .v (.int (m : Nat)) false, .v (.bl g) false, .v (rowD s st) false, .u, .u] ⟨l1, [], d1, rfl, (fun x hx => by cases hx), rfl, rfl⟩ (fun k x acc ρ _ ⟨l, ts, b1, b2, b3, b4, b5⟩ => by
      subst b4 b5
      obtain ⟨t, l', c1, c2, c3, c4⟩ := ht m m l g hm hm b1
      refine ⟨[.o (.L (l.map .int)) true, .v so false, .v (.str L) false, .v (.int (m : Nat)) false, .v (.bl g) false, .v (rowD s st) false, .u, .v x false], .v (tabD s t), [.o (.L (l'.map .int)) true, .v so false, .v (.str L) false, .v (.int (m : Nat)) false, .v (.bl g) false, .v (rowD s st) false, .u, .v x false], tabD s t, [.o (.L (l'.map .int)) true, .v so false, .v (.str L) false, .v (.int (m : Nat)) false, .v (.bl g) false, .v (rowD s st) false, .u, .v x false], rfl, by simp [c4], rfl, l', ts ++ [t], c1, by simp [b2], fun z hz => ?_, by simp, rfl⟩
      rcases List.mem_append.mp hz with h | h
      · exact b3 z h
      · rw [List.mem_singleton.mp h]; exact ⟨c2, c3⟩)
  rw [List.length_map, Nat.zero_add] at b1
  subst b3 b4
  obtain ⟨en, l3, d3, c1, c2, e3⟩ := hl m l2 g hm d2
  refine ⟨⟨L, st, ts, en⟩, l3, d3, rfl, ⟨hL, a1, c1, b1, fun t h => ⟨(b2 t h).1, fun r hr => ((b2 t h).2 r hr).1⟩, a2, c2, fun t h r hr => ((b2 t h).2 r hr).2⟩, ?_⟩
  simp [S_lmachine, e1, q, h1, e3, Mc.d, Ow.d]
def HMachine (Φ : CallF) (Q : Sq s) (so : D) (q : Nat) : Prop := ∀ (L : List Nat) (m : Nat) (l : List Int) (g : Bool), Lt L → m ≤ 1000 → dOk l → ∃ (M : Mc s) (l' : List Int), dOk l' ∧ M.ls = L ∧ MOk Q 1 90 m M ∧ Φ q [.o (.L (l.map .int)) true, .v so false, .v (.str L) false, .v (.int (m : Nat)) false, .v (.bl g) false] = .ok (.v M.d) [.o (.L (l'.map .int)) true, .u, .u, .u, .u]
end
end Z

/-! what a word weighs: the program's ways of reckoning it -/
namespace Z
open PySem
section
variable {B : Tb} {Φ : CallF} {ρ : Env} {s : Sr} {Q : Sq s}
/-- a loop over things that a function makes -/
theorem lpL_of {α : Type} {i : Nat} {f : Env → Out Fl} (g : α → D) (xs : List α) (Pv : Nat → Env → Prop) (ρ : Env) (h : Pv 0 ρ) (hs : ∀ k x, xs[k]? = some x → ∀ ρ, Pv k ρ → ∃ ρ2, (f (pt ρ i (.v (g x) false)) = .ok .nx ρ2 ∨ f (pt ρ i (.v (g x) false)) = .ok .cont ρ2) ∧ Pv (k + 1) ρ2) :
    ∃ ρ', lpL (.one i) f (xs.map g) ρ = .ok .nx ρ' ∧ Pv xs.length ρ' := by
  obtain ⟨ρ', h1, h2⟩ := lpL_inv (t := .one i) (f := f) Pv (xs.map g) 0 ρ h (fun k d ρ hd q => by
    rw [List.getElem?_map] at hd
    obtain ⟨x, gx, rfl⟩ := Option.map_eq_some_iff.mp hd
    rw [Nat.zero_add] at q
    obtain ⟨ρ2, h1, h2⟩ := hs k x gx ρ q
    exact ⟨_, ρ2, rfl, h1, by rw [Nat.zero_add]; exact h2⟩)
  refine ⟨ρ', h1, ?_⟩
  rw [Nat.zero_add, List.length_map] at h2
  exact h2
theorem idx_lastL {xs : List D} {d : D} (h : xs.getLast? = some d) : idxR (.lst xs) (.int (-1)) = some (.v d) := by
  show (L2.atI xs (-1)).map R.v = _
  have hp : 0 < xs.length := by
    cases xs with
    | nil => cases h
    | cons x xs => simp
  have e : L2.ixN xs.length (-1) = some (xs.length - 1) := by
    unfold L2.ixN
    rw [if_neg (by omega)]
    first
    | (rw [if_pos (by omega)]; congr 1; omega)
    | (simp; omega)
  unfold L2.atI
  rw [e]
  show (xs[xs.length - 1]?).map R.v = _
  rw [List.getLast?_eq_getElem?] at h
  rw [h]
  rfl
def Wd (L w : List Nat) : Prop := ∀ c, c ∈ w → c ∈ L
theorem Wd.nil {L : List Nat} : Wd L [] := fun c h => by cases h
theorem Wd.take {L w : List Nat} (h : Wd L w) (k : Nat) : Wd L (w.take k) := fun c hc => h c (List.mem_of_mem_take hc)
theorem Wd.drop {L w : List Nat} (h : Wd L w) (k : Nat) : Wd L (w.drop k) := fun c hc => h c (List.mem_of_mem_drop hc)
theorem Wd.app {L w v : List Nat} (h : Wd L w) (k : Wd L v) : Wd L (w ++ v) := fun c hc => (List.mem_append.mp hc).elim (h c) (k c)
theorem Wd.rev {L w : List Nat} (h : Wd L w) : Wd L w.reverse := fun c hc => h c (List.mem_reverse.mp hc)
/-! ### rows by tables, rooms of any number -/
def HRow0 (Φ : CallF) (s : Sr) (qr : Nat) (o : D) : Prop := ∀ r : List s.α, Φ qr [.v o false, .v (rowD s r) false, .v (.tup []) false] = .ok (.v (.tup [])) [.u, .u, .u]
def HRowM (Φ : CallF) (Q : Sq s) (qr : Nat) (o : D) : Prop := ∀ r t m, t.length = m → (∀ q, q ∈ t → q.length = m) → m ≤ 1000 → (∀ j, j < m → Ok2 Q r (cl s t j)) → Φ qr [.v o false, .v (rowD s r) false, .v (tabD s t) false] = .ok (.v (rowD s (rb s r t m))) [.u, .u, .u]
theorem hrowM {qr : Nat} {o : D} (h : HRow Φ Q qr o) (h0 : HRow0 Φ s qr o) : HRowM Φ Q qr o := fun r t m ht hq hm hk => by
  cases t with
  | nil =>
    have : m = 0 := by simpa using ht.symm
    subst this
    exact h0 r
  | cons x t => exact h r (x :: t) m (by simp) hq hm (by omega) hk
/-! ### ahead, behind -/
namespace Mc
def tab (M : Mc s) (c : Nat) : List (List s.α) := M.tb[M.ls.idxOf c]?.getD []
def ahF (M : Mc s) (r : List s.α) (w : List Nat) : List s.α := w.foldl (fun r c => rb s r (M.tab c) M.st.length) r
def ah (M : Mc s) (w : List Nat) : List s.α := M.ahF M.st w
def bh (M : Mc s) (w : List Nat) : List s.α := w.foldr (fun c col => (M.tab c).map fun r => dt s r col) M.en
def wt (M : Mc s) (w : List Nat) : s.α := dt s (M.ah w) M.en
end Mc
/-- it stays small enough -/
def fit (N E : Nat) : Prop := 8 * N + 2 * E + 100 ≤ 13400
theorem fit.le {N E N' E' : Nat} (h : fit N E) (a : N' ≤ N) (b : E' ≤ E) : fit N' E' := by unfold fit at *; omega
variable {n e m : Nat} {M : Mc s}
theorem MOk.tmem (h : MOk Q n e m M) {c : Nat} (hc : c ∈ M.ls) : M.tab c ∈ M.tb := by
  have hi : M.ls.idxOf c < M.tb.length := by rw [h.t1]; exact List.idxOf_lt_length_iff.mpr hc
  unfold Mc.tab
  rw [List.getElem?_eq_getElem hi]
  exact List.getElem_mem _
theorem MOk.tlen (h : MOk Q n e m M) {c : Nat} (hc : c ∈ M.ls) : (M.tab c).length = m := (h.t2 _ (h.tmem hc)).1
theorem MOk.twid (h : MOk Q n e m M) {c : Nat} (hc : c ∈ M.ls) : ∀ r, r ∈ M.tab c → r.length = m := (h.t2 _ (h.tmem hc)).2
theorem MOk.tz (h : MOk Q n e m M) {c : Nat} (hc : c ∈ M.ls) : Zt Q n e (M.tab c) := h.t3 _ (h.tmem hc)
theorem ahF_len (h : MOk Q n e m M) : ∀ (w : List Nat) (r : List s.α), r.length = m → (M.ahF r w).length = m
  | [], r, hr => hr
  | c :: w, r, hr => ahF_len h w _ (by rw [rb_len]; exact h.s1)
theorem ah_len (h : MOk Q n e m M) (w : List Nat) : (M.ah w).length = m := ahF_len h w _ h.s1
theorem bh_len (h : MOk Q n e m M) : ∀ (w : List Nat), Wd M.ls w → (M.bh w).length = m
  | [], _ => h.e1
  | c :: w, hw => by
    show ((M.tab c).map fun r => dt s r (M.bh w)).length = m
    rw [List.length_map]
    exact h.tlen (hw c List.mem_cons_self)
theorem ahF_app (w v : List Nat) (r : List s.α) : M.ahF r (w ++ v) = M.ahF (M.ahF r w) v := List.foldl_append
theorem ah_app (w v : List Nat) : M.ah (w ++ v) = M.ahF (M.ah w) v := ahF_app w v _
theorem bh_cons (c : Nat) (w : List Nat) : M.bh (c :: w) = (M.tab c).map fun r => dt s r (M.bh w) := rfl
theorem ahF_z (h : MOk Q n e m M) (hm : m ≤ 32) : ∀ (w : List Nat) (r : List s.α) (k f : Nat), Wd M.ls w → r.length = m → Zs Q k f r → Zs Q (k + n * w.length) (f + (e + 5) * w.length) (M.ahF r w)
  | [], r, k, f, _, _, z => z
  | c :: w, r, k, f, hw, hr, z => by
    have z1 : Zs Q (k + n) (f + e + 5) (rb s r (M.tab c) M.st.length) := z.rb (h.tz (hw c List.mem_cons_self)) (by rw [hr]; exact hm) _
    have := ahF_z h hm w _ (k + n) (f + e + 5) (fun x hx => hw x (List.mem_cons_of_mem _ hx)) (by rw [rb_len]; exact h.s1) z1
    refine this.up ?_ ?_
    · rw [List.length_cons, Nat.mul_succ]; omega
    · rw [List.length_cons, Nat.mul_succ]; omega
theorem ah_z (h : MOk Q n e m M) (hm : m ≤ 32) (w : List Nat) (hw : Wd M.ls w) : Zs Q (n * (w.length + 1)) ((e + 5) * (w.length + 1)) (M.ah w) :=
  (ahF_z h hm w _ n e hw h.s1 h.s2).up (by rw [Nat.mul_succ]; omega) (by rw [Nat.mul_succ]; omega)
theorem bh_z (h : MOk Q n e m M) (hm : m ≤ 32) : ∀ (w : List Nat), Wd M.ls w → Zs Q (n * (w.length + 1)) ((e + 5) * (w.length + 1)) (M.bh w)
  | [], _ => h.e2.up (by rw [List.length_nil]; omega) (by rw [List.length_nil]; omega)
  | c :: w, hw => by
    have z := bh_z h hm w fun x hx => hw x (List.mem_cons_of_mem _ hx)
    have z1 := (h.tz (hw c List.mem_cons_self)).bc (c := 5) z (fun r hr => by rw [h.twid (hw c List.mem_cons_self) r hr]; exact hm)
    rw [bh_cons]
    refine z1.up ?_ ?_
    · rw [List.length_cons, Nat.mul_succ n (w.length + 1)]; omega
    · rw [List.length_cons, Nat.mul_succ (e + 5) (w.length + 1)]; omega
theorem wt_z (h : MOk Q n e m M) (hm : m ≤ 32) (w : List Nat) (hw : Wd M.ls w) : Zq Q (n * (w.length + 2)) ((e + 5) * (w.length + 2)) (M.wt w) :=
  ((ah_z h hm w hw).dt (c := 5) h.e2 (by rw [ah_len h]; exact hm)).up (by rw [Nat.mul_succ n (w.length + 1)]; omega) (by rw [Nat.mul_succ (e + 5) (w.length + 1)]; omega)
/-- cut anywhere -/
theorem cut_any (h : MOk Q n e m M) : ∀ (v : List Nat) (r : List s.α), Wd M.ls v → r.length = m → dt s (M.ahF r v) M.en = dt s r (M.bh v)
  | [], r, _, _ => rfl
  | c :: v, r, hv, hr => by
    have hc := hv c List.mem_cons_self
    have := cut_any h v (rb s r (M.tab c) M.st.length) (fun x hx => hv x (List.mem_cons_of_mem _ hx)) (by rw [rb_len]; exact h.s1)
    show dt s (M.ahF (rb s r (M.tab c) M.st.length) v) M.en = _
    rw [this, bh_cons, h.s1]
    exact road (m := m) hr (h.tlen hc) (h.twid hc) (bh_len h v fun x hx => hv x (List.mem_cons_of_mem _ hx))
theorem cut_wt (h : MOk Q n e m M) (w v : List Nat) (hv : Wd M.ls v) : dt s (M.ah w) (M.bh v) = M.wt (w ++ v) := by
  unfold Mc.wt
  rw [ah_app]
  exact (cut_any h v _ hv (ah_len h w)).symm
/-! ### the calls -/
def S_rooms : S := (.seq (.ret (.b1 .len (.idx (.var 0) (.con (.int 1))))) .skip)
@[simp] theorem idx_t0 {z : D} {xs : List D} : idxR (.tup (z :: xs)) (.int 0) = some (.v z) := idx_getT (k := 0) rfl rfl
@[simp] theorem idx_t1 {y z : D} {xs : List D} : idxR (.tup (y :: z :: xs)) (.int 1) = some (.v z) := idx_getT (k := 1) rfl rfl
@[simp] theorem idx_t2 {x y z : D} {xs : List D} : idxR (.tup (x :: y :: z :: xs)) (.int 2) = some (.v z) := idx_getT (k := 2) rfl rfl
@[simp] theorem idx_t3 {u x y z : D} {xs : List D} : idxR (.tup (u :: x :: y :: z :: xs)) (.int 3) = some (.v z) := idx_getT (k := 3) rfl rfl
theorem g_rooms (h : MOk Q n e m M) (hm : m ≤ 1000) : finF 1 (exe B Φ S_rooms [.v M.d false]) = .ok (.v (.int m)) [.u] := by
  have q : m ≤ lim := by rw [limQ]; omega
  simp [S_rooms, Mc.d, h.s1, q]
def L_check_word (cnoword : Nat) : S := (.seq (.ite (.cmp .nin (.var 2) (.var 0)) (.seq (.rai cnoword) .skip) .skip) .skip)
def S_check_word (cnoword : Nat) : S := (.seq (.ite (.nt (.isi (.var 1) .str)) (.seq (.rai cnoword) .skip) .skip) (.seq (.loop .seq (.cons (.var 1) .nil) (.one 2) (L_check_word cnoword)) .skip))
theorem g_check {c : Nat} (L w : List Nat) (h : Wd L w) : finF 2 (exe B Φ (S_check_word c) [.v (.str L) false, .v (.str w) false, .u]) = .ok (.v .non) [.u, .u] := by
  obtain ⟨ρ', h1, x2, e⟩ := lpL_of (i := 2) (f := exe B Φ (L_check_word c)) (fun k => D.str [k]) w (fun _ ρ => ∃ x2, ρ = [.v (.str L) false, .v (.str w) false, x2]) [.v (.str L) false, .v (.str w) false, .u] ⟨_, rfl⟩ (fun k x hx ρ ⟨x2, e⟩ => by
    subst e
    have q : L.contains x = true := List.contains_iff_mem.mpr (h x (List.mem_of_getElem? hx))
    exact ⟨[.v (.str L) false, .v (.str w) false, .v (.str [x]) false], .inl (by simp [L_check_word, -List.contains_eq_mem, q]), _, rfl⟩)
  subst e
  simp [S_check_word, h1]
def HCheck (Φ : CallF) (q : Nat) : Prop := ∀ L w, Wd L w → Φ q [.v (.str L) false, .v (.str w) false] = .ok (.v .non) [.u, .u]
def S_table_of : S := (.seq (.ret (.idx (.idx (.var 0) (.con (.int 2))) (.bm .index (.idx (.var 0) (.con (.int 0))) (.cons (.var 1) .nil)))) .skip)
theorem MOk.tabix (h : MOk Q n e m M) {c : Nat} (hc : c ∈ M.ls) : idxR (tabsD s M.tb) (.int (M.ls.idxOf c : Nat)) = some (.v (tabD s (M.tab c))) := by
  have hi : M.ls.idxOf c < M.tb.length := by rw [h.t1]; exact List.idxOf_lt_length_iff.mpr hc
  refine idx_getT rfl ?_
  unfold Mc.tab
  rw [List.getElem?_map, List.getElem?_eq_getElem hi]
  rfl
theorem g_tabof (h : MOk Q n e m M) {c : Nat} (hc : c ∈ M.ls) : finF 2 (exe B Φ S_table_of [.v M.d false, .v (.str [c]) false]) = .ok (.v (tabD s (M.tab c))) [.u, .u] := by
  have i1 := idx_one hc
  have i2 := h.tabix hc
  simp [S_table_of, Mc.d, i1, i2]
def HTab (Φ : CallF) (Q : Sq s) (q : Nat) : Prop := ∀ {n e m M c}, MOk Q n e m M → c ∈ M.ls → Φ q [.v M.d false, .v (.str [c]) false] = .ok (.v (tabD s (M.tab c))) [.u, .u]
def L_ahead (qrowby qtableof : Nat) : S := (.seq (.set 3 (.call qrowby (.cons (.var 0) (.cons (.var 3) (.cons (.call qtableof (.cons (.var 1) (.cons (.var 4) .nil))) .nil))))) .skip)
def S_ahead (qcheckword qrowby qtableof : Nat) : S := (.seq (.ex (.call qcheckword (.cons (.idx (.var 1) (.con (.int 0))) (.cons (.var 2) .nil)))) (.seq (.set 3 (.idx (.var 1) (.con (.int 1)))) (.seq (.loop .seq (.cons (.var 2) .nil) (.one 4) (L_ahead qrowby qtableof)) (.seq (.ret (.var 3)) .skip))))
/-- so long a word may be weighed -/
def fitW (n e k : Nat) : Prop := fit (n * (k + 2)) ((e + 5) * (k + 2))
theorem fitW.le {n e k j : Nat} (h : fitW n e k) (l : j ≤ k) : fitW n e j := fit.le h (Nat.mul_le_mul_left _ (by omega)) (Nat.mul_le_mul_left _ (by omega))
theorem rowM_ok (h : MOk Q n e m M) (hm : m ≤ 32) {k j : Nat} (hf : fitW n e j) (hj : k ≤ j) {r : List s.α} (hr : r.length = m) (hz : Zs Q (n * (k + 1)) ((e + 5) * (k + 1)) r) {c : Nat} (hc : c ∈ M.ls) : ∀ i, i < m → Ok2 Q r (cl s (M.tab c) i) := fun i _ => by
  have f := hf.le hj
  unfold fitW fit at f
  rw [Nat.mul_succ n (k + 1), Nat.mul_succ (e + 5) (k + 1)] at f
  exact hz.ok2 ((h.tz hc).cl i) (by omega) (by omega)
theorem g_ahead {qc qr qt : Nat} {o : D} (Hc : HCheck Φ qc) (Hr : HRowM Φ Q qr o) (Ht : HTab Φ Q qt) (h : MOk Q n e m M) (hm : m ≤ 32) (w : List Nat) (hw : Wd M.ls w) (hf : fitW n e w.length) :
    finF 3 (exe B Φ (S_ahead qc qr qt) [.v o false, .v M.d false, .v (.str w) false, .u, .u]) = .ok (.v (rowD s (M.ah w))) [.u, .u, .u] := by
  have c1 := Hc M.ls w hw
  obtain ⟨ρ', h1, x4, e⟩ := lpL_of (i := 4) (f := exe B Φ (L_ahead qr qt)) (fun k => D.str [k]) w (fun k ρ => ∃ x4, ρ = [.v o false, .v M.d false, .v (.str w) false, .v (rowD s (M.ah (w.take k))) false, x4]) [.v o false, .v M.d false, .v (.str w) false, .v (rowD s M.st) false, .u] ⟨_, rfl⟩ (fun k c hk ρ ⟨x4, e⟩ => by
    subst e
    have hc := hw c (List.mem_of_getElem? hk)
    obtain ⟨lk, ek⟩ := List.getElem?_eq_some_iff.mp hk
    have lt : (w.take k).length = k := by rw [List.length_take]; omega
    have z := ah_z h hm (w.take k) (hw.take k)
    rw [lt] at z
    have a1 := Ht h hc
    have a2 := Hr (M.ah (w.take k)) (M.tab c) m (h.tlen hc) (h.twid hc) (by omega) (rowM_ok h hm (hf.le (Nat.le_of_lt lk)) (Nat.le_refl _) (ah_len h _) z hc)
    have e2 : M.ah (w.take (k + 1)) = rb s (M.ah (w.take k)) (M.tab c) m := by
      rw [List.take_succ, hk, ah_app]
      show rb s (M.ah (w.take k)) (M.tab c) M.st.length = _
      rw [h.s1]
    refine ⟨_, .inl ?_, .v (.str [c]) false, rfl⟩
    rw [e2]
    simp [L_ahead, a1, a2])
  subst e
  rw [List.take_length] at h1
  generalize M.ah w = a at *
  simp [S_ahead, Mc.d] at c1 h1 ⊢
  simp [c1, h1]
def HAhead (Φ : CallF) (Q : Sq s) (q : Nat) (o : D) : Prop := ∀ {n e m M} (w : List Nat), MOk Q n e m M → m ≤ 32 → Wd M.ls w → fitW n e w.length → Φ q [.v o false, .v M.d false, .v (.str w) false] = .ok (.v (rowD s (M.ah w))) [.u, .u, .u]
def L_columns_of (qbycolumn qtableof : Nat) : S := (.seq (.ex (.mut .append 3 (.cons (.call qbycolumn (.cons (.var 0) (.cons (.call qtableof (.cons (.var 1) (.cons (.var 4) .nil))) (.cons (.idx (.var 3) (.neg (.con (.int 1)))) .nil)))) .nil))) .skip)
def S_columns_of (qbycolumn qtableof : Nat) : S := (.seq (.set 3 (.lst (.cons (.idx (.var 1) (.con (.int 3))) .nil))) (.seq (.loop .rev (.cons (.var 2) .nil) (.one 4) (L_columns_of qbycolumn qtableof)) (.seq (.ret (.var 3)) .skip)))
/-- the columns behind the ends of a word, the empty end first -/
def Mc.cols (M : Mc s) (w : List Nat) : Nat → List (List s.α)
  | 0 => [M.en]
  | k + 1 => M.cols w k ++ [M.bh (w.drop (w.length - (k + 1)))]
theorem cols_last (w : List Nat) : ∀ k, (M.cols w k).getLast? = some (M.bh (w.drop (w.length - k)))
  | 0 => by
    show some M.en = _
    rw [Nat.sub_zero, List.drop_length]; rfl
  | k + 1 => by
    unfold Mc.cols
    rw [List.getLast?_append]; rfl
theorem cols_len (w : List Nat) : ∀ k, (M.cols w k).length = k + 1
  | 0 => rfl
  | k + 1 => by
    unfold Mc.cols
    rw [List.length_append, cols_len w k]; rfl
theorem cols_get (w : List Nat) : ∀ k j, j ≤ k → (M.cols w k)[j]? = some (M.bh (w.drop (w.length - j)))
  | 0, j, h => by
    have : j = 0 := by omega
    subst this
    show some M.en = _
    rw [Nat.sub_zero, List.drop_length]; rfl
  | k + 1, j, h => by
    unfold Mc.cols
    rcases Nat.lt_or_ge k j with l | l
    · have : j = k + 1 := by omega
      subst this
      rw [List.getElem?_append_right (by rw [cols_len]; omega), cols_len, Nat.sub_self]; rfl
    · rw [List.getElem?_append_left (by rw [cols_len]; omega)]
      exact cols_get w k j l
theorem g_cols {qb qt : Nat} {o : D} (Hb : HByc Φ Q qb o) (Ht : HTab Φ Q qt) (h : MOk Q n e m M) (hm : m ≤ 32) (w : List Nat) (hl : w.length ≤ 1000) (hw : Wd M.ls w) (hf : fitW n e w.length) :
    finF 3 (exe B Φ (S_columns_of qb qt) [.v o false, .v M.d false, .v (.str w) false, .u, .u]) = .ok (.o (.L ((M.cols w w.length).map (rowD s)))) [.u, .u, .u] := by
  have q1 : w.length ≤ lim := by rw [limQ]; omega
  obtain ⟨ρ', h1, x4, e⟩ := lpL_of (i := 4) (f := exe B Φ (L_columns_of qb qt)) (fun k => D.str [k]) w.reverse (fun k ρ => ∃ x4, ρ = [.v o false, .v M.d false, .v (.str w) false, .o (.L ((M.cols w k).map (rowD s))) false, x4]) [.v o false, .v M.d false, .v (.str w) false, .o (.L [rowD s M.en]) false, .u] ⟨_, rfl⟩ (fun k c hk ρ ⟨x4, e⟩ => by
    subst e
    obtain ⟨lk, ek⟩ := List.getElem?_eq_some_iff.mp hk
    rw [List.length_reverse] at lk
    have hc : c ∈ M.ls := hw c (List.mem_reverse.mp (List.mem_of_getElem? hk))
    have g1 : w[w.length - (k + 1)]? = some c := by
      rw [List.getElem?_reverse lk] at hk
      rw [show w.length - (k + 1) = w.length - 1 - k by omega]
      exact hk
    obtain ⟨l1, e1⟩ := List.getElem?_eq_some_iff.mp g1
    have dr : w.drop (w.length - (k + 1)) = c :: w.drop (w.length - k) := by
      rw [List.drop_eq_getElem_cons l1, e1, show w.length - (k + 1) + 1 = w.length - k by omega]
    have ld : (w.drop (w.length - k)).length = k := by rw [List.length_drop]; omega
    have z := bh_z h hm (w.drop (w.length - k)) (hw.drop _)
    rw [ld] at z
    have a1 := Ht h hc
    have f := hf.le (Nat.le_of_lt lk)
    unfold fitW fit at f
    rw [Nat.mul_succ n (k + 1), Nat.mul_succ (e + 5) (k + 1)] at f
    have a2 := Hb (M.tab c) (M.bh (w.drop (w.length - k))) (by rw [h.tlen hc]; omega) (fun r hr => (h.tz hc r hr).ok2 z (by omega) (by rw [h.twid hc r hr]; omega))
    rw [← bh_cons, ← dr] at a2
    have i1 : idxR (.lst ((M.cols w k).map (rowD s))) (.int (-1)) = some (.v (rowD s (M.bh (w.drop (w.length - k))))) := idx_lastL (by rw [List.getLast?_map, cols_last]; rfl)
    have q2 : (M.cols w k).length < lim := by rw [cols_len, limQ]; omega
    refine ⟨[.v o false, .v M.d false, .v (.str w) false, .o (.L ((M.cols w (k + 1)).map (rowD s))) false, .v (.str [c]) false], .inl ?_, .v (.str [c]) false, rfl⟩
    have e2 : (M.cols w (k + 1)).map (rowD s) = (M.cols w k).map (rowD s) ++ [rowD s (M.bh (w.drop (w.length - (k + 1))))] := by
      show (M.cols w k ++ [_]).map _ = _
      rw [List.map_append]; rfl
    rw [e2]
    simp [L_columns_of, a1, i1, a2, q2])
  subst e
  rw [List.length_reverse] at h1
  have il : itD .rev [.str w] = some (w.reverse.map fun k => D.str [k]) := by
    show (if w.length ≤ lim then _ else _) = _
    rw [if_pos q1]
  have i3 : idxR M.d (.int 3) = some (.v (rowD s M.en)) := idx_t3
  simp only [S_columns_of, exe_seq, exe_set, ev_lst, ev_cons, ev_idx, ev_var, ev_con, gt0, gtS, rdV_v, ap2_ok, ap2b_ok, dr_v, apE_some, i3, ofO_some, one_ok, ev_nil, bnd_ok, fzA_cons, fz_v, fzC_some, fzA_nil, fzC2_some, fzK_some, setK_o, pt0, ptS, sq_nx, exe_loop, drA_cons', drA_nil', drC_some, loopD_some, il, wIx_v, wIx_nil, owA_nil, loopK_some, lkA_nil]
  rw [h1]
  simp
def HCols (Φ : CallF) (Q : Sq s) (q : Nat) (o : D) : Prop := ∀ {n e m M} (w : List Nat), MOk Q n e m M → m ≤ 32 → w.length ≤ 1000 → Wd M.ls w → fitW n e w.length → Φ q [.v o false, .v M.d false, .v (.str w) false] = .ok (.o (.L ((M.cols w w.length).map (rowD s)))) [.u, .u, .u]
def S_behind (qcheckword qcolumnsof : Nat) : S := (.seq (.ex (.call qcheckword (.cons (.idx (.var 1) (.con (.int 0))) (.cons (.var 2) .nil)))) (.seq (.ret (.idx (.call qcolumnsof (.cons (.var 0) (.cons (.var 1) (.cons (.var 2) .nil)))) (.neg (.con (.int 1))))) .skip))
theorem g_behind {qc qk : Nat} {o : D} (Hc : HCheck Φ qc) (Hk : HCols Φ Q qk o) (h : MOk Q n e m M) (hm : m ≤ 32) (w : List Nat) (hl : w.length ≤ 1000) (hw : Wd M.ls w) (hf : fitW n e w.length) :
    finF 3 (exe B Φ (S_behind qc qk) [.v o false, .v M.d false, .v (.str w) false]) = .ok (.v (rowD s (M.bh w))) [.u, .u, .u] := by
  have c1 := Hc M.ls w hw
  have c2 := Hk w h hm hl hw hf
  have i0 : idxR M.d (.int 0) = some (.v (.str M.ls)) := idx_t0
  have i1 : idxR (.lst ((M.cols w w.length).map (rowD s))) (.int (-1)) = some (.v (rowD s (M.bh w))) := idx_lastL (by rw [List.getLast?_map, cols_last, Nat.sub_self]; rfl)
  simp [S_behind, i0, c1, c2, i1, Ow.d]
def HBehind (Φ : CallF) (Q : Sq s) (q : Nat) (o : D) : Prop := ∀ {n e m M} (w : List Nat), MOk Q n e m M → m ≤ 32 → w.length ≤ 1000 → Wd M.ls w → fitW n e w.length → Φ q [.v o false, .v M.d false, .v (.str w) false] = .ok (.v (rowD s (M.bh w))) [.u, .u, .u]
def S_wweight (qdot qahead : Nat) : S := (.seq (.ret (.call qdot (.cons (.var 0) (.cons (.call qahead (.cons (.var 0) (.cons (.var 1) (.cons (.var 2) .nil)))) (.cons (.idx (.var 1) (.con (.int 3))) .nil))))) .skip)
theorem wt_ok (h : MOk Q n e m M) (hm : m ≤ 32) (w : List Nat) (hw : Wd M.ls w) (hf : fitW n e w.length) : Ok2 Q (M.ah w) M.en := by
  unfold fitW fit at hf
  rw [Nat.mul_succ n (w.length + 1), Nat.mul_succ (e + 5) (w.length + 1)] at hf
  exact (ah_z h hm w hw).ok2 h.e2 (by omega) (by rw [ah_len h]; omega)
theorem g_wweight {qd qa : Nat} {o : D} (Hd : HDot Φ Q qd o) (Ha : HAhead Φ Q qa o) (h : MOk Q n e m M) (hm : m ≤ 32) (w : List Nat) (hw : Wd M.ls w) (hf : fitW n e w.length) :
    finF 3 (exe B Φ (S_wweight qd qa) [.v o false, .v M.d false, .v (.str w) false]) = .ok (.v (s.d (M.wt w))) [.u, .u, .u] := by
  have c1 := Ha w h hm hw hf
  have c2 := Hd (M.ah w) M.en (wt_ok h hm w hw hf)
  have i3 : idxR M.d (.int 3) = some (.v (rowD s M.en)) := idx_t3
  have e2 : dt s (M.ah w) M.en = M.wt w := rfl
  rw [e2] at c2
  simp [S_wweight, i3, c1, c2]
def HWeigh (Φ : CallF) (Q : Sq s) (q : Nat) (o : D) : Prop := ∀ {n e m M} (w : List Nat), MOk Q n e m M → m ≤ 32 → Wd M.ls w → fitW n e w.length → Φ q [.v o false, .v M.d false, .v (.str w) false] = .ok (.v (s.d (M.wt w))) [.u, .u, .u]
end
end Z

/-! what a word weighs: the laws' own ways of reckoning it -/
namespace Z
open PySem
section
variable {B : Tb} {Φ : CallF} {ρ : Env} {s : Sr} {Q : Sq s} {n e m : Nat} {M : Mc s}
def S_lcolumn (qldot : Nat) : S := (.seq (.ret (.comp .seq (.cons (.var 1) .nil) (.one 3) [3] (.call qldot (.cons (.var 0) (.cons (.var 3) (.cons (.var 2) .nil)))) .nil)) .skip)
theorem g_lcolumn {o : D} {qd : Nat} (hd : HDot Φ Q qd o) (t : List (List s.α)) (c : List s.α) (hl : t.length ≤ 1000) (hk : ∀ r, r ∈ t → Ok2 Q r c) :
    finF 3 (exe B Φ (S_lcolumn qd) [.v o false, .v (tabD s t) false, .v (rowD s c) false, .u]) = .ok (.o (.L ((t.map fun r => dt s r c).map s.d))) [.u, .u, .u] := by
  have q : t.length ≤ lim := by rw [limQ]; omega
  have cm := cm_rows (own := [3]) (t := .one 3) (h := ev B Φ (.call qd (.cons (.var 0) (.cons (.var 3) (.cons (.var 2) .nil))))) (fun r => s.d (dt s r c)) t [.v o false, .v (tabD s t) false, .v (rowD s c) false, .u] (fun r hr => by
    have a := hd r c (hk r hr)
    exact ⟨[.v o false, .v (tabD s t) false, .v (rowD s c) false, .v (.tup (r.map s.d)) false], rfl, by simp [a], rfl⟩)
  simp [S_lcolumn, q, cm]
def HLcol (Φ : CallF) (Q : Sq s) (q : Nat) (o : D) : Prop := ∀ t c, t.length ≤ 1000 → (∀ r, r ∈ t → Ok2 Q r c) → Φ q [.v o false, .v (tabD s t) false, .v (rowD s c) false] = .ok (.o (.L ((t.map fun r => dt s r c).map s.d))) [.u, .u, .u]
def L_lrow (qldot : Nat) : S := (.seq (.ex (.mut .append 3 (.cons (.call qldot (.cons (.var 0) (.cons (.var 1) (.cons (.comp .seq (.cons (.var 2) .nil) (.one 5) [5] (.idx (.var 5) (.var 4)) .nil) .nil)))) .nil))) .skip)
theorem l_lrow {o : D} {qd : Nat} (hd : HDotL Φ Q qd o) (r : List s.α) (t : List (List s.α)) (w : Nat) (hw : ∀ q, q ∈ t → q.length = w) (hw2 : w ≤ 1000) (hl : t.length ≤ 1000) (hk : ∀ j, j < w → Ok2 Q r (cl s t j)) :
    ∃ x4, lpL (.one 4) (exe B Φ (L_lrow qd)) ((List.range w).map fun i => .int (i : Nat)) [.v o false, .v (rowD s r) false, .v (tabD s t) false, .o (.L []) false, .u, .u] = .ok .nx [.v o false, .v (rowD s r) false, .v (tabD s t) false, .o (.L ((rb s r t w).map s.d)) false, x4, .u] := by
  have q : t.length ≤ lim := by rw [limQ]; omega
  obtain ⟨ρ', h1, x5, h2⟩ := lpL_rng (i := 4) (f := exe B Φ (L_lrow qd)) w (fun k ρ => ∃ x5, ρ = [.v o false, .v (rowD s r) false, .v (tabD s t) false, .o (.L ((List.range k).map fun j => s.d (dt s r (cl s t j)))) false, x5, .u])
    [.v o false, .v (rowD s r) false, .v (tabD s t) false, .o (.L []) false, .u, .u] ⟨_, rfl⟩ (fun k hk' ρ ⟨x5, e⟩ => by
      subst e
      have a := hd r (cl s t k) (hk k hk')
      have cm := cm_rows (own := [5]) (t := .one 5) (h := ev B Φ (.idx (.var 5) (.var 4))) (fun q => s.d (q[k]?.getD s.z)) t [.v o false, .v (rowD s r) false, .v (tabD s t) false, .o (.L ((List.range k).map fun j => s.d (dt s r (cl s t j)))) false, .v (.int (k : Nat)) false, .u] (fun q hq => by
        have b := at_row (s := s) (r := q) (j := k) (by rw [hw q hq]; exact hk')
        exact ⟨[.v o false, .v (rowD s r) false, .v (tabD s t) false, .o (.L ((List.range k).map fun j => s.d (dt s r (cl s t j)))) false, .v (.int (k : Nat)) false, .v (.tup (q.map s.d)) false], rfl, by simp [b], rfl⟩)
      have e1 : (cl s t k).map s.d = t.map fun q => s.d (q[k]?.getD s.z) := by unfold cl; rw [List.map_map]; rfl
      rw [e1] at a
      refine ⟨_, .inl ?_, .v (.int (k : Nat)) false, rfl⟩
      have e2 : ((List.range (k + 1)).map fun j => s.d (dt s r (cl s t j))) = ((List.range k).map fun j => s.d (dt s r (cl s t j))) ++ [s.d (dt s r (cl s t k))] := by
        rw [List.range_succ, List.map_append]; rfl
      rw [e2]
      have q2 : k < lim := by rw [limQ]; omega
      obtain ⟨A, eA⟩ : ∃ A, A = (List.range k).map fun j => s.d (dt s r (cl s t j)) := ⟨_, rfl⟩
      have lA : A.length = k := by rw [eA]; simp
      rw [← eA] at cm ⊢
      simp [L_lrow, q, cm, a, lA, q2])
  subst h2
  have e3 : ((List.range w).map fun j => s.d (dt s r (cl s t j))) = (rb s r t w).map s.d := by unfold rb; rw [List.map_map]; rfl
  rw [e3] at h1
  exact ⟨_, h1⟩
def S_lrow (qldot : Nat) : S := (.seq (.set 3 (.lst .nil)) (.seq (.loop .rng (.cons (.b1 .len (.var 1)) .nil) (.one 4) (L_lrow qldot)) (.seq (.ret (.var 3)) .skip)))
theorem g_lrow {o : D} {qd : Nat} (hd : HDotL Φ Q qd o) (r : List s.α) (t : List (List s.α)) (w : Nat) (hr : r.length = w) (hw : ∀ q, q ∈ t → q.length = w) (hw2 : w ≤ 1000) (hl : t.length ≤ 1000) (hk : ∀ j, j < w → Ok2 Q r (cl s t j)) :
    finF 3 (exe B Φ (S_lrow qd) [.v o false, .v (rowD s r) false, .v (tabD s t) false, .u, .u, .u]) = .ok (.o (.L ((rb s r t w).map s.d))) [.u, .u, .u] := by
  have il : itD .rng [.int (w : Nat)] = some ((List.range w).map fun i => .int (i : Nat)) := it_rng rfl (by rw [limQ]; omega)
  obtain ⟨x4, h⟩ := l_lrow (B := B) hd r t w hw hw2 hl hk
  simp [S_lrow, hr, il, h]
def HLrw (Φ : CallF) (Q : Sq s) (q : Nat) (o : D) : Prop := ∀ r t w, r.length = w → (∀ q, q ∈ t → q.length = w) → w ≤ 1000 → t.length ≤ 1000 → (∀ j, j < w → Ok2 Q r (cl s t j)) → Φ q [.v o false, .v (rowD s r) false, .v (tabD s t) false] = .ok (.o (.L ((rb s r t w).map s.d))) [.u, .u, .u]
/-- _law_step: the same, a tuple -/
def S_lstep (qldot : Nat) : S := (.seq (.set 3 (.lst .nil)) (.seq (.loop .rng (.cons (.b1 .len (.var 1)) .nil) (.one 4) (L_lrow qldot)) (.seq (.ret (.b1 .tup (.var 3))) .skip)))
theorem g_lstep {o : D} {qd : Nat} (hd : HDotL Φ Q qd o) (r : List s.α) (t : List (List s.α)) (w : Nat) (hr : r.length = w) (hw : ∀ q, q ∈ t → q.length = w) (hw2 : w ≤ 1000) (hl : t.length ≤ 1000) (hk : ∀ j, j < w → Ok2 Q r (cl s t j)) :
    finF 3 (exe B Φ (S_lstep qd) [.v o false, .v (rowD s r) false, .v (tabD s t) false, .u, .u, .u]) = .ok (.v (rowD s (rb s r t w))) [.u, .u, .u] := by
  have il : itD .rng [.int (w : Nat)] = some ((List.range w).map fun i => .int (i : Nat)) := it_rng rfl (by rw [limQ]; omega)
  obtain ⟨x4, h⟩ := l_lrow (B := B) hd r t w hw hw2 hl hk
  simp [S_lstep, hr, il, h, Ow.d]
def HLst (Φ : CallF) (Q : Sq s) (q : Nat) (o : D) : Prop := ∀ r t w, r.length = w → (∀ q, q ∈ t → q.length = w) → w ≤ 1000 → t.length ≤ 1000 → (∀ j, j < w → Ok2 Q r (cl s t j)) → Φ q [.v o false, .v (rowD s r) false, .v (tabD s t) false] = .ok (.v (rowD s (rb s r t w))) [.u, .u, .u]
def L_lweigh (qlstep : Nat) : S := (.seq (.set 3 (.call qlstep (.cons (.var 0) (.cons (.var 3) (.cons (.idx (.idx (.var 1) (.con (.int 2))) (.bm .index (.idx (.var 1) (.con (.int 0))) (.cons (.var 4) .nil))) .nil))))) .skip)
def S_lweigh (qlstep qldot : Nat) : S := (.seq (.set 3 (.idx (.var 1) (.con (.int 1)))) (.seq (.loop .seq (.cons (.var 2) .nil) (.one 4) (L_lweigh qlstep)) (.seq (.ret (.call qldot (.cons (.var 0) (.cons (.var 3) (.cons (.idx (.var 1) (.con (.int 3))) .nil))))) .skip)))
theorem idx_Md {z : D} {k : Nat} (h : [D.str M.ls, rowD s M.st, tabsD s M.tb, rowD s M.en][k]? = some z) : idxR M.d (.int (k : Nat)) = some (.v z) := idx_getT rfl h
theorem g_lweigh {qs qd : Nat} {o : D} (Hs : HLst Φ Q qs o) (Hd : HDot Φ Q qd o) (h : MOk Q n e m M) (hm : m ≤ 32) (w : List Nat) (hw : Wd M.ls w) (hf : fitW n e w.length) :
    finF 3 (exe B Φ (S_lweigh qs qd) [.v o false, .v M.d false, .v (.str w) false, .u, .u]) = .ok (.v (s.d (M.wt w))) [.u, .u, .u] := by
  have i0 : idxR M.d (.int 0) = some (.v (.str M.ls)) := idx_t0
  have i1 : idxR M.d (.int 1) = some (.v (rowD s M.st)) := idx_t1
  have i2 : idxR M.d (.int 2) = some (.v (tabsD s M.tb)) := idx_t2
  have i3 : idxR M.d (.int 3) = some (.v (rowD s M.en)) := idx_t3
  obtain ⟨ρ', h1, x4, e⟩ := lpL_of (i := 4) (f := exe B Φ (L_lweigh qs)) (fun k => D.str [k]) w (fun k ρ => ∃ x4, ρ = [.v o false, .v M.d false, .v (.str w) false, .v (rowD s (M.ah (w.take k))) false, x4]) [.v o false, .v M.d false, .v (.str w) false, .v (rowD s M.st) false, .u] ⟨_, rfl⟩ (fun k c hk ρ ⟨x4, e⟩ => by
    subst e
    have hc := hw c (List.mem_of_getElem? hk)
    obtain ⟨lk, ek⟩ := List.getElem?_eq_some_iff.mp hk
    have lt : (w.take k).length = k := by rw [List.length_take]; omega
    have z := ah_z h hm (w.take k) (hw.take k)
    rw [lt] at z
    have a1 := idx_one hc
    have a3 := h.tabix hc
    have a2 := Hs (M.ah (w.take k)) (M.tab c) m (ah_len h _) (h.twid hc) (by omega) (by rw [h.tlen hc]; omega) (rowM_ok h hm (hf.le (Nat.le_of_lt lk)) (Nat.le_refl _) (ah_len h _) z hc)
    have e2 : M.ah (w.take (k + 1)) = rb s (M.ah (w.take k)) (M.tab c) m := by
      rw [List.take_succ, hk, ah_app]
      show rb s (M.ah (w.take k)) (M.tab c) M.st.length = _
      rw [h.s1]
    refine ⟨_, .inl ?_, .v (.str [c]) false, rfl⟩
    rw [e2]
    simp [L_lweigh, i0, i2, a1, a3, a2])
  subst e
  rw [List.take_length] at h1
  have c2 := Hd (M.ah w) M.en (wt_ok h hm w hw hf)
  have e2 : dt s (M.ah w) M.en = M.wt w := rfl
  rw [e2] at c2
  simp [S_lweigh, i1, h1, i3, c2]
end
end Z

/-! is_machine, the laws' words, turned machines -/
namespace Z
open PySem
section
variable {B : Tb} {Φ : CallF} {ρ : Env} {s : Sr} {Q : Sq s} {n e m : Nat} {M : Mc s}
/-- a comprehension that leaves its slots as they were -/
theorem cm_of {α : Type} {own : List Nat} {t : Tg} {h : Env → Out (List R)} (g f : α → D) (T : List α) (ρ : Env) (hs : ∀ x, x ∈ T → ∃ ρ1, asg t (g x) (wip ρ own) = some ρ1 ∧ h ρ1 = .ok [.v (f x)] ρ1 ∧ bck ρ ρ1 own = ρ) :
    cmpL own t none h (T.map g) [] ρ = .ok (T.map f) ρ := by
  have gen : ∀ (T : List α) (acc : List D), (∀ x, x ∈ T → ∃ ρ1, asg t (g x) (wip ρ own) = some ρ1 ∧ h ρ1 = .ok [.v (f x)] ρ1 ∧ bck ρ ρ1 own = ρ) → cmpL own t none h (T.map g) acc ρ = .ok (acc ++ T.map f) ρ := by
    intro T
    induction T with
    | nil =>
      intro acc _
      show cmpL own t none h [] acc ρ = _
      unfold cmpL
      simp
    | cons r T ih =>
      intro acc hs
      obtain ⟨ρ1, h1, h2, h3⟩ := hs r List.mem_cons_self
      show cmpL own t none h (g r :: T.map g) acc ρ = _
      unfold cmpL
      rw [h1]
      dsimp only
      rw [h2]
      show cmpL own t none h (T.map g) (acc ++ [f r]) (bck ρ ρ1 own) = _
      rw [h3, ih (acc ++ [f r]) fun y hy => hs y (List.mem_cons_of_mem _ hy)]
      simp
  have := gen T [] hs
  rw [List.nil_append] at this
  exact this
theorem allBl_t {α : Type} : ∀ T : List α, allBl (T.map fun _ => D.bl true) = some (T.map fun _ => true)
  | [] => rfl
  | _ :: T => by
    show (allBl (T.map fun _ => D.bl true)).map _ = _
    rw [allBl_t T]; rfl
theorem b1_allT {α : Type} (T : List α) : b1D .all (.lst (T.map fun _ => D.bl true)) = some (.v (.bl true)) := by
  rw [b1_all, allBl_t]
  simp
/-! ### is_machine -/
def HIsw (B : Tb) (Φ : CallF) (s : Sr) (c : Nat) (vs : List D) (m : Nat) : Prop := ∃ q, B.mth c m = some q ∧ ∀ x, Φ q [.v (.obj c vs) false, .v (s.d x) false] = .ok (.v (.bl true)) [.u, .u]
def S_is_letters (gmostletters gsmall : Nat) : S := (.seq (.ite (.or (.nt (.isi (.var 0) .str)) (.nt (.cmp2 .lt .le (.con (.int 0)) (.b1 .len (.var 0)) (.glo gmostletters)))) (.seq (.ret (.con (.bl false))) .skip) .skip) (.seq (.ret (.and (.cmp .eq (.lset (.var 0)) (.b1 .len (.var 0))) (.b1 .all (.comp .seq (.cons (.var 0) .nil) (.one 1) [1] (.cmp .isin (.var 1) (.glo gsmall)) .nil)))) .skip))
theorem dist_nd : ∀ (xs seen : List Nat), xs.Nodup → (∀ x, x ∈ xs → x ∉ seen) → dist seen xs = xs.length
  | [], _, _, _ => rfl
  | c :: r, seen, nd, hs => by
    obtain ⟨h1, h2⟩ := List.nodup_cons.mp nd
    have q : ¬ seen.contains c = true := fun z => hs c List.mem_cons_self (List.contains_iff_mem.mp z)
    unfold dist
    rw [if_neg q, dist_nd r (c :: seen) h2 fun x hx hm => ?_]
    · rfl
    · rcases List.mem_cons.mp hm with z | z
      · subst z; exact h1 hx
      · exact hs x (List.mem_cons_of_mem _ hx) z
def smallL : List Nat := [97, 98, 99, 100, 101, 102, 103, 104, 105, 106, 107, 108, 109, 110, 111, 112, 113, 114, 115, 116, 117, 118, 119, 120, 121, 122]
theorem small_has : ∀ c, c < 123 → 97 ≤ c → smallL.contains c = true := by decide
theorem g_isletters {g3 gs : Nat} (h3 : B.glo g3 = .int 3) (hs : B.glo gs = .str smallL) (L : List Nat) (h : Lt L) : finF 1 (exe B Φ (S_is_letters g3 gs) [.v (.str L) false, .u]) = .ok (.v (.bl true)) [.u] := by
  have l1 := h.l1
  have l3 := h.l3
  have q1 : L.length ≤ lim := by rw [limQ]; omega
  have q2 : L.length < 4000 := by omega
  have q3 : (0 : Int) < L.length := by omega
  have q4 : (L.length : Int) ≤ 3 := by omega
  have dn := dist_nd L [] h.nd fun _ _ => List.not_mem_nil
  have cm := cm_of (own := [1]) (t := .one 1) (h := ev B Φ (.cmp .isin (.var 1) (.glo gs))) (fun k : Nat => D.str [k]) (fun _ => D.bl true) L [.v (.str L) false, .u] (fun c hc => by
    have hc := h.cp c hc
    have k := small_has c (by omega) hc.1
    exact ⟨[.v (.str L) false, .v (.str [c]) false], rfl, by simp [hs, -List.contains_eq_mem, k], rfl⟩)
  have n0 : ¬ L = [] := fun z => by rw [z] at l1; simp at l1
  simp [S_is_letters, q1, q2, q3, q4, n0, h3, dn, cm, -b1_all, b1_allT]
def S_is_line (misweight : Nat) : S := (.seq (.ite (.or (.nt (.isi (.var 1) .tup)) (.cmp .ne (.b1 .len (.var 1)) (.var 2))) (.seq (.ret (.con (.bl false))) .skip) .skip) (.seq (.ret (.b1 .all (.comp .seq (.cons (.var 1) .nil) (.one 3) [3] (.mcal misweight (.var 0) (.cons (.var 3) .nil)) .nil))) .skip))
theorem g_isline {c mw : Nat} {vs : List D} (hw : HIsw B Φ s c vs mw) (xs : List s.α) (hl : xs.length ≤ 1000) : finF 3 (exe B Φ (S_is_line mw) [.v (.obj c vs) false, .v (rowD s xs) false, .v (.int xs.length) false, .u]) = .ok (.v (.bl true)) [.u, .u, .u] := by
  obtain ⟨q, h1, h2⟩ := hw
  have q1 : xs.length ≤ lim := by rw [limQ]; omega
  have cm := cm_of (own := [3]) (t := .one 3) (h := ev B Φ (.mcal mw (.var 0) (.cons (.var 3) .nil))) s.d (fun _ => D.bl true) xs [.v (.obj c vs) false, .v (rowD s xs) false, .v (.int xs.length) false, .u] (fun x _ => by
    have a := h2 x
    exact ⟨[.v (.obj c vs) false, .v (rowD s xs) false, .v (.int xs.length) false, .v (s.d x) false], rfl, by simp [h1, a], rfl⟩)
  simp [S_is_line, q1, cm, -b1_all, b1_allT]
def HIsL (Φ : CallF) (s : Sr) (q : Nat) (o : D) : Prop := ∀ xs : List s.α, xs.length ≤ 1000 → Φ q [.v o false, .v (rowD s xs) false, .v (.int xs.length) false] = .ok (.v (.bl true)) [.u, .u, .u]
def S_is_square (qisline : Nat) : S := (.seq (.ite (.or (.nt (.isi (.var 1) .tup)) (.cmp .ne (.b1 .len (.var 1)) (.var 2))) (.seq (.ret (.con (.bl false))) .skip) .skip) (.seq (.ret (.b1 .all (.comp .seq (.cons (.var 1) .nil) (.one 3) [3] (.call qisline (.cons (.var 0) (.cons (.var 3) (.cons (.var 2) .nil)))) .nil))) .skip))
theorem g_issquare {ql : Nat} {o : D} (hw : HIsL Φ s ql o) (t : List (List s.α)) (m : Nat) (ht : t.length = m) (hr : ∀ r, r ∈ t → r.length = m) (hl : m ≤ 1000) : finF 3 (exe B Φ (S_is_square ql) [.v o false, .v (tabD s t) false, .v (.int (m : Nat)) false, .u]) = .ok (.v (.bl true)) [.u, .u, .u] := by
  have q1 : m ≤ lim := by rw [limQ]; omega
  have cm := cm_of (own := [3]) (t := .one 3) (h := ev B Φ (.call ql (.cons (.var 0) (.cons (.var 3) (.cons (.var 2) .nil))))) (fun r : List s.α => D.tup (r.map s.d)) (fun _ => D.bl true) t [.v o false, .v (tabD s t) false, .v (.int (m : Nat)) false, .u] (fun r hx => by
    have a := hw r (by rw [hr r hx]; exact hl)
    rw [hr r hx] at a
    exact ⟨[.v o false, .v (tabD s t) false, .v (.int (m : Nat)) false, .v (.tup (r.map s.d)) false], rfl, by simp [a], rfl⟩)
  simp [S_is_square, ht, q1, cm, -b1_all, b1_allT]
def HIsS (Φ : CallF) (s : Sr) (q : Nat) (o : D) : Prop := ∀ (t : List (List s.α)) (m : Nat), t.length = m → (∀ r, r ∈ t → r.length = m) → m ≤ 1000 → Φ q [.v o false, .v (tabD s t) false, .v (.int (m : Nat)) false] = .ok (.v (.bl true)) [.u, .u, .u]
def S_is_machine (qisletters gmostrooms qisline qissquare : Nat) : S := (.seq (.ite (.or (.nt (.isi (.var 1) .tup)) (.cmp .ne (.b1 .len (.var 1)) (.con (.int 4)))) (.seq (.ret (.con (.bl false))) .skip) .skip) (.seq (.unp [2, 3, 4, 5] (.var 1)) (.seq (.ite (.or (.nt (.call qisletters (.cons (.var 2) .nil))) (.or (.nt (.isi (.var 3) .tup)) (.cmp .gt (.b1 .len (.var 3)) (.glo gmostrooms)))) (.seq (.ret (.con (.bl false))) .skip) .skip) (.seq (.set 6 (.b1 .len (.var 3))) (.seq (.ite (.or (.nt (.call qisline (.cons (.var 0) (.cons (.var 3) (.cons (.var 6) .nil))))) (.nt (.call qisline (.cons (.var 0) (.cons (.var 5) (.cons (.var 6) .nil)))))) (.seq (.ret (.con (.bl false))) .skip) .skip) (.seq (.ite (.or (.nt (.isi (.var 4) .tup)) (.cmp .ne (.b1 .len (.var 4)) (.b1 .len (.var 2)))) (.seq (.ret (.con (.bl false))) .skip) .skip) (.seq (.ret (.b1 .all (.comp .seq (.cons (.var 4) .nil) (.one 7) [7] (.call qissquare (.cons (.var 0) (.cons (.var 7) (.cons (.var 6) .nil)))) .nil))) .skip)))))))
def HIsLe (Φ : CallF) (q : Nat) : Prop := ∀ L, Lt L → Φ q [.v (.str L) false] = .ok (.v (.bl true)) [.u]
theorem g_ismachine {qe gr ql qs : Nat} {o : D} (he : HIsLe Φ qe) (hg : B.glo gr = .int 20) (hl : HIsL Φ s ql o) (hs : HIsS Φ s qs o) (h : MOk Q n e m M) (hm : m ≤ 20) : finF 2 (exe B Φ (S_is_machine qe gr ql qs) [.v o false, .v M.d false, .u, .u, .u, .u, .u, .u]) = .ok (.v (.bl true)) [.u, .u] := by
  have a1 := he M.ls h.lt
  have a2 := hl M.st (by rw [h.s1]; omega)
  have a3 := hl M.en (by rw [h.e1]; omega)
  rw [h.s1] at a2
  rw [h.e1] at a3
  have l3 := h.lt.l3
  have q1 : m ≤ lim := by rw [limQ]; omega
  have q2 : M.ls.length ≤ lim := by rw [limQ]; omega
  have q3 : ¬ (20 : Int) < m := by omega
  have q4 : ((M.ls.length : Nat) : Int) = M.tb.length := by rw [h.t1]
  have cm := cm_of (own := [7]) (t := .one 7) (h := ev B Φ (.call qs (.cons (.var 0) (.cons (.var 7) (.cons (.var 6) .nil))))) (tabD s) (fun _ => D.bl true) M.tb [.v o false, .v M.d false, .v (.str M.ls) false, .v (rowD s M.st) false, .v (tabsD s M.tb) false, .v (rowD s M.en) false, .v (.int (m : Nat)) false, .u] (fun t ht => by
    have a := hs t m (h.t2 t ht).1 (h.t2 t ht).2 (by omega)
    exact ⟨[.v o false, .v M.d false, .v (.str M.ls) false, .v (rowD s M.st) false, .v (tabsD s M.tb) false, .v (rowD s M.en) false, .v (.int (m : Nat)) false, .v (tabD s t) false], rfl, by simp [a], rfl⟩)
  have q5 : M.tb.length ≤ lim := by rw [h.t1]; exact q2
  unfold Mc.d at cm ⊢
  simp [S_is_machine, a1, h.s1, h.t1, q1, q2, hg, q3, a2, a3, cm, -b1_all, b1_allT]
def HIsM (Φ : CallF) (Q : Sq s) (q : Nat) (o : D) : Prop := ∀ {n e m M}, MOk Q n e m M → m ≤ 20 → Φ q [.v o false, .v M.d false] = .ok (.v (.bl true)) [.u, .u]
/-! ### words -/
def ext (L w : List Nat) : List (List Nat) := L.map fun c => w ++ [c]
def L0_lwords : S := (.seq (.ex (.mut .append 5 (.cons (.bin .add (.var 6) (.var 7)) .nil))) .skip)
def L1_lwords : S := (.seq (.loop .seq (.cons (.var 0) .nil) (.one 7) L0_lwords) .skip)
def L2_lwords : S := (.seq (.set 5 (.lst .nil)) (.seq (.loop .seq (.cons (.var 3) .nil) (.one 6) L1_lwords) (.seq (.set 3 (.var 5)) (.seq (.set 2 (.bin .add (.var 2) (.var 3))) .skip))))
def S_lwords : S := (.seq (.set 2 (.lst (.cons (.con (.str [])) .nil))) (.seq (.set 3 (.lst (.cons (.con (.str [])) .nil))) (.seq (.loop .rng (.cons (.var 1) .nil) (.one 4) L2_lwords) (.seq (.ret (.var 2)) .skip))))
theorem l_words0 (s1 s2 s3 s4 x7 : Sl) (L w : List Nat) (acc : List D) (hw : w.length ≤ 1000) (hL : L.length ≤ 1000) (ha : acc.length ≤ 100000) : ∃ y7, lpL (.one 7) (exe B Φ L0_lwords) (L.map fun k => D.str [k]) [.v (.str L) false, s1, s2, s3, s4, .o (.L acc) false, .v (.str w) false, x7] = .ok .nx [.v (.str L) false, s1, s2, s3, s4, .o (.L (acc ++ (ext L w).map .str)) false, .v (.str w) false, y7] := by
  obtain ⟨ρ', h1, y7, e⟩ := lpL_of (i := 7) (f := exe B Φ L0_lwords) (fun k => D.str [k]) L (fun k ρ => ∃ y7, ρ = [.v (.str L) false, s1, s2, s3, s4, .o (.L (acc ++ (ext (L.take k) w).map .str)) false, .v (.str w) false, y7]) [.v (.str L) false, s1, s2, s3, s4, .o (.L acc) false, .v (.str w) false, x7] ⟨x7, by simp [ext]⟩ (fun k c hk ρ ⟨y7, e⟩ => by
    subst e
    obtain ⟨lk, _⟩ := List.getElem?_eq_some_iff.mp hk
    have q1 : w.length + 1 ≤ lim := by rw [limQ]; omega
    have q2 : acc.length + min k L.length < lim := by rw [limQ]; omega
    have e2 : (ext (L.take (k + 1)) w).map D.str = (ext (L.take k) w).map D.str ++ [D.str (w ++ [c])] := by
      unfold ext
      rw [List.take_succ, hk]
      simp
    refine ⟨_, .inl ?_, .v (.str [c]) false, rfl⟩
    rw [e2]
    simp [L0_lwords, q1, ext, q2])
  subst e
  rw [List.take_length] at h1
  exact ⟨_, h1⟩
theorem l_words1 (s1 s2 s3 s4 x6 x7 : Sl) (L : List Nat) (lv : List (List Nat)) (hL : L.length ≤ 3) (hl : ∀ w, w ∈ lv → w.length ≤ 1000) (hn : lv.length ≤ 1000) : ∃ y6 y7, lpL (.one 6) (exe B Φ L1_lwords) (lv.map D.str) [.v (.str L) false, s1, s2, s3, s4, .o (.L []) false, x6, x7] = .ok .nx [.v (.str L) false, s1, s2, s3, s4, .o (.L ((lv.flatMap (ext L)).map .str)) false, y6, y7] := by
  have cnt : ∀ k, (((lv.take k).flatMap (ext L)).map D.str).length ≤ 3 * k := fun k => by
    rw [List.length_map, List.length_flatMap]
    have : ∀ ws : List (List Nat), ((ws.map fun a => (ext L a).length)).sum ≤ 3 * ws.length := by
      intro ws
      induction ws with
      | nil => simp
      | cons w ws ih =>
        rw [List.map_cons, List.sum_cons, List.length_cons]
        have : (ext L w).length = L.length := by simp [ext]
        omega
    have h := this (lv.take k)
    rw [List.length_take] at h
    omega
  obtain ⟨ρ', h1, y6, y7, e⟩ := lpL_of (i := 6) (f := exe B Φ L1_lwords) D.str lv (fun k ρ => ∃ y6 y7, ρ = [.v (.str L) false, s1, s2, s3, s4, .o (.L (((lv.take k).flatMap (ext L)).map .str)) false, y6, y7]) [.v (.str L) false, s1, s2, s3, s4, .o (.L []) false, x6, x7] ⟨x6, x7, by simp⟩ (fun k w hk ρ ⟨y6, y7, e⟩ => by
    subst e
    obtain ⟨lk, _⟩ := List.getElem?_eq_some_iff.mp hk
    have c := cnt k
    obtain ⟨z7, e1⟩ := l_words0 (B := B) (Φ := Φ) s1 s2 s3 s4 y7 L w (((lv.take k).flatMap (ext L)).map .str) (hl w (List.mem_of_getElem? hk)) (by omega) (by omega)
    have e2 : ((lv.take (k + 1)).flatMap (ext L)).map D.str = ((lv.take k).flatMap (ext L)).map .str ++ (ext L w).map .str := by
      rw [List.take_succ, hk, List.flatMap_append, List.map_append]
      simp
    refine ⟨_, .inl ?_, .v (.str w) false, z7, rfl⟩
    rw [e2]
    obtain ⟨A, eA⟩ : ∃ A, A = ((lv.take k).flatMap (ext L)).map D.str := ⟨_, rfl⟩
    rw [← eA] at e1 ⊢
    simp [L1_lwords, e1])
  subst e
  rw [List.take_length] at h1
  exact ⟨_, _, h1⟩
theorem g_words (L : List Nat) (hL : L.length ≤ 3) (k : Nat) (hk : k ≤ 6) : ∃ ws : List (List Nat), ws ≠ [] ∧ ws.length ≤ 2000 ∧ (∀ w, w ∈ ws → Wd L w ∧ w.length ≤ k) ∧ finF 2 (exe B Φ S_lwords [.v (.str L) false, .v (.int (k : Nat)) false, .u, .u, .u, .u, .u, .u]) = .ok (.o (.L (ws.map .str))) [.u, .u] := by
  have il : itD .rng [.int (k : Nat)] = some ((List.range k).map fun i => .int (i : Nat)) := it_rng rfl (by rw [limQ]; omega)
  obtain ⟨ρ', h1, ws, lv, s3, x4, x5, x6, x7, a1, a2, a3, a4, a5, a6, e⟩ := lpL_rng (i := 4) (f := exe B Φ L2_lwords) k (fun j ρ => ∃ (ws lv : List (List Nat)) (s3 x4 x5 x6 x7 : Sl), ws ≠ [] ∧ ws.length ≤ 2 * 3 ^ j ∧ (∀ w, w ∈ ws → Wd L w ∧ w.length ≤ j) ∧ lv.length ≤ 3 ^ j ∧ (∀ w, w ∈ lv → Wd L w ∧ w.length ≤ j) ∧ (s3 = .o (.L (lv.map .str)) false ∨ s3 = .v (.lst (lv.map .str)) false) ∧ ρ = [.v (.str L) false, .v (.int (k : Nat)) false, .o (.L (ws.map .str)) false, s3, x4, x5, x6, x7])
    [.v (.str L) false, .v (.int (k : Nat)) false, .o (.L [.str []]) false, .o (.L [.str []]) false, .u, .u, .u, .u] ⟨[[]], [[]], _, _, _, _, _, by simp, by simp, (fun w hw => by
      have : w = [] := by simpa using hw
      subst this; exact ⟨.nil, Nat.le_refl _⟩), by simp, (fun w hw => by
      have : w = [] := by simpa using hw
      subst this; exact ⟨.nil, Nat.le_refl _⟩), .inl rfl, rfl⟩ (fun j hj ρ ⟨ws, lv, s3, x4, x5, x6, x7, a1, a2, a3, a4, a5, a6, e⟩ => by
      subst e
      have p6 : (3 : Nat) ^ j ≤ 3 ^ 5 := Nat.pow_le_pow_right (by decide) (by omega)
      have p6' : (3 : Nat) ^ 5 = 243 := by decide
      have lx : (lv.flatMap (ext L)).length ≤ 3 ^ (j + 1) := by
        rw [List.length_flatMap]
        have : ∀ ws : List (List Nat), ((ws.map fun a => (ext L a).length)).sum ≤ 3 * ws.length := by
          intro ws
          induction ws with
          | nil => simp
          | cons w ws ih =>
            rw [List.map_cons, List.sum_cons, List.length_cons]
            have : (ext L w).length = L.length := by simp [ext]
            omega
        have h := this lv
        rw [Nat.pow_succ]
        omega
      have hx : ∀ w, w ∈ lv.flatMap (ext L) → Wd L w ∧ w.length ≤ j + 1 := fun w hw => by
        obtain ⟨v, hv, hw⟩ := List.mem_flatMap.mp hw
        obtain ⟨c, hc, rfl⟩ := List.mem_map.mp hw
        obtain ⟨b1, b2⟩ := a5 v hv
        exact ⟨b1.app fun x hx => by rw [List.mem_singleton.mp hx]; exact hc, by simp; exact b2⟩
      have pj : 3 ^ (j + 1) = 3 ^ j * 3 := Nat.pow_succ ..
      have c1 : ws.length + (lv.flatMap (ext L)).length ≤ lim := by rw [limQ]; omega
      have c1' : ws.length + (List.map (List.length ∘ ext L) lv).sum ≤ lim := by
        rw [List.length_flatMap] at c1
        exact c1
      obtain ⟨xs, ex⟩ : ∃ xs, xs = lv.flatMap (ext L) := ⟨_, rfl⟩
      rcases a6 with rfl | rfl
      · obtain ⟨y6, y7, q⟩ := l_words1 (B := B) (Φ := Φ) (.v (.int (k : Nat)) false) (.o (.L (ws.map .str)) false) (.k (.L (lv.map .str)) false) (.v (.int (j : Nat)) false) x6 x7 L lv hL (fun w hw => by have := (a5 w hw).2; omega) (by omega)
        rw [← ex] at q c1 lx hx
        refine ⟨[.v (.str L) false, .v (.int (k : Nat)) false, .o (.L ((ws ++ xs).map .str)) false, .v (.lst (xs.map .str)) false, .v (.int (j : Nat)) false, .v (.lst (xs.map .str)) false, y6, y7], .inl ?_, ws ++ xs, xs, .v (.lst (xs.map .str)) false, .v (.int (j : Nat)) false, .v (.lst (xs.map .str)) false, y6, y7, by simp [a1], by rw [List.length_append]; omega, (fun w hw => (List.mem_append.mp hw).elim (fun q => ⟨(a3 w q).1, Nat.le_succ_of_le (a3 w q).2⟩) (hx w)), lx, hx, .inr rfl, rfl⟩
        simp [L2_lwords, q, Ow.d, c1]
      · obtain ⟨y6, y7, q⟩ := l_words1 (B := B) (Φ := Φ) (.v (.int (k : Nat)) false) (.o (.L (ws.map .str)) false) (.v (.lst (lv.map .str)) false) (.v (.int (j : Nat)) false) x6 x7 L lv hL (fun w hw => by have := (a5 w hw).2; omega) (by omega)
        rw [← ex] at q c1 lx hx
        refine ⟨[.v (.str L) false, .v (.int (k : Nat)) false, .o (.L ((ws ++ xs).map .str)) false, .v (.lst (xs.map .str)) false, .v (.int (j : Nat)) false, .v (.lst (xs.map .str)) false, y6, y7], .inl ?_, ws ++ xs, xs, .v (.lst (xs.map .str)) false, .v (.int (j : Nat)) false, .v (.lst (xs.map .str)) false, y6, y7, by simp [a1], by rw [List.length_append]; omega, (fun w hw => (List.mem_append.mp hw).elim (fun q => ⟨(a3 w q).1, Nat.le_succ_of_le (a3 w q).2⟩) (hx w)), lx, hx, .inr rfl, rfl⟩
        simp [L2_lwords, q, Ow.d, c1])
  subst e
  have p6 : (3 : Nat) ^ k ≤ 3 ^ 6 := Nat.pow_le_pow_right (by decide) (by omega)
  have p6' : (3 : Nat) ^ 6 = 729 := by decide
  refine ⟨ws, a1, by omega, a3, ?_⟩
  simp [S_lwords, il, h1, Ow.d]
def HWords (Φ : CallF) (q : Nat) : Prop := ∀ L : List Nat, L.length ≤ 3 → ∀ k : Nat, k ≤ 6 → ∃ ws : List (List Nat), ws ≠ [] ∧ ws.length ≤ 2000 ∧ (∀ w, w ∈ ws → Wd L w ∧ w.length ≤ k) ∧ Φ q [.v (.str L) false, .v (.int (k : Nat)) false] = .ok (.o (.L (ws.map .str))) [.u, .u]
end
end Z

/-! turned machines -/
namespace Z
open PySem
section
variable {B : Tb} {Φ : CallF} {ρ : Env} {s : Sr} {Q : Sq s} {n e m : Nat} {M : Mc s}
def HRooms (Φ : CallF) (Q : Sq s) (q : Nat) : Prop := ∀ {n e m} {M : Mc s}, MOk Q n e m M → m ≤ 1000 → Φ q [.v M.d false] = .ok (.v (.int m)) [.u]
def tr (s : Sr) (m : Nat) (t : List (List s.α)) : List (List s.α) := (List.range m).map (cl s t)
def Mc.tu (m : Nat) (M : Mc s) : Mc s := ⟨M.ls, M.en, M.tb.map (tr s m), M.st⟩
theorem tr_len {t : List (List s.α)} : (tr s m t).length = m := by unfold tr; simp
theorem tr_wid {t : List (List s.α)} (h : t.length = m) : ∀ r, r ∈ tr s m t → r.length = m := fun r hr => by
  obtain ⟨j, _, rfl⟩ := List.mem_map.mp hr
  rw [cl_len, h]
theorem tr_z {t : List (List s.α)} (h : Zt Q n e t) : Zt Q n e (tr s m t) := fun r hr => by
  obtain ⟨j, _, rfl⟩ := List.mem_map.mp hr
  exact h.cl j
theorem tu_ok (h : MOk Q n e m M) : MOk Q n e m (M.tu m) where
  lt := h.lt
  s1 := h.e1
  e1 := h.s1
  t1 := by show (M.tb.map _).length = _; rw [List.length_map]; exact h.t1
  t2 := fun t ht => by
    obtain ⟨u, hu, rfl⟩ := List.mem_map.mp ht
    exact ⟨tr_len, tr_wid (h.t2 u hu).1⟩
  s2 := h.e2
  e2 := h.s2
  t3 := fun t ht => by
    obtain ⟨u, hu, rfl⟩ := List.mem_map.mp ht
    exact tr_z (h.t3 u hu)
theorem tu_tab (h : MOk Q n e m M) {c : Nat} (hc : c ∈ M.ls) : (M.tu m).tab c = tr s m (M.tab c) := by
  have hi : M.ls.idxOf c < M.tb.length := by rw [h.t1]; exact List.idxOf_lt_length_iff.mpr hc
  show (M.tb.map (tr s m))[M.ls.idxOf c]?.getD [] = tr s m (M.tb[M.ls.idxOf c]?.getD [])
  rw [List.getElem?_map, List.getElem?_eq_getElem hi]
  rfl
theorem dt_comm (xs ys : List s.α) : dt s xs ys = dt s ys xs := by
  unfold dt
  rw [Nat.min_comm]
  exact Su_congr fun k _ => s.mc _ _
theorem ext_getD {xs ys : List s.α} (h : xs.length = ys.length) (k : ∀ i, i < xs.length → xs[i]?.getD s.z = ys[i]?.getD s.z) : xs = ys := by
  refine List.ext_getElem h fun i h1 h2 => ?_
  have := k i h1
  rw [List.getElem?_eq_getElem h1, List.getElem?_eq_getElem h2] at this
  exact this
/-- the column of a table turned is its row -/
theorem cl_tr {t : List (List s.α)} (ht : t.length = m) (hr : ∀ r, r ∈ t → r.length = m) {j : Nat} (hj : j < m) : cl s (tr s m t) j = t[j]?.getD [] := by
  have hjt : j < t.length := by omega
  have hl : (t[j]?.getD []).length = m := by
    rw [List.getElem?_eq_getElem hjt]
    exact hr _ (List.getElem_mem _)
  refine ext_getD (by rw [cl_len, tr_len, hl]) fun i hi => ?_
  rw [cl_len, tr_len] at hi
  rw [cl_get (by rw [tr_len]; exact hi)]
  have : (tr s m t)[i]?.getD [] = cl s t i := by
    unfold tr
    rw [List.getElem?_map, List.getElem?_range hi]; rfl
  rw [this, cl_get hjt]
theorem rb_tr {t : List (List s.α)} (ht : t.length = m) (hr : ∀ r, r ∈ t → r.length = m) (c : List s.α) : rb s c (tr s m t) m = t.map fun r => dt s r c := by
  refine ext_getD (by rw [rb_len, List.length_map, ht]) fun i hi => ?_
  rw [rb_len] at hi
  rw [rb_get hi, cl_tr ht hr hi, mp_get (d := []) (by omega), dt_comm]
theorem ah_tu (h : MOk Q n e m M) (w : List Nat) (hw : Wd M.ls w) : (M.tu m).ah w = M.bh w.reverse := by
  have gen : ∀ (w : List Nat) (c : List s.α), Wd M.ls w → (M.tu m).ahF c w = w.foldl (fun col x => (M.tab x).map fun r => dt s r col) c := by
    intro w
    induction w with
    | nil => intro c _; rfl
    | cons x w ih =>
      intro c hw
      have hx := hw x List.mem_cons_self
      show (M.tu m).ahF (rb s c ((M.tu m).tab x) (M.tu m).st.length) w = _
      rw [ih _ fun y hy => hw y (List.mem_cons_of_mem _ hy), tu_tab h hx, show (M.tu m).st.length = m from h.e1, rb_tr (h.tlen hx) (h.twid hx)]
      rfl
  show (M.tu m).ahF M.en w = _
  rw [gen w _ hw]
  unfold Mc.bh
  rw [List.foldr_reverse]
theorem wt_bh (h : MOk Q n e m M) (w : List Nat) (hw : Wd M.ls w) : M.wt w = dt s M.st (M.bh w) := cut_any h w M.st hw h.s1
theorem wt_tu (h : MOk Q n e m M) (w : List Nat) (hw : Wd M.ls w) : (M.tu m).wt w = M.wt w.reverse := by
  rw [wt_bh h _ hw.rev]
  show dt s ((M.tu m).ah w) M.st = _
  rw [ah_tu h w hw, dt_comm]
def L_turned (qrooms qcolumnat : Nat) : S := (.seq (.ex (.mut .append 2 (.cons (.b1 .tup (.comp .rng (.cons (.call qrooms (.cons (.var 1) .nil)) .nil) (.one 4) [4] (.call qcolumnat (.cons (.var 3) (.cons (.var 4) .nil))) .nil)) .nil))) .skip)
def S_turned (qrooms qcolumnat : Nat) : S := (.seq (.set 2 (.lst .nil)) (.seq (.loop .seq (.cons (.idx (.var 1) (.con (.int 2))) .nil) (.one 3) (L_turned qrooms qcolumnat)) (.seq (.ret (.tup (.cons (.idx (.var 1) (.con (.int 0))) (.cons (.idx (.var 1) (.con (.int 3))) (.cons (.b1 .tup (.var 2)) (.cons (.idx (.var 1) (.con (.int 1))) .nil)))))) .skip)))
theorem g_turned {o : D} {qr qc : Nat} (hr : HRooms Φ Q qr) (hc : HCol Φ s qc) (h : MOk Q n e m M) (hm : m ≤ 1000) : finF 2 (exe B Φ (S_turned qr qc) [.v o false, .v M.d false, .u, .u, .u]) = .ok (.v (M.tu m).d) [.u, .u] := by
  have i0 : idxR M.d (.int 0) = some (.v (.str M.ls)) := idx_t0
  have i1 : idxR M.d (.int 1) = some (.v (rowD s M.st)) := idx_t1
  have i2 : idxR M.d (.int 2) = some (.v (tabsD s M.tb)) := idx_t2
  have i3 : idxR M.d (.int 3) = some (.v (rowD s M.en)) := idx_t3
  have a0 := hr h hm
  have l3 := h.lt.l3
  have ltb : M.tb.length ≤ 3 := by rw [h.t1]; exact l3
  have il : itD .rng [.int (m : Nat)] = some ((List.range m).map fun i => .int (i : Nat)) := it_rng rfl (by rw [limQ]; omega)
  have q1 : m ≤ lim := by rw [limQ]; omega
  obtain ⟨ρ', h1, x3, e⟩ := lpL_of (i := 3) (f := exe B Φ (L_turned qr qc)) (tabD s) M.tb (fun k ρ => ∃ x3, ρ = [.v o false, .v M.d false, .o (.L ((M.tb.take k).map fun t => tabD s (tr s m t))) false, x3, .u]) [.v o false, .v M.d false, .o (.L []) false, .u, .u] ⟨_, rfl⟩ (fun k t hk ρ ⟨x3, e⟩ => by
    subst e
    have ht := h.t2 t (List.mem_of_getElem? hk)
    obtain ⟨A, eA⟩ : ∃ A, A = (M.tb.take k).map fun t => tabD s (tr s m t) := ⟨_, rfl⟩
    have lA : A.length ≤ 3 := by rw [eA, List.length_map, List.length_take]; omega
    have cm := cm_of (own := [4]) (t := .one 4) (h := ev B Φ (.call qc (.cons (.var 3) (.cons (.var 4) .nil)))) (fun j : Nat => D.int (j : Nat)) (fun j : Nat => rowD s (cl s t j)) (List.range m) [.v o false, .v M.d false, .o (.L A) false, .v (tabD s t) false, .u] (fun j hj => by
      have a := hc t j (fun r hr => by rw [ht.2 r hr]; exact List.mem_range.mp hj) (by omega)
      exact ⟨[.v o false, .v M.d false, .o (.L A) false, .v (tabD s t) false, .v (.int (j : Nat)) false], rfl, by simp [a], rfl⟩)
    have e2 : ((M.tb.take (k + 1)).map fun t => tabD s (tr s m t)) = A ++ [tabD s (tr s m t)] := by
      rw [eA, List.take_succ, hk]
      simp
    refine ⟨[.v o false, .v M.d false, .o (.L (A ++ [tabD s (tr s m t)])) false, .v (tabD s t) false, .u], .inl ?_, .v (tabD s t) false, by rw [e2]⟩
    have e3 : tabD s (tr s m t) = .tup ((List.range m).map fun j => rowD s (cl s t j)) := by
      unfold tr tabD
      rw [List.map_map]; rfl
    have q2 : A.length < lim := by rw [limQ]; omega
    rw [← eA, e3]
    simp [L_turned, a0, il, q1, cm, q2])
  subst e
  rw [List.take_length] at h1
  have e4 : (M.tu m).d = .tup [.str M.ls, rowD s M.en, .tup (M.tb.map fun t => tabD s (tr s m t)), rowD s M.st] := by
    show D.tup [.str M.ls, rowD s M.en, tabsD s (M.tb.map (tr s m)), rowD s M.st] = _
    unfold tabsD
    rw [List.map_map]; rfl
  rw [e4]
  simp [S_turned, i2, h1, i0, i3, i1, Ow.d]
def HTurned (Φ : CallF) (Q : Sq s) (q : Nat) (o : D) : Prop := ∀ {n e m} {M : Mc s}, MOk Q n e m M → m ≤ 1000 → Φ q [.v o false, .v M.d false] = .ok (.v (M.tu m).d) [.u, .u]
end
end Z

namespace K24
open PySem PySem.W PySem.Calls PyProof.Rows
abbrev prog : PySem.Program := PySem.Challenge.pw_weighwalk_k24_turned
def b_column_at : Z.S := (.seq (.ret (.b1 .tup (.comp .seq (.cons (.var 0) .nil) (.one 2) [2] (.idx (.var 2) (.var 1)) .nil))) .skip)
def d_column_at : Z.Df := ⟨none, "column_at", "column_at", (Z.topS prog 6), ["table", "at", "row"], 2, b_column_at⟩
def b_is_letters : Z.S := (.seq (.ite (.or (.nt (.isi (.var 0) .str)) (.nt (.cmp2 .lt .le (.con (.int 0)) (.b1 .len (.var 0)) (.glo 1)))) (.seq (.ret (.con (.bl false))) .skip) .skip) (.seq (.ret (.and (.cmp .eq (.lset (.var 0)) (.b1 .len (.var 0))) (.b1 .all (.comp .seq (.cons (.var 0) .nil) (.one 1) [1] (.cmp .isin (.var 1) (.glo 0)) .nil)))) .skip))
def d_is_letters : Z.Df := ⟨none, "is_letters", "is_letters", (Z.topS prog 11), ["thing", "sign"], 1, b_is_letters⟩
def b_is_line : Z.S := (.seq (.ite (.or (.nt (.isi (.var 1) .tup)) (.cmp .ne (.b1 .len (.var 1)) (.var 2))) (.seq (.ret (.con (.bl false))) .skip) .skip) (.seq (.ret (.b1 .all (.comp .seq (.cons (.var 1) .nil) (.one 3) [3] (.mcal 0 (.var 0) (.cons (.var 3) .nil)) .nil))) .skip))
def d_is_line : Z.Df := ⟨none, "is_line", "is_line", (Z.topS prog 12), ["kind", "thing", "many", "x"], 3, b_is_line⟩
def b_is_square : Z.S := (.seq (.ite (.or (.nt (.isi (.var 1) .tup)) (.cmp .ne (.b1 .len (.var 1)) (.var 2))) (.seq (.ret (.con (.bl false))) .skip) .skip) (.seq (.ret (.b1 .all (.comp .seq (.cons (.var 1) .nil) (.one 3) [3] (.call 2 (.cons (.var 0) (.cons (.var 3) (.cons (.var 2) .nil)))) .nil))) .skip))
def d_is_square : Z.Df := ⟨none, "is_square", "is_square", (Z.topS prog 13), ["kind", "thing", "many", "line"], 3, b_is_square⟩
def b_is_machine : Z.S := (.seq (.ite (.or (.nt (.isi (.var 1) .tup)) (.cmp .ne (.b1 .len (.var 1)) (.con (.int 4)))) (.seq (.ret (.con (.bl false))) .skip) .skip) (.seq (.unp [2, 3, 4, 5] (.var 1)) (.seq (.ite (.or (.nt (.call 1 (.cons (.var 2) .nil))) (.or (.nt (.isi (.var 3) .tup)) (.cmp .gt (.b1 .len (.var 3)) (.glo 2)))) (.seq (.ret (.con (.bl false))) .skip) .skip) (.seq (.set 6 (.b1 .len (.var 3))) (.seq (.ite (.or (.nt (.call 2 (.cons (.var 0) (.cons (.var 3) (.cons (.var 6) .nil))))) (.nt (.call 2 (.cons (.var 0) (.cons (.var 5) (.cons (.var 6) .nil)))))) (.seq (.ret (.con (.bl false))) .skip) .skip) (.seq (.ite (.or (.nt (.isi (.var 4) .tup)) (.cmp .ne (.b1 .len (.var 4)) (.b1 .len (.var 2)))) (.seq (.ret (.con (.bl false))) .skip) .skip) (.seq (.ret (.b1 .all (.comp .seq (.cons (.var 4) .nil) (.one 7) [7] (.call 3 (.cons (.var 0) (.cons (.var 7) (.cons (.var 6) .nil)))) .nil))) .skip)))))))
def d_is_machine : Z.Df := ⟨none, "is_machine", "is_machine", (Z.topS prog 14), ["kind", "thing", "letters", "start", "tables", "ends", "many", "table"], 2, b_is_machine⟩
def b_rooms : Z.S := (.seq (.ret (.b1 .len (.idx (.var 0) (.con (.int 1))))) .skip)
def d_rooms : Z.Df := ⟨none, "rooms", "rooms", (Z.topS prog 15), ["machine"], 1, b_rooms⟩
def l0_turned : Z.S := (.seq (.ex (.mut .append 2 (.cons (.b1 .tup (.comp .rng (.cons (.call 5 (.cons (.var 1) .nil)) .nil) (.one 4) [4] (.call 0 (.cons (.var 3) (.cons (.var 4) .nil))) .nil)) .nil))) .skip)
def b_turned : Z.S := (.seq (.set 2 (.lst .nil)) (.seq (.loop .seq (.cons (.idx (.var 1) (.con (.int 2))) .nil) (.one 3) l0_turned) (.seq (.ret (.tup (.cons (.idx (.var 1) (.con (.int 0))) (.cons (.idx (.var 1) (.con (.int 3))) (.cons (.b1 .tup (.var 2)) (.cons (.idx (.var 1) (.con (.int 1))) .nil)))))) .skip)))
def d_turned : Z.Df := ⟨none, "turned", "turned", (Z.topS prog 17), ["kind", "machine", "tables", "table", "at"], 2, b_turned⟩
def l0_divisor : Z.S := (.seq (.par 0 1 (.var 1) (.bin .mod (.var 0) (.var 1))) .skip)
def b_divisor : Z.S := (.seq (.set 0 (.b1 .abs (.var 0))) (.seq (.set 1 (.b1 .abs (.var 1))) (.seq (.whl (.cmp .gt (.var 1) (.con (.int 0))) l0_divisor) (.seq (.ret (.var 0)) .skip))))
def d_divisor : Z.Df := ⟨none, "divisor", "divisor", (Z.topS prog 19), ["one", "other"], 2, b_divisor⟩
def b_is_whole : Z.S := (.seq (.ret (.and (.isi (.var 0) .int) (.nt (.isi (.var 0) .bool)))) .skip)
def d_is_whole : Z.Df := ⟨none, "is_whole", "is_whole", (Z.topS prog 24), ["thing"], 1, b_is_whole⟩
def l0_is_prime : Z.S := (.seq (.ite (.cmp .eq (.bin .mod (.var 0) (.var 1)) (.con (.int 0))) (.seq (.ret (.con (.bl false))) .skip) .skip) (.seq (.aug 1 .add (.con (.int 1))) .skip))
def b_is_prime : Z.S := (.seq (.ite (.cmp .lt (.var 0) (.con (.int 2))) (.seq (.ret (.con (.bl false))) .skip) .skip) (.seq (.set 1 (.con (.int 2))) (.seq (.whl (.cmp .le (.bin .mul (.var 1) (.var 1)) (.var 0)) l0_is_prime) (.seq (.ret (.con (.bl true))) .skip))))
def d_is_prime : Z.Df := ⟨none, "is_prime", "is_prime", (Z.topS prog 26), ["number", "by"], 1, b_is_prime⟩
def b__law_next : Z.S := (.seq (.ite (.cmp .eq (.b1 .len (.var 0)) (.con (.int 2))) (.seq (.set 2 (.bin .mod (.idx (.var 0) (.con (.int 0))) (.var 1))) (.seq (.seti 0 (.con (.int 0)) (.bin .fdiv (.idx (.var 0) (.con (.int 0))) (.var 1))) (.seq (.ite (.cmp .eq (.idx (.var 0) (.con (.int 0))) (.con (.int 0))) (.seq (.ex (.mut .pop 0 (.cons (.con (.int 0)) .nil))) .skip) .skip) (.seq (.ret (.var 2)) .skip)))) .skip) (.seq (.seti 0 (.con (.int 0)) (.bin .mod (.bin .add (.bin .mul (.idx (.var 0) (.con (.int 0))) (.con (.int 1181783497276652981))) (.con (.int 12345678910987))) (.con (.int 2305843009213693951)))) (.seq (.ret (.bin .mod (.bin .fdiv (.idx (.var 0) (.con (.int 0))) (.con (.int 65537))) (.var 1))) .skip)))
def d__law_next : Z.Df := ⟨none, "_law_next", "_law_next", (Z.topS prog 35), ["_law_state_here", "_law_many", "_law_found"], 2, b__law_next⟩
def l0__law_state : Z.S := (.seq (.set 1 (.bin .mod (.bin .add (.bin .add (.bin .mul (.var 1) (.con (.int 7368787))) (.bin .mod (.var 2) (.bin .pow (.con (.int 10)) (.con (.int 30))))) (.con (.int 11))) (.con (.int 2305843009213693951)))) .skip)
def b__law_state : Z.S := (.seq (.set 1 (.con (.int 1000003))) (.seq (.loop .seq (.cons (.sl (.var 0) .nil (.con (.int 200))) .nil) (.one 2) l0__law_state) (.seq (.ite (.and (.cmp .gt (.b1 .len (.var 0)) (.con (.int 0))) (.and (.cmp .gt (.idx (.var 0) (.con (.int 0))) (.con (.int 1))) (.cmp .eq (.bin .mod (.idx (.var 0) (.con (.int 0))) (.con (.int 2))) (.con (.int 1))))) (.seq (.ret (.lst (.cons (.bin .fdiv (.idx (.var 0) (.con (.int 0))) (.con (.int 2))) (.cons (.var 1) .nil)))) .skip) .skip) (.seq (.ret (.lst (.cons (.var 1) .nil))) .skip))))
def d__law_state : Z.Df := ⟨none, "_law_state", "_law_state", (Z.topS prog 36), ["_law_script", "_law_seed", "_law_cell"], 1, b__law_state⟩
def l0__law_low : Z.S := (.seq (.par 2 3 (.bin .mod (.var 3) (.var 2)) (.var 2)) .skip)
def b__law_low : Z.S := (.seq (.set 2 (.var 0)) (.seq (.set 3 (.var 1)) (.seq (.whl (.cmp .ne (.var 2) (.con (.int 0))) l0__law_low) (.seq (.set 3 (.b1 .abs (.var 3))) (.seq (.ret (.tup (.cons (.bin .fdiv (.var 0) (.var 3)) (.cons (.bin .fdiv (.var 1) (.var 3)) .nil)))) .skip)))))
def d__law_low : Z.Df := ⟨none, "_law_low", "_law_low", (Z.topS prog 37), ["_law_top", "_law_bottom", "_law_one", "_law_by"], 2, b__law_low⟩
def b__law_plus : Z.S := (.seq (.ite (.cmp .eq (.idx (.var 0) (.con (.int 0))) (.con (.str [102, 114, 97, 99, 116, 105, 111, 110, 115]))) (.seq (.ret (.call 12 (.cons (.bin .add (.bin .mul (.idx (.var 1) (.con (.int 0))) (.idx (.var 2) (.con (.int 1)))) (.bin .mul (.idx (.var 2) (.con (.int 0))) (.idx (.var 1) (.con (.int 1))))) (.cons (.bin .mul (.idx (.var 1) (.con (.int 1))) (.idx (.var 2) (.con (.int 1)))) .nil)))) .skip) .skip) (.seq (.ite (.cmp .eq (.idx (.var 0) (.con (.int 0))) (.con (.str [114, 101, 115, 105, 100, 117, 101, 115]))) (.seq (.ret (.bin .mod (.bin .add (.var 1) (.var 2)) (.idx (.var 0) (.con (.int 1))))) .skip) .skip) (.seq (.ite (.cmp .eq (.idx (.var 0) (.con (.int 0))) (.con (.str [116, 114, 117, 116, 104, 115]))) (.seq (.ret (.or (.var 1) (.var 2))) .skip) .skip) (.seq (.ite (.or (.cmp .is (.var 1) (.con .non)) (.and (.cmp .isn (.var 2) (.con .non)) (.cmp .lt (.var 2) (.var 1)))) (.seq (.ret (.var 2)) .skip) .skip) (.seq (.ret (.var 1)) .skip)))))
def d__law_plus : Z.Df := ⟨none, "_law_plus", "_law_plus", (Z.topS prog 38), ["_law_sort_here", "_law_x", "_law_y"], 3, b__law_plus⟩
def b__law_times : Z.S := (.seq (.ite (.cmp .eq (.idx (.var 0) (.con (.int 0))) (.con (.str [102, 114, 97, 99, 116, 105, 111, 110, 115]))) (.seq (.ret (.call 12 (.cons (.bin .mul (.idx (.var 1) (.con (.int 0))) (.idx (.var 2) (.con (.int 0)))) (.cons (.bin .mul (.idx (.var 1) (.con (.int 1))) (.idx (.var 2) (.con (.int 1)))) .nil)))) .skip) .skip) (.seq (.ite (.cmp .eq (.idx (.var 0) (.con (.int 0))) (.con (.str [114, 101, 115, 105, 100, 117, 101, 115]))) (.seq (.ret (.bin .mod (.bin .mul (.var 1) (.var 2)) (.idx (.var 0) (.con (.int 1))))) .skip) .skip) (.seq (.ite (.cmp .eq (.idx (.var 0) (.con (.int 0))) (.con (.str [116, 114, 117, 116, 104, 115]))) (.seq (.ret (.and (.var 1) (.var 2))) .skip) .skip) (.seq (.ite (.or (.cmp .is (.var 1) (.con .non)) (.cmp .is (.var 2) (.con .non))) (.seq (.ret (.con .non)) .skip) .skip) (.seq (.ret (.bin .add (.var 1) (.var 2))) .skip)))))
def d__law_times : Z.Df := ⟨none, "_law_times", "_law_times", (Z.topS prog 39), ["_law_sort_here", "_law_x", "_law_y"], 3, b__law_times⟩
def b__law_nought : Z.S := (.seq (.ret (.dix [[102, 114, 97, 99, 116, 105, 111, 110, 115], [114, 101, 115, 105, 100, 117, 101, 115], [99, 111, 115, 116, 115], [116, 114, 117, 116, 104, 115]] (.cons (.tup (.cons (.con (.int 0)) (.cons (.con (.int 1)) .nil))) (.cons (.con (.int 0)) (.cons (.con .non) (.cons (.con (.bl false)) .nil)))) (.idx (.var 0) (.con (.int 0))))) .skip)
def d__law_nought : Z.Df := ⟨none, "_law_nought", "_law_nought", (Z.topS prog 40), ["_law_sort_here"], 1, b__law_nought⟩
def b__law_sort : Z.S := (.seq (.set 2 (.idx (.lst (.cons (.con (.int 2)) (.cons (.con (.int 3)) (.cons (.con (.int 5)) (.cons (.con (.int 7)) (.cons (.con (.int 11)) (.cons (.con (.int 13)) (.cons (.con (.int 101)) (.cons (.con (.int 65537)) (.cons (.con (.int 999983)) .nil)))))))))) (.call 10 (.cons (.var 0) (.cons (.con (.int 9)) .nil))))) (.seq (.ret (.idx (.lst (.cons (.tup (.cons (.con (.str [102, 114, 97, 99, 116, 105, 111, 110, 115])) (.cons (.con (.int 0)) .nil))) (.cons (.tup (.cons (.con (.str [114, 101, 115, 105, 100, 117, 101, 115])) (.cons (.var 2) .nil))) (.cons (.tup (.cons (.con (.str [99, 111, 115, 116, 115])) (.cons (.con (.int 0)) .nil))) (.cons (.tup (.cons (.con (.str [116, 114, 117, 116, 104, 115])) (.cons (.con (.int 0)) .nil))) .nil))))) (.var 1))) .skip))
def d__law_sort : Z.Df := ⟨none, "_law_sort", "_law_sort", (Z.topS prog 41), ["_law_state_here", "_law_way", "_law_prime"], 2, b__law_sort⟩
def b__law_kind : Z.S := (.seq (.ite (.cmp .eq (.idx (.var 0) (.con (.int 0))) (.con (.str [102, 114, 97, 99, 116, 105, 111, 110, 115]))) (.seq (.ret (.make 6 .nil)) .skip) .skip) (.seq (.ite (.cmp .eq (.idx (.var 0) (.con (.int 0))) (.con (.str [114, 101, 115, 105, 100, 117, 101, 115]))) (.seq (.ret (.make 7 (.cons (.idx (.var 0) (.con (.int 1))) .nil))) .skip) .skip) (.seq (.ite (.cmp .eq (.idx (.var 0) (.con (.int 0))) (.con (.str [99, 111, 115, 116, 115]))) (.seq (.ret (.make 8 .nil)) .skip) .skip) (.seq (.ret (.make 9 .nil)) .skip))))
def d__law_kind : Z.Df := ⟨none, "_law_kind", "_law_kind", (Z.topS prog 42), ["_law_sort_here"], 1, b__law_kind⟩
def b__law_weight : Z.S := (.seq (.ite (.cmp .eq (.call 10 (.cons (.var 0) (.cons (.con (.int 4)) .nil))) (.con (.int 0))) (.seq (.ret (.call 15 (.cons (.var 1) .nil))) .skip) .skip) (.seq (.set 3 (.con (.int 0))) (.seq (.ite (.and (.var 2) (.cmp .eq (.call 10 (.cons (.var 0) (.cons (.con (.int 3)) .nil))) (.con (.int 0)))) (.seq (.set 3 (.bin .mul (.bin .mul (.call 10 (.cons (.var 0) (.cons (.bin .pow (.con (.int 10)) (.con (.int 13))) .nil))) (.bin .pow (.con (.int 10)) (.con (.int 13)))) (.bin .sub (.con (.int 1)) (.bin .mul (.con (.int 2)) (.call 10 (.cons (.var 0) (.cons (.con (.int 2)) .nil))))))) .skip) .skip) (.seq (.ite (.cmp .eq (.idx (.var 1) (.con (.int 0))) (.con (.str [102, 114, 97, 99, 116, 105, 111, 110, 115]))) (.seq (.ret (.call 12 (.cons (.bin .sub (.bin .add (.var 3) (.call 10 (.cons (.var 0) (.cons (.con (.int 9)) .nil)))) (.con (.int 4))) (.cons (.bin .add (.con (.int 1)) (.call 10 (.cons (.var 0) (.cons (.con (.int 4)) .nil)))) .nil)))) .skip) .skip) (.seq (.ite (.cmp .eq (.idx (.var 1) (.con (.int 0))) (.con (.str [114, 101, 115, 105, 100, 117, 101, 115]))) (.seq (.ret (.call 10 (.cons (.var 0) (.cons (.idx (.var 1) (.con (.int 1))) .nil)))) .skip) .skip) (.seq (.ite (.cmp .eq (.idx (.var 1) (.con (.int 0))) (.con (.str [99, 111, 115, 116, 115]))) (.seq (.ret (.bin .sub (.bin .add (.var 3) (.call 10 (.cons (.var 0) (.cons (.con (.int 9)) .nil)))) (.con (.int 2)))) .skip) .skip) (.seq (.ret (.cmp .eq (.call 10 (.cons (.var 0) (.cons (.con (.int 2)) .nil))) (.con (.int 0)))) .skip)))))))
def d__law_weight : Z.Df := ⟨none, "_law_weight", "_law_weight", (Z.topS prog 43), ["_law_state_here", "_law_sort_here", "_law_great", "_law_far"], 3, b__law_weight⟩
def b__law_line : Z.S := (.seq (.ret (.b1 .tup (.comp .rng (.cons (.var 2) .nil) (.one 4) [4] (.call 18 (.cons (.var 0) (.cons (.var 1) (.cons (.var 3) .nil)))) .nil))) .skip)
def d__law_line : Z.Df := ⟨none, "_law_line", "_law_line", (Z.topS prog 44), ["_law_state_here", "_law_sort_here", "_law_many", "_law_great", "_law_k"], 4, b__law_line⟩
def b__law_table : Z.S := (.seq (.ret (.b1 .tup (.comp .rng (.cons (.var 2) .nil) (.one 5) [5] (.call 19 (.cons (.var 0) (.cons (.var 1) (.cons (.var 3) (.cons (.var 4) .nil))))) .nil))) .skip)
def d__law_table : Z.Df := ⟨none, "_law_table", "_law_table", (Z.topS prog 45), ["_law_state_here", "_law_sort_here", "_law_high", "_law_wide", "_law_great", "_law_k"], 5, b__law_table⟩
def l0__law_letters : Z.S := (.seq (.set 4 (.call 10 (.cons (.var 0) (.cons (.b1 .len (.var 1)) .nil)))) (.seq (.set 2 (.bin .add (.var 2) (.idx (.var 1) (.var 4)))) (.seq (.set 1 (.bin .add (.sl (.var 1) .nil (.var 4)) (.sl (.var 1) (.bin .add (.var 4) (.con (.int 1))) .nil))) .skip)))
def b__law_letters : Z.S := (.seq (.set 1 (.con (.str [97, 98, 99, 100, 101, 102, 103, 104, 105, 106, 107, 108, 109, 110, 111, 112, 113, 114, 115, 116, 117, 118, 119, 120, 121, 122]))) (.seq (.set 2 (.con (.str []))) (.seq (.loop .rng (.cons (.bin .add (.con (.int 1)) (.call 10 (.cons (.var 0) (.cons (.con (.int 3)) .nil)))) .nil) (.one 3) l0__law_letters) (.seq (.ret (.var 2)) .skip))))
def d__law_letters : Z.Df := ⟨none, "_law_letters", "_law_letters", (Z.topS prog 46), ["_law_state_here", "_law_pool", "_law_letters_here", "_law_k", "_law_at"], 1, b__law_letters⟩
def b__law_machine : Z.S := (.seq (.set 5 (.call 19 (.cons (.var 0) (.cons (.var 1) (.cons (.var 3) (.cons (.var 4) .nil)))))) (.seq (.set 6 (.b1 .tup (.comp .seq (.cons (.var 2) .nil) (.one 7) [7] (.call 20 (.cons (.var 0) (.cons (.var 1) (.cons (.var 3) (.cons (.var 3) (.cons (.var 4) .nil)))))) .nil))) (.seq (.ret (.tup (.cons (.var 2) (.cons (.var 5) (.cons (.var 6) (.cons (.call 19 (.cons (.var 0) (.cons (.var 1) (.cons (.var 3) (.cons (.var 4) .nil))))) .nil)))))) .skip)))
def d__law_machine : Z.Df := ⟨none, "_law_machine", "_law_machine", (Z.topS prog 47), ["_law_state_here", "_law_sort_here", "_law_letters_here", "_law_many", "_law_great", "_law_start", "_law_tables", "_law_letter"], 5, b__law_machine⟩
def l0__law_dot : Z.S := (.seq (.set 3 (.call 13 (.cons (.var 0) (.cons (.var 3) (.cons (.call 14 (.cons (.var 0) (.cons (.var 4) (.cons (.var 5) .nil)))) .nil))))) .skip)
def b__law_dot : Z.S := (.seq (.set 3 (.call 15 (.cons (.var 0) .nil))) (.seq (.loop .zip (.cons (.var 1) (.cons (.var 2) .nil)) (.tup [4, 5]) l0__law_dot) (.seq (.ret (.var 3)) .skip)))
def d__law_dot : Z.Df := ⟨none, "_law_dot", "_law_dot", (Z.topS prog 48), ["_law_sort_here", "_law_row", "_law_column", "_law_total", "_law_x", "_law_y"], 3, b__law_dot⟩
def l0__law_step : Z.S := (.seq (.ex (.mut .append 3 (.cons (.call 23 (.cons (.var 0) (.cons (.var 1) (.cons (.comp .seq (.cons (.var 2) .nil) (.one 5) [5] (.idx (.var 5) (.var 4)) .nil) .nil)))) .nil))) .skip)
def b__law_step : Z.S := (.seq (.set 3 (.lst .nil)) (.seq (.loop .rng (.cons (.b1 .len (.var 1)) .nil) (.one 4) l0__law_step) (.seq (.ret (.b1 .tup (.var 3))) .skip)))
def d__law_step : Z.Df := ⟨none, "_law_step", "_law_step", (Z.topS prog 49), ["_law_sort_here", "_law_row", "_law_table_here", "_law_found", "_law_k", "_law_line_here"], 3, b__law_step⟩
def l0__law_weigh : Z.S := (.seq (.set 3 (.call 24 (.cons (.var 0) (.cons (.var 3) (.cons (.idx (.idx (.var 1) (.con (.int 2))) (.bm .index (.idx (.var 1) (.con (.int 0))) (.cons (.var 4) .nil))) .nil))))) .skip)
def b__law_weigh : Z.S := (.seq (.set 3 (.idx (.var 1) (.con (.int 1)))) (.seq (.loop .seq (.cons (.var 2) .nil) (.one 4) l0__law_weigh) (.seq (.ret (.call 23 (.cons (.var 0) (.cons (.var 3) (.cons (.idx (.var 1) (.con (.int 3))) .nil))))) .skip)))
def d__law_weigh : Z.Df := ⟨none, "_law_weigh", "_law_weigh", (Z.topS prog 50), ["_law_sort_here", "_law_machine_here", "_law_word", "_law_row", "_law_letter"], 3, b__law_weigh⟩
def l0__law_words : Z.S := (.seq (.ex (.mut .append 5 (.cons (.bin .add (.var 6) (.var 7)) .nil))) .skip)
def l1__law_words : Z.S := (.seq (.loop .seq (.cons (.var 0) .nil) (.one 7) l0__law_words) .skip)
def l2__law_words : Z.S := (.seq (.set 5 (.lst .nil)) (.seq (.loop .seq (.cons (.var 3) .nil) (.one 6) l1__law_words) (.seq (.set 3 (.var 5)) (.seq (.set 2 (.bin .add (.var 2) (.var 3))) .skip))))
def b__law_words : Z.S := (.seq (.set 2 (.lst (.cons (.con (.str [])) .nil))) (.seq (.set 3 (.lst (.cons (.con (.str [])) .nil))) (.seq (.loop .rng (.cons (.var 1) .nil) (.one 4) l2__law_words) (.seq (.ret (.var 2)) .skip))))
def d__law_words : Z.Df := ⟨none, "_law_words", "_law_words", (Z.topS prog 51), ["_law_letters_here", "_law_most", "_law_found", "_law_level", "_law_k", "_law_grown", "_law_word", "_law_letter"], 2, b__law_words⟩
def b__law_same : Z.S := (.seq (.ite (.cmp .eq (.idx (.var 0) (.con (.int 0))) (.con (.str [116, 114, 117, 116, 104, 115]))) (.seq (.ret (.and (.isi (.var 1) .bool) (.cmp .eq (.var 1) (.var 2)))) .skip) .skip) (.seq (.ite (.or (.cmp .is (.var 2) (.con .non)) (.cmp .is (.var 1) (.con .non))) (.seq (.ret (.and (.cmp .is (.var 2) (.con .non)) (.cmp .is (.var 1) (.con .non)))) .skip) .skip) (.seq (.ite (.cmp .eq (.idx (.var 0) (.con (.int 0))) (.con (.str [102, 114, 97, 99, 116, 105, 111, 110, 115]))) (.seq (.ite (.or (.nt (.isi (.var 1) .tup)) (.or (.cmp .ne (.b1 .len (.var 1)) (.con (.int 2))) (.or (.isi (.idx (.var 1) (.con (.int 0))) .bool) (.isi (.idx (.var 1) (.con (.int 1))) .bool)))) (.seq (.ret (.con (.bl false))) .skip) .skip) (.seq (.ret (.and (.isi (.idx (.var 1) (.con (.int 0))) .int) (.and (.isi (.idx (.var 1) (.con (.int 1))) .int) (.cmp .eq (.var 1) (.var 2))))) .skip)) .skip) (.seq (.ret (.and (.isi (.var 1) .int) (.and (.nt (.isi (.var 1) .bool)) (.cmp .eq (.var 1) (.var 2))))) .skip))))
def d__law_same : Z.Df := ⟨none, "_law_same", "_law_same", (Z.topS prog 52), ["_law_sort_here", "_law_found", "_law_due"], 3, b__law_same⟩
def l0_law : Z.S := (.seq (.ite (.nt (.call 27 (.cons (.var 2) (.cons (.call 25 (.cons (.var 2) (.cons (.var 7) (.cons (.var 12) .nil)))) (.cons (.call 25 (.cons (.var 2) (.cons (.var 6) (.cons (.rv (.var 12)) .nil)))) .nil))))) (.seq (.ret (.con (.bl false))) .skip) .skip) (.seq (.ite (.nt (.call 27 (.cons (.var 2) (.cons (.call 25 (.cons (.var 2) (.cons (.var 8) (.cons (.var 12) .nil)))) (.cons (.call 25 (.cons (.var 2) (.cons (.var 6) (.cons (.var 12) .nil)))) .nil))))) (.seq (.ret (.con (.bl false))) .skip) .skip) .skip))
def l1_law : Z.S := (.seq (.set 10 (.bin .add (.var 10) (.idx (.var 4) (.bin .mod (.var 11) (.b1 .len (.var 4)))))) .skip)
def l2_law : Z.S := (.seq (.ite (.or (.cmp .isn (.call 4 (.cons (.var 3) (.cons (.var 9) .nil))) (.con (.bl true))) (.or (.cmp .ne (.idx (.var 9) (.con (.int 0))) (.var 4)) (.cmp .ne (.b1 .len (.idx (.var 9) (.con (.int 1)))) (.b1 .len (.idx (.var 6) (.con (.int 1))))))) (.seq (.ret (.con (.bl false))) .skip) .skip) .skip)
def b_law : Z.S := (.seq (.set 1 (.call 11 (.cons (.var 0) .nil))) (.seq (.set 2 (.call 16 (.cons (.var 1) (.cons (.call 10 (.cons (.var 1) (.cons (.con (.int 4)) .nil))) .nil)))) (.seq (.set 3 (.call 17 (.cons (.var 2) .nil))) (.seq (.set 4 (.call 21 (.cons (.var 1) .nil))) (.seq (.set 5 (.call 10 (.cons (.var 1) (.cons (.con (.int 6)) .nil)))) (.seq (.ite (.cmp .eq (.call 10 (.cons (.var 1) (.cons (.con (.int 8)) .nil))) (.con (.int 7))) (.seq (.set 5 (.bin .add (.con (.int 6)) (.call 10 (.cons (.var 1) (.cons (.con (.int 7)) .nil))))) .skip) .skip) (.seq (.set 6 (.call 22 (.cons (.var 1) (.cons (.var 2) (.cons (.var 4) (.cons (.var 5) (.cons (.cmp .eq (.call 10 (.cons (.var 1) (.cons (.con (.int 2)) .nil))) (.con (.int 0))) .nil))))))) (.seq (.set 7 (.call 6 (.cons (.var 3) (.cons (.var 6) .nil)))) (.seq (.set 8 (.call 6 (.cons (.var 3) (.cons (.var 7) .nil)))) (.seq (.loop .seq (.cons (.lst (.cons (.var 7) (.cons (.var 8) .nil))) .nil) (.one 9) l2_law) (.seq (.set 10 (.con (.str []))) (.seq (.loop .seq (.cons (.sl (.var 0) .nil (.con (.int 30))) .nil) (.one 11) l1_law) (.seq (.ite (.cmp .eq (.idx (.var 2) (.con (.int 0))) (.con (.str [102, 114, 97, 99, 116, 105, 111, 110, 115]))) (.seq (.set 10 (.sl (.var 10) .nil (.con (.int 12)))) .skip) .skip) (.seq (.loop .seq (.cons (.bin .add (.call 26 (.cons (.var 4) (.cons (.idx (.lst (.cons (.con (.int 6)) (.cons (.con (.int 3)) (.cons (.con (.int 2)) .nil)))) (.bin .sub (.b1 .len (.var 4)) (.con (.int 1)))) .nil))) (.lst (.cons (.var 10) .nil))) .nil) (.one 12) l0_law) (.seq (.ret (.con (.bl true))) .skip)))))))))))))))
def d_law : Z.Df := ⟨none, "law", "law", (Z.topS prog 53), ["_law_script", "_law_state_here", "_law_sort_here", "_law_kind_here", "_law_letters_here", "_law_many", "_law_machine_here", "_law_found", "_law_again", "_law_one", "_law_long_word", "_law_cell", "_law_word"], 1, b_law⟩
def b_Fractions_is_weight : Z.S := (.seq (.ite (.or (.nt (.isi (.var 1) .tup)) (.cmp .ne (.b1 .len (.var 1)) (.con (.int 2)))) (.seq (.ret (.con (.bl false))) .skip) .skip) (.seq (.ite (.or (.nt (.call 8 (.cons (.idx (.var 1) (.con (.int 0))) .nil))) (.or (.nt (.call 8 (.cons (.idx (.var 1) (.con (.int 1))) .nil))) (.cmp .lt (.idx (.var 1) (.con (.int 1))) (.con (.int 1))))) (.seq (.ret (.con (.bl false))) .skip) .skip) (.seq (.ret (.cmp .eq (.call 7 (.cons (.idx (.var 1) (.con (.int 0))) (.cons (.idx (.var 1) (.con (.int 1))) .nil))) (.con (.int 1)))) .skip)))
def d_Fractions_is_weight : Z.Df := ⟨(some "Fractions"), "is_weight", "Fractions.is_weight", (Z.metS prog 30 7), ["self", "thing"], 2, b_Fractions_is_weight⟩
def b_Residues___init__ : Z.S := (.seq (.ite (.or (.nt (.call 8 (.cons (.var 1) .nil))) (.or (.cmp .gt (.var 1) (.glo 3)) (.nt (.call 9 (.cons (.var 1) .nil))))) (.seq (.rai 1) .skip) .skip) (.seq (.setf 0 (.var 1)) .skip))
def d_Residues___init__ : Z.Df := ⟨(some "Residues"), "__init__", "Residues.__init__", (Z.metS prog 31 0), ["self", "prime"], 2, b_Residues___init__⟩
def b_Residues_is_weight : Z.S := (.seq (.ret (.and (.call 8 (.cons (.var 1) .nil)) (.cmp2 .le .lt (.con (.int 0)) (.var 1) (.fld (.var 0) 0)))) .skip)
def d_Residues_is_weight : Z.Df := ⟨(some "Residues"), "is_weight", "Residues.is_weight", (Z.metS prog 31 8), ["self", "thing"], 2, b_Residues_is_weight⟩
def b_Costs_is_weight : Z.S := (.seq (.ret (.or (.cmp .is (.var 1) (.con .non)) (.call 8 (.cons (.var 1) .nil)))) .skip)
def d_Costs_is_weight : Z.Df := ⟨(some "Costs"), "is_weight", "Costs.is_weight", (Z.metS prog 32 5), ["self", "thing"], 2, b_Costs_is_weight⟩
def b_Truths_is_weight : Z.S := (.seq (.ret (.isi (.var 1) .bool)) .skip)
def d_Truths_is_weight : Z.Df := ⟨(some "Truths"), "is_weight", "Truths.is_weight", (Z.metS prog 33 5), ["self", "thing"], 2, b_Truths_is_weight⟩
def pg : Z.Pg where
  ds := [d_column_at, d_is_letters, d_is_line, d_is_square, d_is_machine, d_rooms, d_turned, d_divisor, d_is_whole, d_is_prime, d__law_next, d__law_state, d__law_low, d__law_plus, d__law_times, d__law_nought, d__law_sort, d__law_kind, d__law_weight, d__law_line, d__law_table, d__law_letters, d__law_machine, d__law_dot, d__law_step, d__law_weigh, d__law_words, d__law_same, d_law, d_Fractions_is_weight, d_Residues___init__, d_Residues_is_weight, d_Costs_is_weight, d_Truths_is_weight]
  fn := ["column_at", "is_letters", "is_line", "is_square", "is_machine", "rooms", "turned", "divisor", "is_whole", "is_prime", "_law_next", "_law_state", "_law_low", "_law_plus", "_law_times", "_law_nought", "_law_sort", "_law_kind", "_law_weight", "_law_line", "_law_table", "_law_letters", "_law_machine", "_law_dot", "_law_step", "_law_weigh", "_law_words", "_law_same", "law"]
  cn := ["WeighError", "NoKind", "NoText", "Kind", "Field", "Picking", "Fractions", "Residues", "Costs", "Truths"]
  ci := [{ flds := [], init := none, ins := false, exn := true, sup := [0, 10] }, { flds := [], init := none, ins := false, exn := true, sup := [1, 0, 10] }, { flds := [], init := none, ins := false, exn := true, sup := [2, 0, 10] }, { flds := [], init := none, ins := true, exn := false, sup := [3] }, { flds := [], init := none, ins := true, exn := false, sup := [4, 3] }, { flds := [], init := none, ins := true, exn := false, sup := [5, 3] }, { flds := [], init := none, ins := true, exn := false, sup := [6, 4, 3] }, { flds := [0], init := some 30, ins := true, exn := false, sup := [7, 4, 3] }, { flds := [], init := none, ins := true, exn := false, sup := [8, 5, 3] }, { flds := [], init := none, ins := true, exn := false, sup := [9, 5, 3] }]
  mn := ["is_weight"]
  fl := ["prime"]
  mt := [(6, 0, 29), (7, 0, 31), (8, 0, 32), (9, 0, 33)]
  gl := [("SMALL", (.str [97, 98, 99, 100, 101, 102, 103, 104, 105, 106, 107, 108, 109, 110, 111, 112, 113, 114, 115, 116, 117, 118, 119, 120, 121, 122])), ("MOST_LETTERS", (.int 3)), ("MOST_ROOMS", (.int 20)), ("MOST_PRIME", (.int 1000000))]
  vE := 10
abbrev B : Z.Tb := pg.tb
abbrev T : Nat → Option Z.Fn := Z.Tof pg.ds
@[simp] theorem mt_6_0 : B.mth 6 0 = some 29 := rfl
@[simp] theorem mt_7_0 : B.mth 7 0 = some 31 := rfl
@[simp] theorem mt_8_0 : B.mth 8 0 = some 32 := rfl
@[simp] theorem mt_9_0 : B.mth 9 0 = some 33 := rfl
theorem r_column_at (n : Nat) (ss : List Z.Sl) (h : ss.length = 2) : Z.cal B T (n + 1) 0 ss = Z.finF 2 (Z.exe B (Z.cal B T n) b_column_at (ss ++ [.u])) := Z.cal_run (F := ⟨2, 3, b_column_at⟩) rfl h
theorem r_is_letters (n : Nat) (ss : List Z.Sl) (h : ss.length = 1) : Z.cal B T (n + 1) 1 ss = Z.finF 1 (Z.exe B (Z.cal B T n) b_is_letters (ss ++ [.u])) := Z.cal_run (F := ⟨1, 2, b_is_letters⟩) rfl h
theorem r_is_line (n : Nat) (ss : List Z.Sl) (h : ss.length = 3) : Z.cal B T (n + 1) 2 ss = Z.finF 3 (Z.exe B (Z.cal B T n) b_is_line (ss ++ [.u])) := Z.cal_run (F := ⟨3, 4, b_is_line⟩) rfl h
theorem r_is_square (n : Nat) (ss : List Z.Sl) (h : ss.length = 3) : Z.cal B T (n + 1) 3 ss = Z.finF 3 (Z.exe B (Z.cal B T n) b_is_square (ss ++ [.u])) := Z.cal_run (F := ⟨3, 4, b_is_square⟩) rfl h
theorem r_is_machine (n : Nat) (ss : List Z.Sl) (h : ss.length = 2) : Z.cal B T (n + 1) 4 ss = Z.finF 2 (Z.exe B (Z.cal B T n) b_is_machine (ss ++ [.u, .u, .u, .u, .u, .u])) := Z.cal_run (F := ⟨2, 8, b_is_machine⟩) rfl h
theorem r_rooms (n : Nat) (ss : List Z.Sl) (h : ss.length = 1) : Z.cal B T (n + 1) 5 ss = Z.finF 1 (Z.exe B (Z.cal B T n) b_rooms (ss ++ [])) := Z.cal_run (F := ⟨1, 1, b_rooms⟩) rfl h
theorem r_turned (n : Nat) (ss : List Z.Sl) (h : ss.length = 2) : Z.cal B T (n + 1) 6 ss = Z.finF 2 (Z.exe B (Z.cal B T n) b_turned (ss ++ [.u, .u, .u])) := Z.cal_run (F := ⟨2, 5, b_turned⟩) rfl h
theorem r_divisor (n : Nat) (ss : List Z.Sl) (h : ss.length = 2) : Z.cal B T (n + 1) 7 ss = Z.finF 2 (Z.exe B (Z.cal B T n) b_divisor (ss ++ [])) := Z.cal_run (F := ⟨2, 2, b_divisor⟩) rfl h
theorem r_is_whole (n : Nat) (ss : List Z.Sl) (h : ss.length = 1) : Z.cal B T (n + 1) 8 ss = Z.finF 1 (Z.exe B (Z.cal B T n) b_is_whole (ss ++ [])) := Z.cal_run (F := ⟨1, 1, b_is_whole⟩) rfl h
theorem r_is_prime (n : Nat) (ss : List Z.Sl) (h : ss.length = 1) : Z.cal B T (n + 1) 9 ss = Z.finF 1 (Z.exe B (Z.cal B T n) b_is_prime (ss ++ [.u])) := Z.cal_run (F := ⟨1, 2, b_is_prime⟩) rfl h
theorem r__law_next (n : Nat) (ss : List Z.Sl) (h : ss.length = 2) : Z.cal B T (n + 1) 10 ss = Z.finF 2 (Z.exe B (Z.cal B T n) b__law_next (ss ++ [.u])) := Z.cal_run (F := ⟨2, 3, b__law_next⟩) rfl h
theorem r__law_state (n : Nat) (ss : List Z.Sl) (h : ss.length = 1) : Z.cal B T (n + 1) 11 ss = Z.finF 1 (Z.exe B (Z.cal B T n) b__law_state (ss ++ [.u, .u])) := Z.cal_run (F := ⟨1, 3, b__law_state⟩) rfl h
theorem r__law_low (n : Nat) (ss : List Z.Sl) (h : ss.length = 2) : Z.cal B T (n + 1) 12 ss = Z.finF 2 (Z.exe B (Z.cal B T n) b__law_low (ss ++ [.u, .u])) := Z.cal_run (F := ⟨2, 4, b__law_low⟩) rfl h
theorem r__law_plus (n : Nat) (ss : List Z.Sl) (h : ss.length = 3) : Z.cal B T (n + 1) 13 ss = Z.finF 3 (Z.exe B (Z.cal B T n) b__law_plus (ss ++ [])) := Z.cal_run (F := ⟨3, 3, b__law_plus⟩) rfl h
theorem r__law_times (n : Nat) (ss : List Z.Sl) (h : ss.length = 3) : Z.cal B T (n + 1) 14 ss = Z.finF 3 (Z.exe B (Z.cal B T n) b__law_times (ss ++ [])) := Z.cal_run (F := ⟨3, 3, b__law_times⟩) rfl h
theorem r__law_nought (n : Nat) (ss : List Z.Sl) (h : ss.length = 1) : Z.cal B T (n + 1) 15 ss = Z.finF 1 (Z.exe B (Z.cal B T n) b__law_nought (ss ++ [])) := Z.cal_run (F := ⟨1, 1, b__law_nought⟩) rfl h
theorem r__law_sort (n : Nat) (ss : List Z.Sl) (h : ss.length = 2) : Z.cal B T (n + 1) 16 ss = Z.finF 2 (Z.exe B (Z.cal B T n) b__law_sort (ss ++ [.u])) := Z.cal_run (F := ⟨2, 3, b__law_sort⟩) rfl h
theorem r__law_kind (n : Nat) (ss : List Z.Sl) (h : ss.length = 1) : Z.cal B T (n + 1) 17 ss = Z.finF 1 (Z.exe B (Z.cal B T n) b__law_kind (ss ++ [])) := Z.cal_run (F := ⟨1, 1, b__law_kind⟩) rfl h
theorem r__law_weight (n : Nat) (ss : List Z.Sl) (h : ss.length = 3) : Z.cal B T (n + 1) 18 ss = Z.finF 3 (Z.exe B (Z.cal B T n) b__law_weight (ss ++ [.u])) := Z.cal_run (F := ⟨3, 4, b__law_weight⟩) rfl h
theorem r__law_line (n : Nat) (ss : List Z.Sl) (h : ss.length = 4) : Z.cal B T (n + 1) 19 ss = Z.finF 4 (Z.exe B (Z.cal B T n) b__law_line (ss ++ [.u])) := Z.cal_run (F := ⟨4, 5, b__law_line⟩) rfl h
theorem r__law_table (n : Nat) (ss : List Z.Sl) (h : ss.length = 5) : Z.cal B T (n + 1) 20 ss = Z.finF 5 (Z.exe B (Z.cal B T n) b__law_table (ss ++ [.u])) := Z.cal_run (F := ⟨5, 6, b__law_table⟩) rfl h
theorem r__law_letters (n : Nat) (ss : List Z.Sl) (h : ss.length = 1) : Z.cal B T (n + 1) 21 ss = Z.finF 1 (Z.exe B (Z.cal B T n) b__law_letters (ss ++ [.u, .u, .u, .u])) := Z.cal_run (F := ⟨1, 5, b__law_letters⟩) rfl h
theorem r__law_machine (n : Nat) (ss : List Z.Sl) (h : ss.length = 5) : Z.cal B T (n + 1) 22 ss = Z.finF 5 (Z.exe B (Z.cal B T n) b__law_machine (ss ++ [.u, .u, .u])) := Z.cal_run (F := ⟨5, 8, b__law_machine⟩) rfl h
theorem r__law_dot (n : Nat) (ss : List Z.Sl) (h : ss.length = 3) : Z.cal B T (n + 1) 23 ss = Z.finF 3 (Z.exe B (Z.cal B T n) b__law_dot (ss ++ [.u, .u, .u])) := Z.cal_run (F := ⟨3, 6, b__law_dot⟩) rfl h
theorem r__law_step (n : Nat) (ss : List Z.Sl) (h : ss.length = 3) : Z.cal B T (n + 1) 24 ss = Z.finF 3 (Z.exe B (Z.cal B T n) b__law_step (ss ++ [.u, .u, .u])) := Z.cal_run (F := ⟨3, 6, b__law_step⟩) rfl h
theorem r__law_weigh (n : Nat) (ss : List Z.Sl) (h : ss.length = 3) : Z.cal B T (n + 1) 25 ss = Z.finF 3 (Z.exe B (Z.cal B T n) b__law_weigh (ss ++ [.u, .u])) := Z.cal_run (F := ⟨3, 5, b__law_weigh⟩) rfl h
theorem r__law_words (n : Nat) (ss : List Z.Sl) (h : ss.length = 2) : Z.cal B T (n + 1) 26 ss = Z.finF 2 (Z.exe B (Z.cal B T n) b__law_words (ss ++ [.u, .u, .u, .u, .u, .u])) := Z.cal_run (F := ⟨2, 8, b__law_words⟩) rfl h
theorem r__law_same (n : Nat) (ss : List Z.Sl) (h : ss.length = 3) : Z.cal B T (n + 1) 27 ss = Z.finF 3 (Z.exe B (Z.cal B T n) b__law_same (ss ++ [])) := Z.cal_run (F := ⟨3, 3, b__law_same⟩) rfl h
theorem r_law (n : Nat) (ss : List Z.Sl) (h : ss.length = 1) : Z.cal B T (n + 1) 28 ss = Z.finF 1 (Z.exe B (Z.cal B T n) b_law (ss ++ [.u, .u, .u, .u, .u, .u, .u, .u, .u, .u, .u, .u])) := Z.cal_run (F := ⟨1, 13, b_law⟩) rfl h
theorem r_Fractions_is_weight (n : Nat) (ss : List Z.Sl) (h : ss.length = 2) : Z.cal B T (n + 1) 29 ss = Z.finF 2 (Z.exe B (Z.cal B T n) b_Fractions_is_weight (ss ++ [])) := Z.cal_run (F := ⟨2, 2, b_Fractions_is_weight⟩) rfl h
theorem r_Residues___init__ (n : Nat) (ss : List Z.Sl) (h : ss.length = 2) : Z.cal B T (n + 1) 30 ss = Z.finF 2 (Z.exe B (Z.cal B T n) b_Residues___init__ (ss ++ [])) := Z.cal_run (F := ⟨2, 2, b_Residues___init__⟩) rfl h
theorem r_Residues_is_weight (n : Nat) (ss : List Z.Sl) (h : ss.length = 2) : Z.cal B T (n + 1) 31 ss = Z.finF 2 (Z.exe B (Z.cal B T n) b_Residues_is_weight (ss ++ [])) := Z.cal_run (F := ⟨2, 2, b_Residues_is_weight⟩) rfl h
theorem r_Costs_is_weight (n : Nat) (ss : List Z.Sl) (h : ss.length = 2) : Z.cal B T (n + 1) 32 ss = Z.finF 2 (Z.exe B (Z.cal B T n) b_Costs_is_weight (ss ++ [])) := Z.cal_run (F := ⟨2, 2, b_Costs_is_weight⟩) rfl h
theorem r_Truths_is_weight (n : Nat) (ss : List Z.Sl) (h : ss.length = 2) : Z.cal B T (n + 1) 33 ss = Z.finF 2 (Z.exe B (Z.cal B T n) b_Truths_is_weight (ss ++ [])) := Z.cal_run (F := ⟨2, 2, b_Truths_is_weight⟩) rfl h
theorem st : pg.stat = true := by kernel_rfl
abbrev R : PySem.W.OpenRow := PySem.W.OpenLaw.row PySem.Challenge.rw_weighwalk_k24_turned
theorem run (w : World) : HandSHeadRun.RunEq R (PySem.W.view R.prog [53]) (Z.hookZ 5 pg) (Z.obZ 5 pg) 9000 ((["_wall", "WeighError", "NoKind", "NoText", "column_at", "SMALL", "MOST_LETTERS", "MOST_ROOMS", "is_letters", "is_line", "is_square", "is_machine", "rooms", "turned", "divisor", "FIGURES", "MOST_FIGURES", "MOST_PRIME", "is_whole", "read_whole", "is_prime", "Kind", "Field", "Picking", "Fractions", "Residues", "Costs", "Truths", "_law_next", "_law_state"] : List PySem.Str) ++ (["_law_low", "_law_plus", "_law_times", "_law_nought", "_law_sort", "_law_kind", "_law_weight", "_law_line", "_law_table", "_law_letters", "_law_machine", "_law_dot", "_law_step", "_law_weigh", "_law_words", "_law_same"] : List PySem.Str)) w := by
  intro os
  kernel_rfl
end K24

namespace K24
open PySem Z
def kC (w : Nat) : Nat := 6 + w
abbrev SS' (p : Int) (h : Pr p) (w : Nat) : Sr := srOf p h.gt w
abbrev QQ (p : Int) (h : Pr p) (w : Nat) : Sq (srOf p h.gt w) := sqOf p h.gt w
abbrev KO (p : Int) (w : Nat) : D := .obj (kC w) (kV p w)
theorem c_next (n : Nat) : HNext (cal B T (n + 1)) 10 := fun l m hl h0 hm => by
  obtain ⟨v, l', a, b, c, e⟩ := g_next (B := B) (Φ := cal B T n) l hl m h0 hm
  exact ⟨v, l', a, b, c, by rw [r__law_next _ _ rfl]; exact e⟩
theorem c_state (n : Nat) (ns : List Int) : ∃ l, dOk l ∧ cal B T (n + 1) 11 [.v (.lst (ns.map .int)) false] = .ok (.o (.L (l.map .int))) [.u] := by
  obtain ⟨l, h, e⟩ := g_state (B := B) (Φ := cal B T n) ns
  exact ⟨l, h, by rw [r__law_state _ _ rfl]; exact e⟩
theorem c_divisor (n : Nat) : HDv (cal B T (n + 1)) 7 := fun a b => by
  rw [r_divisor _ _ rfl]; exact g_divisor a b
theorem c_whole (n : Nat) : HW (cal B T (n + 1)) 8 := fun a => by
  rw [r_is_whole _ _ rfl]; exact g_whole a
theorem c_low (n : Nat) : HFb (cal B T (n + 1)) 12 := fun a b h h0 h1 => by
  rw [r__law_low _ _ rfl]; exact g_low2 a b h h0 h1
theorem c_prime (n : Nat) (p : Int) (h : Pr p) : cal B T (n + 1) 9 [.v (.int p) false] = .ok (.v (.bl true)) [.u] := by
  obtain ⟨m, h1, h2⟩ := h.pr
  have b : p.natAbs < 10 ^ 1000 := pow_le_big (m := 7) (by have := h.le; have := h.gt; omega) (by decide)
  rw [r_is_prime _ _ rfl]
  have g := g_prime (B := B) (Φ := cal B T n) _ prime_add p b m h1
  rw [h2, decide_eq_true (show 2 ≤ p by have := h.gt; omega)] at g
  exact g
theorem flR : (B.cls 7).flds = [0] := rfl
theorem ini0 : (B.cls 6).init = none := rfl
theorem ini1 : (B.cls 7).init = some 30 := rfl
theorem ini2 : (B.cls 8).init = none := rfl
theorem ini3 : (B.cls 9).init = none := rfl
theorem c_init (n : Nat) (p : Int) (h : Pr p) : cal B T (n + 2) 30 [.n 7 [], .v (.int p) false] = .ok (.v .non) [.n 7 [.int p], .u] := by
  rw [r_Residues___init__ _ _ rfl]
  have q := c_prime n p h
  have g := g_Rini (B := B) (Φ := cal B T (n + 1)) (c := 7) (qw := 8) (qp := 9) (g := 3) (ce := 1) (f := 0) (c_whole n) rfl flR p true (fun _ => q)
  rw [if_pos ⟨h.le, rfl⟩] at g
  exact g
theorem c_kind (n : Nat) (p : Int) (h : Pr p) (w : Nat) (hw : w < 4) : cal B T (n + 3) 17 [.v (soD p w) false] = .ok (.v (.obj (kC w) (kV p w))) [.u] := by
  rw [r__law_kind _ _ rfl]
  match w, hw with
  | 0, _ => simp [b__law_kind, soD, ini0, kC, kV]
  | 1, _ =>
    have i := c_init n p h
    simp [b__law_kind, soD, ini1, i, flR, kC, kV]
  | 2, _ => simp [b__law_kind, soD, ini2, kC, kV]
  | 3, _ => simp [b__law_kind, soD, ini3, kC, kV]
theorem c_lnought (n : Nat) (p : Int) (h : Pr p) (w : Nat) (hw : w < 4) : cal B T (n + 1) 15 [.v (soD p w) false] = .ok (.v ((SS' p h w).d (SS' p h w).z)) [.u] := by
  rw [r__law_nought _ _ rfl]; exact g_lnought p h.gt w hw
theorem c_lplus (n : Nat) (p : Int) (h : Pr p) (w : Nat) (hw : w < 4) : HLop (cal B T (n + 2)) (SS' p h w) (QQ p h w) (soD p w) (SS' p h w).add 13 := by
  match w, hw with
  | 0, _ => exact fun x y M A N A' h1 h2 h3 => by rw [r__law_plus _ _ rfl]; exact g_lplusF (c_low n) p x y h1 h2 h3
  | 1, _ => exact fun x y M A N A' h1 h2 h3 => by rw [r__law_plus _ _ rfl]; exact g_lplusR (hp := h.gt) x y
  | 2, _ => exact fun x y M A N A' h1 h2 h3 => by rw [r__law_plus _ _ rfl]; exact g_lplusC x y
  | 3, _ => exact fun x y M A N A' h1 h2 h3 => by rw [r__law_plus _ _ rfl]; exact g_lplusT x y
theorem c_ltimes (n : Nat) (p : Int) (h : Pr p) (w : Nat) (hw : w < 4) : HLop (cal B T (n + 2)) (SS' p h w) (QQ p h w) (soD p w) (SS' p h w).mul 14 := by
  match w, hw with
  | 0, _ => exact fun x y M A N A' h1 h2 h3 => by rw [r__law_times _ _ rfl]; exact g_ltimesF (c_low n) p x y h1 h2 h3
  | 1, _ => exact fun x y M A N A' h1 h2 h3 => by rw [r__law_times _ _ rfl]; exact g_ltimesR (hp := h.gt) h.le_big x y
  | 2, _ => exact fun x y M A N A' h1 h2 h3 => by rw [r__law_times _ _ rfl]; exact g_ltimesC x y
  | 3, _ => exact fun x y M A N A' h1 h2 h3 => by rw [r__law_times _ _ rfl]; exact g_ltimesT x y
theorem c_kw (n : Nat) (p : Int) (h : Pr p) (w : Nat) (hw : w < 4) : Kw (cal B T (n + 2)) (SS' p h w) (QQ p h w) (soD p w) 13 14 15 := ⟨c_lplus n p h w hw, c_ltimes n p h w hw, c_lnought (n + 1) p h w hw⟩
theorem c_ldotT (n : Nat) (p : Int) (h : Pr p) (w : Nat) (hw : w < 4) : HDot (cal B T (n + 3)) (QQ p h w) 23 (soD p w) := fun xs ys ⟨hl, P, A, A', L, b, d⟩ => by
  rw [r__law_dot _ _ rfl]; exact g_ldotT (c_kw n p h w hw) xs ys b d hl
theorem c_ldotL (n : Nat) (p : Int) (h : Pr p) (w : Nat) (hw : w < 4) : HDotL (cal B T (n + 3)) (QQ p h w) 23 (soD p w) := fun xs ys ⟨hl, P, A, A', L, b, d⟩ => by
  rw [r__law_dot _ _ rfl]; exact g_ldotL (c_kw n p h w hw) xs ys b d hl
theorem c_col (n : Nat) (s : Sr) : HCol (cal B T (n + 1)) s 0 := fun t j a b => by
  rw [r_column_at _ _ rfl]; exact g_col t j a b
theorem c_same (n : Nat) (p : Int) (h : Pr p) (w : Nat) (hw : w < 4) : HSame (cal B T (n + 1)) (SS' p h w) 27 (soD p w) := fun x => by
  rw [r__law_same _ _ rfl]; exact g_same p h.gt w hw x
theorem c_weight2 (n : Nat) (p : Int) (h : Pr p) (w : Nat) (hw : w < 4) : HWtP (cal B T (n + 2)) (SS' p h w) (Z90 (QQ p h w)) (soD p w) 18 := fun l g hl => by
  obtain ⟨x, l', a, b, e⟩ := g_weight2 (B := B) (c_next n) (c_low n) p h.gt (by
    have := h.le
    have : (1000000 : Int) < 10 ^ 20 := by decide
    omega) w hw (c_lnought n p h w hw) l hl g
  exact ⟨x, l', a, b, by rw [r__law_weight _ _ rfl]; exact e⟩
theorem c_line (n : Nat) (p : Int) (h : Pr p) (w : Nat) (hw : w < 4) : HLineP (cal B T (n + 3)) (SS' p h w) (Z90 (QQ p h w)) (soD p w) 19 := fun k l g hk hl => by
  obtain ⟨x, l', a, b, c, e⟩ := g_line (B := B) (c_weight2 n p h w hw) k hk l hl g
  exact ⟨x, l', a, b, c, by rw [r__law_line _ _ rfl]; exact e⟩
theorem c_table (n : Nat) (p : Int) (h : Pr p) (w : Nat) (hw : w < 4) : HTableP (cal B T (n + 4)) (SS' p h w) (Z90 (QQ p h w)) (soD p w) 20 := fun k m l g hk hm hl => by
  obtain ⟨x, l', a, b, c, e⟩ := g_table (B := B) (c_line n p h w hw) k m hk hm l hl g
  exact ⟨x, l', a, b, c, by rw [r__law_table _ _ rfl]; exact e⟩
theorem c_sort (n : Nat) (l : List Int) (hl : dOk l) (w : Nat) (hw : w < 4) : ∃ (p : Int) (l' : List Int), Pr p ∧ dOk l' ∧ cal B T (n + 2) 16 [.o (.L (l.map .int)) true, .v (.int (w : Nat)) false] = .ok (.v (soD p w)) [.o (.L (l'.map .int)) true, .u] := by
  obtain ⟨p, l', a, b, e⟩ := g_sort (B := B) (c_next n) l hl w hw
  exact ⟨p, l', a, b, by rw [r__law_sort _ _ rfl]; exact e⟩
theorem c_letters (n : Nat) : HLetters (cal B T (n + 2)) 21 := fun l hl => by
  obtain ⟨L, l', a, b, e⟩ := g_letters (B := B) (c_next n) l hl
  exact ⟨L, l', a, b, by rw [r__law_letters _ _ rfl]; exact e⟩
theorem c_machine (n : Nat) (p : Int) (h : Pr p) (w : Nat) (hw : w < 4) : HMachine (cal B T (n + 5)) (QQ p h w) (soD p w) 22 := fun L m l g hL hm hl => by
  obtain ⟨M, l', a, b, c, e⟩ := g_machine (B := B) (c_line (n + 1) p h w hw) (c_table n p h w hw) L hL m hm l hl g
  exact ⟨M, l', a, b, c, by rw [r__law_machine _ _ rfl]; exact e⟩
theorem c_rooms (k : Nat) {s : Sr} {Q : Sq s} {n e m : Nat} {M : Mc s} (h : MOk Q n e m M) (hm : m ≤ 1000) : cal B T (k + 1) 5 [.v M.d false] = .ok (.v (.int m)) [.u] := by
  rw [r_rooms _ _ rfl]; exact g_rooms h hm
theorem c_lstep (n : Nat) (p : Int) (h : Pr p) (w : Nat) (hw : w < 4) : HLst (cal B T (n + 4)) (QQ p h w) 24 (soD p w) := fun r t m a b c d e => by
  rw [r__law_step _ _ rfl]; exact g_lstep (c_ldotL n p h w hw) r t m a b c d e
theorem c_lweigh (n : Nat) (p : Int) (h : Pr p) (w : Nat) (hw : w < 4) : HWeigh (cal B T (n + 5)) (QQ p h w) 25 (soD p w) := fun v hM hm hv hf => by
  rw [r__law_weigh _ _ rfl]; exact g_lweigh (c_lstep n p h w hw) (c_ldotT (n + 1) p h w hw) hM hm v hv hf
theorem c_isw (n : Nat) (p : Int) (h : Pr p) (w : Nat) (hw : w < 4) : HIsw B (cal B T (n + 2)) (SS' p h w) (kC w) (kV p w) 0 := by
  match w, hw with
  | 0, _ => exact ⟨29, rfl, fun x => by rw [r_Fractions_is_weight _ _ rfl]; exact g_Fisw (c_whole n) (c_divisor n) x⟩
  | 1, _ => exact ⟨31, rfl, fun x => by rw [r_Residues_is_weight _ _ rfl]; exact g_Risw (hp := h.gt) (c_whole n) flR x⟩
  | 2, _ => exact ⟨32, rfl, fun x => by rw [r_Costs_is_weight _ _ rfl]; exact g_Cisw (c_whole n) x⟩
  | 3, _ => exact ⟨33, rfl, fun x => by rw [r_Truths_is_weight _ _ rfl]; exact g_Tisw x⟩
theorem c_isletters (n : Nat) : HIsLe (cal B T (n + 1)) 1 := fun L hL => by
  rw [r_is_letters _ _ rfl]; exact g_isletters rfl rfl L hL
theorem c_isline (n : Nat) (p : Int) (h : Pr p) (w : Nat) (hw : w < 4) : HIsL (cal B T (n + 3)) (SS' p h w) 2 (KO p w) := fun xs hl => by
  rw [r_is_line _ _ rfl]; exact g_isline (c_isw n p h w hw) xs hl
theorem c_issquare (n : Nat) (p : Int) (h : Pr p) (w : Nat) (hw : w < 4) : HIsS (cal B T (n + 4)) (SS' p h w) 3 (KO p w) := fun t k a b c => by
  rw [r_is_square _ _ rfl]; exact g_issquare (c_isline n p h w hw) t k a b c
theorem c_ismachine (n : Nat) (p : Int) (h : Pr p) (w : Nat) (hw : w < 4) : HIsM (cal B T (n + 5)) (QQ p h w) 4 (KO p w) := fun a b => by
  rw [r_is_machine _ _ rfl]; exact g_ismachine (c_isletters (n + 3)) rfl (c_isline (n + 1) p h w hw) (c_issquare n p h w hw) a b
theorem c_words (n : Nat) : HWords (cal B T (n + 1)) 26 := fun L hL k hk => by
  obtain ⟨ws, a, b, c, e⟩ := g_words (B := B) (Φ := cal B T n) L hL k hk
  exact ⟨ws, a, b, c, by rw [r__law_words _ _ rfl]; exact e⟩
theorem c_turned (n : Nat) (p : Int) (h : Pr p) (w : Nat) (hw : w < 4) : HTurned (cal B T (n + 2)) (QQ p h w) 6 (KO p w) := fun a b => by
  rw [r_turned _ _ rfl]; exact g_turned (fun a b => c_rooms n a b) (c_col n _) a b
def S_top (K : S) : S := (.seq (.set 1 (.call 11 (.cons (.var 0) .nil))) (.seq (.set 2 (.call 16 (.cons (.var 1) (.cons (.call 10 (.cons (.var 1) (.cons (.con (.int 4)) .nil))) .nil)))) (.seq (.set 3 (.call 17 (.cons (.var 2) .nil))) (.seq (.set 4 (.call 21 (.cons (.var 1) .nil))) K))))
theorem c_top (n : Nat) (ns : List Int) (K : S)
    (hK : ∀ (p : Int) (h : Pr p) (w : Nat) (hw : w < 4) (l : List Int) (hl : dOk l) (L : List Nat) (hL : Lt L), ∃ ρ, exe B (cal B T (n + 4)) K [.v (.lst (ns.map .int)) false, .o (.L (l.map .int)) false, .v (soD p w) false, .v (KO p w) false, .v (.str L) false, .u, .u, .u, .u, .u, .u, .u, .u] = .ok (.ret (.v (.bl true))) (.v (.lst (ns.map .int)) false :: ρ)) :
    finF 1 (exe B (cal B T (n + 4)) (S_top K) [.v (.lst (ns.map .int)) false, .u, .u, .u, .u, .u, .u, .u, .u, .u, .u, .u, .u]) = .ok (.v (.bl true)) [.u] := by
  obtain ⟨l0, d0, e0⟩ := c_state (n + 3) ns
  obtain ⟨Φ, hΦ⟩ : ∃ Φ, Φ = cal B T (n + 4) := ⟨_, rfl⟩
  have hn : HNext Φ 10 := by rw [hΦ]; exact c_next (n + 3)
  have e0 : Φ 11 [.v (.lst (ns.map .int)) false] = .ok (.o (.L (l0.map .int))) [.u] := by rw [hΦ]; exact e0
  obtain ⟨v1, l1, d1, a1, b1, e1⟩ := hn l0 4 d0 (by decide) (pow_le_big (m := 21) (by decide) (by decide))
  obtain ⟨w, ew⟩ : ∃ w : Nat, v1 = w := ⟨v1.toNat, by omega⟩
  have hw : w < 4 := by omega
  subst ew
  obtain ⟨p, l2, h, d2, e2⟩ := c_sort (n + 2) l1 d1 w hw
  have e3 := c_kind (n + 1) p h w hw
  have e2 : Φ 16 [.o (.L (l1.map .int)) true, .v (.int (w : Nat)) false] = .ok (.v (soD p w)) [.o (.L (l2.map .int)) true, .u] := by rw [hΦ]; exact e2
  have e3 : Φ 17 [.v (soD p w) false] = .ok (.v (.obj (kC w) (kV p w))) [.u] := by rw [hΦ]; exact e3
  obtain ⟨L, l3, hL, d3, e4⟩ := c_letters (n + 2) l2 d2
  have e4 : Φ 21 [.o (.L (l2.map .int)) true] = .ok (.v (.str L)) [.o (.L (l3.map .int)) true] := by rw [hΦ]; exact e4
  obtain ⟨ρ, c⟩ := hK p h w hw l3 d3 L hL
  rw [← hΦ] at c ⊢
  simp [S_top, e0, e1, e2, e3, e4, c, Ow.d]
end K24

namespace K24
open PySem Z
def S_mid (K : S) : S := (.seq (.set 5 (.call 10 (.cons (.var 1) (.cons (.con (.int 6)) .nil)))) (.seq (.ite (.cmp .eq (.call 10 (.cons (.var 1) (.cons (.con (.int 8)) .nil))) (.con (.int 7))) (.seq (.set 5 (.bin .add (.con (.int 6)) (.call 10 (.cons (.var 1) (.cons (.con (.int 7)) .nil))))) .skip) .skip) (.seq (.set 6 (.call 22 (.cons (.var 1) (.cons (.var 2) (.cons (.var 4) (.cons (.var 5) (.cons (.cmp .eq (.call 10 (.cons (.var 1) (.cons (.con (.int 2)) .nil))) (.con (.int 0))) .nil))))))) K)))
def L_m : S := (.seq (.ite (.or (.cmp .isn (.call 4 (.cons (.var 3) (.cons (.var 9) .nil))) (.con (.bl true))) (.or (.cmp .ne (.idx (.var 9) (.con (.int 0))) (.var 4)) (.cmp .ne (.b1 .len (.idx (.var 9) (.con (.int 1)))) (.b1 .len (.idx (.var 6) (.con (.int 1))))))) (.seq (.ret (.con (.bl false))) .skip) .skip) .skip)
def S_tu (K : S) : S := (.seq (.set 7 (.call 6 (.cons (.var 3) (.cons (.var 6) .nil)))) (.seq (.set 8 (.call 6 (.cons (.var 3) (.cons (.var 7) .nil)))) (.seq (.loop .seq (.cons (.lst (.cons (.var 7) (.cons (.var 8) .nil))) .nil) (.one 9) L_m) K)))
def L_w : S := (.seq (.set 10 (.bin .add (.var 10) (.idx (.var 4) (.bin .mod (.var 11) (.b1 .len (.var 4)))))) .skip)
def S_long (K : S) : S := (.seq (.set 10 (.con (.str []))) (.seq (.loop .seq (.cons (.sl (.var 0) .nil (.con (.int 30))) .nil) (.one 11) L_w) (.seq (.ite (.cmp .eq (.idx (.var 2) (.con (.int 0))) (.con (.str [102, 114, 97, 99, 116, 105, 111, 110, 115]))) (.seq (.set 10 (.sl (.var 10) .nil (.con (.int 12)))) .skip) .skip) K)))
def L_e : S := (.seq (.ite (.nt (.call 27 (.cons (.var 2) (.cons (.call 25 (.cons (.var 2) (.cons (.var 7) (.cons (.var 12) .nil)))) (.cons (.call 25 (.cons (.var 2) (.cons (.var 6) (.cons (.rv (.var 12)) .nil)))) .nil))))) (.seq (.ret (.con (.bl false))) .skip) .skip) (.seq (.ite (.nt (.call 27 (.cons (.var 2) (.cons (.call 25 (.cons (.var 2) (.cons (.var 8) (.cons (.var 12) .nil)))) (.cons (.call 25 (.cons (.var 2) (.cons (.var 6) (.cons (.var 12) .nil)))) .nil))))) (.seq (.ret (.con (.bl false))) .skip) .skip) .skip))
def S_end : S := (.seq (.loop .seq (.cons (.bin .add (.call 26 (.cons (.var 4) (.cons (.idx (.lst (.cons (.con (.int 6)) (.cons (.con (.int 3)) (.cons (.con (.int 2)) .nil)))) (.bin .sub (.b1 .len (.var 4)) (.con (.int 1)))) .nil))) (.lst (.cons (.var 10) .nil))) .nil) (.one 12) L_e) (.seq (.ret (.con (.bl true))) .skip))
theorem law_rows : b_law = S_top (S_mid (S_tu (S_long S_end))) := rfl
theorem ne_s (L : List Nat) : cmpR .ne (.str L) (.str L) = some (.v (.bl false)) := by
  show some (R.v (.bl (!(L == L)))) = _
  simp
section
variable (n : Nat) (p : Int) (h : Pr p) (w : Nat) (hw : w < 4)
include hw
theorem c_mid (s0 : Sl) (l : List Int) (hl : dOk l) (L : List Nat) (hL : Lt L) (K : S)
    (hK : ∀ (l : List Int) (hl : dOk l) (s5 : Sl) (m : Nat) (M : Mc (SS' p h w)) (hM : MOk (QQ p h w) 1 90 m M) (hm : m ≤ 12) (eL : M.ls = L), ∃ ρ, exe B (cal B T (n + 6)) K [s0, .o (.L (l.map .int)) false, .v (soD p w) false, .v (KO p w) false, .v (.str L) false, s5, .v M.d false, .u, .u, .u, .u, .u, .u] = .ok (.ret (.v (.bl true))) (s0 :: ρ)) :
    ∃ ρ, exe B (cal B T (n + 6)) (S_mid K) [s0, .o (.L (l.map .int)) false, .v (soD p w) false, .v (KO p w) false, .v (.str L) false, .u, .u, .u, .u, .u, .u, .u, .u] = .ok (.ret (.v (.bl true))) (s0 :: ρ) := by
  obtain ⟨Φ, hΦ⟩ : ∃ Φ, Φ = cal B T (n + 6) := ⟨_, rfl⟩
  have hn : HNext Φ 10 := by rw [hΦ]; exact c_next (n + 5)
  have hma : HMachine Φ (QQ p h w) (soD p w) 22 := by rw [hΦ]; exact c_machine (n + 1) p h w hw
  rw [← hΦ] at hK ⊢
  obtain ⟨v1, l1, d1, a1, b1, e1⟩ := hn l 6 hl (by decide) (pow_le_big (m := 21) (by decide) (by decide))
  obtain ⟨v2, l2, d2, a2, b2, e2⟩ := hn l1 8 d1 (by decide) (pow_le_big (m := 21) (by decide) (by decide))
  obtain ⟨m1, rfl⟩ : ∃ m : Nat, v1 = m := ⟨v1.toNat, by omega⟩
  by_cases z : v2 = 7
  · obtain ⟨v3, l3, d3, a3, b3, e3⟩ := hn l2 7 d2 (by decide) (pow_le_big (m := 21) (by decide) (by decide))
    obtain ⟨v4, l4, d4, a4, b4, e4⟩ := hn l3 2 d3 (by decide) (pow_le_big (m := 21) (by decide) (by decide))
    obtain ⟨m, em⟩ : ∃ m : Nat, 6 + v3 = m := ⟨(6 + v3).toNat, by omega⟩
    obtain ⟨M, l5, d5, eL, hM, e5⟩ := hma L m l4 (decide (v4 = 0)) hL (by omega) d4
    obtain ⟨ρ, c⟩ := hK l5 d5 (.v (.int m) false) m M hM (by omega) eL
    exact ⟨ρ, by simp [S_mid, e1, e2, z, e3, em, e4, e5, c]⟩
  · obtain ⟨v4, l4, d4, a4, b4, e4⟩ := hn l2 2 d2 (by decide) (pow_le_big (m := 21) (by decide) (by decide))
    obtain ⟨M, l5, d5, eL, hM, e5⟩ := hma L m1 l4 (decide (v4 = 0)) hL (by omega) d4
    obtain ⟨ρ, c⟩ := hK l5 d5 (.v (.int m1) false) m1 M hM (by omega) eL
    exact ⟨ρ, by simp [S_mid, e1, e2, z, e4, e5, c]⟩
theorem c_tu (s0 s1 s5 : Sl) (m : Nat) (M : Mc (SS' p h w)) (hM : MOk (QQ p h w) 1 90 m M) (hm : m ≤ 12) (K : S)
    (hK : ∀ s9 : Sl, ∃ ρ, exe B (cal B T (n + 6)) K [s0, s1, .v (soD p w) false, .v (KO p w) false, .v (.str M.ls) false, s5, .v M.d false, .v (M.tu m).d false, .v ((M.tu m).tu m).d false, s9, .u, .u, .u] = .ok (.ret (.v (.bl true))) (s0 :: ρ)) :
    ∃ ρ, exe B (cal B T (n + 6)) (S_tu K) [s0, s1, .v (soD p w) false, .v (KO p w) false, .v (.str M.ls) false, s5, .v M.d false, .u, .u, .u, .u, .u, .u] = .ok (.ret (.v (.bl true))) (s0 :: ρ) := by
  have h1 := tu_ok hM
  have h2 := tu_ok h1
  have a1 := c_turned (n + 4) p h w hw hM (by omega)
  have a2 := c_turned (n + 4) p h w hw h1 (by omega)
  have b1 := c_ismachine (n + 1) p h w hw h1 (by omega)
  have b2 := c_ismachine (n + 1) p h w hw h2 (by omega)
  obtain ⟨Φ, hΦ⟩ : ∃ Φ, Φ = cal B T (n + 6) := ⟨_, rfl⟩
  rw [← hΦ] at hK a1 a2 b1 b2 ⊢
  have q1 : m ≤ lim := by rw [limQ]; omega
  have ist : cmpR .isn (.bl true) (.bl true) = some (.v (.bl false)) := rfl
  have i1 : idxR M.d (.int 1) = some (.v (rowD _ M.st)) := idx_t1
  have body : ∀ (N : Mc (SS' p h w)) (s7 s8 s9 : Sl), MOk (QQ p h w) 1 90 m N → N.ls = M.ls → Φ 4 [.v (KO p w) false, .v N.d false] = .ok (.v (.bl true)) [.u, .u] → exe B Φ L_m [s0, s1, .v (soD p w) false, .v (KO p w) false, .v (.str M.ls) false, s5, .v M.d false, s7, s8, .v N.d false, .u, .u, .u] = .ok .nx [s0, s1, .v (soD p w) false, .v (KO p w) false, .v (.str M.ls) false, s5, .v M.d false, s7, s8, .v N.d false, .u, .u, .u] := fun N s7 s8 s9 hN eN e => by
    have j0 : idxR N.d (.int 0) = some (.v (.str M.ls)) := by rw [← eN]; exact idx_t0
    have j1 : idxR N.d (.int 1) = some (.v (rowD _ N.st)) := idx_t1
    have ns := ne_s M.ls
    simp [L_m, e, ist, j0, j1, i1, ns, hN.s1, hM.s1, q1]
  have c1 := body (M.tu m) (.v (M.tu m).d false) (.v ((M.tu m).tu m).d false) .u h1 rfl b1
  have c2 := body ((M.tu m).tu m) (.v (M.tu m).d false) (.v ((M.tu m).tu m).d false) .u h2 rfl b2
  obtain ⟨x7, e7⟩ : ∃ x, x = (M.tu m).d := ⟨_, rfl⟩
  obtain ⟨x8, e8⟩ : ∃ x, x = ((M.tu m).tu m).d := ⟨_, rfl⟩
  rw [← e7, ← e8] at c1 c2
  rw [← e7] at a1 a2
  rw [← e8] at a2
  rw [← e7, ← e8] at hK
  obtain ⟨ρ, c⟩ := hK (.v x8 false)
  have lp : lpL (.one 9) (exe B Φ L_m) [x7, x8] [s0, s1, .v (soD p w) false, .v (KO p w) false, .v (.str M.ls) false, s5, .v M.d false, .v x7 false, .v x8 false, .u, .u, .u, .u] = .ok .nx [s0, s1, .v (soD p w) false, .v (KO p w) false, .v (.str M.ls) false, s5, .v M.d false, .v x7 false, .v x8 false, .v x8 false, .u, .u, .u] := by
    unfold lpL
    simp only [asg_one, pt0, ptS]
    rw [c1]
    unfold lpL
    simp only [asg_one, pt0, ptS]
    rw [c2]
    rfl
  exact ⟨ρ, by simp [S_tu, a1, a2, lp, Ow.d, c]⟩
omit hw in
theorem c_long (ns : List Int) (s1 ko s5 s6 s7 s8 s9 : Sl) (L : List Nat) (hL : Lt L) (K : S)
    (hK : ∀ (v : List Nat) (hv : Wd L v) (h30 : v.length ≤ 30) (x11 : Sl), ∃ ρ, exe B (cal B T (n + 6)) K [.v (.lst (ns.map .int)) false, s1, .v (soD p w) false, ko, .v (.str L) false, s5, s6, s7, s8, s9, .v (.str v) false, x11, .u] = .ok (.ret (.v (.bl true))) (.v (.lst (ns.map .int)) false :: ρ)) (hw : w < 4) :
    ∃ ρ, exe B (cal B T (n + 6)) (S_long K) [.v (.lst (ns.map .int)) false, s1, .v (soD p w) false, ko, .v (.str L) false, s5, s6, s7, s8, s9, .u, .u, .u] = .ok (.ret (.v (.bl true))) (.v (.lst (ns.map .int)) false :: ρ) := by
  obtain ⟨Φ, hΦ⟩ : ∃ Φ, Φ = cal B T (n + 6) := ⟨_, rfl⟩
  rw [← hΦ] at hK ⊢
  have l3 := hL.l3
  have l1 := hL.l1
  have ll : L.length ≤ lim := by rw [limQ]; omega
  have ec : cutD (ns.map D.int) none (some 30) = (ns.take 30).map D.int := by
    rw [show (30 : Int) = ((30 : Nat) : Int) from rfl, cut_take, List.map_take]
  obtain ⟨ρ', h1, v, x11, hv, lv, e⟩ := lpL_of (i := 11) (f := exe B Φ L_w) D.int (ns.take 30) (fun k ρ => ∃ (v : List Nat) (x11 : Sl), Wd L v ∧ v.length = k ∧ ρ = [.v (.lst (ns.map .int)) false, s1, .v (soD p w) false, ko, .v (.str L) false, s5, s6, s7, s8, s9, .v (.str v) false, x11, .u])
    [.v (.lst (ns.map .int)) false, s1, .v (soD p w) false, ko, .v (.str L) false, s5, s6, s7, s8, s9, .v (.str []) false, .u, .u] ⟨[], .u, .nil, rfl, rfl⟩ (fun k c hk ρ ⟨v, x11, hv, lv, e⟩ => by
      subst e
      have kb : k < 30 := by
        obtain ⟨q, _⟩ := List.getElem?_eq_some_iff.mp hk
        rw [List.length_take] at q
        omega
      have fb := fmod_nn c (show (0 : Int) < L.length by omega)
      obtain ⟨j, ej⟩ : ∃ j : Nat, c.fmod L.length = j := ⟨(c.fmod L.length).toNat, by omega⟩
      have hj : j < L.length := by omega
      have ix := idx_str (s := L) (j := (j : Int)) rfl hj ll
      have n0 : ¬ L.length = 0 := by omega
      have n1 : ¬ L = [] := fun q => n0 (by rw [q]; rfl)
      have c2 : v.length + 1 ≤ lim := by rw [limQ]; omega
      refine ⟨_, .inl ?_, v ++ [L[j]], .v (.int c) false, hv.app (fun x hx => by rw [List.mem_singleton.mp hx]; exact List.getElem_mem _), by simp [lv], rfl⟩
      simp [L_w, ll, n1, ej, ix, c2])
  subst e
  have lv2 : v.length ≤ 30 := by rw [lv, List.length_take]; omega
  have lv3 : v.length ≤ lim := by rw [limQ]; omega
  rw [List.map_take] at h1 ec
  obtain ⟨f, t, r, et, ecq⟩ : ∃ f t r, soD p w = .tup (.str t :: r) ∧ cmpR .eq (.str t) (.str [102, 114, 97, 99, 116, 105, 111, 110, 115]) = some (.v (.bl f)) := by
    match w, hw with
    | 0, _ => exact ⟨true, _, _, rfl, rfl⟩
    | 1, _ => exact ⟨false, _, _, rfl, rfl⟩
    | 2, _ => exact ⟨false, _, _, rfl, rfl⟩
    | 3, _ => exact ⟨false, _, _, rfl, rfl⟩
  have q0 : idxR (soD p w) (.int 0) = some (.v (.str t)) := by rw [et]; exact idx_t0
  cases f with
  | true =>
    have s2 : cutD v none (some 12) = v.take 12 := cut_take v 12
    obtain ⟨ρ, c⟩ := hK (v.take 12) (hv.take 12) (by rw [List.length_take]; omega) x11
    exact ⟨ρ, by simp [S_long, ec, h1, q0, ecq, lv3, s2, c]⟩
  | false =>
    obtain ⟨ρ, c⟩ := hK v hv lv2 x11
    exact ⟨ρ, by simp [S_long, ec, h1, q0, ecq, c]⟩
theorem c_end (s0 s1 s5 s9 x11 : Sl) (m : Nat) (M : Mc (SS' p h w)) (hM : MOk (QQ p h w) 1 90 m M) (hm : m ≤ 12) (v : List Nat) (hv : Wd M.ls v) (h30 : v.length ≤ 30) :
    ∃ ρ, exe B (cal B T (n + 6)) S_end [s0, s1, .v (soD p w) false, .v (KO p w) false, .v (.str M.ls) false, s5, .v M.d false, .v (M.tu m).d false, .v ((M.tu m).tu m).d false, s9, .v (.str v) false, x11, .u] = .ok (.ret (.v (.bl true))) (s0 :: ρ) := by
  have h1 := tu_ok hM
  have h2 := tu_ok h1
  have l1 := hM.lt.l1
  have l3 := hM.lt.l3
  have ll : M.ls.length ≤ lim := by rw [limQ]; omega
  obtain ⟨k, ik, hk⟩ : ∃ k : Nat, idxR (.lst [.int 6, .int 3, .int 2]) (.int ((M.ls.length : Nat) - 1)) = some (.v (.int (k : Nat))) ∧ k ≤ 6 := by
    have : M.ls.length = 1 ∨ M.ls.length = 2 ∨ M.ls.length = 3 := by omega
    rcases this with q | q | q <;> rw [q]
    · exact ⟨6, rfl, by omega⟩
    · exact ⟨3, rfl, by omega⟩
    · exact ⟨2, rfl, by omega⟩
  obtain ⟨ws, w1, w2, w3, w4⟩ := c_words (n + 5) M.ls l3 k hk
  have fw : ∀ j, j ≤ 30 → fitW 1 90 j := fun j hj => by unfold fitW fit; omega
  have body : ∀ (u : List Nat) (x12 : Sl), Wd M.ls u → u.length ≤ 30 → exe B (cal B T (n + 6)) L_e [s0, s1, .v (soD p w) false, .v (KO p w) false, .v (.str M.ls) false, s5, .v M.d false, .v (M.tu m).d false, .v ((M.tu m).tu m).d false, s9, .v (.str v) false, x11, .v (.str u) false] = .ok .nx [s0, s1, .v (soD p w) false, .v (KO p w) false, .v (.str M.ls) false, s5, .v M.d false, .v (M.tu m).d false, .v ((M.tu m).tu m).d false, s9, .v (.str v) false, x11, .v (.str u) false] := fun u _ hu lu => by
    have a1 := c_lweigh (n + 1) p h w hw u h1 (by omega) hu (fw _ lu)
    have a2 := c_lweigh (n + 1) p h w hw u.reverse hM (by omega) hu.rev (fw _ (by rw [List.length_reverse]; exact lu))
    have a3 := c_lweigh (n + 1) p h w hw u h2 (by omega) hu (fw _ lu)
    have a4 := c_lweigh (n + 1) p h w hw u hM (by omega) hu (fw _ lu)
    rw [wt_tu hM u hu] at a1
    rw [wt_tu h1 u hu, wt_tu hM _ hu.rev, List.reverse_reverse] at a3
    have a5 := c_same (n + 5) p h w hw (M.wt u.reverse)
    have a6 := c_same (n + 5) p h w hw (M.wt u)
    have q : u.length ≤ lim := by rw [limQ]; omega
    simp [L_e, a1, q, a2, a5, a3, a4, a6]
  obtain ⟨Φ, hΦ⟩ : ∃ Φ, Φ = cal B T (n + 6) := ⟨_, rfl⟩
  rw [← hΦ] at body w4 ⊢
  obtain ⟨x6, e6⟩ : ∃ x, x = M.d := ⟨_, rfl⟩
  obtain ⟨x7, e7⟩ : ∃ x, x = (M.tu m).d := ⟨_, rfl⟩
  obtain ⟨x8, e8⟩ : ∃ x, x = ((M.tu m).tu m).d := ⟨_, rfl⟩
  rw [← e6, ← e7, ← e8] at body ⊢
  obtain ⟨ρ2, g, x12, e12⟩ := lpL_of (i := 12) (f := exe B Φ L_e) D.str (ws ++ [v]) (fun _ ρ => ∃ x12, ρ = [s0, s1, .v (soD p w) false, .v (KO p w) false, .v (.str M.ls) false, s5, .v x6 false, .v x7 false, .v x8 false, s9, .v (.str v) false, x11, x12])
    [s0, s1, .v (soD p w) false, .v (KO p w) false, .v (.str M.ls) false, s5, .v x6 false, .v x7 false, .v x8 false, s9, .v (.str v) false, x11, .u] ⟨_, rfl⟩ (fun j u hu ρ ⟨x12, e⟩ => by
      subst e
      have hu := List.mem_of_getElem? hu
      have : Wd M.ls u ∧ u.length ≤ 30 := by
        rcases List.mem_append.mp hu with q | q
        · exact ⟨(w3 u q).1, by have := (w3 u q).2; omega⟩
        · rw [List.mem_singleton.mp q]; exact ⟨hv, h30⟩
      exact ⟨_, .inl (body u x12 this.1 this.2), _, rfl⟩)
  subst e12
  have q2 : ws.length + 1 ≤ lim := by rw [limQ]; omega
  rw [List.map_append] at g
  have g : lpL (.one 12) (exe B Φ L_e) (ws.map D.str ++ [.str v]) _ = _ := g
  exact ⟨_, by simp [S_end, ll, ik, w4, q2, g, Ow.d]; rfl⟩
end
theorem c_law (n : Nat) (ns : List Int) : cal B T (n + 7) 28 [.v (.lst (ns.map .int)) false] = .ok (.v (.bl true)) [.u] := by
  rw [r_law _ _ rfl, law_rows]
  refine c_top (n + 2) ns _ fun p h w hw l hl L hL => c_mid n p h w hw _ l hl L hL _ fun l hl s5 m M hM hm eL => ?_
  subst eL
  exact c_tu n p h w hw _ _ s5 m M hM hm _ fun s9 => c_long n p w ns _ _ s5 _ _ _ s9 M.ls hL _ (fun v hv h30 x11 => c_end n p h w hw _ _ s5 s9 x11 m M hM hm v hv h30) hw
def depth : Nat := 7
theorem law : ∀ ns : List Int, ns.length ≤ 63 → ∃ outs, Z.cal pg.tb (Z.Tof pg.ds) depth 28 [.v (.lst (ns.map .int)) false] = .ok (.v (.bl true)) outs := fun ns _ => ⟨_, c_law 0 ns⟩
end K24

open PySem PySem.W PySem.Calls PyProof.Rows
set_option maxRecDepth 100000 in
set_option maxHeartbeats 0 in
theorem PySem.Challenge.cw_weighwalk_k24_turned_holds : PySem.Challenge.rw_weighwalk_k24_turned.Holds := by
  w_on; o_law
  refine HandSHeadRun.head_any (r := OpenLaw.row PySem.Challenge.rw_weighwalk_k24_turned) (q := view (OpenLaw.row PySem.Challenge.rw_weighwalk_k24_turned).prog [53]) (H := Z.hookZ 5 K24.pg) (ob := Z.obZ 5 K24.pg) (M := 9000) (loose := (["_wall", "WeighError", "NoKind", "NoText", "column_at", "SMALL", "MOST_LETTERS", "MOST_ROOMS", "is_letters", "is_line", "is_square", "is_machine", "rooms", "turned", "divisor", "FIGURES", "MOST_FIGURES", "MOST_PRIME", "is_whole", "read_whole", "is_prime", "Kind", "Field", "Picking", "Fractions", "Residues", "Costs", "Truths", "_law_next", "_law_state"] : List PySem.Str) ++ (["_law_low", "_law_plus", "_law_times", "_law_nought", "_law_sort", "_law_kind", "_law_weight", "_law_line", "_law_table", "_law_letters", "_law_machine", "_law_dot", "_law_step", "_law_weigh", "_law_words", "_law_same"] : List PySem.Str)) (d := HandSHeadRun.topDef (OpenLaw.row PySem.Challenge.rw_weighwalk_k24_turned).prog 53) (kwd := []) (Z.obZ_eq 5 K24.pg)
    (by kernel_rfl) (fun s => by kernel_rfl) K24.run (by kernel_rfl) (by kernel_rfl) (by kernel_rfl) (by rfl) (by first | assumption | decide +kernel) (by decide +kernel) ⟨rfl, rfl, rfl, rfl, rfl, by decide +kernel⟩ ?hw ?hc
  case hw => w_witness2
  case hc =>
    refine L2.walk_ofE (l := PySem.Challenge.rw_weighwalk_k24_turned) (n := 63) (k := 2 * K24.depth) (x := "_law_script") (CX := L2.CX0) rfl (by decide) (by kernel_rfl) ⟨rfl, by decide, by decide⟩ ?F (fun _ _ _ _ z => z)
    intro w mg fa h Y G hmg0
    have hmg : mg ("law" : PySem.Str) = some (.ref fa) := by
      have e : (HandSHeadRun.topDef (OpenLaw.row PySem.Challenge.rw_weighwalk_k24_turned).prog 53).name = ("law" : PySem.Str) := by kernel_rfl
      rw [← e]
      exact hmg0
    exact Z.F_any (p := K24.pg) (depth := 5) (k := K24.depth) (q := 28) (d := K24.d_law) (x := "_law_script") K24.st rfl rfl rfl K24.law _ w mg fa h Y G hmg


