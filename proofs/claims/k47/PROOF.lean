import PyProof.Rows.All
import PySem.Str
import HandS.Base
import HandS.List
import HandS.Text
import PyProof.ReprReads
import HandS.Call
import HandS.Exc
import HandS.ExcOwn
import HandS.ExcInit
import HandS.Lambda
import KE.KExcSuper
import KE.KSuper
import HandS.CallSlots
import HandS.Defaults
import HandS.HeadWalk
import HandS.TupAny
import HandS.TupMul
import KE.KRevSl
import PyProof.SeqRoads
import HandS.Wide
import KE.DataEq
import HandS.IsInst
import HandS.Iter
import PyProof.ReprRoads
import PyProof.CallFns
import HandS.ExcField
import HandS.ExcIs
import HandS.Walk
import HandS.Zip
import KE.GoesEnum
import KE.GoesMore
import KE.GoesZip
import HandS.TryOnly
import HandS.Comp
import HandS.Conv
import KE.KExcIs
import HandS.Dict
import KE.DataFind
import HandS.ExcValue
import HandS.HeadHook4
import HandS.HeadHook1
import HandS.HeadHook2
import KE.KNestM
import HandS.HeadHook3
import HandS.HeadEnd
import HandS.EndTab
import KE.IntBitsLaws
import PyProof.ReprLen
import Lean
import KE.KStateDown
import HandS.Ends
import HandS.More
import HandS.Words
import HandS.WordsExc
import HandS.Head0
import HandS.Head1
import HandS.Head2
import HandS.Head3
import PySem.Challenge.RW_evenasks_k47_chances_and_asks_refused
set_option Elab.async false
section
set_option linter.all false
set_option maxRecDepth 100000
/-! The small language: data, own objects, what an expression, a statement, a def comes to. -/
namespace Ev
open PySem

abbrev Key := Sum Int Str

/-- data that nothing changes any more -/
inductive D where
  | non | bl (b : Bool) | int (i : Int) | str (x : Str)
  | tup (l : List D) | lst (l : List D)
  | dic (ks : List Key) (l : List D)
  | ins (c : Nat) (l : List D)
  -- an error of the class c with its value
  | exc (c : Nat) (d : D)
  -- the script
  | scr (l : List Int)
  deriving Inhabited

/-- what a slot holds: data, or an object of its own that may be changed -/
inductive T where
  | val (d : D)
  | lst (l : List D)
  | dic (ks : List Key) (l : List T)
  | ins (c : Nat) (l : List T)
  deriving Inhabited

mutual
def frz : T → D
  | .val d => d
  | .lst l => .lst l
  | .dic ks l => .dic ks (frzs l)
  | .ins c l => .ins c (frzs l)
def frzs : List T → List D
  | [] => []
  | t :: r => frz t :: frzs r
end
def T.isOwn : T → Bool
  | .val _ => false
  | _ => true

abbrev Env := List (Option T)
inductive Res (α : Type) where
  | ok (a : α)
  | err (c : Nat) (d : D)
/-- what a computation comes to: none where nothing is said -/
abbrev Out (α : Type) := Option (Res α × Env)
def bnd {α β : Type} (m : Out α) (k : α → Env → Out β) : Out β := match m with
  | none => none
  | some (.err c d, ρ) => some (.err c d, ρ)
  | some (.ok a, ρ) => k a ρ
def ret {α : Type} (a : α) (ρ : Env) : Out α := some (.ok a, ρ)
/-- a pure step that may not be defined -/
def opt {α β : Type} (o : Option α) (k : α → Out β) : Out β := match o with
  | none => none
  | some a => k a

inductive BinO where
  | add | sub | mul | fdiv | mod | pow
  deriving DecidableEq
inductive CmpO where
  | eq | ne | lt | le | gt | ge | is | isnot | isin | notin
  deriving DecidableEq
inductive Blt where
  | len | abs | int | max | min | sum | all | any | tuple | list | isint | isbool | istuple | isstr
  deriving DecidableEq

/-- a method of a built-in type -/
inductive Mth where
  | count
  deriving DecidableEq

/-- an operation on one value: a field, isinstance of errors, repr -/
inductive Op1 where
  | fld (n : Str)
  | isx (n : Nat) (cs : List Nat)
  | rpr
  -- a tuple from its end
  | rev

/-- a target -/
inductive Tg where
  | v (i : Nat)
  | tup (l : List Tg)

inductive E where
  | c (d : D)
  | g (n : Nat)
  | v (i : Nat)
  | bin (o : BinO) (a b : E)
  | neg (a : E)
  | cmp (o : CmpO) (a b : E)
  | chn (o o' : CmpO) (a b c : E)
  | and (a b : E)
  | or (a b : E)
  | not (a : E)
  | ite (c a b : E)
  | tup (l : List E)
  | lst (l : List E)
  | sub (a i : E)
  | slc (a lo hi : E)
  | call (f : Nat) (l : List E)
  -- of one argument, handed over
  | call1 (f : Nat) (a : E)
  | blt (b : Blt) (l : List E)
  | mth (m : Mth) (a b : E)
  -- an error made; an operation on one value
  | exn (c : Nat) (a : E)
  | un (o : Op1) (a : E)
  -- heard: (the error, None), or (None, the value)
  | hrd (a : E)
  | lc (x : E) (g : Tg) (it : E) (ifs : List E) (own : List Nat)
  -- what is walked alone
  | range (l : List E)
  | enum (a : E)
  | zip (a b : E)
  -- list(range(..))
  | lran (l : List E)

inductive S where
  | pass
  | drop (e : E)
  | app (i : Nat) (e : E)
  | ext (i : Nat) (e : E)
  | asg (g : Tg) (e : E)
  | par (i j : Nat) (a b : E)
  | setI (i : Nat) (k e : E)
  | augI (i : Nat) (k e : E)
  -- an int, plus an int
  | augN (i : Nat) (e : E)
  | ret (e : E)
  | retm (i : Nat)
  | ite (c : E) (a b : List S)
  | for_ (g : Tg) (it : E) (b : List S)
  | while_ (c : E) (b : List S)
  | raise (c : Nat) (e : E)

/-! ### operations on data -/
def LL : Nat := 1000000
def truD : D → Option Bool
  | .non => some false
  | .bl b => some b
  | .int i => some (i != 0)
  | .str x => if x.length ≤ LL then some ((x.length : Int) != 0) else none
  | .tup l => some (!l.isEmpty)
  | .lst l => some (!l.isEmpty)
  | .dic ks _ => some (!ks.isEmpty)
  | .ins _ _ => none
  | .exc _ _ => none
  | .scr _ => none

mutual
def plain : D → Bool
  | .non | .bl _ | .int _ | .str _ => true
  | .tup l | .lst l => plains l
  | _ => false
def plains : List D → Bool
  | [] => true
  | d :: r => plain d && plains r
end
mutual
def depth : D → Nat
  | .tup l | .lst l => depths l + 1
  | _ => 0
def depths : List D → Nat
  | [] => 0
  | d :: r => max (depth d) (depths r)
end
mutual
/-- == of data -/
def eqv : D → D → Bool
  | .non, .non => true
  | .bl a, .bl b => a == b
  | .bl a, .int b => (if a then 1 else 0) == b
  | .int a, .bl b => a == (if b then 1 else 0)
  | .int a, .int b => a == b
  | .str a, .str b => a == b
  | .lst a, .lst b => eqvs a b
  | .tup a, .tup b => eqvs a b
  | _, _ => false
def eqvs : List D → List D → Bool
  | [], [] => true
  | a :: r, b :: s => eqv a b && eqvs r s
  | _, _ => false
end
def eqD (a b : D) : Option Bool := if plain a && plain b && decide (min (depth a) (depth b) ≤ 64) then some (eqv a b) else none

/-- products that the machine makes -/
def mulOk (a b : Int) : Bool := !(decide (Builtin.Int.intBits a > shortFactorBits) && decide (Builtin.Int.intBits b > shortFactorBits) && Builtin.Int.intTooBig (Builtin.Int.intBits a + Builtin.Int.intBits b))
def I63 (k : Int) : Bool := decide (-(2 ^ 63) ≤ k ∧ k < 2 ^ 63)

def binD (o : BinO) (x y : D) : Option T := match o, x, y with
  | .add, .int i, .int j => some (.val (.int (i + j)))
  | .add, .str i, .str j => if i.length + j.length ≤ LL then some (.val (.str (i ++ j))) else none
  | .add, .tup a, .tup b => if a.length + b.length ≤ LL then some (.val (.tup (a ++ b))) else none
  | .add, .lst a, .lst b => if a.length + b.length ≤ LL then some (.lst (a ++ b)) else none
  | .sub, .int i, .int j => some (.val (.int (i - j)))
  | .mul, .int i, .int j => if mulOk i j then some (.val (.int (i * j))) else none
  | .mul, .lst a, .int k => if I63 k && decide (a.length * k.toNat ≤ LL) then some (.lst (List.replicate k.toNat a).flatten) else none
  | .mul, .tup a, .int k => if decide (a ≠ [] ∧ 2 ≤ k ∧ k ≤ 1000 ∧ a.length ≤ 1000) then some (.val (.tup (List.replicate k.toNat a).flatten)) else none
  | .fdiv, .int i, .int j => if decide (j ≠ 0 ∧ Builtin.divisionGoesByPylong i j = false) then some (.val (.int (i.fdiv j))) else none
  | .mod, .int i, .int j => if decide (j ≠ 0) then some (.val (.int (i.fmod j))) else none
  | .pow, .int i, .int j => if decide (0 ≤ j ∧ (Builtin.Int.intBits i : Int) * j ≤ 2 ^ 27) then some (.val (.int (i ^ j.toNat))) else none
  | _, _, _ => none

def inD (x y : D) : Option Bool := match y with
  | .lst l => if plain x && plains l && decide (depth x ≤ 64) then some (l.any fun d => eqv d x) else none
  | .tup l => if plain x && plains l && decide (depth x ≤ 64) then some (l.any fun d => eqv d x) else none
  | .str z => (match x with
    | .str c => if c.length = 1 then some (decide (c.cps.getD 0 0 ∈ z.cps.toList)) else none
    | _ => none)
  | _ => none
def isNon : D → Bool
  | .non => true
  | _ => false
def ints2 (f : Int → Int → Bool) : D → D → Option Bool
  | .int i, .int j => some (f i j)
  | _, _ => none
/-- a tuple of anything beside the empty one -/
def eqE : D → D → Option Bool
  | .tup l, .tup [] => some l.isEmpty
  | _, _ => none
def cmpD (o : CmpO) (x y : D) : Option Bool := match o with
  | .eq => (eqD x y).or (eqE x y)
  | .ne => ((eqD x y).or (eqE x y)).map (!·)
  | .lt => ints2 (fun i j => decide (i < j)) x y
  | .le => ints2 (fun i j => decide (i ≤ j)) x y
  | .gt => ints2 (fun i j => decide (j < i)) x y
  | .ge => ints2 (fun i j => decide (j ≤ i)) x y
  | .is => (match y with | .non => some (isNon x) | _ => none)
  | .isnot => (match y with | .non => some (!isNon x) | _ => none)
  | .isin => inD x y
  | .notin => (inD x y).map (!·)

def subD (x i : D) : Option D := match i with
  | .int k => (match x with
    | .lst l => L2.atI l k
    | .tup l => L2.atI l k
    | .str z => if z.length ≤ LL then (L2.atI z.cps.toList k).map fun c => .str ⟨#[c]⟩ else none
    | .scr l => (L2.atI l k).map .int
    | _ => none)
  | _ => none
def cut {α : Type} (xs : List α) (lo hi : Option Int) : List α := (xs.drop (HT.sIx xs.length 0 lo)).take (HT.sIx xs.length xs.length hi - HT.sIx xs.length 0 lo)
def slcD (x : D) (lo hi : Option Int) : Option T := match x with
  | .lst l => some (.lst (cut l lo hi))
  | .tup l => some (.val (.tup (cut l lo hi)))
  | .str z => if z.length ≤ LL then some (.val (.str (L2.cutS z lo hi))) else none
  | _ => none

/-- all of them ints -/
def intsD : List D → Option (List Int)
  | [] => some []
  | .int i :: r => (intsD r).map (i :: ·)
  | _ :: _ => none
def blsD : List D → Option (List Bool)
  | [] => some []
  | .bl b :: r => (blsD r).map (b :: ·)
  | _ :: _ => none
/-- what type of value -/
def tyD : D → Option Nat
  | .non => some 0
  | .bl _ => some 1
  | .int _ => some 2
  | .str _ => some 3
  | .tup _ => some 4
  | .lst _ => some 5
  | .dic _ _ => some 6
  | _ => none
def bltD (b : Blt) (l : List D) : Option T := match b, l with
  | .len, [.lst l] => some (.val (.int l.length))
  | .len, [.tup l] => some (.val (.int l.length))
  | .len, [.scr l] => some (.val (.int l.length))
  | .len, [.str z] => if z.length ≤ LL then some (.val (.int z.length)) else none
  | .abs, [.int i] => some (.val (.int (if i < 0 then -i else i)))
  | .int, [.int i] => some (.val (.int i))
  | .int, [.bl k] => some (.val (.int (if k then 1 else 0)))
  | .max, [.int i, .int j] => some (.val (.int (if j > i then j else i)))
  | .min, [.int i, .int j] => some (.val (.int (if j < i then j else i)))
  | .sum, [.lst l] => (intsD l).map fun ns => .val (.int ns.sum)
  | .all, [.lst l] => (blsD l).map fun bs => .val (.bl (bs.all id))
  | .any, [.lst l] => (blsD l).map fun bs => .val (.bl (bs.any id))
  | .tuple, [.lst l] => some (.val (.tup l))
  | .tuple, [.tup l] => some (.val (.tup l))
  | .list, [.lst l] => some (.lst l)
  | .list, [.tup l] => some (.lst l)
  | .isint, [d] => (tyD d).map fun n => .val (.bl (n == 1 || n == 2))
  | .isbool, [d] => (tyD d).map fun n => .val (.bl (n == 1))
  | .istuple, [d] => (tyD d).map fun n => .val (.bl (n == 4))
  | .isstr, [d] => (tyD d).map fun n => .val (.bl (n == 3))
  | _, _ => none

/-- the receiver has this method -/
def mthK : Mth → D → Option Nat
  | .count, .tup _ => some 0
  | .count, .lst _ => some 1
  | _, _ => none
def cntD (l : List D) (y : D) : Option T := if plain y && plains l && decide (depth y ≤ 64) then some (.val (.int ((l.countP fun d => eqv d y : Nat) : Int))) else none
def mthD (k : Nat) (x y : D) : Option T := match k, x with
  | 0, .tup l => cntD l y
  | 1, .lst l => cntD l y
  | _, _ => none

/-- a field -/
def fldD (n : Str) : D → Option D
  | .exc _ d => if n = "value" then some d else none
  | _ => none
/-- isinstance: which of the n errors are of that class -/
def isxD (n : Nat) (cs : List Nat) : D → Option Bool
  | .exc c _ => if c < n then some (cs.contains c) else none
  | .non | .bl _ | .int _ | .str _ | .tup _ | .lst _ => some false
  | _ => none

mutual
/-- data as repr reads them -/
def toQ : D → PyData
  | .non => .none
  | .bl b => .bool b
  | .int i => .int i
  | .str x => .str x
  | .tup l => .tuple (toQs l)
  | .lst l => .list (toQs l)
  | .dic _ _ => .dict []
  | _ => .none
def toQs : List D → List PyData
  | [] => []
  | d :: r => toQ d :: toQs r
end
mutual
def showD : D → Bool
  | .non | .bl _ | .str _ => true
  | .int i => decide (i.natAbs.log2 < 1920)
  | .tup l | .lst l => showDs l
  | .dic [] [] => true
  | _ => false
def showDs : List D → Bool
  | [] => true
  | d :: r => showD d && showDs r
end
def rprD (d : D) : Option T := if showD d && decide ((toQ d).depth ≤ 64) && decide ((toQ d).shown.length ≤ LL) then some (.val (.str (toQ d).shown)) else none
def revD : D → Option T
  | .tup l => some (.val (.tup l.reverse))
  | _ => none
def unD (o : Op1) (x : D) : Option T := match o with
  | .rev => revD x
  | .fld n => (fldD n x).map .val
  | .isx n cs => (isxD n cs x).map fun b => .val (.bl b)
  | .rpr => rprD x

/-! ### slots -/
def look (ρ : Env) (i : Nat) : Option T := match ρ[i]? with
  | some (some t) => some t
  | _ => none
/-- slots hidden -/
def hide (ρ : Env) : List Nat → Env
  | [] => ρ
  | i :: r => (hide ρ r).set i none
/-- slots as they were in ρ0 -/
def back (ρ0 ρ : Env) : List Nat → Env
  | [] => ρ
  | i :: r => (back ρ0 ρ r).set i (ρ0.getD i none)
/-- where a value stands that is read soon: no slot, or the object of a slot -/
inductive Pl where
  | tmp (d : D)
  | sl (i : Nat)
def rd (ρ : Env) : Pl → Option D
  | .tmp d => some d
  | .sl i => (look ρ i).map frz
/-- an argument: a value, or the object of a slot -/
inductive Arg where
  | vl (d : D)
  | ln (i : Nat)
def argT (ρ : Env) : Arg → Option T
  | .vl d => some (.val d)
  | .ln i => look ρ i
def argTs (ρ : Env) : List Arg → Option (List T)
  | [] => some []
  | a :: r => match argT ρ a, argTs ρ r with
    | some t, some ts => some (t :: ts)
    | _, _ => none
def lns : List Arg → List Nat
  | [] => []
  | .vl _ :: r => lns r
  | .ln i :: r => i :: lns r
/-- behind a call: the objects of slots as the callee left them -/
def putArgs (ρ : Env) : List Arg → List T → Env
  | .ln i :: r, t :: ts => (putArgs ρ r ts).set i (some t)
  | .vl _ :: r, _ :: ts => putArgs ρ r ts
  | _, _ => ρ
mutual
/-- data to a target -/
def asgD : Tg → D → Env → Option Env
  | .v i, d, ρ => if i < ρ.length then some (ρ.set i (some (.val d))) else none
  | .tup gs, .tup ds, ρ => asgDs gs ds ρ
  | .tup gs, .lst ds, ρ => asgDs gs ds ρ
  | _, _, _ => none
def asgDs : List Tg → List D → Env → Option Env
  | [], [], ρ => some ρ
  | g :: gs, d :: ds, ρ => (match asgD g d ρ with
    | some ρ' => asgDs gs ds ρ'
    | none => none)
  | _, _, _ => none
end
def asgT (g : Tg) (t : T) (ρ : Env) : Option Env := match g with
  | .v i => if i < ρ.length then some (ρ.set i (some t)) else none
  | .tup gs => asgD (.tup gs) (frz t) ρ

/-- a name occurs -/
def occ (i : Nat) : Nat → E → Bool
  | 0, _ => true
  | _ + 1, .c _ => false
  | _ + 1, .g _ => false
  | _ + 1, .v j => i == j
  | n + 1, .bin _ a b => occ i n a || occ i n b
  | n + 1, .neg a => occ i n a
  | n + 1, .cmp _ a b => occ i n a || occ i n b
  | n + 1, .chn _ _ a b c => occ i n a || occ i n b || occ i n c
  | n + 1, .and a b => occ i n a || occ i n b
  | n + 1, .or a b => occ i n a || occ i n b
  | n + 1, .not a => occ i n a
  | n + 1, .ite c a b => occ i n c || occ i n a || occ i n b
  | n + 1, .tup l => l.any (occ i n)
  | n + 1, .lst l => l.any (occ i n)
  | n + 1, .sub a k => occ i n a || occ i n k
  | n + 1, .slc a b c => occ i n a || occ i n b || occ i n c
  | n + 1, .call _ l => l.any (occ i n)
  | n + 1, .call1 _ a => occ i n a
  | n + 1, .blt _ l => l.any (occ i n)
  | n + 1, .mth _ a b => occ i n a || occ i n b
  | n + 1, .exn _ a => occ i n a
  | n + 1, .un _ a => occ i n a
  | n + 1, .hrd a => occ i n a
  | n + 1, .lc x _ it ifs _ => occ i n x || occ i n it || ifs.any (occ i n)
  | n + 1, .range l => l.any (occ i n)
  | n + 1, .enum a => occ i n a
  | n + 1, .zip a b => occ i n a || occ i n b
  | n + 1, .lran l => l.any (occ i n)

/-- what the language stands on: the defs, how long a while may run, the module's constants, the defaults behind n arguments -/
structure Sys where
  Γ : Nat → List T → Option (Res T × List T)
  W : Nat
  gl : Nat → D
  dfl : Nat → Nat → List D

def rangeD : List D → Option (List D)
  | [.int j] => if decide (-(2 ^ 62) ≤ j ∧ j ≤ LL) then some ((List.range j.toNat).map fun k => .int (k : Nat)) else none
  | [.int i, .int j] => if decide (-(2 ^ 62) ≤ i ∧ i < 2 ^ 62 ∧ -(2 ^ 62) ≤ j ∧ j < 2 ^ 62 ∧ j - i ≤ LL) then some ((List.range (j - i).toNat).map fun k => .int (i + (k : Nat))) else none
  | _ => none
def itemsD : D → Option (List D)
  | .lst l => some l
  | .tup l => some l
  | .str z => some (z.cps.toList.map fun c => .str ⟨#[c]⟩)
  | _ => none
/-- the items of a list or a tuple alone -/
def seqD : D → Option (List D)
  | .lst l => some l
  | .tup l => some l
  | _ => none
def pairs (l : List D) (k : Nat) : List D := match l with
  | [] => []
  | d :: r => .tup [.int k, d] :: pairs r (k + 1)
def zips : List D → List D → List D
  | a :: r, b :: s => .tup [a, b] :: zips r s
  | _, _ => []
/-- lists, tuples -/
def zipD : D → D → Option (List D)
  | .lst l, .lst m => some (zips l m)
  | .tup l, .tup m => some (zips l m)
  | .lst l, .tup m => some (zips l m)
  | .tup l, .lst m => some (zips l m)
  | _, _ => none

/-- nothing said where an exception would leave -/
def noE {α : Type} (m : Out α) : Out α := match m with
  | some (.err _ _, _) => none
  | o => o
/-- heard -/
def hrdT (m : Out T) : Out T := match m with
  | none => none
  | some (.ok t, ρ) => ret (.val (.tup [.non, frz t])) ρ
  | some (.err c d, ρ) => ret (.val (.tup [.exc c d, .non])) ρ
/-- a comprehension's turns -/
def lcLoop (step : D → Env → Out (Option D)) : List D → Env → Out (List D)
  | [], ρ => ret [] ρ
  | d :: r, ρ => bnd (step d ρ) fun o ρ => bnd (lcLoop step r ρ) fun ds ρ => ret (match o with | some x => x :: ds | none => ds) ρ

section
variable (Y : Sys)
/-- behind evaluation frozen -/
def evD (m : Out T) : Out D := bnd m fun t ρ => ret (frz t) ρ
def truT (m : Out T) : Out Bool := bnd m fun t ρ => opt (truD (frz t)) fun b => ret b ρ
/-- a bound of a slice: left out, or an int -/
def evBd (e : E) (m : Env → Out T) (ρ : Env) : Out (Option Int) := match e with
  | .c .non => ret none ρ
  | _ => bnd (m ρ) fun t ρ => (match frz t with
    | .int k => ret (some k) ρ
    | _ => none)
/-- where an expression's value stands -/
def evPl (e : E) (ev : Env → Out T) (ρ : Env) : Out Pl := match e with
  | .v i => (match look ρ i with
    | none => none
    | some (.val d) => ret (.tmp d) ρ
    | some _ => ret (.sl i) ρ)
  | _ => bnd (ev ρ) fun t ρ => ret (.tmp (frz t)) ρ
def evArg (e : E) (ev : Env → Out T) (ρ : Env) : Out Arg := match e with
  | .v i => (match look ρ i with
    | none => none
    | some (.val d) => ret (.vl d) ρ
    | some _ => ret (.ln i) ρ)
  | _ => bnd (ev ρ) fun t ρ => ret (.vl (frz t)) ρ
/-- what is walked: frozen where the body speaks of it -/
def evWk (oc : Nat → Bool) (e : E) (ev : Env → Out T) (ρ : Env) : Out (D × List Nat) := match e with
  | .v i => (match look ρ i with
    | none => none
    | some (.val d) => ret (d, []) ρ
    | some t => if oc i then ret (frz t, []) (ρ.set i (some (.val (frz t)))) else ret (frz t, [i]) ρ)
  | _ => bnd (ev ρ) fun t ρ => ret (frz t, []) ρ
def callT (f : Nat) (as : List Arg) (ρ : Env) : Out T := if (lns as).Nodup then
    opt (argTs ρ as) fun ts => (match Y.Γ f (ts ++ (Y.dfl f ts.length).map .val) with
    | none => none
    | some (r, ts') => if ts'.length = ts.length + (Y.dfl f ts.length).length then some (r, putArgs ρ as ts') else none)
  else none
/-- a call of one argument that is handed over -/
def call1T (f : Nat) (t : T) (ρ : Env) : Out T := match Y.Γ f (t :: (Y.dfl f 1).map .val) with
  | none => none
  | some (r, ts') => if ts'.length = 1 + (Y.dfl f 1).length then some (r, ρ) else none

mutual
def ev : E → Env → Out T
  | .c d, ρ => ret (.val d) ρ
  | .g n, ρ => ret (.val (Y.gl n)) ρ
  | .v i, ρ => (match look ρ i with
    | none => none
    | some (.val d) => ret (.val d) ρ
    | some t => ret (.val (frz t)) (ρ.set i (some (.val (frz t)))))
  | .bin o a b, ρ => bnd (evPl a (ev a) ρ) fun p ρ => bnd (evPl b (ev b) ρ) fun q ρ => opt (rd ρ p) fun x => opt (rd ρ q) fun y => opt (binD o x y) fun t => ret t ρ
  | .neg a, ρ => bnd (evD (ev a ρ)) fun d ρ => (match d with | .int i => ret (.val (.int (-i))) ρ | _ => none)
  | .cmp o a b, ρ => bnd (evPl a (ev a) ρ) fun p ρ => bnd (evPl b (ev b) ρ) fun q ρ => opt (rd ρ p) fun x => opt (rd ρ q) fun y => opt ((cmpD o x y).map fun t => T.val (.bl t)) fun t => ret t ρ
  | .chn o o' a b c, ρ => bnd (evD (ev a ρ)) fun x ρ => bnd (evD (ev b ρ)) fun y ρ => opt (cmpD o x y) fun t => (match t with
    | false => ret (.val (.bl false)) ρ
    | true => bnd (evD (ev c ρ)) fun z ρ => opt (cmpD o' y z) fun t => ret (.val (.bl t)) ρ)
  | .and a b, ρ => bnd (evD (ev a ρ)) fun d ρ => (match d with
    | .bl true => ev b ρ
    | .bl false => ret (.val (.bl false)) ρ
    | _ => none)
  | .or a b, ρ => bnd (evD (ev a ρ)) fun d ρ => (match d with
    | .bl true => ret (.val (.bl true)) ρ
    | .bl false => ev b ρ
    | _ => none)
  | .not a, ρ => bnd (evD (ev a ρ)) fun d ρ => (match d with
    | .bl b => ret (.val (.bl (!b))) ρ
    | _ => none)
  | .ite c a b, ρ => bnd (evT c ρ) fun k ρ => (match k with | true => ev a ρ | false => ev b ρ)
  | .tup l, ρ => bnd (evDs l ρ) fun ds ρ => if ds.length ≤ LL then ret (.val (.tup ds)) ρ else none
  | .lst l, ρ => bnd (evDs l ρ) fun ds ρ => if ds.length ≤ LL then ret (.lst ds) ρ else none
  | .sub a i, ρ => bnd (evPl a (ev a) ρ) fun p ρ => bnd (evD (ev i ρ)) fun k ρ => opt (rd ρ p) fun x => opt (subD x k) fun d => ret (.val d) ρ
  | .slc a lo hi, ρ => bnd (evPl a (ev a) ρ) fun p ρ => bnd (evBd lo (ev lo) ρ) fun l ρ => bnd (evBd hi (ev hi) ρ) fun h ρ => opt (rd ρ p) fun x => opt (slcD x l h) fun t => ret t ρ
  | .call f l, ρ => bnd (evAs l ρ) fun as ρ => callT Y f as ρ
  | .call1 f a, ρ => bnd (ev a ρ) fun t ρ => call1T Y f t ρ
  | .blt b l, ρ => bnd (evPls l ρ) fun ps ρ => opt (ps.mapM (rd ρ)) fun ds => opt (bltD b ds) fun t => ret t ρ
  | .mth m a b, ρ => bnd (evPl a (ev a) ρ) fun p ρ => opt (rd ρ p) fun x0 => opt (mthK m x0) fun k => bnd (evPl b (ev b) ρ) fun q ρ => opt (rd ρ p) fun x => opt (rd ρ q) fun y => opt (mthD k x y) fun t => ret t ρ
  | .exn c a, ρ => bnd (evD (ev a ρ)) fun d ρ => ret (.val (.exc c d)) ρ
  | .un o a, ρ => bnd (evPl a (ev a) ρ) fun p ρ => opt (rd ρ p) fun x => opt (unD o x) fun t => ret t ρ
  | .hrd a, ρ => hrdT (ev a ρ)
  | .lc x g it ifs own, ρ => bnd (evIt (fun i => occ i 100 x || ifs.any (occ i 100)) it ρ) fun w ρ1 => if w.1.length ≤ LL then
      bnd (noE (lcLoop (fun d ρ => opt (asgD g d ρ) fun ρ => bnd (evTs ifs ρ) fun b ρ => (match b with
        | true => bnd (evD (ev x ρ)) fun y ρ => ret (some y) (hide ρ own)
        | false => ret none (hide ρ own))) w.1 (hide ρ1 (own ++ w.2)))) fun ds ρ2 => ret (.lst ds) (back ρ1 ρ2 (own ++ w.2))
    else none
  | .lran l, ρ => bnd (evDs l ρ) fun ds ρ => opt (rangeD ds) fun l => ret (.lst l) ρ
  | .range _, _ => none
  | .enum _, _ => none
  | .zip _ _, _ => none
/-- as a test -/
def evT : E → Env → Out Bool
  | .not a, ρ => bnd (evT a ρ) fun b ρ => ret (!b) ρ
  | .and a b, ρ => bnd (evT a ρ) fun k ρ => (match k with | true => evT b ρ | false => ret false ρ)
  | .or a b, ρ => bnd (evT a ρ) fun k ρ => (match k with | true => ret true ρ | false => evT b ρ)
  | .ite c a b, ρ => bnd (evT c ρ) fun k ρ => (match k with | true => evT a ρ | false => evT b ρ)
  | .c d, ρ => truT (ret (.val d) ρ)
  | .g n, ρ => truT (ret (.val (Y.gl n)) ρ)
  | .v i, ρ => bnd (evPl (.v i) (fun _ => none) ρ) fun p ρ => opt (rd ρ p) fun d => opt (truD d) fun b => ret b ρ
  | .bin o a b, ρ => truT (ev (.bin o a b) ρ)
  | .neg a, ρ => truT (ev (.neg a) ρ)
  | .cmp o a b, ρ => truT (ev (.cmp o a b) ρ)
  | .chn o o' a b c, ρ => truT (ev (.chn o o' a b c) ρ)
  | .tup l, ρ => truT (ev (.tup l) ρ)
  | .lst l, ρ => truT (ev (.lst l) ρ)
  | .sub a i, ρ => truT (ev (.sub a i) ρ)
  | .slc a lo hi, ρ => truT (ev (.slc a lo hi) ρ)
  | .call f l, ρ => truT (ev (.call f l) ρ)
  | .call1 f a, ρ => truT (ev (.call1 f a) ρ)
  | .blt b l, ρ => truT (ev (.blt b l) ρ)
  | .mth m a b, ρ => truT (ev (.mth m a b) ρ)
  | .exn c a, ρ => truT (ev (.exn c a) ρ)
  | .un o a, ρ => truT (ev (.un o a) ρ)
  | .hrd a, ρ => truT (ev (.hrd a) ρ)
  | .lc x g it ifs own, ρ => truT (ev (.lc x g it ifs own) ρ)
  | .lran l, ρ => truT (ev (.lran l) ρ)
  | _, _ => none
def evTs : List E → Env → Out Bool
  | [], ρ => ret true ρ
  | e :: r, ρ => bnd (evT e ρ) fun b ρ => (match b with | true => evTs r ρ | false => ret false ρ)
def evDs : List E → Env → Out (List D)
  | [], ρ => ret [] ρ
  | e :: r, ρ => bnd (evD (ev e ρ)) fun d ρ => bnd (evDs r ρ) fun ds ρ => ret (d :: ds) ρ
def evAs : List E → Env → Out (List Arg)
  | [], ρ => ret [] ρ
  | e :: r, ρ => bnd (evArg e (ev e) ρ) fun d ρ => bnd (evAs r ρ) fun ds ρ => ret (d :: ds) ρ
def evPls : List E → Env → Out (List Pl)
  | [], ρ => ret [] ρ
  | e :: r, ρ => bnd (evPl e (ev e) ρ) fun d ρ => bnd (evPls r ρ) fun ds ρ => ret (d :: ds) ρ
/-- the items that are walked, the slots that are held meanwhile -/
def evIt (oc : Nat → Bool) : E → Env → Out (List D × List Nat)
  | .range l, ρ => bnd (evDs l ρ) fun ds ρ => opt (rangeD ds) fun l => ret (l, []) ρ
  | .enum a, ρ => bnd (evWk oc a (ev a) ρ) fun w ρ => opt (seqD w.1) fun l => ret (pairs l 0, w.2) ρ
  | .zip (.v i) (.v j), ρ => bnd (evWk oc (.v i) (fun _ => none) ρ) fun w ρ => bnd (evWk oc (.v j) (fun _ => none) ρ) fun w' ρ => opt (zipD w.1 w'.1) fun l => ret (l, w.2 ++ w'.2) ρ
  | .zip a b, ρ => bnd (evD (ev a ρ)) fun x ρ => bnd (evD (ev b ρ)) fun y ρ => opt (zipD x y) fun l => ret (l, []) ρ
  | e, ρ => bnd (evWk oc e (ev e) ρ) fun w ρ => opt (itemsD w.1) fun l => ret (l, w.2) ρ
end
end

/-! ### statements -/
inductive Fl where
  | next | brk | cont
  | ret (t : T)
  | err (c : Nat) (d : D)
abbrev SOut := Option (Fl × Env)
def xs {α : Type} (m : Out α) (k : α → Env → SOut) : SOut := match m with
  | none => none
  | some (.err c d, ρ) => some (.err c d, ρ)
  | some (.ok a, ρ) => k a ρ
def opS {α : Type} (o : Option α) (k : α → SOut) : SOut := match o with
  | none => none
  | some a => k a
mutual
def tgs : Tg → List Nat
  | .v i => [i]
  | .tup l => tgss l
def tgss : List Tg → List Nat
  | [] => []
  | g :: r => tgs g ++ tgss r
end
mutual
/-- the names that a statement gives values -/
def asgS : S → List Nat
  | .asg g _ => tgs g
  | .par i j _ _ => [i, j]
  | .augN i _ => [i]
  | .ite _ a b => asgSs a ++ asgSs b
  | .for_ g _ b => tgs g ++ asgSs b
  | .while_ _ b => asgSs b
  | _ => []
def asgSs : List S → List Nat
  | [] => []
  | s :: r => asgS s ++ asgSs r
end
mutual
def occS (i : Nat) : S → Bool
  | .pass => false
  | .drop e => occ i 100 e
  | .app j e => i == j || occ i 100 e
  | .ext j e => i == j || occ i 100 e
  | .asg g e => (tgs g).contains i || occ i 100 e
  | .par j k a b => i == j || i == k || occ i 100 a || occ i 100 b
  | .setI j k e => i == j || occ i 100 k || occ i 100 e
  | .augI j k e => i == j || occ i 100 k || occ i 100 e
  | .augN j e => i == j || occ i 100 e
  | .ret e => occ i 100 e
  | .retm j => i == j
  | .ite c a b => occ i 100 c || occSs i a || occSs i b
  | .for_ g it b => (tgs g).contains i || occ i 100 it || occSs i b
  | .while_ c b => occ i 100 c || occSs i b
  | .raise _ e => occ i 100 e
def occSs (i : Nat) : List S → Bool
  | [] => false
  | s :: r => occS i s || occSs i r
end
def forLoop (step : D → Env → SOut) : List D → Env → SOut
  | [], ρ => some (.next, ρ)
  | d :: r, ρ => (match step d ρ with
    | some (.next, ρ') => forLoop step r ρ'
    | some (.cont, ρ') => forLoop step r ρ'
    | some (.brk, ρ') => some (.next, ρ')
    | o => o)
def whileLoop (c : Env → Out Bool) (b : Env → SOut) : Nat → Env → SOut
  | 0, _ => none
  | n + 1, ρ => xs (c ρ) fun k ρ => (match k with
    | false => some (.next, ρ)
    | true => (match b ρ with
      | some (.next, ρ') => whileLoop c b n ρ'
      | some (.cont, ρ') => whileLoop c b n ρ'
      | some (.brk, ρ') => some (.next, ρ')
      | o => o))
def setAt (ρ : Env) (i : Nat) (k d : D) : Option Env := match look ρ i, k with
  | some (.lst l), .int k => (match L2.ixN l.length k with
    | some j => some (ρ.set i (some (.lst (l.set j d))))
    | none => none)
  | _, _ => none
section
variable (Y : Sys)
mutual
def exS : S → Env → SOut
  | .pass, ρ => some (.next, ρ)
  | .drop e, ρ => xs (ev Y e ρ) fun _ ρ => some (.next, ρ)
  | .app i e, ρ => (match look ρ i with
    | some (.lst _) => xs (evD (ev Y e ρ)) fun d ρ => (match look ρ i with
      | some (.lst l) => if l.length < LL then some (.next, ρ.set i (some (.lst (l ++ [d])))) else none
      | _ => none)
    | _ => none)
  | .ext i e, ρ => (match look ρ i with
    | some (.lst _) => xs (evD (ev Y e ρ)) fun d ρ => (match look ρ i, d with
      | some (.lst l), .lst z => if l.length + z.length ≤ LL then some (.next, ρ.set i (some (.lst (l ++ z)))) else none
      | _, _ => none)
    | _ => none)
  | .asg g e, ρ => xs (ev Y e ρ) fun t ρ => opS (asgT g t ρ) fun ρ => some (.next, ρ)
  | .par i j a b, ρ => xs (ev Y a ρ) fun s ρ => xs (ev Y b ρ) fun t ρ => if i ≠ j ∧ i < ρ.length ∧ j < ρ.length then some (.next, (ρ.set i (some s)).set j (some t)) else none
  | .setI i k e, ρ => xs (evD (ev Y e ρ)) fun d ρ => (match look ρ i with
    | some (.lst _) => xs (evD (ev Y k ρ)) fun k ρ => opS (setAt ρ i k d) fun ρ => some (.next, ρ)
    | _ => none)
  | .augI i k e, ρ => (match look ρ i with
    | some (.lst _) => xs (evD (ev Y k ρ)) fun k ρ => (match look ρ i, k with
      | some (.lst l), .int k => opS (L2.atI l k) fun x => xs (evD (ev Y e ρ)) fun y ρ => (match x, y with
        | .int x, .int y => opS (setAt ρ i (.int k) (.int (x + y))) fun ρ => some (.next, ρ)
        | _, _ => none)
      | _, _ => none)
    | _ => none)
  | .augN i e, ρ => (match look ρ i with
    | some (.val (.int x)) => xs (evD (ev Y e ρ)) fun y ρ => (match y with
      | .int y => if i < ρ.length then some (.next, ρ.set i (some (.val (.int (x + y))))) else none
      | _ => none)
    | _ => none)
  | .ret e, ρ => xs (ev Y e ρ) fun t ρ => some (.ret t, ρ)
  | .retm i, ρ => opS (look ρ i) fun t => some (.ret t, ρ.set i none)
  | .ite c a b, ρ => xs (evT Y c ρ) fun k ρ => (match k with | true => exSs a ρ | false => exSs b ρ)
  | .for_ g it b, ρ => xs (evIt Y (fun i => occSs i b || (tgs g).contains i) it ρ) fun w ρ1 => if w.1.length ≤ LL ∧ w.2.all (fun i => !(asgSs b).contains i && !(tgs g).contains i) then
      (match forLoop (fun d ρ => opS (asgD g d ρ) fun ρ => exSs b ρ) w.1 (hide ρ1 w.2) with
      | some (f, ρ2) => some (f, back ρ1 ρ2 w.2)
      | none => none)
    else none
  | .while_ c b, ρ => whileLoop (evT Y c) (exSs b) Y.W ρ
  | .raise c e, ρ => xs (evD (ev Y e ρ)) fun d ρ => some (.err c d, ρ)
def exSs : List S → Env → SOut
  | [], ρ => some (.next, ρ)
  | s :: r, ρ => (match exS s ρ with
    | some (.next, ρ') => exSs r ρ'
    | o => o)
end
end

/-! ### defs -/
structure Def where
  np : Nat
  nn : Nat
  body : List S
/-- the arguments behind a call -/
def finals (as : List Nat) (ρ : Env) : List T → Nat → Option (List T)
  | [], _ => some []
  | .val d :: r, k => (finals as ρ r (k + 1)).map (.val d :: ·)
  | _ :: r, k => if as.contains k then none else (match look ρ k, finals as ρ r (k + 1) with
    | some t, some ts => some (t :: ts)
    | _, _ => none)
def runDef (Y : Sys) (d : Def) (ts : List T) : Option (Res T × List T) := if ts.length = d.np then
    (match exSs Y d.body (ts.map some ++ List.replicate (d.nn - d.np) none) with
    | some (.next, ρ) => (finals (asgSs d.body) ρ ts 0).map fun ts' => (.ok (.val .non), ts')
    | some (.ret t, ρ) => (finals (asgSs d.body) ρ ts 0).map fun ts' => (.ok t, ts')
    | some (.err c e, ρ) => (finals (asgSs d.body) ρ ts 0).map fun ts' => (.err c e, ts')
    | _ => none)
  else none
/-- a program: its defs, its constants, the defaults -/
structure Pr where
  ds : Nat → Def
  gl : Nat → D
  dfl : Nat → Nat → List D
def WW : Nat := 2 ^ 200
def call (p : Pr) : Nat → Nat → List T → Option (Res T × List T)
  | 0, _, _ => none
  | n + 1, f, ts => runDef ⟨call p n, WW, p.gl, p.dfl⟩ (p.ds f) ts
end Ev
end

section
set_option linter.all false
set_option maxRecDepth 100000
/-! How data and own objects stand in the abstract heap. -/
namespace Ev
open PySem L2

/-- whose an address is: nobody's here, frozen, or the place p of the tree r (0: what is just made; i + 1: slot i) -/
inductive Own where
  | non | frz | my (r : Nat) (p : List Nat)
  -- a table of code objects
  | tb
abbrev Gh := Addr → Own
def Fz (G : Gh) (H : Hp) : Hp := fun a => match G a with
  | .frz => H a
  | _ => none
theorem Fz.of {G : Gh} {H : Hp} {a : Addr} {o : HO} (h : G a = .frz) (e : H a = some o) : Fz G H a = some o := by
  unfold Fz; rw [h]; exact e
theorem Fz.inv {G : Gh} {H : Hp} {a : Addr} {o : HO} (h : Fz G H a = some o) : G a = .frz ∧ H a = some o := by
  unfold Fz at h
  cases e : G a with
  | frz => rw [e] at h; exact ⟨rfl, h⟩
  | non => rw [e] at h; cases h
  | my r p => rw [e] at h; cases h
  | tb => rw [e] at h; cases h

/-- the classes -/
structure Cls0 where
  C : Nat → Addr
  fs : Nat → List Str
  X : Nat → Addr
  tb : List (Addr × Str)

/-- an error of the class at C with its dict at dx, raised before or not -/
def exv (a C dx : Addr) : HO := .ext fun h => ∃ (oe : Obj) (vs : Array Value), h.get? a = some oe ∧ oe.cls = .ref C ∧ oe.dict = some dx ∧ oe.data = .fields vs
theorem exv_ok {P : Program} {w : World} {H : Hp} {h : Heap} {a C dx : Addr} {oe : Obj} {vs : Array Value} (e : h.get? a = some oe) (c : oe.cls = .ref C) (d : oe.dict = some dx) (f : oe.data = .fields vs) : ObjOk P w H h a (exv a C dx) :=
  ⟨⟨oe, vs, e, c, d, f⟩, ⟨oe, e⟩, fun _ _ ⟨o, us, e, r⟩ k => ⟨o, us, k _ e, r⟩⟩
theorem exv_at {P : Program} {w : World} {H : Hp} {h : Heap} {a C dx : Addr} (hok : HOk P w H h) (e : H a = some (exv a C dx)) : ∃ (oe : Obj) (vs : Array Value), h.get? a = some oe ∧ oe.cls = .ref C ∧ oe.dict = some dx ∧ oe.data = .fields vs := by
  have z : ObjOk P w H h a (.ext fun h => ∃ (oe : Obj) (vs : Array Value), h.get? a = some oe ∧ oe.cls = .ref C ∧ oe.dict = some dx ∧ oe.data = .fields vs) := hok a _ e
  exact z.1

/-- a tuple that has no dict of its own -/
def TpM (K : PySem.W.Frag) (F : Hp) (a : Addr) (vs : List V) : Prop := (∃ o, F a = some (.frz o (.tup vs)) ∧ o.cls = .type "tuple" ∧ o.dict = none) ∨
  ∃ (o : Obj) (its : Array Value) (n : Nat), K.lookup a = some o ∧ o.cls = .type "tuple" ∧ o.dict = none ∧ o.data = .seq its n ∧ its.size ≤ sizeLine ∧ Vals vs its.toList
theorem TpM.sq {K : PySem.W.Frag} {F : Hp} {a : Addr} {vs : List V} (h : TpM K F a vs) : SqT K F a vs := h.elim (fun ⟨o, q, _⟩ => .inl (.inr ⟨o, q⟩)) fun ⟨o, its, n, q1, q2, _, q3, q4, q5⟩ => .inr ⟨o, its, n, q1, q2, q3, q4, q5⟩
section
variable (K : PySem.W.Frag) (B : Cls0)
mutual
inductive Rep (F : Hp) : V → D → Prop
  | non : Rep F .non .non
  | bl (b : Bool) : Rep F (.bl b) (.bl b)
  | int (i : Int) : Rep F (.int i) (.int i)
  | str (x : Str) : Rep F (.str x) (.str x)
  | tup {a : Addr} {vs : List V} {ds : List D} : TpM K F a vs → Reps F vs ds → Rep F (.ref a) (.tup ds)
  | lst {a : Addr} {vs : List V} {ds : List D} : F a = some (.lst vs) → Reps F vs ds → Rep F (.ref a) (.lst ds)
  | scr {a : Addr} {l : List Int} : SqL K F a (l.map V.int) → Rep F (.ref a) (.scr l)
  | dic {a : Addr} {ks : List Key} {vs : List V} {ds : List D} : F a = some (.dK (ks.zip vs)) → ks.length = vs.length → Reps F vs ds → Rep F (.ref a) (.dic ks ds)
  | ins {a dx : Addr} {c : Nat} {vs : List V} {ds : List D} : F a = some (.ins (B.C c) dx ((B.fs c).zip vs)) → vs.length ≤ (B.fs c).length → Reps F vs ds → Rep F (.ref a) (.ins c ds)
  | exc {a dx : Addr} {c : Nat} {v : V} {d : D} : F a = some (exv a (B.X c) dx) → F dx = some (exd dx [("value", v)]) → Rep F v d → Rep F (.ref a) (.exc c d)
inductive Reps (F : Hp) : List V → List D → Prop
  | nil : Reps F [] []
  | cons {v : V} {vs : List V} {d : D} {ds : List D} : Rep F v d → Reps F vs ds → Reps F (v :: vs) (d :: ds)
end
mutual
inductive RepT (G : Gh) (H : Hp) (r : Nat) : List Nat → V → T → Prop
  | val {p : List Nat} {v : V} {d : D} : Rep K B (Fz G H) v d → RepT G H r p v (.val d)
  | lst {p : List Nat} {a : Addr} {vs : List V} {ds : List D} : G a = .my r p → H a = some (.lst vs) → Reps K B (Fz G H) vs ds → RepT G H r p (.ref a) (.lst ds)
  | dic {p : List Nat} {a : Addr} {ks : List Key} {vs : List V} {ts : List T} : G a = .my r p → H a = some (.dK (ks.zip vs)) → ks.length = vs.length → RepTs G H r p 0 vs ts → RepT G H r p (.ref a) (.dic ks ts)
  | ins {p : List Nat} {a dx : Addr} {c : Nat} {vs : List V} {ts : List T} : G a = .my r p → H a = some (.ins (B.C c) dx ((B.fs c).zip vs)) → vs.length ≤ (B.fs c).length → RepTs G H r p 0 vs ts → RepT G H r p (.ref a) (.ins c ts)
inductive RepTs (G : Gh) (H : Hp) (r : Nat) : List Nat → Nat → List V → List T → Prop
  | nil {p : List Nat} {k : Nat} : RepTs G H r p k [] []
  | cons {p : List Nat} {k : Nat} {v : V} {vs : List V} {t : T} {ts : List T} : RepT G H r (k :: p) v t → RepTs G H r p (k + 1) vs ts → RepTs G H r p k (v :: vs) (t :: ts)
end
end

section
variable {K : PySem.W.Frag} {B : Cls0} {F F' H H' H1 H2 : Hp} {G G' G1 G2 : Gh} {σ : L2.St} {ρ ρ' : Env}
def Sub (F F' : Hp) : Prop := ∀ a o, F a = some o → F' a = some o
theorem Sub.seqL (h : Sub F F') {a : Addr} {xs : List V} (q : SqL K F a xs) : SqL K F' a xs := by
  rcases q with (q | ⟨o, q⟩) | q
  · exact .inl (.inl (h _ _ q))
  · exact .inl (.inr ⟨o, h _ _ q⟩)
  · exact .inr q
theorem Sub.seqT (h : Sub F F') {a : Addr} {xs : List V} (q : SqT K F a xs) : SqT K F' a xs := by
  rcases q with (q | ⟨o, q⟩) | q
  · exact .inl (.inl (h _ _ q))
  · exact .inl (.inr ⟨o, h _ _ q⟩)
  · exact .inr q
theorem Sub.tpM (h : Sub F F') {a : Addr} {xs : List V} (q : TpM K F a xs) : TpM K F' a xs := q.elim (fun ⟨o, q⟩ => .inl ⟨o, h _ _ q.1, q.2⟩) .inr
mutual
theorem Rep.mono (h : Sub F F') : ∀ {v : V} {d : D}, Rep K B F v d → Rep K B F' v d
  | _, _, .non => .non
  | _, _, .bl b => .bl b
  | _, _, .int i => .int i
  | _, _, .str x => .str x
  | _, _, .tup a r => .tup (h.tpM a) (Reps.mono h r)
  | _, _, .lst a r => .lst (h _ _ a) (Reps.mono h r)
  | _, _, .scr a => .scr (h.seqL a)
  | _, _, .dic a l r => .dic (h _ _ a) l (Reps.mono h r)
  | _, _, .ins a l r => .ins (h _ _ a) l (Reps.mono h r)
  | _, _, .exc a b r => .exc (h _ _ a) (h _ _ b) (Rep.mono h r)
theorem Reps.mono (h : Sub F F') : ∀ {vs : List V} {ds : List D}, Reps K B F vs ds → Reps K B F' vs ds
  | _, _, .nil => .nil
  | _, _, .cons a r => .cons (Rep.mono h a) (Reps.mono h r)
end
theorem Reps.length : ∀ {vs : List V} {ds : List D}, Reps K B F vs ds → vs.length = ds.length
  | _, _, .nil => rfl
  | _, _, .cons _ r => congrArg Nat.succ (Reps.length r)
theorem Reps.get : ∀ {vs : List V} {ds : List D} {i : Nat} {d : D}, Reps K B F vs ds → ds[i]? = some d → ∃ v, vs[i]? = some v ∧ Rep K B F v d
  | _, _, _, _, .nil, e => by simp at e
  | _, _, 0, _, .cons a _, e => by
    have e2 := Option.some.inj e
    subst e2
    exact ⟨_, rfl, a⟩
  | _, _, i + 1, d, .cons _ r, e => Reps.get (i := i) r e
theorem Reps.getV : ∀ {vs : List V} {ds : List D} {i : Nat} {v : V}, Reps K B F vs ds → vs[i]? = some v → ∃ d, ds[i]? = some d ∧ Rep K B F v d
  | _, _, _, _, .nil, e => by simp at e
  | _, _, 0, _, .cons a _, e => by
    have e2 := Option.some.inj e
    subst e2
    exact ⟨_, rfl, a⟩
  | _, _, i + 1, d, .cons _ r, e => Reps.getV (i := i) r e
theorem Reps.append : ∀ {vs ws : List V} {ds es : List D}, Reps K B F vs ds → Reps K B F ws es → Reps K B F (vs ++ ws) (ds ++ es)
  | _, _, _, _, .nil, s => s
  | _, _, _, _, .cons a r, s => .cons a (Reps.append r s)
theorem Reps.reverse {vs : List V} {ds : List D} (h : Reps K B F vs ds) : Reps K B F vs.reverse ds.reverse := by
  suffices H : ∀ (n : Nat) {vs : List V} {ds : List D}, vs.length = n → Reps K B F vs ds → Reps K B F vs.reverse ds.reverse from H _ rfl h
  intro n
  induction n with
  | zero => intro vs ds e r; cases r with
    | nil => exact .nil
    | cons _ _ => cases e
  | succ n ih => intro vs ds e r; cases r with
    | nil => cases e
    | cons a r =>
      rw [List.reverse_cons, List.reverse_cons]
      exact Reps.append (ih (Nat.succ.inj e) r) (.cons a .nil)
theorem Reps.take : ∀ {vs : List V} {ds : List D} (n : Nat), Reps K B F vs ds → Reps K B F (vs.take n) (ds.take n)
  | _, _, 0, _ => .nil
  | _, _, _ + 1, .nil => .nil
  | _, _, n + 1, .cons a r => .cons a (Reps.take n r)
theorem Reps.drop : ∀ {vs : List V} {ds : List D} (n : Nat), Reps K B F vs ds → Reps K B F (vs.drop n) (ds.drop n)
  | _, _, 0, r => r
  | _, _, _ + 1, .nil => .nil
  | _, _, n + 1, .cons _ r => Reps.drop n r
theorem Reps.set {v : V} {d : D} (a : Rep K B F v d) : ∀ {vs : List V} {ds : List D} (n : Nat), Reps K B F vs ds → Reps K B F (vs.set n v) (ds.set n d)
  | _, _, _, .nil => .nil
  | _, _, 0, .cons _ r => .cons a r
  | _, _, n + 1, .cons b r => .cons b (Reps.set a n r)
theorem Reps.rep {vs : List V} {ds : List D} (h : Reps K B F vs ds) : ∀ k : Nat, Reps K B F (List.replicate k vs).flatten (List.replicate k ds).flatten
  | 0 => .nil
  | k + 1 => by
    rw [List.replicate_succ, List.replicate_succ, List.flatten_cons, List.flatten_cons]
    exact h.append (Reps.rep h k)
mutual
/-- a tree of its own, read -/
theorem RepT.read {r : Nat} (hz : ∀ a o, H a = some o → G a = .frz → F a = some o) (hl : ∀ a o p, H a = some o → G a = .my r p → F a = some o) : ∀ {p : List Nat} {v : V} {t : T}, RepT K B G H r p v t → Rep K B F v (frz t)
  | _, _, _, .val x => x.mono fun a o e => hz a o (Fz.inv e).2 (Fz.inv e).1
  | _, _, _, .lst g h x => .lst (hl _ _ _ h g) (x.mono fun a o e => hz a o (Fz.inv e).2 (Fz.inv e).1)
  | _, _, _, .dic g h l x => .dic (hl _ _ _ h g) l (RepTs.read hz hl x)
  | _, _, _, .ins g h l x => .ins (hl _ _ _ h g) l (RepTs.read hz hl x)
theorem RepTs.read {r : Nat} (hz : ∀ a o, H a = some o → G a = .frz → F a = some o) (hl : ∀ a o p, H a = some o → G a = .my r p → F a = some o) : ∀ {p : List Nat} {k : Nat} {vs : List V} {ts : List T}, RepTs K B G H r p k vs ts → Reps K B F vs (frzs ts)
  | _, _, _, _, .nil => .nil
  | _, _, _, _, .cons a b => .cons (RepT.read hz hl a) (RepTs.read hz hl b)
end
mutual
/-- a tree of its own stays, perhaps under another name -/
theorem RepT.stay {r r' : Nat} (hz : ∀ a o, H a = some o → G a = .frz → H' a = some o ∧ G' a = .frz) (hl : ∀ a o p, H a = some o → G a = .my r p → H' a = some o ∧ G' a = .my r' p) : ∀ {p : List Nat} {v : V} {t : T}, RepT K B G H r p v t → RepT K B G' H' r' p v t
  | _, _, _, .val x => .val (x.mono fun a o e => by
      have q := hz a o (Fz.inv e).2 (Fz.inv e).1
      exact Fz.of q.2 q.1)
  | _, _, _, .lst g h x => .lst (hl _ _ _ h g).2 (hl _ _ _ h g).1 (x.mono fun a o e => by
      have q := hz a o (Fz.inv e).2 (Fz.inv e).1
      exact Fz.of q.2 q.1)
  | _, _, _, .dic g h l x => .dic (hl _ _ _ h g).2 (hl _ _ _ h g).1 l (RepTs.stay hz hl x)
  | _, _, _, .ins g h l x => .ins (hl _ _ _ h g).2 (hl _ _ _ h g).1 l (RepTs.stay hz hl x)
theorem RepTs.stay {r r' : Nat} (hz : ∀ a o, H a = some o → G a = .frz → H' a = some o ∧ G' a = .frz) (hl : ∀ a o p, H a = some o → G a = .my r p → H' a = some o ∧ G' a = .my r' p) : ∀ {p : List Nat} {k : Nat} {vs : List V} {ts : List T}, RepTs K B G H r p k vs ts → RepTs K B G' H' r' p k vs ts
  | _, _, _, _, .nil => .nil
  | _, _, _, _, .cons a b => .cons (RepT.stay hz hl a) (RepTs.stay hz hl b)
end

/-! ### what is not made yet is nobody's; the tables of code objects -/
def TbG (G : Gh) (H : Hp) (a : Addr) (q : Str) : Prop := G a = .tb ∧ LamX.TabS H a q
structure Frs (tb : List (Addr × Str)) (G : Gh) (H : Hp) : Prop where
  fr : ∀ a, H a = none → G a = .non
  tab : ∀ p, p ∈ tb → TbG G H p.1 p.2
  tbs : ∀ a ps, H a = some (.tbl ps) → G a = .tb
theorem Frs.step {tb : List (Addr × Str)} (F : Frs tb G H) (hf : ∀ a, H' a = none → G' a = .non) (hx : ∀ a φ, H a = some (.ext φ) → H' a = some (.ext φ)) (ht : ∀ a o, H a = some o → G a = .tb → H' a = some o ∧ G' a = .tb) (hb : ∀ a ps, H' a = some (.tbl ps) → ∃ qs, H a = some (.tbl qs)) : Frs tb G' H' :=
  ⟨hf, fun p hp => by
    obtain ⟨g, ps, h1, h2, h3⟩ := F.tab p hp
    obtain ⟨k1, k2⟩ := ht _ _ h1 g
    refine ⟨k2, ps, k1, h2, fun pos cv e => ?_⟩
    obtain ⟨c, e1, e3⟩ := h3 pos cv e
    exact ⟨c, e1, hx _ _ e3⟩, fun a ps e => by
    obtain ⟨qs, e1⟩ := hb a ps e
    exact (ht a _ e1 (F.tbs a qs e1)).2⟩
theorem Frs.same {tb : List (Addr × Str)} (F : Frs tb G H) (hf : ∀ a, H a = none → G' a = .non) (ht : ∀ a o, H a = some o → G a = .tb → G' a = .tb) : Frs tb G' H := F.step hf (fun _ _ e => e) (fun a o e g => ⟨e, ht a o e g⟩) fun a ps e => ⟨ps, e⟩
/-! ### the state of a def -/
structure Sta (K : PySem.W.Frag) (B : Cls0) (G : Gh) (ρ : Env) (σ : L2.St) (H : Hp) : Prop where
  len : ρ.length = σ.length
  slot : ∀ i t, look ρ i = some t → ∃ v, σ[i]? = some (some v) ∧ RepT K B G H (i + 1) [] v t
  fresh : Frs B.tb G H
/-- what is frozen stays, what is nobody's here stays -/
def Nx (G : Gh) (H : Hp) (G' : Gh) (H' : Hp) : Prop := ∀ a o, H a = some o → (G a = .frz → H' a = some o ∧ G' a = .frz) ∧ (G a = .non → H' a = some o ∧ G' a = .non)
theorem Nx.refl : Nx G H G H := fun _ _ e => ⟨fun g => ⟨e, g⟩, fun g => ⟨e, g⟩⟩
theorem Nx.trans (a : Nx G H G1 H1) (b : Nx G1 H1 G2 H2) : Nx G H G2 H2 := fun x o e => ⟨fun g => by
    obtain ⟨e1, g1⟩ := (a x o e).1 g
    exact (b x o e1).1 g1, fun g => by
    obtain ⟨e1, g1⟩ := (a x o e).2 g
    exact (b x o e1).2 g1⟩
theorem Nx.frz (n : Nx G H G' H') : Sub (Fz G H) (Fz G' H') := fun a o e => by
  obtain ⟨g, h⟩ := Fz.inv e
  obtain ⟨h', g'⟩ := (n a o h).1 g
  exact Fz.of g' h'
theorem Nx.rep (n : Nx G H G' H') {v : V} {d : D} (r : Rep K B (Fz G H) v d) : Rep K B (Fz G' H') v d := r.mono n.frz
theorem Nx.reps (n : Nx G H G' H') {vs : List V} {ds : List D} (r : Reps K B (Fz G H) vs ds) : Reps K B (Fz G' H') vs ds := r.mono n.frz
theorem Fz.sub : Sub (Fz G H) H := fun _ _ e => (Fz.inv e).2
theorem look_lt {i : Nat} {t : T} (h : look ρ i = some t) : i < ρ.length := by
  unfold look at h
  cases e : ρ[i]? with
  | none => rw [e] at h; cases h
  | some o => exact (List.getElem?_eq_some_iff.mp e).1
theorem look_set_ne {i j : Nat} {o : Option T} (h : i ≠ j) : look (ρ.set i o) j = look ρ j := by
  unfold look
  rw [List.getElem?_set_ne h]
theorem look_set_none {i : Nat} : look (ρ.set i none) i = none := by
  unfold look
  by_cases h : i < ρ.length
  · rw [List.getElem?_set_self h]
  · rw [List.getElem?_eq_none (by rw [List.length_set]; omega)]
theorem look_set_self {i : Nat} {t : T} (h : i < ρ.length) : look (ρ.set i (some t)) i = some t := by
  unfold look
  rw [List.getElem?_set_self h]
theorem look_set_some {i : Nat} {t t' : T} (h : look (ρ.set i (some t)) i = some t') : t' = t := by
  have hl := look_lt h
  rw [List.length_set] at hl
  rw [look_set_self hl] at h
  exact (Option.some.inj h).symm

/-! ### changes of names alone -/
/-- the tree r is frozen -/
def gFrz (r : Nat) (G : Gh) : Gh := fun a => match G a with
  | .my q p => if q = r then .frz else .my q p
  | o => o
theorem gFrz_frz {r : Nat} {a : Addr} (h : G a = .frz) : gFrz r G a = .frz := by unfold gFrz; rw [h]
theorem gFrz_non {r : Nat} {a : Addr} (h : G a = .non) : gFrz r G a = .non := by unfold gFrz; rw [h]
theorem gFrz_tb {r : Nat} {a : Addr} (h : G a = .tb) : gFrz r G a = .tb := by unfold gFrz; rw [h]
theorem gFrz_at {r : Nat} {a : Addr} {p : List Nat} (h : G a = .my r p) : gFrz r G a = .frz := by unfold gFrz; rw [h]; simp
theorem gFrz_ne {r q : Nat} {a : Addr} {p : List Nat} (h : G a = .my q p) (n : q ≠ r) : gFrz r G a = .my q p := by unfold gFrz; rw [h]; simp [n]
theorem Nx.gFrz {r : Nat} : Nx G H (gFrz r G) H := fun a o e => ⟨fun g => ⟨e, gFrz_frz g⟩, fun g => ⟨e, gFrz_non g⟩⟩
/-- the tree r becomes the tree r', what was r' is let go -/
def gMv (r r' : Nat) (G : Gh) : Gh := fun a => match G a with
  | .my q p => if q = r then .my r' p else if q = r' then .non else .my q p
  | o => o
theorem gMv_frz {r r' : Nat} {a : Addr} (h : G a = .frz) : gMv r r' G a = .frz := by unfold gMv; rw [h]
theorem gMv_non {r r' : Nat} {a : Addr} (h : G a = .non) : gMv r r' G a = .non := by unfold gMv; rw [h]
theorem gMv_tb {r r' : Nat} {a : Addr} (h : G a = .tb) : gMv r r' G a = .tb := by unfold gMv; rw [h]
theorem gMv_at {r r' : Nat} {a : Addr} {p : List Nat} (h : G a = .my r p) : gMv r r' G a = .my r' p := by unfold gMv; rw [h]; simp
theorem gMv_ne {r r' q : Nat} {a : Addr} {p : List Nat} (h : G a = .my q p) (n : q ≠ r) (n' : q ≠ r') : gMv r r' G a = .my q p := by unfold gMv; rw [h]; simp [n, n']
theorem Nx.gMv {r r' : Nat} : Nx G H (gMv r r' G) H := fun a o e => ⟨fun g => ⟨e, gMv_frz g⟩, fun g => ⟨e, gMv_non g⟩⟩
/-- names under which nothing is known here -/
def gHid (s : Nat → Bool) (G : Gh) : Gh := fun a => match G a with
  | .my q p => if s q then .non else .my q p
  | o => o
theorem gHid_frz {s : Nat → Bool} {a : Addr} (h : G a = .frz) : gHid s G a = .frz := by unfold gHid; rw [h]
theorem gHid_non {s : Nat → Bool} {a : Addr} (h : G a = .non) : gHid s G a = .non := by unfold gHid; rw [h]
theorem gHid_tb {s : Nat → Bool} {a : Addr} (h : G a = .tb) : gHid s G a = .tb := by unfold gHid; rw [h]
theorem gHid_at {s : Nat → Bool} {q : Nat} {a : Addr} {p : List Nat} (h : G a = .my q p) (n : s q = true) : gHid s G a = .non := by unfold gHid; rw [h]; simp [n]
theorem gHid_ne {s : Nat → Bool} {q : Nat} {a : Addr} {p : List Nat} (h : G a = .my q p) (n : s q = false) : gHid s G a = .my q p := by unfold gHid; rw [h]; simp [n]
theorem Nx.gHid {s : Nat → Bool} : Nx G H (gHid s G) H := fun a o e => ⟨fun g => ⟨e, gHid_frz g⟩, fun g => ⟨e, gHid_non g⟩⟩
/-- the hidden names come back -/
def gBack (s : Nat → Bool) (G0 G : Gh) : Gh := fun a => match G0 a with
  | .my q p => if s q then .my q p else G a
  | _ => G a
theorem gBack_at {s : Nat → Bool} {G0 : Gh} {q : Nat} {a : Addr} {p : List Nat} (h : G0 a = .my q p) (n : s q = true) : gBack s G0 G a = .my q p := by unfold gBack; rw [h]; simp [n]
theorem gBack_ne {s : Nat → Bool} {G0 : Gh} {a : Addr} (h : ∀ q p, G0 a = .my q p → s q = false) : gBack s G0 G a = G a := by
  unfold gBack
  cases e : G0 a with
  | non => rfl
  | frz => rfl
  | tb => rfl
  | my q p => simp [h q p e]

/-! ### what the state becomes -/
/-- an object laid: it is nobody's yet in H -/
theorem Sta.keep (S : Sta K B G ρ σ H) (hz : ∀ a o, H a = some o → G a = .frz → H' a = some o ∧ G' a = .frz) (hl : ∀ i a o p, (look ρ i).isSome → H a = some o → G a = .my (i + 1) p → H' a = some o ∧ G' a = .my (i + 1) p) (hf : ∀ a, H' a = none → G' a = .non) (ht : ∀ a o, H a = some o → G a = .tb → H' a = some o ∧ G' a = .tb) (hx : ∀ a φ, H a = some (.ext φ) → H' a = some (.ext φ)) (hb : ∀ a ps, H' a = some (.tbl ps) → ∃ qs, H a = some (.tbl qs)) : Sta K B G' ρ σ H' :=
  ⟨S.len, fun i t e => by
    obtain ⟨v, hv, r⟩ := S.slot i t e
    exact ⟨v, hv, r.stay hz fun a o p => hl i a o p (by rw [e]; rfl)⟩, S.fresh.step hf hx ht hb⟩
/-- fewer slots known -/
theorem Sta.less (S : Sta K B G ρ σ H) (hl : ρ'.length = ρ.length) (h : ∀ i t, look ρ' i = some t → look ρ i = some t) : Sta K B G ρ' σ H :=
  ⟨hl.trans S.len, fun i t e => S.slot i t (h i t e), S.fresh⟩
end

/-- a new object at p, whose it is -/
def gNew (p : Addr) (w : Own) (G : Gh) : Gh := fun a => if a = p then w else G a
section
variable {K : PySem.W.Frag} {B : Cls0} {F F' H H' H1 H2 : Hp} {G G' G1 G2 : Gh} {σ : L2.St} {ρ ρ' : Env}
theorem gNew_same {p : Addr} {w : Own} : gNew p w G p = w := by unfold gNew; rw [if_pos rfl]
theorem gNew_ne {p a : Addr} {w : Own} (h : a ≠ p) : gNew p w G a = G a := by unfold gNew; rw [if_neg h]
theorem new_ne {p a : Addr} {o : HO} (h : H p = none) (e : H a = some o) : a ≠ p := ne_of_none e h
theorem Nx.new {p : Addr} {o : HO} {w : Own} (h : H p = none) : Nx G H (gNew p w G) (upd H p o) := fun a u e => by
  have n := new_ne h e
  rw [upd_ne n, gNew_ne n]
  exact ⟨fun g => ⟨e, g⟩, fun g => ⟨e, g⟩⟩
theorem Sta.new (S : Sta K B G ρ σ H) {p : Addr} {o : HO} {w : Own} (h : H p = none) (ho : ∀ ps, o ≠ .tbl ps := by intro ps z; first | cases z | (unfold exv at z; cases z) | (unfold L2.exd at z; cases z)) : Sta K B (gNew p w G) ρ σ (upd H p o) :=
  S.keep (fun a u e g => by
      have n := new_ne h e
      rw [upd_ne n, gNew_ne n]
      exact ⟨e, g⟩) (fun i a u p _ e g => by
      have n := new_ne h e
      rw [upd_ne n, gNew_ne n]
      exact ⟨e, g⟩) (fun a e => by
      have n : a ≠ p := fun z => by
        rw [z, upd_same] at e
        cases e
      rw [upd_ne n] at e
      rw [gNew_ne n]
      exact S.fresh.fr a e) (fun a u e g => by
      have n := new_ne h e
      rw [upd_ne n, gNew_ne n]
      exact ⟨e, g⟩) (fun a φ e => by
      rw [upd_ne (new_ne h e)]
      exact e) fun a ps e => by
      by_cases n : a = p
      · rw [n, upd_same] at e
        exact absurd (Option.some.inj e) (ho ps)
      · rw [upd_ne n] at e
        exact ⟨ps, e⟩
theorem Sta.frzTmp (S : Sta K B G ρ σ H) : Sta K B (gFrz 0 G) ρ σ H :=
  S.keep (fun a u e g => ⟨e, gFrz_frz g⟩) (fun i a u p _ e g => ⟨e, gFrz_ne g (Nat.succ_ne_zero i)⟩) (fun a e => gFrz_non (S.fresh.fr a e)) (fun a o e g => ⟨e, gFrz_tb g⟩) (fun _ _ e => e) fun _ ps e => ⟨ps, e⟩
theorem RepT.frzd {r : Nat} {p : List Nat} {v : V} {t : T} (R : RepT K B G H r p v t) : Rep K B (Fz (gFrz r G) H) v (frz t) :=
  R.read (fun a o e g => Fz.of (gFrz_frz g) e) fun a o p e g => Fz.of (gFrz_at g) e
/-- a slot is frozen -/
theorem Sta.frzSlot (S : Sta K B G ρ σ H) {i : Nat} {t : T} (h : look ρ i = some t) : Sta K B (gFrz (i + 1) G) (ρ.set i (some (.val (frz t)))) σ H where
  len := by rw [List.length_set]; exact S.len
  slot := fun j t' e => by
    by_cases hj : i = j
    · subst hj
      obtain ⟨v, hv, r⟩ := S.slot i t h
      have e2 := look_set_some e
      subst e2
      exact ⟨v, hv, .val r.frzd⟩
    · rw [look_set_ne hj] at e
      obtain ⟨v, hv, r⟩ := S.slot j t' e
      exact ⟨v, hv, r.stay (fun a u e g => ⟨e, gFrz_frz g⟩) fun a u p e g => ⟨e, gFrz_ne g (fun z => hj (by omega))⟩⟩
  fresh := S.fresh.same (fun a e => gFrz_non (S.fresh.fr a e)) fun a o e g => gFrz_tb g
/-- what is just made goes to slot i -/
theorem Sta.store (S : Sta K B G ρ σ H) {i : Nat} {v : V} {t : T} (hi : i < ρ.length) (R : RepT K B G H 0 [] v t) : Sta K B (gMv 0 (i + 1) G) (ρ.set i (some t)) (σ.set i (some v)) H where
  len := by rw [List.length_set, List.length_set]; exact S.len
  slot := fun j t' e => by
    by_cases hj : i = j
    · subst hj
      have e2 := look_set_some e
      subst e2
      refine ⟨v, by rw [List.getElem?_set_self (by rw [← S.len]; exact hi)], R.stay (fun a u e g => ⟨e, gMv_frz g⟩) fun a u p e g => ⟨e, gMv_at g⟩⟩
    · rw [look_set_ne hj] at e
      obtain ⟨w, hv, r⟩ := S.slot j t' e
      exact ⟨w, by rw [List.getElem?_set_ne hj]; exact hv, r.stay (fun a u e g => ⟨e, gMv_frz g⟩) fun a u p e g => ⟨e, gMv_ne g (Nat.succ_ne_zero j) (fun z => hj (by omega))⟩⟩
  fresh := S.fresh.same (fun a e => gMv_non (S.fresh.fr a e)) fun a o e g => gMv_tb g
/-- data go to slot i; what stood there is let go -/
theorem Sta.storeD (S : Sta K B G ρ σ H) {i : Nat} {v : V} {d : D} (R : Rep K B (Fz G H) v d) : ∃ G', Nx G H G' H ∧ Nx G' H G H ∧ Sta K B G' (ρ.set i (some (.val d))) (σ.set i (some v)) H := by
  refine ⟨G, Nx.refl, Nx.refl, ?_, fun j t' e => ?_, S.fresh⟩
  · rw [List.length_set, List.length_set]; exact S.len
  · by_cases hj : i = j
    · subst hj
      have hl := look_lt e
      rw [List.length_set] at hl
      have e2 := look_set_some e
      subst e2
      exact ⟨v, by rw [List.getElem?_set_self (by rw [← S.len]; exact hl)], .val R⟩
    · rw [look_set_ne hj] at e
      obtain ⟨w, hv, r⟩ := S.slot j t' e
      exact ⟨w, by rw [List.getElem?_set_ne hj]; exact hv, r⟩
end
end Ev
end

section
set_option linter.all false
set_option maxRecDepth 100000
set_option maxHeartbeats 4000000
/-! An own error's __init__ that says super().__init__(value), self.value = value. -/
namespace Ev
open PySem L2 PySem.Spec PyProof.Rows PySem.Calls
/-- what the written part tells of the class C, whose __init__ stands in the class at D -/
structure AskC (K : PySem.W.Frag) (D C : Addr) : Prop where
  ox : OexC K C
  sup : PySem.W.ks_superIn K C D "__init__" = some (some (.builtin "ValueError.__init__"))
  val : PySem.W.subIn K (.ref C) (.type "ValueError") = some true
  mro : PySem.W.mroIn K C (.ref D) = some true
  ini : PySem.W.excInitIn K C [.type "ValueError", .type "Exception", .type "BaseException", .type "object"] "ValueError.__new__" = true
  fld : PySem.W.findIn K (.ref C) "value" = some none
/-- what it tells of the __init__ at f: its def, its code object at cda, its cell at cc -/
structure AskI (P : Program) (K : PySem.W.Frag) (D f cc cda : Addr) (qual : Str) (fd : FuncData) : Prop where
  lk : ∃ oc od osl, K.lookup f = some ⟨oc, od, .func fd, osl⟩
  cd : PySem.W.codeIn K (.ref cda) qual = true
  hd : (fd.params.posonlyargs ++ fd.params.args).head?.map (·.arg) = some "self"
  cod : ∃ ccl cdd vs ccs file tf, K.lookup cda = some ⟨ccl, cdd, .fields vs, ccs⟩ ∧ vs[2]? = some (.str file tf) ∧ ((P.main.file : Str) == file) = true
  cel : ∃ cl cld csl, K.lookup cc = some ⟨cl, cld, .cell (some (.ref D)), csl⟩
  cls : (PySem.W.clsIn K D).isSome = true
  sup : PySem.W.nsIn K mainGlobals "super" = some none
  top : (P.main.scope.names.lookup ("super" : Str)).isSome = false
  sta : PySem.W.nsIn K cStatics "thirdparty.any" = some none
/-- the promise: the error at a gets its dict -/
def spAsk (K : PySem.W.Frag) (D : Addr) : Sp := fun vs H Q _ => ∃ (a C : Addr) (y : V), vs = [.ref a, y] ∧ AskC K D C ∧ H a = some (exo a C none) ∧ ∀ d, H d = none → d ≠ a → Q .non (upd (upd H d (exd d [("value", y)])) a (exo a C (some d)))
theorem ne_of_new {h : Heap} {L b : Addr} {o : Obj} (hL : h.objs.size ≤ L) (e : h.get? b = some o) : b ≠ L := Nat.ne_of_lt (Nat.lt_of_lt_of_le (Heap.lt_size e) hL)
theorem boot_super : bootBuiltins "super" = some (.type "super") := by first | rfl | kernel_rfl | decide +kernel
/-- the heap behind: a has its dict at dx -/
theorem ask_end {P : Program} {w : World} {fs : List Addr} {H : Hp} {h h5 : Heap} {a C dx t4 : Addr} {y : V} {u : Value} (ok : HOk P w H h) (ea : H a = some (exo a C none)) (nd : H dx = none) (nw : ∀ b o, h.get? b = some o → b ≠ dx)
    (kk : ∀ b o, b ≠ a → h.get? b = some o → h5.get? b = some o) (hx : h5.get? a = some { cls := .ref C, dict := some dx, data := .fields #[.ref t4, .none, .none, .none, .bool false, .none] })
    (hn : h5.Ns1 dx fun x => if x = "value" then some u else none) (ry : L2.RelV y u) :
    Un fs [] H (upd (upd H dx (exd dx [("value", y)])) a (exo a C (some dx))) h h5 ∧ HOk P w (upd (upd H dx (exd dx [("value", y)])) a (exo a C (some dx))) h5 := by
  generalize hH : upd (upd H dx (exd dx [("value", y)])) a (exo a C (some dx)) = H'
  have atA : H' a = some (exo a C (some dx)) := by rw [← hH]; exact upd_same
  have off : ∀ b, H b = none → b ≠ a := fun b n z => by
    subst z
    rw [ea] at n
    cases n
  have atD : H' dx = some (exd dx [("value", y)]) := by rw [← hH, upd_ne (off dx nd)]; exact upd_same
  have els : ∀ b, b ≠ a → b ≠ dx → H' b = H b := fun b h1 h2 => by rw [← hH, upd_ne h1, upd_ne h2]
  have same : ∀ {b : Addr} {v : HO}, H b = some v → v ≠ exo a C none → H' b = some v := fun {b v} e n => by
    have h1 : b ≠ a := fun z => n (by rw [z, ea] at e; exact (Option.some.inj e).symm)
    have h2 : b ≠ dx := fun z => by
      rw [z, nd] at e
      cases e
    rw [els b h1 h2]
    exact e
  constructor
  · refine ⟨fun b o e n _ _ => kk b o (off b n) e, fun b o e n _ _ => ⟨o.slots, kk b o (off b n) e⟩, fun b o e n _ => (els b (off b n) (nw b o e)).trans n, fun b o e _ => ?_, fun b vs e => same e (Ne.symm exo_tup), fun b o v e => same e (Ne.symm exo_frz), fun b ps e => ⟨#[], (same e (Ne.symm exo_tbl)).trans (by simp)⟩⟩
    by_cases z : b = a
    · subst z
      exact ⟨_, hx⟩
    · exact ⟨o, kk b o z e⟩
  · intro b v e
    by_cases z : b = a
    · subst z
      cases atA.symm.trans e
      exact exo_ok hx
    by_cases z' : b = dx
    · subst z'
      cases atD.symm.trans e
      exact exd_ok hn fun g => relO_put (fs := []) (mA := fun _ => none) ry (fun _ => trivial) g
    · have e' : H b = some v := (els b z z').symm.trans e
      refine (ok b v e').stay (fun c o hc q => kk c o (fun zc => ?_) q) (fun c hc => same hc (Ne.symm exo_own)) fun c vs hc => same hc (Ne.symm exo_tup)
      rcases hc with hc | hc
      · exact z (hc.symm.trans zc)
      · rw [zc, ea] at hc
        exact exo_own (Option.some.inj hc)
section
variable {P : Program} {w : World} {K : PySem.W.Frag} {mg : Str → Option Value} {base : Heap} {CX : CXT} {D f cc cda : Addr} {qual : Str} {params : Arguments} {scope : Scope} {dV kV doc pm ct : Value} {an : Option Addr} {p0 p1 p2 p3 p4 p5 p6 p7 ap cp : Pos}
abbrev askBody (p0 p1 ap p2 cp p3 p4 p5 p6 p7 : Pos) : List Stmt := [.Expr (.Call (.Attribute (.Call (.Name "super" p0) [] [] p1) "__init__" ap) [.Name "value" p2] [] cp) p3, .Assign [.Attribute (.Name "self" p4) "value" p5] (.Name "value" p6) p7]
theorem ask_ok (I : AskI P K D f cc cda qual (PySem.W.ksFn "__init__" qual params (askBody p0 p1 ap p2 cp p3 p4 p5 p6 p7) scope dV kV doc pm an (.ref cda) ct cc))
    (hks : scope.names.lookup ("super" : Str) = some .globalImplicit) (hkc : scope.names.lookup ("__class__" : Str) = some .free) (hk1 : scope.names.lookup ("self" : Str) = some .local) (hk2 : scope.names.lookup ("value" : Str) = some .local)
    {pl : Addr → Sem Bool} (hev : ∀ L, eval (.Call (.Attribute (.Call (.Name "super" p0) [] [] p1) "__init__" ap) [.Name "value" p2] [] cp) (PySem.W.ksEnv qual scope L f (.ref cda) cc) = (do
      let ov ← attributeBase (.Call (.Name "super" p0) [] [] p1) "__init__" (PySem.W.ksEnv qual scope L f (.ref cda) cc) (eval (.Call (.Name "super" p0) [] [] p1) (PySem.W.ksEnv qual scope L f (.ref cda) cc))
      standAt ap.atName
      let (g, first) ← holding [ov] (getMethod ov "__init__" (pl L))
      callWith cp g first (backTo cp (starEach [.Name "value" p2] (PySem.W.ksEnv qual scope L f (.ref cda) cc))) []))
    (hcell : ∀ x ∈ scope.names, x.2 ≠ .cell) (hco : scope.isCoroutine = false) (hgen : scope.isGenerator = false) (hk : scope.kind = .function) :
    FnOk P w K mg base CX 1 f (PySem.W.ksFn "__init__" qual params (askBody p0 p1 ap p2 cp p3 p4 p5 p6 p7) scope dV kV doc pm an (.ref cda) ct cc) ["self", "value"] (spAsk K D) where
  len := fun vs H Q E ⟨a, C, y, e, _⟩ => by rw [e]; rfl
  run := fun A outer s H args us vs Q E hr e0 hb r hs => by
    obtain ⟨a, C, y, rfl, T, ea, q⟩ := hs
    obtain ⟨u, rfl, ry⟩ : ∃ u, us = [.ref a, u] ∧ RelV y u := by
      match us, r with
      | [_, u], .cons ra (.cons ry .nil) => cases ra; exact ⟨u, rfl, ry⟩
    obtain ⟨oc, od, osl, lk⟩ := I.lk
    obtain ⟨ccl, cdd, vs, ccs, file, tf, lkc, hvs, hfile⟩ := I.cod
    obtain ⟨cl, cld, csl, lkcell⟩ := I.cel
    obtain ⟨cdD, hD⟩ := Option.isSome_iff_exists.mp I.cls
    have bk : ∀ b o, base.get? b = some o → s.heap.get? b = some o := fun b o e => (e0.bs b o e).1
    have KX : K.In s.heap := e0.mod.kin.keeps bk
    have lim : s.heap.NoLimit := e0.mod.nolimit.keeps bk
    obtain ⟨t1, hoa⟩ := exo_at e0.hok ea
    obtain ⟨cdC, hcC⟩ : ∃ cd, PySem.W.clsIn K C = some cd := by
      obtain ⟨cd, h1, _⟩ := Option.bind_eq_some_iff.mp T.mro
      exact ⟨cd, h1⟩
    have IC : ∀ {h : Heap} {o : Obj} {d : Option Addr} {t : Addr}, o = PySem.W.excObj C t d .none → h.get? a = some o → d = none → PySem.W.InstAt h a o C none := fun eo e ed => by
      subst eo ed
      exact ⟨e, rfl, rfl, trivial⟩
    refine PySem.ks_codeAny_call_defAt (fd := PySem.W.ksFn "__init__" qual params (askBody p0 p1 ap p2 cp p3 p4 p5 p6 p7) scope dV kV doc pm an (.ref cda) ct cc) (body := askBody p0 p1 ap p2 cp p3 p4 p5 p6 p7) (binds := ([("self" : Str), "value"]).zip [.ref a, u]) hr.depth (KX _ _ lk) rfl lim (PySem.W.codeRec_of KX I.cd) rfl hb hcell ?_ (fun h₁ hns hk₁ => ?_) hco hgen hk
    · intro x hx
      simp only [List.zip_cons_cons, List.zip_nil_right, List.mem_cons, List.not_mem_nil, or_false] at hx
      rcases hx with rfl | rfl
      · exact hk1
      · exact hk2
    -- the frame
    have hL : ∀ {b : Addr} {o : Obj}, s.heap.get? b = some o → b ≠ s.heap.objs.size := fun e => Nat.ne_of_lt (Heap.lt_size e)
    have F : Fr (s.heap.hide a) s.heap.objs.size h₁ (fun x => (([("self" : Str), "value"]).zip [Value.ref a, u]).reverse.lookup x) := ⟨hns, fun b o e => hk₁ b o (Heap.of_hide e), Nat.le_of_eq (Heap.hide_size _ _)⟩
    have N : News (s.heap.hide a) s.heap.objs.size h₁ [(a, PySem.W.excObj C t1 none .none)] := fun p hp => by
      rw [List.mem_singleton.mp hp]
      exact ⟨hk₁ _ _ hoa, hL hoa, Heap.hide_self _ _⟩
    have na : ∀ b o, base.get? b = some o → b ≠ a := fun b o e z => by
      have := (e0.bs b o e).2
      rw [z, ea] at this
      cases this
    have kb : ∀ {h : Heap} {m : Str → Option Value}, Fr (s.heap.hide a) s.heap.objs.size h m → ∀ b o, base.get? b = some o → h.get? b = some o := fun F b o e => F.keep b o (by rw [Heap.hide_ne _ (na b o e)]; exact bk b o e)
    have X0 : K.In (s.heap.hide a) := e0.mod.kin.keeps fun b o e => by rw [Heap.hide_ne _ (na b o e)]; exact bk b o e
    generalize hm : (fun x => (([("self" : Str), "value"]).zip [Value.ref a, u]).reverse.lookup x) = m at F
    have m1 : m "self" = some (.ref a) := by rw [← hm]; rfl
    have m2 : m "value" = some u := by rw [← hm]; rfl
    obtain ⟨ar, har, ear⟩ : ∃ ar, (params.posonlyargs ++ params.args).head? = some ar ∧ ar.arg = "self" := by
      obtain ⟨ar, h1, h2⟩ := Option.map_eq_some_iff.mp I.hd
      exact ⟨ar, h1, h2⟩
    refine ks_wpAt_execs_cons (ks_wpAt_Expr_any (ks_wpAt_MethodCall (he := hev _) ?_) (by show (scope.kind == .module && _) = false; rw [hk]; rfl) (by rfl))
    have X1 := X0.keeps F.keep
    refine ks_wpAt_super_base hks hkc (by decide) rfl (X1 _ _ lk) rfl har rfl (X1 _ _ lkc) rfl hvs hfile I.top ?_
    obtain ⟨mb, nb, hmb⟩ := e0.mod.blt
    have mgS : mg "super" = none := PySem.W.mg_none_of e0.mod.kin e0.mod.glob I.sup
    refine PySem.W.ks_loadName_global hk hks (loadGlobal_builtin (e0.mod.glob.keeps (kb F)) mgS (nb.keeps (kb F)) ((hmb _ (by decide)).trans boot_super) ⟨rfl, ?_⟩)
    refine wpAny_loadName_free (v := .ref D) hk hkc rfl ⟨_, X1 _ _ lkcell, rfl⟩ ?_
    rw [ear]
    refine wpAny_loadName_local hk hk1 F.ns m1 ?_
    obtain ⟨oD, hD1, hD2⟩ : ∃ oD, h₁.get? D = some oD ∧ oD.data = .cls cdD := by
      unfold PySem.W.clsIn at hD
      split at hD
      · rename_i c d cd' sl ho
        cases hD
        exact ⟨_, X1 _ _ ho, rfl⟩
      · cases hD
    refine ks_wpAny_isType_cls hD1 hD2 ⟨rfl, ?_⟩
    have hoa1 := hk₁ _ _ hoa
    refine ks_wpAny_call_super hD1 hD2 hoa1 rfl (fun c e => nomatch e) (PySem.W.looks_mroIn X1 T.mro) (fun h2 e2 k2 => ?_)
    obtain ⟨F2, N2, l2⟩ := PySem.W.ks_newsPush (s := { s with heap := h₁, toks := s.toks + (([("self" : Str), "value"]).zip [Value.ref a, u]).length }) (o := PySem.W.ks_superObj D a C) F N rfl e2 k2
    have lt1 := l2 _ (List.mem_singleton.mpr rfl)
    refine PySem.W.kxs_method PySem.W.kxs_ValueError F2 X0 N2 List.mem_cons_self (ox := PySem.W.excObj C t1 none .none) (odx := none) ⟨k2 _ _ hoa1, rfl, rfl, trivial⟩ I.sta T.sup T.val (by decide) (fun q3 h3 F3 N3 l3 => ?_)
    have lt2 := l3 _ (List.mem_cons_of_mem _ (List.mem_singleton.mpr rfl))
    have lt3 := l3 _ List.mem_cons_self
    refine PySem.W.kxs_callWith1 N3 List.mem_cons_self (Calls.spliced_cons (wpAny_Name (wpAny_loadName_local hk hk2 F3.ns m2 ?_))) (by rfl) (by rfl)
    refine Calls.spliced_nil ⟨PySem.W.kxs_at N3 List.mem_cons_self, ?_⟩
    refine PySem.W.kxs_call F3 X0 N3 PySem.F.excBase_ValueError T.ini List.mem_cons_self (.tail (by show q3 ≠ a; exact Nat.ne_of_gt lt2) (.tail (by show h₁.objs.size ≠ a; exact Nat.ne_of_gt lt1) (.head fun p hp => nomatch hp))) (by show 1 ≤ sizeLine; rw [sizeLine_eq]; omega) (fun t4 h4 F4 N4 l4 => ?_)
    have X4 := X0.keeps F4.keep
    have hx4 : h4.get? a = some (PySem.W.excObj C t4 none .none) := (N4 (a, _) (by simp)).1
    obtain ⟨nm, qn, NN, bs, bm, sn, sub, ab, col, dd, k0, k1, k2', k3, k5, hC, hbm⟩ := T.ox.cls
    have hcl : PySem.W.clsIn K C = some { name := nm, bases := bs, mro := .ref C :: bm, ns := NN, qualname := qn, hasDict := true, slotNames := sn, subclasses := sub, abstract := ab, collection := col, hasDel := false } := by unfold PySem.W.clsIn; rw [hC] <;> rfl
    refine ks_wpAt_execs_cons (ks_wpAt_Assign_Attr (wpAt_of_wpAny (wpAny_Name (wpAny_loadName_local hk hk2 F4.ns m2 (wpAny_Name (wpAny_loadName_local hk hk1 F4.ns m1 ?_))))) (by rfl))
    refine PySem.W.set_plain X4 (ox := PySem.W.excObj C t4 none .none) (od := none) ⟨hx4, rfl, rfl, trivial⟩ T.ox.sa ?_
    refine PySem.HandSPX.exc_osa X4 hx4 hcl (show PySem.HandSPX.refsVE (.ref C :: bm) = true from hbm) rfl T.fld (fun h5 tk5 dx k5' dn dne hx5 hn5 => ?_)
    have kk : ∀ b o, b ≠ a → s.heap.get? b = some o → h5.get? b = some o := fun b o hb e => k5' b o hb (F4.keep b o (by rw [Heap.hide_ne _ hb]; exact e))
    have hsz : s.heap.objs.size ≤ dx := by
      obtain ⟨oL, _, _, eL, _⟩ := F4.ns
      have z := Heap.lt_size (show h4.get? s.heap.objs.size = some oL from eL)
      exact Nat.le_of_lt (Nat.lt_of_lt_of_le z (show h4.objs.size ≤ dx from dn))
    have hnd : H dx = none := e0.hok.fresh hsz
    obtain ⟨un, ok⟩ := ask_end (P := P) (w := w) (fs := frs outer) e0.hok ea hnd (fun b o e => ne_of_new hsz e) kk hx5 hn5 ry
    refine wpAt_of_wpAny (wpAny_execs_nil ?_)
    exact ⟨.non, _, rfl, e0.bare, un, ok, rfl, q dx hnd dne⟩
end
end Ev
end

section
set_option linter.all false
set_option maxRecDepth 100000
set_option maxHeartbeats 4000000
/-! Defs called where no repr runs: the promise of a def under that condition, its calls, its proof, the law's end. -/
namespace Ev
open PySem L2 PySem.Spec PyProof.Rows
/-- a def keeps its promise wherever no repr runs -/
structure FnG (P : Program) (w : World) (K : PySem.W.Frag) (mg : Str → Option Value) (base : Heap) (CX : CXT) (gg : Bool) (k : Nat) (f : Addr) (fd : FuncData) (ps : List Str) (sp : Sp) : Prop where
  len : ∀ vs H Q E, sp vs H Q E → vs.length = ps.length
  run : ∀ (A : Around) (outer : List PySem.Env) (s : Shared) (H : Hp) (args : Args) (us : List Value) (vs : List V) (Q : VK) (E : XK), (gg = true → A.guards = some []) → Room k A → Env0 P w K mg base A outer s H → BindsTo s fd args (ps.zip us) → Vals vs us → sp vs H Q E →
    codeAny (model P w) A (PySem.Code.call (.ref f) args) (CR CX outer P w H s Q E) s
section
variable {X : Cx} {CX : CXT} {gg : Bool} {k : Nat} {f : Addr} {fd : FuncData} {ps : List Str} {sp : Sp} {dvs : List V} {ds : List Value} {E : L2.St → XK} {x : Str} {p pos : Pos} {e : Expr} {es : List Expr} {t : TA}
theorem g_run {pins : List (Addr × Obj)} {σ : L2.St} {H : Hp} {s : Shared} {Q : VK} {us : List Value} {vs : List V} (F : FnG X.prog X.w X.K X.mg X.base CX gg k f fd ps sp) (g : gg = true → X.A.guards = some []) (hr : Room k X.A) (hb : Binds X.K fd ps ds) (hd : Vals dvs ds) (hx : PassesAt CX X σ (E σ)) (I : L2.Inv X pins σ H s) (rv : Vals vs us) (hs : sp (vs ++ dvs) H Q (E σ)) :
    wpAny (model X.prog X.w) X.A (PySem.call (.ref f) us) (EP X pins σ Q) X.xe s := by
  have all := rv.append hd
  have bt := hb s us I.kIn (all.length.symm.trans (F.len _ _ _ _ hs))
  have cr := F.run X.A X.stack s H ⟨us, []⟩ _ _ Q (E σ) g hr I.env0 bt all hs
  refine wpAny_call (codeAny_mono cr fun r s' => ?_)
  match r with
  | .error ex => exact fun q => hx pins H s ex s' I q
  | .ok (.ret u) => exact fun q => I.after q
  | .ok .next => exact fun q => False.elim q
  | .ok .brk => exact fun q => False.elim q
  | .ok .cont => exact fun q => False.elim q
theorem pe_callG (F : FnG X.prog X.w X.K X.mg X.base CX gg k f fd ps sp) (g : gg = true → X.A.guards = some []) (hr : Room k X.A) (hg : Gl X x) (hm : X.mg x = some (.ref f)) (hk : PySem.W.keepIn X.K (.ref f) = true) (hb : Binds X.K fd ps ds) (hd : Vals dvs ds) (hx : ∀ σ, PassesAt CX X σ (E σ)) (ha : PA X (e :: es) t)
    (hdb : (x == ("__debug__" : Str)) = false) (he : starEach (e :: es) X.env = (false, eval e X.env) :: starEach es X.env) (hpl : (backTo pos (starEach es X.env)).any (·.1) = false) : PE X (.Call (.Name x p) (e :: es) [] pos) (tCallSD sp dvs E t) := by
  constructor
  intro pins s σ H Q I h
  apply wpAny_Call_Name_kw
  apply ld_glob I hg hm (hd := hdb)
  refine PySem.W.callWith_K I.ok.mod.kin hk (thn (ha.run pos pins s σ H _ I h) fun us s1 w => ?_) he hpl
  obtain ⟨vs, H1, I1, rv, q⟩ := w
  exact ⟨I1.kIn, g_run F g hr hb hd (hx σ) I1 rv q⟩
theorem pe_call0G (F : FnG X.prog X.w X.K X.mg X.base CX gg k f fd ps sp) (g : gg = true → X.A.guards = some []) (hr : Room k X.A) (hg : Gl X x) (hm : X.mg x = some (.ref f)) (hk : PySem.W.keepIn X.K (.ref f) = true) (hb : Binds X.K fd ps ds) (hd : Vals dvs ds) (hx : ∀ σ, PassesAt CX X σ (E σ))
    (hdb : (x == ("__debug__" : Str)) = false) : PE X (.Call (.Name x p) [] [] pos) (tCallSD sp dvs E tNil) := by
  constructor
  intro pins s σ H Q I h
  apply wpAny_Call_Name_kw
  apply ld_glob I hg hm (hd := hdb)
  exact PySem.W.callWith_K0 I.kIn hk (g_run (us := []) F g hr hb hd (hx σ) I .nil h)
end
section
variable {P : Program} {w : World} {K : PySem.W.Frag} {mg : Str → Option Value} {base : Heap} {x qual : Str} {params : Arguments} {body : List Stmt} {scope : Scope} {dvs : List V} {kws : List (Str × V)} {f : Addr} {fd : FuncData}
/-- from the body's walk to the promise -/
theorem g_ok {CX : CXT} {gg : Bool} {N ps : List Str} {k : Nat} {sp : Sp} (F : FunD K x qual params body scope dvs kws f fd) (S : FnScope N ps scope) (len : ∀ vs H Q E, sp vs H Q E → vs.length = ps.length)
    (hbody : ∀ (cdv : Value) (A : Around) (outer : List PySem.Env) (s : Shared) (H : Hp) (vs : List V) (Q : VK) (E : XK), (∃ (oc : Value) (od : Option Addr) (dV kV doc pm : Value) (an : Option Addr) (ct : Value) (osl : Array (Option Value)), K.lookup f = some ⟨oc, od, .func (PySem.W.fnOf x qual params body scope dV kV doc pm an cdv ct), osl⟩ ∧ PySem.W.codeIn K cdv qual = true) → (gg = true → A.guards = some []) → Room k (A.deeper (envOfC qual scope s.heap.objs.size f cdv)) → sp vs H Q E →
      ∃ t, PSs (cxOf CX P w K mg base N qual scope f cdv A outer s H E) body t ∧ t { nx := fun _ H' => Q .non H', rt := Q } (L2.start N vs) H) : FnG P w K mg base CX gg (k + 1) f fd ps sp := by
  obtain ⟨_, _, _, _, _, _, _, code, _, _, rfl, look, rec, _, _⟩ := F.ex
  refine ⟨len, fun A outer s H args us vs Q E g hr e0 hb rv hs => ?_⟩
  exact LamX.run_ofS look rec S hr e0 hb rv (len _ _ _ _ hs) fun hr' => hbody code A outer s H vs Q E ⟨_, _, _, _, _, _, _, _, _, look, rec⟩ g hr' hs
end
/-! ### the law's end -/
abbrev tb0 : Obj := { cls := .none, data := .fields #[] }
section
variable {P : Program} {w : World} {K : PySem.W.Frag} {mg mb : Str → Option Value} {cs : List (Addr × Addr)} {a : Addr} {h : Heap} {vs : List Value} {ns : List Int}
/-- the abstract heap at the entry: the tables, and the script if it isn't of the written part -/
def H0 (K : PySem.W.Frag) (cs : List (Addr × Addr)) (a : Addr) (vs : List Value) (ns : List Int) : Hp := fun b => if b ∈ cs.map (·.2) then some (.tbl #[]) else if b = a ∧ K.lookup a = none then some (.frz { cls := .type "list", data := .seq vs.toArray } (.lst (ns.map V.int))) else none
/-- what is tracked is a table or the script -/
theorem H0_inv {b : Addr} {o : HO} (e : H0 K cs a vs ns b = some o) : (b ∈ cs.map (·.2) ∧ o = .tbl #[]) ∨ (b = a ∧ K.lookup a = none ∧ o = .frz { cls := .type "list", data := .seq vs.toArray } (.lst (ns.map V.int))) := by
  unfold H0 at e
  split at e
  · rename_i z
    exact .inl ⟨z, (Option.some.inj e).symm⟩
  · split at e
    · rename_i z
      exact .inr ⟨z.1, z.2, (Option.some.inj e).symm⟩
    · cases e
theorem H0_tab {p : Addr × Addr} (hp : p ∈ cs) : H0 K cs a vs ns p.2 = some (.tbl #[]) := if_pos (List.mem_map.mpr ⟨p, hp, rfl⟩)
theorem tab_at (hT : ∀ p ∈ cs, h.get? p.2 = some tb0) {b : Addr} (hb : b ∈ cs.map (·.2)) : h.get? b = some tb0 := by
  obtain ⟨p, hp, rfl⟩ := List.mem_map.mp hb
  exact hT p hp
/-- what is neither a table nor the script is not tracked -/
theorem H0_free (hT : ∀ p ∈ cs, h.get? p.2 = some tb0) {b : Addr} {o : Obj} (e : h.get? b = some o) (h1 : o.data ≠ .fields #[]) (h2 : b ≠ a ∨ K.lookup a ≠ none) : H0 K cs a vs ns b = none := by
  cases q : H0 K cs a vs ns b with
  | none => rfl
  | some u =>
    rcases H0_inv q with ⟨z, _⟩ | ⟨z, z2, _⟩
    · rw [tab_at hT z] at e
      cases e
      exact (h1 rfl).elim
    · rcases h2 with h2 | h2
      · exact (h2 z).elim
      · exact (h2 z2).elim
theorem H0_ok (hT : ∀ p ∈ cs, h.get? p.2 = some tb0) (ha : h.get? a = some { cls := .type "list", data := .seq vs.toArray }) (rv : Vals (ns.map V.int) vs) (hl : ns.length ≤ sizeLine) : HOk P w (H0 K cs a vs ns) h := fun b u e => by
  rcases H0_inv e with ⟨z, rfl⟩ | ⟨rfl, _, rfl⟩
  · exact tab_at hT z
  · exact ⟨ha, by rw [List.length_map]; exact hl, vs, _, rv, ha⟩
theorem H0_scr (hT : ∀ p ∈ cs, h.get? p.2 = some tb0) (KX : K.In h) (ha : h.get? a = some { cls := .type "list", data := .seq vs.toArray }) (rv : Vals (ns.map V.int) vs) (hl : ns.length ≤ sizeLine) (hv : vs.length = ns.length) : SqL K (H0 K cs a vs ns) a (ns.map V.int) := by
  have na : a ∉ cs.map (·.2) := fun z => by
    have := (tab_at hT z).symm.trans ha
    cases this
  cases hk : K.lookup a with
  | none =>
    refine .inl (.inr ⟨{ cls := .type "list", data := .seq vs.toArray }, ?_⟩)
    unfold H0
    rw [if_neg na, if_pos ⟨rfl, hk⟩]
  | some o =>
    cases (KX a o hk).symm.trans ha
    exact .inr ⟨_, vs.toArray, _, hk, rfl, rfl, rfl, by rw [List.size_toArray, hv]; exact hl, by simpa using rv⟩
theorem H0_grown {H' : Hp} {h' : Heap} (un : Un [] [] (H0 K cs a vs ns) H' h h') (ok : HOk P w H' h') {p : Addr × Addr} (hp : p ∈ cs) : ∃ more : Array Value, h'.get? p.2 = some { cls := .none, data := .fields more } := by
  obtain ⟨more, z⟩ := un.tbls p.2 #[] (H0_tab hp)
  exact ⟨_, ok p.2 _ z⟩
theorem H0_kept {H' : Hp} {h' : Heap} (un : Un [] [] (H0 K cs a vs ns) H' h h') (ok : HOk P w H' h') (ha : h.get? a = some { cls := .type "list", data := .seq vs.toArray }) {b : Addr} {o : Obj} (hb : b ∉ cs.map (·.2)) (e : h.get? b = some o) : h'.get? b = some o := by
  cases q : H0 K cs a vs ns b with
  | none => exact un.keep b o e q (fun z => nomatch z) (fun z => nomatch z)
  | some u =>
    rcases H0_inv q with ⟨z, _⟩ | ⟨rfl, _, rfl⟩
    · exact (hb z).elim
    · cases e.symm.trans ha
      exact (ok _ _ (un.frzs _ _ _ q)).1
/-- the law called: its script's list is given -/
theorem law_callG {CX : CXT} {k : Nat} {fa : Addr} {fd : FuncData} {x : Str} {sp : Sp} {s₁ : Shared} (KX : K.In s₁.heap) (hns : s₁.heap.Ns mainGlobals mg) (hb : s₁.heap.Ns builtinsNs mb) (hbb : ∀ x : Str, x ≠ "__name__" → mb x = bootBuiltins x) (hlim : s₁.heap.NoLimit) (hg : s₁.gens = #[])
    (hT : ∀ p ∈ cs, s₁.heap.get? p.2 = some tb0) (C : ∀ p ∈ cs, PySem.W.CodeHd s₁.heap p.1 p.2)
    (hbm : ∃ (bm : Addr) (ob : Obj), mg "__builtins__" = some (.ref bm) ∧ bm ≠ builtinsNs ∧ s₁.heap.get? bm = some ob ∧ ob.cls = .type "module" ∧ ob.dict = some builtinsNs ∧ ob.data = .plain)
    (nT : ∀ p ∈ cs, K.lookup p.2 = none) (ha : s₁.heap.get? a = some { cls := .type "list", data := .seq vs.toArray }) (hi : IntsAre vs ns) (hl : ns.length ≤ sizeLine) (hr : Room k callerA)
    (F : ∀ base : Heap, K.In base → base.Ns mainGlobals mg → (∀ p ∈ cs, LamX.TabB base mg p.1 p.2) → FnG P w K mg base CX true k fa fd [x] sp) (hbind : ∀ (s : Shared) (u : Value), BindsTo s fd ⟨[u], []⟩ [(x, u)])
    (hsp : ∀ H : Hp, (∀ p ∈ cs, H p.2 = some (.tbl #[])) → SqL K H a (ns.map V.int) → sp [.ref a] H (fun v _ => v = .bl true) fun _ _ _ => False)
    (hCX : ∀ H e s', CX [] H s₁ (fun _ _ _ => False) e s' → False) :
    codeAny (model P w) callerA (PySem.Code.call (.ref fa) ⟨[.ref a], []⟩) (fun r s' => r = .ok (.ret (.bool true)) ∧ OldK s₁.heap s'.heap ∧ s'.os = s₁.os ∧ AllBare s'.gens) s₁ := by
  have rv := vals_ints hi
  generalize hH : H0 K cs a vs ns = H
  have up : ∀ {b : Addr} {o : Obj}, s₁.heap.get? b = some o → o.data ≠ .fields #[] → (b ≠ a ∨ K.lookup a ≠ none) → (hidT s₁.heap H).get? b = some o := fun e h1 h2 => hidT_get e (by rw [← hH]; exact H0_free hT e h1 h2)
  have ne : ∀ {b : Addr} {o : Obj}, s₁.heap.get? b = some o → (∀ z n, o.data ≠ .seq z n) → b ≠ a := fun {b o} e n z => by
    subst z
    cases e.symm.trans ha
    exact n _ _ rfl
  have dic : ∀ {b : Addr} {m : Str → Option Value}, s₁.heap.Ns b m → (hidT s₁.heap H).Ns b m := fun {b m} w => by
    obtain ⟨o, es, ep, e, d, r⟩ := w
    refine ⟨o, es, ep, up e (by rw [d]; exact nofun) (.inl (ne e fun z n => by rw [d]; exact nofun)), d, r⟩
  have KB : K.In (hidT s₁.heap H) := fun b o e => by
    refine hidT_get (KX b o e) ?_
    cases q : H b with
    | none => rfl
    | some u =>
      rw [← hH] at q
      rcases H0_inv q with ⟨z, _⟩ | ⟨rfl, z, _⟩
      · obtain ⟨p, hp, ep⟩ := List.mem_map.mp z
        rw [← ep, nT p hp] at e
        cases e
      · rw [z] at e
        cases e
  have lim : (hidT s₁.heap H).NoLimit := by
    obtain ⟨mc, h1, h2⟩ := hlim
    exact ⟨mc, dic h1, h2⟩
  have md : L2.Mod K mg (hidT s₁.heap H) := ⟨KB, dic hns, ⟨mb, dic hb, hbb⟩, lim⟩
  have nG : ∀ {b : Addr} {o : Obj}, s₁.heap.get? b = some o → (∀ es ep, o.data ≠ .dict es ep) → mainGlobals ≠ b := fun {b o} e n z => by
    obtain ⟨o', es, ep, e', d, _⟩ := hns
    rw [z, e] at e'
    cases e'
    exact n _ _ d
  have TB : ∀ p ∈ cs, LamX.TabB (hidT s₁.heap H) mg p.1 p.2 := fun p hp => by
    obtain ⟨o, us, file, tf, flags, tg, inF, text, tt, e1, c1, c2, c3, cr⟩ := C p hp
    have cd : PySem.W.CodeHd (hidT s₁.heap H) p.1 p.2 := by
      refine ⟨o, us, file, tf, flags, tg, inF, text, tt, up e1 (fun z => ?_) (.inl (ne e1 fun z n => by rw [c2]; exact nofun)), c1, c2, c3, cr⟩
      rw [c2] at z
      cases z
      cases c3
    obtain ⟨bm, ob, m1, m2, m3, m4, m5, m6⟩ := hbm
    have g1 := nG m3 fun es ep => by rw [m6]; exact nofun
    have g2 := nG (hT p hp) fun es ep => nofun
    refine ⟨cd, ⟨bm, ob, m1, m2, Ne.symm g1, fun z => ?_, up m3 (by rw [m6]; exact nofun) (.inl (ne m3 fun z n => by rw [m6]; exact nofun)), m4, m5, m6⟩, g2⟩
    rw [z, hT p hp] at m3
    cases m3
    cases m6
  have ok0 : HOk P w H s₁.heap := by rw [← hH]; exact H0_ok hT ha rv hl
  have e0 : Env0 P w K mg (hidT s₁.heap H) callerA [] s₁ H := ⟨rfl, md, fun b o e => of_hidT e, by rw [hidT_size]; exact Nat.le_refl _, trivial, (fun b hb => nomatch hb), ok0, .of_eq hg⟩
  have sc : SqL K H a (ns.map V.int) := by rw [← hH]; exact H0_scr hT KX ha rv hl hi.length
  have sp0 := hsp H (fun p hp => by rw [← hH]; exact H0_tab hp) sc
  refine codeAny_mono ((F _ KB (dic hns) TB).run callerA [] s₁ H ⟨[.ref a], []⟩ [.ref a] [.ref a] _ _ (fun _ => rfl) hr e0 (hbind s₁ _) (.cons rfl .nil) sp0) fun r s' q => ?_
  match r, q with
  | .error e, q => exact (hCX H e s' q).elim
  | .ok .next, q => exact False.elim q
  | .ok .brk, q => exact False.elim q
  | .ok .cont, q => exact False.elim q
  | .ok (.ret u), q =>
    obtain ⟨v, H', os, bare, un, ok, r', ev⟩ := q
    cases (show v = .bl true from ev)
    cases (show u = Value.bool true from r')
    subst hH
    have old : ∀ b o, s₁.heap.get? b = some o → s'.heap.get? b = some o ∨ ∃ p, p ∈ cs ∧ p.2 = b ∧ o = tb0 ∧ ∃ more : Array Value, s'.heap.get? b = some { cls := .none, data := .fields more } := fun b o e => by
      by_cases z : b ∈ cs.map (·.2)
      · obtain ⟨p, hp, rfl⟩ := List.mem_map.mp z
        exact .inr ⟨p, hp, rfl, Option.some.inj (e.symm.trans (hT p hp)), H0_grown un ok hp⟩
      · exact .inl (H0_kept un ok ha z e)
    refine And.intro rfl ⟨⟨fun b o e => ?_, fun b o e => ?_⟩, os, bare⟩
    · rcases old b o e with z | ⟨p, hp, rfl, rfl, more, z⟩
      · exact .inl z
      · exact .inr (.inl ⟨((C p hp).tab (hT p hp)).isCodeTable, rfl, #[], more, rfl, by rw [Array.empty_append]; exact z⟩)
    · rcases old b o e with z | ⟨p, hp, rfl, rfl, more, z⟩
      · exact ⟨o, z⟩
      · exact ⟨_, z⟩
end
/-- what is wanted of the law's def -/
def LawG (l : PySem.W.OpenLaw) (w : World) (K : PySem.W.Frag) (CX : CXT) (k n : Nat) (x : Str) (mg : Str → Option Value) (fa : Addr) (h : Heap) : Prop :=
  ∃ (fd : FuncData) (cs : List (Addr × Addr)) (sp : Sp), ((∀ p ∈ cs, h.get? p.2 = some tb0) ∧ (∀ p ∈ cs, K.lookup p.2 = none) ∧ ∀ p ∈ cs, PySem.W.CodeHd h p.1 p.2) ∧ (∀ (s : Shared) (u : Value), BindsTo s fd ⟨[u], []⟩ [(x, u)]) ∧
    (∀ (H : Hp) (a : Addr) (ns : List Int), ns.length ≤ n → (∀ z ∈ ns, Builtin.Int.intBits z ≤ 1048576) → (∀ p ∈ cs, H p.2 = some (.tbl #[])) → SqL K H a (ns.map V.int) → sp [.ref a] H (fun v _ => v = .bl true) fun _ _ _ => False) ∧
    ∀ base : Heap, K.In base → base.Ns mainGlobals mg → (∀ p ∈ cs, LamX.TabB base mg p.1 p.2) → FnG l.prog w K mg base CX true k fa fd [x] sp
theorem walk_G {l : PySem.W.OpenLaw} {n k : Nat} {q : Program} {loose : List Str} {XP : (Str → Option Value) → Heap → Prop} {YP : World → Heap → Prop} {d : DefRec} {CX : World → CXT} {x : Str} (hn : l.most = some n) (hn2 : n ≤ sizeLine) (hdf : d.params.defaults = []) (hr : Room k callerA)
    (F : ∀ (w : World) (mg : Str → Option Value) (fa : Addr) (h : Heap), YP w h → h.Ns mainGlobals mg → mg d.name = some (.ref fa) → ∃ K : PySem.W.Frag, K.In h ∧ LawG l w K (CX w) k n x mg fa h) (hCX : ∀ (w : World) (H : Hp) (s : Shared) (e : Value) (s' : Shared), CX w [] H s (fun _ _ _ => False) e s' → False) :
    PySem.W.WalkO q loose XP YP l.row.toRowW d [] (fun f vs => PySem.call f vs) := by
  refine Att.attach_callB hn hdf fun w s₀ s₁ mg mb fa o pm cd doc a vs ns G Y _ _ _ hmg hobj hints hlen hbits hg => ?_
  obtain ⟨K, KX, fd, cs, sp, ⟨hT, nT, C⟩, hb, hsp, hF⟩ := F w mg fa _ Y G.T.g hmg
  exact law_callG KX G.T.g G.T.b G.T.builtins G.T.nolimit hg hT C G.T.bmain nT hobj hints (Nat.le_trans hlen hn2) hr hF hb (fun H hH hS => hsp H a ns hlen hbits hH hS) fun H e s' => hCX w H s₁ e s'
end Ev
end

section
set_option linter.all false
set_option maxRecDepth 100000
set_option maxHeartbeats 4000000
/-! New tuples, known to have no dict of their own. -/
namespace Ev
open PySem L2 PySem.Spec PyProof.Rows
/-- the object of a new tuple -/
abbrev tpO (its : Array Value) : Obj := { cls := Value.type "tuple", data := .seq its }
/-- what is wanted of a new tuple -/
def NewT (H : Hp) (xs : List V) (Q : VK) : Prop := ∀ p o, H p = none → o.cls = Value.type "tuple" → o.dict = none → Q (.ref p) (upd H p (.frz o (.tup xs)))
section
variable {X : Cx} {pins : List (Addr × Obj)} {σ : L2.St} {H : Hp} {s : Shared} {xs : List V} {its : List Value} {Q : VK}
/-- a tuple is laid -/
theorem lay_tup (I : L2.Inv X pins σ H s) (r : Vals xs its) (z : xs.length ≤ sizeLine) (q : NewT H xs Q) {t' : Nat} : EP X pins σ Q (.ref s.heap.objs.size) { s with heap := s.heap.push (tpO its.toArray), toks := t' } := by
  have hn : H s.heap.objs.size = none := I.hok.fresh (Nat.le_refl _)
  have g : (s.heap.push (tpO its.toArray)).get? s.heap.objs.size = some (tpO its.toArray) := Heap.get?_push_size _ rfl
  have ok : ObjOk X.prog X.w (upd H s.heap.objs.size (.frz (tpO its.toArray) (.tup xs))) (s.heap.push (tpO its.toArray)) s.heap.objs.size (.frz (tpO its.toArray) (.tup xs)) := ⟨g, z, its, r, ⟨_, g, rfl, _, rfl⟩⟩
  exact ⟨.ref s.heap.objs.size, _, I.laid (t' := t') (fun b u e => Heap.get?_push_of_some _ e) (Nat.le_refl _) ok, rfl, q _ _ hn rfl rfl⟩
variable {es : List Expr} {t : TA} {pos : Pos} {k : Nat}
/-- (a, b, ..) -/
def tTupF (t : TA) : TE := fun σ H Q => t σ H fun xs H1 => xs.length ≤ sizeLine ∧ NewT H1 xs Q
theorem pe_tupF (h : PA X es t) : PE X (.Tuple es k pos) (tTupF t) := by
  constructor
  intro pins s σ H Q I hq
  refine wpAny_Tuple_spliced (thn (h.run pos pins s σ H _ I hq) fun us s1 w => ?_)
  obtain ⟨xs, H1, I1, r, z, q⟩ := w
  exact ⟨by rw [← r.length]; exact z, lay_tup I1 r z q⟩
/-- tuple(x) -/
def rTupF (K : PySem.W.Frag) : List V → Hp → VK → Prop := fun vs H Q => ∃ p ys, vs = [.ref p] ∧ ((SqL K H p ys ∧ NewT H ys Q) ∨ (SqT K H p ys ∧ Q (.ref p) H))
theorem call_tupF : CallR X (.type "tuple") (rTupF X.K) := by
  intro pins s σ H vs us Q I r ⟨p, ys, e, h⟩
  subst e
  have eu : us = [.ref p] := by
    match us, r with
    | [_], .cons r .nil => cases r; rfl
  subst eu
  rcases h with ⟨hq, q⟩ | ⟨hq, q⟩
  · obtain ⟨its, rv, pl, z⟩ := I.list hq
    have el := rv.length
    refine call_tuple_list pl.isList (fun h' kp => ?_) (by rw [List.size_toArray, ← el]; exact z)
    exact lay_tup (s := { s with heap := h' }) (I.kept (t' := s.toks) kp) rv z q
  · obtain ⟨its, _, pl, _⟩ := I.tuple hq
    exact call_tuple_same pl ⟨.ref p, H, I, rfl, q⟩
/-- t + u -/
def rCatF (K : PySem.W.Frag) : R2 := fun x y H Q => ∃ a b xs ys, (x = .ref a ∧ y = .ref b) ∧ (SqT K H a xs ∧ SqT K H b ys) ∧ xs.length + ys.length ≤ sizeLine ∧ (xs = [] → Q (.ref b) H) ∧ (ys = [] → Q (.ref a) H) ∧ NewT H (xs ++ ys) Q
theorem op_catF : OpR X (binaryOp .Add) (rCatF X.K) := by
  intro pins s σ H x y v u Q I rx ry ⟨a, b, xs, ys, ⟨ex, ey⟩, ⟨ha, hb⟩, z, q0, q1, q2⟩
  subst ex ey
  cases rx
  cases ry
  obtain ⟨l, r1, p1, _⟩ := I.tuple ha
  obtain ⟨m, r2, p2, _⟩ := I.tuple hb
  cases l with
  | nil =>
    cases r1
    exact cat_tup0 p1 p2 ⟨.ref b, H, I, rfl, q0 rfl⟩
  | cons w l =>
    refine HT.cat_tup p1 p2 (fun e => nomatch e) (fun e => ⟨.ref a, H, I, rfl, q1 (r2.nil_iff.mp e)⟩) (fun _ => ?_) (by rw [← r1.length, ← r2.length]; exact z)
    exact lay_tup (t' := s.toks) I (r1.append r2) (by rw [List.length_append]; exact z) q2
/-- t[lo:hi] -/
def rSlF (K : PySem.W.Frag) : V → Option Int → Option Int → Hp → VK → Prop := fun x lo hi H Q => ∃ a xs, x = .ref a ∧ SqT K H a xs ∧ (cutV xs lo hi = xs → Q (.ref a) H) ∧ NewT H (cutV xs lo hi) Q
theorem sl_tupF : SlR X (rSlF X.K) := by
  intro pins s σ H x v vl vu lo hi sl Q I rx hs pl pu ⟨a, xs, ex, hx, q1, q2⟩
  subst ex
  cases rx
  obtain ⟨its, r, ht, z⟩ := I.tuple hx
  have el : its.toArray.size = xs.length := by rw [List.size_toArray]; exact r.length.symm
  refine ⟨"tuple", _, PyProof.Rows.slot_tuple_getitem.lookup, ht.typeIs, ?_⟩
  by_cases hw : HT.sIx xs.length 0 lo = 0 ∧ HT.sIx xs.length xs.length hi = xs.length
  · refine getItem_tuple_whole ht hs pl pu (by rw [el]; exact hw) ⟨.ref a, H, I, rfl, q1 ?_⟩
    unfold cutV
    rw [hw.1, hw.2, List.drop_zero, Nat.sub_zero, List.take_length]
  · refine HT.getItem_tuple_cut ht hs pl pu (by rw [el]; exact hw) ?_ (by rw [el]; exact z)
    rw [el]
    exact lay_tup (t' := s.toks) I ((r.drop _).take _) (Nat.le_trans (cutV_length xs lo hi) z) q2
/-- t * k -/
def rMulF (K : PySem.W.Frag) : R2 := fun x y H Q => ∃ l k xs, (x = .ref l ∧ y = .int k) ∧ SqT K H l xs ∧ (xs ≠ [] ∧ 2 ≤ k ∧ k ≤ 1000 ∧ xs.length ≤ 1000) ∧ NewT H (List.replicate k.toNat xs).flatten Q
theorem op_mulF : OpR X (binaryOp .Mult) (rMulF X.K) := by
  intro pins s σ H x y v u Q I rx ry ⟨l, k, xs, ⟨ex, ey⟩, hT, ⟨h0, h1, h2, h3⟩, q⟩
  subst ex ey
  cases rx
  obtain ⟨t, rfl⟩ := ry
  obtain ⟨its, r, p, _⟩ := I.tuple hT
  have tI : s.TypeIs (.ref l) "tuple" := p.typeIs
  obtain ⟨⟨oc, od, dt, sl⟩, ho, hc, n, hd⟩ := p
  simp only at hc hd
  subst hc hd
  have el : its.length = xs.length := r.length.symm
  have ne : its ≠ [] := fun e => h0 (List.eq_nil_of_length_eq_zero (by rw [← el, e]; rfl))
  have e1 : its.toArray.isEmpty = false := by
    match its, ne with
    | _ :: _, _ => rfl
  have a1 : k.toNat * xs.length ≤ 1000 * 1000 := Nat.mul_le_mul (by omega) h3
  have a2 : ((xs.length : Nat) : Int) * k ≤ 1000 * k := Int.mul_le_mul_of_nonneg_right (by omega) (by omega)
  have es : ((its.toArray.size : Nat) : Int) = (xs.length : Nat) := by rw [List.size_toArray, el]
  have zf : (List.replicate k.toNat its).flatten.length ≤ sizeLine := by
    rw [lm_len_rep_flat, el, sizeLine_eq]
    omega
  have zx : (List.replicate k.toNat xs).flatten.length ≤ sizeLine := by
    rw [lm_len_rep_flat, sizeLine_eq]
    omega
  have f0 : (decide (k < -(2 ^ 63)) || decide (k ≥ 2 ^ 63)) = false := by simp only [Bool.or_eq_false_iff, decide_eq_false_iff_not]; omega
  have f1 : (its.toArray.isEmpty || k == 1) = false := by
    simp only [e1, Bool.false_or, beq_eq_false_iff_ne]
    omega
  have f2 : (decide (k ≤ 0) || its.toArray.isEmpty) = false := by
    simp only [e1, Bool.or_false, decide_eq_false_iff_not]
    omega
  have f3 : ¬ ((its.toArray.size : Nat) : Int) * k > (2 ^ 63 - 1) / 8 := by
    rw [es]
    omega
  have f4 : Builtin.Tuple.tupleTooMany (((its.toArray.size : Nat) : Int) * k) = false := by
    unfold Builtin.Tuple.tupleTooMany
    simp only [es, sizeLine_eq, decide_eq_false_iff_not]
    omega
  have mul := call_meets (Q := EP X pins σ Q) (E := X.xe) (prog := X.prog) (w := X.w) (A := X.A) F.slot_tuple_mul tI F.entry_tuple_mul (F.args_tuple_mul_2 (.ref l) (.int k t)) (tuple_mulW l its.toArray n od sl k t f0 f1 f2 f3 f4 (by rw [size_rep, List.size_toArray]; exact zf))
    ⟨ho, by rw [size_rep]; exact lay_tup (t' := s.toks) I (r.rep k.toNat) zx q⟩
  have go := int_rmul_tuple k t l its.toArray n od sl
  refine wpAny_binaryOp_repeat_ref (by decide) tI (fun s' => typeIs_int s' k t) noFill_tuple_mul F.fills_int_mul F.slot_int_rmul repeat_tuple F.slot_int_index.lookup ?_
  exact call_meets F.slot_int_rmul (typeIs_int s k t) F.entry_int_rmul (F.args_int_rmul_2 _ _) go ⟨ho, rfl, tI, mul⟩
end
end Ev
end

section
set_option linter.all false
set_option maxRecDepth 100000
set_option maxHeartbeats 4000000
/-! A tuple from its end. -/
namespace Ev
open PySem L2 PySem.Spec PyProof.Rows
theorem back_bounds (n : Nat) : Builtin.Slice.sliceAdjust none none (-1) (n : Int) = ((n : Int) - 1, -1) ∧ Builtin.Slice.slicePlaces ((n : Int) - 1) (-1) (-1) = n := by
  refine ⟨by simp [Builtin.Slice.sliceAdjust], ?_⟩
  unfold Builtin.Slice.slicePlaces
  have z : ¬ ((-1 : Int) > 0) := by omega
  have o : (- -1 : Int) = 1 := by decide
  simp only [z, if_false, o, Int.ediv_one]
  split <;> omega
theorem back_pick (xs : Array Value) : ((List.range xs.size).filterMap fun (k : Nat) => xs[(((xs.size : Int) - 1) + (k : Int) * (-1)).toNat]?).toArray = xs.toList.reverse.toArray := by
  have e : ∀ l : List Nat, (∀ k ∈ l, k < xs.size) → (l.filterMap fun (k : Nat) => xs[(((xs.size : Int) - 1) + (k : Int) * (-1)).toNat]?) = (l.map fun k => xs.size - 1 - k).filterMap (xs[·]?) := by
    intro l
    induction l with
    | nil => intro _; rfl
    | cons a r ih =>
      intro h
      have ha := h a List.mem_cons_self
      have ea : (((xs.size : Int) - 1) + (a : Int) * (-1)).toNat = xs.size - 1 - a := by omega
      simp only [List.filterMap_cons, List.map_cons, ea, ih fun k hk => h k (List.mem_cons_of_mem _ hk)]
  rw [e _ fun k hk => List.mem_range.mp hk, PySem.W.krv_range, List.filterMap_reverse, PySem.W.krv_all]
section
variable {prog : Program} {w : World} {A : Around} {E : Value → Shared → Prop} {s : Shared}
theorem back_parts {sl : Addr} {vs : Value} {n : Nat} {Q : Int × Int × Nat → Shared → Prop} (hs : s.heap.IsSliceOf sl .none .none vs) (ps : IsPart vs (some (-1))) (h : Q ((n : Int) - 1, -1, n) s) : wpAny (model prog w) A (Builtin.Slice.sliceApplied (.ref sl) (pure (n : Int))) Q E s := by
  obtain ⟨os, ho, hc, hd⟩ := hs
  have F : ∀ {i : Nat} {x : Value} {R : Value → Shared → Prop}, #[Value.none, .none, vs][i]? = some x → R x s → wpAny (model prog w) A (field (.ref sl) i) R E s := fun e r => wpAny_field ho hd e r
  have z : ∀ {R : Option Int → Shared → Prop}, R none s → wpAny (model prog w) A (Builtin.Slice.slicePartIndex .none) R E s := fun r => HT.slicePart_ .none r
  unfold Builtin.Slice.sliceApplied Builtin.Slice.sliceFields
  refine wpAny_bind (wpAny_bind (F (i := 0) rfl (wpAny_bind (F (i := 1) rfl (wpAny_bind (F (i := 2) rfl (wpAny_pure (wpAny_bind (HT.slicePart_ ps ?_)))))))))
  show wpAny _ _ (if (((-1 : Int)) == 0) = true then _ else _) _ _ s
  refine (if_neg (by decide : ¬ (((-1 : Int)) == 0) = true)).symm ▸ ?_
  refine wpAny_bind (z (wpAny_bind (z (wpAny_bind (wpAny_pure ?_)))))
  obtain ⟨b1, b2⟩ := back_bounds n
  have fin : wpAny (model prog w) A (pure ((n : Int) - 1, (-1 : Int), n) : Sem (Int × Int × Nat)) Q E s := wpAny_pure h
  simpa only [Option.getD_some, b1, b2] using fin
theorem back_item {t sl : Addr} {xs : Array Value} {vs : Value} {Q : Value → Shared → Prop} (ht : IsTup s.heap t xs) (hs : s.heap.IsSliceOf sl .none .none vs) (ps : IsPart vs (some (-1))) (hz : xs.size ≤ sizeLine) 
    (h : Q (.ref s.heap.objs.size) { s with heap := s.heap.push (tpO xs.toList.reverse.toArray) }) : wpAny (model prog w) A (getItem (.ref t) (.ref sl)) Q E s := by
  have tS : s.TypeIs (.ref sl) "slice" := let ⟨o, a, b, _⟩ := hs; ⟨o, a, b⟩
  refine PyProof.Rows.getItem_slot ht.typeIs (by decide) PyProof.Rows.slot_tuple_getitem (wpAny_call_entry PyProof.Rows.slot_tuple_getitem ht.typeIs entry_tuple_getitem ?_ (args_tuple_getitem _ _))
  refine wpAny_bind (m := Builtin.Tuple.tupleItemsOf _) (PyProof.Rows.tupleItemsOf_ ht ?_)
  refine wpAny_bind (wpAny_typeOf tS ?_)
  rw [if_pos (by decide)]
  refine wpAny_bind (back_parts hs ps ?_)
  have no : ¬ ((((xs.size : Int) - 1 == 0) && ((-1 : Int) == 1) && (xs.size == xs.size)) = true) := by simp
  dsimp only
  rw [if_neg no, back_pick]
  have z : sizeOk (.seq xs.toList.reverse.toArray) := by show xs.toList.reverse.toArray.size ≤ sizeLine; simpa using hz
  refine wpAny_bind (m := Builtin.Tuple.tupleExact _) ?_
  unfold Builtin.Tuple.tupleExact
  exact wpAny_newObj_type (wpAny_pure ⟨_, rfl, h⟩) z
end
section
variable {X : Cx} {e : Expr} {te : TE} {k : Nat} {p1 p2 p3 pos : Pos}
/-- t[::-1] -/
def tRevF (K : PySem.W.Frag) (te : TE) : TE := fun σ H Q => te σ H fun x H1 => ∃ a xs, x = .ref a ∧ SqT K H1 a xs ∧ NewT H1 xs.reverse Q
theorem pe_revF (he : PE X e te) : PE X (.Subscript e (.Slice none none (some (.UnaryOp .USub (.Constant (.int 1) k p1) p2)) p3) pos) (tRevF X.K te) := by
  constructor
  intro pins s σ H Q I h
  have one : PO X (some (.UnaryOp .USub (.Constant (.int 1) k p1) p2)) (tPart (tUn (rU fun i => .int (-i)) (tC (.int 1)))) := po_some (pe_un un_neg pe_int)
  refine Subscript_ (thn (he.run pins s σ H _ I h) fun v s1 ⟨x, H1, I1, r1, a, xs, ex, hx, q⟩ => wpAny_Slice ?_)
  subst ex
  cases r1
  have left : ∀ {H2 : Hp} {s2 : Shared} {R : Value → Shared → Prop}, L2.Inv X pins σ H2 s2 → (∀ s3, L2.Inv X pins σ H2 s3 → R .none s3) → wpAny (model X.prog X.w) X.A (evalPart none X.env) R X.xe s2 := fun I2 r => by
    rw [evalPart_none]
    exact wpAny_pure (r _ I2)
  refine left I1 fun s2 I2 => left I2 fun s3 I3 => thn (one.run pins s3 σ H1 (fun o H4 => o = some (-1) ∧ H4 = H1) I3 ⟨1, rfl, -1, rfl, rfl, rfl⟩) fun vs s4 ⟨o, H4, I4, ps, eo, e4⟩ => ?_
  subst eo e4
  generalize hs5 : ({ s4 with heap := s4.heap.push { cls := .type "slice", data := .fields #[.none, .none, vs] } } : Shared) = s5
  have I5 : L2.Inv X pins σ H4 s5 := by rw [← hs5]; exact I4.kept (t' := s4.toks) fun b ob z => Heap.get?_push_of_some _ z
  have sl : s5.heap.IsSliceOf s4.heap.objs.size .none .none vs := by rw [← hs5]; exact Heap.IsSliceOf.new ..
  obtain ⟨its, r, ht, hz⟩ := I5.tuple hx
  have go : wpAny (model X.prog X.w) X.A (getItem (.ref a) (.ref s4.heap.objs.size)) (EP X pins σ Q) X.xe s5 := by
    have el : its.length = xs.length := r.length.symm
    refine back_item ht sl ps (by simpa [el] using hz) ?_
    have rr : Vals xs.reverse its.reverse := r.reverse
    exact lay_tup (t' := s5.toks) I5 rr (by simpa using hz) q
  have end_ : wpAny (model X.prog X.w) X.A (subscriptTail e (.Slice none none (some (.UnaryOp .USub (.Constant (.int 1) k p1) p2)) p3) (.ref a) (.ref s4.heap.objs.size)) (EP X pins σ Q) X.xe s5 :=
    tail_any (ops := [.ref a, .ref s4.heap.objs.size]) ht.typeIs PyProof.Rows.slot_tuple_getitem.lookup go (by with_unfolding_all rfl)
  exact end_
end
end Ev
end

section
set_option linter.all false
set_option maxRecDepth 100000
set_option maxHeartbeats 4000000
/-! Operations by values, over what stands in the heap. -/
namespace Ev
open PySem L2 PySem.Spec PyProof.Rows

section
variable {K : PySem.W.Frag} {B : Cls0} {F F' H H' H1 H2 : Hp} {G G' G1 G2 : Gh}
/-- a value that reads as d now; what is in it is frozen -/
def RepC (K : PySem.W.Frag) (B : Cls0) (G : Gh) (H : Hp) (v : V) (d : D) : Prop := ∃ r p t, RepT K B G H r p v t ∧ frz t = d
theorem RepC.val {v : V} {d : D} (h : Rep K B (Fz G H) v d) : RepC K B G H v d := ⟨0, [], .val d, .val h, rfl⟩
theorem RepC.rep {v : V} {d : D} (h : RepC K B G H v d) : Rep K B H v d := by
  obtain ⟨r, p, t, R, rfl⟩ := h
  exact R.read (fun a o e _ => e) fun a o p e _ => e
theorem RepC.lst {v : V} {l : List D} (h : RepC K B G H v (.lst l)) : ∃ a vs, v = .ref a ∧ H a = some (.lst vs) ∧ Reps K B (Fz G H) vs l := by
  obtain ⟨r, p, t, R, e⟩ := h
  cases R with
  | val x =>
    have e2 : _ = D.lst l := e
    subst e2
    cases x with
    | lst a b => exact ⟨_, _, rfl, Fz.sub _ _ a, b⟩
  | lst g a b =>
    have e2 := D.lst.inj e
    subst e2
    exact ⟨_, _, rfl, a, b⟩
  | dic g a b c => cases e
  | ins g a b c => cases e
theorem RepC.tpm {v : V} {l : List D} (h : RepC K B G H v (.tup l)) : ∃ a vs, v = .ref a ∧ TpM K (Fz G H) a vs ∧ Reps K B (Fz G H) vs l := by
  obtain ⟨r, p, t, R, e⟩ := h
  cases R with
  | val x =>
    have e2 : _ = D.tup l := e
    subst e2
    cases x with
    | tup a b => exact ⟨_, _, rfl, a, b⟩
  | lst g a b => cases e
  | dic g a b c => cases e
  | ins g a b c => cases e
theorem RepC.tup {v : V} {l : List D} (h : RepC K B G H v (.tup l)) : ∃ a vs, v = .ref a ∧ SqT K (Fz G H) a vs ∧ Reps K B (Fz G H) vs l := by
  obtain ⟨a, vs, e, q, r⟩ := h.tpm
  exact ⟨a, vs, e, q.sq, r⟩
theorem RepC.int {v : V} {i : Int} (h : RepC K B G H v (.int i)) : v = .int i := by
  cases h.rep
  rfl
theorem RepC.bl {v : V} {i : Bool} (h : RepC K B G H v (.bl i)) : v = .bl i := by
  cases h.rep
  rfl
theorem RepC.str {v : V} {i : Str} (h : RepC K B G H v (.str i)) : v = .str i := by
  cases h.rep
  rfl
theorem RepC.non {v : V} (h : RepC K B G H v .non) : v = .non := by
  cases h.rep
  rfl
theorem RepC.scr {v : V} {l : List Int} (h : RepC K B G H v (.scr l)) : ∃ a, v = .ref a ∧ SqL K H a (l.map V.int) := by
  cases h.rep with
  | scr a => exact ⟨_, rfl, a⟩

/-- what an operation gives: what stood already, or one new object -/
inductive Mk1 (K : PySem.W.Frag) (B : Cls0) (G : Gh) (H : Hp) (t : T) : V → Gh → Hp → Prop
  | same {v : V} : RepT K B G H 0 [] v t → Mk1 K B G H t v G H
  | new {p : Addr} {o : HO} {w : Own} : H p = none → (∀ ps, o ≠ .tbl ps) → RepT K B (gNew p w G) (upd H p o) 0 [] (.ref p) t → Mk1 K B G H t (.ref p) (gNew p w G) (upd H p o)
theorem Mk1.nx {t : T} {v : V} (m : Mk1 K B G H t v G' H') : Nx G H G' H' := by
  cases m with
  | same _ => exact Nx.refl
  | new h _ _ => exact Nx.new h
theorem Mk1.rep {t : T} {v : V} (m : Mk1 K B G H t v G' H') : RepT K B G' H' 0 [] v t := by
  cases m with
  | same r => exact r
  | new h _ r => exact r
theorem Mk1.sta {t : T} {v : V} {σ : L2.St} {ρ : Env} (m : Mk1 K B G H t v G' H') (S : Sta K B G ρ σ H) : Sta K B G' ρ σ H' := by
  cases m with
  | same _ => exact S
  | new h ho _ => exact S.new h ho
theorem Mk1.val {d : D} {v : V} (h : Rep K B (Fz G H) v d) : Mk1 K B G H (.val d) v G H := .same (.val h)
theorem new_sub {p : Addr} {o : HO} {w : Own} (h : H p = none) : Sub (Fz G H) (Fz (gNew p w G) (upd H p o)) := (Nx.new h).frz
theorem Mk1.newL {vs : List V} {l : List D} {p : Addr} (h : H p = none) (r : Reps K B (Fz G H) vs l) : Mk1 K B G H (.lst l) (.ref p) (gNew p (.my 0 []) G) (upd H p (.lst vs)) :=
  .new h (fun _ => nofun) (.lst gNew_same upd_same (r.mono (new_sub h)))
theorem Mk1.newT {vs : List V} {l : List D} {p : Addr} {o : Obj} (h : H p = none) (hc : o.cls = .type "tuple") (hd : o.dict = none) (r : Reps K B (Fz G H) vs l) : Mk1 K B G H (.val (.tup l)) (.ref p) (gNew p .frz G) (upd H p (.frz o (.tup vs))) :=
  .new h (fun _ => nofun) (.val (.tup (.inl ⟨o, Fz.of gNew_same upd_same, hc, hd⟩) (r.mono (new_sub h))))

/-! ### == -/
mutual
def toP : D → PyData
  | .non => .none
  | .bl b => .bool b
  | .int i => .int i
  | .str x => .str x
  | .tup l => .tuple (toPs l)
  | .lst l => .list (toPs l)
  | _ => .none
def toPs : List D → List PyData
  | [] => []
  | d :: r => toP d :: toPs r
end
mutual
theorem toP_dp : ∀ {v : V} {d : D}, Rep K B F v d → plain d = true → Dp K F v (toP d)
  | _, _, .non, _ => .non
  | _, _, .bl b, _ => .bl b
  | _, _, .int i, _ => .int i
  | _, _, .str x, _ => .str x
  | _, _, .tup a r, h => .tup a.sq (toP_dps r h)
  | _, _, .lst a r, h => .lst (.inl (.inl a)) (toP_dps r h)
  | _, _, .scr _, h => nomatch h
  | _, _, .dic _ _ _, h => nomatch h
  | _, _, .ins _ _ _, h => nomatch h
  | _, _, .exc _ _ _, h => nomatch h
theorem toP_dps : ∀ {vs : List V} {ds : List D}, Reps K B F vs ds → plains ds = true → DpAll K F vs (toPs ds)
  | _, _, .nil, _ => .nil
  | _, _, .cons a r, h => by
    obtain ⟨h1, h2⟩ := Bool.and_eq_true_iff.mp (show (plain _ && plains _) = true from h)
    exact .cons (toP_dp a h1) (toP_dps r h2)
end
mutual
theorem toP_plain : ∀ {d : D}, plain d = true → (toP d).plain = true
  | .non, _ => rfl
  | .bl _, _ => rfl
  | .int _, _ => rfl
  | .str _, _ => rfl
  | .tup l, h => by
    show PyData.plainAll (toPs l) = true
    exact toPs_plain h
  | .lst l, h => by
    show PyData.plainAll (toPs l) = true
    exact toPs_plain h
  | .dic _ _, h => nomatch h
  | .ins _ _, h => nomatch h
  | .exc _ _, h => nomatch h
  | .scr _, h => nomatch h
theorem toPs_plain : ∀ {l : List D}, plains l = true → PyData.plainAll (toPs l) = true
  | [], _ => rfl
  | d :: r, h => by
    obtain ⟨h1, h2⟩ := Bool.and_eq_true_iff.mp (show (plain d && plains r) = true from h)
    show (PyData.plain (toP d) && PyData.plainAll (toPs r)) = true
    rw [toP_plain h1, toPs_plain h2] <;> rfl
end
mutual
theorem toP_depth : ∀ (d : D), (toP d).depth ≤ depth d
  | .non => Nat.le_refl _
  | .bl _ => Nat.le_refl _
  | .int _ => Nat.le_refl _
  | .str _ => Nat.le_refl _
  | .tup l => by
    show PyData.depth (.tuple (toPs l)) ≤ depths l + 1
    simp only [PyData.depth]
    exact Nat.succ_le_succ (toPs_depth l)
  | .lst l => by
    show PyData.depth (.list (toPs l)) ≤ depths l + 1
    simp only [PyData.depth]
    exact Nat.succ_le_succ (toPs_depth l)
  | .dic _ _ => Nat.le_refl _
  | .ins _ _ => Nat.le_refl _
  | .exc _ _ => Nat.le_refl _
  | .scr _ => Nat.le_refl _
theorem toPs_depth : ∀ (l : List D), PyData.depthAll (toPs l) ≤ depths l
  | [] => Nat.le_refl _
  | d :: r => by
    have h1 := toP_depth d
    have h2 := toPs_depth r
    show PyData.depthAll (toP d :: toPs r) ≤ max (depth d) (depths r)
    simp only [PyData.depthAll]
    omega
end
mutual
theorem toP_eqv : ∀ {a b : D}, plain a = true → plain b = true → PyData.eqv (toP a) (toP b) = eqv a b
  | .non, b, _, h => by cases b <;> first | (simp [plain] at h; done) | simp [toP, PyData.eqv, eqv]
  | .bl x, b, _, h => by cases b <;> first | (simp [plain] at h; done) | simp [toP, PyData.eqv, eqv]
  | .int x, b, _, h => by cases b <;> first | (simp [plain] at h; done) | simp [toP, PyData.eqv, eqv]
  | .str x, b, _, h => by cases b <;> first | (simp [plain] at h; done) | simp [toP, PyData.eqv, eqv]
  | .tup x, b, h1, h => by
    cases b with
    | tup y =>
      have q := toPs_eqv (a := x) (b := y) h1 h
      simp only [toP, PyData.eqv, eqv]
      exact q
    | _ => first | (simp [plain] at h; done) | simp [toP, PyData.eqv, eqv]
  | .lst x, b, h1, h => by
    cases b with
    | lst y =>
      have q := toPs_eqv (a := x) (b := y) h1 h
      simp only [toP, PyData.eqv, eqv]
      exact q
    | _ => first | (simp [plain] at h; done) | simp [toP, PyData.eqv, eqv]
  | .dic _ _, _, h, _ => nomatch h
  | .ins _ _, _, h, _ => nomatch h
  | .scr _, _, h, _ => nomatch h
theorem toPs_eqv : ∀ {a b : List D}, plains a = true → plains b = true → PyData.eqvAll (toPs a) (toPs b) = eqvs a b
  | [], [], _, _ => by simp [toPs, PyData.eqvAll, eqvs]
  | [], _ :: _, _, _ => by simp [toPs, PyData.eqvAll, eqvs]
  | _ :: _, [], _, _ => by simp [toPs, PyData.eqvAll, eqvs]
  | x :: r, y :: s, h1, h2 => by
    obtain ⟨a1, a2⟩ := Bool.and_eq_true_iff.mp (show (plain x && plains r) = true from h1)
    obtain ⟨b1, b2⟩ := Bool.and_eq_true_iff.mp (show (plain y && plains s) = true from h2)
    have q1 := toP_eqv a1 b1
    have q2 := toPs_eqv a2 b2
    simp only [toPs, PyData.eqvAll, eqvs, q1, q2]
end
end

section
variable {X : Cx}
def opo : BinO → Operator
  | .add => .Add | .sub => .Sub | .mul => .Mult | .fdiv => .FloorDiv | .mod => .Mod | .pow => .Pow
/-- a binary operation by data -/
def rBin (K : PySem.W.Frag) (B : Cls0) (o : BinO) : R2 := fun x y H Q => ∃ G dx dy t, RepC K B G H x dx ∧ RepC K B G H y dy ∧ binD o dx dy = some t ∧ ∀ v G' H', Mk1 K B G H t v G' H' → Q v H'
theorem LL_line {n : Nat} (h : n ≤ LL) : n ≤ sizeLine := Nat.le_trans h (by decide)
theorem LL_lt {n : Nat} (h : n < LL) : n < sizeLine := Nat.lt_of_lt_of_le h (by decide)
theorem fdivI {i j : Int} {t u : Tok} {Q : Value → Shared → Prop} {A : Around} {E : Value → Shared → Prop} {s : Shared} {P : Program} {w : World} (hb : j ≠ 0) (hr : Builtin.divisionGoesByPylong i j = false ∨ PySem.PylongRoom (model P w) A s) (h : Q (.int (i.fdiv j) s.toks) { s with toks := s.toks + 1 }) :
    wpAny (model P w) A (binaryOp .FloorDiv (.int i t) (.int j u)) Q E s := floordiv_int hb h hr
theorem op_bin (B : Cls0) (o : BinO) : OpR X (binaryOp (opo o)) (rBin X.K B o) := by
  intro pins s σ H x y v u Q I rx ry h
  obtain ⟨G, dx, dy, t, hx, hy, e, q⟩ := h
  unfold binD at e
  split at e
  · -- int + int
    cases hx.int
    cases hy.int
    have e2 := Option.some.inj e
    subst e2
    exact op_add pins s σ H _ _ v u Q I rx ry ⟨_, _, rfl, rfl, q _ _ _ (Mk1.val (.int _))⟩
  · cases hx.str
    cases hy.str
    split at e
    · rename_i hz
      have e2 := Option.some.inj e
      subst e2
      exact op_add_str pins s σ H _ _ v u Q I rx ry ⟨_, _, rfl, rfl, LL_line hz, q _ _ _ (Mk1.val (.str _))⟩
    · cases e
  · split at e
    · rename_i hz
      have e2 := Option.some.inj e
      subst e2
      obtain ⟨a, xs, rfl, ha, ra⟩ := hx.tpm
      obtain ⟨b, ys, rfl, hb, rb⟩ := hy.tpm
      have la := ra.length
      have lb := rb.length
      refine op_catF pins s σ H _ _ v u Q I rx ry ⟨a, b, xs, ys, ⟨rfl, rfl⟩, ⟨Fz.sub.seqT ha.sq, Fz.sub.seqT hb.sq⟩, LL_line (by rw [la, lb]; exact hz), fun e1 => ?_, fun e1 => ?_, fun p o hp hc hd => q _ _ _ (Mk1.newT hp hc hd (ra.append rb))⟩
      · subst e1
        cases ra
        exact q _ _ _ (Mk1.val (.tup hb rb))
      · subst e1
        cases rb
        rw [List.append_nil] at q
        exact q _ _ _ (Mk1.val (.tup ha ra))
    · cases e
  · split at e
    · rename_i hz
      have e2 := Option.some.inj e
      subst e2
      obtain ⟨a, xs, rfl, ha, ra⟩ := hx.lst
      obtain ⟨b, ys, rfl, hb, rb⟩ := hy.lst
      exact op_cat pins s σ H _ _ v u Q I rx ry ⟨a, b, xs, ys, rfl, rfl, ha, hb, LL_line (by rw [ra.length, rb.length]; exact hz), fun p hp => q _ _ _ (Mk1.newL hp (ra.append rb))⟩
    · cases e
  · cases hx.int
    cases hy.int
    have e2 := Option.some.inj e
    subst e2
    exact op_sub pins s σ H _ _ v u Q I rx ry ⟨_, _, rfl, rfl, q _ _ _ (Mk1.val (.int _))⟩
  · rename_i i j
    split at e
    · rename_i hm
      cases hx.int
      cases hy.int
      have e2 := Option.some.inj e
      subst e2
      obtain ⟨t1, rfl⟩ := rx
      obtain ⟨t2, rfl⟩ := ry
      refine mul_int ⟨.int _, H, I.tok _, ⟨_, rfl⟩, q _ _ _ (Mk1.val (.int _))⟩ ?_
      unfold mulOk at hm
      unfold IntMulOk
      intro z
      rw [z] at hm
      cases hm
    · cases e
  · split at e
    · rename_i hz
      obtain ⟨h1, h2⟩ := Bool.and_eq_true_iff.mp hz
      have h1' := of_decide_eq_true h1
      have h2' := of_decide_eq_true h2
      cases hy.int
      have e2 := Option.some.inj e
      subst e2
      obtain ⟨a, xs, rfl, ha, ra⟩ := hx.lst
      exact op_rep pins s σ H _ _ v u Q I rx ry ⟨a, _, xs, rfl, rfl, ha, h1'.1, h1'.2, LL_line (by rw [ra.length]; exact h2'), fun p hp => q _ _ _ (Mk1.newL hp (ra.rep _))⟩
    · cases e
  · split at e
    · rename_i hz
      have h1 := of_decide_eq_true hz
      cases hy.int
      have e2 := Option.some.inj e
      subst e2
      obtain ⟨a, xs, rfl, ha, ra⟩ := hx.tup
      have la := ra.length
      refine op_mulF pins s σ H _ _ v u Q I rx ry ⟨a, _, xs, ⟨rfl, rfl⟩, Fz.sub.seqT ha, ⟨fun z => ?_, h1.2.1, h1.2.2.1, by rw [la]; exact h1.2.2.2⟩, fun p o hp hc hd => q _ _ _ (Mk1.newT hp hc hd (ra.rep _))⟩
      subst z
      cases ra
      exact h1.1 rfl
    · cases e
  · split at e
    · rename_i hz
      have h1 := of_decide_eq_true hz
      cases hx.int
      cases hy.int
      have e2 := Option.some.inj e
      subst e2
      obtain ⟨t1, rfl⟩ := rx
      obtain ⟨t2, rfl⟩ := ry
      exact fdivI h1.1 (Or.inl h1.2) ⟨.int _, H, I.tok _, ⟨_, rfl⟩, q _ _ _ (Mk1.val (.int _))⟩
    · cases e
  · split at e
    · rename_i hz
      have h1 := of_decide_eq_true hz
      cases hx.int
      cases hy.int
      have e2 := Option.some.inj e
      subst e2
      exact op_modN pins s σ H _ _ v u Q I rx ry ⟨_, _, rfl, rfl, h1, q _ _ _ (Mk1.val (.int _))⟩
    · cases e
  · split at e
    · rename_i hz
      have h1 := of_decide_eq_true hz
      cases hx.int
      cases hy.int
      have e2 := Option.some.inj e
      subst e2
      obtain ⟨t1, rfl⟩ := rx
      obtain ⟨t2, rfl⟩ := ry
      exact pow_int h1.1 h1.2 ⟨.int _, H, I.tok _, ⟨_, rfl⟩, q _ _ _ (Mk1.val (.int _))⟩
    · cases e
  · cases e

/-! ### comparisons -/
def opc : CmpO → CmpOp
  | .eq => .Eq | .ne => .NotEq | .lt => .Lt | .le => .LtE | .gt => .Gt | .ge => .GtE | .is => .Is | .isnot => .IsNot | .isin => .In | .notin => .NotIn
def rCmp (K : PySem.W.Frag) (B : Cls0) (o : CmpO) : R2 := fun x y H Q => ∃ G dx dy b, RepC K B G H x dx ∧ RepC K B G H y dy ∧ cmpD o dx dy = some b ∧ Q (.bl b) H
theorem eq_reads {n : Nat} (hr : Room n X.A) {pins : List (Addr × Obj)} {σ : L2.St} {H : Hp} {s : Shared} {G : Gh} {x y : V} {v u : Value} {dx dy : D} (I : L2.Inv X pins σ H s) (rx : RelV x v) (ry : RelV y u) (hx : RepC X.K B G H x dx) (hy : RepC X.K B G H y dy)
    (h : (plain dx && plain dy && decide (min (depth dx) (depth dy) ≤ 64)) = true) : (∃ as, Reads s.heap v (toP dx) as) ∧ (∃ bs, Reads s.heap u (toP dy) bs) ∧ (toP dx).plain = true ∧ (toP dy).plain = true ∧ X.A.units + min (toP dx).depth (toP dy).depth < cLine ∧ PyData.eqv (toP dx) (toP dy) = eqv dx dy := by
  obtain ⟨h1, h3⟩ := Bool.and_eq_true_iff.mp h
  obtain ⟨h1, h2⟩ := Bool.and_eq_true_iff.mp h1
  have h3 := of_decide_eq_true h3
  refine ⟨Dp.reads I _ _ _ (toP_dp hx.rep h1) rx, Dp.reads I _ _ _ (toP_dp hy.rep h2) ry, toP_plain h1, toP_plain h2, ?_, toP_eqv h1 h2⟩
  have a := toP_depth dx
  have b := toP_depth dy
  have c := hr.un
  omega
theorem or_some {α : Type} {a b : Option α} {x : α} (h : a.or b = some x) : a = some x ∨ b = some x := by
  cases a with
  | none => exact .inr h
  | some y => exact .inl h
/-- any tuple beside the empty one: no items are looked at -/
theorem eqE_run {n : Nat} (hr : Room n X.A) {pins : List (Addr × Obj)} {σ : L2.St} {H : Hp} {s : Shared} {G : Gh} {x y : V} {v u : Value} {dx dy : D} {b : Bool} {Q : Value → Shared → Prop} (I : L2.Inv X pins σ H s) (rx : RelV x v) (ry : RelV y u) (hx : RepC X.K B G H x dx) (hy : RepC X.K B G H y dy)
    (h : eqE dx dy = some b) : (Q (.bool b) s → wpAny (model X.prog X.w) X.A (compareOp .Eq v u) Q X.xe s) ∧ (Q (.bool (!b)) s → wpAny (model X.prog X.w) X.A (compareOp .NotEq v u) Q X.xe s) := by
  unfold eqE at h
  split at h
  case h_2 => cases h
  rename_i l
  cases h
  obtain ⟨a1, vs, rfl, ha, r⟩ := hx.tpm
  obtain ⟨a2, ws, rfl, hb, r0⟩ := hy.tpm
  cases r0
  cases rx
  cases ry
  obtain ⟨its, q1, t1, _⟩ := I.tuple (Fz.sub.seqT ha.sq)
  obtain ⟨jts, q2, t2, _⟩ := I.tuple (Fz.sub.seqT hb.sq)
  cases q2
  have un : X.A.units < cLine := by have c := hr.un; omega
  have none_ : ∀ (j : Nat) (h1 : j < its.toArray.size) (h2 : j < ([] : List Value).toArray.size), SeqAt.EqAt X.A.in1 s its.toArray[j] ([] : List Value).toArray[j] ((fun _ => true) j) := fun j _ h2 => absurd h2 (by simp)
  have z : ((List.range (min its.toArray.size ([] : List Value).toArray.size)).all (fun _ => true) && its.toArray.size == ([] : List Value).toArray.size) = l.isEmpty := by
    have n1 : its.length = l.length := by rw [← q1.length, Reps.length r]
    cases l with
    | nil => simp [List.eq_nil_of_length_eq_zero n1]
    | cons c m =>
      cases its with
      | nil => cases n1
      | cons c' m' => simp
  constructor
  · intro q
    exact (SeqAt.RcAt.tuples t1 t2 un none_) X.prog X.w X.xe Q (by rw [z]; exact q)
  · intro q
    exact (SeqAt.RcNeAt.tuples t1 t2 un none_) X.prog X.w X.xe Q (by rw [z]; exact q)
theorem op_cmp (B : Cls0) (o : CmpO) {n : Nat} (hr : Room n X.A) (ho : o ≠ .isin ∧ o ≠ .notin) : OpR X (compareOp (opc o)) (rCmp X.K B o) := by
  intro pins s σ H x y v u Q I rx ry h
  obtain ⟨G, dx, dy, b, hx, hy, e, q⟩ := h
  have fin : ∀ {b' : Bool}, b' = b → EP X pins σ Q (.bool b') s := fun {b'} z => by
    subst z
    exact ⟨.bl _, H, I, rfl, q⟩
  have two : ∀ {f : Int → Int → Bool} {c : CmpOp}, ints2 f dx dy = some b → (OpR X (compareOp c) (rI0 fun i j => .bl (f i j))) → wpAny (model X.prog X.w) X.A (compareOp c v u) (EP X pins σ Q) X.xe s := fun {f c} e r => by
    cases dx with
    | int i =>
      cases dy with
      | int j =>
        have e2 := Option.some.inj e
        cases hx.int
        cases hy.int
        exact r pins s σ H _ _ v u Q I rx ry ⟨_, _, rfl, rfl, by show Q (V.bl (f i j)) H; rw [e2]; exact q⟩
      | _ => cases e
    | _ => cases e
  cases o with
  | eq =>
    rcases or_some (show (eqD dx dy).or (eqE dx dy) = some b from e) with e1 | e1
    · unfold eqD at e1
      split at e1
      · rename_i hc
        obtain ⟨⟨as, r1⟩, ⟨bs, r2⟩, p1, p2, hu, he⟩ := eq_reads hr I rx ry hx hy hc
        have e2 := Option.some.inj e1
        exact SeqAt.eq_plain r1 r2 p1 p2 hu (fin (by rw [he, e2]))
      · cases e1
    · exact (eqE_run hr I rx ry hx hy e1).1 (fin rfl)
  | ne =>
    obtain ⟨b0, e0, eb⟩ := Option.map_eq_some_iff.mp (show ((eqD dx dy).or (eqE dx dy)).map (!·) = some b from e)
    rcases or_some e0 with e1 | e1
    · unfold eqD at e1
      split at e1
      · rename_i hc
        obtain ⟨⟨as, r1⟩, ⟨bs, r2⟩, p1, p2, hu, he⟩ := eq_reads hr I rx ry hx hy hc
        have e2 := Option.some.inj e1
        exact SeqAt.ne_plain r1 r2 p1 p2 hu (fin (by rw [he, e2, ← eb]))
      · cases e1
    · exact (eqE_run hr I rx ry hx hy e1).2 (fin eb)
  | lt => exact two e op_lt
  | le => exact two e op_le
  | gt => exact two e op_gt
  | ge => exact two e op_ge
  | is =>
    cases dy with
    | non =>
      have e2 : isNon dx = b := Option.some.inj e
      cases hy.non
      refine op_isN pins s σ H _ _ v u Q I rx ry ⟨rfl, ?_⟩
      have : decide (x = V.non) = b := by
        rw [← e2]
        cases hx.rep <;> simp [isNon]
      rw [this]
      exact q
    | _ => cases e
  | isnot =>
    cases dy with
    | non =>
      have e2 : (!isNon dx) = b := Option.some.inj e
      cases hy.non
      refine op_notN pins s σ H _ _ v u Q I rx ry ⟨rfl, ?_⟩
      have : (!decide (x = V.non)) = b := by
        rw [← e2]
        cases hx.rep <;> simp [isNon]
      rw [this]
      exact q
    | _ => cases e
  | isin => exact absurd rfl ho.1
  | notin => exact absurd rfl ho.2
end
end Ev
end

section
set_option linter.all false
set_option maxRecDepth 100000
set_option maxHeartbeats 4000000
/-! Operations by values, further: in, subscripts, slices, built-ins. -/
namespace Ev
open PySem L2 PySem.Spec PyProof.Rows
section
variable {K : PySem.W.Frag} {B : Cls0} {F F' H H' H1 H2 : Hp} {G G' G1 G2 : Gh}
theorem toP_anys {d : D} (hd : plain d = true) : ∀ {l : List D}, plains l = true → ((toPs l).any fun y => PyData.eqv y (toP d)) = l.any fun e => eqv e d
  | [], _ => rfl
  | x :: r, h => by
    obtain ⟨h1, h2⟩ := Bool.and_eq_true_iff.mp (show (plain x && plains r) = true from h)
    show (PyData.eqv (toP x) (toP d) || (toPs r).any fun y => PyData.eqv y (toP d)) = (eqv x d || r.any fun e => eqv e d)
    rw [toP_eqv h1 hd, toP_anys hd h2]
/-- all of several values -/
inductive RepCs (K : PySem.W.Frag) (B : Cls0) (G : Gh) (H : Hp) : List V → List D → Prop
  | nil : RepCs K B G H [] []
  | cons {v : V} {vs : List V} {d : D} {ds : List D} : RepC K B G H v d → RepCs K B G H vs ds → RepCs K B G H (v :: vs) (d :: ds)
theorem atI_get2 {α β : Type} {xs : List α} {ys : List β} {k : Int} {y : β} (hl : xs.length = ys.length) (h : atI ys k = some y) : ∃ (j : Nat) (x : α), ys[j]? = some y ∧ xs[j]? = some x ∧ atI xs k = some x := by
  unfold atI at h
  cases e : ixN ys.length k with
  | none => rw [e] at h; cases h
  | some j =>
    rw [e] at h
    have h2 : ys[j]? = some y := h
    have hj : j < xs.length := by rw [hl]; exact (List.getElem?_eq_some_iff.mp h2).1
    refine ⟨j, xs[j], h2, List.getElem?_eq_getElem hj, ?_⟩
    unfold atI
    rw [hl, e]
    exact List.getElem?_eq_getElem hj
theorem cut_reps {vs : List V} {ds : List D} (r : Reps K B F vs ds) (lo hi : Option Int) : Reps K B F (cutV vs lo hi) (cut ds lo hi) := by
  unfold cutV cut
  rw [r.length]
  exact (r.drop _).take _
theorem intsD_vals : ∀ {l : List D} {ns : List Int} {vs : List V}, intsD l = some ns → Reps K B F vs l → vs = ns.map V.int
  | [], ns, vs, h, r => by
    cases r
    have e := Option.some.inj h
    subst e
    rfl
  | d :: l, ns, vs, h, r => by
    cases r with
    | cons a b =>
      cases d with
      | int i =>
        have h1 : (intsD l).map (i :: ·) = some ns := h
        cases e : intsD l with
        | none => rw [e] at h1; cases h1
        | some ms =>
          rw [e] at h1
          have e2 := Option.some.inj h1
          subst e2
          cases a
          show V.int i :: _ = V.int i :: ms.map V.int
          rw [intsD_vals e b]
      | _ => cases h
theorem blsD_vals : ∀ {l : List D} {ns : List Bool} {vs : List V}, blsD l = some ns → Reps K B F vs l → vs = ns.map V.bl
  | [], ns, vs, h, r => by
    cases r
    have e := Option.some.inj h
    subst e
    rfl
  | d :: l, ns, vs, h, r => by
    cases r with
    | cons a b =>
      cases d with
      | bl i =>
        have h1 : (blsD l).map (i :: ·) = some ns := h
        cases e : blsD l with
        | none => rw [e] at h1; cases h1
        | some ms =>
          rw [e] at h1
          have e2 := Option.some.inj h1
          subst e2
          cases a
          show V.bl i :: _ = V.bl i :: ms.map V.bl
          rw [blsD_vals e b]
      | _ => cases h
def tyN : Nat → String
  | 0 => "NoneType" | 1 => "bool" | 2 => "int" | 3 => "str" | 4 => "tuple" | 5 => "list" | _ => "dict"
theorem RepC.ty {v : V} {d : D} {n : Nat} (h : RepC K B G H v d) (e : tyD d = some n) : TyX K H v (.type (tyN n)) := by
  cases d with
  | non =>
    cases h.non
    have e2 := Option.some.inj e
    subst e2
    exact .base .non
  | bl b =>
    cases h.bl
    have e2 := Option.some.inj e
    subst e2
    exact .base (.bl b)
  | int i =>
    cases h.int
    have e2 := Option.some.inj e
    subst e2
    exact .base (.int i)
  | str x =>
    cases h.str
    have e2 := Option.some.inj e
    subst e2
    exact .base (.str x)
  | tup l =>
    have e2 := Option.some.inj e
    subst e2
    obtain ⟨a, vs, rfl, q, _⟩ := h.tup
    rcases Fz.sub.seqT q with (q | ⟨o, q⟩) | ⟨o, its, n, q, c, _⟩
    · exact .base (.tup q)
    · exact .fTuple q
    · exact .kTuple q c
  | lst l =>
    have e2 := Option.some.inj e
    subst e2
    obtain ⟨a, vs, rfl, q, _⟩ := h.lst
    exact .base (.lst q)
  | dic ks l =>
    have e2 := Option.some.inj e
    subst e2
    cases h.rep with
    | dic q _ _ => exact .base (.dK q)
  | ins c l => cases e
  | exc c l => cases e
  | scr l => cases e
end
section
variable {X : Cx}
theorem op_cmpIn (B : Cls0) (o : CmpO) {n : Nat} (hr : Room n X.A) (ho : o = .isin ∨ o = .notin) : OpR X (compareOp (opc o)) (rCmp X.K B o) := by
  intro pins s σ H x y v u Q I rx ry h
  obtain ⟨G, dx, dy, b, hx, hy, e, q⟩ := h
  have fin : ∀ {b' : Bool}, b' = b → EP X pins σ Q (.bool b') s := fun {b'} z => by
    subst z
    exact ⟨.bl _, H, I, rfl, q⟩
  have key : ∀ {l : List D} {b' : Bool}, (if plain dx && plains l && decide (depth dx ≤ 64) then some (l.any fun d => eqv d dx) else none) = some b' → (∃ bs, Reads s.heap v (toP dx) bs) ∧ plains l = true ∧ PyData.plainAll (toPs l) = true ∧ (toP dx).plain = true ∧ X.A.units + 1 + min (PyData.depthAll (toPs l)) (toP dx).depth < cLine ∧ ((toPs l).any fun y => PyData.eqv y (toP dx)) = b' := fun {l b'} z => by
    split at z
    · rename_i hc
      obtain ⟨h1, h3⟩ := Bool.and_eq_true_iff.mp hc
      obtain ⟨h1, h2⟩ := Bool.and_eq_true_iff.mp h1
      have h3 := of_decide_eq_true h3
      have a := toP_depth dx
      have c := hr.un
      exact ⟨Dp.reads I _ _ _ (toP_dp hx.rep h1) rx, h2, toPs_plain h2, toP_plain h1, by omega, (toP_anys h1 h2).trans (Option.some.inj z)⟩
    · cases z
  have go : ∀ (neg : Bool) (b' : Bool), inD dx dy = some b' → b = (if neg then !b' else b') → wpAny (model X.prog X.w) X.A (compareOp (if neg then .NotIn else .In) v u) (EP X pins σ Q) X.xe s := fun neg b' z zb => by
    cases dy with
    | lst l =>
      obtain ⟨⟨bs, r2⟩, pl, p1, p2, hu, he⟩ := key (b' := b') z
      have pl' : plain (.lst l) = true := pl
      obtain ⟨as, r1⟩ := Dp.reads I _ _ _ (toP_dp hy.rep pl') ry
      cases neg with
      | true => exact SeqAt.notIn_list_data r1 r2 p1 p2 hu (fin (by rw [he, zb]; rfl))
      | false => exact SeqAt.in_list_data r1 r2 p1 p2 hu (fin (by rw [he, zb]; rfl))
    | tup l =>
      obtain ⟨⟨bs, r2⟩, pl, p1, p2, hu, he⟩ := key (b' := b') z
      have pl' : plain (.tup l) = true := pl
      obtain ⟨as, r1⟩ := Dp.reads I _ _ _ (toP_dp hy.rep pl') ry
      cases neg with
      | true => exact SeqAt.notIn_tuple_data r1 r2 p1 p2 hu (fin (by rw [he, zb]; rfl))
      | false => exact SeqAt.in_tuple_data r1 r2 p1 p2 hu (fin (by rw [he, zb]; rfl))
    | str t =>
      cases dx with
      | str c =>
        have z1 : (if c.length = 1 then some (decide (c.cps.getD 0 0 ∈ t.cps.toList)) else none) = some b' := z
        split at z1
        · rename_i hc
          cases hx.str
          cases hy.str
          have e2 := Option.some.inj z1
          have ec : c = ⟨#[c.cps.getD 0 0]⟩ := by
            obtain ⟨⟨l⟩⟩ := c
            have hc' : l.length = 1 := hc
            match l, hc' with
            | [a], _ => rfl
          cases neg with
          | true => exact op_notIn_sign pins s σ H _ _ v u Q I rx ry ⟨c.cps.getD 0 0, t, congrArg V.str ec, rfl, by rw [e2, ← (show b = !b' from zb)]; exact q⟩
          | false => exact op_in_sign pins s σ H _ _ v u Q I rx ry ⟨c.cps.getD 0 0, t, congrArg V.str ec, rfl, by rw [e2, ← (show b = b' from zb)]; exact q⟩
        · cases z1
      | _ => cases z
    | _ => cases z
  rcases ho with rfl | rfl
  · have e1 : inD dx dy = some b := e
    exact go false b e1 rfl
  · have e1 : (inD dx dy).map (!·) = some b := e
    cases z : inD dx dy with
    | none => rw [z] at e1; cases e1
    | some b' =>
      rw [z] at e1
      exact go true b' z (Option.some.inj e1).symm
theorem op_cmpA (B : Cls0) (o : CmpO) {n : Nat} (hr : Room n X.A) : OpR X (compareOp (opc o)) (rCmp X.K B o) := by
  by_cases h : o = .isin ∨ o = .notin
  · exact op_cmpIn B o hr h
  · exact op_cmp B o hr ⟨fun z => h (.inl z), fun z => h (.inr z)⟩

/-! ### subscripts -/
def rSub (K : PySem.W.Frag) (B : Cls0) : R2 := fun x y H Q => ∃ G dx dk d, RepC K B G H x dx ∧ RepC K B G H y dk ∧ subD dx dk = some d ∧ ∀ v G' H', Mk1 K B G H (.val d) v G' H' → Q v H'
theorem ix_sub (B : Cls0) : IxR X (rSub X.K B) := by
  intro value slice pins s σ H x y v u Q I rx ry h hs
  obtain ⟨G, dx, dk, d, hx, hk, e, q⟩ := h
  cases dk with
  | int k =>
    cases hk.int
    cases dx with
    | lst l =>
      have e1 : atI l k = some d := e
      obtain ⟨a, vs, rfl, ha, r⟩ := hx.lst
      obtain ⟨j, w, h1, h2, h3⟩ := atI_get2 r.length e1
      obtain ⟨w', h4, h5⟩ := r.get h1
      rw [h2] at h4
      have e4 := Option.some.inj h4
      subst e4
      exact ix_list value slice pins s σ H _ _ v u Q I rx ry ⟨a, vs, k, w, rfl, rfl, .inl (.inl ha), h3, q _ _ _ (Mk1.val h5)⟩ hs
    | tup l =>
      have e1 : atI l k = some d := e
      obtain ⟨a, vs, rfl, ha, r⟩ := hx.tup
      obtain ⟨j, w, h1, h2, h3⟩ := atI_get2 r.length e1
      obtain ⟨w', h4, h5⟩ := r.get h1
      rw [h2] at h4
      have e4 := Option.some.inj h4
      subst e4
      exact ix_tup value slice pins s σ H _ _ v u Q I rx ry ⟨a, vs, k, w, rfl, rfl, Fz.sub.seqT ha, h3, q _ _ _ (Mk1.val h5)⟩ hs
    | str z =>
      have e1 : (if z.length ≤ LL then (atI z.cps.toList k).map fun c => D.str ⟨#[c]⟩ else none) = some d := e
      split at e1
      · rename_i hz
        cases hx.str
        cases ec : atI z.cps.toList k with
        | none => rw [ec] at e1; cases e1
        | some c =>
          rw [ec] at e1
          have e2 := Option.some.inj e1
          subst e2
          exact ix_str value slice pins s σ H _ _ v u Q I rx ry ⟨z, k, c, rfl, rfl, LL_line hz, ec, q _ _ _ (Mk1.val (.str _))⟩ hs
      · cases e1
    | scr l =>
      have e1 : (atI l k).map D.int = some d := e
      obtain ⟨a, rfl, ha⟩ := hx.scr
      cases ec : atI l k with
      | none => rw [ec] at e1; cases e1
      | some c =>
        rw [ec] at e1
        have e2 := Option.some.inj e1
        subst e2
        obtain ⟨j, w, h1, h2, h3⟩ := atI_get2 (xs := l.map V.int) (by rw [List.length_map]) ec
        rw [List.getElem?_map, h1] at h2
        have e3 := Option.some.inj h2
        subst e3
        exact ix_list value slice pins s σ H _ _ v u Q I rx ry ⟨a, l.map V.int, k, _, rfl, rfl, ha, h3, q _ _ _ (Mk1.val (.int _))⟩ hs
    | _ => cases e
  | _ => cases e

/-! ### slices -/
def rSlc (K : PySem.W.Frag) (B : Cls0) : V → Option Int → Option Int → Hp → VK → Prop := fun x lo hi H Q => ∃ G dx t, RepC K B G H x dx ∧ slcD dx lo hi = some t ∧ ∀ v G' H', Mk1 K B G H t v G' H' → Q v H'
theorem sl_slc (B : Cls0) : SlR X (rSlc X.K B) := by
  intro pins s σ H x v vl vu lo hi sl Q I rx hs pl pu h
  obtain ⟨G, dx, t, hx, e, q⟩ := h
  cases dx with
  | lst l =>
    have e2 := Option.some.inj e
    subst e2
    obtain ⟨a, vs, rfl, ha, r⟩ := hx.lst
    exact sl_list pins s σ H _ v vl vu lo hi sl Q I rx hs pl pu ⟨a, vs, rfl, .inl (.inl ha), fun p hp => q _ _ _ (Mk1.newL hp (cut_reps r lo hi))⟩
  | tup l =>
    have e2 := Option.some.inj e
    subst e2
    obtain ⟨a, vs, rfl, ha, r⟩ := hx.tpm
    refine sl_tupF pins s σ H _ v vl vu lo hi sl Q I rx hs pl pu ⟨a, vs, rfl, Fz.sub.seqT ha.sq, fun hw => ?_, fun p o hp hc hd => q _ _ _ (Mk1.newT hp hc hd (cut_reps r lo hi))⟩
    have rc := cut_reps r lo hi
    rw [hw] at rc
    exact q _ _ _ (Mk1.val (.tup ha rc))
  | str z =>
    have e1 : (if z.length ≤ LL then some (T.val (.str (L2.cutS z lo hi))) else none) = some t := e
    split at e1
    case isFalse => cases e1
    rename_i hz
    cases e1
    cases hx.str
    exact sl_str pins s σ H _ v vl vu lo hi sl Q I rx hs pl pu ⟨z, rfl, LL_line hz, q _ _ _ (Mk1.val (.str _))⟩
  | _ => cases e

/-! ### built-ins -/
def rBlt (K : PySem.W.Frag) (B : Cls0) (b : Blt) : List V → Hp → VK → Prop := fun vs H Q => ∃ G ds t, RepCs K B G H vs ds ∧ bltD b ds = some t ∧ ∀ v G' H', Mk1 K B G H t v G' H' → Q v H'
def bltV : Blt → Value
  | .len => .builtin "len" | .abs => .builtin "abs" | .int => .type "int" | .max => .builtin "max" | .min => .builtin "min" | .sum => .builtin "sum" | .all => .builtin "all" | .any => .builtin "any"
  | .tuple => .type "tuple" | .list => .type "list" | _ => .builtin "isinstance"
def isIs : Blt → Bool
  | .isint | .isbool | .istuple | .isstr => true
  | _ => false
theorem RepCs.one {K : PySem.W.Frag} {B : Cls0} {G : Gh} {H : Hp} {vs : List V} {d : D} (r : RepCs K B G H vs [d]) : ∃ v, vs = [v] ∧ RepC K B G H v d := by
  cases r with
  | cons a b =>
    cases b
    exact ⟨_, rfl, a⟩
theorem RepCs.two {K : PySem.W.Frag} {B : Cls0} {G : Gh} {H : Hp} {vs : List V} {d d' : D} (r : RepCs K B G H vs [d, d']) : ∃ v v', vs = [v, v'] ∧ RepC K B G H v d ∧ RepC K B G H v' d' := by
  cases r with
  | cons a b =>
    cases b with
    | cons a' c =>
      cases c
      exact ⟨_, _, rfl, a, a'⟩
theorem call_blt (B : Cls0) (b : Blt) (hb : isIs b = false) (hc : X.calm = true) : CallR X (bltV b) (rBlt X.K B b) := by
  intro pins s σ H vs us Q I r h
  obtain ⟨G, ds, t, hv, e, q⟩ := h
  unfold bltD at e
  split at e
  · obtain ⟨v, rfl, h1⟩ := hv.one
    have e2 := Option.some.inj e
    subst e2
    obtain ⟨a, xs, rfl, ha, ra⟩ := h1.lst
    refine call_len_seq pins s σ H _ us Q I r ⟨a, xs, rfl, .inl (.inl (.inl ha)), ?_⟩
    rw [ra.length]
    exact q _ _ _ (Mk1.val (.int _))
  · obtain ⟨v, rfl, h1⟩ := hv.one
    have e2 := Option.some.inj e
    subst e2
    obtain ⟨a, xs, rfl, ha, ra⟩ := h1.tup
    refine call_len_seq pins s σ H _ us Q I r ⟨a, xs, rfl, .inr (Fz.sub.seqT ha), ?_⟩
    rw [ra.length]
    exact q _ _ _ (Mk1.val (.int _))
  · obtain ⟨v, rfl, h1⟩ := hv.one
    have e2 := Option.some.inj e
    subst e2
    obtain ⟨a, rfl, ha⟩ := h1.scr
    refine call_len_seq pins s σ H _ us Q I r ⟨a, _, rfl, .inl ha, ?_⟩
    rw [List.length_map]
    exact q _ _ _ (Mk1.val (.int _))
  · split at e
    · rename_i hz
      obtain ⟨v, rfl, h1⟩ := hv.one
      have e2 := Option.some.inj e
      subst e2
      cases h1.str
      exact call_len_str pins s σ H _ us Q I r ⟨_, rfl, LL_line hz, q _ _ _ (Mk1.val (.int _))⟩
    · cases e
  · obtain ⟨v, rfl, h1⟩ := hv.one
    have e2 := Option.some.inj e
    subst e2
    cases h1.int
    exact call_abs pins s σ H _ us Q I r ⟨_, rfl, q _ _ _ (Mk1.val (.int _))⟩
  · obtain ⟨v, rfl, h1⟩ := hv.one
    have e2 := Option.some.inj e
    subst e2
    cases h1.int
    exact call_int1 pins s σ H _ us Q I r (.inl ⟨_, rfl, q _ _ _ (Mk1.val (.int _))⟩)
  · obtain ⟨v, rfl, h1⟩ := hv.one
    have e2 := Option.some.inj e
    subst e2
    cases h1.bl
    exact call_int1 pins s σ H _ us Q I r (.inr ⟨_, rfl, q _ _ _ (Mk1.val (.int _))⟩)
  · obtain ⟨v, v', rfl, h1, h2⟩ := hv.two
    have e2 := Option.some.inj e
    subst e2
    cases h1.int
    cases h2.int
    exact call_max2 hc pins s σ H _ us Q I r ⟨_, _, rfl, q _ _ _ (Mk1.val (.int _))⟩
  · obtain ⟨v, v', rfl, h1, h2⟩ := hv.two
    have e2 := Option.some.inj e
    subst e2
    cases h1.int
    cases h2.int
    exact call_min2 hc pins s σ H _ us Q I r ⟨_, _, rfl, q _ _ _ (Mk1.val (.int _))⟩
  · rename_i l
    obtain ⟨v, rfl, h1⟩ := hv.one
    cases z : intsD l with
    | none => rw [z] at e; cases e
    | some ns =>
      rw [z] at e
      have e2 := Option.some.inj e
      subst e2
      obtain ⟨a, xs, rfl, ha, ra⟩ := h1.lst
      have ex := intsD_vals z ra
      subst ex
      exact cr_sum hc pins s σ H _ us Q I r ⟨a, ns, rfl, .inl (.inl ha), q _ _ _ (Mk1.val (.int _))⟩
  · rename_i l
    obtain ⟨v, rfl, h1⟩ := hv.one
    cases z : blsD l with
    | none => rw [z] at e; cases e
    | some ns =>
      rw [z] at e
      have e2 := Option.some.inj e
      subst e2
      obtain ⟨a, xs, rfl, ha, ra⟩ := h1.lst
      have ex := blsD_vals z ra
      subst ex
      exact cr_all hc pins s σ H _ us Q I r ⟨a, ns, rfl, .inl (.inl ha), q _ _ _ (Mk1.val (.bl _))⟩
  · rename_i l
    obtain ⟨v, rfl, h1⟩ := hv.one
    cases z : blsD l with
    | none => rw [z] at e; cases e
    | some ns =>
      rw [z] at e
      have e2 := Option.some.inj e
      subst e2
      obtain ⟨a, xs, rfl, ha, ra⟩ := h1.lst
      have ex := blsD_vals z ra
      subst ex
      exact cr_any hc pins s σ H _ us Q I r ⟨a, ns, rfl, .inl (.inl ha), q _ _ _ (Mk1.val (.bl _))⟩
  · obtain ⟨v, rfl, h1⟩ := hv.one
    have e2 := Option.some.inj e
    subst e2
    obtain ⟨a, xs, rfl, ha, ra⟩ := h1.lst
    exact call_tupF pins s σ H _ us Q I r ⟨a, xs, rfl, .inl ⟨.inl (.inl ha), fun p o hp hc hd => q _ _ _ (Mk1.newT hp hc hd ra)⟩⟩
  · obtain ⟨v, rfl, h1⟩ := hv.one
    have e2 := Option.some.inj e
    subst e2
    obtain ⟨a, xs, rfl, ha, ra⟩ := h1.tpm
    exact call_tupF pins s σ H _ us Q I r ⟨a, xs, rfl, .inr ⟨Fz.sub.seqT ha.sq, q _ _ _ (Mk1.val (.tup ha ra))⟩⟩
  · obtain ⟨v, rfl, h1⟩ := hv.one
    have e2 := Option.some.inj e
    subst e2
    obtain ⟨a, xs, rfl, ha, ra⟩ := h1.lst
    exact call_list_of pins s σ H _ us Q I r ⟨a, xs, rfl, .inl (.inl (.inl ha)), fun p hp => q _ _ _ (Mk1.newL hp ra)⟩
  · obtain ⟨v, rfl, h1⟩ := hv.one
    have e2 := Option.some.inj e
    subst e2
    obtain ⟨a, xs, rfl, ha, ra⟩ := h1.tup
    exact call_list_of pins s σ H _ us Q I r ⟨a, xs, rfl, .inr (Fz.sub.seqT ha), fun p hp => q _ _ _ (Mk1.newL hp ra)⟩
  · cases hb
  · cases hb
  · cases hb
  · cases hb
  · cases e
/-- isinstance by a built-in type -/
def isTy : Blt → String
  | .isint => "int" | .isbool => "bool" | .istuple => "tuple" | _ => "str"
theorem kit_tab {b : Blt} (hb : isIs b = true) {d : D} {t : T} (e : bltD b [d] = some t) : ∃ n k, tyD d = some n ∧ t = .val (.bl k) ∧ kitB (tyN n) (isTy b) = some k := by
  cases d <;> cases b <;> first
    | (cases hb; done)
    | (cases e; done)
    | (have e2 := Option.some.inj e; subst e2; exact ⟨_, _, rfl, rfl, by decide +kernel⟩)
theorem call_is (B : Cls0) (b : Blt) (hb : isIs b = true) {pins : List (Addr × Obj)} {s : Shared} {σ : L2.St} {H : Hp} {x : V} {us : List Value} {Q : VK} (I : L2.Inv X pins σ H s) (r : Vals [x, .ty (isTy b)] us) {G : Gh} {d : D} {t : T} (hx : RepC X.K B G H x d) (e : bltD b [d] = some t) (q : ∀ v G' H', Mk1 X.K B G H t v G' H' → Q v H') :
    wpAny (model X.prog X.w) X.A (PySem.call (.builtin "isinstance") us) (EP X pins σ Q) X.xe s := by
  obtain ⟨n, k, h1, rfl, h2⟩ := kit_tab hb e
  exact call_isi pins s σ H _ us Q I r ⟨x, _, _, _, k, rfl, .ty _, hx.ty h1, kit_ty h2, q _ _ _ (Mk1.val (.bl _))⟩
end
end Ev
end

section
set_option linter.all false
set_option maxRecDepth 100000
set_option maxHeartbeats 4000000
/-! repr of data. -/
namespace Ev
open PySem L2 PySem.Spec PyProof.Rows
mutual
theorem toQ_showable : ∀ {d : D}, showD d = true → (toQ d).showable = true
  | .non, _ => rfl
  | .bl _, _ => rfl
  | .str _, _ => rfl
  | .int _, h => h
  | .tup l, h => by
    show PyData.showableAll (toQs l) = true
    exact toQs_showable h
  | .lst l, h => by
    show PyData.showableAll (toQs l) = true
    exact toQs_showable h
  | .dic _ _, _ => rfl
  | .ins _ _, h => nomatch h
  | .exc _ _, h => nomatch h
  | .scr _, h => nomatch h
theorem toQs_showable : ∀ {l : List D}, showDs l = true → PyData.showableAll (toQs l) = true
  | [], _ => rfl
  | d :: r, h => by
    obtain ⟨h1, h2⟩ := Bool.and_eq_true_iff.mp (show (showD d && showDs r) = true from h)
    show (PyData.showable (toQ d) && PyData.showableAll (toQs r)) = true
    rw [toQ_showable h1, toQs_showable h2] <;> rfl
end
section
variable {X : Cx} {B : Cls0} {pins : List (Addr × Obj)} {σ : L2.St} {H : Hp} {s : Shared}
/-- the module table is a dict of the written part -/
def SysD (K : PySem.W.Frag) : Prop := ∃ o, K.lookup sysModules = some o ∧ o.cls = .type "dict"
mutual
theorem rep_reads (I : L2.Inv X pins σ H s) (hs : SysD X.K) : ∀ {v : V} {d : D} {u : Value}, Rep X.K B H v d → showD d = true → L2.RelV v u → ∃ as, Reads s.heap u (toQ d) as ∧ sysModules ∉ as
  | _, _, _, .non, _, r => by
    cases r
    exact ⟨[], .none, by simp⟩
  | _, _, _, .bl b, _, r => by
    cases r
    exact ⟨[], .bool b, by simp⟩
  | _, _, _, .int i, _, r => by
    obtain ⟨t, rfl⟩ := r
    exact ⟨[], .int i t, by simp⟩
  | _, _, _, .str x, _, r => by
    obtain ⟨t, rfl⟩ := r
    exact ⟨[], .str x t, by simp⟩
  | _, _, _, .tup a rs, h, r => by
    cases r
    obtain ⟨its, rv, pl, _⟩ := I.tuple a.sq
    obtain ⟨as, h1, h2⟩ := reps_reads I hs rs h rv
    obtain ⟨o, g1, g2, n, g3⟩ := pl
    exact ⟨as, .tuple g1 g2 g3 (by simpa using h1), h2⟩
  | _, _, _, .lst a rs, h, r => by
    cases r
    obtain ⟨its, rv, pl, _⟩ := I.list (.inl (.inl a))
    obtain ⟨as, h1, h2⟩ := reps_reads I hs rs h rv
    obtain ⟨o, g1, g2, n, g3⟩ := pl.isList
    refine ⟨_, .list g1 g2 g3 (by simpa using h1), fun z => ?_⟩
    rcases List.mem_cons.mp z with z | z
    · obtain ⟨o', k1, k2⟩ := hs
      rw [z] at k1
      cases (I.kIn _ _ k1).symm.trans g1
      have e := k2.symm.trans g2
      injection e with e
      exact absurd e (by decide)
    · exact h2 z
  | _, _, _, .scr _, h, _ => nomatch h
  | _, _, _, .dic (ks := ks) (ds := ds) a l rs, h, r => by
    cases r
    cases ks with
    | cons _ _ => cases ds <;> cases h
    | nil =>
      obtain ⟨_, ne, vs, kv, o, es, ep, g1, g2, g3, _, gp, _⟩ := (show ObjOk X.prog X.w H s.heap _ (.dK []) from I.hok _ _ a)
      cases kv
      have e0 : es.toList = [] := by
        cases q : es.toList with
        | nil => rfl
        | cons x y => rw [q] at gp; cases gp
      refine ⟨_, .dict g1 g2.1 g3 (by rw [e0]; exact .nil) (by rw [e0]; exact .nil), ?_⟩
      simpa using fun z : sysModules = _ => by
        rw [z] at ne
        simp at ne
  | _, _, _, .ins _ _ _, h, _ => nomatch h
  | _, _, _, .exc _ _ _, h, _ => nomatch h
theorem reps_reads (I : L2.Inv X pins σ H s) (hs : SysD X.K) : ∀ {vs : List V} {ds : List D} {us : List Value}, Reps X.K B H vs ds → showDs ds = true → Vals vs us → ∃ as, ReadsAll s.heap us (toQs ds) as ∧ sysModules ∉ as
  | _, _, _, .nil, _, r => by
    cases r
    exact ⟨[], .nil, by simp⟩
  | _, _, _, .cons a rs, h, r => by
    obtain ⟨h1, h2⟩ := Bool.and_eq_true_iff.mp (show (showD _ && showDs _) = true from h)
    cases r with
    | cons ra rr =>
      obtain ⟨as, e1, e2⟩ := rep_reads I hs a h1 ra
      obtain ⟨bs, f1, f2⟩ := reps_reads I hs rs h2 rr
      exact ⟨as ++ bs, .cons e1 f1, fun z => (List.mem_append.mp z).elim e2 f2⟩
end
/-- repr(x) -/
def rRepr (K : PySem.W.Frag) (B : Cls0) : List V → Hp → VK → Prop := fun xs H Q => ∃ x d, xs = [x] ∧ Rep K B H x d ∧ (showD d = true ∧ (toQ d).depth ≤ 64) ∧ (toQ d).shown.length ≤ sizeLine ∧ Q (.str (toQ d).shown) H
theorem call_reprD {n : Nat} (hg : X.A.guards = some []) (hr : Room n X.A) (hs : SysD X.K) : CallR X (.builtin "repr") (rRepr X.K B) := by
  intro pins s σ H xs us Q I r ⟨x, d, e, R, ⟨sh, dp⟩, sz, q⟩
  subst e
  obtain ⟨u, eu, ru⟩ := Vals.one r
  subst eu
  have un := hr.un
  have fin : ∀ h' t t', (∀ b o, s.heap.get? b = some o → h'.get? b = some o) → EP X pins σ Q (.str (toQ d).shown t) { s with heap := h', toks := t' } := fun h' t t' k => ⟨.str _, H, I.kept (t' := t') k, ⟨t, rfl⟩, q⟩
  have many : ∀ a, u = .ref a → wpAny (model X.prog X.w) X.A (PySem.call (.builtin "repr") [u]) (EP X pins σ Q) X.xe s := fun a ea => by
    obtain ⟨as, rd, nm⟩ := rep_reads I hs R sh ru
    subst ea
    exact repr_of_reads' rd (toQ_showable sh) (fun _ => nm) hg (by omega) (fun _ _ z => z) (fun h' u' tk k => fin h' u' tk k) sz
  cases R with
  | non => cases ru; exact P.repr_of_none (fin s.heap _ _ fun _ _ z => z)
  | bl b => cases ru; exact P.repr_of_bool (by have := fin s.heap s.toks (s.toks + 1) fun _ _ z => z; cases b <;> exact this)
  | int i => obtain ⟨t, rfl⟩ := ru; exact P.repr_of_int (of_decide_eq_true sh) (fin s.heap _ _ fun _ _ z => z)
  | str z => obtain ⟨t, rfl⟩ := ru; exact P.repr_of_str (fin s.heap _ _ fun _ _ z => z) sz
  | tup a b => cases ru; exact many _ rfl
  | lst a b => cases ru; exact many _ rfl
  | dic a b c => cases ru; exact many _ rfl
  | scr a => cases sh
  | ins a b c => cases sh
  | exc a b c => cases sh
end
end Ev
end

section
set_option linter.all false
set_option maxRecDepth 100000
set_option maxHeartbeats 4000000
/-! Errors as values: made, their field, isinstance. -/
namespace Ev
open PySem L2 PySem.Spec PyProof.Rows
/-- what the written part tells of the error class at C; D: the class whose __init__ it has, at f -/
structure XC (K : PySem.W.Frag) (D f C : Addr) : Prop where
  ask : AskC K D C
  fld : XfC K C
  is_ : ExcC K C
  ini : PySem.W.findIn K (.ref C) "__init__" = some (some (.ref f))
  typ : PySem.W.typeIn K (.ref f) = some (.type "function")
theorem upd_again {H : Hp} {a d : Addr} {o o' z : HO} (h : d ≠ a) : upd (upd (upd H a o) d z) a o' = upd (upd H d z) a o' := by
  funext b
  by_cases h1 : b = a
  · subst h1
    rw [upd_same, upd_same]
  · rw [upd_ne h1, upd_ne h1]
    by_cases h2 : b = d
    · subst h2
      rw [upd_same, upd_same]
    · rw [upd_ne h2, upd_ne h2, upd_ne h1]
theorem upd_twice {H : Hp} {a : Addr} {o o' : HO} : upd (upd H a o) a o' = upd H a o' := by
  funext b
  by_cases h1 : b = a
  · subst h1
    rw [upd_same, upd_same]
  · rw [upd_ne h1, upd_ne h1, upd_ne h1]
section
variable {X : Cx} {D f C : Addr} {fd : FuncData} {x : Str} {p pos : Pos} {e : Expr} {te : TE}
/-- of one value -/
def q1 (R : V → Hp → Prop) (vs : List V) (H : Hp) : Prop := match vs with
  | [y] => R y H
  | _ => False
/-- a new error -/
def tExn (C : Addr) (te : TE) : TE := fun σ H Q => te σ H fun y H1 => ∀ a d, H1 a = none → H1 d = none → d ≠ a → Q (.ref a) (upd (upd H1 d (exd d [("value", y)])) a (exv a C d))
theorem pe_exn {CX : CXT} (T : XC X.K D f C) (Fi : FnOk X.prog X.w X.K X.mg X.base CX 1 f fd ["self", "value"] (spAsk X.K D)) (hr : Room 2 X.A) (hb : Binds X.K fd ["self", "value"] []) (hx : Passes CX X (fun _ _ _ => False)) (hg : Gl X x) (hm : X.mg x = some (.ref C)) (he : PE X e te)
    (hst : starEach [e] X.env = (false, eval e X.env) :: starEach [] X.env) (hdb : (x == ("__debug__" : Str)) = false) : PE X (.Call (.Name x p) [e] [] pos) (tExn C te) := by
  constructor
  intro pins s σ H Q I h
  obtain ⟨nm, qn, N, bs, bm, sn, sub, ab, col, dd, k0, k1, k2, k3, k5, hC, hbm⟩ := T.ask.ox.cls
  apply wpAny_Call_Name_kw
  apply ld_glob I hg hm (hd := hdb)
  have hA := (pa_cons he pa_nil hst).run pos pins s σ H (q1 fun y H1 => ∀ a d, H1 a = none → H1 d = none → d ≠ a → Q (.ref a) (upd (upd H1 d (exd d [("value", y)])) a (exv a C d))) I h
  refine PySem.W.callWith_K I.ok.mod.kin T.ask.ox.kC (thn hA fun us s1 w => ?_) hst (by rfl)
  obtain ⟨vs, H1, I1, rv, q⟩ := w
  obtain ⟨y, rfl⟩ : ∃ y, vs = [y] := by
    match vs, q with
    | [y], _ => exact ⟨y, rfl⟩
  have q : ∀ a d, H1 a = none → H1 d = none → d ≠ a → Q (.ref a) (upd (upd H1 d (exd d [("value", y)])) a (exv a C d)) := q
  obtain ⟨u, eu, ry⟩ := Vals.one rv
  subst eu
  refine ⟨I1.kIn, ?_⟩
  show wpAny _ _ (PySem.call (.ref C) [u]) _ _ _
  obtain ⟨hp, g, dr, tk, os⟩ := s1
  have le : hp.objs.size ≤ hp.objs.size + 1 := Nat.le_succ _
  generalize ea : hp.objs.size + 1 = a at le
  have na : H1 a = none := I1.hok.fresh le
  have hk : ∀ b o, hp.get? b = some o → ((hp.push (PySem.W.kdv_tup [u])).push (PySem.HandSPX.excO C hp.objs.size)).get? b = some o := fun b o z => Heap.get?_push_of_some _ (Heap.get?_push_of_some _ z)
  have ga : ((hp.push (PySem.W.kdv_tup [u])).push (PySem.HandSPX.excO C hp.objs.size)).get? a = some (PySem.HandSPX.excO C hp.objs.size) := by
    rw [← ea]
    heap_get
  have I2 : L2.Inv X pins σ (upd H1 a (exo a C none)) ⟨(hp.push (PySem.W.kdv_tup [u])).push (PySem.HandSPX.excO C hp.objs.size), g, dr, tk, os⟩ := I1.laid (t' := tk) hk le (exo_ok ga)
  have rr : Vals [V.ref a, y] [Value.ref a, u] := .cons rfl (.cons ry .nil)
  refine wpAny_call (PySem.HandSPX.call_own F.excBase_ValueError (fun Y => PySem.HandSPX.refsVE_contains Y bm hbm) (I1.kIn _ _ hC) (PySem.W.looks_findIn I1.kIn T.ini) (fun self => PySem.W.bind_fn I1.kIn self T.typ) (by show 1 ≤ sizeLine; rw [sizeLine_eq]; omega) ?_)
  rw [ea]
  have bt := hb _ [Value.ref a, u] I2.kIn rfl
  refine codeAny_mono (Fi.run _ X.stack _ _ ⟨[Value.ref a, u], []⟩ [Value.ref a, u] [V.ref a, y] (fun v H2 => v = .non ∧ ∃ d, H1 d = none ∧ d ≠ a ∧ H2 = upd (upd H1 d (exd d [("value", y)])) a (exo a C (some d))) (fun _ _ _ => False) (hr.make C [u] []) (I2.env0.make C [u] []) bt rr
    ⟨a, C, y, rfl, T.ask, upd_same, fun d nd ne => ⟨rfl, d, by rw [← nd, upd_ne ne], ne, upd_again ne⟩⟩) fun r s' hq => ?_
  match r, hq with
  | .error er, hq => exact hx pins σ _ _ er s' I2 hq
  | .ok .next, hq => exact False.elim hq
  | .ok .brk, hq => exact False.elim hq
  | .ok .cont, hq => exact False.elim hq
  | .ok (.ret z), hq =>
    obtain ⟨v, H2, J, rz, ev, d, nd, ne, eH⟩ := I2.after hq
    subst ev eH
    obtain ⟨t2, ho⟩ := exo_at J.hok upd_same
    have J2 := J.write (t' := s'.toks) (x := a) (e := a) (o := exv a C d) (by rw [upd_same]; exact True.intro) (.inl rfl) (fun _ _ _ z => z) ⟨_, ho⟩ (exv_ok ho rfl rfl rfl)
    rw [upd_twice] at J2
    exact ⟨rz, .ref a, _, J2, rfl, q a d na nd ne⟩
end
/-- isinstance of an error, or of other data -/
structure IsF (K : PySem.W.Frag) (B : Cls0) (n : Nat) (cs : List Nat) (cv : Value) : Prop where
  er : ∀ c, c < n → ExcC K (B.X c) ∧ PySem.W.kitOne K (.ref (B.X c)) cv = some (cs.contains c)
  ty : ∀ k, k ≤ 5 → PySem.W.kitOne K (.type (tyN k)) cv = some false
/-- what errors ask of the program -/
structure ErrF (P : Program) (w : World) (K : PySem.W.Frag) (mg : Str → Option Value) (base : Heap) (B : Cls0) : Prop where
  ex : ∃ (D f : Addr) (fd : FuncData), (∀ c, XC K D f (B.X c)) ∧ FnOk P w K mg base (L2.CX P w) 1 f fd ["self", "value"] (spAsk K D) ∧ Binds K fd ["self", "value"] []
  sys : SysD K
/-- the class of that name, as isinstance asks it -/
structure IsN (K : PySem.W.Frag) (mg : Str → Option Value) (B : Cls0) (x : Str) (n : Nat) (cs : List Nat) : Prop where
  ex : ∃ c cv, ClsV c cv ∧ IsF K B n cs cv ∧ L2.RelV c cv ∧ (mg x = some cv ∨ (mg x = none ∧ bootBuiltins x = some cv))
end Ev
end

section
set_option linter.all false
set_option maxRecDepth 100000
/-! What is walked: a list (false) or a tuple (true). -/
namespace Ev
open PySem L2 PySem.Spec PyProof.Rows
def SqB (K : PySem.W.Frag) (H : Hp) (a : Addr) (b : Bool) (xs : List V) : Prop := match b with
  | false => SqL K H a xs
  | true => SqT K H a xs
theorem Sub.seqB {K : PySem.W.Frag} {F F' : Hp} {a : Addr} {b : Bool} {xs : List V} (h : Sub F F') (q : SqB K F a b xs) : SqB K F' a b xs := match b, q with
  | false, q => h.seqL q
  | true, q => h.seqT q
/-- an iterator of a list (false), of a tuple (true) -/
def SrcIt : Bool → Heap → Addr → Addr → Nat → Prop
  | false, h, it, a, i => h.IsListIter it a i
  | true, h, it, a, i => h.IsTupleIter it a i
def SrcAt : Bool → Heap → Addr → Array Value → Prop
  | false, h, a, its => h.IsList a its
  | true, h, a, its => h.IsTuple a its
theorem SrcIt.at' {b : Bool} {h h' : Heap} {it a : Addr} {i : Nat} (q : SrcIt b h it a i) (k : ∀ o, h.get? it = some o → h'.get? it = some o) : SrcIt b h' it a i := match b, q with
  | false, q => Heap.IsListIter.at q k
  | true, q => Heap.IsTupleIter.at q k
theorem SrcIt.cell {b : Bool} {h : Heap} {it a : Addr} {i : Nat} (q : SrcIt b h it a i) : ∃ o, h.get? it = some o ∧ ∀ v, o.data ≠ .cell v := match b, q with
  | false, ⟨o, q1, q2, q3⟩ => ⟨o, q1, fun v z => by rw [q3] at z; cases z⟩
  | true, ⟨o, q1, q2, q3⟩ => ⟨o, q1, fun v z => by rw [q3] at z; cases z⟩
theorem draw_b {prog : Program} {w : World} {A : Around} (hh : A.handled = none) (b : Bool) (it a : Addr) (hne : a ≠ it) (its : Array Value) :
    Draws prog w A it [it, a] its.size (fun i v => its[i]? = some v) (fun i h => SrcIt b h it a i ∧ SrcAt b h a its) := match b with
  | false => Draws.list hh it a hne its
  | true => Draws.tuple hh it a hne its
def srcObj : Bool → Addr → Obj
  | false, a => { cls := .type "list_iterator", data := .fields #[.ref a, .int 0 0] }
  | true, a => { cls := .type "tuple_iterator", data := .fields #[.ref a, .int 0 0] }
theorem begins_b (b : Bool) (a : Addr) (its : Array Value) : Begins (.ref a) (srcObj b a) fun h => SrcAt b h a its := match b with
  | false => begins_list a its
  | true => begins_tuple a its
theorem srcIt_new (b : Bool) {h : Heap} {it a : Addr} (q : h.get? it = some (srcObj b a)) : SrcIt b h it a 0 := match b, q with
  | false, q => ⟨_, q, rfl, rfl⟩
  | true, q => ⟨_, q, rfl, rfl⟩
section
variable {X : Cx} {pins : List (Addr × Obj)} {σ : L2.St} {H : Hp} {s : Shared} {a : Addr} {b : Bool} {xs ys : List V}
theorem inv_src (I : Inv X pins σ H s) (q : SqB X.K H a b xs) : ∃ its : List Value, Vals xs its ∧ SrcAt b s.heap a its.toArray ∧ a < s.heap.objs.size := match b, q with
  | false, q => by
    obtain ⟨its, r, p, _⟩ := I.list q
    exact ⟨its, r, p.isList, p.lt⟩
  | true, q => by
    obtain ⟨its, r, p, _⟩ := I.tuple q
    obtain ⟨o, o1, _⟩ := id p
    exact ⟨its, r, p, Heap.lt_size o1⟩
theorem inv_src_inj (I : Inv X pins σ H s) (q : SqB X.K H a b xs) (q' : SqB X.K H a b ys) : xs = ys := match b, q, q' with
  | false, q, q' => I.list_inj q q'
  | true, q, q' => I.tuple_inj q q'
end
/-- a new pair of the i-th of f and the i-th of g -/
def YPairF (f g : Nat → Option V) : Nat → Hp → V → Hp → Prop := fun i H v H' => ∃ T o x y, v = .ref T ∧ H T = none ∧ (o.cls = Value.type "tuple" ∧ o.dict = none) ∧ H' = upd H T (.frz o (.tup [x, y])) ∧ f i = some x ∧ g i = some y
/-- a pair is laid -/
theorem pair_ok {P : Program} {w : World} {H : Hp} {h : Heap} {T : Addr} {x y : V} {u v : Value} (rx : RelV x u) (ry : RelV y v) (g : h.get? T = some (tpO #[u, v])) : ObjOk P w (upd H T (.frz (tpO #[u, v]) (.tup [x, y]))) h T (.frz (tpO #[u, v]) (.tup [x, y])) :=
  ⟨g, by show 2 ≤ sizeLine; decide, [u, v], .cons rx (.cons ry .nil), ⟨_, g, rfl, _, rfl⟩⟩
end Ev
end

section
set_option linter.all false
set_option maxRecDepth 100000
set_option maxHeartbeats 4000000
/-! enumerate over a tuple. -/
namespace Ev
open PySem L2 PySem.Spec PyProof.Rows
section
variable {prog : Program} {w : World} {A : Around} {E : Value → Shared → Prop} {s : Shared}
/-- the cell of a new enumerate -/
abbrev enObj (a : Addr) : Obj := { cls := Value.type "enumerate", data := .fields #[.none, .bool false, .ref a, rawInt 0, .none, .none] }
theorem meets_en {v : Value} {o : Obj} {Hh : Heap → Prop} (B : Begins v o Hh) :
    Meets (Builtin.«enumerate.__new__» ⟨[.type "enumerate", v], []⟩) fun _ R s => Hh s.heap ∧ R (.ok (.ret (.ref (s.heap.push o).objs.size))) { s with heap := (s.heap.push o).push (enObj s.heap.objs.size) } :=
  .of_wp fun prog w A R s q => by
    obtain ⟨q1, q2⟩ := q
    have sub := sub_enumerate
    have go : ∀ {A' : Around} {E' : Value → Shared → Prop} {Q : Value → Shared → Prop}, Q (.ref s.heap.objs.size) { s with heap := s.heap.push o } → wpAny (model prog w) A' (pyIter v) Q E' s := fun q => B.iter prog w _ _ s _ q1 q
    obtain ⟨hp, g, d, tk, os⟩ := s
    wp_walk using go
    refine wpAny_stack_any fun st => wpAny_pure ?_
    split
    next c _ _ _ _ _ => cases (c == Value.type "enumerate") <;> (wp_walk using go; exact ⟨_, rfl, q2⟩)
    next => wp_walk using go; exact ⟨_, rfl, q2⟩
theorem call_en {v : Value} {o : Obj} {Hh : Heap → Prop} {Q : Value → Shared → Prop} (B : Begins v o Hh) (q : Hh s.heap)
    (h : ∀ h', IsEnum h' (s.heap.objs.size + 1) s.heap.objs.size 0 .none → h'.get? s.heap.objs.size = some o → (∀ b u, s.heap.get? b = some u → h'.get? b = some u) → Q (.ref (s.heap.objs.size + 1)) { s with heap := h' }) :
    wpAny (model prog w) A (PySem.call (.type "enumerate") [v]) Q E s := by
  have sz : (s.heap.push o).objs.size = s.heap.objs.size + 1 := Heap.size_push ..
  have g1 : (s.heap.push o).get? s.heap.objs.size = some o := Heap.get?_push_size _ B.free
  have g2 : ((s.heap.push o).push (enObj s.heap.objs.size)).get? (s.heap.objs.size + 1) = some (enObj s.heap.objs.size) := by
    rw [← sz]
    exact Heap.get?_push_size _ rfl
  refine callType_new F.called_enumerate (by decide) (F.typeCall_enumerate_1 _) (F.newCall_enumerate_1 _) (fun obj => F.args_object_init_2 obj _) F.entry_enumerate_new (meets_en B) ⟨q, ?_⟩
  rw [sz]
  exact ⟨⟨_, g2, rfl⟩, h _ g2 (Heap.get?_push_of_some _ g1) fun b u e => Heap.get?_push_of_some _ (Heap.get?_push_of_some _ e)⟩
end
/-- the list, the tuple at a, item by item, each in a new pair -/
def IteB (K : PySem.W.Frag) (b : Bool) (a : Addr) : It where
  go := fun i H => ∃ xs : List V, SqB K H a b xs ∧ i < xs.length
  yld := fun i H v H' => ∃ T o x, v = .ref T ∧ H T = none ∧ (o.cls = Value.type "tuple" ∧ o.dict = none) ∧ H' = upd H T (.frz o (.tup [.int (i : Nat), x])) ∧ ∀ xs, SqB K H a b xs → xs[i]? = some x
  stop := fun i H => ∃ xs : List V, SqB K H a b xs ∧ xs.length = i
/-- what is drawn -/
def EnSt (b : Bool) (a e it : Addr) (i : Nat) (h : Heap) : Prop := (∃ old, IsEnum h e it (i : Int) old) ∧ SrcIt b h it a i ∧ e ≠ it ∧ a ≠ it ∧ a ≠ e
theorem turn_enB {P : Program} {w : World} {K : PySem.W.Frag} {elts : List Expr} {kk : Nat} {tpos : Pos} (b : Bool) (a e it : Addr) : Turn P w K (.Tuple elts kk tpos) (IteB K b a) [e, it] e (EnSt b a e it) where
  mem := List.mem_cons_self
  obj := fun i h ⟨⟨old, q⟩, q1, _⟩ c hc => by
    rcases List.mem_cons.mp hc with rfl | hc
    · exact ⟨_, q, fun v z => nomatch z⟩
    · have hc := List.mem_singleton.mp hc
      subst hc
      exact q1.cell
  keep := fun i h h' ⟨⟨old, q⟩, q1, q2⟩ k => ⟨⟨old, k e List.mem_cons_self _ q⟩, q1.at' fun o z => k it (List.mem_cons_of_mem _ List.mem_cons_self) o z, q2⟩
  item := by
    intro X hP hw hK hc i pins s σ H E I hf ⟨⟨old, q⟩, q1, n1, n2, n3⟩ ⟨xs, hx, hi⟩
    subst hP hw hK
    obtain ⟨its, rv, p, _⟩ := inv_src I hx
    have hh : X.A.in1.handled = none := I.ok.hd hc
    have D := draw_b (prog := X.prog) (w := X.w) hh b it a n2 its.toArray
    have ne : e ∉ [it, a] := by simp [n1, Ne.symm n3]
    have W := WalksT.enumFrom 0 D e n1 ne (by simp)
    have hlen := rv.length
    have le : s.heap.objs.size ≠ e := Nat.ne_of_gt (Heap.lt_size q)
    have li : s.heap.objs.size ≠ it := by
      obtain ⟨o, z, _⟩ := q1.cell
      exact Nat.ne_of_gt (Heap.lt_size z)
    refine wpAny_pyNext_enum_itemC (c := (i : Int)) D q ⟨q1, p⟩ (by simp; omega) n1 ne fun x h' tk hx2 ho st' g sz kp => ⟨_, rfl, W.go elts kk tpos i s.heap.objs.size _ _ E ⟨⟨x, by rw [Int.zero_add]; exact ho⟩, st', le, li⟩ fun h2 st kp2 => ?_⟩
    obtain ⟨v, hv⟩ : ∃ v, xs[i]? = some v := ⟨_, List.getElem?_eq_getElem hi⟩
    obtain ⟨u, hu, ru⟩ := rv.get hv
    have eu : u = x := by
      have : its.toArray[i]? = some u := by simpa using hu
      rw [this] at hx2
      exact Option.some.inj hx2
    subst eu
    have hTn : s.heap.objs.size ∉ [e, it] := fun hm => by
      rcases List.mem_cons.mp hm with z | hm
      · exact le z
      · exact li (List.mem_singleton.mp hm)
    generalize hTT : s.heap.objs.size = T at hTn g
    have I1 : Inv X pins σ (upd H T (.frz (tpO #[.int (i : Nat) tk, u]) (.tup [.int (i : Nat), v]))) { s with heap := h2, toks := tk + 1 } :=
      I.turnedNew (ch := [e, it]) (fun c ob hc z => kp2 c ob hc (kp c ob (fun x => hc (by simp [x])) (fun x => hc (by simp [x])) z)) hf (Nat.le_of_eq hTT) (pair_ok ⟨_, rfl⟩ ru (kp2 T _ hTn g))
    obtain ⟨⟨old', st1⟩, st2, _⟩ := st
    refine ⟨.ref T, _, I1, rfl, ⟨T, _, v, rfl, I.hok.fresh (Nat.le_of_eq hTT), ⟨rfl, rfl⟩, rfl, fun ys hy => by rw [inv_src_inj I hy hx]; exact hv⟩, ⟨⟨old', by rw [Int.zero_add] at st1; exact st1⟩, st2, n1, n2, n3⟩, fun c hc => ?_⟩
    rw [upd_ne fun z => hTn (by rw [← z]; exact hc)]
    exact (hf c hc).1
  done := by
    intro X hP hw hK hc i pins s σ H E I hf ⟨⟨old, q⟩, q1, n1, n2, n3⟩ ⟨xs, hx, hi⟩
    subst hP hw hK hi
    obtain ⟨its, rv, p, _⟩ := inv_src I hx
    have hh : X.A.in1.handled = none := I.ok.hd hc
    have D := draw_b (prog := X.prog) (w := X.w) hh b it a n2 its.toArray
    have W := WalksT.enumFrom 0 D e n1 (by simp [n1, Ne.symm n3]) (by simp)
    have hlen : its.toArray.size = xs.length := by rw [List.size_toArray]; exact rv.length.symm
    exact W.done s _ E ⟨⟨old, by rw [Int.zero_add, hlen]; exact q⟩, by rw [hlen]; exact q1, p⟩ fun h' tk kp => ⟨rfl, I.turnedL (ch := [e, it]) kp hf⟩
  self := fun A i s Q E ⟨⟨old, q⟩, _⟩ h => wpAny_pyIter_enum q h
/-- enumerate of a list or a tuple -/
def iEnB (K : PySem.W.Frag) (ta : TA) : TI := fun σ H R => ta σ H fun vs H1 => ∃ b a xs, vs = [.ref a] ∧ SqB K H1 a b xs ∧ R (IteB K b a) H1
theorem pi_enB {X : Cx} {e : Expr} {ta : TA} {p pos tpos : Pos} {elts : List Expr} {kk : Nat} (hg : Gl X "enumerate") (hm : X.mg "enumerate" = none) (ha : PA X [e] ta) (hs : starEach [e] X.env = [(false, eval e X.env)]) : PI X (.Tuple elts kk tpos) (.Call (.Name "enumerate" p) [e] [] pos) (iEnB X.K ta) := by
  constructor
  intro pins s σ H R I h
  refine Call_ (ld_blt I hg hm boot_enumerate (PyProof.Rows.callWith_type1 (thn (ha.run pos pins s σ H _ I h) fun us s1 w => ?_) hs rfl))
  obtain ⟨vs, H1, I1, r1, b, a, xs, ex, hx, q⟩ := w
  subst ex
  have eu : us = [.ref a] := by
    match us, r1 with
    | [_], .cons r .nil => cases r; rfl
  subst eu
  have fp : ∀ c, c ∈ [s1.heap.objs.size + 1, s1.heap.objs.size] → FpOk X pins H1 c := fun c hc => by
    have le : s1.heap.objs.size ≤ c := by
      rcases List.mem_cons.mp hc with rfl | hc
      · exact Nat.le_succ _
      · rw [List.mem_singleton.mp hc]; exact Nat.le_refl _
    exact I1.fpOk le (I1.hok.fresh le)
  obtain ⟨its, _, p1, lt⟩ := inv_src I1 hx
  refine call_en (begins_b b a its.toArray) p1 fun h' q1 q2 kp => ?_
  refine wpAny_pyIter_enum (s := { s1 with heap := h' }) q1 ?_
  exact ⟨_, _, _, _, H1, rfl, I1.kept (t' := s1.toks) kp, turn_enB b a (s1.heap.objs.size + 1) s1.heap.objs.size, ⟨⟨_, q1⟩, srcIt_new b q2, Nat.succ_ne_self _, Nat.ne_of_lt lt, Nat.ne_of_lt (Nat.lt_succ_of_lt lt)⟩, fp, q⟩
theorem walk_enB {K : PySem.W.Frag} {b : Bool} {a : Addr} {xs : List V} : Walk (IteB K b a) xs.length (fun H => SqB K H a b xs) (YPairF (fun i => some (.int (i : Nat))) (fun i => xs[i]?)) where
  goes := fun i H hi q => ⟨xs, q, hi⟩
  stops := fun H q => ⟨xs, q, rfl⟩
  yields := fun i H x H' hi q ⟨t, o, y, h1, h2, h3, h4, h5⟩ => ⟨t, o, .int (i : Nat), y, h1, h2, h3, h4, rfl, h5 xs q⟩
end Ev
end

section
set_option linter.all false
set_option maxRecDepth 100000
set_option maxHeartbeats 4000000
/-! zip of two, each a list or a tuple. -/
namespace Ev
open PySem L2 PySem.Spec PyProof.Rows
/-- two walked together, each item pair in a new tuple -/
def ItzB (K : PySem.W.Frag) (b1 : Bool) (a1 : Addr) (b2 : Bool) (a2 : Addr) : It where
  go := fun i H => ∃ xs ys : List V, SqB K H a1 b1 xs ∧ SqB K H a2 b2 ys ∧ i < min xs.length ys.length
  yld := fun i H v H' => ∃ T o x y, v = .ref T ∧ H T = none ∧ (o.cls = Value.type "tuple" ∧ o.dict = none) ∧ H' = upd H T (.frz o (.tup [x, y])) ∧ (∀ xs, SqB K H a1 b1 xs → xs[i]? = some x) ∧ ∀ ys, SqB K H a2 b2 ys → ys[i]? = some y
  stop := fun i H => ∃ xs ys : List V, SqB K H a1 b1 xs ∧ SqB K H a2 b2 ys ∧ i = min xs.length ys.length
/-- where a zip's own cells stand -/
structure ZAt (z TI TO i1 i2 a1 a2 : Addr) : Prop where
  sep : ZipSep2 z TI TO i1 i2 [i1, a1] [i2, a2]
  n1 : a1 ≠ i1
  n2 : a2 ≠ i2
def ZSt (z TI TO i1 i2 : Addr) (b1 : Bool) (a1 : Addr) (b2 : Bool) (a2 : Addr) (i : Nat) (h : Heap) : Prop := IsZip h z TI TO .none ∧ IsTupOf2 h TI (.ref i1) (.ref i2) ∧ (∃ x y, IsTupOf2 h TO x y) ∧ SrcIt b1 h i1 a1 i ∧ SrcIt b2 h i2 a2 i
theorem mem5 {z TI TO i1 i2 c : Addr} (h : c ∈ [z, TI, TO, i1, i2]) : c = z ∨ c = TI ∨ c = TO ∨ c = i1 ∨ c = i2 := by simpa using h
theorem turn_zB {P : Program} {w : World} {K : PySem.W.Frag} {elts : List Expr} {kk : Nat} {tpos : Pos} {z TI TO i1 i2 a1 a2 : Addr} {b1 b2 : Bool} (D : ZAt z TI TO i1 i2 a1 a2) :
    Turn P w K (.Tuple elts kk tpos) (ItzB K b1 a1 b2 a2) [z, TI, TO, i1, i2] z (ZSt z TI TO i1 i2 b1 a1 b2 a2) where
  mem := List.mem_cons_self
  obj := fun i h ⟨q1, q2, ⟨x, y, q3⟩, q4, q5⟩ c hc => by
    rcases mem5 hc with rfl | rfl | rfl | rfl | rfl
    · exact ⟨_, q1, fun v e => nomatch e⟩
    · exact ⟨_, q2, fun v e => nomatch e⟩
    · exact ⟨_, q3, fun v e => nomatch e⟩
    · exact q4.cell
    · exact q5.cell
  keep := fun i h h' ⟨q1, q2, ⟨x, y, q3⟩, q4, q5⟩ k => ⟨k z (by simp) _ q1, k TI (by simp) _ q2, ⟨x, y, k TO (by simp) _ q3⟩, q4.at' fun o e => k i1 (by simp) o e, q5.at' fun o e => k i2 (by simp) o e⟩
  item := by
    intro X hP hw hK hc i pins s σ H E I hf ⟨q1, q2, q3, q4, q5⟩ ⟨xs, ys, hx, hy, hi⟩
    subst hP hw hK
    obtain ⟨its, rv, p, _⟩ := inv_src I hx
    obtain ⟨its2, rv2, p2, _⟩ := inv_src I hy
    have hh : X.A.in1.handled = none := I.ok.hd hc
    have d1 := draw_b (prog := X.prog) (w := X.w) hh b1 i1 a1 D.n1 its.toArray
    have d2 := draw_b (prog := X.prog) (w := X.w) hh b2 i2 a2 D.n2 its2.toArray
    have W := WalksT.zipD2 D.sep d1 d2
    have l1 := rv.length
    have l2 := rv2.length
    obtain ⟨xo, yo, q3'⟩ := q3
    have lz : ∀ {c o}, s.heap.get? c = some o → s.heap.objs.size ≠ c := fun e => Nat.ne_of_gt (Heap.lt_size e)
    have ni1 : s.heap.objs.size ≠ i1 := by
      obtain ⟨o, e, _⟩ := q4.cell
      exact lz e
    have ni2 : s.heap.objs.size ≠ i2 := by
      obtain ⟨o, e, _⟩ := q5.cell
      exact lz e
    refine wpAny_pyNext_zipD2_item (i := i) D.sep d1 d2 q1 q2 q3' ⟨q4, p⟩ ⟨q5, p2⟩ (by simp; omega) (by simp; omega) fun u1 u2 h' tk e1 e2 z1 z2 z3 z4 g gz kp => ⟨_, rfl, W.go elts kk tpos i s.heap.objs.size _ _ E ⟨z1, kp _ _ D.sep.TIz D.sep.TITO D.sep.TIi1 D.sep.TIi2 q2, ⟨_, _, z2⟩, z3, z4, lz q1, lz q3', ni1, ni2⟩ fun h2 st kp2 => ?_⟩
    have q3 : ∃ x y, IsTupOf2 s.heap TO x y := ⟨_, _, q3'⟩
    obtain ⟨v1, hv1⟩ : ∃ v, xs[i]? = some v := ⟨_, List.getElem?_eq_getElem (by omega)⟩
    obtain ⟨v2, hv2⟩ : ∃ v, ys[i]? = some v := ⟨_, List.getElem?_eq_getElem (by omega)⟩
    obtain ⟨w1, hw1, rw1⟩ := rv.get hv1
    obtain ⟨w2, hw2, rw2⟩ := rv2.get hv2
    have eu1 : w1 = u1 := by
      have : its.toArray[i]? = some w1 := by simpa using hw1
      rw [this] at e1
      exact Option.some.inj e1
    have eu2 : w2 = u2 := by
      have : its2.toArray[i]? = some w2 := by simpa using hw2
      rw [this] at e2
      exact Option.some.inj e2
    subst eu1 eu2
    have hTn : s.heap.objs.size ∉ [z, TO, i1, i2] := by
      intro hm
      have hm : s.heap.objs.size = z ∨ s.heap.objs.size = TO ∨ s.heap.objs.size = i1 ∨ s.heap.objs.size = i2 := by simpa using hm
      rcases hm with e | e | e | e
      · exact lz q1 e
      · exact lz q3' e
      · exact ni1 e
      · exact ni2 e
    have hT := Nat.le_refl s.heap.objs.size
    generalize hTT : s.heap.objs.size = T at hTn g hT
    have sub : ∀ c, c ∉ [z, TI, TO, i1, i2] → c ∉ [z, TO, i1, i2] := fun c hc h => hc (by
      have h : c = z ∨ c = TO ∨ c = i1 ∨ c = i2 := by simpa using h
      rcases h with rfl | rfl | rfl | rfl <;> simp)
    have I1 : Inv X pins σ (upd H T (.frz (tpO #[w1, w2]) (.tup [v1, v2]))) { s with heap := h2, toks := tk } :=
      I.turnedNew (ch := [z, TI, TO, i1, i2]) (fun c ob hc e => kp2 c ob (sub c hc) (kp c ob (fun x => hc (by simp [x])) (fun x => hc (by simp [x])) (fun x => hc (by simp [x])) (fun x => hc (by simp [x])) e)) hf (Nat.le_of_eq hTT) (pair_ok rw1 rw2 (kp2 T _ hTn g))
    obtain ⟨r1, r2, r3, r4, r5⟩ := st
    refine ⟨.ref T, _, I1, rfl, ⟨T, _, v1, v2, rfl, I.hok.fresh (Nat.le_of_eq hTT), ⟨rfl, rfl⟩, rfl, fun l hl => by rw [inv_src_inj I hl hx]; exact hv1, fun l hl => by rw [inv_src_inj I hl hy]; exact hv2⟩, ⟨r1, r2, r3, r4.1, r5.1⟩, fun c hc => ?_⟩
    have lt : c < s.heap.objs.size := by
      obtain ⟨x, y, q3⟩ := q3
      rcases mem5 hc with rfl | rfl | rfl | rfl | rfl
      · exact Heap.lt_size q1
      · exact Heap.lt_size q2
      · exact Heap.lt_size q3
      · obtain ⟨o, e, _⟩ := q4.cell; exact Heap.lt_size e
      · obtain ⟨o, e, _⟩ := q5.cell; exact Heap.lt_size e
    rw [upd_ne (Nat.ne_of_lt (by rw [← hTT]; exact lt))]
    exact (hf c hc).1
  done := by
    intro X hP hw hK hc i pins s σ H E I hf ⟨q1, q2, q3, q4, q5⟩ ⟨xs, ys, hx, hy, hi⟩
    subst hP hw hK hi
    obtain ⟨its, rv, p, _⟩ := inv_src I hx
    obtain ⟨its2, rv2, p2, _⟩ := inv_src I hy
    have hh : X.A.in1.handled = none := I.ok.hd hc
    have W := WalksT.zipD2 (prog := X.prog) (w := X.w) (A := X.A) D.sep (draw_b hh b1 i1 a1 D.n1 its.toArray) (draw_b hh b2 i2 a2 D.n2 its2.toArray)
    have em : min its.toArray.size its2.toArray.size = min xs.length ys.length := by
      rw [List.size_toArray, List.size_toArray, rv.length, rv2.length]
    refine W.done s _ E ?_ fun h' tk kp => ⟨rfl, I.turnedL (ch := [z, TI, TO, i1, i2]) (fun c ob hc e => kp c ob (fun h => hc (by
      have h : c = z ∨ c = TO ∨ c = i1 ∨ c = i2 := by simpa using h
      rcases h with rfl | rfl | rfl | rfl <;> simp)) e) hf⟩
    rw [em]
    exact ⟨q1, q2, q3, ⟨q4, p⟩, ⟨q5, p2⟩⟩
  self := fun A i s Q E ⟨q1, _⟩ h => wpAny_pyIter_zip q1 h
def iZB (K : PySem.W.Frag) (ta : TA) : TI := fun σ H R => ta σ H fun vs H1 => ∃ b1 a1 b2 a2 xs ys, vs = [.ref a1, .ref a2] ∧ SqB K H1 a1 b1 xs ∧ SqB K H1 a2 b2 ys ∧ R (ItzB K b1 a1 b2 a2) H1
theorem pi_zB {X : Cx} {e e2 : Expr} {ta : TA} {p pos tpos : Pos} {elts : List Expr} {kk : Nat} (hg : Gl X "zip") (hm : X.mg "zip" = none) (ha : PA X [e, e2] ta)
    (hs : starEach [e, e2] X.env = (false, eval e X.env) :: starEach [e2] X.env) (hpl : (backTo pos (starEach [e2] X.env)).any (·.1) = false) : PI X (.Tuple elts kk tpos) (.Call (.Name "zip" p) [e, e2] [] pos) (iZB X.K ta) := by
  constructor
  intro pins s σ H R I h
  refine Call_ (ld_blt I hg hm PyProof.Rows.boot_zip (PyProof.Rows.callWith_type1 (thn (ha.run pos pins s σ H _ I h) fun us s1 w => ?_) hs hpl))
  obtain ⟨vs, H1, I1, r1, b1, a1, b2, a2, xs, ys, ex, hx, hy, q⟩ := w
  subst ex
  have eu : us = [.ref a1, .ref a2] := by
    match us, r1 with
    | [_, _], .cons r (.cons r' .nil) => cases r; cases r'; rfl
  subst eu
  obtain ⟨its, _, p1, t1⟩ := inv_src I1 hx
  obtain ⟨its2, _, p2, t2⟩ := inv_src I1 hy
  refine zip_begins2 (begins_b b1 a1 its.toArray) (begins_b b2 a2 its2.toArray) p1 p2 fun h' z1 z2 z3 z4 z5 sz kp => ?_
  refine wpAny_pyIter_zip (s := { s1 with heap := h' }) z1 ?_
  have sep : ZipSep2 (s1.heap.objs.size + 4) (s1.heap.objs.size + 2) (s1.heap.objs.size + 3) s1.heap.objs.size (s1.heap.objs.size + 1) [s1.heap.objs.size, a1] [s1.heap.objs.size + 1, a2] :=
    zip_sep2 (fun b hb => by rw [List.mem_singleton.mp hb]; exact t1) (fun b hb => by rw [List.mem_singleton.mp hb]; exact t2)
  have D : ZAt (s1.heap.objs.size + 4) (s1.heap.objs.size + 2) (s1.heap.objs.size + 3) s1.heap.objs.size (s1.heap.objs.size + 1) a1 a2 := ⟨sep, Nat.ne_of_lt t1, Nat.ne_of_lt (Nat.lt_succ_of_lt t2)⟩
  exact ⟨_, _, _, _, H1, rfl, I1.kept (t' := s1.toks) kp, turn_zB (b1 := b1) (b2 := b2) D, ⟨z1, z2, ⟨_, _, z3⟩, srcIt_new b1 z4, srcIt_new b2 z5⟩, fun c hc => by
    have le : s1.heap.objs.size ≤ c := by
      rcases mem5 hc with rfl | rfl | rfl | rfl | rfl <;> omega
    exact I1.fpOk le (I1.hok.fresh le), q⟩
theorem walk_zB {K : PySem.W.Frag} {b1 b2 : Bool} {a1 a2 : Addr} {xs ys : List V} : Walk (ItzB K b1 a1 b2 a2) (min xs.length ys.length) (fun H => SqB K H a1 b1 xs ∧ SqB K H a2 b2 ys) (YPairF (fun i => xs[i]?) (fun i => ys[i]?)) where
  goes := fun i H hi q => ⟨xs, ys, q.1, q.2, hi⟩
  stops := fun H q => ⟨xs, ys, q.1, q.2, rfl⟩
  yields := fun i H x H' hi q ⟨t, o, y, z, h1, h2, h3, h4, h5, h6⟩ => ⟨t, o, y, z, h1, h2, h3, h4, h5 xs q.1, h6 ys q.2⟩
end Ev
end

section
set_option linter.all false
set_option maxRecDepth 100000
set_option maxHeartbeats 4000000
/-! The language is what the machine does: expressions. -/
namespace Ev
open PySem L2 PySem.Spec PyProof.Rows

/-- an exception of the program's own: its value in its dict -/
def XRep (K : PySem.W.Frag) (B : Cls0) (G : Gh) (H : Hp) (d : D) (dx : Addr) : Prop := ∃ v, (H dx = some (.xd [("value", v)]) ∧ G dx = .my 0 []) ∧ Rep K B (Fz G H) v d

section
variable (K : PySem.W.Frag) (B : Cls0) (W : WX) (σ : L2.St)
/-- what is wanted behind a computation -/
def PostX {α β : Type} (R : α → Env → Gh → Hp → β → Prop) (o : Out α) (G : Gh) (H : Hp) (Q : β → Hp → Prop) : Prop := match o with
  | none => False
  | some (.ok a, ρ') => ∀ G' H' b, Nx G H G' H' → Sta K B G' ρ' σ H' → R a ρ' G' H' b → Q b H'
  | some (.err c d, ρ') => ∀ G' H' dx, Nx G H G' H' → Sta K B G' ρ' σ H' → XRep K B G' H' d dx → W (.ref (B.X c)) (some dx) σ H'
/-- a reading by the language -/
def tX {α β : Type} (R : α → Env → Gh → Hp → β → Prop) (f : Env → Out α) (H : Hp) (Q : β → Hp → Prop) : Prop := ∃ G ρ, Sta K B G ρ σ H ∧ PostX K B W σ R (f ρ) G H Q
end
section
variable {K : PySem.W.Frag} {B : Cls0} {W : WX} {σ : L2.St} {G G' G1 : Gh} {H H' H1 : Hp} {ρ ρ' : Env}
theorem PostX.mono {α β : Type} {R : α → Env → Gh → Hp → β → Prop} {o : Out α} {Q : β → Hp → Prop} (h : PostX K B W σ R o G H Q) (n : Nx G H G1 H1) : PostX K B W σ R o G1 H1 Q := by
  cases o with
  | none => exact h
  | some p =>
    obtain ⟨r, ρ'⟩ := p
    cases r with
    | ok a => exact fun G' H' b n' S r => h G' H' b (n.trans n') S r
    | err c d => exact fun G' H' dx n' S r => h G' H' dx (n.trans n') S r
theorem PostX.bnd {α β γ δ : Type} {R1 : α → Env → Gh → Hp → β → Prop} {R2 : γ → Env → Gh → Hp → δ → Prop} {m : Out α} {k : α → Env → Out γ} {Q : δ → Hp → Prop} {Q' : β → Hp → Prop} (h : PostX K B W σ R2 (bnd m k) G H Q)
    (f : ∀ a ρ1 G1 H1 b, m = some (.ok a, ρ1) → Nx G H G1 H1 → Sta K B G1 ρ1 σ H1 → R1 a ρ1 G1 H1 b → PostX K B W σ R2 (k a ρ1) G1 H1 Q → Q' b H1) : PostX K B W σ R1 m G H Q' := by
  cases m with
  | none => exact h
  | some p =>
    obtain ⟨r, ρ1⟩ := p
    cases r with
    | ok a => exact fun G1 H1 b n S r => f a ρ1 G1 H1 b rfl n S r (PostX.mono (show PostX K B W σ R2 (k a ρ1) G H Q from h) n)
    | err c d => exact h
theorem PostX.ret {α β : Type} {R : α → Env → Gh → Hp → β → Prop} {a : α} {Q : β → Hp → Prop} {b : β} (h : PostX K B W σ R (Ev.ret a ρ) G H Q) (S : Sta K B G1 ρ σ H1) (n : Nx G H G1 H1) (r : R a ρ G1 H1 b) : Q b H1 := h G1 H1 b n S r
theorem PostX.opt {α γ δ : Type} {R2 : γ → Env → Gh → Hp → δ → Prop} {o : Option α} {k : α → Out γ} {Q : δ → Hp → Prop} (h : PostX K B W σ R2 (opt o k) G H Q) : ∃ a, o = some a ∧ PostX K B W σ R2 (k a) G H Q := by
  cases o with
  | none => exact h.elim
  | some a => exact ⟨a, rfl, h⟩

/-- relations of results -/
def RT (K : PySem.W.Frag) (B : Cls0) : T → Env → Gh → Hp → V → Prop := fun t _ G H v => RepT K B G H 0 [] v t
def RD (K : PySem.W.Frag) (B : Cls0) : D → Env → Gh → Hp → V → Prop := fun d _ G H v => Rep K B (Fz G H) v d
def RB : Bool → Env → Gh → Hp → Bool → Prop := fun b _ _ _ b' => b' = b
def RPl (K : PySem.W.Frag) (B : Cls0) (σ : L2.St) : Pl → Env → Gh → Hp → V → Prop := fun p _ G H v => match p with
  | .tmp d => Rep K B (Fz G H) v d
  | .sl i => σ[i]? = some (some v)
def RArg (K : PySem.W.Frag) (B : Cls0) (σ : L2.St) : Arg → Env → Gh → Hp → V → Prop := fun p _ G H v => match p with
  | .vl d => Rep K B (Fz G H) v d
  | .ln i => σ[i]? = some (some v)
theorem RPl.nx {p : Pl} {ρ ρ' : Env} {v : V} (n : Nx G H G1 H1) (r : RPl K B σ p ρ G H v) : RPl K B σ p ρ' G1 H1 v := by
  cases p with
  | tmp d => exact n.rep r
  | sl i => exact r
/-- what stands at a place, read now -/
theorem RPl.rd {p : Pl} {ρ0 : Env} {v : V} {d : D} (S : Sta K B G ρ σ H) (r : RPl K B σ p ρ0 G H v) (h : Ev.rd ρ p = some d) : RepC K B G H v d := by
  cases p with
  | tmp e =>
    have e2 : e = d := Option.some.inj h
    subst e2
    exact .val r
  | sl i =>
    have h2 : (look ρ i).map frz = some d := h
    cases e : look ρ i with
    | none => rw [e] at h2; cases h2
    | some t =>
      rw [e] at h2
      have e2 := Option.some.inj h2
      obtain ⟨v', hv, R⟩ := S.slot i t e
      have ev : v = v' := by
        have q : σ[i]? = some (some v) := r
        rw [hv] at q
        exact (Option.some.inj (Option.some.inj q)).symm
      subst ev
      exact ⟨_, _, t, R, e2⟩

theorem pe_mono {X : Cx} {e : Expr} {t t' : TE} (h : PE X e t) (f : ∀ σ H Q, t' σ H Q → t σ H Q) : PE X e t' := ⟨fun pins s σ H Q I q => h.run pins s σ H Q I (f σ H Q q)⟩
theorem pt_mono {X : Cx} {e : Expr} {t t' : TT} (h : PT X e t) (f : ∀ σ H Q, t' σ H Q → t σ H Q) : PT X e t' := ⟨fun pins s σ H Q I q => h.run pins s σ H Q I (f σ H Q q)⟩
theorem pa_mono {X : Cx} {e : List Expr} {t t' : TA} (h : PA X e t) (f : ∀ σ H Q, t' σ H Q → t σ H Q) : PA X e t' := ⟨fun pos pins s σ H Q I q => h.run pos pins s σ H Q I (f σ H Q q)⟩
theorem po_mono {X : Cx} {e : Option Expr} {t t' : TO} (h : PO X e t) (f : ∀ σ H Q, t' σ H Q → t σ H Q) : PO X e t' := ⟨fun pins s σ H Q I q => h.run pins s σ H Q I (f σ H Q q)⟩
abbrev tE (K : PySem.W.Frag) (B : Cls0) (W : WX) (f : Env → Out T) : TE := fun σ H Q => tX K B W σ (RT K B) f H Q
abbrev tD (K : PySem.W.Frag) (B : Cls0) (W : WX) (f : Env → Out D) : TE := fun σ H Q => tX K B W σ (RD K B) f H Q
abbrev tP (K : PySem.W.Frag) (B : Cls0) (W : WX) (f : Env → Out Pl) : TE := fun σ H Q => tX K B W σ (RPl K B σ) f H Q
abbrev tR (K : PySem.W.Frag) (B : Cls0) (W : WX) (f : Env → Out Arg) : TE := fun σ H Q => tX K B W σ (RArg K B σ) f H Q
abbrev tT (K : PySem.W.Frag) (B : Cls0) (W : WX) (f : Env → Out Bool) : TT := fun σ H Q => tX K B W σ RB f H Q

variable {X : Cx} {x y z : Expr} {f g : Env → Out T}
/-- .. frozen -/
theorem se_D (h : PE X x (tE K B W f)) : PE X x (tD K B W fun ρ => evD (f ρ)) := pe_mono h fun σ H Q ⟨G, ρ, S, P⟩ => ⟨G, ρ, S, PostX.bnd P fun t ρ1 G1 H1 v _ _ S1 R P1 => P1.ret S1.frzTmp Nx.gFrz R.frzd⟩
theorem se_Pl {i : E} (h : PE X x (tE K B W f)) (hv : ∀ k, i = .v k → PE X x (tVar k)) : PE X x (tP K B W (evPl i f)) := by
  have gen : (∀ k, i ≠ .v k) → PE X x (tP K B W (evPl i f)) := fun n => by
    have e : evPl i f = fun ρ => bnd (f ρ) fun t ρ => ret (.tmp (frz t)) ρ := by
      funext ρ
      cases i <;> first | rfl | exact absurd rfl (n _)
    rw [e]
    exact pe_mono h fun σ H Q ⟨G, ρ, S, P⟩ => ⟨G, ρ, S, PostX.bnd P fun t ρ1 G1 H1 v _ _ S1 R P1 => P1.ret S1.frzTmp Nx.gFrz R.frzd⟩
  cases i with
  | v k =>
    refine pe_mono (hv k rfl) fun σ H Q ⟨G, ρ, S, P⟩ => ?_
    have P1 : PostX K B W σ (RPl K B σ) (match look ρ k with
      | none => none
      | some (.val d) => ret (.tmp d) ρ
      | some _ => ret (.sl k) ρ) G H Q := P
    cases e : look ρ k with
    | none => rw [e] at P1; exact P1.elim
    | some t =>
      rw [e] at P1
      obtain ⟨v, hv, R⟩ := S.slot k t e
      refine ⟨v, hv, ?_⟩
      cases t with
      | val d =>
        cases R with
        | val r => exact P1.ret S Nx.refl r
      | lst l => exact P1.ret S Nx.refl hv
      | dic a b => exact P1.ret S Nx.refl hv
      | ins a b => exact P1.ret S Nx.refl hv
  | _ => exact gen fun k q => nomatch q
theorem se_Arg {i : E} (h : PE X x (tE K B W f)) (hv : ∀ k, i = .v k → PE X x (tVar k)) : PE X x (tR K B W (evArg i f)) := by
  have gen : (∀ k, i ≠ .v k) → PE X x (tR K B W (evArg i f)) := fun n => by
    have e : evArg i f = fun ρ => bnd (f ρ) fun t ρ => ret (.vl (frz t)) ρ := by
      funext ρ
      cases i <;> first | rfl | exact absurd rfl (n _)
    rw [e]
    exact pe_mono h fun σ H Q ⟨G, ρ, S, P⟩ => ⟨G, ρ, S, PostX.bnd P fun t ρ1 G1 H1 v _ _ S1 R P1 => P1.ret S1.frzTmp Nx.gFrz R.frzd⟩
  cases i with
  | v k =>
    refine pe_mono (hv k rfl) fun σ H Q ⟨G, ρ, S, P⟩ => ?_
    have P1 : PostX K B W σ (RArg K B σ) (match look ρ k with
      | none => none
      | some (.val d) => ret (.vl d) ρ
      | some _ => ret (.ln k) ρ) G H Q := P
    cases e : look ρ k with
    | none => rw [e] at P1; exact P1.elim
    | some t =>
      rw [e] at P1
      obtain ⟨v, hv, R⟩ := S.slot k t e
      refine ⟨v, hv, ?_⟩
      cases t with
      | val d =>
        cases R with
        | val r => exact P1.ret S Nx.refl r
      | lst l => exact P1.ret S Nx.refl hv
      | dic a b => exact P1.ret S Nx.refl hv
      | ins a b => exact P1.ret S Nx.refl hv
  | _ => exact gen fun k q => nomatch q

/-! ### leaves -/
theorem se_cst {d : D} {v : V} (h : PE X x (tC v)) (r : ∀ F, Rep K B F v d) : PE X x (tE K B W fun ρ => ret (.val d) ρ) := pe_mono h fun σ H Q ⟨G, ρ, S, P⟩ => P.ret S Nx.refl (.val (r _))
theorem se_v {Y : Sys} {k : Nat} (h : PE X x (tVar k)) : PE X x (tE K B W (ev Y (.v k))) := by
  refine pe_mono h fun σ H Q ⟨G, ρ, S, P⟩ => ?_
  have P1 : PostX K B W σ (RT K B) (match look ρ k with
    | none => none
    | some (.val d) => ret (.val d) ρ
    | some t => ret (.val (frz t)) (ρ.set k (some (.val (frz t))))) G H Q := by
    have e : ev Y (.v k) ρ = (match look ρ k with
      | none => none
      | some (.val d) => ret (.val d) ρ
      | some t => ret (.val (frz t)) (ρ.set k (some (.val (frz t))))) := by
      unfold ev
      rfl
    rw [← e]
    exact P
  cases e : look ρ k with
  | none => rw [e] at P1; exact P1.elim
  | some t =>
    rw [e] at P1
    obtain ⟨v, hv, R⟩ := S.slot k t e
    refine ⟨v, hv, ?_⟩
    have go : PostX K B W σ (RT K B) (ret (.val (frz t)) (ρ.set k (some (.val (frz t))))) G H Q → Q v H := fun P2 =>
      P2.ret (S.frzSlot e) Nx.gFrz (.val R.frzd)
    cases t with
    | val d =>
      cases R with
      | val r => exact P1.ret S Nx.refl (.val r)
    | lst l => exact go P1
    | dic a b => exact go P1
    | ins a b => exact go P1

/-! ### operators -/
theorem se_two {i j : E} {fa fb : Env → Out T} {op : D → D → Option T} {r : R2} (ha : PE X x (tP K B W (evPl i fa))) (hb : PE X y (tP K B W (evPl j fb)))
    (hr : ∀ (G : Gh) (H : Hp) (v u : V) (dx dy : D) (t : T) (Q : VK), RepC K B G H v dx → RepC K B G H u dy → op dx dy = some t → (∀ v G' H', Mk1 K B G H t v G' H' → Q v H') → r v u H Q) :
    ∀ σ H Q, tE K B W (fun ρ => bnd (evPl i fa ρ) fun p ρ => bnd (evPl j fb ρ) fun q ρ => opt (rd ρ p) fun x => opt (rd ρ q) fun y => opt (op x y) fun t => ret t ρ) σ H Q → tOp r (tP K B W (evPl i fa)) (tP K B W (evPl j fb)) σ H Q := fun σ H Q ⟨G, ρ, S, P⟩ => by
  refine ⟨G, ρ, S, PostX.bnd P fun p ρ1 G1 H1 v _ _ S1 R1 P1 => ?_⟩
  refine ⟨G1, ρ1, S1, PostX.bnd P1 fun q ρ2 G2 H2 u _ n S2 R2 P2 => ?_⟩
  obtain ⟨dx, ex, P3⟩ := P2.opt
  obtain ⟨dy, ey, P4⟩ := P3.opt
  obtain ⟨t, et, P5⟩ := P4.opt
  have c1 : RepC K B G2 H2 v dx := RPl.rd S2 (RPl.nx (ρ' := ρ2) n R1) ex
  have c2 : RepC K B G2 H2 u dy := RPl.rd S2 R2 ey
  exact hr G2 H2 v u dx dy t Q c1 c2 et fun v' G3 H3 m => P5.ret (m.sta S2) m.nx m.rep
end
section
variable {B : Cls0} {W : WX} {X : Cx} {x y z : Expr} {pos : Pos} {a b c : E} {Y : Sys}
/-- an expression by the language: its value, and where it may stand in a slot -/
structure SE (B : Cls0) (W : WX) (Y : Sys) (X : Cx) (a : E) (x : Expr) : Prop where
  e : PE X x (tE X.K B W (ev Y a))
  v : ∀ k, a = .v k → PE X x (tVar k)
theorem SE.d (h : SE B W Y X a x) : PE X x (tD X.K B W fun ρ => evD (ev Y a ρ)) := se_D h.e
theorem SE.p (h : SE B W Y X a x) : PE X x (tP X.K B W (evPl a (ev Y a))) := se_Pl h.e h.v
theorem SE.r (h : SE B W Y X a x) : PE X x (tR X.K B W (evArg a (ev Y a))) := se_Arg h.e h.v
theorem SE.mk1 (h : PE X x (tE X.K B W (ev Y a))) (n : ∀ k, a ≠ .v k) : SE B W Y X a x := ⟨h, fun k e => absurd e (n k)⟩
theorem se_bin {o : BinO} (ha : SE B W Y X a x) (hb : SE B W Y X b y) : SE B W Y X (.bin o a b) (.BinOp x (opo o) y pos) := by
  refine SE.mk1 (pe_mono (pe_op (op_bin B o) ha.p hb.p) fun σ H Q h => ?_) fun k => nofun
  refine se_two (op := binD o) ha.p hb.p (fun G H v u dx dy t Q c1 c2 e q => ⟨G, dx, dy, t, c1, c2, e, q⟩) σ H Q ?_
  have e : ev Y (.bin o a b) = fun ρ => bnd (evPl a (ev Y a) ρ) fun p ρ => bnd (evPl b (ev Y b) ρ) fun q ρ => opt (rd ρ p) fun x => opt (rd ρ q) fun y => opt (binD o x y) fun t => ret t ρ := by
    funext ρ
    conv => lhs; unfold ev
  rw [← e]
  exact h
theorem se_cmp {o : CmpO} {n : Nat} (hr : Room n X.A) (ha : SE B W Y X a x) (hb : SE B W Y X b y) (hm : behindInMarks (opc o) y = false) : SE B W Y X (.cmp o a b) (.Compare x [opc o] [y] pos) := by
  refine SE.mk1 (pe_mono (pe_cmpR (op_cmpA B o hr) ha.p hb.p hm) fun σ H Q h => ?_) fun k => nofun
  refine se_two (op := fun x y => (cmpD o x y).map fun t => T.val (.bl t)) ha.p hb.p (fun G H v u dx dy t Q c1 c2 e q => ?_) σ H Q ?_
  · cases e2 : cmpD o dx dy with
    | none => rw [e2] at e; cases e
    | some k =>
      rw [e2] at e
      have e3 := Option.some.inj e
      subst e3
      exact ⟨G, dx, dy, k, c1, c2, e2, q _ _ _ (Mk1.val (.bl _))⟩
  · have e : ev Y (.cmp o a b) = fun ρ => bnd (evPl a (ev Y a) ρ) fun p ρ => bnd (evPl b (ev Y b) ρ) fun q ρ => opt (rd ρ p) fun x => opt (rd ρ q) fun y => opt (((cmpD o x y)).map fun t => T.val (.bl t)) fun t => ret t ρ := by
      funext ρ
      conv => lhs; unfold ev
    rw [← e]
    exact h
theorem se_neg (ha : SE B W Y X a x) : SE B W Y X (.neg a) (.UnaryOp .USub x pos) := by
  refine SE.mk1 (pe_mono (pe_un un_neg ha.d) fun σ H Q ⟨G, ρ, S, P⟩ => ?_) fun k => nofun
  unfold ev at P
  refine ⟨G, ρ, S, PostX.bnd P fun d ρ1 G1 H1 v _ _ S1 R P1 => ?_⟩
  cases d with
  | int i =>
    cases R
    exact ⟨i, rfl, P1.ret S1 Nx.refl (.val (.int _))⟩
  | _ => exact P1.elim
theorem se_chn {o o' : CmpO} {n : Nat} (hr : Room n X.A) (ha : SE B W Y X a x) (hb : SE B W Y X b y) (hc : SE B W Y X c z) (hm : lastMarks [opc o, opc o'] [y, z] = false) : SE B W Y X (.chn o o' a b c) (.Compare x [opc o, opc o'] [y, z] pos) := by
  refine SE.mk1 (pe_mono (pe_chain (op_cmpA B o hr) (op_cmpA B o' hr) ha.d hb.d hc.d hm) fun σ H Q ⟨G, ρ, S, P⟩ => ?_) fun k => nofun
  unfold ev at P
  refine ⟨G, ρ, S, PostX.bnd P fun dx ρ1 G1 H1 v _ _ S1 R1 P1 => ⟨G1, ρ1, S1, PostX.bnd P1 fun dy ρ2 G2 H2 u _ n2 S2 R2 P2 => ?_⟩⟩
  obtain ⟨t, et, P3⟩ := P2.opt
  refine ⟨G2, dx, dy, t, .val (n2.rep R1), .val R2, et, t, rfl, ?_⟩
  cases t with
  | false =>
    rw [if_neg Bool.false_ne_true]
    exact P3.ret S2 Nx.refl (.val (.bl _))
  | true =>
    rw [if_pos rfl]
    refine ⟨G2, ρ2, S2, PostX.bnd P3 fun dz ρ3 G3 H3 w _ n3 S3 R3 P4 => ?_⟩
    obtain ⟨t', et', P5⟩ := P4.opt
    exact ⟨G3, dy, dz, t', .val (n3.rep R2), .val R3, et', P5.ret S3 Nx.refl (.val (.bl _))⟩
/-- and, or, not as values -/
theorem se_and {r : List Expr} (ha : SE B W Y X a x) (hb : PE X (.BoolOp .And (y :: r) pos) (tE X.K B W (ev Y b))) : SE B W Y X (.and a b) (.BoolOp .And (x :: y :: r) pos) := by
  refine SE.mk1 (pe_mono (pe_and ha.d hb) fun σ H Q ⟨G, ρ, S, P⟩ => ?_) fun k => nofun
  unfold ev at P
  refine ⟨G, ρ, S, PostX.bnd P fun d ρ1 G1 H1 v _ _ S1 R P1 => ?_⟩
  cases d with
  | bl k =>
    cases R
    refine ⟨k, rfl, ?_⟩
    cases k with
    | true =>
      rw [if_pos rfl]
      exact ⟨G1, ρ1, S1, P1⟩
    | false =>
      rw [if_neg Bool.false_ne_true]
      exact P1.ret S1 Nx.refl (.val (.bl _))
  | _ => exact P1.elim
theorem se_or {r : List Expr} (ha : SE B W Y X a x) (hb : PE X (.BoolOp .Or (y :: r) pos) (tE X.K B W (ev Y b))) : SE B W Y X (.or a b) (.BoolOp .Or (x :: y :: r) pos) := by
  refine SE.mk1 (pe_mono (pe_or ha.d hb) fun σ H Q ⟨G, ρ, S, P⟩ => ?_) fun k => nofun
  unfold ev at P
  refine ⟨G, ρ, S, PostX.bnd P fun d ρ1 G1 H1 v _ _ S1 R P1 => ?_⟩
  cases d with
  | bl k =>
    cases R
    refine ⟨k, rfl, ?_⟩
    cases k with
    | true =>
      rw [if_pos rfl]
      exact P1.ret S1 Nx.refl (.val (.bl _))
    | false =>
      rw [if_neg Bool.false_ne_true]
      exact ⟨G1, ρ1, S1, P1⟩
  | _ => exact P1.elim
theorem se_not (ha : SE B W Y X a x) : SE B W Y X (.not a) (.UnaryOp .Not x pos) := by
  refine SE.mk1 (pe_mono (pe_not ha.d) fun σ H Q ⟨G, ρ, S, P⟩ => ?_) fun k => nofun
  unfold ev at P
  refine ⟨G, ρ, S, PostX.bnd P fun d ρ1 G1 H1 v _ _ S1 R P1 => ?_⟩
  cases d with
  | bl k =>
    cases R
    exact ⟨k, rfl, P1.ret S1 Nx.refl (.val (.bl _))⟩
  | _ => exact P1.elim
theorem se_ite (hc : PT X z (tT X.K B W (evT Y c))) (ha : SE B W Y X a x) (hb : SE B W Y X b y) : SE B W Y X (.ite c a b) (.IfExp z x y pos) := by
  refine SE.mk1 (pe_mono (pe_ifExp hc ha.e hb.e) fun σ H Q ⟨G, ρ, S, P⟩ => ?_) fun k => nofun
  unfold ev at P
  refine ⟨G, ρ, S, PostX.bnd P fun k ρ1 G1 H1 v _ _ S1 R P1 => ?_⟩
  have R2 : v = k := R
  subst R2
  cases v with
  | true =>
    rw [if_pos rfl]
    exact ⟨G1, ρ1, S1, P1⟩
  | false =>
    rw [if_neg Bool.false_ne_true]
    exact ⟨G1, ρ1, S1, P1⟩

/-! ### tests -/
theorem st_not (ha : PT X x (tT X.K B W (evT Y a))) : PT X (.UnaryOp .Not x pos) (tT X.K B W (evT Y (.not a))) := by
  refine pt_mono (pt_not ha) fun σ H Q ⟨G, ρ, S, P⟩ => ?_
  unfold evT at P
  refine ⟨G, ρ, S, PostX.bnd P fun k ρ1 G1 H1 v _ _ S1 R P1 => ?_⟩
  have R2 : v = k := R
  subst R2
  exact P1.ret S1 Nx.refl rfl
theorem st_and {r : List Expr} (ha : PT X x (tT X.K B W (evT Y a))) (hb : PW X (.BoolOp .And (y :: r) pos) (tT X.K B W (evT Y b))) : PW X (.BoolOp .And (x :: y :: r) pos) (tT X.K B W (evT Y (.and a b))) := by
  have h := pw_and ha hb
  refine ⟨fun wh pins s σ H Q I ⟨G, ρ, S, P⟩ => h.run wh pins s σ H Q I ?_⟩
  unfold evT at P
  refine ⟨G, ρ, S, PostX.bnd P fun k ρ1 G1 H1 v _ _ S1 R P1 => ?_⟩
  have R2 : v = k := R
  subst R2
  cases v with
  | true =>
    rw [if_pos rfl]
    exact ⟨G1, ρ1, S1, P1⟩
  | false =>
    rw [if_neg Bool.false_ne_true]
    exact P1.ret S1 Nx.refl rfl
theorem st_or {r : List Expr} (ha : PT X x (tT X.K B W (evT Y a))) (hb : PW X (.BoolOp .Or (y :: r) pos) (tT X.K B W (evT Y b))) : PW X (.BoolOp .Or (x :: y :: r) pos) (tT X.K B W (evT Y (.or a b))) := by
  have h := pw_or ha hb
  refine ⟨fun wh pins s σ H Q I ⟨G, ρ, S, P⟩ => h.run wh pins s σ H Q I ?_⟩
  unfold evT at P
  refine ⟨G, ρ, S, PostX.bnd P fun k ρ1 G1 H1 v _ _ S1 R P1 => ?_⟩
  have R2 : v = k := R
  subst R2
  cases v with
  | true =>
    rw [if_pos rfl]
    exact P1.ret S1 Nx.refl rfl
  | false =>
    rw [if_neg Bool.false_ne_true]
    exact ⟨G1, ρ1, S1, P1⟩
/-- the truth of what reads as d -/
theorem RepC.truth {K : PySem.W.Frag} {G : Gh} {H : Hp} {v : V} {d : D} {k : Bool} (h : RepC K B G H v d) (e : truD d = some k) : TruV K v H k := by
  cases d with
  | non =>
    cases h.non
    have e2 := Option.some.inj e
    subst e2
    rfl
  | bl b =>
    cases h.bl
    have e2 := Option.some.inj e
    subst e2
    rfl
  | int i =>
    cases h.int
    have e2 := Option.some.inj e
    subst e2
    rfl
  | str x =>
    cases h.str
    have e1 : (if x.length ≤ LL then some ((x.length : Int) != 0) else none) = some k := e
    split at e1
    · rename_i hz
      have e2 := Option.some.inj e1
      subst e2
      exact ⟨LL_line hz, rfl⟩
    · cases e1
  | tup l =>
    have e2 := Option.some.inj e
    subst e2
    obtain ⟨a, vs, rfl, q, r⟩ := h.tup
    refine .inr (.inl ⟨vs, Fz.sub.seqT q, ?_⟩)
    have := r.length
    cases vs <;> cases l <;> first | rfl | cases this
  | lst l =>
    have e2 := Option.some.inj e
    subst e2
    obtain ⟨a, vs, rfl, q, r⟩ := h.lst
    refine .inl ⟨vs, .inl (.inl q), ?_⟩
    have := r.length
    cases vs <;> cases l <;> first | rfl | cases this
  | dic ks l =>
    have e2 := Option.some.inj e
    subst e2
    cases h.rep with
    | dic q hl r =>
      refine .inr (.inr ⟨_, q, ?_⟩)
      rename_i a vs
      cases ks <;> cases vs <;> first | rfl | cases hl
  | exc c d => cases e
  | ins c l => cases e
  | scr l => cases e
theorem st_plain (ha : SE B W Y X a x) (he : ∀ whole, isTrue x X.env whole = (do let v ← whole; standAt x.pos; holding [v] (truthy v))) : PT X x (tT X.K B W fun ρ => bnd (evPl a (ev Y a) ρ) fun p ρ => opt (rd ρ p) fun d => opt (truD d) fun b => ret b ρ) := by
  refine pt_mono (pt_truth ha.p he) fun σ H Q ⟨G, ρ, S, P⟩ => ?_
  refine ⟨G, ρ, S, PostX.bnd P fun p ρ1 G1 H1 v _ _ S1 R P1 => ?_⟩
  obtain ⟨d, ed, P2⟩ := P1.opt
  obtain ⟨k, ek, P3⟩ := P2.opt
  exact ⟨k, (RPl.rd S1 R ed).truth ek, P3.ret S1 Nx.refl rfl⟩
theorem st_tru (ha : SE B W Y X a x) (he : ∀ whole, isTrue x X.env whole = (do let v ← whole; standAt x.pos; holding [v] (truthy v))) : PT X x (tT X.K B W fun ρ => truT (ev Y a ρ)) := by
  refine pt_mono (pt_truth ha.d he) fun σ H Q ⟨G, ρ, S, P⟩ => ?_
  have P0 : PostX X.K B W σ RB (bnd (ev Y a ρ) fun t ρ => opt (truD (frz t)) fun b => ret b ρ) G H Q := P
  have e : (bnd (ev Y a ρ) fun t ρ => opt (truD (frz t)) fun b => ret b ρ) = (bnd (evD (ev Y a ρ)) fun d ρ => opt (truD d) fun b => ret b ρ) := by
    cases ev Y a ρ with
    | none => rfl
    | some p =>
      obtain ⟨r, ρ1⟩ := p
      cases r <;> rfl
  rw [e] at P0
  refine ⟨G, ρ, S, PostX.bnd P0 fun d ρ1 G1 H1 v _ _ S1 R P1 => ?_⟩
  obtain ⟨k, ek, P3⟩ := P1.opt
  exact ⟨k, (RepC.val R).truth ek, P3.ret S1 Nx.refl rfl⟩
/-- a comparison as a test -/
theorem tru_bl {σ : L2.St} {H : Hp} {Q : Bool → Hp → Prop} (h : tT X.K B W (fun ρ => truT (ev Y a ρ)) σ H Q) (hb : ∀ ρ t ρ', ev Y a ρ = some (.ok t, ρ') → ∃ k, t = .val (.bl k)) : tE X.K B W (ev Y a) σ H (fun x H' => ∃ k, x = .bl k ∧ Q k H') := by
  obtain ⟨G, ρ, S, P⟩ := h
  refine ⟨G, ρ, S, ?_⟩
  have P0 : PostX X.K B W σ RB (bnd (ev Y a ρ) fun t ρ => opt (truD (frz t)) fun b => ret b ρ) G H Q := P
  refine PostX.bnd P0 fun t ρ1 G1 H1 v ee _ S1 R P1 => ?_
  obtain ⟨k, rfl⟩ := hb ρ t ρ1 ee
  cases R with
  | val r =>
    cases r
    exact ⟨k, rfl, P1.ret S1 Nx.refl rfl⟩

/-! ### argument lists -/
theorem pa_nil' {α β : Type} {R : List α → Env → Gh → Hp → List V → Prop} (hR : ∀ ρ G H, R [] ρ G H []) {K : PySem.W.Frag} : PA X [] (fun σ H Q => tX K B W σ R (fun ρ => ret ([] : List α) ρ) H Q) := pa_mono pa_nil fun σ H Q ⟨G, ρ, S, P⟩ => P.ret S Nx.refl (hR _ _ _)
def RDs (K : PySem.W.Frag) (B : Cls0) : List D → Env → Gh → Hp → List V → Prop := fun ds _ G H vs => Reps K B (Fz G H) vs ds
/-- item by item -/
inductive All2 {α β : Type} (R : α → β → Prop) : List α → List β → Prop
  | nil : All2 R [] []
  | cons {a : α} {b : β} {l : List α} {r : List β} : R a b → All2 R l r → All2 R (a :: l) (b :: r)
theorem All2.imp {α β : Type} {R R' : α → β → Prop} (h : ∀ a b, R a b → R' a b) : ∀ {l : List α} {r : List β}, All2 R l r → All2 R' l r
  | _, _, .nil => .nil
  | _, _, .cons x y => .cons (h _ _ x) (All2.imp h y)
theorem All2.length {α β : Type} {R : α → β → Prop} : ∀ {l : List α} {r : List β}, All2 R l r → l.length = r.length
  | _, _, .nil => rfl
  | _, _, .cons _ y => congrArg Nat.succ (All2.length y)
theorem All2.get {α β : Type} {R : α → β → Prop} : ∀ {l : List α} {r : List β} {i : Nat} {a : α} {b : β}, All2 R l r → l[i]? = some a → r[i]? = some b → R a b
  | _, _, _, _, _, .nil, e, _ => by simp at e
  | _, _, 0, _, _, .cons x _, e, e' => by
    have e2 := Option.some.inj e
    have e3 := Option.some.inj e'
    subst e2 e3
    exact x
  | _, _, i + 1, _, _, .cons _ y, e, e' => All2.get (i := i) y e e'
def RPls (K : PySem.W.Frag) (B : Cls0) (σ : L2.St) : List Pl → Env → Gh → Hp → List V → Prop := fun ps ρ G H vs => All2 (fun p v => RPl K B σ p ρ G H v) ps vs
def RArgs (K : PySem.W.Frag) (B : Cls0) (σ : L2.St) : List Arg → Env → Gh → Hp → List V → Prop := fun ps ρ G H vs => All2 (fun p v => RArg K B σ p ρ G H v) ps vs
abbrev tDs (K : PySem.W.Frag) (B : Cls0) (W : WX) (f : Env → Out (List D)) : TA := fun σ H Q => tX K B W σ (RDs K B) f H Q
abbrev tPs (K : PySem.W.Frag) (B : Cls0) (W : WX) (f : Env → Out (List Pl)) : TA := fun σ H Q => tX K B W σ (RPls K B σ) f H Q
abbrev tRs (K : PySem.W.Frag) (B : Cls0) (W : WX) (f : Env → Out (List Arg)) : TA := fun σ H Q => tX K B W σ (RArgs K B σ) f H Q
structure SL (B : Cls0) (W : WX) (Y : Sys) (X : Cx) (l : List E) (es : List Expr) : Prop where
  d : PA X es (tDs X.K B W (evDs Y l))
  p : PA X es (tPs X.K B W (evPls Y l))
  r : PA X es (tRs X.K B W (evAs Y l))
theorem sl_nil : SL B W Y X [] [] :=
  ⟨pa_mono pa_nil fun σ H Q ⟨G, ρ, S, P⟩ => by unfold evDs at P; exact P.ret S Nx.refl Reps.nil, pa_mono pa_nil fun σ H Q ⟨G, ρ, S, P⟩ => by unfold evPls at P; exact P.ret S Nx.refl All2.nil, pa_mono pa_nil fun σ H Q ⟨G, ρ, S, P⟩ => by unfold evAs at P; exact P.ret S Nx.refl All2.nil⟩
theorem sl_cons {l : List E} {es : List Expr} (ha : SE B W Y X a x) (hl : SL B W Y X l es) (hs : starEach (x :: es) X.env = (false, eval x X.env) :: starEach es X.env) : SL B W Y X (a :: l) (x :: es) := by
  refine ⟨pa_mono (pa_cons ha.d hl.d hs) fun σ H Q ⟨G, ρ, S, P⟩ => ?_, pa_mono (pa_cons ha.p hl.p hs) fun σ H Q ⟨G, ρ, S, P⟩ => ?_, pa_mono (pa_cons ha.r hl.r hs) fun σ H Q ⟨G, ρ, S, P⟩ => ?_⟩
  · unfold evDs at P
    refine ⟨G, ρ, S, PostX.bnd P fun d ρ1 G1 H1 v _ _ S1 R P1 => ⟨G1, ρ1, S1, PostX.bnd P1 fun ds ρ2 G2 H2 vs _ n2 S2 R2 P2 => ?_⟩⟩
    exact P2.ret S2 Nx.refl (Reps.cons (n2.rep R) R2)
  · unfold evPls at P
    refine ⟨G, ρ, S, PostX.bnd P fun d ρ1 G1 H1 v _ _ S1 R P1 => ⟨G1, ρ1, S1, PostX.bnd P1 fun ds ρ2 G2 H2 vs _ n2 S2 R2 P2 => ?_⟩⟩
    exact P2.ret S2 Nx.refl (All2.cons (RPl.nx n2 R) R2)
  · unfold evAs at P
    refine ⟨G, ρ, S, PostX.bnd P fun d ρ1 G1 H1 v _ _ S1 R P1 => ⟨G1, ρ1, S1, PostX.bnd P1 fun ds ρ2 G2 H2 vs _ n2 S2 R2 P2 => ?_⟩⟩
    refine P2.ret S2 Nx.refl (All2.cons ?_ R2)
    cases d with
    | vl e => exact n2.rep R
    | ln i => exact R
theorem se_tup {l : List E} {es : List Expr} {k : Nat} (h : SL B W Y X l es) : SE B W Y X (.tup l) (.Tuple es k pos) := by
  refine SE.mk1 (pe_mono (pe_tupF h.d) fun σ H Q ⟨G, ρ, S, P⟩ => ?_) fun k => nofun
  unfold ev at P
  refine ⟨G, ρ, S, PostX.bnd P fun ds ρ1 G1 H1 vs _ _ S1 R P1 => ?_⟩
  by_cases hz : ds.length ≤ LL
  · rw [if_pos hz] at P1
    refine ⟨LL_line (by rw [Reps.length R]; exact hz), fun p o hp hc hd => ?_⟩
    have m := Mk1.newT (G := G1) hp hc hd R
    exact P1.ret (m.sta S1) m.nx m.rep
  · rw [if_neg hz] at P1
    exact P1.elim
theorem se_lst {l : List E} {es : List Expr} (h : SL B W Y X l es) : SE B W Y X (.lst l) (.List es pos) := by
  refine SE.mk1 (pe_mono (pe_lst h.d) fun σ H Q ⟨G, ρ, S, P⟩ => ?_) fun k => nofun
  unfold ev at P
  refine ⟨G, ρ, S, PostX.bnd P fun ds ρ1 G1 H1 vs _ _ S1 R P1 => ?_⟩
  by_cases hz : ds.length ≤ LL
  · rw [if_pos hz] at P1
    refine ⟨LL_line (by rw [Reps.length R]; exact hz), fun p hp => ?_⟩
    have m := Mk1.newL (G := G1) hp R
    exact P1.ret (m.sta S1) m.nx m.rep
  · rw [if_neg hz] at P1
    exact P1.elim
theorem se_sub (ha : SE B W Y X a x) (hb : SE B W Y X b y) (hs : PlainIx y) : SE B W Y X (.sub a b) (.Subscript x y pos) := by
  refine SE.mk1 (pe_mono (pe_ix (ix_sub B) ha.p hb.d hs) fun σ H Q ⟨G, ρ, S, P⟩ => ?_) fun k => nofun
  unfold ev at P
  refine ⟨G, ρ, S, PostX.bnd P fun p ρ1 G1 H1 v _ _ S1 R1 P1 => ⟨G1, ρ1, S1, PostX.bnd P1 fun k ρ2 G2 H2 u _ n2 S2 R2 P2 => ?_⟩⟩
  obtain ⟨dx, ex, P3⟩ := P2.opt
  obtain ⟨d, ed, P4⟩ := P3.opt
  exact ⟨G2, dx, k, d, RPl.rd S2 (RPl.nx (ρ' := ρ2) n2 R1) ex, .val R2, ed, fun v' G3 H3 m => P4.ret (m.sta S2) m.nx m.rep⟩
def RO : Option Int → Env → Gh → Hp → Option Int → Prop := fun b _ _ _ b' => b' = b
abbrev tO (K : PySem.W.Frag) (B : Cls0) (W : WX) (f : Env → Out (Option Int)) : TO := fun σ H Q => tX K B W σ RO f H Q
theorem so_none : PO X none (tO X.K B W (evBd (.c .non) (ev Y (.c .non)))) := po_mono po_none fun σ H Q ⟨G, ρ, S, P⟩ => P.ret S Nx.refl rfl
theorem so_some (ha : SE B W Y X a x) (hn : a ≠ .c .non) : PO X (some x) (tO X.K B W (evBd a (ev Y a))) := by
  have e : evBd a (ev Y a) = fun ρ => bnd (evD (ev Y a ρ)) fun d ρ => (match d with
    | .int k => ret (some k) ρ
    | _ => none) := by
    funext ρ
    have h1 : evBd a (ev Y a) ρ = bnd (ev Y a ρ) fun t ρ => (match frz t with
      | .int k => ret (some k) ρ
      | _ => none) := by
      unfold evBd
      split
      · exact absurd rfl hn
      · rfl
    rw [h1]
    cases ev Y a ρ with
    | none => rfl
    | some p =>
      obtain ⟨r, ρ1⟩ := p
      cases r <;> rfl
  rw [e]
  refine po_mono (po_some ha.d) fun σ H Q ⟨G, ρ, S, P⟩ => ⟨G, ρ, S, PostX.bnd P fun d ρ1 G1 H1 v _ _ S1 R P1 => ?_⟩
  cases d with
  | int i =>
    cases R
    exact ⟨i, rfl, P1.ret S1 Nx.refl rfl⟩
  | _ => exact P1.elim
theorem se_slc {lo hi : Option Expr} {p2 : Pos} (ha : SE B W Y X a x) (hb : PO X lo (tO X.K B W (evBd b (ev Y b)))) (hc : PO X hi (tO X.K B W (evBd c (ev Y c)))) : SE B W Y X (.slc a b c) (.Subscript x (.Slice lo hi none p2) pos) := by
  refine SE.mk1 (pe_mono (pe_slice (sl_slc B) ha.p hb hc) fun σ H Q ⟨G, ρ, S, P⟩ => ?_) fun k => nofun
  unfold ev at P
  refine ⟨G, ρ, S, PostX.bnd P fun p ρ1 G1 H1 v _ _ S1 R1 P1 => ⟨G1, ρ1, S1, PostX.bnd P1 fun l ρ2 G2 H2 l' _ n2 S2 R2 P2 => ⟨G2, ρ2, S2, PostX.bnd P2 fun u ρ3 G3 H3 u' _ n3 S3 R3 P3 => ?_⟩⟩⟩
  have R2' : l' = l := R2
  have R3' : u' = u := R3
  subst R2' R3'
  obtain ⟨dx, ex, P4⟩ := P3.opt
  obtain ⟨t, et, P5⟩ := P4.opt
  exact ⟨G3, dx, t, RPl.rd S3 (RPl.nx (ρ' := ρ3) (n2.trans n3) R1) ex, et, fun v' G4 H4 m => P5.ret (m.sta S3) m.nx m.rep⟩
theorem rd_all {K : PySem.W.Frag} {σ : L2.St} {G : Gh} {H : Hp} {ρ ρ0 : Env} (S : Sta K B G ρ σ H) : ∀ {ps : List Pl} {vs : List V} {ds : List D}, RPls K B σ ps ρ0 G H vs → ps.mapM (rd ρ) = some ds → RepCs K B G H vs ds
  | [], _, ds, .nil, e => by
    have e2 : ([] : List D) = ds := Option.some.inj e
    subst e2
    exact .nil
  | p :: ps, _, ds, .cons r rr, e => by
    rw [List.mapM_cons] at e
    cases e1 : rd ρ p with
    | none => rw [e1] at e; cases e
    | some d =>
      rw [e1] at e
      have e' : (do let y ← ps.mapM (rd ρ); pure (d :: y)) = some ds := e
      cases e2 : ps.mapM (rd ρ) with
      | none => rw [e2] at e'; cases e'
      | some ds' =>
        rw [e2] at e'
        have e3 : d :: ds' = ds := Option.some.inj e'
        subst e3
        exact .cons (RPl.rd S r e1) (rd_all S rr e2)
theorem blt_tail {bb : Blt} {l : List E} {es : List Expr} (h : PA X es (tPs X.K B W (evPls Y l))) : ∀ σ H Q, tE X.K B W (ev Y (.blt bb l)) σ H Q → tPs X.K B W (evPls Y l) σ H (fun vs H1 => rBlt X.K B bb vs H1 Q) := fun σ H Q ⟨G, ρ, S, P⟩ => by
  unfold ev at P
  refine ⟨G, ρ, S, PostX.bnd P fun ps ρ1 G1 H1 vs _ _ S1 R P1 => ?_⟩
  obtain ⟨ds, eds, P2⟩ := P1.opt
  obtain ⟨t, et, P3⟩ := P2.opt
  exact ⟨G1, ds, t, rd_all S1 R eds, et, fun v' G2 H2 m => P3.ret (m.sta S1) m.nx m.rep⟩
end
end Ev
end

section
set_option linter.all false
set_option maxRecDepth 100000
set_option maxHeartbeats 4000000
/-! The language is what the machine does: calls. -/
namespace Ev
open PySem L2 PySem.Spec PyProof.Rows

/-! ### the names behind a call -/
/-- the place of slot i among the arguments -/
def lnPos (i : Nat) : List Arg → Nat → Option Nat
  | [], _ => none
  | .vl _ :: r, k => lnPos i r (k + 1)
  | .ln j :: r, k => if j = i then some k else lnPos i r (k + 1)
theorem lnPos_mem {i : Nat} : ∀ {as : List Arg} {k j : Nat}, lnPos i as k = some j → k ≤ j ∧ as[j - k]? = some (.ln i)
  | [], _, _, h => by cases h
  | .vl d :: r, k, j, h => by
    obtain ⟨h1, h2⟩ := lnPos_mem (as := r) (k := k + 1) (j := j) h
    have e : j - k = (j - (k + 1)) + 1 := by omega
    refine ⟨by omega, ?_⟩
    rw [e]
    exact h2
  | .ln m :: r, k, j, h => by
    have h' : (if m = i then some k else lnPos i r (k + 1)) = some j := h
    split at h'
    · rename_i hm
      have e := Option.some.inj h'
      subst e hm
      exact ⟨Nat.le_refl _, by rw [Nat.sub_self]; rfl⟩
    · obtain ⟨h1, h2⟩ := lnPos_mem (as := r) (k := k + 1) (j := j) h'
      have e : j - k = (j - (k + 1)) + 1 := by omega
      refine ⟨by omega, ?_⟩
      rw [e]
      exact h2
theorem mem_lns {i : Nat} : ∀ {as : List Arg} {j : Nat}, as[j]? = some (.ln i) → i ∈ lns as
  | [], _, h => by simp at h
  | .vl _ :: r, 0, h => by cases Option.some.inj h
  | .ln m :: r, 0, h => by
    have e := Arg.ln.inj (Option.some.inj h)
    rw [e]
    exact List.mem_cons_self
  | .vl _ :: r, j + 1, h => mem_lns (as := r) (j := j) h
  | .ln m :: r, j + 1, h => List.mem_cons_of_mem _ (mem_lns (as := r) (j := j) h)
theorem lnPos_of {i : Nat} : ∀ {as : List Arg} {j k : Nat}, (lns as).Nodup → as[j]? = some (.ln i) → lnPos i as k = some (k + j)
  | [], _, _, _, h => by simp at h
  | .vl _ :: r, 0, _, _, h => by cases Option.some.inj h
  | .ln m :: r, 0, k, _, h => by
    have e := Arg.ln.inj (Option.some.inj h)
    subst e
    show (if m = m then some k else _) = some (k + 0)
    rw [if_pos rfl]
    rfl
  | .vl _ :: r, j + 1, k, n, h => by
    have q := lnPos_of (as := r) (j := j) (k := k + 1) n h
    show lnPos i r (k + 1) = some (k + (j + 1))
    rw [q]
    congr 1
    omega
  | .ln m :: r, j + 1, k, n, h => by
    obtain ⟨n1, n2⟩ := List.nodup_cons.mp (show (m :: lns r).Nodup from n)
    have q := lnPos_of (as := r) (j := j) (k := k + 1) n2 h
    show (if m = i then some k else lnPos i r (k + 1)) = some (k + (j + 1))
    have ne : m ≠ i := fun z => n1 (by rw [z]; exact mem_lns (as := r) (j := j) h)
    rw [if_neg ne, q]
    congr 1
    omega
/-- the callee's names -/
def gCall (as : List Arg) (G : Gh) : Gh := fun b => match G b with
  | .my (i + 1) p => (match lnPos i as 0 with | some j => .my (j + 1) p | none => .non)
  | .my 0 _ => .non
  | o => o
/-- the names behind the call: G1 ahead of it, G' as the callee left them -/
def gAft (as : List Arg) (G1 G' : Gh) : Gh := fun b => match G1 b with
  | .my (i + 1) p => (match lnPos i as 0 with
    | none => .my (i + 1) p
    | some _ => (match G' b with
      | .my (j + 1) p => (match as[j]? with | some (.ln i) => .my (i + 1) p | _ => .non)
      | o => o))
  | _ => (match G' b with
    | .my (j + 1) p => (match as[j]? with | some (.ln i) => .my (i + 1) p | _ => .non)
    | o => o)
/-- the callee's names, the argument handed over -/
def gMv1 (G : Gh) : Gh := fun b => match G b with
  | .my 0 p => .my 1 p
  | .my (_ + 1) _ => .non
  | o => o
theorem gMv1_frz {G : Gh} {b : Addr} (h : G b = .frz) : gMv1 G b = .frz := by unfold gMv1; rw [h]
theorem gMv1_non {G : Gh} {b : Addr} (h : G b = .non) : gMv1 G b = .non := by unfold gMv1; rw [h]
theorem gMv1_tb {G : Gh} {b : Addr} (h : G b = .tb) : gMv1 G b = .tb := by unfold gMv1; rw [h]
theorem gMv1_0 {G : Gh} {b : Addr} {p : List Nat} (h : G b = .my 0 p) : gMv1 G b = .my 1 p := by unfold gMv1; rw [h]
theorem gMv1_s {G : Gh} {b : Addr} {i : Nat} {p : List Nat} (h : G b = .my (i + 1) p) : gMv1 G b = .non := by unfold gMv1; rw [h]
/-- its place is kept aside -/
def Hid (as : List Arg) (G1 : Gh) (b : Addr) : Prop := ∃ i p, G1 b = .my (i + 1) p ∧ lnPos i as 0 = none
theorem gAft_hid {as : List Arg} {G1 G' : Gh} {b : Addr} {i : Nat} {p : List Nat} (h : G1 b = .my (i + 1) p) (n : lnPos i as 0 = none) : gAft as G1 G' b = .my (i + 1) p := by
  unfold gAft
  rw [h]
  simp only [n]
theorem gAft_out {as : List Arg} {G1 G' : Gh} {b : Addr} (n : ¬ Hid as G1 b) : gAft as G1 G' b = (match G' b with
    | .my (j + 1) p => (match as[j]? with | some (.ln i) => .my (i + 1) p | _ => .non)
    | o => o) := by
  unfold gAft
  cases h : G1 b with
  | non => rfl
  | frz => rfl
  | tb => rfl
  | my r p =>
    cases r with
    | zero => rfl
    | succ i =>
      cases e : lnPos i as 0 with
      | none => exact absurd ⟨i, p, h, e⟩ n
      | some j => simp only [e]
section
variable {K : PySem.W.Frag} {B : Cls0} {W : WX} {σ : L2.St} {G G' G1 : Gh} {H H' H1 : Hp} {ρ ρ' : Env} {as : List Arg}
theorem gCall_frz {b : Addr} (h : G b = .frz) : gCall as G b = .frz := by unfold gCall; rw [h]
theorem gCall_non {b : Addr} (h : G b = .non) : gCall as G b = .non := by unfold gCall; rw [h]
theorem gCall_tb {b : Addr} (h : G b = .tb) : gCall as G b = .tb := by unfold gCall; rw [h]
theorem gCall_my {b : Addr} {i j : Nat} {p : List Nat} (h : G b = .my (i + 1) p) (e : lnPos i as 0 = some j) : gCall as G b = .my (j + 1) p := by
  unfold gCall
  rw [h]
  simp only [e]
theorem gCall_hid {b : Addr} (h : Hid as G b) : gCall as G b = .non := by
  obtain ⟨i, p, h1, h2⟩ := h
  unfold gCall
  rw [h1]
  simp only [h2]
theorem gCall_inv {b : Addr} (h : gCall as G b = .frz) : G b = .frz := by
  unfold gCall at h
  cases e : G b with
  | frz => rfl
  | non => rw [e] at h; cases h
  | tb => rw [e] at h; cases h
  | my r p =>
    rw [e] at h
    cases r with
    | zero => cases h
    | succ i =>
      simp only at h
      cases q : lnPos i as 0 with
      | none => rw [q] at h; cases h
      | some j => rw [q] at h; cases h
theorem fz_call : Fz (gCall as G) H = Fz G H := by
  funext a
  unfold Fz
  cases e : G a with
  | frz => rw [gCall_frz e]
  | non => rw [gCall_non e]
  | tb => rw [gCall_tb e]
  | my r p =>
    cases q : gCall as G a with
    | frz => rw [gCall_inv q] at e; cases e
    | non => rfl
    | tb => rfl
    | my r' p' => rfl
/-- several arguments, by their places -/
def Args (K : PySem.W.Frag) (B : Cls0) (G : Gh) (H : Hp) (vs : List V) (ts : List T) : Prop := ∀ (j : Nat) (v : V) (t : T), vs[j]? = some v → ts[j]? = some t → RepT K B G H (j + 1) [] v t
/-- what a def promises, by the language -/
def spF (K : PySem.W.Frag) (B : Cls0) (k : Nat) (Γ : List T → Option (Res T × List T)) : Sp := fun vs H Q E => vs.length = k ∧ ∃ G ts r ts', vs.length = ts.length ∧ Frs B.tb G H ∧ Args K B G H vs ts ∧ Γ ts = some (r, ts') ∧ (match r with
  | .ok t => ∀ G' H' v, Nx G H G' H' → Frs B.tb G' H' → RepT K B G' H' 0 [] v t → Args K B G' H' vs ts' → Q v H'
  | .err c d => ∀ G' H' dx, Nx G H G' H' → Frs B.tb G' H' → Args K B G' H' vs ts' → XRep K B G' H' d dx → E (.ref (B.X c)) (some dx) H')
theorem argTs_get : ∀ {as : List Arg} {ts : List T}, argTs ρ as = some ts → as.length = ts.length ∧ ∀ (j : Nat) (t : T), ts[j]? = some t → ∃ a, as[j]? = some a ∧ argT ρ a = some t
  | [], ts, h => by
    have e : ([] : List T) = ts := Option.some.inj h
    subst e
    exact ⟨rfl, fun j t h => by simp at h⟩
  | a :: r, ts, h => by
    have h' : (match argT ρ a, argTs ρ r with
      | some t, some ts => some (t :: ts)
      | _, _ => none) = some ts := h
    cases e1 : argT ρ a with
    | none => rw [e1] at h'; cases h'
    | some t =>
      cases e2 : argTs ρ r with
      | none => rw [e1, e2] at h'; cases h'
      | some us =>
        rw [e1, e2] at h'
        have e3 : t :: us = ts := Option.some.inj h'
        subst e3
        obtain ⟨h1, h2⟩ := argTs_get e2
        refine ⟨congrArg Nat.succ h1, fun j t' hj => ?_⟩
        cases j with
        | zero =>
          have e4 := Option.some.inj hj
          subst e4
          exact ⟨a, rfl, e1⟩
        | succ j => exact h2 j t' hj
theorem putArgs_length : ∀ {as : List Arg} {ts : List T}, (putArgs ρ as ts).length = ρ.length
  | [], _ => rfl
  | .vl _ :: _, [] => rfl
  | .ln _ :: _, [] => rfl
  | .vl _ :: r, _ :: ts => putArgs_length (as := r) (ts := ts)
  | .ln i :: r, t :: ts => by
    show ((putArgs ρ r ts).set i (some t)).length = _
    rw [List.length_set]
    exact putArgs_length (as := r) (ts := ts)
theorem putArgs_out {i : Nat} : ∀ {as : List Arg} {ts : List T}, i ∉ lns as → look (putArgs ρ as ts) i = look ρ i
  | [], _, _ => rfl
  | .vl _ :: _, [], _ => rfl
  | .ln _ :: _, [], _ => rfl
  | .vl _ :: r, _ :: ts, h => putArgs_out (as := r) (ts := ts) h
  | .ln j :: r, t :: ts, h => by
    have h1 : j ≠ i := fun z => h (by rw [z]; exact List.mem_cons_self)
    have h2 : i ∉ lns r := fun z => h (List.mem_cons_of_mem _ z)
    show look ((putArgs ρ r ts).set j (some t)) i = _
    rw [look_set_ne h1]
    exact putArgs_out h2
theorem putArgs_in {i : Nat} {t' : T} : ∀ {as : List Arg} {ts : List T}, as.length ≤ ts.length → (lns as).Nodup → i ∈ lns as → look (putArgs ρ as ts) i = some t' → ∃ (j : Nat), as[j]? = some (Arg.ln i) ∧ ts[j]? = some t'
  | [], _, _, _, h, _ => by cases h
  | .vl _ :: _, [], hl, _, _, _ => by cases hl
  | .ln _ :: _, [], hl, _, _, _ => by cases hl
  | .vl _ :: r, _ :: ts, hl, n, h, e => by
    obtain ⟨j, h1, h2⟩ := putArgs_in (as := r) (ts := ts) (Nat.le_of_succ_le_succ hl) n h e
    exact ⟨j + 1, h1, h2⟩
  | .ln m :: r, t :: ts, hl, n, h, e => by
    obtain ⟨n1, n2⟩ := List.nodup_cons.mp (show (m :: lns r).Nodup from n)
    have e1 : look ((putArgs ρ r ts).set m (some t)) i = some t' := e
    by_cases hm : m = i
    · subst hm
      have e2 := look_set_some e1
      subst e2
      exact ⟨0, rfl, rfl⟩
    · rw [look_set_ne hm] at e1
      have h2 : i ∈ lns r := (List.mem_cons.mp (show i ∈ m :: lns r from h)).resolve_left (fun z => hm z.symm)
      obtain ⟨j, h3, h4⟩ := putArgs_in (as := r) (ts := ts) (Nat.le_of_succ_le_succ hl) n2 h2 e1
      exact ⟨j + 1, h3, h4⟩
/-- ahead of the callee -/
theorem args_in (S : Sta K B G ρ σ H) {vs : List V} {ts : List T} (nd : (lns as).Nodup) (R : RArgs K B σ as ρ G H vs) (e : argTs ρ as = some ts) {dvs : List V} {dds : List D} (hd : Reps K B (fun _ => none) dvs dds) :
    Args K B (gCall as G) H (vs ++ dvs) (ts ++ dds.map .val) := fun j v t hv ht => by
  obtain ⟨hl, hg⟩ := argTs_get e
  have hl2 : as.length = vs.length := All2.length R
  by_cases hj : j < ts.length
  · rw [List.getElem?_append_left hj] at ht
    rw [List.getElem?_append_left (by omega)] at hv
    obtain ⟨a, ha, et⟩ := hg j t ht
    have r := All2.get R ha hv
    cases a with
    | vl d =>
      have e2 : T.val d = t := Option.some.inj et
      subst e2
      refine .val ?_
      rw [fz_call]
      exact r
    | ln i =>
      obtain ⟨v', hv', R2⟩ := S.slot i t et
      have ev : v = v' := by
        have q : σ[i]? = some (some v) := r
        rw [hv'] at q
        exact (Option.some.inj (Option.some.inj q)).symm
      subst ev
      have lp : lnPos i as 0 = some j := by
        have := lnPos_of (k := 0) nd ha
        rw [Nat.zero_add] at this
        exact this
      exact R2.stay (fun a o e g => ⟨e, gCall_frz g⟩) fun a o p e g => ⟨e, gCall_my g lp⟩
  · rw [List.getElem?_append_right (by omega)] at ht
    rw [List.getElem?_append_right (by omega)] at hv
    rw [List.getElem?_map] at ht
    have ej : j - vs.length = j - ts.length := by omega
    rw [ej] at hv
    cases q : dds[j - ts.length]? with
    | none => rw [q] at ht; cases ht
    | some d =>
      rw [q] at ht
      have e2 : T.val d = t := Option.some.inj ht
      subst e2
      obtain ⟨v', h1, h2⟩ := hd.get q
      rw [hv] at h1
      have e3 := Option.some.inj h1
      subst e3
      exact .val (h2.mono fun a o z => by cases z)
theorem Hid.tracked (S : Sta K B G ρ σ H) {b : Addr} (h : Hid as G b) : ∃ o, H b = some o := by
  obtain ⟨i, p, h1, _⟩ := h
  cases e : H b with
  | some o => exact ⟨o, rfl⟩
  | none =>
    rw [S.fresh.fr b e] at h1
    cases h1
/-- behind the callee -/
theorem args_out (S : Sta K B G ρ σ H) {vs : List V} (nd : (lns as).Nodup) (R : RArgs K B σ as ρ G H vs) {dvs : List V} {ts' : List T} (n : Nx (gCall as G) H G' H') (fr : Frs B.tb G' H') (A : Args K B G' H' (vs ++ dvs) ts') (hl : as.length ≤ ts'.length) :
    Nx G H (gAft as G G') H' ∧ Sta K B (gAft as G G') (putArgs ρ as ts') σ H' ∧ (∀ {v t}, RepT K B G' H' 0 [] v t → RepT K B (gAft as G G') H' 0 [] v t) ∧ (∀ {v d}, Rep K B (Fz G' H') v d → Rep K B (Fz (gAft as G G') H') v d) ∧ ∀ b p, G' b = .my 0 p → gAft as G G' b = .my 0 p := by
  have hid : ∀ b, Hid as G b → ∃ o, H b = some o ∧ H' b = some o ∧ G' b = .non := fun b h => by
    obtain ⟨o, ho⟩ := h.tracked S
    obtain ⟨h1, h2⟩ := (n b o ho).2 (gCall_hid h)
    exact ⟨o, ho, h1, h2⟩
  have frzK : ∀ b, G' b = .frz → gAft as G G' b = .frz := fun b h => by
    rw [gAft_out fun z => ?_, h]
    obtain ⟨_, _, _, q⟩ := hid b z
    rw [h] at q
    cases q
  have my0 : ∀ b p, G' b = .my 0 p → gAft as G G' b = .my 0 p := fun b p h => by
    rw [gAft_out fun z => ?_, h]
    obtain ⟨_, _, _, q⟩ := hid b z
    rw [h] at q
    cases q
  have myS : ∀ (b : Addr) (j : Nat) (p : List Nat) (i : Nat), G' b = .my (j + 1) p → as[j]? = some (Arg.ln i) → gAft as G G' b = .my (i + 1) p := fun b j p i h ha => by
    rw [gAft_out fun z => ?_, h]
    · simp only [ha]
    · obtain ⟨_, _, _, q⟩ := hid b z
      rw [h] at q
      cases q
  refine ⟨fun a o e => ⟨fun g => ?_, fun g => ?_⟩, ⟨?_, fun i t e => ?_, ?_⟩, fun {v t} r => r.stay (fun a o e g => ⟨e, frzK a g⟩) fun a o p e g => ⟨e, my0 a p g⟩, fun {v d} r => r.mono fun a o e => ?_, my0⟩
  · obtain ⟨h1, h2⟩ := (n a o e).1 (gCall_frz g)
    exact ⟨h1, frzK a h2⟩
  · obtain ⟨h1, h2⟩ := (n a o e).2 (gCall_non g)
    refine ⟨h1, ?_⟩
    have nh : ¬ Hid as G a := fun ⟨i, p, q, _⟩ => by
      rw [g] at q
      cases q
    rw [gAft_out nh, h2]
  · rw [putArgs_length]
    exact S.len
  · by_cases hi : i ∈ lns as
    · obtain ⟨j, h1, h2⟩ := putArgs_in hl nd hi e
      have hj : j < as.length := (List.getElem?_eq_some_iff.mp h1).1
      have hl2 : as.length = vs.length := All2.length R
      have hv : vs[j]? = some vs[j] := List.getElem?_eq_getElem (by omega)
      have r : σ[i]? = some (some vs[j]) := All2.get (R := fun p v => RArg K B σ p ρ G H v) R h1 hv
      have A1 := A j vs[j] t (by rw [List.getElem?_append_left (by omega)]; exact hv) h2
      exact ⟨vs[j], r, A1.stay (fun a o e g => ⟨e, frzK a g⟩) fun a o p e g => ⟨e, myS a j p i g h1⟩⟩
    · rw [putArgs_out hi] at e
      obtain ⟨v, hv, R2⟩ := S.slot i t e
      have lp : lnPos i as 0 = none := by
        cases q : lnPos i as 0 with
        | none => rfl
        | some j => exact absurd (mem_lns (lnPos_mem q).2) hi
      refine ⟨v, hv, R2.stay (fun a o e g => ?_) fun a o p e g => ?_⟩
      · obtain ⟨h1, h2⟩ := (n a o e).1 (gCall_frz g)
        exact ⟨h1, frzK a h2⟩
      · obtain ⟨o', h1, h2, _⟩ := hid a ⟨i, p, g, lp⟩
        rw [e] at h1
        have e2 := Option.some.inj h1
        subst e2
        exact ⟨h2, gAft_hid g lp⟩
  · exact fr.same (fun a e => by
      have q := fr.fr a e
      rw [gAft_out fun z => ?_, q]
      obtain ⟨_, _, h2, _⟩ := hid a z
      rw [e] at h2
      cases h2) fun a o e g => by
      rw [gAft_out fun z => ?_, g]
      obtain ⟨_, _, _, q⟩ := hid a z
      rw [g] at q
      cases q
  · obtain ⟨g, h⟩ := Fz.inv e
    exact Fz.of (frzK a g) h
end
section
variable {B : Cls0} {W : WX} {X : Cx} {x y z : Expr} {pos p : Pos} {Y : Sys}
theorem call_tail {f : Nat} {l : List E} {k : Nat} {dvs : List V} (hd : Reps X.K B (fun _ => none) dvs (Y.dfl f l.length)) (hk : ∀ vs H Q E, spF X.K B k (Y.Γ f) vs H Q E → True) (hlen : ∀ (as : List Arg), True) (kk : l.length + dvs.length = k) (hl : ∀ ρ as ρ', evAs Y l ρ = some (.ok as, ρ') → as.length = l.length) :
    ∀ σ H Q, tE X.K B W (ev Y (.call f l)) σ H Q → tRs X.K B W (evAs Y l) σ H (fun vs H1 => spF X.K B k (Y.Γ f) (vs ++ dvs) H1 Q (WE W σ)) := fun σ H Q ⟨G, ρ, S, P⟩ => by
  unfold ev at P
  refine ⟨G, ρ, S, PostX.bnd P fun as ρ1 G1 H1 vs ee _ S1 R P1 => ?_⟩
  have la := hl ρ as ρ1 ee
  have lv : as.length = vs.length := All2.length R
  unfold callT at P1
  by_cases nd : (lns as).Nodup
  · rw [if_pos nd] at P1
    obtain ⟨ts, ets, P2⟩ := P1.opt
    have lt := (argTs_get ets).1
    have edf : Y.dfl f ts.length = Y.dfl f l.length := by rw [← lt, la]
    rw [edf] at P2
    cases er : Y.Γ f (ts ++ (Y.dfl f l.length).map .val) with
    | none => rw [er] at P2; exact P2.elim
    | some rr =>
      obtain ⟨r, ts'⟩ := rr
      rw [er] at P2
      simp only at P2
      by_cases hlt : ts'.length = ts.length + (Y.dfl f l.length).length
      · rw [if_pos hlt] at P2
        have ld := hd.length
        refine ⟨by rw [List.length_append]; omega, gCall as G1, ts ++ (Y.dfl f l.length).map .val, r, ts', by rw [List.length_append, List.length_append, List.length_map]; omega, S1.fresh.same (fun a e => gCall_non (S1.fresh.fr a e)) (fun a o e g => gCall_tb g), args_in S1 nd R ets hd, er, ?_⟩
        cases r with
        | ok t =>
          intro G' H' v n fr rt A
          obtain ⟨h1, h2, h3, h4, h5⟩ := args_out S1 nd R n fr A (by omega)
          exact P2 _ _ _ h1 h2 (h3 rt)
        | err c d =>
          intro G' H' dx n fr A ⟨v, x1, x2⟩
          obtain ⟨h1, h2, h3, h4, h5⟩ := args_out S1 nd R n fr A (by omega)
          exact P2 _ _ dx h1 h2 ⟨v, ⟨x1.1, h5 _ _ x1.2⟩, h4 x2⟩
      · rw [if_neg hlt] at P2
        exact P2.elim
  · rw [if_neg nd] at P1
    exact P1.elim
theorem evAs_length : ∀ {l : List E} {ρ ρ' : Env} {as : List Arg}, evAs Y l ρ = some (.ok as, ρ') → as.length = l.length
  | [], ρ, ρ', as, h => by
    unfold evAs at h
    have e : (Res.ok ([] : List Arg), ρ) = (.ok as, ρ') := Option.some.inj h
    injection e with e1 _
    injection e1 with e2
    rw [← e2]
    rfl
  | a :: l, ρ, ρ', as, h => by
    unfold evAs at h
    cases e : evArg a (ev Y a) ρ with
    | none => rw [e] at h; cases h
    | some q =>
      obtain ⟨r, ρ1⟩ := q
      rw [e] at h
      cases r with
      | err c d => cases h
      | ok a1 =>
        have h' : bnd (evAs Y l ρ1) (fun ds ρ => ret (a1 :: ds) ρ) = some (.ok as, ρ') := h
        cases e2 : evAs Y l ρ1 with
        | none => rw [e2] at h'; cases h'
        | some q2 =>
          obtain ⟨r2, ρ2⟩ := q2
          rw [e2] at h'
          cases r2 with
          | err c d => cases h'
          | ok as2 =>
            have e3 : (Res.ok (a1 :: as2), ρ2) = (.ok as, ρ') := Option.some.inj h'
            injection e3 with e4 _
            injection e4 with e5
            rw [← e5]
            exact congrArg Nat.succ (evAs_length e2)
theorem se_call {f : Nat} {l : List E} {x : Str} {e : Expr} {es : List Expr} {gg : Bool} {n k : Nat} {fA : Addr} {fd : FuncData} {ps : List Str} {dvs : List V} {ds : List Value} (h : SL B W Y X l (e :: es)) (F : FnG X.prog X.w X.K X.mg X.base (L2.CX X.prog X.w) gg n fA fd ps (spF X.K B k (Y.Γ f))) (hgd : gg = true → X.A.guards = some []) (hr : Room n X.A) (hg : Gl X x) (hm : X.mg x = some (.ref fA))
    (hkp : PySem.W.keepIn X.K (.ref fA) = true) (hb : Binds X.K fd ps ds) (hd : Vals dvs ds) (hrd : Reps X.K B (fun _ => none) dvs (Y.dfl f l.length)) (tk : Takes X W) (hdb : (x == ("__debug__" : Str)) = false) (he : starEach (e :: es) X.env = (false, eval e X.env) :: starEach es X.env) (hpl : (backTo pos (starEach es X.env)).any (·.1) = false) (kk : l.length + dvs.length = k) :
    SE B W Y X (.call f l) (.Call (.Name x p) (e :: es) [] pos) :=
  SE.mk1 (pe_mono (pe_callG F hgd hr hg hm hkp hb hd (fun σ => passAt tk σ) h.r hdb he hpl) fun σ H Q q => call_tail hrd (fun _ _ _ _ _ => trivial) (fun _ => trivial) kk (fun ρ as ρ' => evAs_length) σ H Q q) fun k => nofun
/-- built-ins -/
theorem se_blt {bb : Blt} {l : List E} {x : Str} {e : Expr} {es : List Expr} (h : SL B W Y X l (e :: es)) (hbb : isIs bb = false) (hc : X.calm = true) (hg : Gl X x) (hm : X.mg x = none) (hv : bootBuiltins x = some (bltV bb)) (hn : x ≠ "__name__") (hdb : (x == ("__debug__" : Str)) = false) (he : starEach (e :: es) X.env = (false, eval e X.env) :: starEach es X.env) (hpl : (backTo pos (starEach es X.env)).any (·.1) = false) :
    SE B W Y X (.blt bb l) (.Call (.Name x p) (e :: es) [] pos) := by
  have hcall := call_blt (X := X) B bb hbb hc
  have ht := blt_tail (bb := bb) h.p
  cases bb <;> first
    | (cases hbb; done)
    | exact SE.mk1 (pe_mono (pe_callB hcall hg hm hv h.p hn hdb he hpl) ht) fun k => nofun
    | exact SE.mk1 (pe_mono (pe_callTy hcall hg hm hv h.p hn hdb he hpl) ht) fun k => nofun
/-- isinstance -/
theorem se_is {bb : Blt} {a : E} {x t : Str} {e : Expr} {p2 : Pos} (h : SE B W Y X a e) (hbb : isIs bb = true) (hg : Gl X x) (hm : X.mg x = none) (hv : bootBuiltins x = some (.builtin "isinstance")) (hn : x ≠ "__name__") (hdb : (x == ("__debug__" : Str)) = false) (hg2 : Gl X t) (hm2 : X.mg t = none) (hv2 : bootBuiltins t = some (.type (isTy bb))) (hn2 : t ≠ "__name__") (hdb2 : (t == ("__debug__" : Str)) = false)
    (he : starEach [e, .Name t p2] X.env = (false, eval e X.env) :: starEach [.Name t p2] X.env) (hpl : (backTo pos (starEach [.Name t p2] X.env)).any (·.1) = false) :
    SE B W Y X (.blt bb [a]) (.Call (.Name x p) [e, .Name t p2] [] pos) := by
  refine SE.mk1 ⟨fun pins s σ H Q I ⟨G, ρ, S, P⟩ => ?_⟩ fun k => nofun
  refine wpAny_Call_Name_kw (ld_blt (u := .builtin "isinstance") I hg hm hv (PyProof.Rows.callWith_builtin1 (thn ((pa_cons h.p (pa_cons (pe_bltn (v := .ty (isTy bb)) hg2 hm2 hv2 rfl hn2 hdb2) pa_nil rfl) he).run pos pins s σ H (fun vs H1 => ∃ v, vs = [v, .ty (isTy bb)] ∧ ∃ G d t, RepC X.K B G H1 v d ∧ bltD bb [d] = some t ∧ ∀ v' G' H', Mk1 X.K B G H1 t v' G' H' → Q v' H') I ?_) fun us s1 ⟨vs, H1, I1, r1, q1⟩ => ?_) he hpl) hn hdb)
  · unfold ev at P
    unfold evPls at P
    unfold evPls at P
    have e0 : (bnd (bnd (evPl a (ev Y a) ρ) fun d ρ => bnd (ret ([] : List Pl) ρ) fun ds ρ => ret (d :: ds) ρ) fun ps ρ => opt (ps.mapM (rd ρ)) fun ds => opt (bltD bb ds) fun t => ret t ρ) = bnd (evPl a (ev Y a) ρ) fun p ρ => opt (rd ρ p) fun d => opt (bltD bb [d]) fun t => ret t ρ := by
      cases evPl a (ev Y a) ρ with
      | none => rfl
      | some q =>
        obtain ⟨r, ρ1⟩ := q
        cases r with
        | err c d => rfl
        | ok p =>
          show (opt ([p].mapM (rd ρ1)) fun ds => opt (bltD bb ds) fun t => ret t ρ1) = opt (rd ρ1 p) fun d => opt (bltD bb [d]) fun t => ret t ρ1
          rw [List.mapM_cons]
          cases rd ρ1 p <;> rfl
    rw [e0] at P
    refine ⟨G, ρ, S, PostX.bnd P fun p ρ1 G1 H1 v _ _ S1 R P1 => ?_⟩
    obtain ⟨d, ed, P2⟩ := P1.opt
    obtain ⟨t, et, P3⟩ := P2.opt
    exact ⟨v, rfl, G1, d, t, RPl.rd S1 R ed, et, fun v' G2 H2 m => P3.ret (m.sta S1) m.nx m.rep⟩
  · obtain ⟨v, rfl, G1, d, t, c1, et, q⟩ := q1
    exact call_is B bb hbb I1 r1 c1 et q
/-- behind a callee that was handed its argument -/
theorem args_out1 {K : PySem.W.Frag} {σ : L2.St} {G G' : Gh} {H H' : Hp} {ρ : Env} (S : Sta K B G ρ σ H) (n : Nx (gMv1 G) H G' H') (fr : Frs B.tb G' H') :
    Nx G H (gAft [] G G') H' ∧ Sta K B (gAft [] G G') ρ σ H' ∧ (∀ {v t}, RepT K B G' H' 0 [] v t → RepT K B (gAft [] G G') H' 0 [] v t) ∧ (∀ {v d}, Rep K B (Fz G' H') v d → Rep K B (Fz (gAft [] G G') H') v d) ∧ ∀ b p, G' b = .my 0 p → gAft [] G G' b = .my 0 p := by
  have hid : ∀ b, Hid [] G b → ∃ o, H b = some o ∧ H' b = some o ∧ G' b = .non := fun b h => by
    obtain ⟨o, ho⟩ := h.tracked S
    obtain ⟨i, p, g, _⟩ := h
    obtain ⟨h1, h2⟩ := (n b o ho).2 (gMv1_s g)
    exact ⟨o, ho, h1, h2⟩
  have frzK : ∀ b, G' b = .frz → gAft [] G G' b = .frz := fun b h => by
    rw [gAft_out fun z => ?_, h]
    obtain ⟨_, _, _, q⟩ := hid b z
    rw [h] at q
    cases q
  have my0 : ∀ b p, G' b = .my 0 p → gAft [] G G' b = .my 0 p := fun b p h => by
    rw [gAft_out fun z => ?_, h]
    obtain ⟨_, _, _, q⟩ := hid b z
    rw [h] at q
    cases q
  refine ⟨fun a o e => ⟨fun g => ?_, fun g => ?_⟩, ⟨S.len, fun i t e => ?_, ?_⟩, fun {v t} r => r.stay (fun a o e g => ⟨e, frzK a g⟩) fun a o p e g => ⟨e, my0 a p g⟩, fun {v d} r => r.mono fun a o e => ?_, my0⟩
  · obtain ⟨h1, h2⟩ := (n a o e).1 (gMv1_frz g)
    exact ⟨h1, frzK a h2⟩
  · obtain ⟨h1, h2⟩ := (n a o e).2 (gMv1_non g)
    refine ⟨h1, ?_⟩
    have nh : ¬ Hid [] G a := fun ⟨i, p, q, _⟩ => by
      rw [g] at q
      cases q
    rw [gAft_out nh, h2]
  · obtain ⟨v, hv, R2⟩ := S.slot i t e
    refine ⟨v, hv, R2.stay (fun a o e g => ?_) fun a o p e g => ?_⟩
    · obtain ⟨h1, h2⟩ := (n a o e).1 (gMv1_frz g)
      exact ⟨h1, frzK a h2⟩
    · obtain ⟨o', h1, h2, _⟩ := hid a ⟨i, p, g, rfl⟩
      rw [e] at h1
      have e2 := Option.some.inj h1
      subst e2
      exact ⟨h2, gAft_hid g rfl⟩
  · exact fr.same (fun a e => by
      have q := fr.fr a e
      rw [gAft_out fun z => ?_, q]
      obtain ⟨_, _, h2, _⟩ := hid a z
      rw [e] at h2
      cases h2) fun a o e g => by
      rw [gAft_out fun z => ?_, g]
      obtain ⟨_, _, _, q⟩ := hid a z
      rw [g] at q
      cases q
  · obtain ⟨g, h⟩ := Fz.inv e
    exact Fz.of (frzK a g) h
theorem fz_mv1 {G : Gh} {H : Hp} : Fz (gMv1 G) H = Fz G H := by
  funext a
  unfold Fz gMv1
  cases G a with
  | frz => rfl
  | non => rfl
  | tb => rfl
  | my r p => cases r <;> rfl
theorem se_call1 {f : Nat} {a : E} {x : Str} {e : Expr} {gg : Bool} {n k : Nat} {fA : Addr} {fd : FuncData} {ps : List Str} {dvs : List V} {ds : List Value} (h : SE B W Y X a e) (F : FnG X.prog X.w X.K X.mg X.base (L2.CX X.prog X.w) gg n fA fd ps (spF X.K B k (Y.Γ f))) (hgd : gg = true → X.A.guards = some []) (hr : Room n X.A) (hg : Gl X x) (hm : X.mg x = some (.ref fA))
    (hkp : PySem.W.keepIn X.K (.ref fA) = true) (hb : Binds X.K fd ps ds) (hd : Vals dvs ds) (hrd : Reps X.K B (fun _ => none) dvs (Y.dfl f 1)) (tk : Takes X W) (hdb : (x == ("__debug__" : Str)) = false) (he : starEach [e] X.env = (false, eval e X.env) :: starEach [] X.env) (hpl : (backTo pos (starEach [] X.env)).any (·.1) = false) (kk : 1 + dvs.length = k) :
    SE B W Y X (.call1 f a) (.Call (.Name x p) [e] [] pos) := by
  refine SE.mk1 (pe_mono (pe_callG F hgd hr hg hm hkp hb hd (fun σ => passAt tk σ) (pa_cons h.e pa_nil he) hdb he hpl) fun σ H Q ⟨G, ρ, S, P⟩ => ?_) fun k => nofun
  unfold ev at P
  refine ⟨G, ρ, S, PostX.bnd P fun t ρ1 G1 H1 v ee _ S1 R P1 => ?_⟩
  unfold call1T at P1
  cases er : Y.Γ f (t :: (Y.dfl f 1).map .val) with
  | none => rw [er] at P1; exact P1.elim
  | some rr =>
    obtain ⟨r, ts'⟩ := rr
    rw [er] at P1
    simp only at P1
    by_cases hlt : ts'.length = 1 + (Y.dfl f 1).length
    · rw [if_pos hlt] at P1
      have ld := hrd.length
      have A0 : Args X.K B (gMv1 G1) H1 ([v] ++ dvs) (t :: (Y.dfl f 1).map .val) := fun j v' t' hv ht => by
        cases j with
        | zero =>
          have e1 := Option.some.inj hv
          have e2 := Option.some.inj ht
          subst e1 e2
          exact (show RepT X.K B G1 H1 0 [] v t from R).stay (fun a o e g => ⟨e, gMv1_frz g⟩) fun a o p e g => ⟨e, gMv1_0 g⟩
        | succ j =>
          have ht' : ((Y.dfl f 1).map T.val)[j]? = some t' := ht
          have hv' : dvs[j]? = some v' := hv
          rw [List.getElem?_map] at ht'
          cases q : (Y.dfl f 1)[j]? with
          | none => rw [q] at ht'; cases ht'
          | some d =>
            rw [q] at ht'
            have e2 : T.val d = t' := Option.some.inj ht'
            subst e2
            obtain ⟨v2, h1, h2⟩ := hrd.get q
            rw [hv'] at h1
            have e3 := Option.some.inj h1
            subst e3
            exact .val (h2.mono fun a o z => by cases z)
      refine ⟨by rw [List.length_append]; exact kk, gMv1 G1, t :: (Y.dfl f 1).map .val, r, ts', by simp only [List.length_append, List.length_cons, List.length_map, List.length_nil]; omega, S1.fresh.same (fun a e => gMv1_non (S1.fresh.fr a e)) (fun a o e g => gMv1_tb g), A0, er, ?_⟩
      cases r with
      | ok t =>
        intro G' H' v n fr rt A
        obtain ⟨h1, h2, h3, h4, h5⟩ := args_out1 S1 n fr
        exact P1 _ _ _ h1 h2 (h3 rt)
      | err c d =>
        intro G' H' dx n fr A ⟨v, x1, x2⟩
        obtain ⟨h1, h2, h3, h4, h5⟩ := args_out1 S1 n fr
        exact P1 _ _ dx h1 h2 ⟨v, ⟨x1.1, h5 _ _ x1.2⟩, h4 x2⟩
    · rw [if_neg hlt] at P1
      exact P1.elim
end
end Ev
end

section
set_option linter.all false
set_option maxRecDepth 100000
set_option maxHeartbeats 4000000
/-! The language is what the machine does: targets, what is walked, comprehensions. -/
namespace Ev
open PySem L2 PySem.Spec PyProof.Rows

/-- σ' differs from σ at the slots l alone -/
def Sm (l : List Nat) (σ σ' : L2.St) : Prop := σ'.length = σ.length ∧ ∀ i, i ∉ l → σ'[i]? = σ[i]?
theorem Sm.refl {l : List Nat} {σ : L2.St} : Sm l σ σ := ⟨rfl, fun _ _ => rfl⟩
theorem Sm.trans {l m : List Nat} {σ σ1 σ2 : L2.St} (a : Sm l σ σ1) (b : Sm m σ1 σ2) : Sm (l ++ m) σ σ2 := ⟨b.1.trans a.1, fun i h => (b.2 i fun z => h (List.mem_append_right _ z)).trans (a.2 i fun z => h (List.mem_append_left _ z))⟩
theorem Sm.more {l m : List Nat} {σ σ1 : L2.St} (a : Sm l σ σ1) (h : ∀ i, i ∈ l → i ∈ m) : Sm m σ σ1 := ⟨a.1, fun i k => a.2 i fun z => k (h i z)⟩
theorem Sm.set {σ : L2.St} {i : Nat} {o : Option V} : Sm [i] σ (σ.set i o) := ⟨List.length_set, fun j h => by
  rw [List.getElem?_set_ne]
  intro z
  exact h (by rw [z]; exact List.mem_singleton.mpr rfl)⟩
theorem wipe_in {σ : L2.St} {i : Nat} : ∀ {vs : List Nat}, i ∈ vs → i < σ.length → (L2.wipe σ vs)[i]? = some none
  | [], h, _ => by cases h
  | v :: vs, h, hl => by
    unfold L2.wipe
    by_cases hv : v = i
    · subst hv
      rw [List.getElem?_set_self (by rw [wipe_length]; exact hl)]
    · rw [List.getElem?_set_ne hv]
      exact wipe_in ((List.mem_cons.mp h).resolve_left fun z => hv z.symm) hl
theorem Sm.wipe {l vs : List Nat} {σ σ' : L2.St} (a : Sm l σ σ') (h : ∀ i, i ∈ l → i ∈ vs) : L2.wipe σ' vs = L2.wipe σ vs := by
  refine List.ext_getElem? fun i => ?_
  by_cases hi : i ∈ vs
  · by_cases hl : i < σ.length
    · rw [wipe_in hi hl, wipe_in hi (by rw [a.1]; exact hl)]
    · rw [List.getElem?_eq_none (by rw [wipe_length, a.1]; omega), List.getElem?_eq_none (by rw [wipe_length]; omega)]
  · rw [wipe_out hi, wipe_out hi]
    exact a.2 i fun z => hi (h i z)
theorem wipe_wipe {vs : List Nat} {σ : L2.St} : L2.wipe (L2.wipe σ vs) vs = L2.wipe σ vs := by
  refine List.ext_getElem? fun i => ?_
  by_cases hi : i ∈ vs
  · by_cases hl : i < σ.length
    · rw [wipe_in hi hl, wipe_in hi (by rw [wipe_length]; exact hl)]
    · rw [List.getElem?_eq_none (by rw [wipe_length, wipe_length]; omega), List.getElem?_eq_none (by rw [wipe_length]; omega)]
  · rw [wipe_out hi]

/-! ### targets -/
section
variable (K : PySem.W.Frag) (B : Cls0)
def tG (g : Tg) : TG := fun v σ H Q => ∃ G ρ d ρ', Sta K B G ρ σ H ∧ Rep K B (Fz G H) v d ∧ asgD g d ρ = some ρ' ∧ ∀ σ', Sta K B G ρ' σ' H → Sm (tgs g) σ σ' → Q σ' H
def tGs (gs : List Tg) : TGs := fun vs σ H Q => ∃ G ρ ds ρ', Sta K B G ρ σ H ∧ Reps K B (Fz G H) vs ds ∧ asgDs gs ds ρ = some ρ' ∧ ∀ σ', Sta K B G ρ' σ' H → Sm (tgss gs) σ σ' → Q σ' H
end
section
variable {B : Cls0} {X : Cx} {pos : Pos}
theorem Sta.putD {K : PySem.W.Frag} {G : Gh} {ρ : Env} {σ : L2.St} {H : Hp} (S : Sta K B G ρ σ H) {i : Nat} {v : V} {d : D} (R : Rep K B (Fz G H) v d) : Sta K B G (ρ.set i (some (.val d))) (σ.set i (some v)) H := by
  refine ⟨?_, fun j t' e => ?_, S.fresh⟩
  · rw [List.length_set, List.length_set]; exact S.len
  · by_cases hj : i = j
    · subst hj
      have hl := look_lt e
      rw [List.length_set] at hl
      have e2 := look_set_some e
      subst e2
      exact ⟨v, by rw [List.getElem?_set_self (by rw [← S.len]; exact hl)], .val R⟩
    · rw [look_set_ne hj] at e
      obtain ⟨w, hv, r⟩ := S.slot j t' e
      exact ⟨w, by rw [List.getElem?_set_ne hj]; exact hv, r⟩
theorem pg_mono {e : Expr} {t t' : TG} (h : PG X e t) (f : ∀ v σ H Q, t' v σ H Q → t v σ H Q) : PG X e t' := ⟨fun pins s σ H v u Q I r q => h.run pins s σ H v u Q I r (f v σ H Q q)⟩
theorem pgs_mono {e : List Expr} {t t' : TGs} (h : PGs X e t) (f : ∀ v σ H Q, t' v σ H Q → t v σ H Q) : PGs X e t' := ⟨fun pins s σ H v u Q I r q => h.run pins s σ H v u Q I r (f v σ H Q q)⟩
theorem sg_name {i : Nat} {x : Str} (hN : X.N.Nodup) (hi : X.N[i]? = some x) (hx : Loc X.env.scope x) (hf : X.fn x = true ∨ X.env.scope.names.lookup x = some .local) : PG X (.Name x pos) (tG X.K B (.v i)) :=
  pg_mono (pg_name hN hi hx hf) fun v σ H Q ⟨G, ρ, d, ρ', S, R, e, q⟩ => by
    have e' : (if i < ρ.length then some (ρ.set i (some (.val d))) else none) = some ρ' := by
      unfold asgD at e
      exact e
    split at e'
    · have e2 := Option.some.inj e'
      subst e2
      exact q _ (S.putD R) Sm.set
    · cases e'
theorem sgs_nil : PGs X [] (tGs X.K B []) := pgs_mono pgs_nil fun vs σ H Q ⟨G, ρ, ds, ρ', S, R, e, q⟩ => by
  cases R with
  | nil =>
    have e2 : some ρ = some ρ' := by unfold asgDs at e; exact e
    have e3 := Option.some.inj e2
    subst e3
    exact ⟨rfl, q _ S Sm.refl⟩
  | cons a r => unfold asgDs at e; cases e
theorem sgs_cons {g : Tg} {gs : List Tg} {e : Expr} {es : List Expr} (h1 : PG X e (tG X.K B g)) (h2 : PGs X es (tGs X.K B gs)) (hs : (assignEach (e :: es) X.env).map (·.2) = assign e X.env :: (assignEach es X.env).map (·.2)) : PGs X (e :: es) (tGs X.K B (g :: gs)) :=
  pgs_mono (pgs_cons h1 h2 hs) fun vs σ H Q ⟨G, ρ, ds, ρ', S, R, e, q⟩ => by
    cases R with
    | nil => unfold asgDs at e; cases e
    | @cons v vr d dr a r =>
      have e' : (match asgD g d ρ with
        | some ρ' => asgDs gs dr ρ'
        | none => none) = some ρ' := by unfold asgDs at e; exact e
      cases e1 : asgD g d ρ with
      | none => rw [e1] at e'; cases e'
      | some ρ1 =>
        rw [e1] at e'
        exact ⟨v, vr, rfl, G, ρ, d, ρ1, S, a, e1, fun σ1 S1 m1 => ⟨G, ρ1, dr, ρ', S1, r, e', fun σ2 S2 m2 => q σ2 S2 (m1.trans m2)⟩⟩
theorem asgDs_len : ∀ {gs : List Tg} {ds : List D} {ρ ρ' : Env}, asgDs gs ds ρ = some ρ' → ds.length = gs.length
  | [], [], _, _, _ => rfl
  | [], _ :: _, _, _, h => by unfold asgDs at h; cases h
  | _ :: _, [], _, _, h => by unfold asgDs at h; cases h
  | g :: gs, d :: ds, ρ, ρ', h => by
    have e' : (match asgD g d ρ with
      | some ρ' => asgDs gs ds ρ'
      | none => none) = some ρ' := by unfold asgDs at h; exact h
    cases e1 : asgD g d ρ with
    | none => rw [e1] at e'; cases e'
    | some ρ1 =>
      rw [e1] at e'
      exact congrArg Nat.succ (asgDs_len e')
theorem sg_tup {gs : List Tg} {es : List Expr} {k n : Nat} (hc : X.calm = true) (h : PGs X es (tGs X.K B gs)) (hn : (assignEach es X.env).length = n) (hst : (assignEach es X.env).findIdx? (·.1) = none) (hl : gs.length = n) : PG X (.Tuple es k pos) (tG X.K B (.tup gs)) := by
  refine ⟨fun pins s σ H v u Q I r ⟨G, ρ, d, ρ', S, R, e, q⟩ => ?_⟩
  cases R with
  | @tup p vs ds a rs =>
    have e' : asgDs gs ds ρ = some ρ' := by unfold asgD at e; exact e
    refine (pg_tup (n := n) hc h hn hst).run pins s σ H _ u Q I r ⟨p, vs, rfl, Fz.sub.seqT a.sq, by rw [rs.length, asgDs_len e', hl], G, ρ, ds, ρ', S, rs, e', fun σ' S' m => q σ' S' m⟩
  | @lst p vs ds a rs =>
    have e' : asgDs gs ds ρ = some ρ' := by unfold asgD at e; exact e
    refine (pg_lst (n := n) hc h hn hst).run pins s σ H _ u Q I r ⟨p, vs, rfl, .inl (.inl (Fz.sub _ _ a)), by rw [rs.length, asgDs_len e', hl], G, ρ, ds, ρ', S, rs, e', fun σ' S' m => q σ' S' m⟩
  | _ => unfold asgD at e; cases e
end

/-! ### what is walked -/
def hidS (hs : List Nat) (q : Nat) : Bool := hs.any fun i => q == i + 1
/-- what stays, whoever runs -/
def Fx (G : Gh) (H : Hp) : Hp := fun a => match G a with
  | .my _ _ => none
  | .tb => none
  | _ => H a
section
variable {K : PySem.W.Frag} {B : Cls0} {σ : L2.St} {G G' G1 : Gh} {H H' H1 : Hp} {ρ ρ' : Env}
theorem Fx.frz {a : Addr} {o : HO} (h : G a = .frz) (e : H a = some o) : Fx G H a = some o := by unfold Fx; rw [h]; exact e
theorem Fx.non {a : Addr} {o : HO} (h : G a = .non) (e : H a = some o) : Fx G H a = some o := by unfold Fx; rw [h]; exact e
theorem Fx.inv {a : Addr} {o : HO} (e : Fx G H a = some o) : (G a = .frz ∨ G a = .non) ∧ H a = some o := by
  unfold Fx at e
  cases h : G a with
  | frz => rw [h] at e; exact ⟨.inl rfl, e⟩
  | non => rw [h] at e; exact ⟨.inr rfl, e⟩
  | tb => rw [h] at e; cases e
  | my r p => rw [h] at e; cases e
theorem Nx.fx (n : Nx G H G1 H1) : Sub (Fx G H) (Fx G1 H1) := fun a o e => by
  obtain ⟨h | h, e'⟩ := Fx.inv e
  · obtain ⟨h1, h2⟩ := (n a o e').1 h
    exact Fx.frz h2 h1
  · obtain ⟨h1, h2⟩ := (n a o e').2 h
    exact Fx.non h2 h1
theorem Fx.sub : Sub (Fx G H) H := fun _ _ e => (Fx.inv e).2
theorem fz_hid {s : Nat → Bool} : Fz (gHid s G) H = Fz G H := by
  funext a
  unfold Fz
  cases e : G a with
  | frz => rw [gHid_frz e]
  | non => rw [gHid_non e]
  | tb => rw [gHid_tb e]
  | my r p =>
    cases hs : s r with
    | true => rw [gHid_at e hs]
    | false => rw [gHid_ne e hs]
theorem fz_fx : Sub (Fz G H) (Fx G H) := fun a o e => by
  obtain ⟨h, e'⟩ := Fz.inv e
  exact Fx.frz h e'
/-- fewer hidden names, one more frozen -/
theorem fx_hid_mono {s s' : Nat → Bool} (h : ∀ q, s q = true → s' q = true) : Sub (Fx (gHid s G) H) (Fx (gHid s' G) H) := fun a o e => by
  obtain ⟨h1, e'⟩ := Fx.inv e
  cases g : G a with
  | frz => exact Fx.frz (gHid_frz g) e'
  | non => exact Fx.non (gHid_non g) e'
  | tb => rw [gHid_tb g] at h1; rcases h1 with h1 | h1 <;> cases h1
  | my r p =>
    cases hs : s r with
    | true => exact Fx.non (gHid_at g (h r hs)) e'
    | false =>
      rw [gHid_ne g hs] at h1
      rcases h1 with h1 | h1 <;> cases h1
theorem fx_hid_frz {s : Nat → Bool} {r : Nat} : Sub (Fx (gHid s G) H) (Fx (gHid s (gFrz r G)) H) := fun a o e => by
  obtain ⟨h1, e'⟩ := Fx.inv e
  cases g : G a with
  | frz => exact Fx.frz (gHid_frz (gFrz_frz g)) e'
  | non => exact Fx.non (gHid_non (gFrz_non g)) e'
  | tb => rw [gHid_tb g] at h1; rcases h1 with h1 | h1 <;> cases h1
  | my q p =>
    by_cases hq : q = r
    · subst hq
      exact Fx.frz (gHid_frz (gFrz_at g)) e'
    · cases hs : s q with
      | true => exact Fx.non (gHid_at (gFrz_ne g hq) hs) e'
      | false =>
        rw [gHid_ne g hs] at h1
        rcases h1 with h1 | h1 <;> cases h1
/-- each turn gives the next of ds -/
def WalkD (K : PySem.W.Frag) (B : Cls0) (J : L2.It) (ds : List D) (G : Gh) (H : Hp) : Prop := ∃ (Ga : Hp → Prop) (Yy : Nat → Hp → V → Hp → Prop), Walk J ds.length Ga Yy ∧ (∀ G' H', Nx G H G' H' → Ga H') ∧ ∀ i x G' H' H'', Nx G H G' H' → Yy i H' x H'' → ∃ d G'', ds[i]? = some d ∧ Mk1 K B G' H' (.val d) x G'' H''
/-- a value to be walked -/
def RWk (K : PySem.W.Frag) (B : Cls0) : D × List Nat → Env → Gh → Hp → V → Prop := fun w _ G H v => (∀ l, w.1 = .lst l → ∃ a vs, v = .ref a ∧ SqL K (Fx (gHid (hidS w.2) G) H) a vs ∧ Reps K B (Fz G H) vs l) ∧ (∀ l, w.1 = .tup l → ∃ a vs, v = .ref a ∧ SqT K (Fx (gHid (hidS w.2) G) H) a vs ∧ Reps K B (Fz G H) vs l) ∧ ∀ z, w.1 = .str z → v = .str z
def RW (K : PySem.W.Frag) (B : Cls0) : List D × List Nat → Env → Gh → Hp → L2.It → Prop := fun w _ G H J => WalkD K B J w.1 (gHid (hidS w.2) G) H
abbrev tWk (K : PySem.W.Frag) (B : Cls0) (W : WX) (f : Env → Out (D × List Nat)) : TE := fun σ H Q => tX K B W σ (RWk K B) f H Q
abbrev tI (K : PySem.W.Frag) (B : Cls0) (W : WX) (f : Env → Out (List D × List Nat)) : L2.TI := fun σ H Q => tX K B W σ (RW K B) f H Q
/-- data, walked -/
theorem RWk.data {v : V} {d : D} {ρ0 : Env} (r : Rep K B (Fz G H) v d) {hs : List Nat} : RWk K B (d, hs) ρ0 G H v := by
  have up : Sub (Fz G H) (Fx (gHid (hidS hs) G) H) := fun a o x => by
    obtain ⟨g, h⟩ := Fz.inv x
    exact Fx.frz (gHid_frz g) h
  refine ⟨fun l e => ?_, fun l e => ?_, fun z e => ?_⟩
  · have e' : d = .lst l := e
    subst e'
    cases r with
    | lst q rs => exact ⟨_, _, rfl, .inl (.inl (up _ _ q)), rs⟩
  · have e' : d = .tup l := e
    subst e'
    cases r with
    | tup q rs => exact ⟨_, _, rfl, up.seqT q.sq, rs⟩
  · have e' : d = .str z := e
    subst e'
    cases r
    rfl
/-- an own object in a slot, held -/
theorem RWk.slot {v : V} {t : T} {i : Nat} {ρ0 : Env} (r : RepT K B G H (i + 1) [] v t) : RWk K B (frz t, [i]) ρ0 G H v := by
  cases r with
  | val x => exact RWk.data x
  | lst g h rs =>
    refine ⟨fun l e => ?_, fun l e => (by cases e), fun z e => (by cases e)⟩
    injection e with e2
    subst e2
    exact ⟨_, _, rfl, .inl (.inl (Fx.non (gHid_at g (by simp [hidS])) h)), rs⟩
  | dic g h l rs => exact ⟨fun l e => (by cases e), fun l e => (by cases e), fun z e => (by cases e)⟩
  | ins g h l rs => exact ⟨fun l e => (by cases e), fun l e => (by cases e), fun z e => (by cases e)⟩
theorem RWk.mono {w : D × List Nat} {ρ0 ρ1 : Env} {v : V} (r : RWk K B w ρ0 G H v) (h1 : Sub (Fx (gHid (hidS w.2) G) H) (Fx (gHid (hidS w.2) G1) H1)) (h2 : Sub (Fz G H) (Fz G1 H1)) : RWk K B w ρ1 G1 H1 v := by
  refine ⟨fun l e => ?_, fun l e => ?_, r.2.2⟩
  · obtain ⟨a, vs, e1, e2, e3⟩ := r.1 l e
    exact ⟨a, vs, e1, h1.seqL e2, e3.mono h2⟩
  · obtain ⟨a, vs, e1, e2, e3⟩ := r.2.1 l e
    exact ⟨a, vs, e1, h1.seqT e2, e3.mono h2⟩
/-- a slot, walked -/
theorem wk_var {oc : Nat → Bool} {i : Nat} {f : Env → Out T} (S : Sta K B G ρ σ H) : (∀ {w ρ1}, evWk oc (.v i) f ρ = some (.ok w, ρ1) → ∃ v G1, σ[i]? = some (some v) ∧ Nx G H G1 H ∧ (∀ s, Sub (Fx (gHid s G) H) (Fx (gHid s G1) H)) ∧ Sta K B G1 ρ1 σ H ∧ RWk K B w ρ1 G1 H v) ∧ ∀ {c d ρ1}, evWk oc (.v i) f ρ ≠ some (.err c d, ρ1) := by
  have e0 : evWk oc (.v i) f ρ = (match look ρ i with
    | none => none
    | some (.val d) => ret (d, []) ρ
    | some t => if oc i then ret (frz t, []) (ρ.set i (some (.val (frz t)))) else ret (frz t, [i]) ρ) := rfl
  rw [e0]
  cases e : look ρ i with
  | none => exact ⟨fun h => (by cases h), fun h => (by cases h)⟩
  | some t =>
    obtain ⟨v, hv, R⟩ := S.slot i t e
    have own : ∀ {w ρ1}, (if oc i = true then ret (frz t, ([] : List Nat)) (ρ.set i (some (.val (frz t)))) else ret (frz t, [i]) ρ) = some (.ok w, ρ1) → ∃ v G1, σ[i]? = some (some v) ∧ Nx G H G1 H ∧ (∀ s, Sub (Fx (gHid s G) H) (Fx (gHid s G1) H)) ∧ Sta K B G1 ρ1 σ H ∧ RWk K B w ρ1 G1 H v := fun {w ρ1} h => by
      split at h
      · injection h with h
        injection h with h1 h2
        injection h1 with h1
        subst h1 h2
        exact ⟨v, gFrz (i + 1) G, hv, Nx.gFrz, fun s => fx_hid_frz, S.frzSlot e, RWk.data R.frzd⟩
      · injection h with h
        injection h with h1 h2
        injection h1 with h1
        subst h1 h2
        exact ⟨v, G, hv, Nx.refl, fun s a o z => z, S, RWk.slot R⟩
    have own2 : ∀ {c d ρ1}, (if oc i = true then ret (frz t, ([] : List Nat)) (ρ.set i (some (.val (frz t)))) else ret (frz t, [i]) ρ) ≠ some (.err c d, ρ1) := fun h => by
      split at h <;> cases h
    cases t with
    | val d =>
      refine ⟨fun {w ρ1} h => ?_, fun h => by cases h⟩
      injection h with h
      injection h with h1 h2
      injection h1 with h1
      subst h1 h2
      cases R with
      | val r => exact ⟨v, G, hv, Nx.refl, fun s a o z => z, S, RWk.data r⟩
    | lst l => exact ⟨own, own2⟩
    | dic a b => exact ⟨own, own2⟩
    | ins a b => exact ⟨own, own2⟩
/-! walks -/
theorem wd_at {J : L2.It} {Ga : Hp → Prop} {vs : List V} {ds : List D} (w : Walk J vs.length Ga (YAt vs)) (hG : ∀ G' H', Nx G H G' H' → Ga H') (r : Reps K B (Fz G H) vs ds) : WalkD K B J ds G H :=
  ⟨Ga, YAt vs, by rw [← r.length]; exact w, hG, fun i x G' H' H'' n ⟨e, hx⟩ => by
    subst e
    obtain ⟨d, hd, rd⟩ := (n.reps r).getV hx
    exact ⟨d, G', hd, .val rd⟩⟩
theorem wd_list {a : Addr} {vs : List V} {ds : List D} (q : SqL K (Fx G H) a vs) (r : Reps K B (Fz G H) vs ds) : WalkD K B (L2.Itl K a) ds G H := wd_at walk_list (fun _ _ n => Fx.sub.seqL (n.fx.seqL q)) r
theorem wd_tup {a : Addr} {vs : List V} {ds : List D} (q : SqT K (Fx G H) a vs) (r : Reps K B (Fz G H) vs ds) : WalkD K B (L2.Itt K a) ds G H := wd_at walk_tup (fun _ _ n => Fx.sub.seqT (n.fx.seqT q)) r
theorem pairs_get : ∀ (l : List D) (k i : Nat) {d : D}, l[i]? = some d → (pairs l k)[i]? = some (.tup [.int ((k + i : Nat) : Int), d])
  | [], _, _, _, h => by simp at h
  | e :: r, k, 0, d, h => by
    have e2 := Option.some.inj h
    subst e2
    rfl
  | e :: r, k, i + 1, d, h => by
    have := pairs_get r (k + 1) i (d := d) h
    show (pairs r (k + 1))[i]? = _
    rw [this]
    congr 5
    omega
theorem pairs_length : ∀ (l : List D) (k : Nat), (pairs l k).length = l.length
  | [], _ => rfl
  | _ :: r, k => congrArg Nat.succ (pairs_length r (k + 1))
theorem zips_get : ∀ (l m : List D) (i : Nat) {d e : D}, l[i]? = some d → m[i]? = some e → (zips l m)[i]? = some (.tup [d, e])
  | [], _, _, _, _, h, _ => by simp at h
  | _ :: _, [], _, _, _, _, h => by simp at h
  | a :: r, b :: s, 0, d, e, h, h' => by
    have e2 := Option.some.inj h
    have e3 := Option.some.inj h'
    subst e2 e3
    rfl
  | a :: r, b :: s, i + 1, d, e, h, h' => zips_get r s i (d := d) (e := e) h h'
theorem zips_length : ∀ (l m : List D), (zips l m).length = min l.length m.length
  | [], m => by unfold zips; simp
  | _ :: _, [] => by unfold zips; simp
  | a :: r, b :: s => by
    show (zips r s).length + 1 = _
    rw [zips_length r s, List.length_cons, List.length_cons]
    omega
theorem wd_pair {J : L2.It} {f g : Nat → Option V} {ds : List D} {Ga : Hp → Prop} (w : Walk J ds.length Ga (YPairF f g)) (hG : ∀ G' H', Nx G H G' H' → Ga H') (hi : ∀ i x y, f i = some x → g i = some y → ∃ d e, ds[i]? = some (.tup [d, e]) ∧ Rep K B (Fz G H) x d ∧ Rep K B (Fz G H) y e) : WalkD K B J ds G H :=
  ⟨Ga, YPairF f g, w, hG, fun i v G' H' H'' n ⟨p, o, x, y, e1, e2, e6, e3, e4, e5⟩ => by
    obtain ⟨d, e, hd, r1, r2⟩ := hi i x y e4 e5
    subst e1 e3
    exact ⟨_, _, hd, Mk1.newT e2 e6.1 e6.2 (.cons (n.rep r1) (.cons (n.rep r2) .nil))⟩⟩
theorem wd_enB {b : Bool} {a : Addr} {vs : List V} {ds : List D} (q : SqB K (Fx G H) a b vs) (r : Reps K B (Fz G H) vs ds) : WalkD K B (IteB K b a) (pairs ds 0) G H := by
  refine wd_pair (f := fun i => some (V.int (i : Nat))) (g := fun i => vs[i]?) ?_ (fun G' H' n => Fx.sub.seqB (n.fx.seqB q)) fun i x y e1 e2 => ?_
  · rw [pairs_length, ← r.length]
    exact walk_enB
  · obtain ⟨d, hd, rd⟩ := r.getV e2
    have ep := pairs_get ds 0 i hd
    rw [Nat.zero_add] at ep
    cases e1
    exact ⟨_, d, ep, .int _, rd⟩
theorem zip_items {vs vs' : List V} {ds ds' : List D} (r : Reps K B (Fz G H) vs ds) (r' : Reps K B (Fz G H) vs' ds') (i : Nat) (x y : V) (e1 : vs[i]? = some x) (e2 : vs'[i]? = some y) : ∃ d e, (zips ds ds')[i]? = some (.tup [d, e]) ∧ Rep K B (Fz G H) x d ∧ Rep K B (Fz G H) y e := by
  obtain ⟨d, hd, rd⟩ := r.getV e1
  obtain ⟨e, he, re⟩ := r'.getV e2
  exact ⟨d, e, zips_get ds ds' i hd he, rd, re⟩
theorem wd_zipB {b1 b2 : Bool} {a a' : Addr} {vs vs' : List V} {ds ds' : List D} (q : SqB K (Fx G H) a b1 vs) (r : Reps K B (Fz G H) vs ds) (q' : SqB K (Fx G H) a' b2 vs') (r' : Reps K B (Fz G H) vs' ds') : WalkD K B (ItzB K b1 a b2 a') (zips ds ds') G H := by
  refine wd_pair (Ga := fun H => SqB K H a b1 vs ∧ SqB K H a' b2 vs') (f := fun i => vs[i]?) (g := fun i => vs'[i]?) ?_ (fun G' H' n => ⟨Fx.sub.seqB (n.fx.seqB q), Fx.sub.seqB (n.fx.seqB q')⟩) (zip_items r r')
  have el : (zips ds ds').length = min vs.length vs'.length := by rw [zips_length, r.length, r'.length]
  rw [el]
  exact walk_zB
theorem wd_str {z : Str} : WalkD K B (L2.Its z) (z.cps.toList.map fun c => .str ⟨#[c]⟩) G H :=
  ⟨fun _ => True, fun i H v H' => H' = H ∧ ∃ c, z.cps[i]? = some c ∧ v = .str ⟨#[c]⟩, by rw [List.length_map, Array.length_toList]; exact walk_str, fun _ _ _ => trivial, fun i x G' H' H'' n ⟨e, c, hc, hx⟩ => by
    subst e hx
    refine ⟨.str ⟨#[c]⟩, G', ?_, .val (.str _)⟩
    rw [List.getElem?_map, Array.getElem?_toList, hc]
    rfl⟩
theorem wd_range {lo : Int} {n : Nat} : WalkD K B (L2.Itr lo n) ((List.range n).map fun k => .int (lo + (k : Nat))) G H :=
  ⟨fun _ => True, fun i H x H' => i < n ∧ H' = H ∧ x = .int (lo + i), by
    rw [List.length_map, List.length_range]
    exact ⟨fun i H hi _ => walk_range.goes i H hi trivial, fun H _ => walk_range.stops H trivial, fun i H x H' hi _ y => ⟨hi, walk_range.yields i H x H' hi trivial y⟩⟩, fun _ _ _ => trivial, fun i x G' H' H'' n ⟨hi, e, hx⟩ => by
    subst e hx
    refine ⟨.int (lo + (i : Nat)), G', ?_, .val (.int _)⟩
    rw [List.getElem?_map, List.getElem?_range hi]
    rfl⟩
end
end Ev
end

section
set_option linter.all false
set_option maxRecDepth 100000
set_option maxHeartbeats 4000000
/-! The language is what the machine does: iterables, comprehensions. -/
namespace Ev
open PySem L2 PySem.Spec PyProof.Rows

theorem bnd_ok {α β : Type} {m : Out α} {k : α → Env → Out β} {c : β} {ρ2 : Env} (h : bnd m k = some (.ok c, ρ2)) : ∃ a ρ1, m = some (.ok a, ρ1) ∧ k a ρ1 = some (.ok c, ρ2) := by
  cases m with
  | none => cases h
  | some q =>
    obtain ⟨r, ρ1⟩ := q
    cases r with
    | ok a => exact ⟨a, ρ1, rfl, h⟩
    | err c d => cases h
theorem opt_ok {α β : Type} {o : Option α} {k : α → Out β} {c : β} {ρ2 : Env} (h : opt o k = some (.ok c, ρ2)) : ∃ a, o = some a ∧ k a = some (.ok c, ρ2) := by
  cases o with
  | none => cases h
  | some a => exact ⟨a, rfl, h⟩
theorem ret_ok {α : Type} {a b : α} {ρ1 ρ2 : Env} (h : ret a ρ1 = some (.ok b, ρ2)) : a = b ∧ ρ1 = ρ2 := by
  injection h with h
  injection h with h1 h2
  injection h1 with h1
  exact ⟨h1, h2⟩

theorem pi_mono {X : Cx} {tg e : Expr} {t t' : L2.TI} (h : PI X tg e t) (f : ∀ σ H R, t' σ H R → t σ H R) : PI X tg e t' := ⟨fun pins s σ H R I q => h.run pins s σ H R I (f σ H R q)⟩
/-- walked as it is -/
def seqE : E → Bool
  | .range _ => false
  | .enum _ => false
  | .zip _ _ => false
  | _ => true
def isV : E → Bool
  | .v _ => true
  | _ => false
section
variable {B : Cls0} {W : WX} {X : Cx} {x y z tg : Expr} {pos p : Pos} {a b c : E} {Y : Sys} {oc : Nat → Bool}
theorem evIt_seq (h : seqE a = true) (ρ : Env) : evIt Y oc a ρ = bnd (evWk oc a (ev Y a) ρ) fun w ρ => opt (itemsD w.1) fun l => ret (l, w.2) ρ := by
  cases a <;> first | (cases h; done) | (unfold evIt; rfl)
theorem evIt_zip (h : (isV a && isV b) = false) (ρ : Env) : evIt Y oc (.zip a b) ρ = bnd (evD (ev Y a ρ)) fun x ρ => bnd (evD (ev Y b ρ)) fun y ρ => opt (zipD x y) fun l => ret (l, []) ρ := by
  cases a <;> cases b <;> first | (cases h; done) | (unfold evIt; rfl)
theorem se_Wk (h : SE B W Y X a x) : PE X x (tWk X.K B W (evWk oc a (ev Y a))) := by
  have gen : (∀ k, a ≠ .v k) → PE X x (tWk X.K B W (evWk oc a (ev Y a))) := fun n => by
    have e : evWk oc a (ev Y a) = fun ρ => bnd (ev Y a ρ) fun t ρ => ret (frz t, []) ρ := by
      funext ρ
      cases a <;> first | rfl | exact absurd rfl (n _)
    rw [e]
    exact pe_mono h.e fun σ H Q ⟨G, ρ, S, P⟩ => ⟨G, ρ, S, PostX.bnd P fun t ρ1 G1 H1 v _ _ S1 R P1 => P1.ret S1.frzTmp Nx.gFrz (RWk.data R.frzd)⟩
  cases a with
  | v k =>
    refine pe_mono (h.v k rfl) fun σ H Q ⟨G, ρ, S, P⟩ => ?_
    obtain ⟨h1, h2⟩ := wk_var (oc := oc) (i := k) (f := ev Y (.v k)) S
    cases e : evWk oc (.v k) (ev Y (.v k)) ρ with
    | none => rw [e] at P; exact P.elim
    | some q =>
      obtain ⟨r, ρ1⟩ := q
      cases r with
      | err c d => exact absurd e h2
      | ok w =>
        rw [e] at P
        obtain ⟨v, G1, hv, n, _, S1, R⟩ := h1 e
        exact ⟨v, hv, P G1 H v n S1 R⟩
  | _ => exact gen fun k q => nomatch q
/-- what is walked is known ahead: the library's rule for it -/
theorem si_seq (h : SE B W Y X a x) (hs : seqE a = true) : PI X tg x (tI X.K B W (evIt Y oc a)) := by
  constructor
  intro pins s σ H R I hw
  have hw2 := hw
  obtain ⟨G, ρ, S, P⟩ := hw
  rw [evIt_seq hs] at P
  have q := se_Wk (oc := oc) h
  cases o : evWk oc a (ev Y a) ρ with
  | none => rw [o] at P; exact P.elim
  | some z =>
    obtain ⟨r, ρ'⟩ := z
    have kn : ∀ {w ρ1 r'}, evWk oc a (ev Y a) ρ = some (.ok w, ρ1) → r = .ok r' → w = r' := fun e1 e2 => by
      rw [o, e2] at e1
      have e3 := Option.some.inj e1
      injection e3 with e4 _
      injection e4 with e5
      exact e5.symm
    have lst : ∀ l hs', r = .ok (.lst l, hs') → (iList X.K (tWk X.K B W (evWk oc a (ev Y a)))) σ H R := fun l hs' er => ⟨G, ρ, S, PostX.bnd P fun w ρ1 G1 H1 v ee _ S1 R1 P1 => by
      have ew := kn ee er
      subst ew
      obtain ⟨l2, el, P2⟩ := P1.opt
      cases el
      obtain ⟨ad, vs, e1, q1, r1⟩ := R1.1 l rfl
      exact ⟨ad, e1, ⟨vs, Fx.sub.seqL q1⟩, P2.ret S1 Nx.refl (wd_list q1 (by rw [fz_hid]; exact r1))⟩⟩
    cases r with
    | err c d =>
      refine (pi_list q).run pins s σ H R I ⟨G, ρ, S, ?_⟩
      rw [o] at P ⊢
      exact P
    | ok w =>
      obtain ⟨d, hs'⟩ := w
      cases d with
      | lst l => exact (pi_list q).run pins s σ H R I (lst l hs' rfl)
      | tup l =>
        refine (pi_tup q).run pins s σ H R I ⟨G, ρ, S, PostX.bnd P fun w ρ1 G1 H1 v ee _ S1 R1 P1 => ?_⟩
        have ew := kn ee rfl
        subst ew
        obtain ⟨l2, el, P2⟩ := P1.opt
        cases el
        obtain ⟨ad, vs, e1, q1, r1⟩ := R1.2.1 l rfl
        exact ⟨ad, e1, ⟨vs, Fx.sub.seqT q1⟩, P2.ret S1 Nx.refl (wd_tup q1 (by rw [fz_hid]; exact r1))⟩
      | str z =>
        refine (pi_str q).run pins s σ H R I ⟨G, ρ, S, PostX.bnd P fun w ρ1 G1 H1 v ee _ S1 R1 P1 => ?_⟩
        have ew := kn ee rfl
        subst ew
        obtain ⟨l2, el, P2⟩ := P1.opt
        cases el
        exact ⟨z, R1.2.2 z rfl, P2.ret S1 Nx.refl wd_str⟩
      | _ => rw [o] at P; exact P.elim
/-- what is walked, a list or a tuple -/
theorem wk_src {K : PySem.W.Frag} {B : Cls0} {G : Gh} {H : Hp} {ρ1 : Env} {w : D × List Nat} {v : V} {l : List D} (R : RWk K B w ρ1 G H v) (e : seqD w.1 = some l) : ∃ b a xs, v = .ref a ∧ SqB K (Fx (gHid (hidS w.2) G) H) a b xs ∧ Reps K B (Fz G H) xs l := by
  obtain ⟨d, k⟩ := w
  cases d <;> first | (cases e; done) | skip
  · cases e
    obtain ⟨a, vs, e1, q1, r1⟩ := R.2.1 _ rfl
    exact ⟨true, a, vs, e1, q1, r1⟩
  · cases e
    obtain ⟨a, vs, e1, q1, r1⟩ := R.1 _ rfl
    exact ⟨false, a, vs, e1, q1, r1⟩
theorem si_enum {elts : List Expr} {kk : Nat} {tpos : Pos} (h : SE B W Y X a x) (hg : Gl X "enumerate") (hm : X.mg "enumerate" = none) (hs : starEach [x] X.env = [(false, eval x X.env)]) :
    PI X (.Tuple elts kk tpos) (.Call (.Name "enumerate" p) [x] [] pos) (tI X.K B W (evIt Y oc (.enum a))) :=
  pi_mono (pi_enB hg hm (pa_cons (se_Wk (oc := oc) h) pa_nil hs) hs) fun σ H R ⟨G, ρ, S, P⟩ => by
    unfold evIt at P
    refine ⟨G, ρ, S, PostX.bnd P fun w ρ1 G1 H1 v _ _ S1 R1 P1 => ?_⟩
    obtain ⟨l, el, P2⟩ := P1.opt
    obtain ⟨bb, ad, vs, e1, q, r⟩ := wk_src R1 el
    exact ⟨bb, ad, vs, by rw [e1], Fx.sub.seqB q, P2.ret S1 Nx.refl (wd_enB q (by rw [fz_hid]; exact r))⟩
theorem zipD_ok {x y : D} {l : List D} (h : zipD x y = some l) : ∃ a b, seqD x = some a ∧ seqD y = some b ∧ l = zips a b := by
  cases x <;> cases y <;> first | (cases h; done) | (cases h; exact ⟨_, _, rfl, rfl, rfl⟩)
theorem zip_go {K : PySem.W.Frag} {B : Cls0} {G : Gh} {H : Hp} {ρ1 ρ2 : Env} {w w' : D × List Nat} {v v' : V} {hs : List Nat} {l : List D} {R : L2.It → Hp → Prop} (R1 : RWk K B w ρ1 G H v) (R2 : RWk K B w' ρ2 G H v') (m1 : ∀ q, hidS w.2 q = true → hidS hs q = true) (m2 : ∀ q, hidS w'.2 q = true → hidS hs q = true) (el : zipD w.1 w'.1 = some l) (go : ∀ J, WalkD K B J l (gHid (hidS hs) G) H → R J H) :
    ∃ b1 a1 b2 a2 xs ys, [v, v'] = [.ref a1, .ref a2] ∧ SqB K H a1 b1 xs ∧ SqB K H a2 b2 ys ∧ R (ItzB K b1 a1 b2 a2) H := by
  obtain ⟨l1, l2, e1, e2, rfl⟩ := zipD_ok el
  obtain ⟨b1, a1, xs, v1, q1, r1⟩ := wk_src R1 e1
  obtain ⟨b2, a2, ys, v2, q2, r2⟩ := wk_src R2 e2
  exact ⟨b1, a1, b2, a2, xs, ys, by rw [v1, v2], Fx.sub.seqB q1, Fx.sub.seqB q2, go _ (wd_zipB ((fx_hid_mono m1).seqB q1) (by rw [fz_hid]; exact r1) ((fx_hid_mono m2).seqB q2) (by rw [fz_hid]; exact r2))⟩
theorem hidS_app {l m : List Nat} {q : Nat} : hidS (l ++ m) q = (hidS l q || hidS m q) := by unfold hidS; rw [List.any_append]
theorem si_zip {elts : List Expr} {kk : Nat} {tpos : Pos} (h : SE B W Y X a x) (h' : SE B W Y X b y) (hg : Gl X "zip") (hm : X.mg "zip" = none)
    (hs : starEach [x, y] X.env = (false, eval x X.env) :: starEach [y] X.env) (hs2 : starEach [y] X.env = [(false, eval y X.env)]) (hpl : (backTo pos (starEach [y] X.env)).any (·.1) = false) :
    PI X (.Tuple elts kk tpos) (.Call (.Name "zip" p) [x, y] [] pos) (tI X.K B W (evIt Y oc (.zip a b))) := by
  by_cases hv : (isV a && isV b) = true
  · cases a with
    | v i =>
      cases b with
      | v j =>
        refine pi_mono (pi_zB hg hm (pa_cons (h.v i rfl) (pa_cons (h'.v j rfl) pa_nil hs2) hs) hs hpl) fun σ H R ⟨G, ρ, S, P⟩ => ?_
        have P0 : PostX X.K B W σ (RW X.K B) (bnd (evWk oc (.v i) (fun _ => none) ρ) fun w ρ => bnd (evWk oc (.v j) (fun _ => none) ρ) fun w' ρ => opt (zipD w.1 w'.1) fun l => ret (l, w.2 ++ w'.2) ρ) G H R := by
          unfold evIt at P
          exact P
        obtain ⟨h1, h2⟩ := wk_var (oc := oc) (i := i) (f := fun _ => none) S
        cases e : evWk oc (.v i) (fun _ => none) ρ with
        | none => rw [e] at P0; exact P0.elim
        | some q =>
          obtain ⟨r, ρ1⟩ := q
          cases r with
          | err c d => exact absurd e h2
          | ok w =>
            rw [e] at P0
            obtain ⟨v, G1, hv1, n1, _, S1, R1⟩ := h1 e
            have P1 : PostX X.K B W σ (RW X.K B) (bnd (evWk oc (.v j) (fun _ => none) ρ1) fun w' ρ => opt (zipD w.1 w'.1) fun l => ret (l, w.2 ++ w'.2) ρ) G H R := P0
            obtain ⟨h3, h4⟩ := wk_var (oc := oc) (i := j) (f := fun _ => none) S1
            cases e' : evWk oc (.v j) (fun _ => none) ρ1 with
            | none => rw [e'] at P1; exact P1.elim
            | some q =>
              obtain ⟨r, ρ2⟩ := q
              cases r with
              | err c d => exact absurd e' h4
              | ok w' =>
                rw [e'] at P1
                obtain ⟨v', G2, hv2, n2, sb, S2, R2⟩ := h3 e'
                have R1' : RWk X.K B w ρ2 G2 H v := R1.mono (sb _) n2.frz
                have P2 : PostX X.K B W σ (RW X.K B) (opt (zipD w.1 w'.1) fun l => ret (l, w.2 ++ w'.2) ρ2) G H R := P1
                obtain ⟨l, el, P3⟩ := P2.opt
                exact ⟨v, hv1, v', hv2, zip_go R1' R2 (fun q z => by rw [hidS_app, z]; rfl) (fun q z => by rw [hidS_app, z, Bool.or_true]) el fun J wd => P3.ret S2 (n1.trans n2) wd⟩
      | _ => cases hv
    | _ => cases hv
  · refine pi_mono (pi_zB hg hm (pa_cons h.d (pa_cons h'.d pa_nil hs2) hs) hs hpl) fun σ H R ⟨G, ρ, S, P⟩ => ?_
    rw [evIt_zip (by simpa using hv)] at P
    refine ⟨G, ρ, S, PostX.bnd P fun d ρ1 G1 H1 v _ _ S1 R1 P1 => ⟨G1, ρ1, S1, PostX.bnd P1 fun d' ρ2 G2 H2 v' _ n2 S2 R2 P2 => ?_⟩⟩
    obtain ⟨l, el, P3⟩ := P2.opt
    have Q1 : RWk X.K B (d, []) ρ2 G2 H2 v := RWk.data (n2.rep R1)
    have Q2 : RWk X.K B (d', []) ρ2 G2 H2 v' := RWk.data R2
    exact zip_go (hs := []) Q1 Q2 (fun q z => z) (fun q z => z) el fun J wd => P3.ret S2 Nx.refl wd
theorem rangeD1 {d : D} {l : List D} (h : rangeD [d] = some l) : ∃ j : Int, d = .int j ∧ -(2 ^ 62) ≤ j ∧ j ≤ LL ∧ l = (List.range j.toNat).map fun k => .int (0 + (k : Nat)) := by
  cases d with
  | int j =>
    have e : (if decide (-(2 ^ 62) ≤ j ∧ j ≤ LL) = true then some ((List.range j.toNat).map fun k => D.int (k : Nat)) else none) = some l := h
    split at e
    · rename_i hj
      have hj := of_decide_eq_true hj
      refine ⟨j, rfl, hj.1, hj.2, ?_⟩
      rw [← Option.some.inj e]
      congr 1
      funext k
      rw [Int.zero_add]
    · cases e
  | _ => cases h
theorem rangeD2 {d d' : D} {l : List D} (h : rangeD [d, d'] = some l) : ∃ i j : Int, d = .int i ∧ d' = .int j ∧ (-(2 ^ 62) ≤ i ∧ i < 2 ^ 62 ∧ -(2 ^ 62) ≤ j ∧ j < 2 ^ 62 ∧ j - i ≤ LL) ∧ l = (List.range (j - i).toNat).map fun k => .int (i + (k : Nat)) := by
  cases d with
  | int i =>
    cases d' with
    | int j =>
      have e : (if decide (-(2 ^ 62) ≤ i ∧ i < 2 ^ 62 ∧ -(2 ^ 62) ≤ j ∧ j < 2 ^ 62 ∧ j - i ≤ LL) = true then some ((List.range (j - i).toNat).map fun k => D.int (i + (k : Nat))) else none) = some l := h
      split at e
      · rename_i hj
        exact ⟨i, j, rfl, rfl, of_decide_eq_true hj, (Option.some.inj e).symm⟩
      · cases e
    | _ => cases h
  | _ => cases h
theorem bnd_bnd {α β γ : Type} {m : Out α} {k : α → Env → Out β} {k' : β → Env → Out γ} : bnd (bnd m k) k' = bnd m fun a ρ => bnd (k a ρ) k' := by
  cases m with
  | none => rfl
  | some q =>
    obtain ⟨r, ρ1⟩ := q
    cases r <;> rfl
theorem evDs1 {ρ : Env} : evDs Y [a] ρ = bnd (evD (ev Y a ρ)) fun d ρ => ret [d] ρ := by
  unfold evDs
  unfold evDs
  rfl
theorem evDs2 {ρ : Env} : evDs Y [a, b] ρ = bnd (evD (ev Y a ρ)) fun d ρ => bnd (evD (ev Y b ρ)) fun e ρ => ret [d, e] ρ := by
  unfold evDs
  congr 1
  funext d ρ
  rw [evDs1, bnd_bnd]
  rfl
theorem LL62 : (LL : Int) < 2 ^ 62 := by decide
theorem si_range1 (h : SE B W Y X a x) (hg : Gl X "range") (hm : X.mg "range" = none) (hs : starEach [x] X.env = [(false, eval x X.env)]) : PI X tg (.Call (.Name "range" p) [x] [] pos) (tI X.K B W (evIt Y oc (.range [a]))) :=
  pi_mono (pi_range1 hg hm (pa_cons h.d pa_nil hs) hs) fun σ H R ⟨G, ρ, S, P⟩ => by
    unfold evIt at P
    rw [evDs1, bnd_bnd] at P
    refine ⟨G, ρ, S, PostX.bnd P fun d ρ1 G1 H1 v _ _ S1 R1 P1 => ?_⟩
    have P1 : PostX X.K B W σ (RW X.K B) (opt (rangeD [d]) fun l => ret (l, []) ρ1) G1 H1 R := P1
    obtain ⟨l, el, P2⟩ := P1.opt
    obtain ⟨j, rfl, h1, h2, rfl⟩ := rangeD1 el
    cases R1
    have := LL62
    exact ⟨j, rfl, h1, by omega, P2.ret S1 Nx.refl wd_range⟩
theorem si_range2 (h : SE B W Y X a x) (h' : SE B W Y X b y) (hg : Gl X "range") (hm : X.mg "range" = none) (hs : starEach [x, y] X.env = [(false, eval x X.env), (false, eval y X.env)]) (hs2 : starEach [y] X.env = [(false, eval y X.env)]) : PI X tg (.Call (.Name "range" p) [x, y] [] pos) (tI X.K B W (evIt Y oc (.range [a, b]))) :=
  pi_mono (pi_range2 hg hm (pa_cons h.d (pa_cons h'.d pa_nil hs2) (by rw [hs, hs2])) hs hs2) fun σ H R ⟨G, ρ, S, P⟩ => by
    unfold evIt at P
    rw [evDs2, bnd_bnd] at P
    refine ⟨G, ρ, S, PostX.bnd P fun d ρ1 G1 H1 v _ _ S1 R1 P1 => ?_⟩
    rw [bnd_bnd] at P1
    refine ⟨G1, ρ1, S1, PostX.bnd P1 fun e ρ2 G2 H2 v2 _ n2 S2 R2 P2 => ?_⟩
    have P2 : PostX X.K B W σ (RW X.K B) (opt (rangeD [d, e]) fun l => ret (l, []) ρ2) G2 H2 R := P2
    obtain ⟨l, el, P3⟩ := P2.opt
    obtain ⟨i, j, rfl, rfl, ⟨h1, h2, h3, h4, h5⟩, rfl⟩ := rangeD2 el
    cases R1
    cases R2
    exact ⟨i, j, rfl, ⟨h1, h2, h3, h4⟩, P3.ret S2 Nx.refl wd_range⟩
/-- list(range(..)) -/
theorem rgV_reps {K : PySem.W.Frag} {F : Hp} {i j : Int} : Reps K B F (rgV i j) ((List.range (j - i).toNat).map fun k => .int (i + (k : Nat))) := by
  unfold rgV
  generalize List.range (j - i).toNat = l
  induction l with
  | nil => exact .nil
  | cons k r ih => exact .cons (.int _) ih
theorem se_lran1 {p2 p3 : Pos} (h : SE B W Y X a x) (hc : X.calm = true) (hg : Gl X "range") (hm : X.mg "range" = none) (hg2 : Gl X "list") (hm2 : X.mg "list" = none) (hs : starEach [x] X.env = (false, eval x X.env) :: starEach [] X.env)
    (hs2 : starEach [.Call (.Name "range" p) [x] [] p2] X.env = (false, eval (.Call (.Name "range" p) [x] [] p2) X.env) :: starEach [] X.env) :
    SE B W Y X (.lran [a]) (.Call (.Name "list" p3) [.Call (.Name "range" p) [x] [] p2] [] pos) := by
  refine SE.mk1 (pe_mono (pe_listRg hc hg2 hm2 (prg_1 hg hm h.d hs) hs2) fun σ H Q ⟨G, ρ, S, P⟩ => ?_) fun k => nofun
  unfold ev at P
  rw [evDs1, bnd_bnd] at P
  refine ⟨G, ρ, S, PostX.bnd P fun d ρ1 G1 H1 v _ _ S1 R1 P1 => ?_⟩
  have P1 : PostX X.K B W σ (RT X.K B) (opt (rangeD [d]) fun l => ret (.lst l) ρ1) G1 H1 Q := P1
  obtain ⟨l, el, P2⟩ := P1.opt
  obtain ⟨j, rfl, h1, h2, rfl⟩ := rangeD1 el
  cases R1
  have := LL62
  have e24 : (LL : Int) ≤ 2 ^ 24 := by decide
  refine ⟨j, rfl, ⟨by omega, by omega, h1, by omega, by omega⟩, fun q hq => ?_⟩
  have m := Mk1.newL (G := G1) hq (rgV_reps (B := B) (K := X.K) (i := 0) (j := j))
  rw [Int.sub_zero] at m
  exact P2.ret (m.sta S1) m.nx m.rep

/-! ### comprehensions -/
theorem back_length {ρ0 : Env} : ∀ {ρ : Env} {l : List Nat}, (back ρ0 ρ l).length = ρ.length
  | ρ, [] => rfl
  | ρ, i :: r => by
    unfold back
    rw [List.length_set]
    exact back_length (l := r)
theorem hide_length : ∀ {ρ : Env} {l : List Nat}, (hide ρ l).length = ρ.length
  | ρ, [] => rfl
  | ρ, i :: r => by
    unfold hide
    rw [List.length_set]
    exact hide_length (l := r)
theorem look_hide_in {i : Nat} : ∀ {ρ : Env} {l : List Nat}, i ∈ l → look (hide ρ l) i = none
  | ρ, [], h => by cases h
  | ρ, j :: r, h => by
    unfold hide
    by_cases hj : j = i
    · subst hj
      exact look_set_none
    · rw [look_set_ne hj]
      exact look_hide_in ((List.mem_cons.mp h).resolve_left fun z => hj z.symm)
theorem look_hide_out {i : Nat} : ∀ {ρ : Env} {l : List Nat}, i ∉ l → look (hide ρ l) i = look ρ i
  | ρ, [], h => rfl
  | ρ, j :: r, h => by
    unfold hide
    rw [look_set_ne fun z => h (by rw [z]; exact List.mem_cons_self)]
    exact look_hide_out fun z => h (List.mem_cons_of_mem _ z)
theorem look_back_in {i : Nat} {ρ0 : Env} {t : T} : ∀ {ρ : Env} {l : List Nat}, i ∈ l → look (back ρ0 ρ l) i = some t → look ρ0 i = some t
  | ρ, [], h, _ => by cases h
  | ρ, j :: r, h, e => by
    unfold back at e
    by_cases hj : j = i
    · subst hj
      have hl := look_lt e
      rw [List.length_set] at hl
      unfold look at e ⊢
      rw [List.getElem?_set_self hl] at e
      rw [List.getD_eq_getElem?_getD] at e
      cases q : ρ0[j]? with
      | none => rw [q] at e; cases e
      | some o => rw [q] at e; exact e
    · rw [look_set_ne hj] at e
      exact look_back_in ((List.mem_cons.mp h).resolve_left fun z => hj z.symm) e
theorem look_back_out {i : Nat} {ρ0 : Env} : ∀ {ρ : Env} {l : List Nat}, i ∉ l → look (back ρ0 ρ l) i = look ρ i
  | ρ, [], h => rfl
  | ρ, j :: r, h => by
    unfold back
    rw [look_set_ne fun z => h (by rw [z]; exact List.mem_cons_self)]
    exact look_back_out fun z => h (List.mem_cons_of_mem _ z)
theorem hidS_mem {hs : List Nat} {i : Nat} : hidS hs (i + 1) = true ↔ i ∈ hs := by
  unfold hidS
  rw [List.any_eq_true]
  constructor
  · rintro ⟨j, hj, e⟩
    have e : i + 1 = j + 1 := by simpa using e
    have : i = j := by omega
    rw [this]
    exact hj
  · intro h
    exact ⟨i, h, by simp⟩
section
variable {K : PySem.W.Frag} {σ : L2.St} {G G' G1 Gn : Gh} {H H' H1 Hn : Hp} {ρ ρ' ρ1 ρn : Env} {hs own : List Nat}
theorem Sta.hid (S : Sta K B G ρ σ H) (ho : ∀ i, i ∈ own → i ∈ hs) : Sta K B (gHid (hidS hs) G) (hide ρ hs) (L2.wipe σ own) H := by
  refine ⟨by rw [hide_length, wipe_length]; exact S.len, fun i t e => ?_, S.fresh.same (fun a e => gHid_non (S.fresh.fr a e)) fun a o e g => gHid_tb g⟩
  have hi : i ∉ hs := fun z => by
    rw [look_hide_in z] at e
    cases e
  rw [look_hide_out hi] at e
  obtain ⟨v, hv, R⟩ := S.slot i t e
  refine ⟨v, by rw [wipe_out fun z => hi (ho i z)]; exact hv, R.stay (fun a o e g => ⟨e, gHid_frz g⟩) fun a o p e g => ⟨e, gHid_ne g ?_⟩⟩
  cases q : hidS hs (i + 1) with
  | false => rfl
  | true => exact absurd (hidS_mem.mp q) hi
theorem Sta.wipe (S : Sta K B G ρ σ H) : Sta K B G (hide ρ own) (L2.wipe σ own) H := by
  refine ⟨by rw [hide_length, wipe_length]; exact S.len, fun i t e => ?_, S.fresh⟩
  have hi : i ∉ own := fun z => by
    rw [look_hide_in z] at e
    cases e
  rw [look_hide_out hi] at e
  obtain ⟨v, hv, R⟩ := S.slot i t e
  exact ⟨v, by rw [wipe_out hi]; exact hv, R⟩
theorem nx_hid {s : Nat → Bool} (n : Nx (gHid s G) H G' H') : Nx G H G' H' := fun a o e => ⟨fun g => (n a o e).1 (gHid_frz g), fun g => (n a o e).2 (gHid_non g)⟩
theorem nx_hid_mono {s s' : Nat → Bool} (h : ∀ q, s q = true → s' q = true) (n : Nx (gHid s' G) H G' H') : Nx (gHid s G) H G' H' := fun a o e => by
  refine ⟨fun g => ?_, fun g => ?_⟩
  · cases q : G a with
    | frz => exact (n a o e).1 (gHid_frz q)
    | non => rw [gHid_non q] at g; cases g
    | tb => rw [gHid_tb q] at g; cases g
    | my r p =>
      cases z : s r with
      | true => rw [gHid_at q z] at g; cases g
      | false => rw [gHid_ne q z] at g; cases g
  · cases q : G a with
    | frz => rw [gHid_frz q] at g; cases g
    | tb => rw [gHid_tb q] at g; cases g
    | non => exact (n a o e).2 (gHid_non q)
    | my r p =>
      cases z : s r with
      | true => exact (n a o e).2 (gHid_at q (h r z))
      | false => rw [gHid_ne q z] at g; cases g
/-- the hidden come back -/
theorem Sta.unhid (S : Sta K B G1 ρ1 σ H1) (Sn : Sta K B Gn ρn (L2.wipe σ own) Hn) (n : Nx (gHid (hidS hs) G1) H1 Gn Hn) (ho : ∀ i, i ∈ own → i ∈ hs) :
    Nx G1 H1 (gBack (hidS hs) G1 Gn) Hn ∧ Sta K B (gBack (hidS hs) G1 Gn) (back ρ1 ρn hs) σ Hn ∧ (∀ a o, H1 a = none → Hn a = some o → gBack (hidS hs) G1 Gn a = Gn a) ∧ Sub (Fz Gn Hn) (Fz (gBack (hidS hs) G1 Gn) Hn) := by
  have heap : ∀ a q p, G1 a = .my q p → ∃ o, H1 a = some o := fun a q p g => by
    cases e : H1 a with
    | some o => exact ⟨o, rfl⟩
    | none => rw [S.fresh.fr a e] at g; cases g
  have held : ∀ a q p, G1 a = .my q p → hidS hs q = true → ∃ o, H1 a = some o ∧ Hn a = some o ∧ Gn a = .non := fun a q p g z => by
    obtain ⟨o, e⟩ := heap a q p g
    obtain ⟨h1, h2⟩ := (n a o e).2 (gHid_at g z)
    exact ⟨o, e, h1, h2⟩
  have same : ∀ a, Gn a ≠ .non → gBack (hidS hs) G1 Gn a = Gn a := fun a h => gBack_ne fun q p g => by
    cases z : hidS hs q with
    | false => rfl
    | true =>
      obtain ⟨_, _, _, k⟩ := held a q p g z
      exact absurd k h
  have frzK : ∀ a, Gn a = .frz → gBack (hidS hs) G1 Gn a = .frz := fun a h => (same a (by rw [h]; exact fun z => by cases z)).trans h
  refine ⟨fun a o e => ⟨fun g => ?_, fun g => ?_⟩, ⟨?_, fun i t e => ?_, ?_⟩, fun a o e e' => gBack_ne fun q p g => ?_, fun a o e => ?_⟩
  · obtain ⟨h1, h2⟩ := (n a o e).1 (gHid_frz g)
    exact ⟨h1, frzK a h2⟩
  · obtain ⟨h1, h2⟩ := (n a o e).2 (gHid_non g)
    exact ⟨h1, by rw [gBack_ne (fun q p g' => by rw [g] at g'; cases g')]; exact h2⟩
  · rw [back_length, Sn.len, wipe_length]
  · by_cases hi : i ∈ hs
    · have e1 := look_back_in hi e
      obtain ⟨v, hv, R⟩ := S.slot i t e1
      refine ⟨v, hv, R.stay (fun a o e g => ?_) fun a o p e g => ?_⟩
      · obtain ⟨h1, h2⟩ := (n a o e).1 (gHid_frz g)
        exact ⟨h1, frzK a h2⟩
      · obtain ⟨h1, h2⟩ := (n a o e).2 (gHid_at g (hidS_mem.mpr hi))
        exact ⟨h1, gBack_at g (hidS_mem.mpr hi)⟩
    · rw [look_back_out hi] at e
      obtain ⟨v, hv, R⟩ := Sn.slot i t e
      rw [wipe_out fun z => hi (ho i z)] at hv
      exact ⟨v, hv, R.stay (fun a o e g => ⟨e, frzK a g⟩) fun a o p e g => ⟨e, (same a (by rw [g]; exact fun z => by cases z)).trans g⟩⟩
  · refine Sn.fresh.same (fun a e => ?_) fun a o e g => (same a (by rw [g]; exact fun z => by cases z)).trans g
    rw [gBack_ne fun q p g => ?_]
    · exact Sn.fresh.fr a e
    · cases z : hidS hs q with
      | false => rfl
      | true =>
        obtain ⟨o, _, h2, _⟩ := held a q p g z
        rw [e] at h2
        cases h2
  · obtain ⟨o', h⟩ := heap a q p g
    rw [e] at h
    cases h
  · obtain ⟨g, h⟩ := Fz.inv e
    exact Fz.of (frzK a g) h
end
def WF : WX := fun _ _ _ _ => False
theorem lc_core2 {g : Tg} {it : E} {ifs : List E} {own : List Nat} (ho : ∀ i, i ∈ tgs g → i ∈ own) : ∀ σ H Q, tE X.K B W (ev Y (.lc a g it ifs own)) σ H Q →
    tLc (tI X.K B W (evIt Y (fun i => occ i 100 a || ifs.any (occ i 100)) it)) (tG X.K B g) (tT X.K B WF (evTs Y ifs)) (tD X.K B WF fun ρ => evD (ev Y a ρ)) own σ H Q := fun σ H Q ⟨G, ρ, S, P⟩ => by
  unfold ev at P
  refine ⟨G, ρ, S, PostX.bnd P fun w ρ1 G1 H1 J _ _ S1 RJ P1 => ?_⟩
  intro La hD
  by_cases hz : w.1.length ≤ LL
  case neg =>
    rw [if_neg hz] at P1
    exact P1.elim
  rw [if_pos hz] at P1
  generalize hstep : (fun (d : Ev.D) (ρ : Env) => opt (asgD g d ρ) fun ρ => bnd (evTs Y ifs ρ) fun b ρ => (match b with
        | true => bnd (evD (ev Y a ρ)) fun y ρ => ret (some y) (hide ρ own)
        | false => ret none (hide ρ own))) = step at P1
  cases el : lcLoop step w.1 (hide ρ1 (own ++ w.2)) with
  | none => rw [el] at P1; exact P1.elim
  | some q =>
    obtain ⟨r, ρ2⟩ := q
    cases r with
    | err c d => rw [el] at P1; exact P1.elim
    | ok ds =>
      rw [el] at P1
      have P2 : PostX X.K B W σ (RT X.K B) (ret (.lst ds) (back ρ1 ρ2 (own ++ w.2))) G1 H1 Q := P1
      obtain ⟨Ga, Yy, wk, hGa, hY⟩ := RJ
      have hoh : ∀ i, i ∈ own → i ∈ own ++ w.2 := fun i h => List.mem_append_left _ h
      have hmo : ∀ q, hidS w.2 q = true → hidS (own ++ w.2) q = true := fun q h => by rw [hidS_app, h, Bool.or_true]
      refine lc_it wk (fun i H => ∃ Gi ρi acc accD rest, Sta X.K B Gi ρi (L2.wipe σ own) H ∧ Nx (gHid (hidS (own ++ w.2)) G1) H1 Gi H ∧ H La = some (.lst acc) ∧ Gi La = .non ∧ Reps X.K B (Fz Gi H) acc accD ∧ lcLoop step (w.1.drop i) ρi = some (.ok rest, ρ2) ∧ accD ++ rest = ds ∧ acc.length ≤ i) ?_ ?_ ?_ ?_
      · exact ⟨gNew La .non (gHid (hidS (own ++ w.2)) G1), hide ρ1 (own ++ w.2), [], [], ds, (S1.hid hoh).new hD, Nx.new hD, upd_same, gNew_same, .nil, by rw [List.drop_zero]; exact el, rfl, Nat.le_refl _⟩
      · intro i H hi ⟨Gi, ρi, acc, accD, rest, Si, n, _⟩
        exact hGa Gi H (nx_hid_mono hmo n)
      · intro i x H H' hi ⟨Gi, ρi, acc, accD, rest, Si, n, hd, gd, rs, ee, ea, hl⟩ hy
        obtain ⟨d, G2, hdi, mk⟩ := hY i x Gi H H' (nx_hid_mono hmo n) hy
        have edr : w.1.drop i = d :: w.1.drop (i + 1) := by
          rw [List.drop_eq_getElem_cons hi]
          congr 1
          have := (List.getElem?_eq_some_iff.mp hdi).2
          exact this
        rw [edr] at ee
        have ee' : (bnd (step d ρi) fun o ρ => bnd (lcLoop step (w.1.drop (i + 1)) ρ) fun ds ρ => ret (match o with | some x => x :: ds | none => ds) ρ) = some (.ok rest, ρ2) := ee
        obtain ⟨o, ρ3, es, ee2⟩ := bnd_ok ee'
        obtain ⟨rest', ρ4, el', ee3⟩ := bnd_ok ee2
        obtain ⟨er, e4⟩ := ret_ok ee3
        subst e4
        subst hstep
        obtain ⟨ρa, ea', es2⟩ := opt_ok es
        obtain ⟨b, ρb, eb, es3⟩ := bnd_ok es2
        have hrep : Rep X.K B (Fz G2 H') x d := by
          cases mk.rep with
          | val r => exact r
        have n2 : Nx Gi H G2 H' := mk.nx
        refine ⟨G2, ρi, d, ρa, mk.sta Si, hrep, ea', fun σ2 S2 m2 => ⟨(m2.wipe ho).trans wipe_wipe, G2, ρa, S2, ?_⟩⟩
        have ew : L2.wipe σ2 own = L2.wipe σ own := (m2.wipe ho).trans wipe_wipe
        rw [eb]
        intro G3 H3 b' n3 S3 R3
        have R3 : b' = b := R3
        subst R3
        cases b' with
        | false =>
          rw [if_neg Bool.false_ne_true]
          obtain ⟨eo, e5⟩ := ret_ok es3
          subst eo e5
          have nn := n2.trans n3
          obtain ⟨hd', gd'⟩ := (nn La _ hd).2 gd
          have S4 := S3.wipe (own := own)
          rw [ew] at S4
          exact ⟨G3, hide ρb own, acc, accD, rest', S4, n.trans nn, hd', gd', nn.reps rs, el', by rw [← ea, ← er], by omega⟩
        | true =>
          rw [if_pos rfl]
          obtain ⟨y, ρc, ey, es4⟩ := bnd_ok es3
          obtain ⟨eo, e5⟩ := ret_ok es4
          subst eo e5
          refine ⟨G3, ρb, S3, ?_⟩
          show PostX X.K B WF σ2 (RD X.K B) (evD (ev Y a ρb)) G3 H3 _
          rw [ey]
          intro G4 H4 yv n4 S4 R4
          have nn := (n2.trans n3).trans n4
          obtain ⟨hd', gd'⟩ := (nn La _ hd).2 gd
          have S5 := S4.wipe (own := own)
          rw [ew] at S5
          have up : Sub (Fz G4 H4) (Fz G4 (upd H4 La (.lst (acc ++ [yv])))) := fun c o e => by
            obtain ⟨g, h⟩ := Fz.inv e
            refine Fz.of g ?_
            rw [upd_ne fun z => ?_]
            · exact h
            · rw [z, gd'] at g
              cases g
          refine ⟨acc, hd', LL_lt (by omega), G4, hide ρc own, acc ++ [yv], accD ++ [y], rest', ?_, ?_, upd_same, gd', ((nn.reps rs).mono up).append (.cons (Rep.mono up R4) .nil), el', by rw [← ea, ← er, List.append_assoc]; rfl, by rw [List.length_append]; show acc.length + 1 ≤ _; omega⟩
          · refine S5.keep (fun c o e g => ⟨?_, g⟩) (fun j c o p _ e g => ⟨?_, g⟩) (fun c e => ?_) (fun c o e g => ⟨by rw [upd_ne fun z => by rw [z, gd'] at g; cases g]; exact e, g⟩) (fun c φ e => by rw [upd_ne fun z => by rw [z, hd'] at e; cases e]; exact e) fun c ps e => by
              by_cases hc : c = La
              · rw [hc, upd_same] at e; cases e
              · rw [upd_ne hc] at e; exact ⟨ps, e⟩
            · rw [upd_ne fun z => ?_]
              · exact e
              · rw [z, gd'] at g
                cases g
            · rw [upd_ne fun z => ?_]
              · exact e
              · rw [z, gd'] at g
                cases g
            · by_cases hc : c = La
              · rw [hc, upd_same] at e
                cases e
              · rw [upd_ne hc] at e
                exact S5.fresh.fr c e
          · refine fun c o e => ?_
            have nc : c ≠ La := new_ne hD e
            rw [upd_ne nc]
            exact (n.trans nn) c o e
      · intro H ⟨Gi, ρi, acc, accD, rest, Si, n, hd, gd, rs, ee, ea, hl⟩
        rw [List.drop_length] at ee
        obtain ⟨er, e4⟩ := ret_ok (show ret ([] : List Ev.D) ρi = some (.ok rest, ρ2) from ee)
        subst er e4
        rw [List.append_nil] at ea
        subst ea
        obtain ⟨u1, u2, u3, u4⟩ := Sta.unhid S1 Si n hoh
        refine P2 (gNew La (.my 0 []) (gBack (hidS (own ++ w.2)) G1 Gi)) H (.ref La) ?_ ?_ ?_
        · refine fun c o e => ?_
          have nc : c ≠ La := new_ne hD e
          rw [gNew_ne nc]
          exact u1 c o e
        · have gbD : gBack (hidS (own ++ w.2)) G1 Gi La = .non := by rw [u3 La _ hD hd]; exact gd
          refine u2.keep (fun c o e g => ⟨e, ?_⟩) (fun j c o p _ e g => ⟨e, ?_⟩) (fun c e => ?_) (fun c o e g => ⟨e, by rw [gNew_ne fun z => by rw [z, gbD] at g; cases g]; exact g⟩) (fun _ _ e => e) fun _ ps e => ⟨ps, e⟩
          · rw [gNew_ne fun z => ?_]
            · exact g
            · rw [z, gbD] at g
              cases g
          · rw [gNew_ne fun z => ?_]
            · exact g
            · rw [z, gbD] at g
              cases g
          · have nc : c ≠ La := fun z => by
              rw [z, hd] at e
              cases e
            rw [gNew_ne nc]
            exact u2.fresh.fr c e
        · refine .lst gNew_same hd ((rs.mono u4).mono fun c o e => ?_)
          obtain ⟨g, h⟩ := Fz.inv e
          refine Fz.of ?_ h
          rw [gNew_ne fun z => ?_]
          · exact g
          · rw [z, u3 La _ hD hd, gd] at g
            cases g
theorem se_lc {g : Tg} {it : E} {ifs : List E} {own : List Nat} {elt iter : Expr} {ifsE : List Expr} {scope : Scope} {ownl : List (Str × Nat)} (hc : X.calm = true) (hN : X.N.Nodup) (hi : PI X tg iter (tI X.K B W (evIt Y (fun i => occ i 100 a || ifs.any (occ i 100)) it))) (ok : BlkOk X.N X.env.scope scope ownl) (hown : own = ownl.map (·.2))
    (hg : ∀ (s : Shared) (H : Hp) (C : Addr) (cl : List (Str × Addr)) (fp : List Addr), PG (X.blk s H scope (compEnvC scope cl C X.env) fp) tg (tG X.K B g)) (ht : ∀ (s : Shared) (H : Hp) (C : Addr) (cl : List (Str × Addr)) (fp : List Addr), PTs (X.blk s H scope (compEnvC scope cl C X.env) fp) ifsE (tT X.K B WF (evTs Y ifs)))
    (he : ∀ (s : Shared) (H : Hp) (C : Addr) (cl : List (Str × Addr)) (fp : List Addr), PE (X.blk s H scope (compEnvC scope cl C X.env) fp) elt (tD X.K B WF fun ρ => evD (ev Y a ρ))) (hs : ∀ x, foldedSetIterable iter X.env x = pure x) (ho : ∀ i, i ∈ tgs g → i ∈ own) :
    SE B W Y X (.lc a g it ifs own) (.ListComp elt [⟨tg, iter, ifsE, 0⟩] scope pos) := by
  refine SE.mk1 (pe_mono (pe_lc hc hN hi ok hg ht he hs) fun σ H Q q => ?_) fun k => nofun
  rw [← hown]
  exact lc_core2 ho σ H Q q
end
end Ev
end

section
set_option linter.all false
set_option maxRecDepth 100000
set_option maxHeartbeats 4000000
/-! From the program's expressions to the language's. -/
namespace Ev
open PySem L2 PySem.Spec PyProof.Rows

/-! ### names -/
structure Tab where
  N : List Str
  np : Nat
  fns : List ((Str × Nat) × Nat)
  cs : List (Str × Nat)
  -- the error classes by name; those that isinstance asks: of so many errors which; whether there are any
  xs : List (Str × Nat)
  is_ : List (Str × Nat × List Nat)
  ne : Bool
  -- no repr runs; the def that hears a lambda, its calls
  gd : Bool
  hd : Option Str
  fl : List ((Str × Nat) × Nat)
/-- under a lambda -/
def Tab.lam (T : Tab) : Tab := ⟨T.N, T.np, T.fl, T.cs, T.xs, T.is_, T.ne, false, none, []⟩
def ixN (x : Str) : List Str → Nat → Option Nat
  | [], _ => none
  | y :: r, k => if y = x then some k else ixN x r (k + 1)
theorem ixN_get {x : Str} : ∀ {l : List Str} {k i : Nat}, ixN x l k = some i → k ≤ i ∧ l[i - k]? = some x
  | [], _, _, h => by cases h
  | y :: r, k, i, h => by
    have h' : (if y = x then some k else ixN x r (k + 1)) = some i := h
    split at h'
    · rename_i e
      have e2 := Option.some.inj h'
      subst e2 e
      exact ⟨Nat.le_refl _, by rw [Nat.sub_self]; rfl⟩
    · obtain ⟨h1, h2⟩ := ixN_get (l := r) h'
      refine ⟨by omega, ?_⟩
      have e : i - k = (i - (k + 1)) + 1 := by omega
      rw [e]
      exact h2
theorem ixN_get0 {x : Str} {l : List Str} {i : Nat} (h : ixN x l 0 = some i) : l[i]? = some x := (ixN_get h).2
def Tab.fn (T : Tab) (x : Str) (m : Nat) : Option Nat := (T.fns.find? fun p => decide (p.1.1 = x ∧ p.1.2 = m)).map (·.2)
def Tab.c (T : Tab) (x : Str) : Option Nat := (T.cs.find? fun p => decide (p.1 = x)).map (·.2)
def Tab.x (T : Tab) (x : Str) : Option Nat := (T.xs.find? fun p => decide (p.1 = x)).map (·.2)
def Tab.i (T : Tab) (x : Str) : Option (Nat × List Nat) := (T.is_.find? fun p => decide (p.1 = x)).map (·.2)
def nov (x : Str) : Bool := !(x == ("__debug__" : Str)) && !(x == ("__classdict__" : Str)) && !decide (x = ("__name__" : Str))
theorem nov_ok {x : Str} (h : nov x = true) : (x == ("__debug__" : Str)) = false ∧ (x == ("__classdict__" : Str)) = false ∧ x ≠ ("__name__" : Str) := by
  unfold nov at h
  simp only [Bool.and_eq_true, Bool.not_eq_true', decide_eq_false_iff_not] at h
  exact ⟨h.1.1, h.1.2, h.2⟩
def visC (sc : Scope) (x : Str) : Bool := match sc.names.lookup x with
  | some .local => true
  | some .cell => true
  | some .free => true
  | _ => false
theorem visC_ok {sc : Scope} {x : Str} (h : visC sc x = true) : Vis sc x := by
  unfold visC at h
  split at h
  · exact .inl (by assumption)
  · exact .inr (.inl (by assumption))
  · exact .inr (.inr (by assumption))
  · cases h
def glC (sc : Scope) (x : Str) : Bool := match sc.names.lookup x with
  | some .globalImplicit => true
  | _ => false
theorem glC_ok {X : Cx} {sc : Scope} {x : Str} (e : X.env.scope = sc) (h : glC sc x = true) : Gl X x := by
  unfold glC at h
  split at h
  · rename_i q
    show X.env.scope.names.lookup x = _
    rw [e]
    exact q
  · cases h
/-- a place to store -/
def locC (fc : Str → Bool) (sc : Scope) (x : Str) : Bool := match sc.names.lookup x with
  | some .local => true
  | some .cell => fc x
  | _ => false
theorem locC_ok {fc : Str → Bool} {sc : Scope} {x : Str} (h : locC fc sc x = true) : Loc sc x ∧ (fc x = true ∨ sc.names.lookup x = some .local) := by
  unfold locC at h
  split at h
  · exact ⟨.inl (by assumption), .inr (by assumption)⟩
  · exact ⟨.inr (by assumption), .inl h⟩
  · cases h

/-! ### built-ins -/
def bltN (x : Str) : Option Blt := if x = "len" then some .len else if x = "abs" then some .abs else if x = "int" then some .int else if x = "max" then some .max else if x = "min" then some .min else if x = "sum" then some .sum
  else if x = "all" then some .all else if x = "any" then some .any else if x = "tuple" then some .tuple else if x = "list" then some .list else none
def isN (x : Str) : Option Blt := if x = "int" then some .isint else if x = "bool" then some .isbool else if x = "tuple" then some .istuple else if x = "str" then some .isstr else none
def bltNames : List Str := ["len", "abs", "int", "max", "min", "sum", "all", "any", "tuple", "list", "bool", "str", "isinstance", "range", "enumerate", "zip", "repr"]
theorem boot_len : bootBuiltins "len" = some (.builtin "len") := by decide +kernel
theorem boot_abs : bootBuiltins "abs" = some (.builtin "abs") := by decide +kernel
theorem boot_int : bootBuiltins "int" = some (.type "int") := by decide +kernel
theorem boot_max : bootBuiltins "max" = some (.builtin "max") := by decide +kernel
theorem boot_min : bootBuiltins "min" = some (.builtin "min") := by decide +kernel
theorem boot_sum : bootBuiltins "sum" = some (.builtin "sum") := by decide +kernel
theorem boot_all : bootBuiltins "all" = some (.builtin "all") := by decide +kernel
theorem boot_any : bootBuiltins "any" = some (.builtin "any") := by decide +kernel
theorem boot_tup : bootBuiltins "tuple" = some (.type "tuple") := by decide +kernel
theorem boot_lst : bootBuiltins "list" = some (.type "list") := by decide +kernel
theorem boot_bl : bootBuiltins "bool" = some (.type "bool") := by decide +kernel
theorem boot_st : bootBuiltins "str" = some (.type "str") := by decide +kernel
theorem boot_isi : bootBuiltins "isinstance" = some (.builtin "isinstance") := by decide +kernel
theorem bltN_ok {x : Str} {b : Blt} (h : bltN x = some b) : x ∈ bltNames ∧ isIs b = false ∧ bootBuiltins x = some (bltV b) ∧ x ≠ ("__name__" : Str) ∧ (x == ("__debug__" : Str)) = false := by
  unfold bltN at h
  split at h
  · rename_i e; subst e; cases h; exact ⟨by decide +kernel, rfl, boot_len, by decide, by decide⟩
  split at h
  · rename_i e; subst e; cases h; exact ⟨by decide +kernel, rfl, boot_abs, by decide, by decide⟩
  split at h
  · rename_i e; subst e; cases h; exact ⟨by decide +kernel, rfl, boot_int, by decide, by decide⟩
  split at h
  · rename_i e; subst e; cases h; exact ⟨by decide +kernel, rfl, boot_max, by decide, by decide⟩
  split at h
  · rename_i e; subst e; cases h; exact ⟨by decide +kernel, rfl, boot_min, by decide, by decide⟩
  split at h
  · rename_i e; subst e; cases h; exact ⟨by decide +kernel, rfl, boot_sum, by decide, by decide⟩
  split at h
  · rename_i e; subst e; cases h; exact ⟨by decide +kernel, rfl, boot_all, by decide, by decide⟩
  split at h
  · rename_i e; subst e; cases h; exact ⟨by decide +kernel, rfl, boot_any, by decide, by decide⟩
  split at h
  · rename_i e; subst e; cases h; exact ⟨by decide +kernel, rfl, boot_tup, by decide, by decide⟩
  split at h
  · rename_i e; subst e; cases h; exact ⟨by decide +kernel, rfl, boot_lst, by decide, by decide⟩
  cases h
theorem isN_ok {x : Str} {b : Blt} (h : isN x = some b) : x ∈ bltNames ∧ isIs b = true ∧ bootBuiltins x = some (.type (isTy b)) ∧ x ≠ ("__name__" : Str) ∧ (x == ("__debug__" : Str)) = false := by
  unfold isN at h
  split at h
  · rename_i e; subst e; cases h; exact ⟨by decide +kernel, rfl, boot_int, by decide, by decide⟩
  split at h
  · rename_i e; subst e; cases h; exact ⟨by decide +kernel, rfl, boot_bl, by decide, by decide⟩
  split at h
  · rename_i e; subst e; cases h; exact ⟨by decide +kernel, rfl, boot_tup, by decide, by decide⟩
  split at h
  · rename_i e; subst e; cases h; exact ⟨by decide +kernel, rfl, boot_st, by decide, by decide⟩
  cases h

/-! ### forms -/
def opB : Operator → Option BinO
  | .Add => some .add | .Sub => some .sub | .Mult => some .mul | .FloorDiv => some .fdiv | .Mod => some .mod | .Pow => some .pow | _ => none
theorem opB_ok {o : Operator} {b : BinO} (h : opB o = some b) : o = opo b := by cases o <;> cases h <;> rfl
def opC : CmpOp → Option CmpO
  | .Eq => some .eq | .NotEq => some .ne | .Lt => some .lt | .LtE => some .le | .Gt => some .gt | .GtE => some .ge | .Is => some .is | .IsNot => some .isnot | .In => some .isin | .NotIn => some .notin
theorem opC_ok {o : CmpOp} {b : CmpO} (h : opC o = some b) : o = opc b := by cases o <;> cases h <;> rfl
def isStar : Expr → Bool
  | .Starred _ _ => true
  | _ => false
theorem star_one {x : Expr} (h : isStar x = false) (es : List Expr) (env : PySem.Env) : starEach (x :: es) env = (false, eval x env) :: starEach es env := by
  cases x <;> first | (cases h; done) | rfl
theorem asg_one {x : Expr} (h : isStar x = false) (es : List Expr) (env : PySem.Env) : assignEach (x :: es) env = (false, PySem.assign x env) :: assignEach es env := by
  cases x <;> first | (cases h; done) | rfl
theorem no_star {es : List Expr} (h : es.any isStar = false) (pos : Pos) (env : PySem.Env) : (backTo pos (starEach es env)).any (·.1) = false := by
  induction es with
  | nil => rfl
  | cons x r ih =>
    simp only [List.any_cons, Bool.or_eq_false_iff] at h
    rw [star_one h.1]
    have := ih h.2
    unfold backTo at this ⊢
    rw [List.map_cons, List.any_cons, this]
    rfl
def isSlc : Expr → Bool
  | .Slice _ _ _ _ => true
  | _ => false
theorem plainIx_of {y : Expr} (h : isSlc y = false) : PlainIx y := fun o i => by
  cases y <;> first | (cases h; done) | rfl
def isSetE : Expr → Bool
  | .Set _ _ _ => true
  | _ => false
theorem fold_of {y : Expr} (h : isSetE y = false) (env : PySem.Env) : ∀ x, foldedSetIterable y env x = pure x := fun x => by
  cases y <;> first | (cases h; done) | rfl
def isNonE : E → Bool
  | .c .non => true
  | _ => false
theorem isNonE_ok {a : E} (h : isNonE a = false) : a ≠ .c .non := fun e => by rw [e] at h; cases h
def mapO {α β : Type} (f : α → Option β) : List α → Option (List β)
  | [] => some []
  | a :: r => (f a).bind fun b => (mapO f r).bind fun s => some (b :: s)
theorem mapO_len {α β : Type} {f : α → Option β} : ∀ {l : List α} {r : List β}, mapO f l = some r → r.length = l.length
  | [], _, h => by cases h; rfl
  | a :: l, r, h => by
    obtain ⟨b, _, h⟩ := Option.bind_eq_some_iff.mp (show ((f a).bind fun b => (mapO f l).bind fun s => some (b :: s)) = some r from h)
    obtain ⟨s, hs, h⟩ := Option.bind_eq_some_iff.mp h
    cases h
    exact congrArg Nat.succ (mapO_len hs)

/-! ### what the def stands on -/
structure FnFact (B : Cls0) (Y : Sys) (X : Cx) (x : Str) (f m : Nat) : Prop where
  ex : ∃ (gg : Bool) (n k : Nat) (fA : Addr) (fd : FuncData) (ps : List Str) (dvs : List V) (ds : List Value), FnG X.prog X.w X.K X.mg X.base (L2.CX X.prog X.w) gg n fA fd ps (spF X.K B k (Y.Γ f)) ∧ (gg = true → X.A.guards = some []) ∧ Room n X.A ∧ X.mg x = some (.ref fA) ∧ PySem.W.keepIn X.K (.ref fA) = true ∧
    Binds X.K fd ps ds ∧ Vals dvs ds ∧ Reps X.K B (fun _ => none) dvs (Y.dfl f m) ∧ m + dvs.length = k
structure XOk (T : Tab) (B : Cls0) (W : WX) (Y : Sys) (X : Cx) (sc : Scope) : Prop where
  calm : X.calm = true
  nodup : X.N.Nodup
  N : X.N = T.N
  sc : X.env.scope = sc
  room : ∃ n, Room (n + 3) X.A
  ers : ∀ x c, T.x x = some c → X.mg x = some (.ref (B.X c))
  erf : T.ne = true → ErrF X.prog X.w X.K X.mg X.base B
  iss : ∀ x q, T.i x = some q → IsN X.K X.mg B x q.1 q.2
  gd : T.gd = true → X.A.guards = some []
  blt : ∀ x, x ∈ bltNames → X.mg x = none
  cs : ∀ x n, T.c x = some n → ∃ v u, X.mg x = some u ∧ RelV v u ∧ Rep X.K B (fun _ => none) v (Y.gl n)
  fns : ∀ x m f, T.fn x m = some f → FnFact B Y X x f m
  takes : Takes X W
theorem takes_WF {X : Cx} : Takes X WF := fun u s' ⟨a, B, sI, pins, σ, H, cls, d, e, I, nb, up, sky, na, os, ag, w⟩ => w.elim
theorem XOk.blk {T : Tab} {B : Cls0} {W : WX} {Y : Sys} {X : Cx} {sc scope : Scope} (o : XOk T B W Y X sc) (s : Shared) (H : Hp) (C : Addr) (cl : List (Str × Addr)) (fp : List Addr) : XOk T B WF Y (X.blk s H scope (compEnvC scope cl C X.env) fp) (relS scope sc) where
  calm := o.calm
  nodup := o.nodup
  N := o.N
  sc := by rw [← o.sc]; rfl
  room := o.room
  ers := o.ers
  erf := o.erf
  iss := o.iss
  gd := o.gd
  blt := o.blt
  cs := o.cs
  fns := fun x m f h => ⟨(o.fns x m f h).ex⟩
  takes := takes_WF
/-- an expression and its test -/
structure SET (B : Cls0) (W : WX) (Y : Sys) (X : Cx) (a : E) (x : Expr) : Prop where
  s : SE B W Y X a x
  t : PT X x (tT X.K B W (evT Y a))

section
variable {B : Cls0} {W : WX} {X : Cx} {x y z : Expr} {pos p : Pos} {a b c : E} {Y : Sys}
theorem cmp_conv {o : CmpO} (ha : SE B W Y X a x) (hb : SE B W Y X b y) : ∀ σ H Q, tE X.K B W (ev Y (.cmp o a b)) σ H Q → tOp (rCmp X.K B o) (tP X.K B W (evPl a (ev Y a))) (tP X.K B W (evPl b (ev Y b))) σ H Q := fun σ H Q h => by
  refine se_two (op := fun x y => (cmpD o x y).map fun t => T.val (.bl t)) ha.p hb.p (fun G H v u dx dy t Q c1 c2 e q => ?_) σ H Q ?_
  · cases e2 : cmpD o dx dy with
    | none => rw [e2] at e; cases e
    | some k =>
      rw [e2] at e
      have e3 := Option.some.inj e
      subst e3
      exact ⟨G, dx, dy, k, c1, c2, e2, q _ _ _ (Mk1.val (.bl _))⟩
  · have e : ev Y (.cmp o a b) = fun ρ => bnd (evPl a (ev Y a) ρ) fun p ρ => bnd (evPl b (ev Y b) ρ) fun q ρ => opt (rd ρ p) fun x => opt (rd ρ q) fun y => opt (((cmpD o x y)).map fun t => T.val (.bl t)) fun t => ret t ρ := by
      funext ρ
      conv => lhs; unfold ev
    rw [← e]
    exact h
theorem opt_map_bl {o : Option Bool} {t : T} (h : (o.map fun t => T.val (.bl t)) = some t) : ∃ k, t = .val (.bl k) := by
  cases o with
  | none => cases h
  | some k => exact ⟨k, (Option.some.inj h).symm⟩
theorem cmp_bl {o : CmpO} : ∀ ρ t ρ', ev Y (.cmp o a b) ρ = some (.ok t, ρ') → ∃ k, t = .val (.bl k) := fun ρ t ρ' h => by
  unfold ev at h
  obtain ⟨p, ρ1, _, h⟩ := bnd_ok h
  obtain ⟨q, ρ2, _, h⟩ := bnd_ok h
  obtain ⟨dx, _, h⟩ := opt_ok h
  obtain ⟨dy, _, h⟩ := opt_ok h
  obtain ⟨t', e, h⟩ := opt_ok h
  obtain ⟨e2, _⟩ := ret_ok h
  subst e2
  exact opt_map_bl e
theorem st_cmp {o : CmpO} {n : Nat} (hr : Room n X.A) (ha : SE B W Y X a x) (hb : SE B W Y X b y) (hm : behindInMarks (opc o) y = false) : PT X (.Compare x [opc o] [y] pos) (tT X.K B W (evT Y (.cmp o a b))) :=
  pt_mono (pt_cmpR (op_cmpA B o hr) ha.p hb.p hm) fun σ H Q h => by
    have e : evT Y (.cmp o a b) = fun ρ => truT (ev Y (.cmp o a b) ρ) := by funext ρ; conv => lhs; unfold evT
    rw [e] at h
    exact cmp_conv ha hb σ H _ (tru_bl h cmp_bl)
theorem chn_conv {o o' : CmpO} (ha : SE B W Y X a x) (hb : SE B W Y X b y) (hc : SE B W Y X c z) : ∀ σ H Q, tE X.K B W (ev Y (.chn o o' a b c)) σ H Q → tChain (rCmp X.K B o) (rCmp X.K B o') (tD X.K B W fun ρ => evD (ev Y a ρ)) (tD X.K B W fun ρ => evD (ev Y b ρ)) (tD X.K B W fun ρ => evD (ev Y c ρ)) σ H Q := fun σ H Q ⟨G, ρ, S, P⟩ => by
  unfold ev at P
  refine ⟨G, ρ, S, PostX.bnd P fun dx ρ1 G1 H1 v _ _ S1 R1 P1 => ⟨G1, ρ1, S1, PostX.bnd P1 fun dy ρ2 G2 H2 u _ n2 S2 R2 P2 => ?_⟩⟩
  obtain ⟨t, et, P3⟩ := P2.opt
  refine ⟨G2, dx, dy, t, .val (n2.rep R1), .val R2, et, t, rfl, ?_⟩
  cases t with
  | false =>
    rw [if_neg Bool.false_ne_true]
    exact P3.ret S2 Nx.refl (.val (.bl _))
  | true =>
    rw [if_pos rfl]
    refine ⟨G2, ρ2, S2, PostX.bnd P3 fun dz ρ3 G3 H3 w _ n3 S3 R3 P4 => ?_⟩
    obtain ⟨t', et', P5⟩ := P4.opt
    exact ⟨G3, dy, dz, t', .val (n3.rep R2), .val R3, et', P5.ret S3 Nx.refl (.val (.bl _))⟩
theorem chn_bl {o o' : CmpO} : ∀ ρ t ρ', ev Y (.chn o o' a b c) ρ = some (.ok t, ρ') → ∃ k, t = .val (.bl k) := fun ρ t ρ' h => by
  unfold ev at h
  obtain ⟨p, ρ1, _, h⟩ := bnd_ok h
  obtain ⟨q, ρ2, _, h⟩ := bnd_ok h
  obtain ⟨k, _, h⟩ := opt_ok h
  cases k with
  | false => exact ⟨_, (ret_ok h).1.symm⟩
  | true =>
    obtain ⟨r, ρ3, _, h⟩ := bnd_ok h
    obtain ⟨k', _, h⟩ := opt_ok h
    exact ⟨_, (ret_ok h).1.symm⟩
theorem st_chn {o o' : CmpO} {n : Nat} (hr : Room n X.A) (ha : SE B W Y X a x) (hb : SE B W Y X b y) (hc : SE B W Y X c z) (hm : lastMarks [opc o, opc o'] [y, z] = false) : PT X (.Compare x [opc o, opc o'] [y, z] pos) (tT X.K B W (evT Y (.chn o o' a b c))) :=
  pt_mono (pt_chain (op_cmpA B o hr) (op_cmpA B o' hr) ha.d hb.d hc.d hm) fun σ H Q h => by
    have e : evT Y (.chn o o' a b c) = fun ρ => truT (ev Y (.chn o o' a b c) ρ) := by funext ρ; conv => lhs; unfold evT
    rw [e] at h
    exact chn_conv ha hb hc σ H _ (tru_bl h chn_bl)
theorem st_ite (hc : PT X z (tT X.K B W (evT Y c))) (ha : PT X x (tT X.K B W (evT Y a))) (hb : PT X y (tT X.K B W (evT Y b))) : PT X (.IfExp z x y pos) (tT X.K B W (evT Y (.ite c a b))) := by
  refine ⟨fun pins s σ H Q I ⟨G, ρ, S, P⟩ => ?_⟩
  unfold evT at P
  refine isTrue_IfExp (thn (hc.run pins s σ H (fun k H1 => ∃ G1 ρ1, Sta X.K B G1 ρ1 σ H1 ∧ PostX X.K B W σ RB (match k with | true => evT Y a ρ1 | false => evT Y b ρ1) G1 H1 Q) I ⟨G, ρ, S, PostX.bnd P fun k ρ1 G1 H1 v _ _ S1 R P1 => ?_⟩) fun d s1 ⟨H1, I1, q1⟩ => ?_)
  · have R2 : v = k := R
    subst R2
    exact ⟨G1, ρ1, S1, P1⟩
  · obtain ⟨G1, ρ1, S1, P1⟩ := q1
    cases d with
    | true => exact ha.run pins s1 σ H1 Q I1 ⟨G1, ρ1, S1, P1⟩
    | false => exact hb.run pins s1 σ H1 Q I1 ⟨G1, ρ1, S1, P1⟩
/-- the forms whose test is their truth -/
theorem SET.plain (h : SE B W Y X a x) (e : ∀ ρ, evT Y a ρ = truT (ev Y a ρ)) (he : ∀ whole, isTrue x X.env whole = (do let v ← whole; standAt x.pos; holding [v] (truthy v))) : SET B W Y X a x :=
  ⟨h, by
    have e' : evT Y a = fun ρ => truT (ev Y a ρ) := funext e
    rw [e']
    exact st_tru h he⟩
theorem se_call0 {f : Nat} {x : Str} {gg : Bool} {n k : Nat} {fA : Addr} {fd : FuncData} {ps : List Str} {dvs : List V} {ds : List Value} (F : FnG X.prog X.w X.K X.mg X.base (L2.CX X.prog X.w) gg n fA fd ps (spF X.K B k (Y.Γ f))) (hgd : gg = true → X.A.guards = some []) (hr : Room n X.A) (hg : Gl X x) (hm : X.mg x = some (.ref fA))
    (hkp : PySem.W.keepIn X.K (.ref fA) = true) (hb : Binds X.K fd ps ds) (hd : Vals dvs ds) (hrd : Reps X.K B (fun _ => none) dvs (Y.dfl f 0)) (tk : Takes X W) (hdb : (x == ("__debug__" : Str)) = false) (kk : 0 + dvs.length = k) :
    SE B W Y X (.call f []) (.Call (.Name x p) [] [] pos) := by
  have q := pe_call0G (pos := pos) (p := p) F hgd hr hg hm hkp hb hd (fun σ => passAt tk σ) hdb
  refine SE.mk1 (pe_mono q fun σ H Q h => ?_) fun k => nofun
  obtain ⟨G, ρ, S, P⟩ := call_tail (l := []) hrd (fun _ _ _ _ _ => trivial) (fun _ => trivial) kk (fun ρ as ρ' => evAs_length) σ H Q h
  unfold evAs at P
  exact P.ret S Nx.refl .nil
end

section
variable {B : Cls0} {X : Cx} {Y : Sys}
/-! ### targets -/
def cG (T : Tab) (fc : Str → Bool) (sc : Scope) : Nat → Expr → Option Tg
  | 0, _ => none
  | n + 1, .Name x _ => if locC fc sc x then (ixN x T.N 0).bind fun i => some (.v i) else none
  | n + 1, .Tuple es _ _ => if es.any isStar then none else (mapO (cG T fc sc n) es).bind fun l => some (.tup l)
  | _, _ => none
theorem asgEach_ok {es : List Expr} (h : es.any isStar = false) (env : PySem.Env) : (assignEach es env).length = es.length ∧ (assignEach es env).findIdx? (·.1) = none := by
  induction es with
  | nil => exact ⟨rfl, rfl⟩
  | cons x r ih =>
    simp only [List.any_cons, Bool.or_eq_false_iff] at h
    rw [asg_one h.1]
    obtain ⟨h1, h2⟩ := ih h.2
    refine ⟨congrArg Nat.succ h1, ?_⟩
    rw [List.findIdx?_cons, h2]
    rfl
theorem cG_ok {T : Tab} {fc : Str → Bool} {sc : Scope} (hc : X.calm = true) (hN : X.N.Nodup) (eN : X.N = T.N) (es : X.env.scope = sc) (hf : ∀ x, fc x = true → X.fn x = true) : ∀ {n : Nat} {x : Expr} {g : Tg}, cG T fc sc n x = some g → PG X x (tG X.K B g) := by
  intro n
  induction n with
  | zero => intro x g h; unfold cG at h; cases h
  | succ n ih =>
    intro x g h
    cases x with
    | Name x p =>
      have h' : (if locC fc sc x then (ixN x T.N 0).bind fun i => some (.v i) else none) = some g := h
      split at h'
      · rename_i hl
        obtain ⟨i, hi, h2⟩ := Option.bind_eq_some_iff.mp h'
        cases h2
        obtain ⟨l1, l2⟩ := locC_ok hl
        exact sg_name hN (by rw [eN]; exact ixN_get0 hi) (by rw [es]; exact l1) (by
          rcases l2 with l2 | l2
          · exact .inl (hf x l2)
          · exact .inr (by rw [es]; exact l2))
      · cases h'
    | Tuple es k p =>
      have h' : (if es.any isStar then none else (mapO (cG T fc sc n) es).bind fun l => some (.tup l)) = some g := h
      split at h'
      · cases h'
      · rename_i hs
        have hs : es.any isStar = false := by simpa using hs
        obtain ⟨l, hl, h2⟩ := Option.bind_eq_some_iff.mp h'
        cases h2
        obtain ⟨a1, a2⟩ := asgEach_ok hs X.env
        refine sg_tup hc ?_ a1 a2 (mapO_len hl)
        clear a1 a2 h h'
        induction es generalizing l with
        | nil => cases hl; exact sgs_nil
        | cons e es ihs =>
          simp only [List.any_cons, Bool.or_eq_false_iff] at hs
          obtain ⟨b, hb, hl⟩ := Option.bind_eq_some_iff.mp (show ((cG T fc sc n e).bind fun b => (mapO (cG T fc sc n) es).bind fun s => some (b :: s)) = some l from hl)
          obtain ⟨s, hs2, hl⟩ := Option.bind_eq_some_iff.mp hl
          cases hl
          exact sgs_cons (ih hb) (ihs (by rw [hs.2]; exact Bool.false_ne_true) hs.2 _ hs2) (by rw [asg_one hs.1]; rfl)
    | _ => cases h
end
end Ev
end

section
set_option linter.all false
set_option maxRecDepth 100000
set_option maxHeartbeats 4000000
/-! Errors as values: what the language says of them. -/
namespace Ev
open PySem L2 PySem.Spec PyProof.Rows
section
variable {K : PySem.W.Frag} {B : Cls0} {G : Gh} {H : Hp}
theorem RepC.exc {v : V} {c : Nat} {d : D} (h : RepC K B G H v (.exc c d)) : ∃ a dx y, v = .ref a ∧ Fz G H a = some (exv a (B.X c) dx) ∧ Fz G H dx = some (exd dx [("value", y)]) ∧ Rep K B (Fz G H) y d := by
  obtain ⟨r, p, t, R, e⟩ := h
  cases R with
  | val x =>
    have e2 : _ = D.exc c d := e
    subst e2
    cases x with
    | exc a b r => exact ⟨_, _, _, rfl, a, b, r⟩
  | lst g a b => cases e
  | dic g a b c => cases e
  | ins g a b c => cases e
end
section
variable {X : Cx} {x y : Expr} {p pos : Pos}
/-- the field of an error -/
def tVal (K : PySem.W.Frag) (n : Str) (te : TE) : TE := fun σ H Q => te σ H fun x H1 => ∃ a C dx v, x = .ref a ∧ (XfC K C ∧ PySem.W.findIn K (.ref C) n = some none) ∧ H1 a = some (exv a C dx) ∧ H1 dx = some (exd dx [(n, v)]) ∧ Q v H1
theorem pe_val {n : Str} {te : TE} (hb : attributeBase x n X.env (eval x X.env) = eval x X.env) (he : PE X x te) : PE X (.Attribute x n pos) (tVal X.K n te) := by
  constructor
  intro pins s σ H Q I h
  refine attr_of hb (thn (he.run pins s σ H _ I h) fun u s1 w => ?_)
  obtain ⟨v0, H1, I1, rx, a, C, dx, v, ev, ⟨T, hno⟩, e1, e2, q⟩ := w
  subst ev
  cases rx
  obtain ⟨oe, vs, g1, g2, g3, g4⟩ := exv_at I1.hok e1
  obtain ⟨mA, hns, rel⟩ := exd_at I1.hok e2
  obtain ⟨od, ho, hl⟩ := lookIn_ns hns
  have rv := rel n
  rw [lookup_put, if_pos rfl] at rv
  obtain ⟨z, hz, rz⟩ : ∃ z, mA n = some z ∧ L2.RelV v z := by
    cases hm : mA n with
    | none => rw [hm] at rv; exact rv.elim
    | some z => rw [hm] at rv; exact ⟨z, rfl, rv⟩
  have J : PySem.W.InstAt s1.heap a oe C (some od) := ⟨g1, g2, by unfold PySem.W.notCls; rw [g4] <;> rfl, by rw [g3]; exact ho⟩
  exact HandSPX.exc_get I1.kIn J T.ga T.gg T.exC (PySem.W.findObj_own T.hdC hno rfl (by rw [hl, hz])) (handed_of rz) ⟨v, H1, I1.tok _, rz, q⟩
end
section
variable {B : Cls0} {W : WX} {X : Cx} {x y : Expr} {p pos : Pos} {a b : E} {Y : Sys}
/-- an error made -/
theorem se_exn {D f : Addr} {fd : FuncData} {n : Str} {c : Nat} (T : XC X.K D f (B.X c)) (F : FnOk X.prog X.w X.K X.mg X.base (L2.CX X.prog X.w) 1 f fd ["self", "value"] (spAsk X.K D)) (hr : Room 2 X.A) (hb : Binds X.K fd ["self", "value"] []) (tk : Takes X W) (hg : Gl X n) (hm : X.mg n = some (.ref (B.X c)))
    (ha : SE B W Y X a x) (hst : isStar x = false) (hdb : (n == ("__debug__" : Str)) = false) : SE B W Y X (.exn c a) (.Call (.Name n p) [x] [] pos) := by
  refine SE.mk1 (pe_mono (pe_exn T F hr hb (passes_call tk fun _ _ _ _ z => z.elim) hg hm ha.d (star_one hst _ _) hdb) fun σ H Q ⟨G, ρ, S, P⟩ => ?_) fun k => nofun
  unfold ev at P
  refine ⟨G, ρ, S, PostX.bnd P fun d ρ1 G1 H1 v _ _ S1 R P1 => fun l dx nl nd ne => ?_⟩
  have n2 : upd H1 dx (exd dx [("value", v)]) l = none := by rw [upd_ne (Ne.symm ne)]; exact nl
  have x1 : Nx G1 H1 (gNew dx .frz G1) (upd H1 dx (exd dx [("value", v)])) := Nx.new nd
  have x2 : Nx (gNew dx .frz G1) (upd H1 dx (exd dx [("value", v)])) (gNew l .frz (gNew dx .frz G1)) (upd (upd H1 dx (exd dx [("value", v)])) l (exv l (B.X c) dx)) := Nx.new n2
  refine P1.ret ((S1.new nd).new n2) (x1.trans x2) (.val (.exc (Fz.of gNew_same upd_same) ?_ ((x1.trans x2).rep R)))
  exact Fz.of (by rw [gNew_ne ne]; exact gNew_same) (by rw [upd_ne ne]; exact upd_same)
/-- its value -/
theorem se_fld {n : Str} (hx : ∀ c, XfC X.K (B.X c) ∧ PySem.W.findIn X.K (.ref (B.X c)) "value" = some none) (hb : attributeBase x n X.env (eval x X.env) = eval x X.env) (ha : SE B W Y X a x) : SE B W Y X (.un (.fld n) a) (.Attribute x n pos) := by
  refine SE.mk1 (pe_mono (pe_val hb ha.p) fun σ H Q ⟨G, ρ, S, P⟩ => ?_) fun k => nofun
  unfold ev at P
  refine ⟨G, ρ, S, PostX.bnd P fun q ρ1 G1 H1 v _ _ S1 R P1 => ?_⟩
  obtain ⟨d0, e0, P2⟩ := P1.opt
  obtain ⟨t, e1, P3⟩ := P2.opt
  obtain ⟨d, e2, et⟩ := Option.map_eq_some_iff.mp (show (fldD n d0).map T.val = some t from e1)
  subst et
  have c0 : RepC X.K B G1 H1 v d0 := RPl.rd S1 R e0
  cases d0 with
  | exc c d' =>
    have e1' : (if n = "value" then some d' else none) = some d := e2
    split at e1'
    · rename_i en
      cases e1'
      subst en
      obtain ⟨l, dx, w, rfl, f1, f2, r⟩ := c0.exc
      exact ⟨l, B.X c, dx, w, rfl, hx c, Fz.sub _ _ f1, Fz.sub _ _ f2, P3.ret S1 Nx.refl (.val r)⟩
    · cases e1'
  | _ => cases e2
def rIsF (K : PySem.W.Frag) (B : Cls0) (n : Nat) (cs : List Nat) (c : V) : List V → Hp → VK → Prop := fun xs H Q => ∃ G x d b, xs = [x, c] ∧ RepC K B G H x d ∧ isxD n cs d = some b ∧ Q (.bl b) H
theorem call_isF {n : Nat} {cs : List Nat} {c : V} {cv : Value} (f : IsF X.K B n cs cv) (hc : ClsV c cv) : CallR X (.builtin "isinstance") (rIsF X.K B n cs c) := by
  intro pins s σ H xs us Q I r ⟨G, x, d, b, e, R, eb, q⟩
  subst e
  have base : ∀ k, k ≤ 5 → tyD d = some k → isxD n cs d = some false → wpAny (model X.prog X.w) X.A (PySem.call (.builtin "isinstance") us) (EP X pins σ Q) X.xe s := fun k hk ht hi => by
    cases hi.symm.trans eb
    exact call_isi pins s σ H _ us Q I r ⟨x, c, _, cv, false, rfl, hc, R.ty ht, f.ty k hk, q⟩
  cases d with
  | exc m d' =>
    have eb' : (if m < n then some (cs.contains m) else none) = some b := eb
    split at eb'
    case isFalse => cases eb'
    rename_i hm
    cases eb'
    obtain ⟨C, ek⟩ := f.er m hm
    obtain ⟨l, dx, y, rfl, f1, f2, _⟩ := R.exc
    obtain ⟨oe, vs, g1, g2, g3, g4⟩ := exv_at I.hok (Fz.sub _ _ f1)
    obtain ⟨mA, hns, _⟩ := exd_at I.hok (Fz.sub _ _ f2)
    obtain ⟨od, ho, _⟩ := lookIn_ns hns
    have J : PySem.W.InstAt s.heap l oe (B.X m) (some od) := ⟨g1, g2, by unfold PySem.W.notCls; rw [g4] <;> rfl, by rw [g3]; exact ho⟩
    match us, r with
    | [u1, u2], .cons r1 (.cons r2 .nil) =>
      cases r1
      have e2 := hc.eq r2
      subst e2
      have hcl : (PySem.W.clsIn X.K (B.X m)).isSome = true := by
        have z := C.hd
        cases q : PySem.W.clsIn X.K (B.X m) with
        | some _ => rfl
        | none => unfold PySem.W.hasDictIn at z; rw [q] at z; cases z
      exact PySem.W.kia_one (PySem.W.kitx_exc hcl C.hg C.hk C.hs C.ha C.hn C.ht C.hm) I.kIn J ek (fun z => nomatch z) fun tk => ⟨.bl _, H, I.tok tk, rfl, q⟩
  | non => exact base 0 (by decide) rfl rfl
  | bl _ => exact base 1 (by decide) rfl rfl
  | int _ => exact base 2 (by decide) rfl rfl
  | str _ => exact base 3 (by decide) rfl rfl
  | tup _ => exact base 4 (by decide) rfl rfl
  | lst _ => exact base 5 (by decide) rfl rfl
  | _ => cases eb
/-- isinstance(e, t) -/
theorem se_isx {n : Nat} {cs : List Nat} {c : V} {cv : Value} {t : Str} {p2 : Pos} (f : IsF X.K B n cs cv) (hc : ClsV c cv) (ht : PE X (.Name t p2) (tC c)) (ha : SE B W Y X a x) (hst : isStar x = false) (hg : Gl X "isinstance") (hm : X.mg "isinstance" = none) (hv : bootBuiltins "isinstance" = some (.builtin "isinstance")) :
    SE B W Y X (.un (.isx n cs) a) (.Call (.Name "isinstance" p) [x, .Name t p2] [] pos) := by
  refine SE.mk1 (pe_mono (pe_callB (call_isF (B := B) f hc) hg hm hv (pa_cons ha.p (pa_cons ht pa_nil (star_one rfl _ _)) (star_one hst _ _)) (by decide) (by decide) (star_one hst _ _) (no_star (by rfl) _ _)) fun σ H Q ⟨G, ρ, S, P⟩ => ?_) fun k => nofun
  unfold ev at P
  refine ⟨G, ρ, S, PostX.bnd P fun q ρ1 G1 H1 v _ _ S1 R P1 => ?_⟩
  obtain ⟨d, e0, P2⟩ := P1.opt
  obtain ⟨t, e1, P3⟩ := P2.opt
  obtain ⟨b, e2, et⟩ := Option.map_eq_some_iff.mp (show (isxD n cs d).map (fun b => T.val (.bl b)) = some t from e1)
  subst et
  exact ⟨G1, v, d, b, rfl, RPl.rd S1 R e0, e2, P3.ret S1 Nx.refl (.val (.bl b))⟩
/-- repr(e) -/
theorem se_rpr {n : Nat} (hgd : X.A.guards = some []) (hr : Room n X.A) (hs : SysD X.K) (ha : SE B W Y X a x) (hst : isStar x = false) (hg : Gl X "repr") (hm : X.mg "repr" = none) (hv : bootBuiltins "repr" = some (.builtin "repr")) : SE B W Y X (.un .rpr a) (.Call (.Name "repr" p) [x] [] pos) := by
  refine SE.mk1 (pe_mono (pe_callB (call_reprD (B := B) hgd hr hs) hg hm hv (pa_cons ha.p pa_nil (star_one hst _ _)) (by decide) (by decide) (star_one hst _ _) (by rfl)) fun σ H Q ⟨G, ρ, S, P⟩ => ?_) fun k => nofun
  unfold ev at P
  refine ⟨G, ρ, S, PostX.bnd P fun q ρ1 G1 H1 v _ _ S1 R P1 => ?_⟩
  obtain ⟨d, e0, P2⟩ := P1.opt
  obtain ⟨t, e1, P3⟩ := P2.opt
  have e1 : (if showD d && decide ((toQ d).depth ≤ 64) && decide ((toQ d).shown.length ≤ LL) then some (T.val (.str (toQ d).shown)) else none) = some t := e1
  split at e1
  case isFalse => cases e1
  rename_i hc
  cases e1
  simp only [Bool.and_eq_true, decide_eq_true_eq] at hc
  exact ⟨v, d, rfl, (RPl.rd S1 R e0).rep, ⟨hc.1.1, hc.1.2⟩, LL_line hc.2, P3.ret S1 Nx.refl (.val (.str _))⟩
/-- x[::-1] -/
theorem se_rev {k : Nat} {p1 p2 p3 : Pos} (ha : SE B W Y X a x) : SE B W Y X (.un .rev a) (.Subscript x (.Slice none none (some (.UnaryOp .USub (.Constant (.int 1) k p1) p2)) p3) pos) := by
  refine SE.mk1 (pe_mono (pe_revF ha.p) fun σ H Q ⟨G, ρ, S, P⟩ => ?_) fun k => nofun
  unfold ev at P
  refine ⟨G, ρ, S, PostX.bnd P fun q ρ1 G1 H1 v _ _ S1 R P1 => ?_⟩
  obtain ⟨d, e0, P2⟩ := P1.opt
  obtain ⟨t, e1, P3⟩ := P2.opt
  have c0 : RepC X.K B G1 H1 v d := RPl.rd S1 R e0
  cases d with
  | tup l =>
    have e2 := Option.some.inj (show some (T.val (.tup l.reverse)) = some t from e1)
    subst e2
    obtain ⟨l', vs, rfl, ht, r⟩ := c0.tpm
    refine ⟨l', vs, rfl, Fz.sub.seqT ht.sq, fun p o hp hc hd => ?_⟩
    have m := Mk1.newT (G := G1) hp hc hd r.reverse
    exact P3.ret (m.sta S1) m.nx m.rep
  | _ => exact nomatch e1
/-- {} -/
theorem se_dic0 : SE B W Y X (.c (.dic [] [])) (.Dict [] [] pos) := by
  refine SE.mk1 (pe_mono pe_dnewK fun σ H Q ⟨G, ρ, S, P⟩ => ?_) fun k => nofun
  unfold ev at P
  intro p hp
  exact P.ret (S.new (w := .frz) hp) (Nx.new (w := .frz) hp) (.val (.dic (ks := []) (vs := []) (Fz.of gNew_same upd_same) rfl .nil))
end
end Ev
end

section
set_option linter.all false
set_option maxRecDepth 100000
set_option maxHeartbeats 4000000
/-! Methods of built-in types, as expressions. -/
namespace Ev
open PySem L2 PySem.Spec PyProof.Rows
section
variable {X : Cx} {pins : List (Addr × Obj)} {σ : L2.St} {H : Hp} {s : Shared}
/-- a value of that built-in type, without a dict of its own -/
def TyM (K : PySem.W.Frag) (ty : String) (x : V) (H : Hp) : Prop := tyV K ty x H ∨ (ty = "tuple" ∧ ∃ a vs, x = .ref a ∧ TpM K H a vs)
theorem tyM_is {ty : String} {x : V} {v : Value} (I : L2.Inv X pins σ H s) (r : RelV x v) (h : TyM X.K ty x H) : s.TypeIs v ty ∧ ∀ a, v = .ref a → ∃ ob, s.heap.get? a = some ob ∧ ob.dict = none := by
  rcases h with h | ⟨e, a, vs, ex, h⟩
  · exact tyV_is I r h
  subst e ex
  cases r
  have key : ∃ o, s.heap.get? a = some o ∧ o.cls = .type "tuple" ∧ o.dict = none := by
    rcases h with ⟨o, q, hc, hd⟩ | ⟨o, _, _, q, hc, hd, _⟩
    · exact ⟨o, (I.hok a _ q).1, hc, hd⟩
    · exact ⟨o, I.kIn a o q, hc, hd⟩
  obtain ⟨o, e, hc, hd⟩ := key
  exact ⟨⟨o, e, hc⟩, fun b eb => by cases eb; exact ⟨o, e, hd⟩⟩
/-- what is asked where the receiver is known -/
def tMth (X : Cx) (name : Str) (to : TE) (t : TA) : TE := fun σ H Q => to σ H fun x H1 => ∃ ty id, ∃ r : V → List V → Hp → VK → Prop, PlainAttrs ty ∧ Slot ty name id ∧ typeOf (.builtin id) = pure (.type "method_descriptor") ∧ TyM X.K ty x H1 ∧ MtR X id r ∧ t σ H1 fun xs H2 => r x xs H2 Q
variable {o e : Expr} {to : TE} {t : TA} {name : Str} {ap cp : Pos}
/-- o.name(e) -/
theorem pe_mth (ho : PE X o to) (ha : PA X [e] t) (hb : attributeBase o name X.env (eval o X.env) = eval o X.env) (hst : isStar e = false) (hl : (ap.endLine == cp.line) = true) : PE X (.Call (.Attribute o name ap) [e] [] cp) (tMth X name to t) := by
  constructor
  intro pins s σ H Q I h
  have h1 : starEach [e] X.env = [(false, eval e X.env)] := by
    have q := star_one hst (es := []) X.env
    exact q
  refine wpAny_Call_method1_late hb hl (by rw [h1]; rfl) (thn (ho.run pins s σ H _ I h) fun v s1 w => ?_)
  obtain ⟨x, H1, I1, rx, ty, id, r, pa, sl, hty, hT, hm, q⟩ := w
  obtain ⟨g1, g2⟩ := tyM_is I1 rx hT
  have hA := ha.run cp pins s1 σ H1 _ I1 q
  rw [h1] at hA
  refine ⟨ty, id, pa, sl, hty, g1, g2, Calls.callWith_builtin rfl (Calls.evalArgs_plain (thn hA fun us s2 w => ?_))⟩
  obtain ⟨vs, H2, I2, rs, q2⟩ := w
  exact hm pins s2 σ H2 x vs v us Q I2 rx rs q2
end
section
variable {X : Cx}
theorem cnt_toP {d : D} (hd : plain d = true) : ∀ {l : List D}, plains l = true → ((toPs l).countP fun y => PyData.eqv y (toP d)) = l.countP fun e => eqv e d
  | [], _ => rfl
  | x :: r, h => by
    obtain ⟨h1, h2⟩ := Bool.and_eq_true_iff.mp (show (plain x && plains r) = true from h)
    show (toP x :: toPs r).countP _ = _
    rw [List.countP_cons, List.countP_cons, cnt_toP hd h2, toP_eqv h1 hd]
def rCntT (K : PySem.W.Frag) (B : Cls0) : V → List V → Hp → VK → Prop := fun x xs H Q => ∃ G y l dy t, xs = [y] ∧ RepC K B G H x (.tup l) ∧ RepC K B G H y dy ∧ cntD l dy = some t ∧ ∀ v G' H', Mk1 K B G H t v G' H' → Q v H'
def rCntL (K : PySem.W.Frag) (B : Cls0) : V → List V → Hp → VK → Prop := fun x xs H Q => ∃ G y l dy t, xs = [y] ∧ RepC K B G H x (.lst l) ∧ RepC K B G H y dy ∧ cntD l dy = some t ∧ ∀ v G' H', Mk1 K B G H t v G' H' → Q v H'
theorem cntD_ok {l : List D} {y : D} {t : T} (h : cntD l y = some t) : plain y = true ∧ plains l = true ∧ depth y ≤ 64 ∧ t = .val (.int ((l.countP fun d => eqv d y : Nat) : Int)) := by
  unfold cntD at h
  split at h
  · rename_i hc
    obtain ⟨h1, h3⟩ := Bool.and_eq_true_iff.mp hc
    obtain ⟨h1, h2⟩ := Bool.and_eq_true_iff.mp h1
    exact ⟨h1, h2, of_decide_eq_true h3, (Option.some.inj h).symm⟩
  · cases h
theorem mt_cntT (B : Cls0) {n : Nat} (hr : Room n X.A) : MtR X "tuple.count" (rCntT X.K B) := by
  intro pins s σ H x xs v us Q I rx rxs ⟨G, y, l, dy, t, e, hx, hy, et, q⟩
  subst e
  obtain ⟨u, e, ry⟩ := Vals.one rxs
  subst e
  obtain ⟨h1, h2, h3, e⟩ := cntD_ok et
  subst e
  have a := toP_depth dy
  have c := hr.un
  obtain ⟨bs, r2⟩ := Dp.reads I _ _ _ (toP_dp hy.rep h1) ry
  obtain ⟨as, r1⟩ := Dp.reads I _ _ _ (toP_dp hx.rep (show plain (.tup l) = true from h2)) rx
  cases r1 with
  | tuple g1 g2 g3 g4 =>
    refine SeqAt.count_tuple_data ⟨_, g1, g2, _, g3⟩ g4 r2 (toPs_plain h2) (toP_plain h1) (by omega) ?_
    rw [cnt_toP h1 h2]
    exact ⟨.int _, H, I.tok _, ⟨_, rfl⟩, q _ _ _ (Mk1.val (.int _))⟩
theorem mt_cntL (B : Cls0) {n : Nat} (hr : Room n X.A) : MtR X "list.count" (rCntL X.K B) := by
  intro pins s σ H x xs v us Q I rx rxs ⟨G, y, l, dy, t, e, hx, hy, et, q⟩
  subst e
  obtain ⟨u, e, ry⟩ := Vals.one rxs
  subst e
  obtain ⟨h1, h2, h3, e⟩ := cntD_ok et
  subst e
  have a := toP_depth dy
  have c := hr.un
  obtain ⟨bs, r2⟩ := Dp.reads I _ _ _ (toP_dp hy.rep h1) ry
  obtain ⟨as, r1⟩ := Dp.reads I _ _ _ (toP_dp hx.rep (show plain (.lst l) = true from h2)) rx
  cases r1 with
  | list g1 g2 g3 g4 =>
    refine SeqAt.count_list_data ⟨_, g1, g2, _, g3⟩ g4 r2 (toPs_plain h2) (toP_plain h1) (by omega) ?_
    rw [cnt_toP h1 h2]
    exact ⟨.int _, H, I.tok _, ⟨_, rfl⟩, q _ _ _ (Mk1.val (.int _))⟩
end
section
variable {B : Cls0} {W : WX} {X : Cx} {x y : Expr} {ap cp : Pos} {a b : E} {Y : Sys}
def mthS : Mth → Str
  | .count => "count"
theorem se_mth {m : Mth} {n : Nat} (hr : Room n X.A) (ha : SE B W Y X a x) (hb : SE B W Y X b y) (hbase : attributeBase x (mthS m) X.env (eval x X.env) = eval x X.env) (hst : isStar y = false) (hl : (ap.endLine == cp.line) = true) :
    SE B W Y X (.mth m a b) (.Call (.Attribute x (mthS m) ap) [y] [] cp) := by
  refine SE.mk1 (pe_mono (pe_mth ha.p (pa_cons hb.p pa_nil (star_one hst _ _)) hbase hst hl) fun σ H Q ⟨G, ρ, S, P⟩ => ?_) fun k => nofun
  unfold ev at P
  refine ⟨G, ρ, S, PostX.bnd P fun p ρ1 G1 H1 v _ _ S1 R1 P1 => ?_⟩
  obtain ⟨x0, ex0, P1⟩ := P1.opt
  obtain ⟨k, ek, P1⟩ := P1.opt
  have c0 : RepC X.K B G1 H1 v x0 := RPl.rd S1 R1 ex0
  have go : ∀ {r : V → List V → Hp → VK → Prop}, (∀ G2 H2 u dx dy t, RepC X.K B G2 H2 v dx → RepC X.K B G2 H2 u dy → mthD k dx dy = some t → (∀ w G' H', Mk1 X.K B G2 H2 t w G' H' → Q w H') → r v [u] H2 Q) →
      tCons (tP X.K B W (evPl b (ev Y b))) tNil σ H1 (fun xs H2 => r v xs H2 Q) := fun {r} hr => by
    refine ⟨G1, ρ1, S1, PostX.bnd P1 fun q ρ2 G2 H2 u _ n2 S2 R2 P2 => ?_⟩
    obtain ⟨dx, ex, P3⟩ := P2.opt
    obtain ⟨dy, ey, P4⟩ := P3.opt
    obtain ⟨t, et, P5⟩ := P4.opt
    exact hr G2 H2 u dx dy t (RPl.rd S2 (RPl.nx (ρ' := ρ2) n2 R1) ex) (RPl.rd S2 R2 ey) et fun w G3 H3 m => P5.ret (m.sta S2) m.nx m.rep
  cases m with
  | count =>
    cases x0 with
    | tup l0 =>
      cases Option.some.inj ek
      obtain ⟨ad, vs, rfl, hT, _⟩ := c0.tpm
      refine ⟨"tuple", "tuple.count", _, PySem.F.plainAttrs_tuple, PySem.F.slot_tuple_count, PySem.F.type_tuple_count, .inr ⟨rfl, ad, vs, rfl, Fz.sub.tpM hT⟩, mt_cntT B hr, go fun G2 H2 u dx dy t h1 h2 e q => ?_⟩
      cases dx <;> first | (cases e; done) | skip
      exact ⟨G2, u, _, dy, t, rfl, h1, h2, e, q⟩
    | lst l0 =>
      cases Option.some.inj ek
      obtain ⟨ad, vs, rfl, hT, _⟩ := c0.lst
      refine ⟨"list", "list.count", _, PySem.F.plainAttrs_list, PySem.F.slot_list_count, PySem.F.type_list_count, .inl (.inl ⟨rfl, vs, .inl (.inl hT)⟩), mt_cntL B hr, go fun G2 H2 u dx dy t h1 h2 e q => ?_⟩
      cases dx <;> first | (cases e; done) | skip
      exact ⟨G2, u, _, dy, t, rfl, h1, h2, e, q⟩
    | _ => cases ek
end
end Ev
end

section
set_option linter.all false
set_option maxRecDepth 100000
set_option maxHeartbeats 8000000
/-! From the program's expressions to the language's: all forms. -/
namespace Ev
open PySem L2 PySem.Spec PyProof.Rows

section
variable (T : Tab) (f : Scope → Expr → Option E) (sc : Scope)
def cConst : Const → Option D
  | .int i => some (.int i)
  | .bool b => some (.bl b)
  | .none => some .non
  | .str x => some (.str x)
  | _ => none
def cName (x : Str) : Option E := if nov x then (if visC sc x then (ixN x T.N 0).bind fun i => some (.v i) else if glC sc x then (T.c x).bind fun n => some (.g n) else none) else none
def cL (es : List Expr) : Option (List E) := if es.any isStar then none else mapO (f sc) es
def cBool (op : E → E → E) : List Expr → Option E
  | [] => none
  | [x] => f sc x
  | x :: r => (f sc x).bind fun a => (cBool op r).bind fun b => some (op a b)
def cBd : Option Expr → Option E
  | none => some (.c .non)
  | some x => (f sc x).bind fun a => if isNonE a then none else some a
def cGen (x : Str) : List Expr → Option E
  | [] => none
  | e :: es => (bltN x).bind fun b => (cL f sc (e :: es)).bind fun l => some (.blt b l)
def cIs : List Expr → Option E
  | [e, .Name t _] => if isStar e then none else if glC sc t then (isN t).bind fun b => (f sc e).bind fun a => some (.blt b [a]) else none
  | _ => none
def cLran : List Expr → Option E
  | [.Call (.Name r _) [a] [] _] => if r = "range" then (if glC sc r && !isStar a then (f sc a).bind fun a => some (.lran [a]) else none) else none
  | _ => none
def cBlt (x : Str) (args : List Expr) : Option E := if x = "isinstance" then cIs f sc args else if x = "list" then (match cLran f sc args with
    | some e => some e
    | none => cGen f sc x args) else cGen f sc x args
def isCallE : E → Bool
  | .call _ _ => true
  | .call1 _ _ => true
  | _ => false
def cCall (x : Str) (args : List Expr) : Option E := if nov x && glC sc x then (match T.fn x args.length with
    | some k => (match args with
    | [a] => if isStar a then none else (f sc a).bind fun e => some (if isCallE e then .call1 k e else .call k [e])
    | args => (cL f sc args).bind fun l => some (.call k l))
    | none => cBlt f sc x args) else none
def isTupE : Expr → Bool
  | .Tuple _ _ _ => true
  | _ => false
def cItG (it : Expr) : Option E := (f sc it).bind fun e => if seqE e then some e else none
def cItC (tg : Expr) (x : Str) : List Expr → Option E
  | [a] => if isStar a then none else if x = "range" then (f sc a).bind fun a => some (.range [a]) else if x = "enumerate" then (if isTupE tg then (f sc a).bind fun a => some (.enum a) else none) else none
  | [a, b] => if isStar a || isStar b then none else if x = "range" then (f sc a).bind fun a => (f sc b).bind fun b => some (.range [a, b]) else if x = "zip" then (if isTupE tg then (f sc a).bind fun a => (f sc b).bind fun b => some (.zip a b) else none) else none
  | _ => none
def cIt (tg it : Expr) : Option E := match it with
  | .Call (.Name x _) args [] _ => if glC sc x then (match cItC f sc tg x args with
    | some e => some e
    | none => cItG f sc it) else cItG f sc it
  | _ => cItG f sc it
def ownOf (scope : Scope) : List (Str × Nat) := scope.names.filterMap fun p => match p.2 with
  | .local => (ixN p.1 T.N 0).map fun i => (p.1, i)
  | .cell => (ixN p.1 T.N 0).map fun i => (p.1, i)
  | _ => none
def cIfs (sc : Scope) : List Expr → Option (List E)
  | [] => some []
  | [c] => (f sc c).bind fun a => some [a]
  | _ => none
def cLc (elt tg it : Expr) (ifs : List Expr) (scope : Scope) : Option E := if isSetE it then none else if blkC T.N sc scope (ownOf T scope) then
    (cIt f sc tg it).bind fun it => (cG T (fun x => scope.names.lookup x == some .cell) (relS scope sc) 5 tg).bind fun g => (cIfs f (relS scope sc) ifs).bind fun ifs => (f (relS scope sc) elt).bind fun a =>
      if (tgs g).all (((ownOf T scope).map (·.2)).contains ·) then some (.lc a g it ifs ((ownOf T scope).map (·.2))) else none
  else none
def cCmp (a : Expr) (os : List CmpOp) (bs : List Expr) : Option E := match os, bs with
    | [o], [b] => if behindInMarks o b then none else (opC o).bind fun o => (f sc a).bind fun a => (f sc b).bind fun b => some (.cmp o a b)
    | [o, o'], [b, c] => if lastMarks [o, o'] [b, c] then none else (opC o).bind fun o => (opC o').bind fun o' => (f sc a).bind fun a => (f sc b).bind fun b => (f sc c).bind fun c => some (.chn o o' a b c)
    | _, _ => none
def cSub (a i : Expr) : Option E := match i with
    | .Slice none none (some (.UnaryOp .USub (.Constant (.int 1) _ _) _)) _ => (f sc a).bind fun a => some (.un .rev a)
    | .Slice lo hi none _ => (f sc a).bind fun a => (cBd f sc lo).bind fun lo => (cBd f sc hi).bind fun hi => some (.slc a lo hi)
    | i => if isSlc i then none else (f sc a).bind fun a => (f sc i).bind fun i => some (.sub a i)
/-- no call without arguments -/
def noCall0 : Expr → Bool
  | .Call _ [] _ _ => false
  | _ => true
def mthN (x : Str) : Option Mth := if x = "count" then some .count else none
def cMth (o : Expr) (name : Str) (ap : Pos) (args : List Expr) (pos : Pos) : Option E := match args with
    | [y] => if isStar y then none else if ap.endLine == pos.line && noCall0 o then (mthN name).bind fun m => (f sc o).bind fun a => (f sc y).bind fun b => some (.mth m a b) else none
    | _ => none
def cErr2 (x : Str) (args : List Expr) : Option E := match args with
    | [a] => if x = "repr" then (if isStar a || !T.gd then none else (f sc a).bind fun e => some (.un .rpr e)) else none
    | [a, .Name t _] => if x = "isinstance" then (if isStar a then none else if nov t && glC sc t then (T.i t).bind fun q => (f sc a).bind fun e => some (.un (.isx q.1 q.2) e) else none) else none
    | _ => none
def cErr (x : Str) (args : List Expr) : Option E := if T.ne && (nov x && glC sc x) then (match T.x x, args with
    | some c, [a] => if isStar a then none else (f sc a).bind fun e => some (.exn c e)
    | _, _ => cErr2 T f sc x args) else none
def cFld (r : Expr) (n : Str) : Option E := if T.ne && noCall0 r then (f sc r).bind fun a => some (.un (.fld n) a) else none
def cCallE (fn : Expr) (args : List Expr) (kws : List Keyword) (pos : Pos) : Option E := match fn, kws with
    | .Name x _, [] => (match cErr T f sc x args with
      | some e => some e
      | none => cCall T f sc x args)
    | .Attribute o name ap, [] => cMth f sc o name ap args pos
    | _, _ => none
def cLcE (elt : Expr) (gens : List Comprehension) (scope : Scope) : Option E := match gens with
    | [⟨tg, it, ifs, k⟩] => if k = 0 then cLc T f sc elt tg it ifs scope else none
    | _ => none
def cE1 : Expr → Option E
  | .Name x _ => cName T sc x
  | .Constant c _ _ => (cConst c).bind fun d => some (.c d)
  | .BinOp a o b _ => (opB o).bind fun o => (f sc a).bind fun a => (f sc b).bind fun b => some (.bin o a b)
  | .UnaryOp o a _ => (match o with
    | .USub => (f sc a).bind fun a => some (.neg a)
    | .Not => (f sc a).bind fun a => some (.not a)
    | _ => none)
  | .Compare a os bs _ => cCmp f sc a os bs
  | .BoolOp o xs _ => (match xs with
    | [] => none
    | [_] => none
    | _ => (match o with
      | .And => cBool f sc .and xs
      | .Or => cBool f sc .or xs))
  | .IfExp c a b _ => (f sc c).bind fun c => (f sc a).bind fun a => (f sc b).bind fun b => some (.ite c a b)
  | .Tuple es _ _ => (cL f sc es).bind fun l => some (.tup l)
  | .List es _ => (cL f sc es).bind fun l => some (.lst l)
  | .Subscript a i _ => cSub f sc a i
  | .Call fn args kws p => cCallE T f sc fn args kws p
  | .ListComp elt gens scope _ => cLcE T f sc elt gens scope
  | .Attribute r n _ => cFld T f sc r n
  | .Dict [] [] _ => some (.c (.dic [] []))
  | _ => none
end
def cE (T : Tab) : Nat → Scope → Expr → Option E
  | 0, _, _ => none
  | n + 1, sc, x => cE1 T (cE T n) sc x

section
variable {B : Cls0} {W : WX} {X : Cx} {x y z : Expr} {pos p : Pos} {Y : Sys} {T : Tab} {f : Scope → Expr → Option E} {sc : Scope}
/-- what is known of the recursion -/
def FOk (T : Tab) (B : Cls0) (Y : Sys) (f : Scope → Expr → Option E) : Prop := ∀ (W : WX) (X : Cx) (sc : Scope) (x : Expr) (e : E), XOk T B W Y X sc → f sc x = some e → SET B W Y X e x
theorem XOk.room' (o : XOk T B W Y X sc) : ∃ n, Room n X.A := o.room.imp' (· + 3) fun _ h => h
theorem cL_ok (o : XOk T B W Y X sc) (hf : FOk T B Y f) : ∀ {es : List Expr} {l : List E}, cL f sc es = some l → SL B W Y X l es := by
  intro es l h
  unfold cL at h
  split at h
  · cases h
  · rename_i hs
    have hs : es.any isStar = false := by simpa using hs
    induction es generalizing l with
    | nil => cases h; exact sl_nil
    | cons e es ih =>
      simp only [List.any_cons, Bool.or_eq_false_iff] at hs
      obtain ⟨b, hb, h⟩ := Option.bind_eq_some_iff.mp (show ((f sc e).bind fun b => (mapO (f sc) es).bind fun s => some (b :: s)) = some l from h)
      obtain ⟨s, hs2, h⟩ := Option.bind_eq_some_iff.mp h
      cases h
      exact sl_cons (hf _ _ _ _ _ o hb).s (ih (by rw [hs.2]; exact Bool.false_ne_true) hs2 hs.2) (star_one hs.1 _ _)
theorem cL_len {es : List Expr} {l : List E} (h : cL f sc es = some l) : l.length = es.length ∧ es.any isStar = false := by
  unfold cL at h
  split at h
  · cases h
  · rename_i hs
    exact ⟨mapO_len h, by simpa using hs⟩
theorem cAnd_ok (o : XOk T B W Y X sc) (hf : FOk T B Y f) {pos : Pos} : ∀ {xs : List Expr} {e : E}, cBool f sc .and xs = some e → PE X (.BoolOp .And xs pos) (tE X.K B W (ev Y e)) ∧ PW X (.BoolOp .And xs pos) (tT X.K B W (evT Y e)) ∧ (2 ≤ xs.length → SE B W Y X e (.BoolOp .And xs pos))
  | [], e, h => by cases h
  | [x], e, h => by
    have s := hf _ _ _ _ _ o (show f sc x = some e from h)
    exact ⟨pe_one s.s.e, pw_and1 s.t, fun h => by simp at h⟩
  | x :: y :: r, e, h => by
    obtain ⟨a, ha, h⟩ := Option.bind_eq_some_iff.mp (show ((f sc x).bind fun a => (cBool f sc .and (y :: r)).bind fun b => some (.and a b)) = some e from h)
    obtain ⟨b, hb, h⟩ := Option.bind_eq_some_iff.mp h
    cases h
    have s := hf _ _ _ _ _ o ha
    obtain ⟨h1, h2, _⟩ := cAnd_ok o hf (pos := pos) hb
    have q : SE B W Y X (.and a b) (.BoolOp .And (x :: y :: r) pos) := se_and s.s h1
    exact ⟨q.e, st_and s.t h2, fun _ => q⟩
theorem cOr_ok (o : XOk T B W Y X sc) (hf : FOk T B Y f) {pos : Pos} : ∀ {xs : List Expr} {e : E}, cBool f sc .or xs = some e → PE X (.BoolOp .Or xs pos) (tE X.K B W (ev Y e)) ∧ PW X (.BoolOp .Or xs pos) (tT X.K B W (evT Y e)) ∧ (2 ≤ xs.length → SE B W Y X e (.BoolOp .Or xs pos))
  | [], e, h => by cases h
  | [x], e, h => by
    have s := hf _ _ _ _ _ o (show f sc x = some e from h)
    exact ⟨pe_one s.s.e, pw_or1 s.t, fun h => by simp at h⟩
  | x :: y :: r, e, h => by
    obtain ⟨a, ha, h⟩ := Option.bind_eq_some_iff.mp (show ((f sc x).bind fun a => (cBool f sc .or (y :: r)).bind fun b => some (.or a b)) = some e from h)
    obtain ⟨b, hb, h⟩ := Option.bind_eq_some_iff.mp h
    cases h
    have s := hf _ _ _ _ _ o ha
    obtain ⟨h1, h2, _⟩ := cOr_ok o hf (pos := pos) hb
    have q : SE B W Y X (.or a b) (.BoolOp .Or (x :: y :: r) pos) := se_or s.s h1
    exact ⟨q.e, st_or s.t h2, fun _ => q⟩
theorem cName_ok (o : XOk T B W Y X sc) {x : Str} {e : E} (h : cName T sc x = some e) : SET B W Y X e (.Name x p) := by
  unfold cName at h
  split at h
  case isFalse => cases h
  rename_i hn
  obtain ⟨n1, n2, n3⟩ := nov_ok hn
  split at h
  · rename_i hv
    obtain ⟨i, hi, h⟩ := Option.bind_eq_some_iff.mp h
    cases h
    have q : PE X (.Name x p) (tVar i) := pe_var (by rw [o.N]; exact ixN_get0 hi) (by rw [o.sc]; exact visC_ok hv) n1 n2
    have s : SE B W Y X (.v i) (.Name x p) := ⟨se_v q, fun k e => by cases e; exact q⟩
    refine ⟨s, ?_⟩
    have e' : evT Y (.v i) = fun ρ => bnd (evPl (.v i) (ev Y (.v i)) ρ) fun p ρ => opt (rd ρ p) fun d => opt (truD d) fun b => ret b ρ := by
      funext ρ
      conv => lhs; unfold evT
      rfl
    rw [e']
    exact st_plain s fun _ => rfl
  · split at h
    case isFalse => cases h
    rename_i hg
    obtain ⟨n, hc, h⟩ := Option.bind_eq_some_iff.mp h
    cases h
    obtain ⟨v, u, hm, r, rp⟩ := o.cs x n hc
    have q : PE X (.Name x p) (tE X.K B W (ev Y (.g n))) := by
      have e : ev Y (.g n) = fun ρ => ret (.val (Y.gl n)) ρ := by funext ρ; conv => lhs; unfold ev
      rw [e]
      exact se_cst (pe_glob (glC_ok o.sc hg) hm r n1) fun F => rp.mono fun a o z => by cases z
    exact SET.plain (SE.mk1 q fun k => nofun) (fun ρ => by conv => lhs; unfold evT
                                                           conv => rhs; unfold ev) fun _ => rfl
theorem cConst_ok {c : Const} {k : Nat} {d : D} (h : cConst c = some d) : SET B W Y X (.c d) (.Constant c k p) := by
  have e : ev Y (.c d) = fun ρ => ret (.val d) ρ := by funext ρ; conv => lhs; unfold ev
  have q : PE X (.Constant c k p) (tE X.K B W (ev Y (.c d))) := by
    rw [e]
    cases c <;> first | (cases h; done) | skip
    · cases h; exact se_cst pe_non fun F => .non
    · cases h; exact se_cst pe_bl fun F => .bl _
    · cases h; exact se_cst pe_int fun F => .int _
    · cases h; exact se_cst pe_str fun F => .str _
  exact SET.plain (SE.mk1 q fun k => nofun) (fun ρ => by rw [e]; conv => lhs; unfold evT) fun _ => rfl
theorem cBd_ok (o : XOk T B W Y X sc) (hf : FOk T B Y f) {x : Option Expr} {a : E} (h : cBd f sc x = some a) : PO X x (tO X.K B W (evBd a (ev Y a))) := by
  cases x with
  | none => cases h; exact so_none
  | some x =>
    obtain ⟨a', ha, h⟩ := Option.bind_eq_some_iff.mp (show ((f sc x).bind fun a => if isNonE a then none else some a) = some a from h)
    split at h
    · cases h
    · rename_i hn
      cases h
      exact so_some (hf _ _ _ _ _ o ha).s (isNonE_ok (by simpa using hn))
theorem cGen_ok (o : XOk T B W Y X sc) (hf : FOk T B Y f) {x : Str} {args : List Expr} {e : E} (hg : Gl X x) (h : cGen f sc x args = some e) : SE B W Y X e (.Call (.Name x p) args [] pos) := by
  cases args with
  | nil => cases h
  | cons a as =>
    obtain ⟨b, hb, h⟩ := Option.bind_eq_some_iff.mp (show ((bltN x).bind fun b => (cL f sc (a :: as)).bind fun l => some (.blt b l)) = some e from h)
    obtain ⟨l, hl, h⟩ := Option.bind_eq_some_iff.mp h
    cases h
    obtain ⟨b1, b2, b3, b4, b5⟩ := bltN_ok hb
    have hs := (cL_len hl).2
    simp only [List.any_cons, Bool.or_eq_false_iff] at hs
    exact se_blt (cL_ok o hf hl) b2 o.calm hg (o.blt x b1) b3 b4 b5 (star_one hs.1 _ _) (no_star hs.2 _ _)
theorem cIs_ok (o : XOk T B W Y X sc) (hf : FOk T B Y f) {args : List Expr} {e : E} (hg : Gl X "isinstance") (h : cIs f sc args = some e) : SE B W Y X e (.Call (.Name "isinstance" p) args [] pos) := by
  unfold cIs at h
  split at h
  case h_2 => cases h
  rename_i x t p2
  split at h
  · cases h
  rename_i hs
  split at h
  case isFalse => cases h
  rename_i hgt
  obtain ⟨b, hb, h⟩ := Option.bind_eq_some_iff.mp h
  obtain ⟨a, ha, h⟩ := Option.bind_eq_some_iff.mp h
  cases h
  obtain ⟨b1, b2, b3, b4, b5⟩ := isN_ok hb
  exact se_is (hf _ _ _ _ _ o ha).s b2 hg (o.blt _ (by decide +kernel)) boot_isi (by decide) (by decide) (glC_ok o.sc hgt) (o.blt t b1) b3 b4 b5 (star_one (by simpa using hs) _ _) (no_star (by rfl) _ _)
theorem cLran_ok (o : XOk T B W Y X sc) (hf : FOk T B Y f) {args : List Expr} {e : E} (hg : Gl X "list") (h : cLran f sc args = some e) : SE B W Y X e (.Call (.Name "list" p) args [] pos) := by
  unfold cLran at h
  split at h
  case h_2 => cases h
  rename_i r p2 a p3
  split at h
  case isFalse => cases h
  rename_i hr
  subst hr
  split at h
  case isFalse => cases h
  rename_i hg2
  simp only [Bool.and_eq_true, Bool.not_eq_true'] at hg2
  obtain ⟨a', ha, h⟩ := Option.bind_eq_some_iff.mp h
  cases h
  exact se_lran1 (hf _ _ _ _ _ o ha).s o.calm (glC_ok o.sc hg2.1) (o.blt _ (by decide +kernel)) hg (o.blt _ (by decide +kernel)) (star_one hg2.2 _ _) (star_one rfl _ _)
theorem cBlt_ok (o : XOk T B W Y X sc) (hf : FOk T B Y f) {x : Str} {args : List Expr} {e : E} (hg : Gl X x) (h : cBlt f sc x args = some e) : SE B W Y X e (.Call (.Name x p) args [] pos) := by
  unfold cBlt at h
  split at h
  · rename_i e1
    subst e1
    exact cIs_ok o hf hg h
  · split at h
    · rename_i e1
      subst e1
      split at h
      · rename_i e2 q
        cases h
        exact cLran_ok o hf hg q
      · exact cGen_ok o hf hg h
    · exact cGen_ok o hf hg h
theorem cCall_ok (o : XOk T B W Y X sc) (hf : FOk T B Y f) {x : Str} {args : List Expr} {e : E} (h : cCall T f sc x args = some e) : SE B W Y X e (.Call (.Name x p) args [] pos) := by
  unfold cCall at h
  split at h
  case isFalse => cases h
  rename_i hh
  simp only [Bool.and_eq_true] at hh
  obtain ⟨n1, n2, n3⟩ := nov_ok hh.1
  have hg := glC_ok o.sc hh.2
  split at h
  case h_2 => exact cBlt_ok o hf hg h
  rename_i k hk
  obtain ⟨gg, n, kk, fA, fd, ps, dvs, ds, F, gd, hr, hm, hkp, hb, hd, hrd, he⟩ := (o.fns x _ k hk).ex
  split at h
  · rename_i a
    split at h
    · cases h
    rename_i hs
    have hs : isStar a = false := by simpa using hs
    obtain ⟨e', ha, h⟩ := Option.bind_eq_some_iff.mp h
    cases h
    have sa := (hf _ _ _ _ _ o ha).s
    split
    · exact se_call1 sa F gd hr hg hm hkp hb hd hrd o.takes n1 (star_one hs _ _) rfl he
    · exact se_call (sl_cons sa sl_nil (star_one hs _ _)) F gd hr hg hm hkp hb hd hrd o.takes n1 (star_one hs _ _) rfl he
  obtain ⟨l, hl, h⟩ := Option.bind_eq_some_iff.mp h
  cases h
  have hlen := cL_len hl
  cases args with
  | nil =>
    have e0 : l = [] := List.length_eq_zero_iff.mp hlen.1
    subst e0
    exact se_call0 F gd hr hg hm hkp hb hd hrd o.takes n1 he
  | cons a as =>
    have hs := hlen.2
    simp only [List.any_cons, Bool.or_eq_false_iff] at hs
    exact se_call (cL_ok o hf hl) F gd hr hg hm hkp hb hd (by rw [hlen.1]; exact hrd) o.takes n1 (star_one hs.1 _ _) (no_star hs.2 _ _) (by rw [hlen.1]; exact he)
theorem cItG_ok (o : XOk T B W Y X sc) (hf : FOk T B Y f) {tg it : Expr} {e : E} {oc : Nat → Bool} (h : cItG f sc it = some e) : PI X tg it (tI X.K B W (evIt Y oc e)) := by
  obtain ⟨a, ha, h⟩ := Option.bind_eq_some_iff.mp (show ((f sc it).bind fun e => if seqE e then some e else none) = some e from h)
  split at h
  · rename_i hs
    cases h
    exact si_seq (hf _ _ _ _ _ o ha).s hs
  · cases h
theorem isTup_ok {tg : Expr} (h : isTupE tg = true) : ∃ es k p, tg = .Tuple es k p := by
  cases tg <;> first | (cases h; done) | exact ⟨_, _, _, rfl⟩
theorem cItC_ok (o : XOk T B W Y X sc) (hf : FOk T B Y f) {tg : Expr} {x : Str} {args : List Expr} {e : E} {oc : Nat → Bool} (hg : Gl X x) (h : cItC f sc tg x args = some e) : PI X tg (.Call (.Name x p) args [] pos) (tI X.K B W (evIt Y oc e)) := by
  unfold cItC at h
  split at h
  · rename_i a
    split at h
    · cases h
    rename_i hs
    have hs : isStar a = false := by simpa using hs
    split at h
    · rename_i e1
      subst e1
      obtain ⟨a', ha, h⟩ := Option.bind_eq_some_iff.mp h
      cases h
      exact si_range1 (hf _ _ _ _ _ o ha).s hg (o.blt _ (by decide +kernel)) (star_one hs _ _)
    split at h
    · rename_i e1
      subst e1
      split at h
      case isFalse => cases h
      rename_i ht
      obtain ⟨es, k, p', rfl⟩ := isTup_ok ht
      obtain ⟨a', ha, h⟩ := Option.bind_eq_some_iff.mp h
      cases h
      exact si_enum (hf _ _ _ _ _ o ha).s hg (o.blt _ (by decide +kernel)) (star_one hs _ _)
    · cases h
  · rename_i a b
    split at h
    · cases h
    rename_i hs
    have hs : (isStar a || isStar b) = false := by simpa using hs
    simp only [Bool.or_eq_false_iff] at hs
    split at h
    · rename_i e1
      subst e1
      obtain ⟨a', ha, h⟩ := Option.bind_eq_some_iff.mp h
      obtain ⟨b', hb, h⟩ := Option.bind_eq_some_iff.mp h
      cases h
      exact si_range2 (hf _ _ _ _ _ o ha).s (hf _ _ _ _ _ o hb).s hg (o.blt _ (by decide +kernel)) (by rw [star_one hs.1, star_one hs.2]; rfl) (star_one hs.2 _ _)
    split at h
    · rename_i e1
      subst e1
      split at h
      case isFalse => cases h
      rename_i ht
      obtain ⟨es, k, p', rfl⟩ := isTup_ok ht
      obtain ⟨a', ha, h⟩ := Option.bind_eq_some_iff.mp h
      obtain ⟨b', hb, h⟩ := Option.bind_eq_some_iff.mp h
      cases h
      exact si_zip (hf _ _ _ _ _ o ha).s (hf _ _ _ _ _ o hb).s hg (o.blt _ (by decide +kernel)) (star_one hs.1 _ _) (star_one hs.2 _ _) (no_star (by simp [hs.2]) _ _)
    · cases h
  · cases h
theorem cIt_ok (o : XOk T B W Y X sc) (hf : FOk T B Y f) {tg it : Expr} {e : E} {oc : Nat → Bool} (h : cIt f sc tg it = some e) : PI X tg it (tI X.K B W (evIt Y oc e)) := by
  unfold cIt at h
  split at h
  · split at h
    · rename_i hg
      split at h
      · rename_i q
        cases h
        exact cItC_ok o hf (glC_ok o.sc hg) q
      · exact cItG_ok o hf h
    · exact cItG_ok o hf h
  · exact cItG_ok o hf h
theorem cIfs_ok (o : XOk T B W Y X sc) (hf : FOk T B Y f) {es : List Expr} {l : List E} (h : cIfs f sc es = some l) : PTs X es (tT X.K B W (evTs Y l)) := by
  unfold cIfs at h
  split at h
  · cases h
    refine ⟨fun pins s σ H Q I ⟨G, ρ, S, P⟩ => pts_nil.run pins s σ H Q I ?_⟩
    unfold evTs at P
    exact P.ret S Nx.refl rfl
  · rename_i c
    obtain ⟨a, ha, h⟩ := Option.bind_eq_some_iff.mp h
    cases h
    have q := pts_one (hf _ _ _ _ _ o ha).t
    refine ⟨fun pins s σ H Q I ⟨G, ρ, S, P⟩ => q.run pins s σ H Q I ⟨G, ρ, S, ?_⟩⟩
    have e : evTs Y [a] ρ = evT Y a ρ := by
      conv => lhs; unfold evTs
      unfold evTs
      cases evT Y a ρ with
      | none => rfl
      | some q =>
        obtain ⟨r, ρ1⟩ := q
        cases r with
        | err c d => rfl
        | ok b => cases b <;> rfl
    rw [← e]
    exact P
  · cases h
theorem cLc_ok (o : XOk T B W Y X sc) (hf : FOk T B Y f) {elt tg it : Expr} {ifs : List Expr} {scope : Scope} {e : E} (h : cLc T f sc elt tg it ifs scope = some e) : SE B W Y X e (.ListComp elt [⟨tg, it, ifs, 0⟩] scope pos) := by
  unfold cLc at h
  split at h
  · cases h
  rename_i hset
  split at h
  case isFalse => cases h
  rename_i hblk
  obtain ⟨it', hit, h⟩ := Option.bind_eq_some_iff.mp h
  obtain ⟨g, hg, h⟩ := Option.bind_eq_some_iff.mp h
  obtain ⟨ifs', hifs, h⟩ := Option.bind_eq_some_iff.mp h
  obtain ⟨a, ha, h⟩ := Option.bind_eq_some_iff.mp h
  split at h
  case isFalse => cases h
  rename_i hall
  cases h
  have hb : BlkOk X.N X.env.scope scope (ownOf T scope) := by
    rw [o.N, o.sc]
    exact blkOk_by hblk
  refine se_lc o.calm o.nodup (cIt_ok o hf hit) hb rfl (fun s H C cl fp => ?_) (fun s H C cl fp => cIfs_ok (o.blk s H C cl fp) hf hifs) (fun s H C cl fp => (hf _ _ _ _ _ (o.blk s H C cl fp) ha).s.d) (fold_of (by simpa using hset) _) fun i hi => ?_
  · have ob := o.blk (scope := scope) s H C cl fp
    exact cG_ok (X := X.blk s H scope (compEnvC scope cl C X.env) fp) ob.calm ob.nodup ob.N ob.sc (fun x h => h) hg
  · have := List.all_eq_true.mp hall i hi
    exact List.contains_iff_mem.mp this
theorem plT (h : SE B W Y X a x) (e : ∀ ρ, evT Y a ρ = truT (ev Y a ρ)) (he : ∀ whole, isTrue x X.env whole = (do let v ← whole; standAt x.pos; holding [v] (truthy v))) : SET B W Y X a x := SET.plain h e he
theorem isTrue_call {fn : Expr} {as : List Expr} {ks : List Keyword} {env : PySem.Env} : ∀ whole, isTrue (.Call fn as ks pos) env whole = (do let v ← whole; standAt (Expr.Call fn as ks pos).pos; holding [v] (truthy v)) := fun _ => rfl
theorem base_ok {o : Expr} {name : Str} {env : PySem.Env} {whole : Sem Value} (h : noCall0 o = true) : attributeBase o name env whole = whole := by
  unfold attributeBase
  split
  · cases h
  · rfl
theorem mthN_ok {x : Str} {m : Mth} (h : mthN x = some m) : x = mthS m := by
  unfold mthN at h
  split at h
  · rename_i e
    cases h
    exact e
  · cases h
theorem cMth_ok (o : XOk T B W Y X sc) (hf : FOk T B Y f) {r : Expr} {name : Str} {ap : Pos} {args : List Expr} {e : E} (h : cMth f sc r name ap args pos = some e) : SET B W Y X e (.Call (.Attribute r name ap) args [] pos) := by
  unfold cMth at h
  split at h
  case h_2 => cases h
  rename_i y
  split at h
  · cases h
  rename_i hs
  split at h
  case isFalse => cases h
  rename_i hc
  obtain ⟨hl, hn⟩ := Bool.and_eq_true_iff.mp hc
  obtain ⟨m, hm, h⟩ := Option.bind_eq_some_iff.mp h
  obtain ⟨a, ha, h⟩ := Option.bind_eq_some_iff.mp h
  obtain ⟨b, hb, h⟩ := Option.bind_eq_some_iff.mp h
  cases h
  cases mthN_ok hm
  obtain ⟨n, hr⟩ := o.room'
  exact SET.plain (se_mth hr (hf _ _ _ _ _ o ha).s (hf _ _ _ _ _ o hb).s (base_ok hn) (by simpa using hs) hl) (fun ρ => by conv => lhs; unfold evT) fun _ => rfl
theorem boot_rpr : bootBuiltins "repr" = some (.builtin "repr") := by decide +kernel
theorem cErr2_ok (o : XOk T B W Y X sc) (hf : FOk T B Y f) (hne : T.ne = true) {x : Str} {args : List Expr} {e : E} (hg : Gl X x) (h : cErr2 T f sc x args = some e) : SET B W Y X e (.Call (.Name x p) args [] pos) := by
  unfold cErr2 at h
  split at h
  · split at h
    case isFalse => cases h
    rename_i ex
    subst ex
    split at h
    · cases h
    rename_i hs
    obtain ⟨hs, hgd⟩ : isStar _ = false ∧ T.gd = true := by simpa using hs
    obtain ⟨a, ha, h⟩ := Option.bind_eq_some_iff.mp h
    cases h
    obtain ⟨n, hr⟩ := o.room
    exact SET.plain (se_rpr (o.gd hgd) hr (o.erf hne).sys (hf _ _ _ _ _ o ha).s hs hg (o.blt _ (by decide +kernel)) boot_rpr) (fun ρ => by conv => lhs; unfold evT) fun _ => rfl
  · split at h
    case isFalse => cases h
    rename_i ex
    subst ex
    split at h
    · cases h
    rename_i hs
    split at h
    case isFalse => cases h
    rename_i ht
    obtain ⟨ht1, ht2⟩ := Bool.and_eq_true_iff.mp ht
    obtain ⟨q, hq, h⟩ := Option.bind_eq_some_iff.mp h
    obtain ⟨a, ha, h⟩ := Option.bind_eq_some_iff.mp h
    cases h
    obtain ⟨c, cv, c1, c2, c3, c4⟩ := (o.iss _ q hq).ex
    obtain ⟨n1, n2, n3⟩ := nov_ok ht1
    have hgt := glC_ok o.sc ht2
    refine SET.plain (se_isx c2 c1 ?_ (hf _ _ _ _ _ o ha).s (by simpa using hs) hg (o.blt _ (by decide +kernel)) boot_isi) (fun ρ => by conv => lhs; unfold evT) fun _ => rfl
    rcases c4 with c4 | ⟨c4, c5⟩
    · exact pe_glob hgt c4 c3 n1
    · exact pe_bltn hgt c4 c5 c3 n3 n1
  · cases h
theorem cErr_ok (o : XOk T B W Y X sc) (hf : FOk T B Y f) {x : Str} {args : List Expr} {e : E} (h : cErr T f sc x args = some e) : SET B W Y X e (.Call (.Name x p) args [] pos) := by
  unfold cErr at h
  split at h
  case isFalse => cases h
  rename_i hh
  obtain ⟨hne, hh⟩ := Bool.and_eq_true_iff.mp hh
  obtain ⟨h1, h2⟩ := Bool.and_eq_true_iff.mp hh
  obtain ⟨n1, n2, n3⟩ := nov_ok h1
  have hg := glC_ok o.sc h2
  split at h
  · rename_i c a hx
    split at h
    · cases h
    rename_i hs
    obtain ⟨a', ha, h⟩ := Option.bind_eq_some_iff.mp h
    cases h
    obtain ⟨D, fI, fd, g1, g2, g3⟩ := (o.erf hne).ex
    obtain ⟨n, hr⟩ := o.room
    exact SET.plain (se_exn (g1 c) g2 (hr.mono (by omega)) g3 o.takes hg (o.ers _ _ hx) (hf _ _ _ _ _ o ha).s (by simpa using hs) n1) (fun ρ => by conv => lhs; unfold evT) fun _ => rfl
  · exact cErr2_ok o hf hne hg h
theorem cFld_ok (o : XOk T B W Y X sc) (hf : FOk T B Y f) {r : Expr} {n : Str} {e : E} (h : cFld T f sc r n = some e) : SET B W Y X e (.Attribute r n p) := by
  unfold cFld at h
  split at h
  case isFalse => cases h
  rename_i hh
  obtain ⟨hne, hn⟩ := Bool.and_eq_true_iff.mp hh
  obtain ⟨a, ha, h⟩ := Option.bind_eq_some_iff.mp h
  cases h
  obtain ⟨D, fI, fd, g1, g2, g3⟩ := (o.erf hne).ex
  exact SET.plain (se_fld (fun c => ⟨(g1 c).fld, (g1 c).ask.fld⟩) (base_ok hn) (hf _ _ _ _ _ o ha).s) (fun ρ => by conv => lhs; unfold evT) fun _ => rfl
theorem cE1_ok (o : XOk T B W Y X sc) (hf : FOk T B Y f) {e : E} (h : cE1 T f sc x = some e) : SET B W Y X e x := by
  cases x with
  | Name x p => exact cName_ok o h
  | Constant c k p =>
    obtain ⟨d, hd, h⟩ := Option.bind_eq_some_iff.mp (show ((cConst c).bind fun d => some (.c d)) = some e from h)
    cases h
    exact cConst_ok hd
  | BinOp a op b p =>
    obtain ⟨op', ho, h⟩ := Option.bind_eq_some_iff.mp (show ((opB op).bind fun o => (f sc a).bind fun a => (f sc b).bind fun b => some (.bin o a b)) = some e from h)
    obtain ⟨a', ha, h⟩ := Option.bind_eq_some_iff.mp h
    obtain ⟨b', hb, h⟩ := Option.bind_eq_some_iff.mp h
    cases h
    rw [opB_ok ho]
    exact SET.plain (se_bin (hf _ _ _ _ _ o ha).s (hf _ _ _ _ _ o hb).s) (fun ρ => by conv => lhs; unfold evT) fun _ => rfl
  | UnaryOp op a p =>
    cases op with
    | USub =>
      obtain ⟨a', ha, h⟩ := Option.bind_eq_some_iff.mp (show ((f sc a).bind fun a => some (.neg a)) = some e from h)
      cases h
      exact SET.plain (se_neg (hf _ _ _ _ _ o ha).s) (fun ρ => by conv => lhs; unfold evT) fun _ => rfl
    | Not =>
      obtain ⟨a', ha, h⟩ := Option.bind_eq_some_iff.mp (show ((f sc a).bind fun a => some (.not a)) = some e from h)
      cases h
      exact ⟨se_not (hf _ _ _ _ _ o ha).s, st_not (hf _ _ _ _ _ o ha).t⟩
    | _ => cases h
  | Compare a os bs p =>
    have h' : cCmp f sc a os bs = some e := h
    clear h
    unfold cCmp at h'
    obtain ⟨n, hr⟩ := o.room'
    split at h'
    · split at h'
      · cases h'
      rename_i hm
      obtain ⟨o1, ho, h2⟩ := Option.bind_eq_some_iff.mp h'
      obtain ⟨a', ha, h2⟩ := Option.bind_eq_some_iff.mp h2
      obtain ⟨b', hb, h2⟩ := Option.bind_eq_some_iff.mp h2
      cases h2
      cases opC_ok ho
      have hm' := by simpa using hm
      exact ⟨se_cmp hr (hf _ _ _ _ _ o ha).s (hf _ _ _ _ _ o hb).s hm', st_cmp hr (hf _ _ _ _ _ o ha).s (hf _ _ _ _ _ o hb).s hm'⟩
    · split at h'
      · cases h'
      rename_i hm
      obtain ⟨o1, ho, h2⟩ := Option.bind_eq_some_iff.mp h'
      obtain ⟨o2, ho2, h2⟩ := Option.bind_eq_some_iff.mp h2
      obtain ⟨a', ha, h2⟩ := Option.bind_eq_some_iff.mp h2
      obtain ⟨b', hb, h2⟩ := Option.bind_eq_some_iff.mp h2
      obtain ⟨c', hc, h2⟩ := Option.bind_eq_some_iff.mp h2
      cases h2
      cases opC_ok ho
      cases opC_ok ho2
      have hm' := by simpa using hm
      exact ⟨se_chn hr (hf _ _ _ _ _ o ha).s (hf _ _ _ _ _ o hb).s (hf _ _ _ _ _ o hc).s hm', st_chn hr (hf _ _ _ _ _ o ha).s (hf _ _ _ _ _ o hb).s (hf _ _ _ _ _ o hc).s hm'⟩
    · cases h'
  | BoolOp op xs p =>
    cases xs with
    | nil => cases h
    | cons x r =>
      cases r with
      | nil => cases h
      | cons y r =>
        cases op with
        | And =>
          obtain ⟨_, h2, h3⟩ := cAnd_ok o hf (pos := p) (show cBool f sc .and (x :: y :: r) = some e from h)
          exact ⟨h3 (by simp), h2.pt⟩
        | Or =>
          obtain ⟨_, h2, h3⟩ := cOr_ok o hf (pos := p) (show cBool f sc .or (x :: y :: r) = some e from h)
          exact ⟨h3 (by simp), h2.pt⟩
  | IfExp c a b p =>
    obtain ⟨c', hc, h⟩ := Option.bind_eq_some_iff.mp (show ((f sc c).bind fun c => (f sc a).bind fun a => (f sc b).bind fun b => some (.ite c a b)) = some e from h)
    obtain ⟨a', ha, h⟩ := Option.bind_eq_some_iff.mp h
    obtain ⟨b', hb, h⟩ := Option.bind_eq_some_iff.mp h
    cases h
    have sc' := hf _ _ _ _ _ o hc
    have sa := hf _ _ _ _ _ o ha
    have sb := hf _ _ _ _ _ o hb
    exact ⟨se_ite sc'.t sa.s sb.s, st_ite sc'.t sa.t sb.t⟩
  | Tuple es k p =>
    obtain ⟨l, hl, h⟩ := Option.bind_eq_some_iff.mp (show ((cL f sc es).bind fun l => some (.tup l)) = some e from h)
    cases h
    exact SET.plain (se_tup (cL_ok o hf hl)) (fun ρ => by conv => lhs; unfold evT) fun _ => rfl
  | List es p =>
    obtain ⟨l, hl, h⟩ := Option.bind_eq_some_iff.mp (show ((cL f sc es).bind fun l => some (.lst l)) = some e from h)
    cases h
    exact SET.plain (se_lst (cL_ok o hf hl)) (fun ρ => by conv => lhs; unfold evT) fun _ => rfl
  | Subscript a i p =>
    have h' : cSub f sc a i = some e := h
    clear h
    unfold cSub at h'
    split at h'
    · obtain ⟨a', ha, h2⟩ := Option.bind_eq_some_iff.mp h'
      cases h2
      exact SET.plain (se_rev (hf _ _ _ _ _ o ha).s) (fun ρ => by conv => lhs; unfold evT) fun _ => rfl
    · obtain ⟨a', ha, h2⟩ := Option.bind_eq_some_iff.mp h'
      obtain ⟨lo', hlo, h2⟩ := Option.bind_eq_some_iff.mp h2
      obtain ⟨hi', hhi, h2⟩ := Option.bind_eq_some_iff.mp h2
      cases h2
      exact SET.plain (se_slc (hf _ _ _ _ _ o ha).s (cBd_ok o hf hlo) (cBd_ok o hf hhi)) (fun ρ => by conv => lhs; unfold evT) fun _ => rfl
    · split at h'
      · cases h'
      rename_i hs
      obtain ⟨a', ha, h2⟩ := Option.bind_eq_some_iff.mp h'
      obtain ⟨b', hb, h2⟩ := Option.bind_eq_some_iff.mp h2
      cases h2
      exact SET.plain (se_sub (hf _ _ _ _ _ o ha).s (hf _ _ _ _ _ o hb).s (plainIx_of (by simpa using hs))) (fun ρ => by conv => lhs; unfold evT) fun _ => rfl
  | Call fn args kws p =>
    have h' : cCallE T f sc fn args kws p = some e := h
    clear h
    unfold cCallE at h'
    split at h'
    · rename_i x p2
      split at h'
      · rename_i q
        cases h'
        exact cErr_ok o hf q
      have s := cCall_ok (p := p2) (pos := p) o hf h'
      refine SET.plain s (fun ρ => ?_) fun _ => rfl
      unfold cCall at h'
      split at h'
      case isFalse => cases h'
      split at h'
      · split at h'
        · split at h'
          · cases h'
          obtain ⟨e', ha, h2⟩ := Option.bind_eq_some_iff.mp h'
          cases h2
          split
          · conv => lhs; unfold evT
          · conv => lhs; unfold evT
        · obtain ⟨l, _, h2⟩ := Option.bind_eq_some_iff.mp h'
          cases h2
          conv => lhs; unfold evT
      · unfold cBlt at h'
        have gen : ∀ {x : Str} {as : List Expr}, cGen f sc x as = some e → evT Y e ρ = truT (ev Y e ρ) := fun {x as} q => by
          cases as with
          | nil => cases q
          | cons b bs =>
            obtain ⟨b, hb, q⟩ := Option.bind_eq_some_iff.mp (show ((bltN x).bind fun b' => (cL f sc (b :: bs)).bind fun l => some (.blt b' l)) = some e from q)
            obtain ⟨l, hl, q⟩ := Option.bind_eq_some_iff.mp q
            cases q
            conv => lhs; unfold evT
        split at h'
        · unfold cIs at h'
          split at h'
          · split at h'
            · cases h'
            split at h'
            · obtain ⟨b, hb, q⟩ := Option.bind_eq_some_iff.mp h'
              obtain ⟨a, ha, q⟩ := Option.bind_eq_some_iff.mp q
              cases q
              conv => lhs; unfold evT
            · cases h'
          · cases h'
        · split at h'
          · split at h'
            · rename_i q
              cases h'
              unfold cLran at q
              split at q
              · split at q
                · split at q
                  · obtain ⟨a, ha, q⟩ := Option.bind_eq_some_iff.mp q
                    cases q
                    conv => lhs; unfold evT
                  · cases q
                · cases q
              · cases q
            · exact gen h'
          · exact gen h'
    · exact cMth_ok o hf h'
    · cases h'
  | Attribute r n p => exact cFld_ok o hf (show cFld T f sc r n = some e from h)
  | ListComp elt gens scope p =>
    have h' : cLcE T f sc elt gens scope = some e := h
    clear h
    unfold cLcE at h'
    split at h'
    · split at h'
      · rename_i hk
        subst hk
        refine SET.plain (cLc_ok o hf h') (fun ρ => ?_) fun _ => rfl
        unfold cLc at h'
        split at h'
        · cases h'
        split at h'
        case isFalse => cases h'
        obtain ⟨it', hit, h⟩ := Option.bind_eq_some_iff.mp h'
        obtain ⟨g, hg, h⟩ := Option.bind_eq_some_iff.mp h
        obtain ⟨ifs', hifs, h⟩ := Option.bind_eq_some_iff.mp h
        obtain ⟨a, ha, h⟩ := Option.bind_eq_some_iff.mp h
        split at h
        case isFalse => cases h
        cases h
        conv => lhs; unfold evT
      · cases h'
    · cases h'
  | Dict ks vs p =>
    cases ks with
    | nil =>
      cases vs with
      | nil =>
        cases h
        exact SET.plain se_dic0 (fun ρ => by conv => lhs; unfold evT
                                             conv => rhs; unfold ev) fun _ => rfl
      | cons _ _ => cases h
    | cons _ _ => cases h
  | _ => cases h
theorem cE_ok : ∀ (n : Nat), FOk T B Y (cE T n)
  | 0 => fun W X sc x e o h => by unfold cE at h; cases h
  | n + 1 => fun W X sc x e o h => by
    unfold cE at h
    exact cE1_ok o (cE_ok n) h
end
end Ev
end

section
set_option linter.all false
set_option maxRecDepth 100000
set_option maxHeartbeats 4000000
/-! The language is what the machine does: statements. -/
namespace Ev
open PySem L2 PySem.Spec PyProof.Rows

section
variable (K : PySem.W.Frag) (B : Cls0) (W : WX) (σ : L2.St) (l : List Nat)
/-- what is wanted behind statements: the slots l may be given new values -/
def PostS (o : SOut) (G : Gh) (H : Hp) (D : Ends) : Prop := match o with
  | none => False
  | some (.next, ρ') => ∀ G' H' σ', Nx G H G' H' → Sta K B G' ρ' σ' H' → Sm l σ σ' → D.nx σ' H'
  | some (.brk, ρ') => ∀ G' H' σ', Nx G H G' H' → Sta K B G' ρ' σ' H' → Sm l σ σ' → D.bk σ' H'
  | some (.cont, ρ') => ∀ G' H' σ', Nx G H G' H' → Sta K B G' ρ' σ' H' → Sm l σ σ' → D.ct σ' H'
  | some (.ret t, ρ') => ∀ G' H' σ' v, Nx G H G' H' → Sta K B G' ρ' σ' H' → Sm l σ σ' → RepT K B G' H' 0 [] v t → D.rt v H'
  | some (.err c d, ρ') => ∀ G' H' σ' dx, Nx G H G' H' → Sta K B G' ρ' σ' H' → Sm l σ σ' → XRep K B G' H' d dx → W (.ref (B.X c)) (some dx) σ' H'
end
def tS (K : PySem.W.Frag) (B : Cls0) (W : WX) (l : List Nat) (f : Env → SOut) : TS := fun D σ H => ∃ G ρ, Sta K B G ρ σ H ∧ PostS K B W σ l (f ρ) G H D
section
variable {K : PySem.W.Frag} {B : Cls0} {W : WX} {σ σ0 σ1 : L2.St} {l l0 l1 : List Nat} {G G' G1 : Gh} {H H' H1 : Hp} {ρ ρ' : Env} {D D' : Ends}
theorem PostS.mono {o : SOut} (h : PostS K B W σ l o G H D) (n : Nx G H G1 H1) (m : Sm l0 σ σ1) (h0 : ∀ i, i ∈ l0 → i ∈ l) (h1 : ∀ i, i ∈ l1 → i ∈ l) : PostS K B W σ1 l1 o G1 H1 D := by
  have mm : ∀ {σ' : L2.St}, Sm l1 σ1 σ' → Sm l σ σ' := fun {σ'} q => (m.trans q).more fun i hi => by
    rcases List.mem_append.mp hi with z | z
    · exact h0 i z
    · exact h1 i z
  cases o with
  | none => exact h
  | some p =>
    obtain ⟨f, ρ'⟩ := p
    cases f with
    | next => exact fun G' H' σ' n' S q => h G' H' σ' (n.trans n') S (mm q)
    | brk => exact fun G' H' σ' n' S q => h G' H' σ' (n.trans n') S (mm q)
    | cont => exact fun G' H' σ' n' S q => h G' H' σ' (n.trans n') S (mm q)
    | ret t => exact fun G' H' σ' v n' S q r => h G' H' σ' v (n.trans n') S (mm q) r
    | err c d => exact fun G' H' σ' dx n' S q r => h G' H' σ' dx (n.trans n') S (mm q) r
theorem PostS.ends {o : SOut} (h : PostS K B W σ l o G H D) (hn : ∀ σ' H', D.nx σ' H' → D'.nx σ' H') (hb : D'.bk = D.bk) (hc : D'.ct = D.ct) (hr : D'.rt = D.rt) : PostS K B W σ l o G H D' := by
  cases o with
  | none => exact h
  | some p =>
    obtain ⟨f, ρ'⟩ := p
    cases f with
    | next => exact fun G' H' σ' n' S q => hn _ _ (h G' H' σ' n' S q)
    | brk => intro G' H' σ' n' S q; rw [hb]; exact h G' H' σ' n' S q
    | cont => intro G' H' σ' n' S q; rw [hc]; exact h G' H' σ' n' S q
    | ret t => intro G' H' σ' v n' S q r; rw [hr]; exact h G' H' σ' v n' S q r
    | err c d => exact h
theorem PostS.xs {α β : Type} {R : α → Env → Gh → Hp → β → Prop} {m : Out α} {k : α → Env → SOut} {Q' : β → Hp → Prop} (h : PostS K B W σ l (xs m k) G H D)
    (f : ∀ a ρ1 G1 H1 b, m = some (.ok a, ρ1) → Nx G H G1 H1 → Sta K B G1 ρ1 σ H1 → R a ρ1 G1 H1 b → PostS K B W σ l (k a ρ1) G1 H1 D → Q' b H1) : PostX K B W σ R m G H Q' := by
  cases m with
  | none => exact h
  | some q =>
    obtain ⟨r, ρ1⟩ := q
    cases r with
    | ok a => exact fun G1 H1 b n S r => f a ρ1 G1 H1 b rfl n S r (PostS.mono (show PostS K B W σ l (k a ρ1) G H D from h) n (Sm.refl (l := [])) (fun i hi => by cases hi) fun i hi => hi)
    | err c d => exact fun G1 H1 dx n S r => (show PostS K B W σ l (some (.err c d, ρ1)) G H D from h) G1 H1 σ dx n S Sm.refl r
theorem PostS.opS {α : Type} {o : Option α} {k : α → SOut} (h : PostS K B W σ l (opS o k) G H D) : ∃ a, o = some a ∧ PostS K B W σ l (k a) G H D := by
  cases o with
  | none => exact h.elim
  | some a => exact ⟨a, rfl, h⟩
theorem PostS.nxt (h : PostS K B W σ l (some (.next, ρ)) G H D) (S : Sta K B G1 ρ σ1 H1) (n : Nx G H G1 H1) (m : Sm l σ σ1) : D.nx σ1 H1 := h G1 H1 σ1 n S m
theorem RepT.lstI {r : Nat} {p : List Nat} {v : V} {l : List Ev.D} (h : RepT K B G H r p v (.lst l)) : ∃ a vs, v = .ref a ∧ G a = .my r p ∧ H a = some (.lst vs) ∧ Reps K B (Fz G H) vs l := by
  cases h with
  | lst g h x => exact ⟨_, _, rfl, g, h, x⟩
/-- an own list is written -/
theorem Sta.lset (S : Sta K B G ρ σ H) {i : Nat} {a : Addr} {vs vs' : List V} {l l' : List Ev.D} (hi : look ρ i = some (.lst l)) (hv : σ[i]? = some (some (.ref a))) (g : G a = .my (i + 1) []) (ha : H a = some (.lst vs)) (rs : Reps K B (Fz G H) vs' l') :
    Sta K B G (ρ.set i (some (.lst l'))) σ (upd H a (.lst vs')) ∧ Nx G H G (upd H a (.lst vs')) := by
  have fz : ∀ c o, H c = some o → G c = .frz → upd H a (.lst vs') c = some o := fun c o e g' => by
    rw [upd_ne fun z => ?_]
    · exact e
    · rw [z, g] at g'
      cases g'
  have sub : Sub (Fz G H) (Fz G (upd H a (.lst vs'))) := fun c o e => by
    obtain ⟨g', h⟩ := Fz.inv e
    exact Fz.of g' (fz c o h g')
  refine ⟨⟨by rw [List.length_set]; exact S.len, fun j t e => ?_, S.fresh.step (fun c e => ?_) (fun c φ e => by rw [upd_ne fun z => by rw [z, ha] at e; cases e]; exact e) (fun c o e g' => ⟨by rw [upd_ne fun z => by rw [z, g] at g'; cases g']; exact e, g'⟩) fun c ps e => ?_⟩, fun c o e => ⟨fun g' => ⟨fz c o e g', g'⟩, fun g' => ⟨?_, g'⟩⟩⟩
  · by_cases hj : i = j
    · subst hj
      have e2 := look_set_some e
      subst e2
      exact ⟨_, hv, .lst g upd_same (rs.mono sub)⟩
    · rw [look_set_ne hj] at e
      obtain ⟨v, hv2, R⟩ := S.slot j t e
      refine ⟨v, hv2, R.stay (fun c o e g' => ⟨fz c o e g', g'⟩) fun c o p e g' => ⟨?_, g'⟩⟩
      rw [upd_ne fun z => ?_]
      · exact e
      · rw [z, g] at g'
        injection g' with h1 _
        omega
  · by_cases hc : c = a
    · rw [hc, upd_same] at e
      cases e
    · rw [upd_ne hc] at e
      exact S.fresh.fr c e
  · by_cases hc : c = a
    · rw [hc, upd_same] at e
      cases e
    · rw [upd_ne hc] at e
      exact ⟨ps, e⟩
  · rw [upd_ne fun z => ?_]
    · exact e
    · rw [z, g] at g'
      cases g'
/-- the hidden come back, the other slots perhaps given new values -/
theorem Sta.unhid2 {hs : List Nat} {ρ1 ρn : Env} {Gn : Gh} {Hn : Hp} {σn : L2.St} (S : Sta K B G1 ρ1 σ H1) (Sn : Sta K B Gn ρn σn Hn) (n : Nx (gHid (hidS hs) G1) H1 Gn Hn) (hσ : ∀ i, i ∈ hs → σn[i]? = σ[i]?) :
    Nx G1 H1 (gBack (hidS hs) G1 Gn) Hn ∧ Sta K B (gBack (hidS hs) G1 Gn) (back ρ1 ρn hs) σn Hn ∧ (∀ {p v t}, RepT K B Gn Hn 0 p v t → RepT K B (gBack (hidS hs) G1 Gn) Hn 0 p v t) ∧ Sub (Fz Gn Hn) (Fz (gBack (hidS hs) G1 Gn) Hn) ∧ ∀ b p, Gn b = .my 0 p → gBack (hidS hs) G1 Gn b = .my 0 p := by
  have heap : ∀ a q p, G1 a = .my q p → ∃ o, H1 a = some o := fun a q p g => by
    cases e : H1 a with
    | some o => exact ⟨o, rfl⟩
    | none => rw [S.fresh.fr a e] at g; cases g
  have held : ∀ a q p, G1 a = .my q p → hidS hs q = true → ∃ o, H1 a = some o ∧ Hn a = some o ∧ Gn a = .non := fun a q p g z => by
    obtain ⟨o, e⟩ := heap a q p g
    obtain ⟨h1, h2⟩ := (n a o e).2 (gHid_at g z)
    exact ⟨o, e, h1, h2⟩
  have same : ∀ a, Gn a ≠ .non → gBack (hidS hs) G1 Gn a = Gn a := fun a h => gBack_ne fun q p g => by
    cases z : hidS hs q with
    | false => rfl
    | true =>
      obtain ⟨_, _, _, k⟩ := held a q p g z
      exact absurd k h
  have frzK : ∀ a, Gn a = .frz → gBack (hidS hs) G1 Gn a = .frz := fun a h => (same a (by rw [h]; exact fun z => by cases z)).trans h
  refine ⟨fun a o e => ⟨fun g => ?_, fun g => ?_⟩, ⟨?_, fun i t e => ?_, ?_⟩, fun {p v t} r => r.stay (fun a o e g => ⟨e, frzK a g⟩) fun a o p e g => ⟨e, (same a (by rw [g]; exact fun z => by cases z)).trans g⟩, fun a o e => ?_, fun b p g => (same b (by rw [g]; exact fun z => by cases z)).trans g⟩
  · obtain ⟨h1, h2⟩ := (n a o e).1 (gHid_frz g)
    exact ⟨h1, frzK a h2⟩
  · obtain ⟨h1, h2⟩ := (n a o e).2 (gHid_non g)
    exact ⟨h1, by rw [gBack_ne (fun q p g' => by rw [g] at g'; cases g')]; exact h2⟩
  · rw [back_length, Sn.len]
  · by_cases hi : i ∈ hs
    · have e1 := look_back_in hi e
      obtain ⟨v, hv, R⟩ := S.slot i t e1
      refine ⟨v, by rw [hσ i hi]; exact hv, R.stay (fun a o e g => ?_) fun a o p e g => ?_⟩
      · obtain ⟨h1, h2⟩ := (n a o e).1 (gHid_frz g)
        exact ⟨h1, frzK a h2⟩
      · obtain ⟨h1, h2⟩ := (n a o e).2 (gHid_at g (hidS_mem.mpr hi))
        exact ⟨h1, gBack_at g (hidS_mem.mpr hi)⟩
    · rw [look_back_out hi] at e
      obtain ⟨v, hv, R⟩ := Sn.slot i t e
      exact ⟨v, hv, R.stay (fun a o e g => ⟨e, frzK a g⟩) fun a o p e g => ⟨e, (same a (by rw [g]; exact fun z => by cases z)).trans g⟩⟩
  · refine Sn.fresh.same (fun a e => ?_) fun a o e g => (same a (by rw [g]; exact fun z => by cases z)).trans g
    rw [gBack_ne fun q p g => ?_]
    · exact Sn.fresh.fr a e
    · cases z : hidS hs q with
      | false => rfl
      | true =>
        obtain ⟨o, _, h2, _⟩ := held a q p g z
        rw [e] at h2
        cases h2
  · obtain ⟨g, h⟩ := Fz.inv e
    exact Fz.of (frzK a g) h
/-- slot i is moved out -/
theorem Sta.out (S : Sta K B G ρ σ H) {i : Nat} {t : T} (h : look ρ i = some t) : ∃ v, σ[i]? = some (some v) ∧ Nx G H (gMv (i + 1) 0 G) H ∧ Sta K B (gMv (i + 1) 0 G) (ρ.set i none) σ H ∧ RepT K B (gMv (i + 1) 0 G) H 0 [] v t := by
  obtain ⟨v, hv, R⟩ := S.slot i t h
  refine ⟨v, hv, Nx.gMv, ⟨by rw [List.length_set]; exact S.len, fun j t' e => ?_, S.fresh.same (fun a e => gMv_non (S.fresh.fr a e)) fun a o e g => gMv_tb g⟩, R.stay (fun a o e g => ⟨e, gMv_frz g⟩) fun a o p e g => ⟨e, gMv_at g⟩⟩
  by_cases hj : i = j
  · subst hj
    rw [look_set_none] at e
    cases e
  · rw [look_set_ne hj] at e
    obtain ⟨w, hw, R2⟩ := S.slot j t' e
    exact ⟨w, hw, R2.stay (fun a o e g => ⟨e, gMv_frz g⟩) fun a o p e g => ⟨e, gMv_ne g (fun z => hj (by omega)) (Nat.succ_ne_zero j)⟩⟩
end

section
variable {B : Cls0} {W : WX} {X : Cx} {x y z tg : Expr} {st : Stmt} {sts : List Stmt} {pos p : Pos} {a b c e : E} {Y : Sys} {s : S} {ss : List S}
abbrev SS (B : Cls0) (W : WX) (Y : Sys) (X : Cx) (s : S) (st : Stmt) : Prop := PS X st (tS X.K B W (asgS s) (exS Y s))
abbrev SSs (B : Cls0) (W : WX) (Y : Sys) (X : Cx) (ss : List S) (sts : List Stmt) : Prop := PSs X sts (tS X.K B W (asgSs ss) (exSs Y ss))
theorem ps_mono {t t' : TS} (h : PS X st t) (f : ∀ D σ H, t' D σ H → t D σ H) : PS X st t' := ⟨fun pins s σ H D I q => h.run pins s σ H D I (f D σ H q)⟩
theorem pss_mono {t t' : TS} (h : PSs X sts t) (f : ∀ D σ H, t' D σ H → t D σ H) : PSs X sts t' := ⟨fun pins s σ H D I q => h.run pins s σ H D I (f D σ H q)⟩
theorem sss_nil : SSs B W Y X [] [] := pss_mono pss_nil fun D σ H ⟨G, ρ, S, P⟩ => by
  unfold exSs at P
  exact P.nxt S Nx.refl Sm.refl
theorem sss_cons (h1 : SS B W Y X s st) (h2 : SSs B W Y X ss sts) : SSs B W Y X (s :: ss) (st :: sts) := pss_mono (pss_cons h1 h2) fun D σ H ⟨G, ρ, S, P⟩ => by
  have e : exSs Y (s :: ss) ρ = (match exS Y s ρ with
    | some (.next, ρ') => exSs Y ss ρ'
    | o => o) := by
    conv => lhs; unfold exSs
    all_goals
      cases exS Y s ρ with
      | none => rfl
      | some q =>
        obtain ⟨f, ρ1⟩ := q
        cases f <;> rfl
  rw [e] at P
  have hl : asgSs (s :: ss) = asgS s ++ asgSs ss := by conv => lhs; unfold asgSs
  rw [hl] at P
  refine ⟨G, ρ, S, ?_⟩
  have inL : ∀ i, i ∈ asgS s → i ∈ asgS s ++ asgSs ss := fun i h => List.mem_append_left _ h
  have inR : ∀ i, i ∈ asgSs ss → i ∈ asgS s ++ asgSs ss := fun i h => List.mem_append_right _ h
  cases q : exS Y s ρ with
  | none => rw [q] at P; exact P
  | some r =>
    obtain ⟨f, ρ1⟩ := r
    rw [q] at P
    cases f with
    | next => exact fun G' H' σ' n S' m => ⟨G', ρ1, S', P.mono n m inL inR⟩
    | brk => exact fun G' H' σ' n S' m => P G' H' σ' n S' (m.more inL)
    | cont => exact fun G' H' σ' n S' m => P G' H' σ' n S' (m.more inL)
    | ret t => exact fun G' H' σ' v n S' m r => P G' H' σ' v n S' (m.more inL) r
    | err c d => exact fun G' H' σ' dx n S' m r => P G' H' σ' dx n S' (m.more inL) r
theorem ss_never : SS B W Y X (.drop (.range [])) st := ps_mono ps_never fun D σ H ⟨G, ρ, S, P⟩ => by
  have e : exS Y (.drop (.range [])) ρ = none := by
    unfold exS
    unfold ev
    rfl
  rw [e] at P
  exact P
theorem ss_pass : SS B W Y X .pass (.Pass pos) := ps_mono ps_pass fun D σ H ⟨G, ρ, S, P⟩ => by
  unfold exS at P
  exact P.nxt S Nx.refl Sm.refl
theorem ss_drop (h : SE B W Y X a x) (hs : swapsWith x none pos.line X.env = pure false) : SS B W Y X (.drop a) (.Expr x pos) := ps_mono (ps_expr h.e hs) fun D σ H ⟨G, ρ, S, P⟩ => by
  unfold exS at P
  exact ⟨G, ρ, S, P.xs fun t ρ1 G1 H1 v eeρ1 _ S1 _ P1 => P1.nxt S1 Nx.refl Sm.refl⟩
theorem ss_ret (h : SE B W Y X a x) : SS B W Y X (.ret a) (.Return (some x) pos) := ps_mono (ps_ret h.e) fun D σ H ⟨G, ρ, S, P⟩ => by
  unfold exS at P
  exact ⟨G, ρ, S, P.xs fun t ρ1 G1 H1 v eeρ1 _ S1 R P1 => P1 G1 H1 σ v Nx.refl S1 Sm.refl R⟩
theorem ss_retm {i : Nat} (h : PE X x (tVar i)) : SS B W Y X (.retm i) (.Return (some x) pos) := ps_mono (ps_ret h) fun D σ H ⟨G, ρ, S, P⟩ => by
  unfold exS at P
  obtain ⟨t, et, P1⟩ := P.opS
  obtain ⟨v, hv, n, S1, R⟩ := S.out et
  exact ⟨v, hv, P1 _ H σ v n S1 Sm.refl R⟩
theorem ss_ite {sa sb : List S} {ta tb : List Stmt} (hc : PT X x (tT X.K B W (evT Y a))) (ha : SSs B W Y X sa ta) (hb : SSs B W Y X sb tb) : SS B W Y X (.ite a sa sb) (.If x ta tb pos) := ps_mono (ps_if hc ha hb) fun D σ H ⟨G, ρ, S, P⟩ => by
  unfold exS at P
  refine ⟨G, ρ, S, P.xs fun k ρ1 G1 H1 v eeρ1 _ S1 R P1 => ?_⟩
  have R2 : v = k := R
  subst R2
  have hl : asgS (.ite a sa sb) = asgSs sa ++ asgSs sb := by conv => lhs; unfold asgS
  rw [hl] at P1
  cases v with
  | true =>
    rw [if_pos rfl]
    exact ⟨G1, ρ1, S1, P1.mono Nx.refl (Sm.refl (l := [])) (fun i hi => by cases hi) fun i h => List.mem_append_left _ h⟩
  | false =>
    rw [if_neg Bool.false_ne_true]
    exact ⟨G1, ρ1, S1, P1.mono Nx.refl (Sm.refl (l := [])) (fun i hi => by cases hi) fun i h => List.mem_append_right _ h⟩
/-- a name -/
theorem asg_name {te : TE} {i : Nat} (hi : ∀ D σ H, tS X.K B W (asgS (.asg (.v i) a)) (exS Y (.asg (.v i) a)) D σ H → tE X.K B W (ev Y a) σ H fun x H1 => gName i x σ H1 D.nx) (h : PS X st (tAsg te (gName i))) (hte : ∀ σ H Q, tE X.K B W (ev Y a) σ H Q → te σ H Q) : SS B W Y X (.asg (.v i) a) st :=
  ps_mono h fun D σ H q => hte σ H _ (hi D σ H q)
theorem asg_nameT {i : Nat} : ∀ D σ H, tS X.K B W (asgS (.asg (.v i) a)) (exS Y (.asg (.v i) a)) D σ H → tE X.K B W (ev Y a) σ H fun x H1 => gName i x σ H1 D.nx := fun D σ H ⟨G, ρ, S, P⟩ => by
  unfold exS at P
  refine ⟨G, ρ, S, P.xs fun t ρ1 G1 H1 v eeρ1 _ S1 R P1 => ?_⟩
  obtain ⟨ρ2, e, P2⟩ := P1.opS
  have e' : (if i < ρ1.length then some (ρ1.set i (some t)) else none) = some ρ2 := e
  split at e'
  · rename_i hi
    have e2 := Option.some.inj e'
    subst e2
    refine P2.nxt (S1.store hi R) Nx.gMv ?_
    have hl : asgS (.asg (.v i) a) = [i] := by
      conv => lhs; unfold asgS
      unfold tgs
      rfl
    rw [hl]
    exact Sm.set
  · cases e'
theorem ss_set {i : Nat} {n : Str} {p2 : Pos} (hN : X.N.Nodup) (hi : X.N[i]? = some n) (hx : Loc X.env.scope n) (h : SE B W Y X a x) (hs : swapsWith x (some (.Name n p2)) pos.line X.env = pure false) (hf : X.fn n = true ∨ X.env.scope.names.lookup n = some .local) :
    SS B W Y X (.asg (.v i) a) (.Assign [.Name n p2] x pos) := asg_name asg_nameT (ps_set hN hi hx h.e hs hf) fun _ _ _ q => q
/-- a tuple of names -/
theorem ss_tup {g : List Tg} (h : SE B W Y X a x) (hg : PG X tg (tG X.K B (.tup g))) (hs : swapsWithSole [tg] x pos.line X.env = pure false) (hw : swappedStores [tg] x X.env = pure none) (h1 : (assignEach [tg] X.env).map (·.2) = [PySem.assign tg X.env]) :
    SS B W Y X (.asg (.tup g) a) (.Assign [tg] x pos) := ps_mono (ps_asg h.d hg hs hw h1) fun D σ H ⟨G, ρ, S, P⟩ => by
  unfold exS at P
  have e : xs (ev Y a ρ) (fun t ρ => opS (asgT (.tup g) t ρ) fun ρ => some (.next, ρ)) = xs (evD (ev Y a ρ)) fun d ρ => opS (asgD (.tup g) d ρ) fun ρ => some (.next, ρ) := by
    cases ev Y a ρ with
    | none => rfl
    | some q =>
      obtain ⟨r, ρ1⟩ := q
      cases r <;> rfl
  rw [e] at P
  refine ⟨G, ρ, S, P.xs fun d ρ1 G1 H1 v eeρ1 _ S1 R P1 => ?_⟩
  obtain ⟨ρ2, e2, P2⟩ := P1.opS
  have hl : asgS (.asg (.tup g) a) = tgs (.tup g) := by conv => lhs; unfold asgS
  rw [hl] at P2
  exact ⟨G1, ρ1, d, ρ2, S1, R, e2, fun σ' S' m => P2.nxt S' Nx.refl m⟩
/-- an item of an own list -/
theorem ss_setI {i : Nat} {k : E} {n : Str} {p2 p3 : Pos} (hi : PE X (.Name n p2) (tVar i)) (hk : SE B W Y X k y) (h : SE B W Y X a x) (hs : swapsWithSole [.Subscript (.Name n p2) y p3] x pos.line X.env = pure false) (hsl : isSlc y = false) :
    SS B W Y X (.setI i k a) (.Assign [.Subscript (.Name n p2) y p3] x pos) := by
  have hsub : PG X (.Subscript (.Name n p2) y p3) _ := pg_sub hi hk.d set_list (by intro _; cases y <;> first | (cases hsl; done) | rfl)
  refine ps_mono (ps_asg h.d hsub hs rfl rfl) fun D σ H ⟨G, ρ, S, P⟩ => ?_
  unfold exS at P
  refine ⟨G, ρ, S, P.xs fun d ρ1 G1 H1 v eeρ1 _ S1 R P1 => ?_⟩
  cases e : look ρ1 i with
  | none => rw [e] at P1; exact P1.elim
  | some t =>
    rw [e] at P1
    cases t with
    | lst l0 =>
      have P1 : PostS X.K B W σ _ (xs (evD (ev Y k ρ1)) fun k ρ => opS (setAt ρ i k d) fun ρ => some (.next, ρ)) G1 H1 D := P1
      obtain ⟨vi, hvi, _⟩ := S1.slot i _ e
      refine ⟨vi, hvi, G1, ρ1, S1, P1.xs fun dk ρ2 G2 H2 vk eeρ2 n2 S2 R2 P2 => ?_⟩
      obtain ⟨ρ3, e3, P3⟩ := P2.opS
      unfold setAt at e3
      split at e3
      case h_2 => cases e3
      rename_i l kk el
      cases hj : L2.ixN l.length kk with
      | none => rw [hj] at e3; cases e3
      | some j =>
        rw [hj] at e3
        have e4 := Option.some.inj e3
        subst e4
        obtain ⟨vi', hvi', Rl⟩ := S2.slot i _ el
        rw [hvi] at hvi'
        have e5 := Option.some.inj (Option.some.inj hvi')
        subst e5
        obtain ⟨ad, vs, rfl, g, ha, rs⟩ := Rl.lstI
        cases R2
        obtain ⟨S3, n3⟩ := S2.lset el hvi g ha (rs.set (n2.rep R) j)
        exact ⟨ad, vs, kk, j, rfl, rfl, ha, by rw [rs.length]; exact hj, P3.nxt S3 n3 Sm.refl⟩
    | _ => exact P1.elim
/-- an item of a list by its place, straight from ixN -/
theorem get_list : PGet X (rIxL X.K) := fun pins s σ H o ix ov iv Q I ro ri hyp => by
  obtain ⟨adr, cells, pos, got, eo, ei, sq, at_, post⟩ := hyp
  subst eo
  subst ei
  cases ro
  obtain ⟨tok, eiv⟩ := ri
  subst eiv
  obtain ⟨arr, rel, isl, _⟩ := I.list sq
  obtain ⟨place, ep, ec⟩ := Option.bind_eq_some_iff.mp (show (L2.ixN cells.length pos).bind (fun j => cells[j]?) = some got from at_)
  obtain ⟨val, ev, rv⟩ := rel.get ec
  have len := rel.length
  have lt := (List.getElem?_eq_some_iff.mp ev).1
  have small := line63
  have done : EP X pins σ Q val s := ⟨got, H, I, rv, post⟩
  unfold L2.ixN at ep
  split at ep
  · rename_i nonneg
    split at ep
    case isFalse => cases ep
    cases ep
    exact wpAny_getItem_list isl.isList nonneg (by omega) (by simpa using ev) done
  · rename_i neg
    split at ep
    case isFalse => cases ep
    cases ep
    refine wpAny_getItem_list_neg isl.isList (by omega) (by rw [List.size_toArray]; omega) (by omega) ?_ done
    rw [List.size_toArray, ← len]
    simpa using ev
theorem ss_augI {i : Nat} {k : E} {n : Str} {p2 p3 : Pos} (hi : PE X (.Name n p2) (tVar i)) (hk : SE B W Y X k y) (h : SE B W Y X a x) (hsl : isSlc y = false) :
    SS B W Y X (.augI i k a) (.AugAssign (.Subscript (.Name n p2) y p3) .Add x pos) := by
  refine ps_mono (ps_augS hi hk.d get_list h.d ip_add set_list (by intro _ _ _; cases y <;> first | (cases hsl; done) | rfl)) fun D σ H ⟨G, ρ, S, P⟩ => ?_
  unfold exS at P
  cases e : look ρ i with
  | none => rw [e] at P; exact P.elim
  | some t =>
    rw [e] at P
    cases t with
    | lst l0 =>
      obtain ⟨vi, hvi, _⟩ := S.slot i _ e
      refine ⟨vi, hvi, G, ρ, S, PostS.xs (show PostS X.K B W σ _ (xs (evD (ev Y k ρ)) fun k ρ => (match look ρ i, k with
        | some (.lst l), .int k => opS (L2.atI l k) fun x => xs (evD (ev Y a ρ)) fun y ρ => (match x, y with
          | .int x, .int y => opS (setAt ρ i (.int k) (.int (x + y))) fun ρ => some (.next, ρ)
          | _, _ => none)
        | _, _ => none)) G H D from P) fun dk ρ1 G1 H1 vk eeρ1 n1 S1 R1 P1 => ?_⟩
      split at P1
      case h_2 => exact P1.elim
      rename_i l kk el
      obtain ⟨xo, ex, P2⟩ := P1.opS
      obtain ⟨vi', hvi', Rl⟩ := S1.slot i _ el
      rw [hvi] at hvi'
      have e5 := Option.some.inj (Option.some.inj hvi')
      subst e5
      obtain ⟨ad, vs, rfl, g, ha, rs⟩ := Rl.lstI
      cases R1
      obtain ⟨j, xv, h1, h2, h3⟩ := atI_get2 rs.length ex
      obtain ⟨xv', h4, h5⟩ := rs.get h1
      rw [h2] at h4
      have e6 := Option.some.inj h4
      subst e6
      refine ⟨ad, vs, kk, xv, rfl, rfl, .inl (.inl ha), h3, G1, ρ1, S1, P2.xs fun dy ρ2 G2 H2 vy eeρ2 n2 S2 R2 P3 => ?_⟩
      split at P3
      case h_2 => exact P3.elim
      rename_i xi yi
      obtain ⟨ρ3, e3, P4⟩ := P3.opS
      unfold setAt at e3
      split at e3
      case h_2 => cases e3
      rename_i l2 kk2 el2 ek
      cases ek
      cases hj : L2.ixN l2.length kk with
      | none => rw [hj] at e3; cases e3
      | some j2 =>
        rw [hj] at e3
        have e4 := Option.some.inj e3
        subst e4
        obtain ⟨vi2, hvi2, Rl2⟩ := S2.slot i _ el2
        rw [hvi] at hvi2
        have e7 := Option.some.inj (Option.some.inj hvi2)
        obtain ⟨ad2, vs2, e8, g2, ha2, rs2⟩ := Rl2.lstI
        rw [← e7] at e8
        cases e8
        cases R2
        cases h5
        obtain ⟨S3, n3⟩ := S2.lset el2 hvi g2 ha2 (rs2.set (.int (xi + yi)) j2)
        exact ⟨xi, yi, rfl, rfl, ad, vs2, kk, j2, rfl, rfl, ha2, by rw [rs2.length]; exact hj, P4.nxt S3 n3 Sm.refl⟩
    | _ => exact P.elim
theorem ss_augN {i : Nat} {n : Str} {p2 : Pos} (hN : X.N.Nodup) (hi : X.N[i]? = some n) (hx : Loc X.env.scope n) (h : SE B W Y X a x) (hf : X.fn n = true ∨ X.env.scope.names.lookup n = some .local) :
    SS B W Y X (.augN i a) (.AugAssign (.Name n p2) .Add x pos) := by
  refine ps_mono (ps_aug hN hi hx h.d ip_add hf) fun D σ H ⟨G, ρ, S, P⟩ => ?_
  unfold exS at P
  split at P
  case h_2 => exact P.elim
  rename_i xi e
  obtain ⟨vi, hvi, R⟩ := S.slot i _ e
  cases R with
  | val R =>
    cases R
    refine ⟨_, hvi, G, ρ, S, P.xs fun dy ρ1 G1 H1 vy eeρ1 n1 S1 R1 P1 => ?_⟩
    split at P1
    case h_2 => exact P1.elim
    rename_i yi
    cases R1
    split at P1
    case isFalse => exact P1.elim
    have hl : asgS (.augN i a) = [i] := by conv => lhs; unfold asgS
    rw [hl] at P1
    exact ⟨xi, yi, rfl, rfl, P1.nxt (S1.putD (.int _)) Nx.refl Sm.set⟩
/-- append -/
theorem ss_app {i : Nat} {n : Str} {p2 ap cp : Pos} (hi : PE X (.Name n p2) (tVar i)) (h : SE B W Y X a x) (hst : isStar x = false) (hline : (ap.endLine == cp.line) = true) :
    SS B W Y X (.app i a) (.Expr (.Call (.Attribute (.Name n p2) "append" ap) [x] [] cp) pos) := by
  have hpe := pe_bm (apos := ap) (cpos := cp) PySem.F.plainAttrs_list PySem.F.slot_list_append PySem.F.type_list_append mt_append hi (pa_cons h.d pa_nil (star_one hst _ _)) rfl (by rw [star_one hst]; rfl) hline (star_one hst _ _) rfl
  refine ps_mono (ps_expr hpe rfl) fun D σ H ⟨G, ρ, S, P⟩ => ?_
  unfold exS at P
  cases e : look ρ i with
  | none => rw [e] at P; exact P.elim
  | some t =>
    rw [e] at P
    cases t with
    | lst l0 =>
      obtain ⟨vi, hvi, R0⟩ := S.slot i _ e
      obtain ⟨ad, vs, rfl, g, ha, rs⟩ := R0.lstI
      refine ⟨_, hvi, .inl ⟨rfl, vs, .inl (.inl ha)⟩, G, ρ, S, PostS.xs (show PostS X.K B W σ _ (xs (evD (ev Y a ρ)) fun d ρ => (match look ρ i with
        | some (.lst l) => if l.length < LL then some (.next, ρ.set i (some (.lst (l ++ [d])))) else none
        | _ => none)) G H D from P) fun d ρ1 G1 H1 v eeρ1 n1 S1 R1 P1 => ?_⟩
      split at P1
      case h_2 => exact P1.elim
      rename_i l el
      split at P1
      case isFalse => exact P1.elim
      rename_i hlen
      obtain ⟨vi', hvi', Rl⟩ := S1.slot i _ el
      rw [hvi] at hvi'
      have e5 := Option.some.inj (Option.some.inj hvi')
      obtain ⟨ad2, vs2, e8, g2, ha2, rs2⟩ := Rl.lstI
      rw [← e5] at e8
      cases e8
      obtain ⟨S3, n3⟩ := S1.lset el hvi g2 ha2 (rs2.append (.cons R1 .nil))
      exact ⟨ad, vs2, v, rfl, rfl, ha2, LL_lt (by rw [rs2.length]; exact hlen), P1.nxt S3 n3 Sm.refl⟩
    | _ => exact P.elim
/-- extend -/
theorem ss_ext {i : Nat} {n : Str} {p2 ap cp : Pos} (hi : PE X (.Name n p2) (tVar i)) (h : SE B W Y X a x) (hst : isStar x = false) (hline : (ap.endLine == cp.line) = true) :
    SS B W Y X (.ext i a) (.Expr (.Call (.Attribute (.Name n p2) "extend" ap) [x] [] cp) pos) := by
  have hpe := pe_bm (apos := ap) (cpos := cp) PySem.F.plainAttrs_list PySem.F.slot_list_extend PySem.F.type_list_extend mt_extend hi (pa_cons h.d pa_nil (star_one hst _ _)) rfl (by rw [star_one hst]; rfl) hline (star_one hst _ _) rfl
  refine ps_mono (ps_expr hpe rfl) fun D σ H ⟨G, ρ, S, P⟩ => ?_
  unfold exS at P
  cases e : look ρ i with
  | none => rw [e] at P; exact P.elim
  | some t =>
    rw [e] at P
    cases t with
    | lst l0 =>
      obtain ⟨vi, hvi, R0⟩ := S.slot i _ e
      obtain ⟨ad, vs, rfl, g, ha, rs⟩ := R0.lstI
      refine ⟨_, hvi, .inl ⟨rfl, vs, .inl (.inl ha)⟩, G, ρ, S, PostS.xs (show PostS X.K B W σ _ (xs (evD (ev Y a ρ)) fun d ρ => (match look ρ i, d with
        | some (.lst l), .lst z => if l.length + z.length ≤ LL then some (.next, ρ.set i (some (.lst (l ++ z)))) else none
        | _, _ => none)) G H D from P) fun d ρ1 G1 H1 v eeρ1 n1 S1 R1 P1 => ?_⟩
      split at P1
      case h_2 => exact P1.elim
      rename_i l z el
      split at P1
      case isFalse => exact P1.elim
      rename_i hlen
      obtain ⟨vi', hvi', Rl⟩ := S1.slot i _ el
      rw [hvi] at hvi'
      have e5 := Option.some.inj (Option.some.inj hvi')
      obtain ⟨ad2, vs2, e8, g2, ha2, rs2⟩ := Rl.lstI
      rw [← e5] at e8
      cases e8
      have R1 : Rep X.K B (Fz G1 H1) v (.lst z) := R1
      cases R1 with
      | lst hz rz =>
        obtain ⟨S3, n3⟩ := S1.lset el hvi g2 ha2 (rs2.append rz)
        exact ⟨ad, _, vs2, _, rfl, rfl, ha2, Fz.sub _ _ hz, by rw [rs2.length, rz.length]; exact LL_line hlen, P1.nxt S3 n3 Sm.refl⟩
    | _ => exact P.elim
end
end Ev
end

section
set_option linter.all false
set_option maxRecDepth 100000
set_option maxHeartbeats 4000000
/-! The language is what the machine does: pairs of names, loops; from the program's statements. -/
namespace Ev
open PySem L2 PySem.Spec PyProof.Rows

section
variable {B : Cls0} {W : WX} {X : Cx} {x y z tg : Expr} {st : Stmt} {sts : List Stmt} {pos p : Pos} {a b c e : E} {Y : Sys} {s : S} {ss : List S}
/-- the names behind a pair of stores -/
def gPar (i j : Nat) (G1 G2 : Gh) : Gh := fun b => match G1 b with
  | .my 0 p => .my (i + 1) p
  | _ => (match G2 b with
    | .my 0 p => .my (j + 1) p
    | .my (q + 1) p => if q = i ∨ q = j then .non else .my (q + 1) p
    | o => o)
theorem gPar_1 {i j : Nat} {G1 G2 : Gh} {b : Addr} {p : List Nat} (h : G1 b = .my 0 p) : gPar i j G1 G2 b = .my (i + 1) p := by unfold gPar; rw [h]; rfl
theorem gPar_2 {i j : Nat} {G1 G2 : Gh} {b : Addr} (h : ∀ p, G1 b ≠ .my 0 p) : gPar i j G1 G2 b = (match G2 b with
    | .my 0 p => .my (j + 1) p
    | .my (q + 1) p => if q = i ∨ q = j then .non else .my (q + 1) p
    | o => o) := by
  unfold gPar
  cases e : G1 b with
  | frz => rfl
  | non => rfl
  | tb => rfl
  | my r p =>
    cases r with
    | zero => exact absurd e (h p)
    | succ r => rfl
def is0 (q : Nat) : Bool := q == 0
theorem ss_par {i j : Nat} {n m : Str} {px py pt pt2 : Pos} {kt k2 : Nat} (hc : X.calm = true) (hN : X.N.Nodup) (hi : X.N[i]? = some n) (hj : X.N[j]? = some m) (hij : i ≠ j) (hx : X.env.scope.names.lookup n = some .local) (hy : X.env.scope.names.lookup m = some .local)
    (ha : SE B W Y X a x) (hb : SE B W Y X b y) (hst : isStar x = false) (hst2 : isStar y = false) (hw : swappedStores [.Tuple [.Name n px, .Name m py] kt pt] (.Tuple [x, y] k2 pt2) X.env = pure (some [n, m]))
    (hs : swapsWithSole [.Tuple [.Name n px, .Name m py] kt pt] (.Tuple [x, y] k2 pt2) pos.line X.env = pure false) :
    SS B W Y X (.par i j a b) (.Assign [.Tuple [.Name n px, .Name m py] kt pt] (.Tuple [x, y] k2 pt2) pos) :=
  ps_mono (ps_par hc hN hi hj hij hx hy (pa_cons ha.e (pa_cons hb.e pa_nil (star_one hst2 _ _)) (star_one hst _ _)) hw hs) fun D σ H ⟨G, ρ, S, P⟩ => by
    unfold exS at P
    refine ⟨G, ρ, S, P.xs fun t1 ρ1 G1 H1 v eeρ1 _ S1 R1 P1 => ?_⟩
    have R1 : RepT X.K B G1 H1 0 [] v t1 := R1
    have S1' : Sta X.K B (gHid is0 G1) ρ1 σ H1 := S1.keep (fun a o e g => ⟨e, gHid_frz g⟩) (fun i a o p _ e g => ⟨e, gHid_ne g rfl⟩) (fun a e => gHid_non (S1.fresh.fr a e)) (fun a o e g => ⟨e, gHid_tb g⟩) (fun _ _ e => e) fun _ ps e => ⟨ps, e⟩
    refine ⟨gHid is0 G1, ρ1, S1', ?_⟩
    cases em : ev Y b ρ1 with
    | none => rw [em] at P1; exact P1.elim
    | some q =>
      obtain ⟨r, ρ2⟩ := q
      rw [em] at P1
      cases r with
      | err c d => exact fun G' H' dx n2 S2 r2 => (show PostS X.K B W σ _ (some (.err c d, ρ2)) G1 H1 D from P1) G' H' σ dx (nx_hid n2) S2 Sm.refl r2
      | ok t2 =>
        intro G2 H2 w n2 S2 R2
        have R2 : RepT X.K B G2 H2 0 [] w t2 := R2
        have P2 : PostS X.K B W σ (asgS (.par i j a b)) (if i ≠ j ∧ i < ρ2.length ∧ j < ρ2.length then some (.next, (ρ2.set i (some t1)).set j (some t2)) else none) G1 H1 D := P1
        split at P2
        case isFalse => exact P2.elim
        rename_i hcnd
        have heap : ∀ a q p, G1 a = .my q p → ∃ o, H1 a = some o := fun a q p g => by
          cases e : H1 a with
          | some o => exact ⟨o, rfl⟩
          | none => rw [S1.fresh.fr a e] at g; cases g
        have held : ∀ a p, G1 a = .my 0 p → ∃ o, H1 a = some o ∧ H2 a = some o ∧ G2 a = .non := fun a p g => by
          obtain ⟨o, e⟩ := heap a 0 p g
          obtain ⟨h1, h2⟩ := (n2 a o e).2 (gHid_at g rfl)
          exact ⟨o, e, h1, h2⟩
        have not0 : ∀ a, G2 a ≠ .non → ∀ p, G1 a ≠ .my 0 p := fun a h p g => by
          obtain ⟨_, _, _, k⟩ := held a p g
          exact h k
        have frzK : ∀ a, G2 a = .frz → gPar i j G1 G2 a = .frz := fun a h => by
          rw [gPar_2 (not0 a (by rw [h]; exact fun z => by cases z)), h]
        have my0 : ∀ a p, G2 a = .my 0 p → gPar i j G1 G2 a = .my (j + 1) p := fun a p h => by
          rw [gPar_2 (not0 a (by rw [h]; exact fun z => by cases z)), h]
        have myS : ∀ (a : Addr) (q : Nat) (p : List Nat), q ≠ i → q ≠ j → G2 a = .my (q + 1) p → gPar i j G1 G2 a = .my (q + 1) p := fun a q p h1 h2 h => by
          rw [gPar_2 (not0 a (by rw [h]; exact fun z => by cases z)), h]
          show (if q = i ∨ q = j then Own.non else .my (q + 1) p) = _
          rw [if_neg (fun z => by rcases z with z | z <;> contradiction)]
        have hl : asgS (.par i j a b) = [i, j] := by conv => lhs; unfold asgS
        rw [hl] at P2
        refine ⟨v, w, rfl, P2 (gPar i j G1 G2) H2 _ ?_ ?_ ?_⟩
        · refine fun a o e => ⟨fun g => ?_, fun g => ?_⟩
          · obtain ⟨h1, h2⟩ := (n2 a o e).1 (gHid_frz g)
            exact ⟨h1, frzK a h2⟩
          · obtain ⟨h1, h2⟩ := (n2 a o e).2 (gHid_non g)
            refine ⟨h1, ?_⟩
            rw [gPar_2 (fun p z => by rw [g] at z; cases z), h2]
        · refine ⟨by rw [List.length_set, List.length_set, List.length_set, List.length_set]; exact S2.len, fun q t e => ?_, S2.fresh.same (fun a e => ?_) fun a o e g => by rw [gPar_2 (not0 a (by rw [g]; exact fun z => by cases z)), g]⟩
          · by_cases hq : j = q
            · subst hq
              have e2 := look_set_some e
              subst e2
              exact ⟨w, by rw [List.getElem?_set_self (by rw [List.length_set, ← S2.len]; exact hcnd.2.2)], R2.stay (fun a o e g => ⟨e, frzK a g⟩) fun a o p e g => ⟨e, my0 a p g⟩⟩
            · rw [look_set_ne hq] at e
              by_cases hq2 : i = q
              · subst hq2
                have e2 := look_set_some e
                subst e2
                refine ⟨v, by rw [List.getElem?_set_ne hq, List.getElem?_set_self (by rw [← S2.len]; exact hcnd.2.1)], R1.stay (fun a o e g => ?_) fun a o p e g => ?_⟩
                · obtain ⟨h1, h2⟩ := (n2 a o e).1 (gHid_frz g)
                  exact ⟨h1, frzK a h2⟩
                · obtain ⟨o', h1, h2, _⟩ := held a p g
                  rw [e] at h1
                  have e3 := Option.some.inj h1
                  subst e3
                  exact ⟨h2, gPar_1 g⟩
              · rw [look_set_ne hq2] at e
                obtain ⟨u, hu, R⟩ := S2.slot q t e
                exact ⟨u, by rw [List.getElem?_set_ne hq, List.getElem?_set_ne hq2]; exact hu, R.stay (fun a o e g => ⟨e, frzK a g⟩) fun a o p e g => ⟨e, myS a q p (fun z => hq2 z.symm) (fun z => hq z.symm) g⟩⟩
          · have h2 := S2.fresh.fr a e
            rw [gPar_2 fun p g => ?_, h2]
            obtain ⟨o, _, h3, _⟩ := held a p g
            rw [e] at h3
            cases h3
        · exact ((Sm.set (i := i)).trans (Sm.set (i := j))).more fun k hk => hk
/-! ### loops -/
theorem ss_while {body : List Stmt} {bb : List S} (hp : PassesOwn (model X.prog X.w) X.A X.env X.xe) (hc : PT X x (tT X.K B W (evT Y a))) (hb : SSs B W Y X bb body) : SS B W Y X (.while_ a bb) (.While x body [] pos) :=
  ps_mono (ps_while hp hc hb) fun D σ H ⟨G, ρ, S, P⟩ => by
    unfold exS at P
    have hl : asgS (.while_ a bb) = asgSs bb := by conv => lhs; unfold asgS
    rw [hl] at P
    refine ⟨fun m σ' H' => ∃ Gi ρi, Sta X.K B Gi ρi σ' H' ∧ PostS X.K B W σ' (asgSs bb) (whileLoop (evT Y a) (exSs Y bb) m ρi) Gi H' D, ⟨Y.W, G, ρ, S, P⟩, ?_⟩
    intro m σ1 H1 ⟨G1, ρ1, S1, P1⟩
    cases m with
    | zero => exact P1.elim
    | succ m =>
      refine ⟨G1, ρ1, S1, PostS.xs (show PostS X.K B W σ1 (asgSs bb) (xs (evT Y a ρ1) fun k ρ => (match k with
        | false => some (.next, ρ)
        | true => (match exSs Y bb ρ with
          | some (.next, ρ') => whileLoop (evT Y a) (exSs Y bb) m ρ'
          | some (.cont, ρ') => whileLoop (evT Y a) (exSs Y bb) m ρ'
          | some (.brk, ρ') => some (.next, ρ')
          | o => o))) G1 H1 D from P1) fun k ρ2 G2 H2 v eeρ2 n2 S2 R P2 => ?_⟩
      have R2 : v = k := R
      subst R2
      cases v with
      | false =>
        rw [if_neg Bool.false_ne_true]
        exact P2.nxt S2 Nx.refl Sm.refl
      | true =>
        rw [if_pos rfl]
        refine ⟨fun σ' H' => ∃ Gi ρi, Sta X.K B Gi ρi σ' H' ∧ PostS X.K B W σ' (asgSs bb) (whileLoop (evT Y a) (exSs Y bb) m ρi) Gi H' D, fun σ' H' h => ⟨m, Nat.lt_succ_self m, h⟩, G2, ρ2, S2, ?_⟩
        cases q : exSs Y bb ρ2 with
        | none => rw [q] at P2; exact P2.elim
        | some r =>
          obtain ⟨f, ρ3⟩ := r
          rw [q] at P2
          cases f with
          | next => exact fun G' H' σ' n S' mm => ⟨G', ρ3, S', P2.mono n mm (fun i h => h) fun i h => h⟩
          | cont => exact fun G' H' σ' n S' mm => ⟨G', ρ3, S', P2.mono n mm (fun i h => h) fun i h => h⟩
          | brk => exact P2
          | ret t => exact P2
          | err c d => exact P2
theorem opS_some {α : Type} {o : Option α} {k : α → SOut} {r : Fl × Env} (h : opS o k = some r) : ∃ a, o = some a ∧ k a = some r := by
  cases o with
  | none => cases h
  | some a => exact ⟨a, rfl, h⟩
theorem ss_for {g : Tg} {it : E} {iter : Expr} {body : List Stmt} {bb : List S} (hp : PassesOwn (model X.prog X.w) X.A X.env X.xe) (hc : X.calm = true) (hi : PI X tg iter (tI X.K B W (evIt Y (fun i => occSs i bb || (tgs g).contains i) it))) (hg : PG X tg (tG X.K B g)) (hb : SSs B W Y X bb body) (hs : ∀ x, foldedSetIterable iter X.env x = pure x) :
    SS B W Y X (.for_ g it bb) (.For tg iter body [] pos) :=
  ps_mono (ps_for hp hc hi hg hb hs) fun D σ H ⟨G, ρ, S, P⟩ => by
    unfold exS at P
    have hl : asgS (.for_ g it bb) = tgs g ++ asgSs bb := by conv => lhs; unfold asgS
    rw [hl] at P
    refine ⟨G, ρ, S, P.xs fun w ρ1 G1 H1 J eeρ1 _ S1 RJ P1 => ?_⟩
    split at P1
    case isFalse => exact P1.elim
    rename_i hcnd
    generalize hstep : (fun (d : Ev.D) (ρ : Env) => opS (asgD g d ρ) fun ρ => exSs Y bb ρ) = step at P1
    cases el : forLoop step w.1 (hide ρ1 w.2) with
    | none => rw [el] at P1; exact P1.elim
    | some q =>
      obtain ⟨f, ρ2⟩ := q
      rw [el] at P1
      have P2 : PostS X.K B W σ (tgs g ++ asgSs bb) (some (f, back ρ1 ρ2 w.2)) G1 H1 D := P1
      obtain ⟨Ga, Yy, wk, hGa, hY⟩ := RJ
      have apart : ∀ i, i ∈ w.2 → i ∉ tgs g ++ asgSs bb := fun i hi hm => by
        have h2 := List.all_eq_true.mp hcnd.2 i hi
        simp only [Bool.and_eq_true, Bool.not_eq_true'] at h2
        rcases List.mem_append.mp hm with z | z
        · have := List.contains_iff_mem.mpr z
          rw [h2.2] at this
          cases this
        · have := List.contains_iff_mem.mpr z
          rw [h2.1] at this
          cases this
      refine for_it wk (fun i σ' H' => ∃ Gi ρi, Sta X.K B Gi ρi σ' H' ∧ Nx (gHid (hidS w.2) G1) H1 Gi H' ∧ Sm (tgs g ++ asgSs bb) σ σ' ∧ forLoop step (w.1.drop i) ρi = some (f, ρ2)) ?_ ?_ ?_ ?_
      · exact ⟨_, _, S1.hid (own := []) (fun i h => by cases h), Nx.refl, Sm.refl, by rw [List.drop_zero]; exact el⟩
      · intro i σ' H' hi ⟨Gi, ρi, Si, n, _⟩
        exact hGa Gi H' n
      · intro i xv σ' H' H'' hi ⟨Gi, ρi, Si, n, m, ee⟩ hy
        obtain ⟨d, G2, hdi, mk⟩ := hY i xv Gi H' H'' n hy
        have edr : w.1.drop i = d :: w.1.drop (i + 1) := by
          rw [List.drop_eq_getElem_cons hi]
          congr 1
          exact (List.getElem?_eq_some_iff.mp hdi).2
        rw [edr] at ee
        have ee' : (match step d ρi with
          | some (.next, ρ') => forLoop step (w.1.drop (i + 1)) ρ'
          | some (.cont, ρ') => forLoop step (w.1.drop (i + 1)) ρ'
          | some (.brk, ρ') => some (.next, ρ')
          | o => o) = some (f, ρ2) := ee
        have hrep : Rep X.K B (Fz G2 H'') xv d := by
          cases mk.rep with
          | val r => exact r
        have n2 : Nx Gi H' G2 H'' := mk.nx
        cases es : step d ρi with
        | none => rw [es] at ee'; cases ee'
        | some q =>
          rw [es] at ee'
          rw [← hstep] at es
          obtain ⟨ρa, ea, es2⟩ := opS_some es
          refine ⟨G2, ρi, d, ρa, mk.sta Si, hrep, ea, fun σ2 S2 m2 => ⟨G2, ρa, S2, ?_⟩⟩
          rw [es2]
          obtain ⟨fl, ρb⟩ := q
          have mm : ∀ {σ3 : L2.St}, Sm (asgSs bb) σ2 σ3 → Sm (tgs g ++ asgSs bb) σ σ3 := fun {σ3} h => (m.trans (m2.trans h)).more fun k hk => by
            rcases List.mem_append.mp hk with z | z
            · exact z
            · exact z
          have hσ : ∀ {σ3 : L2.St}, Sm (asgSs bb) σ2 σ3 → ∀ i, i ∈ w.2 → σ3[i]? = σ[i]? := fun {σ3} h i hi => (mm h).2 i (apart i hi)
          cases fl with
          | next => exact fun G' H3 σ3 n3 S3 m3 => ⟨G', ρb, S3, (n.trans n2).trans n3, mm m3, ee'⟩
          | cont => exact fun G' H3 σ3 n3 S3 m3 => ⟨G', ρb, S3, (n.trans n2).trans n3, mm m3, ee'⟩
          | brk =>
            intro G' H3 σ3 n3 S3 m3
            have e5 := Option.some.inj ee'
            injection e5 with e6 e7
            subst e6 e7
            obtain ⟨u1, u2, u3, u4, u5⟩ := Sta.unhid2 S1 S3 ((n.trans n2).trans n3) (hσ m3)
            exact P2 _ _ _ u1 u2 (mm m3)
          | ret t =>
            intro G' H3 σ3 v n3 S3 m3 r3
            have e5 := Option.some.inj ee'
            injection e5 with e6 e7
            subst e6 e7
            obtain ⟨u1, u2, u3, u4, u5⟩ := Sta.unhid2 S1 S3 ((n.trans n2).trans n3) (hσ m3)
            exact P2 _ _ _ v u1 u2 (mm m3) (u3 r3)
          | err c d' =>
            intro G' H3 σ3 dx n3 S3 m3 ⟨v, r1, r2⟩
            have e5 := Option.some.inj ee'
            injection e5 with e6 e7
            subst e6 e7
            obtain ⟨u1, u2, u3, u4, u5⟩ := Sta.unhid2 S1 S3 ((n.trans n2).trans n3) (hσ m3)
            exact P2 _ _ _ dx u1 u2 (mm m3) ⟨v, ⟨r1.1, u5 _ _ r1.2⟩, r2.mono u4⟩
      · intro σ' H' ⟨Gi, ρi, Si, n, m, ee⟩
        rw [List.drop_length] at ee
        have e5 := Option.some.inj (show some (Fl.next, ρi) = some (f, ρ2) from ee)
        injection e5 with e6 e7
        subst e6 e7
        obtain ⟨u1, u2, u3, u4, u5⟩ := Sta.unhid2 S1 Si n fun i hi => m.2 i (apart i hi)
        exact P2 _ _ _ u1 u2 m
end
end Ev
end

section
set_option linter.all false
set_option maxRecDepth 100000
set_option maxHeartbeats 4000000
/-! An error that is caught and kept: behind its suite it is a thing like others. -/
namespace Ev
open PySem L2 PySem.Spec PyProof.Rows
/-- the name goes behind the suite -/
def endsK (i : Nat) (D : Ends) : Ends := { nx := fun σ1 H1 => D.nx (σ1.set i none) H1, bk := fun σ1 H1 => D.bk (σ1.set i none) H1, ct := fun σ1 H1 => D.ct (σ1.set i none) H1, rt := D.rt }
/-- what the clause wishes of the body's error, slot i is its name's -/
def wKeep (K : PySem.W.Frag) (c : Value) (i : Nat) (ts : TS) (D : Ends) : WX := fun cls d σ H => PySem.W.exmOne K cls c = some true ∧ ∃ C dx fs, cls = .ref C ∧ d = some dx ∧ H dx = some (.xd fs) ∧
  ∀ a, H a = none → ts (endsK i D) (σ.set i (some (.ref a))) (upd (upd H dx (exd dx fs)) a (exv a C dx))
section
variable {X : Cx} {pins : List (Addr × Obj)} {σ : L2.St} {H : Hp} {s sI : Shared} {B h : Heap} {a C dx : Addr} {fs : List (Str × V)}
/-- an error's dict as a thing that may be read -/
theorem xd_exd (J : L2.Inv X pins σ H s) (hd : H dx = some (.xd fs)) : L2.Inv X pins σ (upd H dx (exd dx fs)) s := by
  have els : ∀ b o, H b = some o → (∀ gs, o ≠ .xd gs) → upd H dx (exd dx fs) b = some o := fun b o e n => by
    rw [upd_ne fun z => by rw [z, hd] at e; exact n fs (Option.some.inj e).symm]
    exact e
  have fre : ∀ b, H b = none → upd H dx (exd dx fs) b = none := fun b e => by
    rw [upd_ne fun z => by rw [z, hd] at e; cases e]
    exact e
  refine J.call' (ch := []) rfl ⟨fun b o e _ _ _ => e, fun b o e _ _ _ => ⟨o.slots, e⟩, fun b o _ n _ => fre b n, fun b o e _ => ⟨o, e⟩, fun b vs e => els b _ e fun gs => nofun, fun b o v e => els b _ e fun gs => nofun, fun b ps e => ⟨#[], (els b _ e fun gs => nofun).trans (by simp)⟩⟩ ?_ J.bare (fun b z => nomatch z)
  intro b v e
  by_cases z : b = dx
  · subst z
    rw [upd_same] at e
    cases e
    obtain ⟨mA, n1, n2⟩ : ∃ mA, s.heap.Ns1 b mA ∧ ∀ f, RelO (fs.lookup f) (mA f) := J.hok b _ hd
    exact exd_ok n1 n2
  · rw [upd_ne z] at e
    exact (J.hok b v e).stay (fun c o _ q => q) (fun c hc => els c _ hc fun gs => nofun) fun c vs hc => els c _ hc fun gs => nofun
/-- the error is laid where it landed -/
theorem land_err (J : L2.Inv X pins σ H sI) (nb : ∀ b o, sI.heap.get? b = some o → b ∉ frs X.stack → B.get? b = some o) (up : sI.heap.UpToSlots h) (fl : HandSPX.FlyingZ B X.stack a (Zc (.ref C) (some dx)) h) (na : H a = none) (os : s.os = sI.os) (ag : AllBare s.gens) (hd : H dx = some (.xd fs)) :
    L2.Inv X pins σ (upd (upd H dx (exd dx fs)) a (exv a C dx)) { s with heap := h } := by
  obtain ⟨st, f2, f3, oe, vs, T, oT, ts, ge, gz, gd, _⟩ := fl
  obtain ⟨G, g1, g2⟩ := L2.restrict h fun b => !(b == a)
  have ga : G.get? a = none := g2 a (by simp)
  have gk : ∀ b, b ≠ a → G.get? b = h.get? b := fun b n => g1 b (by simp [n])
  have nI : sI.heap.get? a = none := by
    cases q : sI.heap.get? a with
    | none => rfl
    | some o =>
      by_cases hm : a ∈ frs X.stack
      · obtain ⟨_, o', e', hnf⟩ := f3.mem hm
        rw [ge] at e'
        cases e'
        exact absurd gd (hnf _)
      · have := nb a o q hm
        rw [f2] at this
        cases this
  have st' : B.StaysIn G := fun b o e => by
    rw [gk b fun z => by rw [z, f2] at e; cases e]
    exact st b o e
  have up' : sI.heap.UpToSlots G := fun b o e => by
    rw [gk b fun z => by rw [z, nI] at e; cases e]
    exact up b o e
  have J1 : L2.Inv X pins σ H { s with heap := G } := J.landed nb st' up' os ag
  have J2 := xd_exd J1 hd
  have nad : a ≠ dx := fun z => by rw [z, hd] at na; cases na
  have nx : upd H dx (exd dx fs) a = none := by rw [upd_ne nad]; exact na
  exact J2.laidN (h' := h) (t' := s.toks) (fun b o e => by rw [← gk b fun z => by rw [z, ga] at e; cases e]; exact e) ga nx (exv_ok ge gz.1 gz.2 gd)
theorem suite_in {pn : List (Addr × Obj)} (J : L2.Inv X pins σ H s) : L2.Inv (X.suite a (X.pn ++ pins)) [] σ H s :=
  ⟨J.ok.suite _ _, J.os, J.bare, J.base, J.loc, J.cell, J.free, J.freeC, fun p hp => J.pin p (by simpa using hp), J.hok, J.len⟩
theorem suite_out {pn : List (Addr × Obj)} (J : L2.Inv (X.suite a (X.pn ++ pins)) pn σ H s) (ok : X.Ok) : L2.Inv X pins σ H s :=
  ⟨ok, J.os, J.bare, J.base, J.loc, J.cell, J.free, J.freeC, fun p hp => J.pin p (List.mem_append_left _ hp), J.hok, J.len⟩
end
section
variable {X : Cx} {x n : Str} {c : Value} {i : Nat} {body suite : List Stmt} {b₀ : Stmt} {np pos pos' : Pos} {tb : WX → TS} {ts : TS}
/-- behind the suite -/
theorem keep_end {pins : List (Addr × Obj)} {a : Addr} {D : Ends} {f : Flow} {s : Shared} (ok : X.Ok) (hN : X.N.Nodup) (hi : X.N[i]? = some n) (hln : X.env.kindOf n = some .local)
    (h : SP (X.suite a (X.pn ++ pins)) [] (endsK i D) f s) :
    wpAny (model X.prog X.w) X.A (do bindName X.env n .none; unbindBehindTheSuite X.env n pos') (fun _ s7 => SP X pins D f s7) X.xe s := by
  cases f with
  | next => exact let ⟨σ6, H6, J6, q6⟩ := h; gone_ok (suite_out J6 ok) hN hi hln fun s7 J7 => ⟨_, _, J7, q6⟩
  | brk => exact let ⟨σ6, H6, J6, q6⟩ := h; gone_ok (suite_out J6 ok) hN hi hln fun s7 J7 => ⟨_, _, J7, q6⟩
  | cont => exact let ⟨σ6, H6, J6, q6⟩ := h; gone_ok (suite_out J6 ok) hN hi hln fun s7 J7 => ⟨_, _, J7, q6⟩
  | ret u => exact let ⟨v6, σ6, H6, J6, r6, q6⟩ := h; gone_ok (suite_out J6 ok) hN hi hln fun s7 J7 => ⟨_, _, _, J7, r6, q6⟩
theorem keep_catch {pins : List (Addr × Obj)} {E₁ : Value → Shared → Prop} {D : Ends} {u : Value} {s' : Shared} (ok : X.Ok) (hs : X.stack = X.env :: X.outer) (hf : X.env.frame = some X.env.locals) (hN : X.N.Nodup) (hi : X.N[i]? = some n) (hln : X.env.kindOf n = some .local) (hc : Names X x c)
    (hsu : ∀ (a : Addr) (pn : List (Addr × Obj)), PSs (X.suite a pn) (b₀ :: suite) ts) (xx : XE (X.tr (X.pn ++ pins) E₁) (wKeep X.K c i ts D) u s') :
    wpAny (model X.prog X.w) X.A (noteFrame u X.env) (fun _ s2 => wpAny (model X.prog X.w) X.A (setFlight u none) (fun _ s3 => wpAny (model X.prog X.w) X.A (handleBy u X.env [.ExceptHandler (some (.Name x np)) (some n) (b₀ :: suite) pos']) (SP X pins D) X.xe s3) X.xe s2) X.xe s' := by
  obtain ⟨a, B, sI, pn', σ1, H1, cls, d, rfl, I1, nb, up, sky, na, os, ag, hm, C, dx, fs, rfl, rfl, hd, go⟩ := xx
  have J : L2.Inv X pins σ1 H1 sI := I1.ofTry ok
  have fr : X.A.frames = some (X.env :: X.outer) := ok.frames.trans (congrArg some hs)
  have sky2 : Sky B (X.env :: X.outer) a (Zc (.ref C) (some dx)) X.env.locals s'.heap := hs ▸ sky
  refine Sky.land Zc.steady fr hf sky2 fun h3 f3 up3 => wpAny_handleBy_cons (codeAny_handlers_test ?_) (fun q => nomatch q)
  have J3 : L2.Inv X pins σ1 _ { s' with heap := h3 } := land_err (s := s') J nb (up.trans up3) (hs.symm ▸ f3) na os ag hd
  obtain ⟨oe, vs, ge, gz, gd⟩ := f3.there
  have look : PySem.W.Looks (model X.prog X.w) h3 (typeOf (.ref a)) (.ref C) := fun A Q E s k q => wpAny_typeOf_ref (k _ _ ge) (gz.1.symm ▸ q)
  have test : wpAny (model X.prog X.w) (X.A.mark (some (.ref a))) (eval (.Name x np) X.env) (fun v s4 => v = c ∧ s4 = { s' with heap := h3 }) (fun _ _ => False) { s' with heap := h3 } := by
    obtain ⟨g, db, m | ⟨m, bv, nn⟩⟩ := hc
    · exact ld_glob (X := X.suite a (X.pn ++ pins)) (suite_in (pn := []) J3) g m ⟨rfl, rfl⟩ db
    · exact ld_blt (X := X.suite a (X.pn ++ pins)) (suite_in (pn := []) J3) g m bv ⟨rfl, rfl⟩ nn db
  refine wpAny_mono test (fun v s4 ⟨e1, e2⟩ => ?_) fun _ _ z => z.elim
  subst e1 e2
  refine (PySem.W.exm_one (M := model X.prog X.w) J3.kIn look hm).here ?_
  refine codeAny_handlers_suite_as (HandSPX.lands_againZ f3 fun h4 f4 up4 => ?_)
  have J4 : L2.Inv X pins σ1 _ { s' with heap := h4 } := land_err (s := s') J nb ((up.trans up3).trans up4) (hs.symm ▸ f4) na os ag hd
  refine store_ok (X := X.suite a (X.pn ++ pins)) (v := .ref a) (suite_in (pn := []) J4) hN hi (.inl hln) rfl (fun s5 J5 => ?_) (.inr hln)
  exact wpAny_mono ((hsu a (X.pn ++ pins)).run [] s5 _ _ _ J5 (go a na)) (fun f s6 w => keep_end ok hN hi hln w) fun _ _ z => z.elim
theorem ps_keep (hs : X.stack = X.env :: X.outer) (hf : X.env.frame = some X.env.locals) (hN : X.N.Nodup) (hi : X.N[i]? = some n) (hln : X.env.kindOf n = some .local) (hc : Names X x c)
    (hb : ∀ (W : WX) (pn : List (Addr × Obj)) (xe : Value → Shared → Prop), Takes (X.tr pn xe) W → PSs (X.tr pn xe) body (tb W)) (hsu : ∀ (a : Addr) (pn : List (Addr × Obj)), PSs (X.suite a pn) (b₀ :: suite) ts) :
    PS X (.Try body [.ExceptHandler (some (.Name x np)) (some n) (b₀ :: suite) pos'] [] [] pos) (fun D σ H => tb (wKeep X.K c i ts D) D σ H) := by
  constructor
  intro pins s σ H D I h
  refine wpAny_Try_except (wpAny_mono ((hb (wKeep X.K c i ts D) (X.pn ++ pins) _ fun u s' xx => keep_catch I.ok hs hf hN hi hln hc hsu xx).run [] s σ H D (I.toTry _) h) (fun f s1 w => ?_) fun e s1 z => z)
  match f, w with
  | .next, w => exact let ⟨σ1, H1, J, q⟩ := w; wpAny_execs_nil ⟨σ1, H1, J.ofTry I.ok, q⟩
  | .brk, w => exact let ⟨σ1, H1, J, q⟩ := w; ⟨σ1, H1, J.ofTry I.ok, q⟩
  | .cont, w => exact let ⟨σ1, H1, J, q⟩ := w; ⟨σ1, H1, J.ofTry I.ok, q⟩
  | .ret u, w => exact let ⟨v, σ1, H1, J, r, q⟩ := w; ⟨v, σ1, H1, J.ofTry I.ok, r, q⟩
end
end Ev
end

section
set_option linter.all false
set_option maxRecDepth 100000
set_option maxHeartbeats 4000000
/-! A lambda handed to the def that hears it. -/
namespace Ev
open PySem L2 PySem.Spec PyProof.Rows LamX
section
variable {X : Cx} {pins : List (Addr × Obj)} {σ : L2.St} {H HZ : Hp} {s s1 : Shared} {A : Around} {outer : List PySem.Env} {E : XK} {f c' : Addr} {pm ctv : Value} {params : Arguments} {body : Expr} {scope : Scope} {k : Nat} {tb : TE} {Q : VK}
abbrev lamOb (X : Cx) (params : Arguments) (body : Expr) (scope : Scope) (pm : Value) (c' : Addr) (ctv : Value) : Obj := PySem.W.kla_obj "<lambda>" (X.env.qual ++ "<lambda>") params body scope (cloFrom X.env.cells scope.names []) pm c' ctv
/-- the lambda at f called, from the frames outer -/
theorem lam_code (I : L2.Inv X pins σ H s) (L : LamS X.env.scope scope) (hf : s1.heap.get? f = some (lamOb X params body scope pm c' ctv)) (hb : bindArgs (PySem.W.kla_fn "<lambda>" (X.env.qual ++ "<lambda>") params body scope (cloFrom X.env.cells scope.names []) pm (.ref c') ctv) ⟨[], []⟩ = pure [])
    (hr : Room (k + 1) A) (e0 : Env0 X.prog X.w X.K X.mg X.base A outer s1 HZ) (lim : s1.heap.NoLimit) (un : Un (frs X.stack) [] H HZ s.heap s1.heap) (hc : HZ c' = some (CodeO c' (X.env.qual ++ "<lambda>")))
    (hbody : Room k (A.deeper (lamEnv X scope s1.heap.objs.size f c')) → PE (lamCx X A outer s1 HZ E scope f c') body tb) (q : tb σ HZ Q) : codeAny (model X.prog X.w) A (.call (.ref f) ⟨[], []⟩) (CR (L2.CX X.prog X.w) outer X.prog X.w HZ s1 Q E) s1 := by
  obtain ⟨⟨oc, vs, t, o1, o2, o3⟩, _⟩ := e0.hok c' _ hc
  refine PySem.W.kla_callFunE hr.depth hf rfl L.co L.gen rfl ⟨c', oc, vs, t, rfl, o1, o2, o3⟩ (hb ▸ wpAny_pure (wpAny_newFunctionEnv (fun y hy => (L.own y hy).2) (fun _ hy => nomatch hy) (fun h₁ ns sb => ⟨lim.fresh _ sb, ?_⟩) L.kind))
  have old : ∀ b o, s1.heap.get? b = some o → h₁.get? b = some o := fun b o e => sb.extBut b o (Nat.ne_of_lt (Heap.lt_size e)) (Heap.get?_push_of_some _ e)
  refine PySem.W.kla_codeExpr (wpAny_mono ((hbody (hr.deeper _)).run [] _ σ HZ Q (lam_start2 (tk := s1.toks + ([] : List (Str × Value)).length) I L e0 hr.hd un ns old) q) (fun v s' w => ?_) fun e s' w => w)
  exact let ⟨u, H', J, rv, z⟩ := w; ⟨u, H', J.os, J.bare, J.base, J.hok, rv, z⟩
/-- a() in the def that got the lambda -/
theorem pe_hear {CXg : CXT} {Eg : XK} {Ng : List Str} {qg a : Str} {sg : Scope} {g : Addr} {cdg : Value} {i : Nat} {pn : List (Addr × Obj)} {xe : Value → Shared → Prop} {W : WX} {t : XK → TE} {p1 p2 : Pos} (I : L2.Inv X pins σ H s) (L : LamS X.env.scope scope)
    (hf : s.heap.get? f = some (lamOb X params body scope pm c' ctv)) (fn : H f = none) (ff : f ∉ frs X.stack) (hb : bindArgs (PySem.W.kla_fn "<lambda>" (X.env.qual ++ "<lambda>") params body scope (cloFrom X.env.cells scope.names []) pm (.ref c') ctv) ⟨[], []⟩ = pure [])
    (tk : Takes ((cxOf CXg X.prog X.w X.K X.mg X.base Ng qg sg g cdg X.A X.stack s H Eg).tr pn xe) W) (hr : Room (k + 1) (X.A.deeper (envOfC qg sg s.heap.objs.size g cdg)))
    (hbody : ∀ (A : Around) (outer : List PySem.Env) (s : Shared) (H : Hp) (E : XK), Room k (A.deeper (lamEnv X scope s.heap.objs.size f c')) → PE (lamCx X A outer s H E scope f c') body (t E))
    (hN : Ng[i]? = some a) (hv : Vis sg a) (hd : (a == ("__debug__" : Str)) = false) (hcd : (a == ("__classdict__" : Str)) = false) :
    PE ((cxOf CXg X.prog X.w X.K X.mg X.base Ng qg sg g cdg X.A X.stack s H Eg).tr pn xe) (.Call (.Name a p1) [] [] p2) (fun σZ HZ Q => σZ[i]? = some (some (.ref f)) ∧ HZ c' = some (CodeO c' (X.env.qual ++ "<lambda>")) ∧ t (WE W σZ) σ HZ Q) := by
  constructor
  intro pinsZ sZ σZ HZ Q J ⟨ha, hc, ht⟩
  apply wpAny_Call_Name_kw
  refine thn ((pe_var (pos := p1) hN hv hd hcd).run pinsZ sZ σZ HZ (fun v H1 => v = .ref f ∧ H1 = HZ) J ⟨.ref f, ha, rfl, rfl⟩) fun u s1 w => ?_
  obtain ⟨v, H1, J1, rv, ev, eH⟩ := w
  subst ev eH
  cases rv
  have gf := J1.base.keep f _ hf fn ff (fun z => nomatch (show f ∈ ([] : List Addr) from z))
  have ok := J1.env0
  have un : Un (frs X.stack) [] H H1 s.heap s1.heap := J1.base
  have rc : codeAny (model X.prog X.w) (X.A.deeper (envOfC qg sg s.heap.objs.size g cdg)) (.call (.ref f) ⟨[], []⟩) (CR (L2.CX X.prog X.w) (envOfC qg sg s.heap.objs.size g cdg :: X.stack) X.prog X.w H1 s1 Q (WE W σZ)) s1 :=
    lam_code (X := X) I L gf hb hr ok J1.nolimit un hc (fun r => hbody _ _ s1 H1 _ r) ht
  refine PySem.W.callWith_F0 ⟨_, _, _, _, gf⟩ (wpAny_call (codeAny_mono rc fun r s' => ?_))
  match r with
  | .error e => exact fun q => passAt tk σZ pinsZ H1 s1 e s' J1 q
  | .ok (.ret u) => exact fun q => J1.after q
  | .ok .next => exact fun q => False.elim q
  | .ok .brk => exact fun q => False.elim q
  | .ok .cont => exact fun q => False.elim q
end
end Ev
end

section
set_option linter.all false
set_option maxRecDepth 100000
set_option maxHeartbeats 4000000
/-! The def that hears a lambda: (the error, None), or (None, what it returns). -/
namespace Ev
open PySem L2 PySem.Spec PyProof.Rows LamX
theorem none_pair {n m : Str} {px py pt pt2 q1 q2 : Pos} {kt k1 k2 k3 : Nat} {env : PySem.Env} : swappedStores [.Tuple [.Name n px, .Name m py] kt pt] (.Tuple [.Constant .none k1 q1, .Constant .none k2 q2] k3 pt2) env = pure none := by
  have e1 : ([.Constant .none k1 q1, .Constant .none k2 q2] : List Expr).all (foldedForSure 8) = true := rfl
  unfold swappedStores
  simp only [e1]
  repeat' (first | rfl | split)
/-- its body -/
def hearB (lk ca ba er ae : Str) (k : Nat → Nat) (p : Nat → Pos) : List Stmt := [
  .Assign [.Tuple [.Name ca (p 0), .Name ba (p 1)] (k 0) (p 2)] (.Tuple [.Constant .none (k 1) (p 3), .Constant .none (k 2) (p 4)] (k 3) (p 5)) (p 6),
  .Try [.Assign [.Name ba (p 7)] (.Call (.Name lk (p 8)) [] [] (p 9)) (p 10)] [.ExceptHandler (some (.Name ae (p 11))) (some er) [.Assign [.Name ca (p 12)] (.Name er (p 13)) (p 14)] (p 15)] [] [] (p 16),
  .Return (some (.Tuple [.Name ca (p 17), .Name ba (p 18)] (k 4) (p 19))) (p 20)]
/-- its names -/
structure HearS (sg : Scope) (lk ca ba er ae : Str) : Prop where
  nd : [lk, ca, ba, er].Nodup
  l0 : sg.names.lookup lk = some .local
  l1 : sg.names.lookup ca = some .local
  l2 : sg.names.lookup ba = some .local
  l3 : sg.names.lookup er = some .local
  lg : sg.names.lookup ae = some .globalImplicit
  db : ∀ x ∈ [lk, ca, ba, er, ae], (x == ("__debug__" : Str)) = false ∧ (x == ("__classdict__" : Str)) = false
/-- what is wanted at its end -/
def hearR : TS := tRet (tTupF (tCons (tVar 1) (tCons (tVar 2) tNil)))
def hearE (Q : VK) : Ends := { nx := hearR { nx := fun _ H' => Q .non H', rt := Q }, rt := Q }
def hearT : TS := tAsg (tVar 3) (gName 1)
/-- what it makes of the lambda's reading -/
def TTh (K : PySem.W.Frag) (c : Value) (t : XK → Hp → VK → Prop) (H : Hp) (Q : VK) (f : Addr) : Prop := ∀ p o, H p = none → t (WE (wKeep K c 3 hearT (hearE Q)) [some (.ref f), some .non, some .non, none]) (upd H p (.frz o (.tup [.non, .non]))) fun v H' => (hearE Q).nx [some (.ref f), some .non, some v, none] H'
section
variable {P : Program} {w : World} {K : PySem.W.Frag} {mg : Str → Option Value} {base : Heap} {qg q : Str} {sg : Scope} {g f c' : Addr} {cdg c : Value} {A : Around} {stack : List PySem.Env} {s : Shared} {H : Hp} {Q : VK} {lk ca ba er ae : Str} {k : Nat → Nat} {p : Nat → Pos} {tl : XK → Hp → VK → Prop}
abbrev hearX (P : Program) (w : World) (K : PySem.W.Frag) (mg : Str → Option Value) (base : Heap) (lk ca ba er qg : Str) (sg : Scope) (g : Addr) (cdg : Value) (A : Around) (stack : List PySem.Env) (s : Shared) (H : Hp) : Cx := cxOf C8.CX0 P w K mg base [lk, ca, ba, er] qg sg g cdg A stack s H C8.E0
theorem hear_ok (S : HearS sg lk ca ba er ae) (hm : mg ae = some c)
    (act : ∀ (W : WX) (pn : List (Addr × Obj)) (xe : Value → Shared → Prop) (p1 p2 : Pos), Takes ((hearX P w K mg base lk ca ba er qg sg g cdg A stack s H).tr pn xe) W →
      PE ((hearX P w K mg base lk ca ba er qg sg g cdg A stack s H).tr pn xe) (.Call (.Name lk p1) [] [] p2) (fun σZ HZ Q => σZ[0]? = some (some (.ref f)) ∧ HZ c' = some (CodeO c' q) ∧ tl (WE W σZ) HZ Q))
    (hc : H c' = some (CodeO c' q)) (h : TTh K c tl H Q f) :
    ∃ t, PSs (hearX P w K mg base lk ca ba er qg sg g cdg A stack s H) (hearB lk ca ba er ae k p) t ∧ t { nx := fun _ H' => Q .non H', rt := Q } (L2.start [lk, ca, ba, er] [.ref f]) H := by
  generalize hZ : hearX P w K mg base lk ca ba er qg sg g cdg A stack s H = Z at act
  have calm : Z.calm = true := by rw [← hZ]; rfl
  have zN : Z.N = [lk, ca, ba, er] := by rw [← hZ]; rfl
  have zs : Z.env.scope = sg := by rw [← hZ]; rfl
  have zK : Z.K = K := by rw [← hZ]; rfl
  have nd : Z.N.Nodup := by rw [zN]; exact S.nd
  have n1 : Z.N[1]? = some ca := by rw [zN]; rfl
  have n2 : Z.N[2]? = some ba := by rw [zN]; rfl
  have n3 : Z.N[3]? = some er := by rw [zN]; rfl
  have lc : ∀ {x : Str}, sg.names.lookup x = some .local → Loc Z.env.scope x := fun h => .inl (by rw [zs]; exact h)
  have vs : ∀ {x : Str}, sg.names.lookup x = some .local → Vis Z.env.scope x := fun h => .inl (by rw [zs]; exact h)
  have fn : ∀ x, Z.fn x = true := fun x => by rw [← hZ]; rfl
  have d1 := S.db ca (by simp)
  have d2 := S.db ba (by simp)
  have d3 := S.db er (by simp)
  have h1 : PS Z (.Assign [.Tuple [.Name ca (p 0), .Name ba (p 1)] (k 0) (p 2)] (.Tuple [.Constant .none (k 1) (p 3), .Constant .none (k 2) (p 4)] (k 3) (p 5)) (p 6)) (tAsg (tTupF (tCons (tC .non) (tCons (tC .non) tNil))) (gTup Z.K 2 (gCons (gName 1) (gCons (gName 2) gNil)))) :=
    ps_asg (pe_tupF (pa_cons pe_non (pa_cons pe_non pa_nil))) (pg_tup calm (pgs_cons (pg_name nd n1 (lc S.l1) (.inl (fn _))) (pgs_cons (pg_name nd n2 (lc S.l2) (.inl (fn _))) pgs_nil))) (by rfl) none_pair
  have h2 : PS Z (.Try [.Assign [.Name ba (p 7)] (.Call (.Name lk (p 8)) [] [] (p 9)) (p 10)] [.ExceptHandler (some (.Name ae (p 11))) (some er) [.Assign [.Name ca (p 12)] (.Name er (p 13)) (p 14)] (p 15)] [] [] (p 16))
      (fun D σ H => tAsg (fun σZ HZ Q => σZ[0]? = some (some (.ref f)) ∧ HZ c' = some (CodeO c' q) ∧ tl (WE (wKeep Z.K c 3 hearT D) σZ) HZ Q) (gName 2) D σ H) := by
    refine ps_keep (tb := fun W => tAsg (fun σZ HZ Q => σZ[0]? = some (some (.ref f)) ∧ HZ c' = some (CodeO c' q) ∧ tl (WE W σZ) HZ Q) (gName 2)) (ts := hearT) (by rw [← hZ]; rfl) (by rw [← hZ]; rfl) nd n3 (by show Z.env.scope.names.lookup er = _; rw [zs]; exact S.l3) ⟨by show Z.env.scope.names.lookup ae = _; rw [zs]; exact S.lg, (S.db ae (by simp)).1, .inl (by rw [← hZ]; exact hm)⟩ (fun W pn xe tk => ?_) fun a pn => ?_
    · exact pss_one (ps_set (X := Z.tr pn xe) nd n2 (lc S.l2) (act W pn xe _ _ tk) (by rfl) (.inl (fn _)))
    · exact pss_one (ps_set (X := Z.suite a pn) nd n1 (lc S.l1) (pe_var (X := Z.suite a pn) n3 (vs S.l3) d3.1 d3.2) (by rfl) (.inl (fn _)))
  have h3 : PS Z (.Return (some (.Tuple [.Name ca (p 17), .Name ba (p 18)] (k 4) (p 19))) (p 20)) hearR :=
    ps_ret (pe_tupF (pa_cons (pe_var n1 (vs S.l1) d1.1 d1.2) (pa_cons (pe_var n2 (vs S.l2) d2.1 d2.2) pa_nil)))
  refine ⟨_, pss_cons h1 (pss_cons h2 (pss_one h3)), ?_⟩
  have le : 2 ≤ sizeLine := by rw [sizeLine_eq]; omega
  show 2 ≤ sizeLine ∧ NewT H [V.non, V.non] _
  refine ⟨le, fun pt o hp _ _ => ⟨pt, [.non, .non], rfl, .inl (.inr ⟨o, upd_same⟩), rfl, ?_⟩⟩
  have g := h pt o hp
  have cp : c' ≠ pt := fun z => by rw [z, hp] at hc; cases hc
  refine ⟨.non, _, rfl, .non, _, rfl, rfl, rfl, by rw [upd_ne cp]; exact hc, ?_⟩
  rw [zK]
  exact g
end
section
variable {X : Cx} {x lk ca ba er ae : Str} {g cA PA : Addr} {c : Value} {TL : List (Addr × Str)} {n : Nat} {pg params : Arguments} {sg scope : Scope} {fd : FuncData} {kk : Nat → Nat} {pp : Nat → Pos} {body : Expr} {t : XK → TE} {p lpos pos : Pos}
/-- x(lambda: body) -/
theorem pe_heard (hg : Gl X x) (hm : X.mg x = some (.ref g)) (hk : PySem.W.keepIn X.K (.ref g) = true) (FD : FunD X.K x x pg (hearB lk ca ba er ae kk pp) sg [] [] g fd) (S : HearS sg lk ca ba er ae) (SF : FnScope [lk, ca, ba, er] [lk] sg) (hmc : X.mg ae = some c) (hbn : L2.Binds X.K fd [lk] [])
    (TB : TabB X.base X.mg cA PA) (hcode : X.env.code = .ref cA) (hmT : (PA, X.env.qual ++ "<lambda>") ∈ TL) (hu : ∀ p ∈ TL, p.1 = PA → p.2 = X.env.qual ++ "<lambda>") (hr : Room (n + 2) X.A) (L : LamS X.env.scope scope) (hdef : defaultsOf params X.env = ([], []))
    (hbind : ∀ (q : Str) (cl : List (Str × Addr)) (pm cv ctv : Value), bindArgs (PySem.W.kla_fn "<lambda>" q params body scope cl pm cv ctv) ⟨[], []⟩ = pure [])
    (hbody : ∀ (A : Around) (outer : List PySem.Env) (s : Shared) (H : Hp) (E : XK) (f c' : Addr), Room n (A.deeper (lamEnv X scope s.heap.objs.size f c')) → PE (lamCx X A outer s H E scope f c') body (t E)) (hdb : (x == ("__debug__" : Str)) = false) :
    PE X (.Call (.Name x p) [.Lambda params body scope lpos] [] pos) (fun σ H Q => Tabs TL H ∧ ∀ H1, ExtN H H1 → Tabs TL H1 → ∀ f, TTh X.K c (fun E H' Q' => t E σ H' Q') H1 Q f) := by
  constructor
  intro pins s σ H Q I ⟨hT, h⟩
  apply wpAny_Call_Name_kw
  apply ld_glob I hg hm (hd := hdb)
  refine PySem.W.callWith_K (h₀ := X.base) I.ok.mod.kin hk ?_ (by rfl) (by rfl)
  show wpAny _ _ (spliced ((false, eval (.Lambda params body scope lpos) X.env) :: backTo pos (starEach [] X.env))) _ _ s
  refine Calls.spliced_cons (lam_make2 I TB hcode hmT hu hT hdef (L.has I.ok) fun f c' pm ctv H1 s1 I1 eN T1 hf hn hfr hco => Calls.spliced_nil ⟨I1.kIn, ?_⟩)
  obtain ⟨_, _, _, _, _, _, _, code, _, _, rfl, look, rec, _, _⟩ := FD.ex
  have run : codeAny (model X.prog X.w) X.A (.call (.ref g) ⟨[.ref f], []⟩) (CR C8.CX0 X.stack X.prog X.w H1 s1 Q C8.E0) s1 := by
    refine run_ofS look rec SF hr I1.env0 (hbn s1 [.ref f] I1.kIn rfl) (vs := [.ref f]) (.cons rfl .nil) rfl fun hr' => ?_
    exact hear_ok S hmc (fun W pn xe p1 p2 tk => pe_hear (t := t) (i := 0) I1 L hf hn hfr (hbind _ _ _ _ _) tk hr' (fun A outer s H E r => hbody A outer s H E f c' r) rfl (.inl S.l0) (S.db lk (by simp)).1 (S.db lk (by simp)).2) hco (h H1 eN T1 f)
  refine wpAny_call (codeAny_mono run fun r s2 => ?_)
  match r with
  | .error e => exact fun q => (show False from q).elim
  | .ok (.ret u) => exact fun q => I1.after q
  | .ok .next => exact fun q => False.elim q
  | .ok .brk => exact fun q => False.elim q
  | .ok .cont => exact fun q => False.elim q
end
end Ev
end

section
set_option linter.all false
set_option maxRecDepth 100000
set_option maxHeartbeats 4000000
/-! A call that is heard; an error raised. -/
namespace Ev
open PySem L2 PySem.Spec PyProof.Rows LamX
/-- what is new is nobody's here -/
def gExt (H H1 : Hp) (G : Gh) : Gh := fun a => match H1 a with
  | none => .non
  | some o => (match H a with
    | some _ => G a
    | none => (match o with | .tbl _ => .tb | _ => .non))
section
variable {K : PySem.W.Frag} {B : Cls0} {σ : L2.St} {G G' : Gh} {H H1 H' : Hp} {ρ : Env}
theorem gExt_old {a : Addr} {o u : HO} (h : H a = some o) (h1 : H1 a = some u) : gExt H H1 G a = G a := by
  unfold gExt
  rw [h1, h]
theorem Sta.ext (S : Sta K B G ρ σ H) (e : ExtN H H1) (t : Tabs B.tb H1) : Sta K B (gExt H H1 G) ρ σ H1 ∧ Nx G H (gExt H H1 G) H1 := by
  have old : ∀ a o, H a = some o → G a ≠ .tb → H1 a = some o ∧ gExt H H1 G a = G a := fun a o h n => by
    have h1 := e a o h fun ps z => n (S.fresh.tbs a ps (by rw [h, z]))
    exact ⟨h1, gExt_old h h1⟩
  refine ⟨⟨S.len, fun i u hu => ?_, fun a h => ?_, fun p hp => ⟨?_, t p hp⟩, fun a ps h => ?_⟩, fun a o h => ⟨fun g => ?_, fun g => ?_⟩⟩
  · obtain ⟨v, hv, R⟩ := S.slot i u hu
    refine ⟨v, hv, R.stay (fun a o h g => ?_) fun a o p h g => ?_⟩
    · obtain ⟨h1, h2⟩ := old a o h (by rw [g]; exact nofun)
      exact ⟨h1, h2.trans g⟩
    · obtain ⟨h1, h2⟩ := old a o h (by rw [g]; exact nofun)
      exact ⟨h1, h2.trans g⟩
  · unfold gExt
    rw [h]
  · obtain ⟨g, ps, h1, _⟩ := S.fresh.tab p hp
    obtain ⟨qs, h2, _⟩ := t p hp
    rw [gExt_old h1 h2]
    exact g
  · cases q : H a with
    | none =>
      unfold gExt
      rw [h, q]
    | some o =>
      rw [gExt_old q h]
      by_cases z : ∃ qs, o = .tbl qs
      · obtain ⟨qs, rfl⟩ := z
        exact S.fresh.tbs a qs q
      · have := e a o q fun qs y => z ⟨qs, y⟩
        rw [h] at this
        exact absurd ⟨ps, (Option.some.inj this).symm⟩ z
  · obtain ⟨h1, h2⟩ := old a o h (by rw [g]; exact nofun)
    exact ⟨h1, h2.trans g⟩
  · obtain ⟨h1, h2⟩ := old a o h (by rw [g]; exact nofun)
    exact ⟨h1, h2.trans g⟩
/-- the dict of an error that is caught -/
theorem Sta.caught (S : Sta K B G ρ σ H) {dx a C : Addr} {v : V} {d : D} (hd : H dx = some (.xd [("value", v)])) (g : G dx = .my 0 []) (R : Rep K B (Fz G H) v d) (na : H a = none) {c : Nat} :
    ∃ G', Sta K B G' ρ σ (upd (upd H dx (exd dx [("value", v)])) a (exv a (B.X c) dx)) ∧ Nx G H G' (upd (upd H dx (exd dx [("value", v)])) a (exv a (B.X c) dx)) ∧ Rep K B (Fz G' (upd (upd H dx (exd dx [("value", v)])) a (exv a (B.X c) dx))) (.ref a) (.exc c d) := by
  have nd : ∀ {b : Addr}, G b ≠ .my 0 [] → b ≠ dx := fun h z => h (by rw [z]; exact g)
  have keep : ∀ b o, H b = some o → b ≠ dx → upd H dx (exd dx [("value", v)]) b = some o ∧ gNew dx .frz G b = G b := fun b o e n => ⟨by rw [upd_ne n]; exact e, gNew_ne n⟩
  have S1 : Sta K B (gNew dx .frz G) ρ σ (upd H dx (exd dx [("value", v)])) := S.keep (fun b o e z => by
      obtain ⟨k1, k2⟩ := keep b o e (nd (by rw [z]; exact nofun))
      exact ⟨k1, k2.trans z⟩) (fun i b o p _ e z => by
      obtain ⟨k1, k2⟩ := keep b o e (nd (by rw [z]; intro y; injection y with y1 _; omega))
      exact ⟨k1, k2.trans z⟩) (fun b e => by
      have n : b ≠ dx := fun z => by rw [z, upd_same] at e; cases e
      rw [upd_ne n] at e
      rw [gNew_ne n]
      exact S.fresh.fr b e) (fun b o e z => by
      obtain ⟨k1, k2⟩ := keep b o e (nd (by rw [z]; exact nofun))
      exact ⟨k1, k2.trans z⟩) (fun b φ e => by
      rw [upd_ne fun z => by rw [z, hd] at e; cases e]
      exact e) fun b ps e => by
      by_cases n : b = dx
      · rw [n, upd_same] at e
        exact absurd (Option.some.inj e) (by unfold exd; exact nofun)
      · rw [upd_ne n] at e
        exact ⟨ps, e⟩
  have n1 : Nx G H (gNew dx .frz G) (upd H dx (exd dx [("value", v)])) := fun b o e => ⟨fun z => by
      obtain ⟨k1, k2⟩ := keep b o e (nd (by rw [z]; exact nofun))
      exact ⟨k1, k2.trans z⟩, fun z => by
      obtain ⟨k1, k2⟩ := keep b o e (nd (by rw [z]; exact nofun))
      exact ⟨k1, k2.trans z⟩⟩
  have nad : a ≠ dx := fun z => by rw [z, hd] at na; cases na
  have na1 : upd H dx (exd dx [("value", v)]) a = none := by rw [upd_ne nad]; exact na
  have n2 : Nx (gNew dx .frz G) (upd H dx (exd dx [("value", v)])) (gNew a .frz (gNew dx .frz G)) (upd (upd H dx (exd dx [("value", v)])) a (exv a (B.X c) dx)) := Nx.new na1
  refine ⟨_, S1.new na1, n1.trans n2, .exc (Fz.of gNew_same upd_same) (Fz.of ?_ ?_) ((n1.trans n2).rep R)⟩
  · rw [gNew_ne (Ne.symm nad)]
    exact gNew_same
  · rw [upd_ne (Ne.symm nad)]
    exact upd_same
end
section
variable {B : Cls0} {W : WX} {X : Cx} {Y : Sys} {a : E} {call : Expr} {c : Value}
theorem hear_end {K : PySem.W.Frag} {Q : VK} {H : Hp} {v1 v2 : V} {l : List (Option V)} (h1 : l[1]? = some (some v1)) (h2 : l[2]? = some (some v2)) (h : NewT H [v1, v2] Q) : (hearE Q).nx l H := ⟨v1, h1, v2, h2, by show 2 ≤ sizeLine; rw [sizeLine_eq]; omega, h⟩
/-- a call that is heard -/
theorem se_hrd (hp : PE X call (fun σ H Q => Tabs B.tb H ∧ ∀ H1, ExtN H H1 → Tabs B.tb H1 → ∀ f, TTh X.K c (fun E H' Q' => tE X.K B (fun cls d _ H => E cls d H) (ev Y a) σ H' Q') H1 Q f)) (hx : ∀ m, PySem.W.exmOne X.K (.ref (B.X m)) c = some true) : SE B W Y X (.hrd a) call := by
  refine SE.mk1 (pe_mono hp fun σ H Q ⟨G, ρ, S, P⟩ => ?_) fun k => nofun
  unfold ev at P
  refine ⟨fun p hp => (S.fresh.tab p hp).2, fun H1 e t f p o np => ?_⟩
  obtain ⟨S1, n1⟩ := S.ext e t
  have S2 : Sta X.K B (gNew p .frz (gExt H H1 G)) ρ σ (upd H1 p (.frz o (.tup [.non, .non]))) := S1.new np (fun _ => nofun)
  have n2 : Nx G H (gNew p .frz (gExt H H1 G)) (upd H1 p (.frz o (.tup [.non, .non]))) := n1.trans (Nx.new np)
  refine ⟨_, ρ, S2, ?_⟩
  cases q : ev Y a ρ with
  | none => rw [q] at P; exact P.elim
  | some r =>
    obtain ⟨r, ρ'⟩ := r
    rw [q] at P
    cases r with
    | ok u =>
      intro G' H' v n S' R
      refine hear_end (K := X.K) rfl rfl fun p' o' hp' hc hd => ?_
      have R' : Rep X.K B (Fz (gFrz 0 G') H') v (frz u) := RepT.frzd R
      have m := Mk1.newT (G := gFrz 0 G') hp' hc hd (.cons (.non) (.cons R' .nil))
      exact (show PostX X.K B W σ (RT X.K B) (ret (.val (.tup [.non, frz u])) ρ') G H Q from P) _ _ _ ((n2.trans n).trans (Nx.gFrz.trans m.nx)) (m.sta S'.frzTmp) m.rep
    | err k d =>
      intro G' H' dx n S' ⟨v, ⟨x1, x2⟩, x3⟩
      refine ⟨hx k, B.X k, dx, _, rfl, rfl, x1, fun a na => ?_⟩
      obtain ⟨G2, S2, m2, R2⟩ := S'.caught x1 x2 x3 na (c := k) (C := 0)
      refine ⟨.ref a, rfl, ?_⟩
      refine hear_end (K := X.K) rfl rfl fun p' o' hp' hc hd => ?_
      have m := Mk1.newT (G := G2) hp' hc hd (.cons R2 (.cons .non .nil))
      exact (show PostX X.K B W σ (RT X.K B) (ret (.val (.tup [.exc k d, .non])) ρ') G H Q from P) _ _ _ ((n2.trans n).trans (m2.trans m.nx)) (m.sta S2) m.rep
/-- an error raised -/
theorem ss_raise {D f : Addr} {fd : FuncData} {m : Nat} {nm : Str} {x : Expr} {p pos pos2 : Pos} (hc : X.calm = true) (T : XC X.K D f (B.X m)) (F : FnOk X.prog X.w X.K X.mg X.base (L2.CX X.prog X.w) 1 f fd ["self", "value"] (spAsk X.K D)) (hr : Room (1 + 1) X.A) (hb : Binds X.K fd ["self", "value"] []) (tk : Takes X W) (hg : Gl X nm) (hm : X.mg nm = some (.ref (B.X m)))
    (ha : SE B W Y X a x) (hst : isStar x = false) (hdb : (nm == ("__debug__" : Str)) = false) : SS B W Y X (.raise m a) (.Raise (some (.Call (.Name nm p) [x] [] pos)) none pos2) := by
  refine ps_mono (ps_raise hc tk (pmk_oex T.ask.ox T.ini T.typ F hr hb (dvs := []) .nil (passes_call tk fun _ _ _ _ z => z.elim) hg hm (pa_cons ha.d pa_nil (star_one hst _ _)) hdb (star_one hst _ _) (by rfl))) fun D0 σ H ⟨G, ρ, S, P⟩ => ?_
  unfold exS at P
  refine ⟨G, ρ, S, P.xs fun d ρ1 G1 H1 y _ _ S1 R P1 => ⟨by show 1 ≤ 1000; omega, fun l nl => ⟨l, B.X m, y, rfl, T.ask, upd_same, fun dx nd ne => ⟨rfl, dx, [("value", y)], upd_same, ?_, ?_, ?_⟩⟩⟩⟩
  · rw [upd_ne ne]
    exact upd_same
  · rw [← nd, upd_ne ne]
  · have nx : H1 dx = none := by rw [← nd, upd_ne ne]
    have e : upd (L2.del (upd (upd (upd H1 l (exo l (B.X m) none)) dx (exd dx [("value", y)])) l (exo l (B.X m) (some dx))) l) dx (.xd [("value", y)]) = upd H1 dx (.xd [("value", y)]) := by
      funext b
      by_cases h1 : b = dx
      · rw [h1, upd_same, upd_same]
      · rw [upd_ne h1, upd_ne h1]
        by_cases h2 : b = l
        · rw [h2, del_same, nl]
        · rw [del_ne h2, upd_ne h2, upd_ne h1, upd_ne h2]
    show W (.ref (B.X m)) (some dx) σ _
    rw [e]
    exact P1 _ _ σ dx (Nx.new nx) (S1.new nx (fun _ => nofun)) Sm.refl ⟨y, ⟨upd_same, gNew_same (w := .my 0 [])⟩, (Nx.new (w := .my 0 []) nx).rep R⟩
end
end Ev
end

section
set_option linter.all false
set_option maxRecDepth 100000
set_option maxHeartbeats 8000000
/-! From the program's statements to the language's. -/
namespace Ev
open PySem L2 PySem.Spec PyProof.Rows

def never : S := .drop (.range [])
def orN : Option S → S
  | some s => s
  | none => never
def isComp : Expr → Bool
  | .ListComp _ _ _ _ => true
  | .SetComp _ _ _ _ => true
  | .DictComp _ _ _ _ _ => true
  | _ => false
def lcl (sc : Scope) (x : Str) : Bool := match sc.names.lookup x with
  | some .local => true
  | _ => false
theorem lcl_ok {sc : Scope} {x : Str} (h : lcl sc x = true) : sc.names.lookup x = some .local := by
  unfold lcl at h
  split at h
  · assumption
  · cases h
def swB (scope sc : Scope) (t : Str) (p1 p2 : Pos) : Bool := lcl sc t && p1.line == p2.line && !(scope.names.any fun (n, k) => n == t && (k == .local || k == .cell))
section
variable (T : Tab) (f fl : Scope → Expr → Option E) (sc : Scope)
def cApp (n : Str) (a : Str) (x : Expr) (ap cp : Pos) : Option S := if (decide (a = "append") || decide (a = "extend")) && (nov n && visC sc n) && !isStar x && ap.endLine == cp.line then (ixN n T.N 0).bind fun i => (f sc x).bind fun e => some (if a = "append" then .app i e else .ext i e) else none
def cEx (e : Expr) : Option S := match e with
  | .Call (.Attribute (.Name n _) a ap) [x] [] cp => cApp T f sc n a x ap cp
  | e => if isComp e then none else (f sc e).bind fun e => some (.drop e)
def cRt (e : Expr) : Option S := match e with
  | .Name n p => if nov n && visC sc n then (ixN n T.N 0).bind fun i => some (if T.np ≤ i then .retm i else .ret (.v i)) else (f sc (.Name n p)).bind fun e => some (.ret e)
  | e => (f sc e).bind fun e => some (.ret e)
def isLc : Expr → Bool
  | .ListComp _ _ _ _ => true
  | _ => false
theorem isLc_ok {e : Expr} (h : isLc e = true) : ∃ elt gens scope pe, e = .ListComp elt gens scope pe := by
  cases e <;> first | (cases h; done) | exact ⟨_, _, _, _, rfl⟩
def cLcX : Expr → Option E
  | .ListComp elt gens scope _ => cLcE T f sc elt gens scope
  | _ => none
def cNm (n : Str) (e : Expr) : Option S := if locC (fun _ => true) sc n then (ixN n T.N 0).bind fun i => (if isLc e then (cLcX T f sc e).bind fun a => some (.asg (.v i) a) else if isComp e then none else (f sc e).bind fun a => some (.asg (.v i) a)) else none
def cPar (n m : Str) (px py : Pos) (x y : Expr) : Option S := if !(n == m) && lcl sc n && lcl sc m && py.line == px.line && !isStar x && !isStar y && !(foldedForSure 8 x && foldedForSure 8 y) && !(constantsAlone 8 x && constantsAlone 8 y) then
    (ixN n T.N 0).bind fun i => (ixN m T.N 0).bind fun j => if i = j then none else (f sc x).bind fun a => (f sc y).bind fun b => some (.par i j a b) else none
def noPar : Arguments → Bool
  | ⟨[], [], none, [], [], none, []⟩ => true
  | _ => false
def cHrd (x : Str) (params : Arguments) (body : Expr) (scope : Scope) : Option E := if (decide (T.hd = some x) && (nov x && glC sc x)) && (noPar params && LamX.lamSB sc scope) then (fl scope body).bind fun a => some (.hrd a) else none
def cX (e : Expr) : Option E := match e with
  | .Call (.Name x _) [.Lambda params body scope _] [] _ => cHrd T fl sc x params body scope
  | e => f sc e
def cRaise (e : Expr) : Option S := match e with
  | .Call (.Name x _) [a] [] _ => if T.ne && (nov x && glC sc x) && !isStar a then (T.x x).bind fun c => (f sc a).bind fun e => some (.raise c e) else none
  | _ => none
def cTp (es : List Expr) (k : Nat) (pt : Pos) (e : Expr) : Option S := if isTupE e || isComp e then none else (cG T (fun _ => true) sc 5 (.Tuple es k pt)).bind fun g => (match g with
    | .tup l => (cX T f fl sc e).bind fun a => some (.asg (.tup l) a)
    | _ => none)
def cAsg (tg e : Expr) : Option S := match tg with
  | .Name n _ => cNm T f sc n e
  | .Tuple es k pt => (match es, e with
    | [.Name n px, .Name m py], .Tuple [x, y] _ _ => cPar T f sc n m px py x y
    | es, e => cTp T f fl sc es k pt e)
  | .Subscript (.Name n _) k _ => if nov n && visC sc n && !isSlc k && !isComp e then (ixN n T.N 0).bind fun i => (f sc k).bind fun k => (f sc e).bind fun a => some (.setI i k a) else none
  | _ => none
def cAug (tg : Expr) (op : Operator) (e : Expr) : Option S := match op with
  | .Add => (match tg with
    | .Name n _ => if locC (fun _ => true) sc n then (ixN n T.N 0).bind fun i => (f sc e).bind fun a => some (.augN i a) else none
    | .Subscript (.Name n _) k _ => if nov n && visC sc n && !isSlc k then (ixN n T.N 0).bind fun i => (f sc k).bind fun k => (f sc e).bind fun a => some (.augI i k a) else none
    | _ => none)
  | _ => none
def cS1 (r : Stmt → S) : Stmt → Option S
  | .Pass _ => some .pass
  | .Expr e _ => cEx T f sc e
  | .Return (some e) _ => cRt T f sc e
  | .If c a b _ => (f sc c).bind fun c => some (.ite c (a.map r) (b.map r))
  | .While c a b _ => (match b with
    | [] => (f sc c).bind fun c => some (.while_ c (a.map r))
    | _ => none)
  | .For tg it a b _ => (match b with
    | [] => if isSetE it then none else (cIt f sc tg it).bind fun it => (cG T (fun _ => true) sc 5 tg).bind fun g => some (.for_ g it (a.map r))
    | _ => none)
  | .Assign tgs e _ => (match tgs with
    | [tg] => cAsg T f fl sc tg e
    | _ => none)
  | .AugAssign tg op e _ => cAug T f sc tg op e
  | .Raise (some e) none _ => cRaise T f sc e
  | _ => none
end
def cS (T : Tab) (f fl : Scope → Expr → Option E) (sc : Scope) : Nat → Stmt → S
  | 0, _ => never
  | n + 1, s => orN (cS1 T f fl sc (cS T f fl sc n) s)

/-- what is known of the def that hears a lambda -/
structure HrdF (T : Tab) (B : Cls0) (Y : Sys) (X : Cx) (x : Str) : Prop where
  ex : ∃ (g cA PA : Addr) (c : Value) (n : Nat) (lk ca ba er ae : Str) (pg : Arguments) (sg : Scope) (fd : FuncData) (kk : Nat → Nat) (pp : Nat → Pos), X.mg x = some (.ref g) ∧ PySem.W.keepIn X.K (.ref g) = true ∧ FunD X.K x x pg (hearB lk ca ba er ae kk pp) sg [] [] g fd ∧ HearS sg lk ca ba er ae ∧
    FnScope [lk, ca, ba, er] [lk] sg ∧ X.mg ae = some c ∧ Binds X.K fd [lk] [] ∧ LamX.TabB X.base X.mg cA PA ∧ X.env.code = .ref cA ∧ (PA, X.env.qual ++ "<lambda>") ∈ B.tb ∧ (∀ p ∈ B.tb, p.1 = PA → p.2 = X.env.qual ++ "<lambda>") ∧ Room (n + 2) X.A ∧ (∀ m, PySem.W.exmOne X.K (.ref (B.X m)) c = some true) ∧
    ∀ (A : Around) (outer : List PySem.Env) (s : Shared) (H : Hp) (E : XK) (scope : Scope) (f c' : Addr), Room n (A.deeper (LamX.lamEnv X scope s.heap.objs.size f c')) → XOk T.lam B (fun cls d _ H => E cls d H) Y (LamX.lamCx X A outer s H E scope f c') scope
structure SOk (T : Tab) (B : Cls0) (W : WX) (Y : Sys) (X : Cx) (sc : Scope) : Prop extends XOk T B W Y X sc where
  own : PassesOwn (model X.prog X.w) X.A X.env X.xe
  fn : ∀ x, X.fn x = true
  knd : X.env.scope.kind = .function
  hrd : ∀ x, T.hd = some x → HrdF T B Y X x
theorem SOk.kind {T : Tab} {B : Cls0} {W : WX} {Y : Sys} {X : Cx} {sc : Scope} (o : SOk T B W Y X sc) : sc.kind = .function := by rw [← o.sc]; exact o.knd
section
variable {B : Cls0} {W : WX} {X : Cx} {st : Stmt} {pos : Pos} {Y : Sys} {T : Tab} {f fl : Scope → Expr → Option E} {sc : Scope} {s : S}
theorem pv_of (o : XOk T B W Y X sc) {n : Str} {i : Nat} {p : Pos} (h1 : nov n = true) (h2 : visC sc n = true) (hi : ixN n T.N 0 = some i) : PE X (.Name n p) (tVar i) := by
  obtain ⟨n1, n2, n3⟩ := nov_ok h1
  exact pe_var (by rw [o.N]; exact ixN_get0 hi) (by rw [o.sc]; exact visC_ok h2) n1 n2
theorem noComp_none {e : Expr} (h : isComp e = false) (l : Nat) (env : PySem.Env) : swapsWith e none l env = pure false := by
  cases e <;> first | (cases h; done) | rfl
theorem noComp_some {e : Expr} (h : isComp e = false) (t : Expr) (l : Nat) (env : PySem.Env) : swapsWith e (some t) l env = pure false := by
  cases e <;> first | (cases h; done) | (cases t <;> rfl)
theorem tupTg {e : Expr} (es : List Expr) (k : Nat) (pt : Pos) (l : Nat) (env : PySem.Env) : swapsWithSole [.Tuple es k pt] e l env = pure false := by
  show swapsWith e (some (.Tuple es k pt)) l env = pure false
  cases e <;> rfl
theorem subTg {e : Expr} (a b : Expr) (pt : Pos) (l : Nat) (env : PySem.Env) : swapsWithSole [.Subscript a b pt] e l env = pure false := by
  show swapsWith e (some (.Subscript a b pt)) l env = pure false
  cases e <;> rfl
theorem noTup {e : Expr} (h : isTupE e = false) (tg : Expr) (env : PySem.Env) : swappedStores [tg] e env = pure none := by
  cases e <;> first | (cases h; done) | (cases tg <;> rfl)
theorem blockKind_of {env : PySem.Env} (h : env.scope.kind = .function) : env.blockKind = .function := by
  unfold Env.blockKind
  rw [h]
  rfl
theorem sw_eq {elt : Expr} {gs : List Comprehension} {scope : Scope} {p1 p2 : Pos} {t : Str} {l : Nat} {env : PySem.Env} (e : env.scope = sc) (hk : sc.kind = .function) : swapsWith (.ListComp elt gs scope p2) (some (.Name t p1)) l env = pure (swB scope sc t p1 p2) := by
  have hb : env.blockKind = .function := blockKind_of (by rw [e]; exact hk)
  have ke : env.kindOf t = sc.names.lookup t := by rw [← e]; rfl
  unfold swapsWith swB lcl
  simp only [hb, ke, Expr.pos]
  cases sc.names.lookup t with
  | none => rfl
  | some k => cases k <;> rfl
theorem sS_eq {n m : Str} {px py pt pt2 : Pos} {kt k2 : Nat} {x y : Expr} {env : PySem.Env} (e : env.scope = sc) (hk : sc.kind = .function) (h : (!(n == m) && lcl sc n && lcl sc m && py.line == px.line && !isStar x && !isStar y && !(foldedForSure 8 x && foldedForSure 8 y) && !(constantsAlone 8 x && constantsAlone 8 y)) = true) :
    swappedStores [.Tuple [.Name n px, .Name m py] kt pt] (.Tuple [x, y] k2 pt2) env = pure (some [n, m]) := by
  have hb : env.blockKind = .function := blockKind_of (by rw [e]; exact hk)
  have ke : ∀ t, env.kindOf t = sc.names.lookup t := fun t => by rw [← e]; rfl
  simp only [Bool.and_eq_true, Bool.not_eq_true', beq_eq_false_iff_ne] at h
  obtain ⟨⟨⟨⟨⟨⟨⟨h1, h2⟩, h3⟩, h4⟩, h5⟩, h6⟩, h7⟩, h8⟩ := h
  have st : ∀ z : Expr, isStar z = false → (match z with | .Starred .. => true | _ => false) = false := fun z hz => by
    cases z <;> first | (cases hz; done) | rfl
  have l2 := lcl_ok h2
  have l3 := lcl_ok h3
  have e7 : ([x, y] : List Expr).all (foldedForSure 8) = false := by
    show (foldedForSure 8 x && (foldedForSure 8 y && true)) = false
    rw [Bool.and_true]; exact h7
  have e8 : ([x, y] : List Expr).all (constantsAlone 8) = false := by
    show (constantsAlone 8 x && (constantsAlone 8 y && true)) = false
    rw [Bool.and_true]; exact h8
  have h4' : py.line = px.line := by simpa using h4
  unfold swappedStores
  have nm : (m == n) = false := by
    rw [beq_eq_false_iff_ne]
    exact fun z => h1 z.symm
  simp only [hb, e7, e8, List.any_cons, List.any_nil, st x h5, st y h6]
  simp [ke, l2, l3, h4', Expr.pos, List.eraseDups_cons, nm, h1, hb]
  intro hh
  exfalso
  rcases hh with hh | hh
  · cases x <;> first | (cases hh; done) | (cases h5; done)
  · cases y <;> first | (cases hh; done) | (cases h6; done)
theorem cEx_ok (o : SOk T B W Y X sc) (hf : FOk T B Y f) {e : Expr} (h : cEx T f sc e = some s) : SS B W Y X s (.Expr e pos) := by
  unfold cEx at h
  split at h
  · unfold cApp at h
    split at h
    case isFalse => cases h
    rename_i hc
    simp only [Bool.and_eq_true, Bool.or_eq_true, decide_eq_true_eq, Bool.not_eq_true'] at hc
    obtain ⟨⟨⟨h1, h2⟩, h3⟩, h4⟩ := hc
    obtain ⟨i, hi, h⟩ := Option.bind_eq_some_iff.mp h
    obtain ⟨a, ha, h⟩ := Option.bind_eq_some_iff.mp h
    cases h
    rcases h1 with h1 | h1
    · subst h1
      exact ss_app (pv_of o.toXOk h2.1 h2.2 hi) (hf _ _ _ _ _ o.toXOk ha).s h3 h4
    · subst h1
      rw [if_neg (by decide)]
      exact ss_ext (pv_of o.toXOk h2.1 h2.2 hi) (hf _ _ _ _ _ o.toXOk ha).s h3 h4
  · split at h
    · cases h
    rename_i hc
    obtain ⟨a, ha, h⟩ := Option.bind_eq_some_iff.mp h
    cases h
    exact ss_drop (hf _ _ _ _ _ o.toXOk ha).s (noComp_none (by simpa using hc) _ _)
theorem cRt_ok (o : SOk T B W Y X sc) (hf : FOk T B Y f) {e : Expr} (h : cRt T f sc e = some s) : SS B W Y X s (.Return (some e) pos) := by
  unfold cRt at h
  split at h
  · split at h
    · rename_i hc
      simp only [Bool.and_eq_true] at hc
      obtain ⟨i, hi, h⟩ := Option.bind_eq_some_iff.mp h
      cases h
      have q := pv_of (p := ‹Pos›) o.toXOk hc.1 hc.2 hi
      split
      · exact ss_retm q
      · exact ss_ret ⟨se_v q, fun k e => by cases e; exact q⟩
    · obtain ⟨a, ha, h⟩ := Option.bind_eq_some_iff.mp h
      cases h
      exact ss_ret (hf _ _ _ _ _ o.toXOk ha).s
  · obtain ⟨a, ha, h⟩ := Option.bind_eq_some_iff.mp h
    cases h
    exact ss_ret (hf _ _ _ _ _ o.toXOk ha).s
/-- name = [..] -/
theorem cLc_set (o : SOk T B W Y X sc) (hf : FOk T B Y f) {elt tg it : Expr} {ifs : List Expr} {scope : Scope} {e : E} {i : Nat} {n : Str} {p2 pe : Pos} (hi : X.N[i]? = some n) (hl : lcl sc n = true) (hsw : swapsWith (.ListComp elt [⟨tg, it, ifs, 0⟩] scope pe) (some (.Name n p2)) pos.line X.env = pure true) (h : cLc T f sc elt tg it ifs scope = some e) :
    SS B W Y X (.asg (.v i) e) (.Assign [.Name n p2] (.ListComp elt [⟨tg, it, ifs, 0⟩] scope pe) pos) := by
  unfold cLc at h
  split at h
  · cases h
  rename_i hset
  split at h
  case isFalse => cases h
  rename_i hblk
  obtain ⟨it', hit, h⟩ := Option.bind_eq_some_iff.mp h
  obtain ⟨g, hg, h⟩ := Option.bind_eq_some_iff.mp h
  obtain ⟨ifs', hifs, h⟩ := Option.bind_eq_some_iff.mp h
  obtain ⟨a, ha, h⟩ := Option.bind_eq_some_iff.mp h
  split at h
  case isFalse => cases h
  rename_i hall
  cases h
  have hb : BlkOk X.N X.env.scope scope (ownOf T scope) := by
    rw [o.N, o.sc]
    exact blkOk_by hblk
  have ho : ∀ i, i ∈ tgs g → i ∈ (ownOf T scope).map (·.2) := fun i hi => List.contains_iff_mem.mp (List.all_eq_true.mp hall i hi)
  have hy : X.env.scope.names.lookup n = some .local := by rw [o.sc]; exact lcl_ok hl
  have q := ps_setLc (X := X) (spos := pos) (te := tD X.K B WF fun ρ => evD (ev Y a ρ)) (tt := tT X.K B WF (evTs Y ifs')) (g := tG X.K B g) o.calm o.nodup hi hy hsw (cIt_ok (oc := fun i => occ i 100 a || ifs'.any (occ i 100)) o.toXOk hf hit) hb (fun s H C cl fp => (cG_ok (B := B) (X := X.blk s H scope (compEnvC scope cl C X.env) fp) (o.blk (scope := scope) s H C cl fp).calm (o.blk (scope := scope) s H C cl fp).nodup (o.blk (scope := scope) s H C cl fp).N (o.blk (scope := scope) s H C cl fp).sc (fun x h => h) hg))
    (fun s H C cl fp => cIfs_ok (o.blk s H C cl fp) hf hifs) (fun s H C cl fp => (hf _ _ _ _ _ (o.blk s H C cl fp) ha).s.d) (fold_of (by simpa using hset) _)
  exact asg_name asg_nameT q fun σ H Q z => lc_core2 ho σ H Q z
theorem cNm_ok (o : SOk T B W Y X sc) (hf : FOk T B Y f) {n : Str} {p2 : Pos} {e : Expr} (h : cNm T f sc n e = some s) : SS B W Y X s (.Assign [.Name n p2] e pos) := by
  unfold cNm at h
  split at h
  case isFalse => cases h
  rename_i hl
  obtain ⟨l1, l2⟩ := locC_ok hl
  obtain ⟨i, hi, h⟩ := Option.bind_eq_some_iff.mp h
  have hN : X.N[i]? = some n := by rw [o.N]; exact ixN_get0 hi
  have hx : Loc X.env.scope n := by rw [o.sc]; exact l1
  split at h
  · rename_i hlc
    obtain ⟨elt, gens, scope, pe, rfl⟩ := isLc_ok hlc
    obtain ⟨a, ha, h⟩ := Option.bind_eq_some_iff.mp h
    cases h
    have ha : cLcE T f sc elt gens scope = some a := ha
    unfold cLcE at ha
    split at ha
    case h_2 => cases ha
    split at ha
    case isFalse => cases ha
    rename_i hk
    subst hk
    cases hs : swB scope sc n p2 pe with
    | true =>
      have hl2 : lcl sc n = true := by
        unfold swB at hs
        simp only [Bool.and_eq_true] at hs
        exact hs.1.1
      exact cLc_set o hf hN hl2 (sw_eq (p1 := p2) (p2 := pe) (t := n) o.sc o.kind |>.trans (by rw [hs])) ha
    | false => exact ss_set o.nodup hN hx (cLc_ok o.toXOk hf ha) (sw_eq (p1 := p2) (p2 := pe) (t := n) o.sc o.kind |>.trans (by rw [hs])) (.inl (o.fn n))
  · split at h
    · cases h
    rename_i hc
    obtain ⟨a, ha, h⟩ := Option.bind_eq_some_iff.mp h
    cases h
    exact ss_set o.nodup hN hx (hf _ _ _ _ _ o.toXOk ha).s (noComp_some (by simpa using hc) _ _ _) (.inl (o.fn n))
theorem cPar_ok (o : SOk T B W Y X sc) (hf : FOk T B Y f) {n m : Str} {px py pt pt2 : Pos} {kt k2 : Nat} {x y : Expr} (h : cPar T f sc n m px py x y = some s) : SS B W Y X s (.Assign [.Tuple [.Name n px, .Name m py] kt pt] (.Tuple [x, y] k2 pt2) pos) := by
  unfold cPar at h
  split at h
  case isFalse => cases h
  rename_i hc
  obtain ⟨i, hi, h⟩ := Option.bind_eq_some_iff.mp h
  obtain ⟨j, hj, h⟩ := Option.bind_eq_some_iff.mp h
  split at h
  · cases h
  rename_i hij
  obtain ⟨a, ha, h⟩ := Option.bind_eq_some_iff.mp h
  obtain ⟨b, hb, h⟩ := Option.bind_eq_some_iff.mp h
  cases h
  have hw := sS_eq (pt := pt) (pt2 := pt2) (kt := kt) (k2 := k2) o.sc o.kind hc
  simp only [Bool.and_eq_true, Bool.not_eq_true'] at hc
  obtain ⟨⟨⟨⟨⟨⟨⟨h1, h2⟩, h3⟩, h4⟩, h5⟩, h6⟩, h7⟩, h8⟩ := hc
  exact ss_par o.calm o.nodup (by rw [o.N]; exact ixN_get0 hi) (by rw [o.N]; exact ixN_get0 hj) hij (by rw [o.sc]; exact lcl_ok h2) (by rw [o.sc]; exact lcl_ok h3) (hf _ _ _ _ _ o.toXOk ha).s (hf _ _ _ _ _ o.toXOk hb).s h5 h6 hw (tupTg _ _ _ _ _)
theorem cHrd_ok (o : SOk T B W Y X sc) (hl : FOk T.lam B Y fl) {x : Str} {params : Arguments} {body : Expr} {scope : Scope} {p lpos : Pos} {e : E} (h : cHrd T fl sc x params body scope = some e) : SE B W Y X e (.Call (.Name x p) [.Lambda params body scope lpos] [] pos) := by
  unfold cHrd at h
  split at h
  case isFalse => cases h
  rename_i hc
  simp only [Bool.and_eq_true, decide_eq_true_eq] at hc
  obtain ⟨⟨h1, h2, h3⟩, h4, h5⟩ := hc
  obtain ⟨a, ha, h⟩ := Option.bind_eq_some_iff.mp h
  cases h
  obtain ⟨n1, n2, n3⟩ := nov_ok h2
  obtain ⟨g, cA, PA, c, n, lk, ca, ba, er, ae, pg, sg, fd, kk, pp, hm, hk, F, S, SF, hmc, hbn, TB, hcode, hmT, hu, hr, hx, hlam⟩ := (o.hrd x h1).ex
  have np : params = ⟨[], [], none, [], [], none, []⟩ := by
    unfold noPar at h4
    split at h4
    · rfl
    · cases h4
  subst np
  exact se_hrd (pe_heard (t := fun E => tE X.K B (fun cls d _ H => E cls d H) (ev Y a)) (glC_ok o.sc h3) hm hk F S SF hmc hbn TB hcode hmT hu hr (by rw [o.sc]; exact LamX.lamS_by h5) rfl (fun _ _ _ _ _ => rfl) (fun A outer s H E f c' r => (hl _ _ _ _ _ (hlam A outer s H E scope f c' r) ha).s.e) n1) hx
theorem cX_ok (o : SOk T B W Y X sc) (hf : FOk T B Y f) (hl : FOk T.lam B Y fl) {x : Expr} {e : E} (h : cX T f fl sc x = some e) : SE B W Y X e x := by
  unfold cX at h
  split at h
  · exact cHrd_ok o hl h
  · exact (hf _ _ _ _ _ o.toXOk h).s
theorem cRaise_ok (o : SOk T B W Y X sc) (hf : FOk T B Y f) {e : Expr} (h : cRaise T f sc e = some s) : SS B W Y X s (.Raise (some e) none pos) := by
  unfold cRaise at h
  split at h
  case h_2 => cases h
  split at h
  case isFalse => cases h
  rename_i hc
  simp only [Bool.and_eq_true, Bool.not_eq_true'] at hc
  obtain ⟨⟨h1, h2, h3⟩, h4⟩ := hc
  obtain ⟨c, hx, h⟩ := Option.bind_eq_some_iff.mp h
  obtain ⟨a, ha, h⟩ := Option.bind_eq_some_iff.mp h
  cases h
  obtain ⟨n1, n2, n3⟩ := nov_ok h2
  obtain ⟨D, fI, fd, g1, g2, g3⟩ := (o.erf h1).ex
  obtain ⟨n, hr⟩ := o.room
  exact ss_raise o.calm (g1 c) g2 (hr.mono (by omega)) g3 o.takes (glC_ok o.sc h3) (o.ers _ _ hx) (hf _ _ _ _ _ o.toXOk ha).s h4 n1
theorem cTp_ok (o : SOk T B W Y X sc) (hf : FOk T B Y f) (hl : FOk T.lam B Y fl) {es : List Expr} {k : Nat} {pt : Pos} {e : Expr} (h : cTp T f fl sc es k pt e = some s) : SS B W Y X s (.Assign [.Tuple es k pt] e pos) := by
  unfold cTp at h
  split at h
  · cases h
  rename_i hc
  simp only [Bool.or_eq_true, not_or, Bool.not_eq_true] at hc
  obtain ⟨g, hg, h⟩ := Option.bind_eq_some_iff.mp h
  split at h
  case h_2 => cases h
  obtain ⟨a, ha, h⟩ := Option.bind_eq_some_iff.mp h
  cases h
  exact ss_tup (cX_ok o hf hl ha) (cG_ok o.calm o.nodup o.N o.sc (fun x _ => o.fn x) hg) (tupTg _ _ _ _ _) (noTup hc.1 _ _) rfl
theorem cAsg_ok (o : SOk T B W Y X sc) (hf : FOk T B Y f) (hl : FOk T.lam B Y fl) {tg e : Expr} (h : cAsg T f fl sc tg e = some s) : SS B W Y X s (.Assign [tg] e pos) := by
  unfold cAsg at h
  split at h
  · exact cNm_ok o hf h
  · split at h
    · exact cPar_ok o hf h
    · exact cTp_ok o hf hl h
  · split at h
    case isFalse => cases h
    rename_i hc
    simp only [Bool.and_eq_true, Bool.not_eq_true'] at hc
    obtain ⟨⟨⟨h1, h2⟩, h3⟩, h4⟩ := hc
    obtain ⟨i, hi, h⟩ := Option.bind_eq_some_iff.mp h
    obtain ⟨k, hk, h⟩ := Option.bind_eq_some_iff.mp h
    obtain ⟨a, ha, h⟩ := Option.bind_eq_some_iff.mp h
    cases h
    exact ss_setI (pv_of o.toXOk h1 h2 hi) (hf _ _ _ _ _ o.toXOk hk).s (hf _ _ _ _ _ o.toXOk ha).s (subTg _ _ _ _ _) h3
  · cases h
theorem cAug_ok (o : SOk T B W Y X sc) (hf : FOk T B Y f) {tg e : Expr} {op : Operator} (h : cAug T f sc tg op e = some s) : SS B W Y X s (.AugAssign tg op e pos) := by
  unfold cAug at h
  split at h
  case h_2 => cases h
  split at h
  · split at h
    case isFalse => cases h
    rename_i hl
    obtain ⟨l1, l2⟩ := locC_ok hl
    obtain ⟨i, hi, h⟩ := Option.bind_eq_some_iff.mp h
    obtain ⟨a, ha, h⟩ := Option.bind_eq_some_iff.mp h
    cases h
    exact ss_augN o.nodup (by rw [o.N]; exact ixN_get0 hi) (by rw [o.sc]; exact l1) (hf _ _ _ _ _ o.toXOk ha).s (.inl (o.fn _))
  · split at h
    case isFalse => cases h
    rename_i hc
    simp only [Bool.and_eq_true, Bool.not_eq_true'] at hc
    obtain ⟨⟨h1, h2⟩, h3⟩ := hc
    obtain ⟨i, hi, h⟩ := Option.bind_eq_some_iff.mp h
    obtain ⟨k, hk, h⟩ := Option.bind_eq_some_iff.mp h
    obtain ⟨a, ha, h⟩ := Option.bind_eq_some_iff.mp h
    cases h
    exact ss_augI (pv_of o.toXOk h1 h2 hi) (hf _ _ _ _ _ o.toXOk hk).s (hf _ _ _ _ _ o.toXOk ha).s h3
  · cases h
theorem map_ok {r : Stmt → S} (hr : ∀ st, SS B W Y X (r st) st) : ∀ l : List Stmt, SSs B W Y X (l.map r) l
  | [] => sss_nil
  | st :: l => sss_cons (hr st) (map_ok hr l)
theorem cS1_ok (o : SOk T B W Y X sc) (hf : FOk T B Y f) (hl : FOk T.lam B Y fl) {r : Stmt → S} (hr : ∀ st, SS B W Y X (r st) st) (h : cS1 T f fl sc r st = some s) : SS B W Y X s st := by
  cases st with
  | Pass p => cases h; exact ss_pass
  | Expr e p => exact cEx_ok o hf h
  | Return e p =>
    cases e with
    | none => cases h
    | some e => exact cRt_ok o hf h
  | If c a b p =>
    obtain ⟨c', hc, h⟩ := Option.bind_eq_some_iff.mp (show ((f sc c).bind fun c => some (.ite c (a.map r) (b.map r))) = some s from h)
    cases h
    exact ss_ite (hf _ _ _ _ _ o.toXOk hc).t (map_ok hr a) (map_ok hr b)
  | While c a b p =>
    cases b with
    | cons _ _ => cases h
    | nil =>
      obtain ⟨c', hc, h⟩ := Option.bind_eq_some_iff.mp (show ((f sc c).bind fun c => some (.while_ c (a.map r))) = some s from h)
      cases h
      exact ss_while o.own (hf _ _ _ _ _ o.toXOk hc).t (map_ok hr a)
  | For tg it a b p =>
    cases b with
    | cons _ _ => cases h
    | nil =>
      have h' : (if isSetE it then none else (cIt f sc tg it).bind fun it => (cG T (fun _ => true) sc 5 tg).bind fun g => some (.for_ g it (a.map r))) = some s := h
      split at h'
      · cases h'
      rename_i hset
      obtain ⟨it', hit, h2⟩ := Option.bind_eq_some_iff.mp h'
      obtain ⟨g, hg, h2⟩ := Option.bind_eq_some_iff.mp h2
      cases h2
      exact ss_for o.own o.calm (cIt_ok o.toXOk hf hit) (cG_ok o.calm o.nodup o.N o.sc (fun x _ => o.fn x) hg) (map_ok hr a) (fold_of (by simpa using hset) _)
  | Assign tgs e p =>
    cases tgs with
    | nil => cases h
    | cons tg r =>
      cases r with
      | nil => exact cAsg_ok o hf hl h
      | cons _ _ => cases h
  | AugAssign tg op e p => exact cAug_ok o hf h
  | Raise e c p =>
    cases e with
    | none => cases h
    | some e =>
      cases c with
      | none => exact cRaise_ok o hf h
      | some _ => cases h
  | _ => cases h
theorem cS_ok (o : SOk T B W Y X sc) (hf : FOk T B Y f) (hl : FOk T.lam B Y fl) : ∀ (n : Nat) (st : Stmt), SS B W Y X (cS T f fl sc n st) st
  | 0, st => ss_never
  | n + 1, st => by
    unfold cS
    cases e : cS1 T f fl sc (cS T f fl sc n) st with
    | none => exact ss_never
    | some s => exact cS1_ok o hf hl (cS_ok o hf hl n) e
end
end Ev
end

section
set_option linter.all false
set_option maxRecDepth 100000
set_option maxHeartbeats 8000000
/-! A program's defs keep the language's promises. -/
namespace Ev
open PySem L2 PySem.Spec PyProof.Rows

theorem finals_ok {as : List Nat} {ρ : Env} : ∀ {ts : List T} {k : Nat} {ts' : List T}, finals as ρ ts k = some ts' → ∀ (i : Nat) (t' : T), ts'[i]? = some t' → ∃ t, ts[i]? = some t ∧ ((∃ d, t = .val d ∧ t' = .val d) ∨ (k + i ∉ as ∧ look ρ (k + i) = some t'))
  | [], k, ts', h, i, t', hi => by
    unfold finals at h
    have e := Option.some.inj h
    subst e
    simp at hi
  | t :: r, k, ts', h, i, t', hi => by
    have own : (if as.contains k then none else (match look ρ k, finals as ρ r (k + 1) with
        | some t, some ts => some (t :: ts)
        | _, _ => none)) = some ts' → ∃ u, (t :: r)[i]? = some u ∧ ((∃ d, u = .val d ∧ t' = .val d) ∨ (k + i ∉ as ∧ look ρ (k + i) = some t')) := fun h => by
      split at h
      · cases h
      rename_i hc
      split at h
      case h_2 => cases h
      rename_i t2 ts2 e1 e2
      have e := Option.some.inj h
      subst e
      cases i with
      | zero =>
        have e3 := Option.some.inj hi
        subst e3
        refine ⟨t, rfl, .inr ⟨fun z => hc ?_, e1⟩⟩
        exact List.contains_iff_mem.mpr z
      | succ i =>
        obtain ⟨u, h1, h2⟩ := finals_ok e2 i t' hi
        refine ⟨u, h1, ?_⟩
        have ek : k + 1 + i = k + (i + 1) := by omega
        rw [ek] at h2
        exact h2
    cases t with
    | val d =>
      have h' : (finals as ρ r (k + 1)).map (T.val d :: ·) = some ts' := by
        unfold finals at h
        exact h
      cases e : finals as ρ r (k + 1) with
      | none => rw [e] at h'; cases h'
      | some ts2 =>
        rw [e] at h'
        have e2 := Option.some.inj h'
        subst e2
        cases i with
        | zero =>
          have e3 := Option.some.inj hi
          exact ⟨_, rfl, .inl ⟨d, rfl, e3.symm⟩⟩
        | succ i =>
          obtain ⟨u, h1, h2⟩ := finals_ok e i t' hi
          refine ⟨u, h1, ?_⟩
          have ek : k + 1 + i = k + (i + 1) := by omega
          rw [ek] at h2
          exact h2
    | lst l => exact own (by unfold finals at h; exact h)
    | dic a b => exact own (by unfold finals at h; exact h)
    | ins a b => exact own (by unfold finals at h; exact h)
theorem start_get {N : List Str} {vs : List V} {i : Nat} {v : V} (h : vs[i]? = some v) : (L2.start N vs)[i]? = some (some v) := by
  unfold L2.start
  have hl := (List.getElem?_eq_some_iff.mp h).1
  rw [List.getElem?_append_left (by rw [List.length_map]; exact hl), List.getElem?_map, h]
  rfl
theorem args_sta {K : PySem.W.Frag} {B : Cls0} {G : Gh} {H : Hp} {vs : List V} {ts : List T} {N : List Str} {nn : Nat} (hN : nn = N.length) (hl : vs.length = ts.length) (fr : Frs B.tb G H) (A : Args K B G H vs ts) :
    Sta K B G (ts.map some ++ List.replicate (nn - ts.length) none) (L2.start N vs) H := by
  refine ⟨?_, fun i t e => ?_, fr⟩
  · unfold L2.start
    simp only [List.length_append, List.length_map, List.length_replicate]
    omega
  · have hi : ts[i]? = some t := by
      unfold look at e
      by_cases h : i < ts.length
      · rw [List.getElem?_append_left (by rw [List.length_map]; exact h), List.getElem?_map] at e
        cases q : ts[i]? with
        | none => rw [q] at e; cases e
        | some u => rw [q] at e; exact e
      · rw [List.getElem?_append_right (by rw [List.length_map]; omega)] at e
        rw [List.getElem?_replicate] at e
        split at e <;> first | (cases e; done) | skip
        rename_i q
        split at q <;> cases q
    have hv : i < vs.length := by
      have := (List.getElem?_eq_some_iff.mp hi).1
      omega
    exact ⟨vs[i], start_get (List.getElem?_eq_getElem hv), A i _ t (List.getElem?_eq_getElem hv) hi⟩
theorem args_fin {K : PySem.W.Frag} {B : Cls0} {G G' : Gh} {H H' : Hp} {vs : List V} {ts ts' : List T} {N : List Str} {ρ : Env} {σ' : L2.St} {as : List Nat} (A : Args K B G H vs ts) (n : Nx G H G' H') (S : Sta K B G' ρ σ' H') (m : Sm as (L2.start N vs) σ') (h : finals as ρ ts 0 = some ts') : Args K B G' H' vs ts' := fun j v t hv ht => by
  obtain ⟨u, h1, h2⟩ := finals_ok h j t ht
  rcases h2 with ⟨d, rfl, rfl⟩ | ⟨h2, h3⟩
  · cases A j v _ hv h1 with
    | val r => exact .val (n.rep r)
  · rw [Nat.zero_add] at h2 h3
    obtain ⟨v', hv', R⟩ := S.slot j t h3
    have e := m.2 j h2
    rw [start_get hv, hv'] at e
    have e2 := Option.some.inj (Option.some.inj e)
    subst e2
    exact R
section
variable {P : Program} {w : World} {K : PySem.W.Frag} {mg : Str → Option Value} {base : Heap} {B : Cls0} {pr : Pr}
/-- what a def needs of another -/
def Fct (P : Program) (w : World) (K : PySem.W.Frag) (mg : Str → Option Value) (base : Heap) (B : Cls0) (pr : Pr) (gd : Bool) (n : Nat) (x : Str) (f m : Nat) : Prop := ∃ (gg : Bool) (k : Nat) (fA : Addr) (fd : FuncData) (ps : List Str) (dvs : List V) (ds : List Value), FnG P w K mg base (L2.CX P w) gg (3 * n + 3) fA fd ps (spF K B k (call pr n f)) ∧ (gg = true → gd = true) ∧ mg x = some (.ref fA) ∧ PySem.W.keepIn K (.ref fA) = true ∧
  Binds K fd ps ds ∧ Vals dvs ds ∧ Reps K B (fun _ => none) dvs (pr.dfl f m) ∧ m + dvs.length = k
/-- what it needs to hand out a lambda -/
def HrdK (K : PySem.W.Frag) (mg : Str → Option Value) (base : Heap) (B : Cls0) (cA : Addr) (qual x : Str) : Prop := ∃ (g PA : Addr) (c : Value) (lk ca ba er ae : Str) (pg : Arguments) (sg : Scope) (fd : FuncData) (kk : Nat → Nat) (pp : Nat → Pos), mg x = some (.ref g) ∧ PySem.W.keepIn K (.ref g) = true ∧ FunD K x x pg (hearB lk ca ba er ae kk pp) sg [] [] g fd ∧ HearS sg lk ca ba er ae ∧
    FnScope [lk, ca, ba, er] [lk] sg ∧ mg ae = some c ∧ Binds K fd [lk] [] ∧ LamX.TabB base mg cA PA ∧ (PA, qual ++ ".<locals>." ++ "<lambda>") ∈ B.tb ∧ (∀ p ∈ B.tb, p.1 = PA → p.2 = qual ++ ".<locals>." ++ "<lambda>") ∧ ∀ m, PySem.W.exmOne K (.ref (B.X m)) c = some true
theorem def_ok {at_ : Str × Option Str} {fd : FuncData} {x qual : Str} {params : Arguments} {body : List Stmt} {scope : Scope} {dvs : List V} {kws : List (Str × V)} {N ps : List Str} {n f m1 m2 : Nat} {T : Tab} (F : FunD K x qual params body scope dvs kws (He.fAd K at_) fd) (S : FnScope N ps scope)
    (hd : pr.ds f = ⟨ps.length, N.length, body.map (cS T (cE T m1) (cE T.lam m1) scope m2)⟩) (hT : T.N = N) (hblt : ∀ x, x ∈ bltNames → mg x = none) (hcs : ∀ x n, T.c x = some n → ∃ v u, mg x = some u ∧ RelV v u ∧ Rep K B (fun _ => none) v (pr.gl n))
    (hfn : ∀ x m f, T.fn x m = some f → Fct P w K mg base B pr T.gd n x f m) (hfl : ∀ x m f, T.lam.fn x m = some f → Fct P w K mg base B pr false n x f m) (hhr : ∀ x, T.hd = some x → HrdK K mg base B (He.codeOf K at_) qual x)
    (her : ∀ x c, T.x x = some c → mg x = some (.ref (B.X c))) (hef : T.ne = true → ErrF P w K mg base B) (his : ∀ x q, T.i x = some q → IsN K mg B x q.1 q.2) : FnG P w K mg base (L2.CX P w) T.gd (3 * n + 5 + 1) (He.fAd K at_) fd ps (spF K B ps.length (call pr (n + 1) f)) := by
  refine g_ok F S (fun vs H Q E h => h.1) fun cdv A outer s H vs Q E hcd hgd hr ⟨hl, G, ts, r, ts', l2, fr, A0, ec, post⟩ => ?_
  generalize hY : (⟨call pr n, WW, pr.gl, pr.dfl⟩ : Sys) = Y
  have ecd : cdv = .ref (He.codeOf K at_) := by
    obtain ⟨_, _, _, _, _, _, _, _, _, lk, ci⟩ := hcd
    obtain ⟨c, rfl⟩ := He.codeIn_ref ci
    rw [He.codeOf_eq lk rfl]
  have o : SOk T B (fun cls d _ H => E cls d H) Y (cxOf (L2.CX P w) P w K mg base N qual scope (He.fAd K at_) cdv A outer s H E) scope := by
    subst hY
    exact { calm := rfl, nodup := S.nd, N := hT.symm, sc := rfl, room := ⟨3 * n + 2, hr⟩, ers := her, erf := hef, iss := his, gd := hgd, blt := hblt, cs := hcs, fns := fun x m f h => by
              obtain ⟨gg, k, fA, fd, ps, dvs, ds, h1, hg, h2, h3, h4, h5, h6, h7⟩ := hfn x m f h
              exact ⟨gg, 3 * n + 3, k, fA, fd, ps, dvs, ds, h1, fun z => hgd (hg z), hr.mono (by omega), h2, h3, h4, h5, h6, h7⟩
            takes := takes_of rfl rfl rfl rfl, own := passes_of rfl, fn := fun _ => rfl, knd := S.kind
            hrd := fun x hx => by
              obtain ⟨g, PA, c, lk, ca, ba, er, ae, pg, sg, fd, kk, pp, h1, h2, h3, h4, h5, h6, h7, h8, h9, h10, h11⟩ := hhr x hx
              refine ⟨g, _, PA, c, 3 * n + 3, lk, ca, ba, er, ae, pg, sg, fd, kk, pp, h1, h2, h3, h4, h5, h6, h7, h8, ecd, h9, h10, hr, h11, fun A2 outer2 s2 H2 E2 scope2 f2 c2 r2 => ?_⟩
              exact { calm := rfl, nodup := S.nd, N := hT.symm, sc := rfl, room := ⟨3 * n, r2⟩, ers := her, erf := hef, iss := his, gd := fun z => (nomatch z), blt := hblt, cs := hcs, fns := fun x m f h => by
                        obtain ⟨gg, k, fA, fd, ps, dvs, ds, k1, kg, k2, k3, k4, k5, k6, k7⟩ := hfl x m f h
                        exact ⟨gg, 3 * n + 3, k, fA, fd, ps, dvs, ds, k1, fun z => (nomatch kg z), r2, k2, k3, k4, k5, k6, k7⟩
                      takes := takes_of rfl rfl rfl rfl } }
  refine ⟨_, map_ok (fun st => cS_ok (B := B) o (cE_ok m1) (cE_ok m1) m2 st) body, G, _, args_sta (nn := N.length) rfl l2 fr A0, ?_⟩
  generalize body.map (cS T (cE T m1) (cE T.lam m1) scope m2) = ss at hd ⊢
  have ec' : runDef Y (pr.ds f) ts = some (r, ts') := by rw [← hY]; exact ec
  rw [hd] at ec'
  unfold runDef at ec'
  have hlt : ts.length = ps.length := l2.symm.trans hl
  rw [if_pos (show ts.length = ps.length from hlt)] at ec'
  have ec2 : (match exSs Y ss (ts.map some ++ List.replicate (N.length - ps.length) none) with
    | some (.next, ρ) => (finals (asgSs ss) ρ ts 0).map fun ts' => (Res.ok (Ev.T.val .non), ts')
    | some (.ret t, ρ) => (finals (asgSs ss) ρ ts 0).map fun ts' => (Res.ok t, ts')
    | some (.err c e, ρ) => (finals (asgSs ss) ρ ts 0).map fun ts' => (Res.err c e, ts')
    | _ => none) = some (r, ts') := ec'
  rw [hlt]
  cases q : exSs Y ss (ts.map some ++ List.replicate (N.length - ps.length) none) with
  | none => rw [q] at ec2; cases ec2
  | some z =>
    obtain ⟨fl, ρ⟩ := z
    rw [q] at ec2
    cases fl with
    | brk => cases ec2
    | cont => cases ec2
    | next =>
      obtain ⟨ts2, h1, h2⟩ := Option.map_eq_some_iff.mp ec2
      injection h2 with h3 h4
      subst h3 h4
      exact fun G' H' σ' n' S' m' => post G' H' .non n' S'.fresh (.val .non) (args_fin A0 n' S' m' h1)
    | ret t =>
      obtain ⟨ts2, h1, h2⟩ := Option.map_eq_some_iff.mp ec2
      injection h2 with h3 h4
      subst h3 h4
      exact fun G' H' σ' v n' S' m' R => post G' H' v n' S'.fresh R (args_fin A0 n' S' m' h1)
    | err c d =>
      obtain ⟨ts2, h1, h2⟩ := Option.map_eq_some_iff.mp ec2
      injection h2 with h3 h4
      subst h3 h4
      exact fun G' H' σ' dx n' S' m' X => post G' H' dx n' S'.fresh (args_fin A0 n' S' m' h1) X
end

/-! ### a program -/
structure FD where
  d : He.DefD
  N : List Str
  ps : List Str
  -- no repr may run; lambdas are made
  gd : Bool := false
  lm : Bool := false
def dvD : He.Dv → D
  | .bl b => .bl b
  | .int i => .int i
  | .str x => .str x
  | _ => .non
def dvOk : He.Dv → Bool
  | .non => true
  | .bl _ => true
  | .int _ => true
  | .str _ => true
  | _ => false
/-- how many defaults are skipped where m are given -/
def FD.skip (d : FD) (m : Nat) : Nat := d.d.dfl.length - (d.ps.length - m)
def fnsOf (gd : Bool) : List FD → Nat → List ((Str × Nat) × Nat)
  | [], _ => []
  | d :: r, i => (if d.gd && !gd then [] else (List.range (d.d.dfl.length + 1)).map fun j => ((d.d.name, d.ps.length - j), i)) ++ fnsOf gd r (i + 1)
def csOf : List (Str × D) → Nat → List (Str × Nat)
  | [], _ => []
  | c :: r, i => (c.1, i) :: csOf r (i + 1)
/-- the errors of a program: their classes by name, the classes that isinstance asks, whether there are any -/
structure Er where
  xs : List (Str × Nat)
  is_ : List (Str × Nat × List Nat)
  ne : Bool
  -- the def that hears lambdas
  hd : Option Str := none
/-- what is known of them -/
structure ErK (P : Program) (w : World) (K : PySem.W.Frag) (mg : Str → Option Value) (base : Heap) (B : Cls0) (es : Er) : Prop where
  er : ∀ p, p ∈ es.xs → mg p.1 = some (.ref (B.X p.2))
  ef : es.ne = true → ErrF P w K mg base B
  is_ : ∀ p, p ∈ es.is_ → IsN K mg B p.1 p.2.1 p.2.2
def er0 : Er := ⟨[], [], false, none⟩
theorem erK0 {P : Program} {w : World} {K : PySem.W.Frag} {mg : Str → Option Value} {base : Heap} {B : Cls0} : ErK P w K mg base B er0 := ⟨fun _ h => (nomatch h), fun h => (nomatch h), fun _ h => (nomatch h)⟩
def tabOf (fs : List FD) (cs : List (Str × D)) (es : Er) (d : FD) : Tab := ⟨d.N, d.ps.length, fnsOf d.gd fs 0, csOf cs 0, es.xs, es.is_, es.ne, d.gd, if d.lm then es.hd else none, if d.lm then fnsOf false fs 0 else []⟩
def compD (fs : List FD) (cs : List (Str × D)) (es : Er) (d : FD) : Def := ⟨d.ps.length, d.N.length, d.d.body.map (cS (tabOf fs cs es d) (cE (tabOf fs cs es d) 40) (cE (tabOf fs cs es d).lam 40) d.d.scope 20)⟩
def prOf (irs : List Def) (fs : List FD) (cs : List (Str × D)) : Pr where
  ds := fun i => irs.getD i ⟨0, 0, []⟩
  gl := fun n => (cs.map (·.2)).getD n .non
  dfl := fun i m => match fs[i]? with
    | some d => (d.d.dfl.drop (d.skip m)).map dvD
    | none => []
theorem find_some {α : Type} {p : α → Bool} {β : Type} {g : α → β} {l : List α} {b : β} (h : (l.find? p).map g = some b) : ∃ a, a ∈ l ∧ p a = true ∧ g a = b := by
  cases e : l.find? p with
  | none => rw [e] at h; cases h
  | some a =>
    rw [e] at h
    exact ⟨a, List.mem_of_find?_eq_some e, List.find?_some e, Option.some.inj h⟩
theorem fnsOf_mem {gd : Bool} : ∀ {fs : List FD} {i : Nat} {x : Str} {m f : Nat}, ((x, m), f) ∈ fnsOf gd fs i → i ≤ f ∧ ∃ d, fs[f - i]? = some d ∧ (d.gd = true → gd = true) ∧ d.d.name = x ∧ ∃ j, j ≤ d.d.dfl.length ∧ m = d.ps.length - j
  | [], _, _, _, _, h => by cases h
  | d :: r, i, x, m, f, h => by
    unfold fnsOf at h
    rcases List.mem_append.mp h with h | h
    · split at h
      · cases h
      rename_i hg
      have hg : d.gd = true → gd = true := fun z => by
        rw [z] at hg
        cases gd <;> simp_all
      obtain ⟨j, hj, e⟩ := List.mem_map.mp h
      have hj := List.mem_range.mp hj
      injection e with e1 e2
      injection e1 with e3 e4
      subst e2
      exact ⟨Nat.le_refl _, d, by rw [Nat.sub_self]; rfl, hg, e3, j, by omega, e4.symm⟩
    · obtain ⟨h1, d', h2, h3⟩ := fnsOf_mem h
      refine ⟨by omega, d', ?_, h3⟩
      have e : f - i = (f - (i + 1)) + 1 := by omega
      rw [e]
      exact h2
theorem csOf_mem : ∀ {cs : List (Str × D)} {i : Nat} {x : Str} {n : Nat}, (x, n) ∈ csOf cs i → i ≤ n ∧ ∃ d, cs[n - i]? = some (x, d)
  | [], _, _, _, h => by cases h
  | c :: r, i, x, n, h => by
    unfold csOf at h
    rcases List.mem_cons.mp h with h | h
    · injection h with h1 h2
      subst h1 h2
      exact ⟨Nat.le_refl _, c.2, by rw [Nat.sub_self]; rfl⟩
    · obtain ⟨h1, d, h2⟩ := csOf_mem h
      refine ⟨by omega, d, ?_⟩
      have e : n - i = (n - (i + 1)) + 1 := by omega
      rw [e]
      exact h2
theorem dv_reps {K : PySem.W.Frag} {B : Cls0} {F : Hp} : ∀ {l : List He.Dv}, l.all dvOk = true → Reps K B F (l.map (He.Dv.v K)) (l.map dvD)
  | [], _ => .nil
  | v :: r, h => by
    simp only [List.all_cons, Bool.and_eq_true] at h
    refine .cons ?_ (dv_reps h.2)
    cases v <;> first | (cases h.1; done) | skip
    · exact .non
    · exact .bl _
    · exact .int _
    · exact .str _
/-- the facts of a program's text -/
structure PrT (fs : List FD) (cs : List (Str × D)) (es : Er) (irs : List Def) : Prop where
  ir : irs = fs.map (compD fs cs es)
  sc : ∀ d, d ∈ fs → FnScope d.N d.ps d.d.scope
  at_ : ∀ d, d ∈ fs → d.d.at_ = (d.d.name, none)
  kw : ∀ d, d ∈ fs → d.d.kwd = []
  dv : ∀ d, d ∈ fs → d.d.dfl.all dvOk = true ∧ d.d.dfl.length ≤ d.ps.length
  bnd : ∀ d, d ∈ fs → ∀ (K : PySem.W.Frag) (fd : FuncData) (j : Nat), j ≤ d.d.dfl.length → FunD K d.d.name d.d.qual d.d.params d.d.body d.d.scope (d.d.dvs K) [] (He.fAd K d.d.at_) fd → ∃ ds, Vals ((d.d.dvs K).drop (d.d.dfl.length - j)) ds ∧ Binds K fd d.ps ds
/-- the facts of its module -/
structure PrK (B : Cls0) (fs : List FD) (cs : List (Str × D)) (K : PySem.W.Frag) (mg : Str → Option Value) : Prop where
  fn : ∀ d, d ∈ fs → ∃ fd, FunD K d.d.name d.d.qual d.d.params d.d.body d.d.scope (d.d.dvs K) (d.d.kws K) (He.fAd K d.d.at_) fd
  glo : ∀ d, d ∈ fs → mg d.d.name = some (.ref (He.ga K d.d.name))
  blt : ∀ x, x ∈ bltNames → mg x = none
  cs : ∀ c, c ∈ cs → ∃ v u, mg c.1 = some u ∧ RelV v u ∧ Rep K B (fun _ => none) v c.2
theorem prog_ok {fs : List FD} {cs : List (Str × D)} {es : Er} {irs : List Def} {P : Program} {w : World} {K : PySem.W.Frag} {mg : Str → Option Value} {base : Heap} {B : Cls0} (t : PrT fs cs es irs) (k : PrK B fs cs K mg) (ek : ErK P w K mg base B es)
    (hh : ∀ d, d ∈ fs → d.lm = true → ∀ x, es.hd = some x → HrdK K mg base B (He.codeOf K d.d.at_) d.d.qual x) :
    ∀ (n i : Nat) (d : FD), fs[i]? = some d → ∃ fd, FunD K d.d.name d.d.qual d.d.params d.d.body d.d.scope (d.d.dvs K) (d.d.kws K) (He.fAd K d.d.at_) fd ∧ FnG P w K mg base (L2.CX P w) d.gd (3 * n + 3) (He.fAd K d.d.at_) fd d.ps (spF K B d.ps.length (call (prOf irs fs cs) n i)) := by
  intro n
  induction n with
  | zero =>
    intro i d hd
    obtain ⟨fd, F⟩ := k.fn d (List.mem_of_getElem? hd)
    refine ⟨fd, F, fun vs H Q E h => h.1, fun A outer s H args us vs Q E _ hr he hb hv hs => ?_⟩
    obtain ⟨_, G, ts, r, ts', _, _, _, e, _⟩ := hs
    cases e
  | succ n ih =>
    intro i d hd
    have hm := List.mem_of_getElem? hd
    obtain ⟨fd, F⟩ := k.fn d hm
    have her : ∀ x c, (tabOf fs cs es d).x x = some c → mg x = some (.ref (B.X c)) := fun x c h => by
      obtain ⟨p, h1, h2, h3⟩ := find_some h
      have h2 : p.1 = x := of_decide_eq_true h2
      have h3 : p.2 = c := h3
      rw [← h2, ← h3]
      exact ek.er p h1
    have his : ∀ x q, (tabOf fs cs es d).i x = some q → IsN K mg B x q.1 q.2 := fun x q h => by
      obtain ⟨p, h1, h2, h3⟩ := find_some h
      have h2 : p.1 = x := of_decide_eq_true h2
      have h3 : p.2 = q := h3
      rw [← h2, ← h3]
      exact ek.is_ p h1
    have fct : ∀ (gd : Bool) (x : Str) (m f : Nat) (p : (Str × Nat) × Nat), p ∈ fnsOf gd fs 0 → p.1 = (x, m) → p.2 = f → Fct P w K mg base B (prOf irs fs cs) gd n x f m := fun gd x m f p h1 h2 h3 => by
      obtain ⟨⟨y, m'⟩, q⟩ := p
      injection h2 with h2 h2'
      have h3 : q = f := h3
      subst h2 h2' h3
      obtain ⟨_, d', h4, hg, h5, j, h6, h7⟩ := fnsOf_mem h1
      rw [Nat.sub_zero] at h4
      have hm' := List.mem_of_getElem? h4
      obtain ⟨fd', F', ok'⟩ := ih q d' h4
      have ekw : d'.d.kws K = [] := by
        show d'.d.kwd.map _ = []
        rw [t.kw d' hm']
        rfl
      obtain ⟨dv1, dv2⟩ := t.dv d' hm'
      have F2 := F'
      rw [ekw] at F2
      obtain ⟨ds, b1, b2⟩ := t.bnd d' hm' K fd' j h6 F2
      have eat : He.fAd K d'.d.at_ = He.ga K d'.d.name := by rw [t.at_ d' hm']; rfl
      refine ⟨_, _, _, fd', d'.ps, (d'.d.dvs K).drop (d'.d.dfl.length - j), ds, ok', hg, ?_, F'.kp, b2, b1, ?_, ?_⟩
      · rw [← h5, k.glo d' hm', eat]
      · have e1 : (prOf irs fs cs).dfl q m' = (d'.d.dfl.drop (d'.skip m')).map dvD := by
          show (match fs[q]? with
            | some d => (d.d.dfl.drop (d.skip m')).map dvD
            | none => []) = _
          rw [h4]
        have e2 : d'.skip m' = d'.d.dfl.length - j := by
          show d'.d.dfl.length - (d'.ps.length - m') = _
          omega
        rw [e1, e2]
        have e3 : (d'.d.dvs K).drop (d'.d.dfl.length - j) = (d'.d.dfl.drop (d'.d.dfl.length - j)).map (He.Dv.v K) := by
          show (d'.d.dfl.map _).drop _ = _
          rw [List.map_drop]
        rw [e3]
        refine dv_reps ?_
        rw [List.all_eq_true] at dv1 ⊢
        exact fun x hx => dv1 x (List.mem_of_mem_drop hx)
      · have e4 : (d'.d.dvs K).length = d'.d.dfl.length := List.length_map _
        rw [List.length_drop, e4]
        omega
    refine ⟨fd, F, def_ok (T := tabOf fs cs es d) (m1 := 40) (m2 := 20) F (t.sc d hm) ?_ rfl k.blt (fun x c h => ?_) (fun x m f h => ?_) (fun x m f h => ?_) (fun x h => ?_) her ek.ef his⟩
    · show irs.getD i ⟨0, 0, []⟩ = compD fs cs es d
      rw [t.ir, List.getD_eq_getElem?_getD, List.getElem?_map, hd]
      rfl
    · obtain ⟨p, h1, h2, h3⟩ := find_some h
      obtain ⟨y, q⟩ := p
      have h2 : y = x := of_decide_eq_true h2
      have h3 : q = c := h3
      subst h2 h3
      obtain ⟨_, dt, h4⟩ := csOf_mem h1
      rw [Nat.sub_zero] at h4
      obtain ⟨v, u, k1, k2, k3⟩ := k.cs _ (List.mem_of_getElem? h4)
      refine ⟨v, u, k1, k2, ?_⟩
      have e : (prOf irs fs cs).gl q = dt := by
        show (cs.map (·.2)).getD q .non = dt
        rw [List.getD_eq_getElem?_getD, List.getElem?_map, h4]
        rfl
      rw [e]
      exact k3
    · obtain ⟨p, h1, h2, h3⟩ := find_some h
      have h2 : p.1.1 = x ∧ p.1.2 = m := of_decide_eq_true h2
      exact fct d.gd x m f p h1 (Prod.ext h2.1 h2.2) h3
    · have e : (tabOf fs cs es d).lam.fns = if d.lm then fnsOf false fs 0 else [] := rfl
      obtain ⟨p, h1, h2, h3⟩ := find_some h
      have h2 : p.1.1 = x ∧ p.1.2 = m := of_decide_eq_true h2
      rw [e] at h1
      split at h1
      · exact fct false x m f p h1 (Prod.ext h2.1 h2.2) h3
      · cases h1
    · have e : (if d.lm then es.hd else none) = some x := h
      split at e
      · rename_i hl
        exact hh d hm hl x e
      · cases e
end Ev
end

section
set_option linter.all false
set_option maxRecDepth 100000
set_option maxHeartbeats 8000000
/-! A law's statement from what the language says of it. -/
namespace Ev
open PySem L2 PySem.Spec PyProof.Rows

/-! ### the module's constants -/
def vOf : Value → V
  | .none => .non
  | .bool b => .bl b
  | .int i _ => .int i
  | .str x _ => .str x
  | .ref a => .ref a
  | _ => .non
def all2 {α β : Type} (f : α → β → Bool) : List α → List β → Bool
  | [], [] => true
  | a :: r, b :: s => f a b && all2 f r s
  | _, _ => false
def repB (K : PySem.W.Frag) : Nat → Value → D → Bool
  | 0, _, _ => false
  | n + 1, .ref a, .tup l => (match K.lookup a with
    | some ⟨.type c, none, .seq its _, _⟩ => decide (c = "tuple") && (decide (its.size ≤ sizeLine) && all2 (repB K n) its.toList l)
    | _ => false)
  | _ + 1, .none, .non => true
  | _ + 1, .bool b, .bl c => b == c
  | _ + 1, .int i _, .int j => decide (i = j)
  | _ + 1, .str x _, .str y => decide (x = y)
  | _, _, _ => false
theorem all2_ok {K : PySem.W.Frag} {B : Cls0} {F : Hp} {f : Value → D → Bool} (hf : ∀ u d, f u d = true → RelV (vOf u) u ∧ Rep K B F (vOf u) d) : ∀ {us : List Value} {ds : List D}, all2 f us ds = true → Vals (us.map vOf) us ∧ Reps K B F (us.map vOf) ds
  | [], [], _ => ⟨.nil, .nil⟩
  | [], _ :: _, h => by cases h
  | _ :: _, [], h => by cases h
  | u :: r, d :: s, h => by
    obtain ⟨h1, h2⟩ := He.ba (show (f u d && all2 f r s) = true from h)
    obtain ⟨a, b⟩ := hf u d h1
    obtain ⟨c, e⟩ := all2_ok hf h2
    exact ⟨.cons a c, .cons b e⟩
theorem repB_ok {K : PySem.W.Frag} {B : Cls0} {F : Hp} : ∀ (n : Nat) (u : Value) (d : D), repB K n u d = true → RelV (vOf u) u ∧ Rep K B F (vOf u) d
  | 0, u, d, h => by unfold repB at h; cases h
  | n + 1, u, d, h => by
    cases u with
    | none => cases d <;> first | (unfold repB at h; cases h; done) | exact ⟨rfl, .non⟩
    | bool b =>
      cases d <;> first | (unfold repB at h; cases h; done) | skip
      rename_i c
      have e : b = c := by
        unfold repB at h
        exact eq_of_beq h
      subst e
      exact ⟨rfl, .bl b⟩
    | int i t =>
      cases d <;> first | (unfold repB at h; cases h; done) | skip
      rename_i c
      have e : i = c := by
        unfold repB at h
        exact of_decide_eq_true h
      subst e
      exact ⟨⟨t, rfl⟩, .int i⟩
    | str i t =>
      cases d <;> first | (unfold repB at h; cases h; done) | skip
      rename_i c
      have e : i = c := by
        unfold repB at h
        exact of_decide_eq_true h
      subst e
      exact ⟨⟨t, rfl⟩, .str i⟩
    | ref a =>
      cases d <;> first | (unfold repB at h; cases h; done) | skip
      rename_i l
      have h' : (match K.lookup a with
        | some ⟨.type c, none, .seq its _, _⟩ => decide (c = "tuple") && (decide (its.size ≤ sizeLine) && all2 (repB K n) its.toList l)
        | _ => false) = true := by
        unfold repB at h
        exact h
      cases q : K.lookup a with
      | none => rw [q] at h'; cases h'
      | some o =>
        obtain ⟨oc, od, dt, osl⟩ := o
        rw [q] at h'
        cases od with
        | some dd => cases oc <;> cases dt <;> cases h'
        | none =>
          cases oc with
          | type c =>
            cases dt with
            | seq its m =>
              obtain ⟨h1, h2⟩ := He.ba (show (decide (c = "tuple") && (decide (its.size ≤ sizeLine) && all2 (repB K n) its.toList l)) = true from h')
              obtain ⟨h3, h4⟩ := He.ba h2
              obtain ⟨r1, r2⟩ := all2_ok (repB_ok (F := F) (B := B) n) h4
              exact ⟨rfl, .tup (.inr ⟨_, its, m, q, congrArg Value.type (of_decide_eq_true h1), rfl, rfl, of_decide_eq_true h3, r1⟩) r2⟩
            | _ => cases h'
          | _ => cases dt <;> cases h'
    | _ => cases d <;> (unfold repB at h; cases h)
/-- the constants stand in the module -/
def exB (cs : List (Str × D)) (K : PySem.W.Frag) : Bool := cs.all fun c => match PySem.W.nsIn K mainGlobals c.1 with
  | some (some u) => repB K 9 u c.2
  | _ => false
theorem exB_ok {cs : List (Str × D)} {K : PySem.W.Frag} {h : Heap} {mg : Str → Option Value} {B : Cls0} (X : K.In h) (G : h.Ns mainGlobals mg) (e : exB cs K = true) : ∀ c, c ∈ cs → ∃ v u, mg c.1 = some u ∧ RelV v u ∧ Rep K B (fun _ => none) v c.2 := fun c hc => by
  have e1 := List.all_eq_true.mp e c hc
  cases q : PySem.W.nsIn K mainGlobals c.1 with
  | none => rw [q] at e1; cases e1
  | some o =>
    rw [q] at e1
    cases o with
    | none => cases e1
    | some u =>
      obtain ⟨h1, h2⟩ := repB_ok (F := fun _ => none) (B := B) 9 u c.2 e1
      exact ⟨vOf u, u, PySem.W.mg_of X G q, h1, h2⟩
/-- the facts wanted of the module -/
def faOf (fs : List FD) : List He.Fa := fs.map (fun d => He.Fa.glo d.d.name) ++ bltNames.map He.Fa.free
theorem prK_of {ex : PySem.W.Frag → Bool} {fs : List FD} {cs : List (Str × D)} {es : Er} {irs : List Def} {K : PySem.W.Frag} {h : Heap} {mg : Str → Option Value} {w : World} (B : Cls0) (t : PrT fs cs es irs) (X : K.In h) (G : h.Ns mainGlobals mg) (c : He.SaysX (faOf fs) (fs.map (·.d)) [] [] ex w h K) (hx : exB cs K = true) : PrK B fs cs K mg where
  fn := fun d hd => c.t.d.defs (List.mem_map.mpr ⟨d, hd, rfl⟩)
  glo := fun d hd => He.glo_ok X G (c.t.d.facts (List.mem_append_left _ (List.mem_map.mpr ⟨d, hd, rfl⟩)))
  blt := fun x hx => He.free_ok X G (c.t.d.facts (List.mem_append_right _ (List.mem_map.mpr ⟨x, hx, rfl⟩)))
  cs := exB_ok X G hx
/-- whose what is at the entry -/
def G0 (H : Hp) : Gh := fun b => match H b with | none => .non | some (.tbl _) => .tb | some _ => .frz
/-- what the law's def promises where the language says True -/
theorem law_sp {K : PySem.W.Frag} {B : Cls0} {Γ : List T → Option (Res T × List T)} {H : Hp} {a : Addr} {ns : List Int} {ts' : List T} (hS : SqL K H a (ns.map V.int)) (hT : ∀ p, p ∈ B.tb → H p.1 = some (.tbl #[])) (e : Γ [.val (.scr ns)] = some (.ok (.val (.bl true)), ts')) : spF K B 1 Γ [.ref a] H (fun v _ => v = .bl true) fun _ _ _ => False := by
  have hs : SqL K (Fz (G0 H) H) a (ns.map V.int) := by
    have keep : ∀ o, H a = some o → (∀ ps, o ≠ .tbl ps) → Fz (G0 H) H a = some o := fun o e n => by
      refine Fz.of ?_ e
      unfold G0
      rw [e]
      cases o <;> first | rfl | exact absurd rfl (n _)
    rcases hS with (q | ⟨o, q⟩) | q
    · exact .inl (.inl (keep _ q fun ps => nofun))
    · exact .inl (.inr ⟨o, keep _ q fun ps => nofun⟩)
    · exact .inr q
  refine ⟨rfl, G0 H, [.val (.scr ns)], _, ts', rfl, ⟨fun b hb => ?_, fun p hp => ⟨?_, #[], hT p hp, True.intro, fun pos cv z => ?_⟩, fun b ps hb => ?_⟩, fun j v t hv ht => ?_, e, fun G' H' v _ _ R _ => ?_⟩
  · unfold G0
    rw [hb]
  · unfold G0
    rw [hT p hp]
  · simp [codeAmong] at z
  · unfold G0
    rw [hb]
  · cases j with
    | zero =>
      have e1 := Option.some.inj hv
      have e2 := Option.some.inj ht
      subst e1 e2
      exact .val (.scr hs)
    | succ j => simp at hv
  · cases R with
    | val r =>
      cases r
      rfl
theorem funD_one {K : PySem.W.Frag} {x qual x' qual' : Str} {params params' : Arguments} {body body' : List Stmt} {scope scope' : Scope} {dvs dvs' : List V} {kws kws' : List (Str × V)} {f : Addr} {fd fd' : FuncData} (F : FunD K x qual params body scope dvs kws f fd) (F' : FunD K x' qual' params' body' scope' dvs' kws' f fd') : fd = fd' := by
  obtain ⟨_, _, _, _, _, _, _, _, _, _, _, h1, _, _, _⟩ := F.ex
  obtain ⟨_, _, _, _, _, _, _, _, _, _, _, h2, _, _, _⟩ := F'.ex
  rw [h1] at h2
  have e := Option.some.inj h2
  injection e with e1 e2 e3 e4
  injection e3
/-! ### lambdas: the tables of code objects, the def that hears -/
def tfOf (fs : List FD) : List (Str × Option Str) := (fs.filter (·.lm)).map (·.d.at_)
def tbOf (K : PySem.W.Frag) (fs : List FD) : List (Addr × Str) := (fs.filter (·.lm)).map fun d => ((He.cT K d.d.at_).2, d.d.qual ++ ".<locals>." ++ "<lambda>")
theorem tbOf_mem {K : PySem.W.Frag} {fs : List FD} {p : Addr × Str} (h : p ∈ tbOf K fs) : ∃ d, d ∈ fs ∧ d.lm = true ∧ p = ((He.cT K d.d.at_).2, d.d.qual ++ ".<locals>." ++ "<lambda>") := by
  obtain ⟨d, h1, h2⟩ := List.mem_map.mp h
  obtain ⟨h3, h4⟩ := List.mem_filter.mp h1
  exact ⟨d, h3, h4, h2.symm⟩
def scLoc (sc : Scope) (x : Str) : Bool := decide (sc.names.lookup x = some .local) && (!(x == ("__debug__" : Str)) && !(x == ("__classdict__" : Str)))
def hearS (sg : Scope) (lk ca ba er ae : Str) : Bool := decide ([lk, ca, ba, er].Nodup) && (scLoc sg lk && (scLoc sg ca && (scLoc sg ba && (scLoc sg er && (decide (sg.names.lookup ae = some .globalImplicit) && (!(ae == ("__debug__" : Str)) && !(ae == ("__classdict__" : Str))))))))
theorem hearS_ok {sg : Scope} {lk ca ba er ae : Str} (h : hearS sg lk ca ba er ae = true) : HearS sg lk ca ba er ae := by
  unfold hearS scLoc at h
  simp only [Bool.and_eq_true, decide_eq_true_eq, Bool.not_eq_true'] at h
  obtain ⟨h1, ⟨a1, a2, a3⟩, ⟨b1, b2, b3⟩, ⟨c1, c2, c3⟩, ⟨d1, d2, d3⟩, e1, e2, e3⟩ := h
  refine ⟨h1, a1, b1, c1, d1, e1, fun x hx => ?_⟩
  simp only [List.mem_cons, List.not_mem_nil, or_false] at hx
  rcases hx with rfl | rfl | rfl | rfl | rfl
  · exact ⟨a2, a3⟩
  · exact ⟨b2, b3⟩
  · exact ⟨c2, c3⟩
  · exact ⟨d2, d3⟩
  · exact ⟨e2, e3⟩
/-- the body of a def that hears -/
def hearBody : List Stmt → Option (Str × Str × Str × Str × Str)
  | [.Assign [.Tuple [.Name ca _, .Name ba _] _ _] (.Tuple [.Constant .none _ _, .Constant .none _ _] _ _) _, .Try [.Assign [.Name b2 _] (.Call (.Name lk _) [] [] _) _] [.ExceptHandler (some (.Name ae _)) (some er) [.Assign [.Name c2 _] (.Name e2 _) _] _] [] [] _, .Return (some (.Tuple [.Name c3 _, .Name b3 _] _ _)) _] =>
    if decide (b2 = ba) && (decide (b3 = ba) && (decide (c2 = ca) && (decide (c3 = ca) && decide (e2 = er)))) then some (lk, ca, ba, er, ae) else none
  | _ => none
theorem mk_hear {lk ca ba er ae : Str} {k0 k1 k2 k3 k4 : Nat} {p0 p1 p2 p3 p4 p5 p6 p7 p8 p9 p10 p11 p12 p13 p14 p15 p16 p17 p18 p19 p20 : Pos} : ∃ kk pp, [Stmt.Assign [.Tuple [.Name ca p0, .Name ba p1] k0 p2] (.Tuple [.Constant .none k1 p3, .Constant .none k2 p4] k3 p5) p6, .Try [.Assign [.Name ba p7] (.Call (.Name lk p8) [] [] p9) p10] [.ExceptHandler (some (.Name ae p11)) (some er) [.Assign [.Name ca p12] (.Name er p13) p14] p15] [] [] p16, .Return (some (.Tuple [.Name ca p17, .Name ba p18] k4 p19)) p20] = hearB lk ca ba er ae kk pp :=
  ⟨fun i => [k0, k1, k2, k3, k4].getD i k0, fun i => [p0, p1, p2, p3, p4, p5, p6, p7, p8, p9, p10, p11, p12, p13, p14, p15, p16, p17, p18, p19, p20].getD i p0, rfl⟩
theorem hearBody_ok {b : List Stmt} {lk ca ba er ae : Str} (h : hearBody b = some (lk, ca, ba, er, ae)) : ∃ kk pp, b = hearB lk ca ba er ae kk pp := by
  unfold hearBody at h
  split at h
  case h_2 => cases h
  split at h
  case isFalse => cases h
  rename_i hc
  simp only [Bool.and_eq_true, decide_eq_true_eq] at hc
  obtain ⟨e1, e2, e3, e4, e5⟩ := hc
  subst e1 e2 e3 e4 e5
  cases h
  exact mk_hear
/-- it hears, and says which class it catches -/
def hearD (x : Str) (d : FD) : Option Str := match hearBody d.d.body with
  | some (lk, ca, ba, er, ae) => if (hearS d.d.scope lk ca ba er ae && (decide (d.N = [lk, ca, ba, er]) && decide (d.ps = [lk]))) && (decide (d.d.name = x) && (decide (d.d.qual = x) && d.d.dfl.isEmpty)) then some ae else none
  | none => none
def heB (ens : List Str) (fs : List FD) (es : Er) (K : PySem.W.Frag) : Bool := match es.hd with
  | none => true
  | some x => decide ((tbOf K fs).map (·.1)).Nodup && (match fs.findSome? (hearD x) with
    | some ae => decide (PySem.W.nsIn K mainGlobals ae = some (some (.ref (He.ga K ae)))) && ens.all (fun n => decide (PySem.W.exmOne K (.ref (He.ga K n)) (.ref (He.ga K ae)) = some true))
    | none => false)
theorem findSome_mem {α β : Type} {f : α → Option β} {b : β} : ∀ {l : List α}, l.findSome? f = some b → ∃ a, a ∈ l ∧ f a = some b
  | [], h => by cases h
  | a :: r, h => by
    rw [List.findSome?_cons] at h
    cases e : f a with
    | some c =>
      rw [e] at h
      cases h
      exact ⟨a, List.mem_cons_self, e⟩
    | none =>
      rw [e] at h
      obtain ⟨a', h1, h2⟩ := findSome_mem (l := r) h
      exact ⟨a', List.mem_cons_of_mem _ h1, h2⟩
theorem nodup_fst {l : List (Addr × Str)} (h : (l.map (·.1)).Nodup) {p q : Addr × Str} (hp : p ∈ l) (hq : q ∈ l) (e : p.1 = q.1) : p = q := by
  induction l with
  | nil => cases hp
  | cons a r ih =>
    obtain ⟨n1, n2⟩ := List.nodup_cons.mp (show (a.1 :: r.map (·.1)).Nodup from h)
    rcases List.mem_cons.mp hp with rfl | hp' <;> rcases List.mem_cons.mp hq with rfl | hq'
    · rfl
    · exact absurd (List.mem_map.mpr ⟨q, hq', e.symm⟩) n1
    · exact absurd (List.mem_map.mpr ⟨p, hp', e⟩) n1
    · exact ih n2 hp' hq'
theorem hrd_of {fs : List FD} {cs : List (Str × D)} {es : Er} {irs : List Def} {K : PySem.W.Frag} {mg : Str → Option Value} {base : Heap} {B : Cls0} {ens : List Str} (t : PrT fs cs es irs) (k : PrK B fs cs K mg) (KX : K.In base) (G : base.Ns mainGlobals mg) (hX : ∀ m, ∃ n, n ∈ ens ∧ B.X m = He.ga K n) (hB : B.tb = tbOf K fs) (he : heB ens fs es K = true)
    (hT : ∀ p, p ∈ (tfOf fs).map (He.cT K) → LamX.TabB base mg p.1 p.2) : ∀ d, d ∈ fs → d.lm = true → ∀ x, es.hd = some x → HrdK K mg base B (He.codeOf K d.d.at_) d.d.qual x := fun d hd hl x hx => by
  unfold heB at he
  rw [hx] at he
  obtain ⟨nd, he⟩ := Bool.and_eq_true_iff.mp he
  have nd := of_decide_eq_true nd
  cases e : fs.findSome? (hearD x) with
  | none => rw [e] at he; cases he
  | some ae =>
    rw [e] at he
    obtain ⟨h1, h2⟩ := Bool.and_eq_true_iff.mp he
    have h1 := of_decide_eq_true h1
    obtain ⟨d0, hd0, e0⟩ := findSome_mem e
    unfold hearD at e0
    cases eb : hearBody d0.d.body with
    | none => rw [eb] at e0; cases e0
    | some q =>
      obtain ⟨lk, ca, ba, er, ae'⟩ := q
      rw [eb] at e0
      simp only at e0
      split at e0
      case isFalse => cases e0
      rename_i hc
      cases e0
      simp only [Bool.and_eq_true, decide_eq_true_eq, List.isEmpty_iff] at hc
      obtain ⟨⟨c1, c2, c3⟩, c4, c5, c6⟩ := hc
      obtain ⟨kk, pp, hb⟩ := hearBody_ok eb
      obtain ⟨fd, F⟩ := k.fn d0 hd0
      have ekw : d0.d.kws K = [] := by
        show d0.d.kwd.map _ = []
        rw [t.kw d0 hd0]
        rfl
      have edv : d0.d.dvs K = [] := by
        show d0.d.dfl.map _ = []
        rw [c6]
        rfl
      have eat : He.fAd K d0.d.at_ = He.ga K d0.d.name := by rw [t.at_ d0 hd0]; rfl
      have F2 := F
      rw [ekw] at F2
      obtain ⟨ds, b1, b2⟩ := t.bnd d0 hd0 K fd 0 (Nat.zero_le _) F2
      rw [edv, List.drop_nil] at b1
      cases b1
      have hmem : ((He.cT K d.d.at_).2, d.d.qual ++ ".<locals>." ++ "<lambda>") ∈ tbOf K fs := List.mem_map.mpr ⟨d, List.mem_filter.mpr ⟨hd, hl⟩, rfl⟩
      refine ⟨He.fAd K d0.d.at_, (He.cT K d.d.at_).2, .ref (He.ga K ae), lk, ca, ba, er, ae, d0.d.params, d0.d.scope, fd, kk, pp, ?_, F.kp, ?_, hearS_ok c1, ?_, PySem.W.mg_of KX G h1, ?_, ?_, ?_, fun p hp e => ?_, fun m => ?_⟩
      · rw [← c4, k.glo d0 hd0, eat]
      · rw [edv, ekw, hb] at F
        rw [c4, c5] at F
        exact F
      · have := t.sc d0 hd0
        rw [c2, c3] at this
        exact this
      · rw [c3] at b2
        exact b2
      · exact hT _ (List.mem_map.mpr ⟨d.d.at_, List.mem_map.mpr ⟨d, List.mem_filter.mpr ⟨hd, hl⟩, rfl⟩, rfl⟩)
      · rw [hB]
        exact hmem
      · rw [hB] at hp
        exact congrArg (·.2) (nodup_fst nd hp hmem e)
      · obtain ⟨n, hn, e⟩ := hX m
        rw [e]
        exact of_decide_eq_true (List.all_eq_true.mp h2 n hn)
theorem FnG.up {P : Program} {w : World} {K : PySem.W.Frag} {mg : Str → Option Value} {base : Heap} {CX : CXT} {gg : Bool} {k : Nat} {f : Addr} {fd : FuncData} {ps : List Str} {sp : Sp} (F : FnG P w K mg base CX gg k f fd ps sp) : FnG P w K mg base CX true k f fd ps sp :=
  ⟨F.len, fun A outer s H args us vs Q E g => F.run A outer s H args us vs Q E fun _ => g rfl⟩
theorem law_at {ex : PySem.W.Frag → Bool} {l : PySem.W.OpenLaw} {w : World} {fs : List FD} {cs : List (Str × D)} {es : Er} {irs : List Def} {K : PySem.W.Frag} {h : Heap} {mg : Str → Option Value} {fa : Addr} {n i : Nat} {d : FD} {x : Str} {ens : List Str} (B : Cls0) (t : PrT fs cs es irs) (X : K.In h) (G : h.Ns mainGlobals mg) (c : He.SaysX (faOf fs) (fs.map (·.d)) [] (tfOf fs) ex w h K) (hx : exB cs K = true)
    (hX : ∀ m, es.hd ≠ none → ∃ n, n ∈ ens ∧ B.X m = He.ga K n) (htb : B.tb = tbOf K fs) (he : heB ens fs es K = true) (hd : fs[i]? = some d) (hps : d.ps = [x]) (hmg : mg d.d.name = some (.ref fa))
    (hbA : ∀ (K : PySem.W.Frag) (fd : FuncData), FunD K d.d.name d.d.qual d.d.params d.d.body d.d.scope (d.d.dvs K) (d.d.kws K) (He.fAd K d.d.at_) fd → ∀ (s : Shared) (u : Value), BindsTo s fd ⟨[u], []⟩ [(x, u)])
    (hek : ∀ base : Heap, K.In base → base.Ns mainGlobals mg → ErK l.prog w K mg base B es)
    (hm : ∀ ns : List Int, ns.length ≤ 63 → (∀ z ∈ ns, Builtin.Int.intBits z ≤ 1048576) → ∃ ts', call (prOf irs fs cs) n i [.val (.scr ns)] = some (.ok (.val (.bl true)), ts')) : LawG l w K (L2.CX l.prog w) (3 * n + 3) 63 x mg fa h := by
  have k : PrK B fs cs K mg := ⟨fun d hd => c.t.d.defs (List.mem_map.mpr ⟨d, hd, rfl⟩), fun d hd => He.glo_ok X G (c.t.d.facts (List.mem_append_left _ (List.mem_map.mpr ⟨d, hd, rfl⟩))), fun x hx => He.free_ok X G (c.t.d.facts (List.mem_append_right _ (List.mem_map.mpr ⟨x, hx, rfl⟩))), exB_ok X G hx⟩
  have hmem := List.mem_of_getElem? hd
  obtain ⟨fd, F⟩ := k.fn d hmem
  have ef : He.fAd K d.d.at_ = fa := by
    have e1 := k.glo d hmem
    rw [hmg] at e1
    have e2 := Option.some.inj e1
    injection e2 with e3
    rw [t.at_ d hmem, e3]
    rfl
  have cm : ∀ p, p ∈ (tfOf fs).map (He.cT K) → ∃ q, q ∈ tfOf fs ∧ He.cT K q = p := fun p hp => List.mem_map.mp hp
  refine ⟨fd, (tfOf fs).map (He.cT K), spF K B 1 (call (prOf irs fs cs) n i), ⟨fun p hp => ?_, fun p hp => ?_, fun p hp => ?_⟩, hbA K fd F, fun H a ns h1 h2 hH hS => ?_, fun base kb nb hT => ?_⟩
  · obtain ⟨q, hq, rfl⟩ := cm p hp
    exact c.empty q hq
  · obtain ⟨q, hq, rfl⟩ := cm p hp
    exact c.out q hq
  · obtain ⟨q, hq, rfl⟩ := cm p hp
    exact PySem.W.codeHd_of_K X (c.hd q hq)
  · obtain ⟨ts', e⟩ := hm ns h1 h2
    refine law_sp hS (fun p hp => ?_) e
    rw [htb] at hp
    obtain ⟨d', hd', hl, rfl⟩ := tbOf_mem hp
    exact hH _ (List.mem_map.mpr ⟨d'.d.at_, List.mem_map.mpr ⟨d', List.mem_filter.mpr ⟨hd', hl⟩, rfl⟩, rfl⟩)
  · have hh : ∀ d, d ∈ fs → d.lm = true → ∀ x, es.hd = some x → HrdK K mg base B (He.codeOf K d.d.at_) d.d.qual x := fun d hd hl x hx => hrd_of t k kb nb (fun m => hX m (by rw [hx]; exact nofun)) htb he hT d hd hl x hx
    obtain ⟨fd', F', ok⟩ := prog_ok (P := l.prog) (w := w) (base := base) t k (hek base kb nb) hh n i d hd
    have e := funD_one F F'
    subst e
    rw [ef, hps] at ok
    exact ok.up
theorem cx_none {P : PySem.Program} {w : World} (H : Hp) (s : Shared) (e : Value) (s' : Shared) : L2.CX P w [] H s (fun _ _ _ => False) e s' → False := fun ⟨_, _, _, _, _, _, _, _, _, _, _, _, h⟩ => h
end Ev
end

section
set_option linter.all false
set_option maxRecDepth 100000
set_option maxHeartbeats 4000000
/-! The facts of a program's error classes, by the kernel. -/
namespace Ev
open PySem L2 PySem.Spec PyProof.Rows
def bmVE : List Value := [.type "ValueError", .type "Exception", .type "BaseException", .type "object"]
/-- the class object of an error over ValueError -/
def clB (K : PySem.W.Frag) (C : Addr) : Bool := match K.lookup C with
  | some ⟨.type t, _, .cls cd, sl⟩ => decide (t = "type") && (match cd.mro, sl.toList with
    | .ref C' :: bm, [_, _, _, _, some (.builtin n), _] => decide (C' = C) && (decide (n = "ValueError.__new__") && (!cd.hasDel && (cd.hasDict && PySem.HandSPX.refsVE bm)))
    | _, _ => false)
  | _ => false
theorem clB_ok {K : PySem.W.Frag} {C : Addr} (h : clB K C = true) : ∃ nm q N bs bm sn sub ab col dd k0 k1 k2 k3 k5, K.lookup C = some (excClassObj nm q C N bs bm true sn sub ab col dd k0 k1 k2 k3 k5 "ValueError.__new__") ∧ PySem.HandSPX.refsVE bm = true := by
  unfold clB at h
  split at h
  case h_2 => cases h
  rename_i t dd cd sl e
  obtain ⟨h1, g⟩ := Bool.and_eq_true_iff.mp h
  clear h
  have h1 := of_decide_eq_true h1
  subst h1
  split at g
  case h_2 => cases g
  rename_i C' bm k0 k1 k2 k3 n k5 em es
  obtain ⟨a1, g1⟩ := Bool.and_eq_true_iff.mp g
  obtain ⟨a2, g2⟩ := Bool.and_eq_true_iff.mp g1
  obtain ⟨a3, g3⟩ := Bool.and_eq_true_iff.mp g2
  obtain ⟨a4, a5⟩ := Bool.and_eq_true_iff.mp g3
  have a1 := of_decide_eq_true a1
  have a2 := of_decide_eq_true a2
  subst a1 a2
  obtain ⟨nm, bs, mro, ns, qn, hd, sn, sb, ab, col, del⟩ := cd
  simp only [Bool.not_eq_true'] at a3
  dsimp only at em a3 a4
  subst em a3 a4
  obtain ⟨l⟩ := sl
  simp only at es
  subst es
  exact ⟨nm, qn, ns, bs, bm, sn, sb, ab, col, dd, k0, k1, k2, k3, k5, e, a5⟩
def oxB (K : PySem.W.Frag) (C : Addr) : Bool := clB K C && (decide (PySem.W.findIn K (.ref C) "__setattr__" = some (some (.builtin "object.__setattr__"))) && (decide (PySem.W.subIn K (.ref C) (.type "BaseException") = some true) && (decide (PySem.W.typeIn K (.ref C) = some (.type "type")) && PySem.W.keepIn K (.ref C))))
theorem oxB_ok {K : PySem.W.Frag} {C : Addr} (h : oxB K C = true) : OexC K C := by
  obtain ⟨h1, h⟩ := Bool.and_eq_true_iff.mp h
  obtain ⟨h2, h⟩ := Bool.and_eq_true_iff.mp h
  obtain ⟨h3, h⟩ := Bool.and_eq_true_iff.mp h
  obtain ⟨h4, h5⟩ := Bool.and_eq_true_iff.mp h
  exact ⟨clB_ok h1, of_decide_eq_true h2, of_decide_eq_true h3, of_decide_eq_true h4, h5⟩
def askB (K : PySem.W.Frag) (D C : Addr) : Bool := oxB K C && (decide (PySem.W.ks_superIn K C D "__init__" = some (some (.builtin "ValueError.__init__"))) && (decide (PySem.W.subIn K (.ref C) (.type "ValueError") = some true) && (decide (PySem.W.mroIn K C (.ref D) = some true) && (PySem.W.excInitIn K C bmVE "ValueError.__new__" && decide (PySem.W.findIn K (.ref C) "value" = some none)))))
theorem askB_ok {K : PySem.W.Frag} {D C : Addr} (h : askB K D C = true) : AskC K D C := by
  obtain ⟨h1, h⟩ := Bool.and_eq_true_iff.mp h
  obtain ⟨h2, h⟩ := Bool.and_eq_true_iff.mp h
  obtain ⟨h3, h⟩ := Bool.and_eq_true_iff.mp h
  obtain ⟨h4, h⟩ := Bool.and_eq_true_iff.mp h
  obtain ⟨h5, h6⟩ := Bool.and_eq_true_iff.mp h
  exact ⟨oxB_ok h1, of_decide_eq_true h2, of_decide_eq_true h3, of_decide_eq_true h4, h5, of_decide_eq_true h6⟩
def isB (K : PySem.W.Frag) (C : Addr) : Bool := decide (PySem.W.findIn K (.ref C) "__getattribute__" = some (some (.builtin "BaseException.__getattribute__"))) && (decide (PySem.W.findIn K (.ref C) "__getattr__" = some none) && (decide (PySem.W.subIn K (.ref C) (.type "BaseException") = some true) && (PySem.W.hasDictIn K C && (decide (PySem.W.findIn K (.ref C) "__class__" = some (some (.builtin "object.__class__"))) &&
  (decide (PySem.W.specialIn K (.builtin "object.__class__") "__get__" = some (some (.builtin "getset_descriptor.__get__"))) && (decide (PySem.W.takesIn K (.builtin "object.__class__") = some true) && decide (PySem.W.mroIn K C (.type "object") = some true)))))))
theorem isB_ok {K : PySem.W.Frag} {C : Addr} (h : isB K C = true) : ExcC K C := by
  obtain ⟨h1, h⟩ := Bool.and_eq_true_iff.mp h
  obtain ⟨h2, h⟩ := Bool.and_eq_true_iff.mp h
  obtain ⟨h3, h⟩ := Bool.and_eq_true_iff.mp h
  obtain ⟨h4, h⟩ := Bool.and_eq_true_iff.mp h
  obtain ⟨h5, h⟩ := Bool.and_eq_true_iff.mp h
  obtain ⟨h6, h⟩ := Bool.and_eq_true_iff.mp h
  obtain ⟨h7, h8⟩ := Bool.and_eq_true_iff.mp h
  exact ⟨of_decide_eq_true h1, of_decide_eq_true h2, of_decide_eq_true h3, h4, of_decide_eq_true h5, of_decide_eq_true h6, of_decide_eq_true h7, of_decide_eq_true h8⟩
/-- all of one class -/
def xcB (K : PySem.W.Frag) (D f C : Addr) : Bool := askB K D C && (xfB K C && (isB K C && (decide (PySem.W.findIn K (.ref C) "__init__" = some (some (.ref f))) && decide (PySem.W.typeIn K (.ref f) = some (.type "function")))))
theorem xcB_ok {K : PySem.W.Frag} {D f C : Addr} (h : xcB K D f C = true) : XC K D f C := by
  obtain ⟨h1, h⟩ := Bool.and_eq_true_iff.mp h
  obtain ⟨h2, h⟩ := Bool.and_eq_true_iff.mp h
  obtain ⟨h3, h⟩ := Bool.and_eq_true_iff.mp h
  obtain ⟨h4, h5⟩ := Bool.and_eq_true_iff.mp h
  exact ⟨askB_ok h1, xfB_ok h2, isB_ok h3, of_decide_eq_true h4, of_decide_eq_true h5⟩
/-- the addresses of the error classes: the first is AskError's -/
def addrX (K : PySem.W.Frag) (ns : List Str) (c : Nat) : Addr := He.ga K (ns.getD c (ns.headD ""))
theorem xcs_ok {K : PySem.W.Frag} {D f : Addr} {ns : List Str} (h0 : ns ≠ []) (h : ns.all (fun n => xcB K D f (He.ga K n)) = true) (c : Nat) : XC K D f (addrX K ns c) := by
  refine xcB_ok ?_
  have e := List.all_eq_true.mp h
  refine e _ ?_
  by_cases hc : c < ns.length
  · rw [List.getD_eq_getElem?_getD, List.getElem?_eq_getElem hc]
    exact List.getElem_mem _
  · rw [List.getD_eq_getElem?_getD, List.getElem?_eq_none (by omega)]
    cases ns with
    | nil => exact absurd rfl h0
    | cons a r => exact List.mem_cons_self
/-- what isinstance asks of the class cv -/
def isfB (K : PySem.W.Frag) (ns : List Str) (n : Nat) (cs : List Nat) (cv : Value) : Bool := ((List.range n).all fun c => isB K (addrX K ns c) && decide (PySem.W.kitOne K (.ref (addrX K ns c)) cv = some (cs.contains c))) && ((List.range 6).all fun k => decide (PySem.W.kitOne K (.type (tyN k)) cv = some false))
theorem isfB_ok {K : PySem.W.Frag} {B : Cls0} {ns : List Str} {n : Nat} {cs : List Nat} {cv : Value} (hB : B.X = addrX K ns) (h : isfB K ns n cs cv = true) : IsF K B n cs cv := by
  obtain ⟨h1, h2⟩ := Bool.and_eq_true_iff.mp h
  refine ⟨fun c hc => ?_, fun k hk => ?_⟩
  · obtain ⟨a, b⟩ := Bool.and_eq_true_iff.mp (List.all_eq_true.mp h1 c (List.mem_range.mpr hc))
    rw [hB]
    exact ⟨isB_ok a, of_decide_eq_true b⟩
  · exact of_decide_eq_true (List.all_eq_true.mp h2 k (List.mem_range.mpr (by omega)))
def sysB (K : PySem.W.Frag) : Bool := match K.lookup sysModules with
  | some ⟨.type t, _, _, _⟩ => decide (t = "dict")
  | _ => false
theorem sysB_ok {K : PySem.W.Frag} (h : sysB K = true) : SysD K := by
  unfold sysB at h
  split at h
  · rename_i t d dt sl e
    exact ⟨_, e, congrArg Value.type (of_decide_eq_true h)⟩
  · cases h
end Ev
end

section
set_option linter.all false
set_option maxRecDepth 100000
set_option maxHeartbeats 4000000
/-! The error's __init__, as it stands in the written part. -/
namespace Ev
open PySem L2 PySem.Spec PyProof.Rows
def bodyB : FuncBody → Bool
  | .stmts [.Expr (.Call (.Attribute (.Call (.Name s1 _) [] [] _) s2 ap) [.Name s3 _] [] cp) _, .Assign [.Attribute (.Name s4 _) s5 _] (.Name s6 _) _] =>
    (decide (s1 = "super") && (decide (s2 = "__init__") && (decide (s3 = "value") && (decide (s4 = "self") && (decide (s5 = "value") && decide (s6 = "value")))))) && (ap.endLine == cp.line)
  | _ => false
theorem bodyB_ok {b : FuncBody} (h : bodyB b = true) : ∃ p0 p1 ap p2 cp p3 p4 p5 p6 p7, b = .stmts (askBody p0 p1 ap p2 cp p3 p4 p5 p6 p7) ∧ (ap.endLine == cp.line) = true := by
  unfold bodyB at h
  split at h
  case h_2 => cases h
  obtain ⟨h, hl⟩ := Bool.and_eq_true_iff.mp h
  simp only [Bool.and_eq_true, decide_eq_true_eq] at h
  obtain ⟨e1, e2, e3, e4, e5, e6⟩ := h
  subst e1 e2 e3 e4 e5 e6
  exact ⟨_, _, _, _, _, _, _, _, _, _, rfl, hl⟩
/-- the call of super().__init__, unfolded -/
theorem super_call {p0 p1 ap p2 cp : Pos} {env : PySem.Env} (hl : (ap.endLine == cp.line) = true) : eval (.Call (.Attribute (.Call (.Name "super" p0) [] [] p1) "__init__" ap) [.Name "value" p2] [] cp) env = (do
      let ov ← attributeBase (.Call (.Name "super" p0) [] [] p1) "__init__" env (eval (.Call (.Name "super" p0) [] [] p1) env)
      standAt ap.atName
      let (g, first) ← holding [ov] (getMethod ov "__init__" (L2.plainOf (.Call (.Name "super" p0) [] [] p1) env))
      callWith cp g first (backTo cp (starEach [.Name "value" p2] env)) []) := by
  rw [arm_eval_Call]
  congr 1
  funext ov
  congr 1
  funext _
  exact L2.mcall_line (by rfl) hl
def scB (sc : Scope) : Bool := (decide (sc.names.lookup ("super" : Str) = some .globalImplicit) && (decide (sc.names.lookup ("__class__" : Str) = some .free) && (decide (sc.names.lookup ("self" : Str) = some .local) && decide (sc.names.lookup ("value" : Str) = some .local)))) &&
  (sc.names.all (fun x => decide (x.2 ≠ .cell)) && (!sc.isCoroutine && (!sc.isGenerator && decide (sc.kind = .function))))
def parB (a : Arguments) : Bool := match a with
  | ⟨[], [x, y], none, [], [], none, []⟩ => decide (x.arg = "self") && decide (y.arg = "value")
  | _ => false
theorem parB_ok {fd : FuncData} {K : PySem.W.Frag} (h : parB fd.params = true) (hd0 : fd.defaults = .none) (hk0 : fd.kwdefaults = .none) : Binds K fd ["self", "value"] [] ∧ (fd.params.posonlyargs ++ fd.params.args).head?.map (·.arg) = some ("self" : Str) := by
  obtain ⟨n1, n2, pr, n4, n5, n6, n7, n8, n9, n10, n11, n12, n13, n14, n15⟩ := fd
  dsimp only at h hd0 hk0 ⊢
  subst hd0 hk0
  unfold parB at h
  split at h
  case h_2 => cases h
  rename_i x y
  obtain ⟨h1, h2⟩ := Bool.and_eq_true_iff.mp h
  obtain ⟨x1, x2, x3⟩ := x
  obtain ⟨y1, y2, y3⟩ := y
  have h1 := of_decide_eq_true h1
  have h2 := of_decide_eq_true h2
  dsimp only at h1 h2
  subst h1 h2
  exact ⟨Binds.all fun us hl => match us, hl with | [_, _], _ => rfl, rfl⟩
def celB (K : PySem.W.Frag) (D cc : Addr) : Bool := match K.lookup cc with
  | some ⟨_, _, .cell (some (.ref d)), _⟩ => decide (d = D)
  | _ => false
def filB (P : Program) (o : Option Value) : Bool := match o with
  | some (.str file _) => (P.main.file : Str) == file
  | _ => false
def codB (P : Program) (K : PySem.W.Frag) (cda : Addr) : Bool := match K.lookup cda with
  | some ⟨_, _, .fields vs, _⟩ => filB P (vs[2]?)
  | _ => false
def cloB (P : Program) (K : PySem.W.Frag) (D : Addr) (q : Str) (cl : List (Str × Addr)) (code : Value) : Bool := match cl, code with
  | [(x, cc)], .ref cda => decide (x = "__class__") && (PySem.W.codeIn K (.ref cda) q && (celB K D cc && codB P K cda))
  | _, _ => false
theorem cloB_ok {P : Program} {K : PySem.W.Frag} {D : Addr} {q : Str} {cl : List (Str × Addr)} {code : Value} (h : cloB P K D q cl code = true) : ∃ cc cda, cl = [(("__class__" : Str), cc)] ∧ code = .ref cda ∧ PySem.W.codeIn K (.ref cda) q = true ∧ celB K D cc = true ∧ codB P K cda = true := by
  unfold cloB at h
  split at h
  case h_2 => cases h
  rename_i x cc cda
  obtain ⟨c1, c⟩ := Bool.and_eq_true_iff.mp h
  obtain ⟨c2, c'⟩ := Bool.and_eq_true_iff.mp c
  obtain ⟨c3, c4⟩ := Bool.and_eq_true_iff.mp c'
  have q4 := of_decide_eq_true c1
  subst q4
  exact ⟨cc, cda, rfl, rfl, c2, c3, c4⟩
def initB (P : Program) (K : PySem.W.Frag) (D f : Addr) : Bool := (match K.lookup f with
  | some ⟨_, _, .func fd, _⟩ => (decide (fd.name = "__init__") && (parB fd.params && (bodyB fd.body && scB fd.scope))) && (decide (fd.globals = mainGlobals) && (decide (fd.builtins = builtinsNs) && ((decide (fd.defaults = .none) && decide (fd.kwdefaults = .none)) && cloB P K D fd.qualname fd.closure fd.code)))
  | _ => false) && ((PySem.W.clsIn K D).isSome && (decide (PySem.W.nsIn K mainGlobals "super" = some none) && (!(P.main.scope.names.lookup ("super" : Str)).isSome && decide (PySem.W.nsIn K cStatics "thirdparty.any" = some none))))
theorem initB_ok {P : Program} {w : World} {K : PySem.W.Frag} {mg : Str → Option Value} {base : Heap} {CX : CXT} {D f : Addr} (h : initB P K D f = true) : ∃ fd, FnOk P w K mg base CX 1 f fd ["self", "value"] (spAsk K D) ∧ Binds K fd ["self", "value"] [] := by
  obtain ⟨h, g⟩ := Bool.and_eq_true_iff.mp h
  obtain ⟨g1, g⟩ := Bool.and_eq_true_iff.mp g
  obtain ⟨g2, g⟩ := Bool.and_eq_true_iff.mp g
  obtain ⟨g3, g4⟩ := Bool.and_eq_true_iff.mp g
  split at h
  case h_2 => cases h
  rename_i oc od fd osl e
  obtain ⟨a, b⟩ := Bool.and_eq_true_iff.mp h
  obtain ⟨a1, a⟩ := Bool.and_eq_true_iff.mp a
  obtain ⟨a2, a⟩ := Bool.and_eq_true_iff.mp a
  obtain ⟨a3, a4⟩ := Bool.and_eq_true_iff.mp a
  obtain ⟨b1, b⟩ := Bool.and_eq_true_iff.mp b
  obtain ⟨b2, b⟩ := Bool.and_eq_true_iff.mp b
  obtain ⟨b4, b3⟩ := Bool.and_eq_true_iff.mp b
  obtain ⟨b5, b6⟩ := Bool.and_eq_true_iff.mp b4
  obtain ⟨bi, hd⟩ := parB_ok (K := K) a2 (of_decide_eq_true b5) (of_decide_eq_true b6)
  have q1 := of_decide_eq_true a1
  have q2 := of_decide_eq_true b1
  have q3 := of_decide_eq_true b2
  clear h a b a1 b1 b2 b4 b5 b6 a2
  refine ⟨fd, ?_, bi⟩
  obtain ⟨n1, n2, pr, n4, n5, n6, n7, n8, n9, n10, n11, n12, n13, n14, n15⟩ := fd
  dsimp only at q1 q2 q3 a3 a4 b3 hd
  subst q1 q2 q3
  obtain ⟨p0, p1, ap, p2, cp, p3, p4, p5, p6, p7, eb, hl⟩ := bodyB_ok a3
  subst eb
  obtain ⟨cc, cda, r1, r2, c2, c3, c4⟩ := cloB_ok b3
  subst r1 r2
  have cel : ∃ cl cld csl, K.lookup cc = some ⟨cl, cld, .cell (some (.ref D)), csl⟩ := by
    unfold celB at c3
    split at c3
    · rename_i u1 u2 d u3 ek
      have ed := of_decide_eq_true c3
      subst ed
      exact ⟨_, _, _, ek⟩
    · cases c3
  have cod : ∃ ccl cdd vs ccs file tf, K.lookup cda = some ⟨ccl, cdd, .fields vs, ccs⟩ ∧ vs[2]? = some (.str file tf) ∧ ((P.main.file : Str) == file) = true := by
    unfold codB at c4
    split at c4
    · rename_i u1 u2 vs u3 ek
      unfold filB at c4
      split at c4
      · rename_i file tf ef
        exact ⟨_, _, vs, _, file, tf, ek, ef, c4⟩
      · cases c4
    · cases c4
  unfold scB at a4
  simp only [Bool.and_eq_true, decide_eq_true_eq, Bool.not_eq_true', List.all_eq_true] at a4
  obtain ⟨⟨s1, s2, s3, s4⟩, s5, s6, s7, s8⟩ := a4
  exact ask_ok ⟨⟨oc, od, osl, e⟩, c2, hd, cod, cel, g1, of_decide_eq_true g2, by simpa using g3, of_decide_eq_true g4⟩ s1 s2 s3 s4 (fun L => super_call hl) (fun x hx => s5 x hx) s6 s7 s8
end Ev
end

section
set_option linter.all false
set_option maxRecDepth 100000
set_option maxHeartbeats 4000000
/-! A program's errors: all facts. -/
namespace Ev
open PySem L2 PySem.Spec PyProof.Rows
/-- the errors by name, in order; the classes asked -/
def erOf (ns : List Str) (is_ : List (Str × Nat × List Nat)) (hd : Option Str) : Er := ⟨ns.mapIdx fun i n => (n, i), is_, true, hd⟩
def gloB (K : PySem.W.Frag) (x : Str) : Bool := decide (PySem.W.nsIn K mainGlobals x = some (some (.ref (He.ga K x))))
def isnB (K : PySem.W.Frag) (ns : List Str) (p : Str × Nat × List Nat) : Bool := (gloB K p.1 && isfB K ns p.2.1 p.2.2 (.ref (He.ga K p.1))) || (decide (p.1 = "ValueError") && (decide (PySem.W.nsIn K mainGlobals p.1 = some none) && isfB K ns p.2.1 p.2.2 (.type "ValueError")))
def errB (P : Program) (ns : List Str) (is_ : List (Str × Nat × List Nat)) (K : PySem.W.Frag) : Bool := initB P K (He.ga K (ns.headD "")) (He.ma K (He.ga K (ns.headD "")) "__init__") && (ns.all (fun n => xcB K (He.ga K (ns.headD "")) (He.ma K (He.ga K (ns.headD "")) "__init__") (He.ga K n)) && (ns.all (gloB K) && (sysB K && is_.all (isnB K ns))))
theorem boot_VE : bootBuiltins "ValueError" = some (.type "ValueError") := by decide +kernel
theorem addrX_in {K : PySem.W.Frag} {ns : List Str} (h0 : ns ≠ []) (m : Nat) : ∃ n, n ∈ ns ∧ addrX K ns m = He.ga K n := by
  refine ⟨ns.getD m (ns.headD ""), ?_, rfl⟩
  by_cases hc : m < ns.length
  · rw [List.getD_eq_getElem?_getD, List.getElem?_eq_getElem hc]
    exact List.getElem_mem _
  · rw [List.getD_eq_getElem?_getD, List.getElem?_eq_none (by omega)]
    cases ns with
    | nil => exact absurd rfl h0
    | cons a r => exact List.mem_cons_self
theorem erK_of {P : Program} {w : World} {K : PySem.W.Frag} {mg : Str → Option Value} {base : Heap} {B : Cls0} {ns : List Str} {is_ : List (Str × Nat × List Nat)} (X : K.In base) (G : base.Ns mainGlobals mg) (h0 : ns ≠ []) (hB : B.X = addrX K ns) (h : errB P ns is_ K = true) {hd : Option Str} : ErK P w K mg base B (erOf ns is_ hd) := by
  obtain ⟨h1, h⟩ := Bool.and_eq_true_iff.mp h
  obtain ⟨h2, h⟩ := Bool.and_eq_true_iff.mp h
  obtain ⟨h3, h⟩ := Bool.and_eq_true_iff.mp h
  obtain ⟨h4, h5⟩ := Bool.and_eq_true_iff.mp h
  obtain ⟨fd, F, b⟩ := initB_ok (w := w) (mg := mg) (base := base) (CX := L2.CX P w) h1
  refine ⟨fun p hp => ?_, fun _ => ⟨⟨_, _, fd, fun c => ?_, F, b⟩, sysB_ok h4⟩, fun p hp => ?_⟩
  · obtain ⟨i, hi, e⟩ := List.mem_mapIdx.mp hp
    subst e
    have g := of_decide_eq_true (List.all_eq_true.mp h3 _ (List.getElem_mem hi))
    have m := PySem.W.mg_of X G g
    show mg ns[i] = some (.ref (B.X i))
    rw [hB, m]
    unfold addrX
    rw [List.getD_eq_getElem?_getD, List.getElem?_eq_getElem hi]
    rfl
  · rw [hB]
    exact xcs_ok h0 h2 c
  · have g := List.all_eq_true.mp h5 p hp
    rcases Bool.or_eq_true_iff.mp g with g | g
    · obtain ⟨g1, g2⟩ := Bool.and_eq_true_iff.mp g
      exact ⟨.ref (He.ga K p.1), _, .own _, isfB_ok hB g2, rfl, .inl (PySem.W.mg_of X G (of_decide_eq_true g1))⟩
    · obtain ⟨g1, g⟩ := Bool.and_eq_true_iff.mp g
      obtain ⟨g2, g3⟩ := Bool.and_eq_true_iff.mp g
      refine ⟨.ty "ValueError", _, .ty _, isfB_ok hB g3, rfl, .inr ⟨PySem.W.mg_none_of X G (of_decide_eq_true g2), ?_⟩⟩
      rw [of_decide_eq_true g1]
      exact boot_VE
end Ev
end

section
set_option linter.all false
set_option maxRecDepth 100000
set_option maxHeartbeats 4000000
/-! The head's hook over more addresses: what no global leads to. -/
namespace Ev
open PySem L2 PySem.Spec PyProof.Rows
/-- the addresses looked at: two more -/
def asY (g : Addr → Option Obj) (n : Nat) : List Addr := sysModules :: cStatics :: He.asD g n
abbrev frY (g : Addr → Option Obj) (n : Nat) : PySem.W.Frag := He.frT g (asY g n)
def obsY (n : Nat) (fa : List He.Fa) (fn : List He.DefD) (tf : List He.Defn) (ex : PySem.W.Frag → Bool) (g : Addr → Option Obj) : He.AlX := (He.obsT fa fn [] (frY g n), ex (frY g n) && He.tabsB g tf (frY g n))
theorem tab_of {g : Addr → Option Obj} {tf : List He.Defn} {K : PySem.W.Frag} (h : He.tabsB g tf K = true) {p : He.Defn} (hp : p ∈ tf) : PySem.W.codeHdIn K (He.cT K p).1 (He.cT K p).2 = true ∧ ∃ o, g (He.cT K p).2 = some o ∧ He.emptyTab o = true := by
  obtain ⟨a, b⟩ := Bool.and_eq_true_iff.mp (List.all_eq_true.mp h p hp)
  refine ⟨a, ?_⟩
  cases e : g (He.cT K p).2 with
  | none => rw [e] at b; cases b
  | some o => rw [e] at b; exact ⟨o, rfl, b⟩
theorem saysY_of {n : Nat} {fa : List He.Fa} {fn : List He.DefD} {tf : List He.Defn} {ex : PySem.W.Frag → Bool} {w : World} {h : Heap} (e : obsY n fa fn tf ex h.get? = He.valX fn [] w) : He.SaysX fa fn [] tf ex w h (frY h.get? n) := by
  obtain ⟨e1, e2⟩ := Bool.and_eq_true_iff.mp (show (ex (frY h.get? n) && He.tabsB h.get? tf (frY h.get? n)) = true from congrArg (fun z : He.AlX => z.2) e)
  exact ⟨congrArg (fun z : He.AlX => z.1) e, e1, fun p hp => (tab_of e2 hp).1, fun p hp => let ⟨_, o, q, z⟩ := tab_of e2 hp; He.frT_none q z, fun p hp => let ⟨_, o, q, z⟩ := tab_of e2 hp; He.emptyTab_eq z ▸ q⟩
def hookY (n : Nat) (fa : List He.Fa) (fn : List He.DefD) (tf : List He.Defn) (ex : PySem.W.Frag → Bool) : PySem.W.Hook where
  α := He.AlX
  obs := fun s => obsY n fa fn tf ex s.heap.get?
  val := fun w => He.valX fn [] w
  says := fun w h => ∃ K : PySem.W.Frag, K.In h ∧ He.SaysX fa fn [] tf ex w h K
  of := fun _ _ e => ⟨_, He.frT_in, saysY_of e⟩
  keeps := fun _ _ _ ⟨K, i, c⟩ k => ⟨K, PySem.W.Frag.In.keeps i k, ⟨c.t, c.more, c.hd, c.out, fun p hp => k _ _ (c.empty p hp)⟩⟩
theorem obsY_eq {n : Nat} {fa : List He.Fa} {fn : List He.DefD} {tf : List He.Defn} {ex : PySem.W.Frag → Bool} {g : Addr → Option Obj} {s : Shared} (h : ∀ a, g a = s.heap.get? a) : obsY n fa fn tf ex g = (hookY n fa fn tf ex).obs s := by
  cases (funext h : g = s.heap.get?)
  rfl
end Ev
end

section
set_option linter.all false
set_option maxRecDepth 100000
set_option maxHeartbeats 4000000
/-! The take of the laws. -/
namespace Ev
open PySem
def takeDef : Def := ⟨2, 5, [.ite (.cmp .gt (.sub (.v 0) (.c (.int 0))) (.c (.int 0))) [.asg (.v 4) (.bin .mod (.blt .int [(.sub (.v 0) (.c (.int 0)))]) (.v 1)),
    .setI 0 (.c (.int 0)) (.bin .fdiv (.sub (.v 0) (.c (.int 0))) (.v 1)),
    .retm 4] [],
    .setI 0 (.c (.int 2)) (.bin .add (.sub (.v 0) (.c (.int 2))) (.c (.int 1))),
    .asg (.v 2) (.sub (.lst [(.c (.int 2147483647)), (.c (.int 2147483629)), (.c (.int 2147483587)), (.c (.int 2147483579)), (.c (.int 2147483563))]) (.bin .mod (.blt .int [(.sub (.v 0) (.c (.int 2)))]) (.c (.int 5)))),
    .asg (.v 3) (.bin .mod (.blt .int [(.bin .pow (.blt .int [(.bin .add (.bin .add (.sub (.v 0) (.c (.int 1))) (.bin .mul (.bin .mul (.c (.int 98809)) (.sub (.v 0) (.c (.int 2)))) (.sub (.v 0) (.c (.int 2))))) (.c (.int 91)))]) (.c (.int 3)))]) (.v 2)),
    .asg (.v 3) (.bin .mod (.blt .int [(.bin .mul (.v 3) (.bin .add (.bin .mod (.blt .int [(.v 3)]) (.c (.int 10513))) (.bin .mul (.c (.int 187)) (.sub (.v 0) (.c (.int 2))))))]) (.c (.int 2305843009213693907))),
    .ret (.bin .mod (.blt .int [(.bin .fdiv (.v 3) (.c (.int 167)))]) (.v 1))]⟩
theorem take_big (Y : Sys) {a b c u : Int} (ha : 0 < a) (hu : 0 < u) (hd : Builtin.divisionGoesByPylong a u = false) : runDef Y takeDef [.lst [.int a, .int b, .int c], .val (.int u)] = some (.ok (.val (.int (a.fmod u))), [.lst [.int (a.fdiv u), .int b, .int c], .val (.int u)]) := by
  have hu' : u ≠ 0 := by omega
  simp [runDef, takeDef, exSs, exS, evT, ev, evPl, evPls, evArg, evD, truT, look, rd, bnd, ret, opt, xs, opS, frz, frzs, subD, L2.atI, L2.ixN, cmpD, ints2, binD, bltD, truD, asgT, setAt, finals, asgSs, asgS, tgs, ha, hu, hd, hu']
open Builtin.Int in
theorem mul_ok {x y : Int} (hx : intBits x ≤ 4000) (hy : intBits y ≤ 4000) : mulOk x y = true := by
  have h : intTooBig ((intBits x : Nat) + (intBits y : Nat) : Int) = false := by
    unfold intTooBig
    refine decide_eq_false ?_
    have e : (8000 : Int) ≤ (bitsLine : Nat) := by decide
    omega
  unfold mulOk
  rw [h]
  simp
open Builtin.Int in
theorem div_ok {x y : Int} (hx : intBits x ≤ 4500) : Builtin.divisionGoesByPylong x y = false := by
  have h : (if x == 0 then 0 else x.natAbs.log2 / 30 + 1) ≤ 151 := by
    unfold intBits at hx
    split
    · omega
    · rename_i hz
      rw [if_neg hz] at hx
      omega
  have e : Builtin.divisionGoesByPylong x y = (decide ((if y == 0 then 0 else y.natAbs.log2 / 30 + 1) > 300) && decide ((if x == 0 then 0 else x.natAbs.log2 / 30 + 1) > (if y == 0 then 0 else y.natAbs.log2 / 30 + 1) + 150)) := rfl
  rw [e]
  generalize (if x == 0 then 0 else x.natAbs.log2 / 30 + 1) = dx at h
  generalize (if y == 0 then 0 else y.natAbs.log2 / 30 + 1) = dy
  by_cases h1 : dy > 300
  · rw [decide_eq_false (show ¬ dx > dy + 150 by omega), Bool.and_false]
  · rw [decide_eq_false h1, Bool.false_and]
theorem bits_of {x : Int} {m : Nat} (h : x.natAbs < 2 ^ m) : Builtin.Int.intBits x ≤ m := PySem.intBits_le_iff.mpr h
theorem fmod_lt {a u : Int} (hu : 0 < u) : 0 ≤ a.fmod u ∧ a.fmod u < u := ⟨Int.fmod_nonneg_of_pos a hu, Int.fmod_lt_of_pos a hu⟩
theorem take_small (Y : Sys) {a b c u : Int} (ha : a ≤ 0) (hb : 0 ≤ b ∧ b < 2 ^ 62) (hc : 0 ≤ c ∧ c < 2 ^ 40) (hu : 0 < u) : ∃ r, runDef Y takeDef [.lst [.int a, .int b, .int c], .val (.int u)] = some (.ok (.val (.int r)), [.lst [.int a, .int b, .int (c + 1)], .val (.int u)]) ∧ 0 ≤ r ∧ r < u := by
  have hu' : u ≠ 0 := by omega
  have na : ¬ 0 < a := by omega
  have hk : 0 ≤ (c + 1).fmod 5 ∧ (c + 1).fmod 5 < 5 := fmod_lt (by decide)
  have bk : Builtin.Int.intBits (c + 1) ≤ 41 := bits_of (by omega)
  have bc : Builtin.Int.intBits 98809 ≤ 17 := by decide
  have b187 : Builtin.Int.intBits 187 ≤ 8 := by decide
  have b1 := PySem.intBits_mul_le bc bk
  have b2 := PySem.intBits_mul_le b1 bk
  have bb : Builtin.Int.intBits b ≤ 62 := bits_of (by omega)
  have b3 := PySem.intBits_add_le bb b2
  have b91 : Builtin.Int.intBits 91 ≤ 7 := by decide
  have b4 := PySem.intBits_add_le b3 b91
  have m1 : mulOk 98809 (c + 1) = true := mul_ok (by omega) (by omega)
  have m2 : mulOk (98809 * (c + 1)) (c + 1) = true := mul_ok (by omega) (by omega)
  have m3 : mulOk 187 (c + 1) = true := mul_ok (by omega) (by omega)
  have hpow : (Builtin.Int.intBits (b + 98809 * (c + 1) * (c + 1) + 91) : Int) * 3 ≤ 134217728 := by
    have e : max (max 62 (17 + 41 + 41) + 1) 7 + 1 = 101 := by decide
    rw [e] at b4
    omega
  generalize hx : b + 98809 * (c + 1) * (c + 1) + 91 = x at hpow
  have b5 := PySem.intBits_mul_le b187 bk
  have key : ∀ p : Int, 0 < p → p < 2 ^ 31 → mulOk ((x ^ 3).fmod p) (((x ^ 3).fmod p).fmod 10513 + 187 * (c + 1)) = true := fun p h1 h2 => by
    have q := fmod_lt (a := x ^ 3) h1
    have q2 := fmod_lt (a := (x ^ 3).fmod p) (u := 10513) (by decide)
    refine mul_ok (Nat.le_trans (bits_of (m := 31) (by omega)) (by decide)) ?_
    have w := PySem.intBits_add_le (bits_of (x := ((x ^ 3).fmod p).fmod 10513) (m := 31) (by omega)) b5
    have e : max 31 (8 + 41) + 1 = 50 := by decide
    rw [e] at w
    omega
  have fin : ∀ p : Int, 0 < p → p < 2 ^ 31 → Builtin.divisionGoesByPylong (((x ^ 3).fmod p * (((x ^ 3).fmod p).fmod 10513 + 187 * (c + 1))).fmod 2305843009213693907) 167 = false := fun p h1 h2 => by
    have q := fmod_lt (a := (x ^ 3).fmod p * (((x ^ 3).fmod p).fmod 10513 + 187 * (c + 1))) (u := 2305843009213693907) (by decide)
    exact div_ok (Nat.le_trans (bits_of (m := 62) (by omega)) (by decide))
  have cs : (c + 1).fmod 5 = 0 ∨ (c + 1).fmod 5 = 1 ∨ (c + 1).fmod 5 = 2 ∨ (c + 1).fmod 5 = 3 ∨ (c + 1).fmod 5 = 4 := by omega
  have go : ∀ (p : Int), 0 < p → p < 2 ^ 31 → subD (.lst [.int 2147483647, .int 2147483629, .int 2147483587, .int 2147483579, .int 2147483563]) (.int ((c + 1).fmod 5)) = some (.int p) → ∃ r, runDef Y takeDef [.lst [.int a, .int b, .int c], .val (.int u)] = some (.ok (.val (.int r)), [.lst [.int a, .int b, .int (c + 1)], .val (.int u)]) ∧ 0 ≤ r ∧ r < u := fun p h1 h2 hs => by
    have hp : p ≠ 0 := by omega
    refine ⟨((((x ^ 3).fmod p * (((x ^ 3).fmod p).fmod 10513 + 187 * (c + 1))).fmod 2305843009213693907).fdiv 167).fmod u, ?_, fmod_lt hu⟩
    have k1 := key p h1 h2
    have k2 := fin p h1 h2
    have s1 : subD (.lst [.int a, .int b, .int c]) (.int 0) = some (.int a) := rfl
    have s2 : subD (.lst [.int a, .int b, .int c]) (.int 2) = some (.int c) := rfl
    have s3 : subD (.lst [.int a, .int b, .int (c + 1)]) (.int 2) = some (.int (c + 1)) := rfl
    have s4 : subD (.lst [.int a, .int b, .int (c + 1)]) (.int 1) = some (.int b) := rfl
    have l5 : (5 : Nat) ≤ LL := by decide
    simp [runDef, takeDef, exSs, exS, evT, ev, evDs, evPl, evPls, evArg, evD, truT, look, rd, bnd, ret, opt, xs, opS, frz, frzs, s1, s2, s3, s4, hs, cmpD, ints2, binD, bltD, truD, asgT, setAt, L2.ixN, finals, asgSs, asgS, tgs, na, hu', hp, m1, m2, m3, hx, hpow, k1, k2, l5]
  rcases cs with e | e | e | e | e
  · exact go 2147483647 (by decide) (by decide) (by rw [e]; rfl)
  · exact go 2147483629 (by decide) (by decide) (by rw [e]; rfl)
  · exact go 2147483587 (by decide) (by decide) (by rw [e]; rfl)
  · exact go 2147483579 (by decide) (by decide) (by rw [e]; rfl)
  · exact go 2147483563 (by decide) (by decide) (by rw [e]; rfl)
/-- the take, whatever the pot -/
theorem take_ok (Y : Sys) {a b c u : Int} (ha : 0 ≤ a ∧ Builtin.Int.intBits a ≤ 1000) (hb : 0 ≤ b ∧ b < 2 ^ 62) (hc : 0 ≤ c ∧ c < 2 ^ 40) (hu : 0 < u) : ∃ r a' c', runDef Y takeDef [.lst [.int a, .int b, .int c], .val (.int u)] = some (.ok (.val (.int r)), [.lst [.int a', .int b, .int c'], .val (.int u)]) ∧ (0 ≤ r ∧ r < u) ∧ (0 ≤ a' ∧ Builtin.Int.intBits a' ≤ 1000) ∧ 0 ≤ c' ∧ c' ≤ c + 1 := by
  by_cases h : 0 < a
  · have hd : Builtin.divisionGoesByPylong a u = false := div_ok (by omega)
    exact ⟨a.fmod u, a.fdiv u, c, take_big Y h hu hd, fmod_lt hu, ⟨Int.fdiv_nonneg ha.1 (by omega), PySem.intBits_fdiv_le ha.2⟩, hc.1, by omega⟩
  · obtain ⟨r, e, q⟩ := take_small Y (a := a) (c := c) (by omega) hb hc hu
    exact ⟨r, a, c + 1, e, q, ha, by omega, by omega⟩
end Ev
end

section
set_option linter.all false
set_option maxRecDepth 100000
set_option maxHeartbeats 4000000
/-! The pot of the laws. -/
namespace Ev
open PySem
def potDef : Def := ⟨2, 5, [.asg (.v 2) (.ite (.cmp .lt (.v 1) (.blt .len [(.v 0)])) (.sub (.v 0) (.v 1)) (.bin .add (.bin .mul (.c (.int 263)) (.v 1)) (.c (.int 109)))),
    .asg (.v 3) (.bin .mul (.bin .mod (.blt .int [(.blt .abs [(.v 2)])]) (.bin .pow (.bin .pow (.c (.int 10)) (.c (.int 60))) (.c (.int 5)))) (.blt .int [(.cmp .ge (.blt .abs [(.v 2)]) (.bin .pow (.c (.int 10)) (.c (.int 18))))])),
    .asg (.v 4) (.bin .mod (.blt .int [(.v 2)]) (.c (.int 2305843009213693951))),
    .ret (.lst [(.v 3), (.bin .mod (.blt .int [(.bin .add (.bin .add (.bin .mul (.v 4) (.c (.int 74357))) (.bin .mul (.bin .mul (.c (.int 7793)) (.v 1)) (.v 1))) (.c (.int 181)))]) (.c (.int 2305843009213693921))), (.c (.int 0))])]⟩
theorem pw1 : binD .pow (.int 10) (.int 60) = some (.val (.int (10 ^ 60))) := by rfl
theorem pw2 : binD .pow (.int (10 ^ 60)) (.int 5) = some (.val (.int (10 ^ 300))) := by rfl
theorem pw3 : binD .pow (.int 10) (.int 18) = some (.val (.int (10 ^ 18))) := by rfl
theorem pot_cell (Y : Sys) {ns : List Int} {k : Nat} : ∃ x : Int, ev Y (.ite (.cmp .lt (.v 1) (.blt .len [(.v 0)])) (.sub (.v 0) (.v 1)) (.bin .add (.bin .mul (.c (.int 263)) (.v 1)) (.c (.int 109)))) [some (.val (.scr ns)), some (.val (.int k)), none, none, none] = some (.ok (.val (.int x)), [some (.val (.scr ns)), some (.val (.int k)), none, none, none]) ∨ ¬ k < 1000 := by
  by_cases hk : k < 1000
  case neg => exact ⟨0, .inr hk⟩
  have m1 : mulOk 263 k = true := mul_ok (by decide) (Nat.le_trans (bits_of (m := 10) (by omega)) (by decide))
  by_cases h : k < ns.length
  · refine ⟨ns[k], .inl ?_⟩
    have hi : L2.atI ns (k : Int) = some ns[k] := by
      unfold L2.atI L2.ixN
      rw [if_pos (by omega), if_pos (by omega)]
      simp [h]
    simp [ev, evT, evPl, evPls, evD, truT, look, rd, bnd, ret, opt, frz, subD, cmpD, ints2, bltD, truD, h, hi]
  · refine ⟨263 * k + 109, .inl ?_⟩
    have h' : ¬ (k : Int) < ns.length := by omega
    simp [ev, evT, evPl, evPls, evD, truT, look, rd, bnd, ret, opt, frz, subD, cmpD, ints2, bltD, truD, binD, h, m1]
theorem abs_nn (x : Int) : 0 ≤ (if x < 0 then -x else x) := by split <;> omega
/-- the pot -/
theorem pot_ok (Y : Sys) {ns : List Int} {k : Nat} (hk : k < 1000) : ∃ a b, runDef Y potDef [.val (.scr ns), .val (.int k)] = some (.ok (.lst [.int a, .int b, .int 0]), [.val (.scr ns), .val (.int k)]) ∧ (0 ≤ a ∧ Builtin.Int.intBits a ≤ 1000) ∧ 0 ≤ b ∧ b < 2 ^ 62 := by
  obtain ⟨x, hx | hx⟩ := pot_cell Y (ns := ns) (k := k)
  case inr => exact absurd hk hx
  have pn : (10 ^ 300 : Int) ≠ 0 := by decide
  have pp : (0 : Int) < 10 ^ 300 := by decide
  generalize hM : (10 ^ 300 : Int) = M at pn pp
  have bM : Builtin.Int.intBits M ≤ 1000 := by rw [← hM]; decide +kernel
  have pw2' : binD .pow (.int (10 ^ 60)) (.int 5) = some (.val (.int M)) := by rw [← hM]; exact pw2
  generalize hN : (10 ^ 18 : Int) = N
  have pw3' : binD .pow (.int 10) (.int 18) = some (.val (.int N)) := by rw [← hN]; exact pw3
  generalize hL : (10 ^ 60 : Int) = L at pw2'
  have pw1' : binD .pow (.int 10) (.int 60) = some (.val (.int L)) := by rw [← hL]; exact pw1
  generalize hA : (if x < 0 then -x else x) = A
  have q := fmod_lt (a := A) pp
  have bq : Builtin.Int.intBits (A.fmod M) ≤ 1000 := PySem.intBits_le_iff.mpr (Nat.lt_of_le_of_lt (show (A.fmod M).natAbs ≤ M.natAbs by omega) (PySem.intBits_le_iff.mp bM))
  have q2 := fmod_lt (a := x) (u := 2305843009213693951) (by decide)
  generalize hs : x.fmod 2305843009213693951 = s at q2
  have m1 : mulOk s 74357 = true := mul_ok (Nat.le_trans (bits_of (m := 62) (by omega)) (by decide)) (by decide)
  have m2 : mulOk 7793 k = true := mul_ok (by decide) (Nat.le_trans (bits_of (m := 10) (by omega)) (by decide))
  have m3 : mulOk (7793 * (k : Int)) k = true := mul_ok (Nat.le_trans (bits_of (m := 30) (by omega)) (by decide)) (Nat.le_trans (bits_of (m := 10) (by omega)) (by decide))
  have go : ∀ w : Int, w = 0 ∨ w = 1 → (decide (N ≤ A) = true ↔ w = 1) → ∃ a b, runDef Y potDef [.val (.scr ns), .val (.int k)] = some (.ok (.lst [.int a, .int b, .int 0]), [.val (.scr ns), .val (.int k)]) ∧ (0 ≤ a ∧ Builtin.Int.intBits a ≤ 1000) ∧ 0 ≤ b ∧ b < 2 ^ 62 := fun w hw hd => by
    have m4 : mulOk (A.fmod M) w = true := mul_ok (by omega) (by rcases hw with e | e <;> rw [e] <;> decide)
    have ew : (if N ≤ A then (1 : Int) else 0) = w := by
      rcases hw with e | e
      · rw [if_neg, e]
        intro z
        have := hd.mp (decide_eq_true z)
        omega
      · rw [if_pos, e]
        exact of_decide_eq_true (hd.mpr e)
    refine ⟨A.fmod M * w, (s * 74357 + 7793 * k * k + 181).fmod 2305843009213693921, ?_, ⟨?_, ?_⟩, ?_⟩
    · unfold runDef
      have l3 : 3 ≤ LL := by decide
      rw [if_pos (by rfl)]
      have e0 : exS Y (.asg (.v 2) (.ite (.cmp .lt (.v 1) (.blt .len [(.v 0)])) (.sub (.v 0) (.v 1)) (.bin .add (.bin .mul (.c (.int 263)) (.v 1)) (.c (.int 109))))) [some (.val (.scr ns)), some (.val (.int k)), none, none, none] = some (.next, [some (.val (.scr ns)), some (.val (.int k)), some (.val (.int x)), none, none]) := by
        unfold exS
        rw [hx]
        rfl
      have e1 : exS Y (.asg (.v 3) (.bin .mul (.bin .mod (.blt .int [(.blt .abs [(.v 2)])]) (.bin .pow (.bin .pow (.c (.int 10)) (.c (.int 60))) (.c (.int 5)))) (.blt .int [(.cmp .ge (.blt .abs [(.v 2)]) (.bin .pow (.c (.int 10)) (.c (.int 18))))]))) [some (.val (.scr ns)), some (.val (.int k)), some (.val (.int x)), none, none] = some (.next, [some (.val (.scr ns)), some (.val (.int k)), some (.val (.int x)), some (.val (.int (A.fmod M * w))), none]) := by
        have a1 : binD .mod (.int A) (.int M) = some (.val (.int (A.fmod M))) := by simp [binD, pn]
        have a2 : binD .mul (.int (A.fmod M)) (.int w) = some (.val (.int (A.fmod M * w))) := by simp [binD, m4]
        have a3 : bltD .int [.bl (decide (N ≤ A))] = some (.val (.int w)) := by
          rw [← ew]
          simp [bltD]
        have a4 : bltD .abs [.int x] = some (.val (.int A)) := by rw [← hA]; rfl
        have a5 : ∀ z, bltD .int [.int z] = some (.val (.int z)) := fun _ => rfl
        have a6 : cmpD .ge (.int A) (.int N) = some (decide (N ≤ A)) := rfl
        simp [exS, ev, evPl, evPls, evD, look, rd, bnd, ret, opt, xs, opS, frz, asgT, a1, a2, a3, a4, a5, a6, pw1', pw2', pw3']
      have e2 : exS Y (.asg (.v 4) (.bin .mod (.blt .int [(.v 2)]) (.c (.int 2305843009213693951)))) [some (.val (.scr ns)), some (.val (.int k)), some (.val (.int x)), some (.val (.int (A.fmod M * w))), none] = some (.next, [some (.val (.scr ns)), some (.val (.int k)), some (.val (.int x)), some (.val (.int (A.fmod M * w))), some (.val (.int s))]) := by
        simp [exS, ev, evPl, evPls, evD, look, rd, bnd, ret, opt, xs, opS, frz, asgT, binD, bltD, hs]
      have e3 : exS Y (.ret (.lst [(.v 3), (.bin .mod (.blt .int [(.bin .add (.bin .add (.bin .mul (.v 4) (.c (.int 74357))) (.bin .mul (.bin .mul (.c (.int 7793)) (.v 1)) (.v 1))) (.c (.int 181)))]) (.c (.int 2305843009213693921))), (.c (.int 0))])) [some (.val (.scr ns)), some (.val (.int k)), some (.val (.int x)), some (.val (.int (A.fmod M * w))), some (.val (.int s))] = some (.ret (.lst [.int (A.fmod M * w), .int ((s * 74357 + 7793 * k * k + 181).fmod 2305843009213693921), .int 0]), [some (.val (.scr ns)), some (.val (.int k)), some (.val (.int x)), some (.val (.int (A.fmod M * w))), some (.val (.int s))]) := by
        simp [exS, ev, evDs, evPl, evPls, evD, look, rd, bnd, ret, opt, xs, opS, frz, binD, bltD, m1, m2, m3, l3]
      have es : exSs Y potDef.body ([T.val (.scr ns), .val (.int k)].map some ++ List.replicate (potDef.nn - potDef.np) none) = some (.ret (.lst [.int (A.fmod M * w), .int ((s * 74357 + 7793 * k * k + 181).fmod 2305843009213693921), .int 0]), [some (.val (.scr ns)), some (.val (.int k)), some (.val (.int x)), some (.val (.int (A.fmod M * w))), some (.val (.int s))]) := by
        show exSs Y potDef.body [some (.val (.scr ns)), some (.val (.int k)), none, none, none] = _
        simp only [potDef, exSs, e0, e1, e2, e3]
      rw [es]
      rfl
    · rcases hw with e | e <;> rw [e] <;> omega
    · rcases hw with e | e <;> rw [e]
      · rw [Int.mul_zero]; decide
      · rw [Int.mul_one]; exact bq
    · have := fmod_lt (a := s * 74357 + 7793 * k * k + 181) (u := 2305843009213693921) (by decide)
      omega
  by_cases h : N ≤ A
  · exact go 1 (.inr rfl) ⟨fun _ => rfl, fun _ => decide_eq_true h⟩
  · exact go 0 (.inl rfl) ⟨fun z => absurd (of_decide_eq_true z) h, fun z => absurd z (by decide)⟩
end Ev
end

section
set_option linter.all false
set_option maxRecDepth 100000
set_option maxHeartbeats 4000000
/-! Tools for the language: loops, sizes. -/
namespace Ev
open PySem
/-! ### sizes -/
def Bd (k : Nat) (x : Int) : Prop := x.natAbs < 2 ^ k
theorem Bd.mono {k m : Nat} {x : Int} (h : Bd k x) (l : k ≤ m) : Bd m x := Nat.lt_of_lt_of_le h (Nat.pow_le_pow_right (by decide) l)
theorem Bd.neg {k : Nat} {x : Int} (h : Bd k x) : Bd k (-x) := by unfold Bd at *; rw [Int.natAbs_neg]; exact h
theorem Bd.mul {k m : Nat} {x y : Int} (h : Bd k x) (h' : Bd m y) : Bd (k + m) (x * y) := by
  unfold Bd at *
  rw [Int.natAbs_mul, Nat.pow_add]
  exact Nat.mul_lt_mul'' h h'
theorem Bd.add {k : Nat} {x y : Int} (h : Bd k x) (h' : Bd k y) : Bd (k + 1) (x + y) := by
  unfold Bd at *
  rw [Nat.pow_succ]
  have := Int.natAbs_add_le x y
  omega
theorem Bd.sub {k : Nat} {x y : Int} (h : Bd k x) (h' : Bd k y) : Bd (k + 1) (x - y) := by
  have := h.add h'.neg
  rw [← Int.sub_eq_add_neg] at this
  exact this
theorem Bd.mulOk {x y : Int} (h : Bd 4000 x) (h' : Bd 4000 y) : mulOk x y = true := mul_ok (bits_of h) (bits_of h')
theorem Bd.divOk {x y : Int} (h : Bd 4500 x) : Builtin.divisionGoesByPylong x y = false := div_ok (bits_of h)
theorem Bd.fdiv {k : Nat} {x y : Int} (h : Bd k x) : Bd k (x.fdiv y) := PySem.intBits_le_iff.mp (PySem.intBits_fdiv_le (PySem.intBits_le_iff.mpr h))
theorem bd_of {k : Nat} {x : Int} (h0 : 0 ≤ x) (h : x < 2 ^ k) : Bd k x := by
  unfold Bd
  have e : ((2 ^ k : Nat) : Int) = 2 ^ k := by simp
  omega
/-! ### while -/
theorem while_mono {c : Env → Out Bool} {b : Env → SOut} : ∀ {n m : Nat} {ρ : Env} {r : Fl × Env}, whileLoop c b n ρ = some r → n ≤ m → whileLoop c b m ρ = some r
  | 0, _, _, _, h, _ => by cases h
  | n + 1, 0, _, _, _, l => absurd l (Nat.not_succ_le_zero _)
  | n + 1, m + 1, ρ, r, h, l => by
    have l' := Nat.le_of_succ_le_succ l
    unfold whileLoop at h ⊢
    cases e : c ρ with
    | none => rw [e] at h; cases h
    | some q =>
      obtain ⟨k, ρ1⟩ := q
      rw [e] at h
      cases k with
      | err _ _ => exact h
      | ok k =>
        cases k with
        | false => exact h
        | true =>
          simp only [xs] at h ⊢
          cases e2 : b ρ1 with
          | none => rw [e2] at h; cases h
          | some q2 =>
            obtain ⟨f, ρ2⟩ := q2
            rw [e2] at h
            cases f with
            | next => exact while_mono (n := n) h l'
            | cont => exact while_mono (n := n) h l'
            | brk => exact h
            | ret t => exact h
            | err _ _ => exact h
theorem while_done {c : Env → Out Bool} {b : Env → SOut} {n : Nat} {ρ : Env} (h : c ρ = some (.ok false, ρ)) : whileLoop c b (n + 1) ρ = some (.next, ρ) := by
  unfold whileLoop
  rw [h]
  rfl
theorem while_step {c : Env → Out Bool} {b : Env → SOut} {n : Nat} {ρ ρ1 : Env} (h : c ρ = some (.ok true, ρ)) (h1 : b ρ = some (.next, ρ1)) : whileLoop c b (n + 1) ρ = whileLoop c b n ρ1 := by
  conv => lhs; unfold whileLoop
  rw [h]
  simp only [xs]
  rw [h1]
theorem gcd_loop {c : Env → Out Bool} {bd : Env → SOut} (st : Nat → Nat → Env) (hc : ∀ a b, c (st a b) = some (.ok (decide (0 < b)), st a b)) (hb : ∀ a b, 0 < b → bd (st a b) = some (.next, st b (a % b))) :
    ∀ (k a b : Nat), b ≤ a → a * b < 2 ^ k → whileLoop c bd (k + 1) (st a b) = some (.next, st (Nat.gcd a b) 0)
  | k, a, 0, _, _ => by
    rw [Nat.gcd_zero_right]
    exact while_done (hc a 0)
  | 0, a, b + 1, h, l => by
    have : 1 ≤ a * (b + 1) := Nat.mul_pos (by omega) (by omega)
    omega
  | k + 1, a, b + 1, h, l => by
    rw [while_step (hc a (b + 1)) (hb a (b + 1) (Nat.succ_pos b))]
    have hm : a % (b + 1) < b + 1 := Nat.mod_lt _ (Nat.succ_pos b)
    have e : (b + 1) * (a / (b + 1)) + a % (b + 1) = a := Nat.div_add_mod a (b + 1)
    have q1 : 1 ≤ a / (b + 1) := Nat.div_pos h (Nat.succ_pos b)
    have q2 : (b + 1) * 1 ≤ (b + 1) * (a / (b + 1)) := Nat.mul_le_mul_left _ q1
    have q3 : 2 * (a % (b + 1)) ≤ a := by omega
    have q4 : (b + 1) * (2 * (a % (b + 1))) ≤ (b + 1) * a := Nat.mul_le_mul_left _ q3
    have l2 : (b + 1) * (a % (b + 1)) < 2 ^ k := by
      have e1 : (b + 1) * (2 * (a % (b + 1))) = 2 * ((b + 1) * (a % (b + 1))) := by rw [Nat.mul_left_comm]
      have e2 : (b + 1) * a = a * (b + 1) := Nat.mul_comm _ _
      have e3 : 2 ^ (k + 1) = 2 * 2 ^ k := by rw [Nat.pow_succ, Nat.mul_comm]
      omega
    rw [gcd_loop st hc hb k (b + 1) (a % (b + 1)) (Nat.le_of_lt hm) l2]
    rw [Nat.gcd_comm a (b + 1), Nat.gcd_rec (b + 1) a, Nat.gcd_comm]
theorem gcd_loop2 {c : Env → Out Bool} {bd : Env → SOut} (st : Nat → Nat → Env) (hc : ∀ a b, c (st a b) = some (.ok (decide (0 < b)), st a b)) (hb : ∀ a b, 0 < b → bd (st a b) = some (.next, st b (a % b)))
    {a b k : Nat} (l : a * b < 2 ^ k) {n : Nat} (hn : k + 2 ≤ n) : whileLoop c bd n (st a b) = some (.next, st (Nat.gcd a b) 0) := by
  by_cases h : b ≤ a
  · exact while_mono (gcd_loop st hc hb k a b h l) (by omega)
  · have h2 : a < b := by omega
    refine while_mono (n := k + 1 + 1) ?_ hn
    rw [while_step (by rw [hc a b, decide_eq_true (by omega)]) (hb a b (by omega)), Nat.mod_eq_of_lt h2, gcd_loop st hc hb k b a (by omega) (by rw [Nat.mul_comm]; exact l), Nat.gcd_comm]
/-! ### comprehensions, for -/
/-- P: turn, what is made so far, slots -/
theorem lc_rule {step : D → Env → Out (Option D)} (P : Nat → List D → Env → Prop) : ∀ (l : List D) (i : Nat) (acc : List D) (ρ : Env), P i acc ρ →
    (∀ j d acc ρ, l[j]? = some d → P (i + j) acc ρ → ∃ o ρ', step d ρ = some (.ok o, ρ') ∧ P (i + j + 1) (acc ++ o.toList) ρ') →
    ∃ ds ρ', lcLoop step l ρ = some (.ok ds, ρ') ∧ P (i + l.length) (acc ++ ds) ρ'
  | [], i, acc, ρ, h, _ => ⟨[], ρ, rfl, by simpa using h⟩
  | d :: r, i, acc, ρ, h, s => by
    obtain ⟨o, ρ1, e1, h1⟩ := s 0 d acc ρ rfl h
    obtain ⟨ds, ρ2, e2, h2⟩ := lc_rule P r (i + 1) _ ρ1 h1 fun j d acc ρ q p => by
      have e : i + 1 + j = i + (j + 1) := by omega
      rw [e] at p ⊢
      exact s (j + 1) d acc ρ q p
    refine ⟨o.toList ++ ds, ρ2, ?_, ?_⟩
    · unfold lcLoop
      rw [e1]
      simp only [bnd]
      rw [e2]
      cases o <;> rfl
    · have e : i + (d :: r).length = i + 1 + r.length := by rw [List.length_cons]; omega
      rw [e, ← List.append_assoc]
      exact h2
/-- a comprehension without effect -/
theorem lc_map {step : D → Env → Out (Option D)} {ρ : Env} (f : D → Option D) : ∀ (l : List D), (∀ d, d ∈ l → step d ρ = some (.ok (f d), ρ)) → lcLoop step l ρ = some (.ok (l.filterMap f), ρ)
  | [], _ => rfl
  | d :: r, h => by
    unfold lcLoop
    rw [h d List.mem_cons_self]
    simp only [bnd]
    rw [lc_map f r fun d hd => h d (List.mem_cons_of_mem _ hd)]
    simp only [ret]
    cases e : f d with
    | none => rw [List.filterMap_cons_none e]
    | some x => rw [List.filterMap_cons_some e]
/-- P: turn, slots; R: what leaves -/
theorem for_rule {step : D → Env → SOut} (P : Nat → Env → Prop) (R : Fl → Env → Prop) : ∀ (l : List D) (i : Nat) (ρ : Env), P i ρ →
    (∀ j d ρ, l[j]? = some d → P (i + j) ρ → ∃ f ρ', step d ρ = some (f, ρ') ∧ match f with
      | .next => P (i + j + 1) ρ'
      | .cont => P (i + j + 1) ρ'
      | .brk => R .next ρ'
      | f => R f ρ') → (∀ ρ, P (i + l.length) ρ → R .next ρ) → ∃ f ρ', forLoop step l ρ = some (f, ρ') ∧ R f ρ'
  | [], i, ρ, h, _, d => ⟨.next, ρ, rfl, d ρ (by simpa using h)⟩
  | d :: r, i, ρ, h, s, dn => by
    obtain ⟨f, ρ1, e1, h1⟩ := s 0 d ρ rfl h
    have go : P (i + 1) ρ1 → ∃ f ρ', forLoop step r ρ1 = some (f, ρ') ∧ R f ρ' := fun h1 =>
      for_rule P R r (i + 1) ρ1 h1 (fun j d ρ q p => by
        have e : i + 1 + j = i + (j + 1) := by omega
        rw [e] at p ⊢
        exact s (j + 1) d ρ q p) fun ρ p => dn ρ (by
        have e : i + (d :: r).length = i + 1 + r.length := by rw [List.length_cons]; omega
        rw [e]
        exact p)
    unfold forLoop
    rw [e1]
    cases f with
    | next => exact go h1
    | cont => exact go h1
    | brk => exact ⟨_, _, rfl, h1⟩
    | ret t => exact ⟨_, _, rfl, h1⟩
    | err _ _ => exact ⟨_, _, rfl, h1⟩
/-- a for whose turns only go on, its state a function's fold -/
theorem for_fold {α : Type} {step : D → Env → SOut} (st : α → Env) (f : α → D → α) : ∀ (l : List D) (a : α), (∀ d a, d ∈ l → step d (st a) = some (.next, st (f a d))) → forLoop step l (st a) = some (.next, st (l.foldl f a))
  | [], _, _ => rfl
  | d :: r, a, h => by
    unfold forLoop
    rw [h d a List.mem_cons_self]
    simp only []
    exact for_fold st f r _ fun d a hd => h d a (List.mem_cons_of_mem _ hd)
theorem pairs_eq : ∀ (l : List D) (k : Nat), pairs l k = l.mapIdx fun i d => .tup [.int (k + i : Nat), d]
  | [], _ => rfl
  | d :: r, k => by
    unfold pairs
    rw [pairs_eq r (k + 1), List.mapIdx_cons]
    congr 1
    congr 1
    funext i d
    have e : k + 1 + i = k + (i + 1) := by omega
    rw [e]
theorem intsD_map : ∀ l : List Int, intsD (l.map .int) = some l
  | [] => rfl
  | i :: r => by
    show (intsD (r.map .int)).map (i :: ·) = _
    rw [intsD_map r]
    rfl
theorem blsD_map : ∀ l : List Bool, blsD (l.map .bl) = some l
  | [] => rfl
  | i :: r => by
    show (blsD (r.map .bl)).map (i :: ·) = _
    rw [blsD_map r]
    rfl
end Ev
end

section
set_option linter.all false
set_option maxRecDepth 100000
set_option maxHeartbeats 4000000
/-! The language, step by step: equations whose rests are closed terms. -/
namespace Ev
open PySem
variable {α β : Type} {Y : Sys} {ρ : Env}
@[simp] theorem k_bnd {a : α} {k : α → Env → Out β} : bnd (some (.ok a, ρ)) k = k a ρ := by rfl
@[simp] theorem k_bndE {c : Nat} {d : D} {k : α → Env → Out β} : bnd (some (.err c d, ρ)) k = some (.err c d, ρ) := by rfl
@[simp] theorem k_ret {a : α} : ret a ρ = some (.ok a, ρ) := by rfl
@[simp] theorem k_opt {a : α} {k : α → Out β} : opt (some a) k = k a := by rfl
@[simp] theorem k_opS {a : α} {k : α → SOut} : opS (some a) k = k a := by rfl
@[simp] theorem k_xs {a : α} {k : α → Env → SOut} : xs (some (.ok a, ρ)) k = k a ρ := by rfl
@[simp] theorem k_xsE {c : Nat} {d : D} {k : α → Env → SOut} : xs (some (.err c d, ρ)) k = some (.err c d, ρ) := by rfl
@[simp] theorem k_look {i : Nat} : look ρ i = (ρ[i]?).join := by
  unfold look
  cases ρ[i]? with
  | none => rfl
  | some o => cases o <;> rfl
@[simp] theorem k_frzV {d : D} : frz (.val d) = d := by unfold frz; rfl
@[simp] theorem k_frzL {l : List D} : frz (.lst l) = .lst l := by unfold frz; rfl
@[simp] theorem k_frzK {ks : List Key} {l : List T} : frz (.dic ks l) = .dic ks (frzs l) := by unfold frz; rfl
@[simp] theorem k_frzI {c : Nat} {l : List T} : frz (.ins c l) = .ins c (frzs l) := by unfold frz; rfl
@[simp] theorem k_frz0 : frzs [] = [] := by unfold frzs; rfl
@[simp] theorem k_frz1 {t : T} {r : List T} : frzs (t :: r) = frz t :: frzs r := by conv => lhs; unfold frzs
theorem k_LL' : 1000000 = LL := rfl
@[simp] theorem k_LL : LL = 1000000 := k_LL'.symm
/-! a name read -/
def vK (i : Nat) (ρ : Env) : Option T → Out T
  | none => none
  | some (.val d) => some (.ok (.val d), ρ)
  | some t => some (.ok (.val (frz t)), ρ.set i (some (.val (frz t))))
@[simp] theorem k_v {i : Nat} : ev Y (.v i) ρ = vK i ρ ((ρ[i]?).join) := by
  rw [← k_look]
  unfold ev vK
  cases look ρ i with
  | none => rfl
  | some t => cases t <;> rfl
@[simp] theorem k_vV {i : Nat} {d : D} : vK i ρ (some (.val d)) = some (.ok (.val d), ρ) := by rfl
@[simp] theorem k_vL {i : Nat} {l : List D} : vK i ρ (some (.lst l)) = some (.ok (.val (.lst l)), ρ.set i (some (.val (.lst l)))) := by
  show some (Res.ok (T.val (frz (.lst l))), ρ.set i (some (T.val (frz (.lst l))))) = _
  rw [k_frzL]
@[simp] theorem k_vK {i : Nat} {ks : List Key} {l : List T} : vK i ρ (some (.dic ks l)) = some (.ok (.val (.dic ks (frzs l))), ρ.set i (some (.val (.dic ks (frzs l))))) := by
  show some (Res.ok (T.val (frz (.dic ks l))), ρ.set i (some (T.val (frz (.dic ks l))))) = _
  rw [k_frzK]
@[simp] theorem k_vI {i : Nat} {c : Nat} {l : List T} : vK i ρ (some (.ins c l)) = some (.ok (.val (.ins c (frzs l))), ρ.set i (some (.val (.ins c (frzs l))))) := by
  show some (Res.ok (T.val (frz (.ins c l))), ρ.set i (some (T.val (frz (.ins c l))))) = _
  rw [k_frzI]
@[simp] theorem k_c {d : D} : ev Y (.c d) ρ = some (.ok (.val d), ρ) := by unfold ev; rfl
@[simp] theorem k_g {n : Nat} : ev Y (.g n) ρ = some (.ok (.val (Y.gl n)), ρ) := by unfold ev; rfl
def dK (t : T) (ρ : Env) : Out D := some (.ok (frz t), ρ)
@[simp] theorem k_dK {t : T} : dK t ρ = some (.ok (frz t), ρ) := by rfl
@[simp] theorem k_D {m : Out T} : evD m = bnd m dK := by rfl
/-! places -/
def plK (i : Nat) (ρ : Env) : Option T → Out Pl
  | none => none
  | some (.val d) => some (.ok (.tmp d), ρ)
  | some _ => some (.ok (.sl i), ρ)
@[simp] theorem k_plV {i : Nat} {d : D} : plK i ρ (some (.val d)) = some (.ok (.tmp d), ρ) := by rfl
@[simp] theorem k_plL {i : Nat} {l : List D} : plK i ρ (some (.lst l)) = some (.ok (.sl i), ρ) := by rfl
@[simp] theorem k_plK {i : Nat} {ks : List Key} {l : List T} : plK i ρ (some (.dic ks l)) = some (.ok (.sl i), ρ) := by rfl
@[simp] theorem k_plI {i c : Nat} {l : List T} : plK i ρ (some (.ins c l)) = some (.ok (.sl i), ρ) := by rfl
@[simp] theorem k_pl_v {i : Nat} {f : Env → Out T} : evPl (.v i) f ρ = plK i ρ ((ρ[i]?).join) := by
  have e : evPl (.v i) f ρ = (match look ρ i with | none => none | some (.val d) => ret (.tmp d) ρ | some _ => ret (.sl i) ρ) := rfl
  rw [e, ← k_look]
  cases look ρ i with
  | none => rfl
  | some t => cases t <;> rfl
def tmK (t : T) (ρ : Env) : Out Pl := some (.ok (.tmp (frz t)), ρ)
@[simp] theorem k_tmK {t : T} : tmK t ρ = some (.ok (.tmp (frz t)), ρ) := by rfl
def noV : E → Bool
  | .v _ => false
  | _ => true
@[simp] theorem kp_c {f : Env → Out T} {d} : evPl (.c d) f ρ = bnd (f ρ) tmK := by rfl
@[simp] theorem kp_g {f : Env → Out T} {d} : evPl (.g d) f ρ = bnd (f ρ) tmK := by rfl
@[simp] theorem kp_bin {f : Env → Out T} {o a b} : evPl (.bin o a b) f ρ = bnd (f ρ) tmK := by rfl
@[simp] theorem kp_neg {f : Env → Out T} {a} : evPl (.neg a) f ρ = bnd (f ρ) tmK := by rfl
@[simp] theorem kp_cmp {f : Env → Out T} {o a b} : evPl (.cmp o a b) f ρ = bnd (f ρ) tmK := by rfl
@[simp] theorem kp_chn {f : Env → Out T} {o o' a b c} : evPl (.chn o o' a b c) f ρ = bnd (f ρ) tmK := by rfl
@[simp] theorem kp_and {f : Env → Out T} {a b} : evPl (.and a b) f ρ = bnd (f ρ) tmK := by rfl
@[simp] theorem kp_or {f : Env → Out T} {a b} : evPl (.or a b) f ρ = bnd (f ρ) tmK := by rfl
@[simp] theorem kp_not {f : Env → Out T} {a} : evPl (.not a) f ρ = bnd (f ρ) tmK := by rfl
@[simp] theorem kp_ite {f : Env → Out T} {a b c} : evPl (.ite a b c) f ρ = bnd (f ρ) tmK := by rfl
@[simp] theorem kp_tup {f : Env → Out T} {a} : evPl (.tup a) f ρ = bnd (f ρ) tmK := by rfl
@[simp] theorem kp_lst {f : Env → Out T} {a} : evPl (.lst a) f ρ = bnd (f ρ) tmK := by rfl
@[simp] theorem kp_sub {f : Env → Out T} {a b} : evPl (.sub a b) f ρ = bnd (f ρ) tmK := by rfl
@[simp] theorem kp_slc {f : Env → Out T} {a b c} : evPl (.slc a b c) f ρ = bnd (f ρ) tmK := by rfl
@[simp] theorem kp_call {f : Env → Out T} {a b} : evPl (.call a b) f ρ = bnd (f ρ) tmK := by rfl
@[simp] theorem kp_call1 {f : Env → Out T} {a b} : evPl (.call1 a b) f ρ = bnd (f ρ) tmK := by rfl
@[simp] theorem kp_blt {f : Env → Out T} {a b} : evPl (.blt a b) f ρ = bnd (f ρ) tmK := by rfl
@[simp] theorem kp_mth {f : Env → Out T} {m a b} : evPl (.mth m a b) f ρ = bnd (f ρ) tmK := by rfl
@[simp] theorem kp_exn {f : Env → Out T} {c a} : evPl (.exn c a) f ρ = bnd (f ρ) tmK := by rfl
@[simp] theorem kp_un {f : Env → Out T} {o a} : evPl (.un o a) f ρ = bnd (f ρ) tmK := by rfl
@[simp] theorem kp_lc {f : Env → Out T} {a b c d e} : evPl (.lc a b c d e) f ρ = bnd (f ρ) tmK := by rfl
@[simp] theorem kp_lran {f : Env → Out T} {a} : evPl (.lran a) f ρ = bnd (f ρ) tmK := by rfl
@[simp] theorem k_rdT {d : D} : rd ρ (.tmp d) = some d := by rfl
@[simp] theorem k_rdS {i : Nat} : rd ρ (.sl i) = ((ρ[i]?).join).map frz := by
  show (look ρ i).map frz = _
  rw [k_look]
/-! arguments -/
def arK (i : Nat) (ρ : Env) : Option T → Out Arg
  | none => none
  | some (.val d) => some (.ok (.vl d), ρ)
  | some _ => some (.ok (.ln i), ρ)
@[simp] theorem k_arV {i : Nat} {d : D} : arK i ρ (some (.val d)) = some (.ok (.vl d), ρ) := by rfl
@[simp] theorem k_arL {i : Nat} {l : List D} : arK i ρ (some (.lst l)) = some (.ok (.ln i), ρ) := by rfl
@[simp] theorem k_arK {i : Nat} {ks : List Key} {l : List T} : arK i ρ (some (.dic ks l)) = some (.ok (.ln i), ρ) := by rfl
@[simp] theorem k_arI {i c : Nat} {l : List T} : arK i ρ (some (.ins c l)) = some (.ok (.ln i), ρ) := by rfl
@[simp] theorem k_ar_v {i : Nat} {f : Env → Out T} : evArg (.v i) f ρ = arK i ρ ((ρ[i]?).join) := by
  have e : evArg (.v i) f ρ = (match look ρ i with | none => none | some (.val d) => ret (.vl d) ρ | some _ => ret (.ln i) ρ) := rfl
  rw [e, ← k_look]
  cases look ρ i with
  | none => rfl
  | some t => cases t <;> rfl
def vlK (t : T) (ρ : Env) : Out Arg := some (.ok (.vl (frz t)), ρ)
@[simp] theorem k_vlK {t : T} : vlK t ρ = some (.ok (.vl (frz t)), ρ) := by rfl
@[simp] theorem ka_c {f : Env → Out T} {d} : evArg (.c d) f ρ = bnd (f ρ) vlK := by rfl
@[simp] theorem ka_g {f : Env → Out T} {d} : evArg (.g d) f ρ = bnd (f ρ) vlK := by rfl
@[simp] theorem ka_bin {f : Env → Out T} {o a b} : evArg (.bin o a b) f ρ = bnd (f ρ) vlK := by rfl
@[simp] theorem ka_neg {f : Env → Out T} {a} : evArg (.neg a) f ρ = bnd (f ρ) vlK := by rfl
@[simp] theorem ka_cmp {f : Env → Out T} {o a b} : evArg (.cmp o a b) f ρ = bnd (f ρ) vlK := by rfl
@[simp] theorem ka_chn {f : Env → Out T} {o o' a b c} : evArg (.chn o o' a b c) f ρ = bnd (f ρ) vlK := by rfl
@[simp] theorem ka_and {f : Env → Out T} {a b} : evArg (.and a b) f ρ = bnd (f ρ) vlK := by rfl
@[simp] theorem ka_or {f : Env → Out T} {a b} : evArg (.or a b) f ρ = bnd (f ρ) vlK := by rfl
@[simp] theorem ka_not {f : Env → Out T} {a} : evArg (.not a) f ρ = bnd (f ρ) vlK := by rfl
@[simp] theorem ka_ite {f : Env → Out T} {a b c} : evArg (.ite a b c) f ρ = bnd (f ρ) vlK := by rfl
@[simp] theorem ka_tup {f : Env → Out T} {a} : evArg (.tup a) f ρ = bnd (f ρ) vlK := by rfl
@[simp] theorem ka_lst {f : Env → Out T} {a} : evArg (.lst a) f ρ = bnd (f ρ) vlK := by rfl
@[simp] theorem ka_sub {f : Env → Out T} {a b} : evArg (.sub a b) f ρ = bnd (f ρ) vlK := by rfl
@[simp] theorem ka_slc {f : Env → Out T} {a b c} : evArg (.slc a b c) f ρ = bnd (f ρ) vlK := by rfl
@[simp] theorem ka_call {f : Env → Out T} {a b} : evArg (.call a b) f ρ = bnd (f ρ) vlK := by rfl
@[simp] theorem ka_call1 {f : Env → Out T} {a b} : evArg (.call1 a b) f ρ = bnd (f ρ) vlK := by rfl
@[simp] theorem ka_blt {f : Env → Out T} {a b} : evArg (.blt a b) f ρ = bnd (f ρ) vlK := by rfl
@[simp] theorem ka_mth {f : Env → Out T} {m a b} : evArg (.mth m a b) f ρ = bnd (f ρ) vlK := by rfl
@[simp] theorem ka_exn {f : Env → Out T} {c a} : evArg (.exn c a) f ρ = bnd (f ρ) vlK := by rfl
@[simp] theorem ka_un {f : Env → Out T} {o a} : evArg (.un o a) f ρ = bnd (f ρ) vlK := by rfl
@[simp] theorem ka_lc {f : Env → Out T} {a b c d e} : evArg (.lc a b c d e) f ρ = bnd (f ρ) vlK := by rfl
@[simp] theorem ka_lran {f : Env → Out T} {a} : evArg (.lran a) f ρ = bnd (f ρ) vlK := by rfl
@[simp] theorem n_c {d} : noV (.c d) = true := by rfl
@[simp] theorem n_g {d} : noV (.g d) = true := by rfl
@[simp] theorem n_bin {o a b} : noV (.bin o a b) = true := by rfl
@[simp] theorem n_neg {a} : noV (.neg a) = true := by rfl
@[simp] theorem n_cmp {o a b} : noV (.cmp o a b) = true := by rfl
@[simp] theorem n_chn {o o' a b c} : noV (.chn o o' a b c) = true := by rfl
@[simp] theorem n_and {a b} : noV (.and a b) = true := by rfl
@[simp] theorem n_or {a b} : noV (.or a b) = true := by rfl
@[simp] theorem n_not {a} : noV (.not a) = true := by rfl
@[simp] theorem n_ite {a b c} : noV (.ite a b c) = true := by rfl
@[simp] theorem n_tup {a} : noV (.tup a) = true := by rfl
@[simp] theorem n_lst {a} : noV (.lst a) = true := by rfl
@[simp] theorem n_sub {a b} : noV (.sub a b) = true := by rfl
@[simp] theorem n_slc {a b c} : noV (.slc a b c) = true := by rfl
@[simp] theorem n_call {a b} : noV (.call a b) = true := by rfl
@[simp] theorem n_call1 {a b} : noV (.call1 a b) = true := by rfl
@[simp] theorem n_blt {a b} : noV (.blt a b) = true := by rfl
@[simp] theorem n_mth {m a b} : noV (.mth m a b) = true := by rfl
@[simp] theorem n_exn {c a} : noV (.exn c a) = true := by rfl
@[simp] theorem n_un {o a} : noV (.un o a) = true := by rfl
@[simp] theorem n_lc {a b c d e} : noV (.lc a b c d e) = true := by rfl
@[simp] theorem n_lran {a} : noV (.lran a) = true := by rfl
/-! operators -/
def opK (ρ : Env) : Option T → Out T
  | some t => some (.ok t, ρ)
  | none => none
@[simp] theorem k_op {t : T} : opK ρ (some t) = some (.ok t, ρ) := by rfl
def oplK (ρ : Env) : Option D → Option D → (D → D → Option T) → Out T
  | some x, some y, f => opK ρ (f x y)
  | _, _, _ => none
@[simp] theorem k_opl {x y : D} {f : D → D → Option T} : oplK ρ (some x) (some y) f = opK ρ (f x y) := by rfl
def bi2 (f : D → D → Option T) (p q : Pl) (ρ : Env) : Out T := oplK ρ (rd ρ p) (rd ρ q) f
@[simp] theorem k_bi2 {f : D → D → Option T} {p q : Pl} : bi2 f p q ρ = oplK ρ (rd ρ p) (rd ρ q) f := by rfl
def bi1 (f : D → D → Option T) (m : Env → Out Pl) (p : Pl) (ρ : Env) : Out T := bnd (m ρ) (bi2 f p)
@[simp] theorem k_bi1 {f : D → D → Option T} {m : Env → Out Pl} {p : Pl} : bi1 f m p ρ = bnd (m ρ) (bi2 f p) := by rfl
@[simp] theorem k_bin {o : BinO} {a b : E} : ev Y (.bin o a b) ρ = bnd (evPl a (ev Y a) ρ) (bi1 (binD o) (evPl b (ev Y b))) := by
  conv => lhs; unfold ev
  congr 1
  funext p ρ
  unfold bi1
  congr 1
  funext q ρ
  unfold bi2
  cases rd ρ p <;> cases rd ρ q <;> try rfl
  rename_i x y
  show opt (binD o x y) _ = opK ρ (binD o x y)
  cases binD o x y <;> rfl
def cmT (o : CmpO) (x y : D) : Option T := (cmpD o x y).map fun t => T.val (.bl t)
@[simp] theorem k_cmT {o : CmpO} {x y : D} : cmT o x y = (cmpD o x y).map fun t => T.val (.bl t) := by rfl
@[simp] theorem k_cmp {o : CmpO} {a b : E} : ev Y (.cmp o a b) ρ = bnd (evPl a (ev Y a) ρ) (bi1 (cmT o) (evPl b (ev Y b))) := by
  conv => lhs; unfold ev
  congr 1
  funext p ρ
  unfold bi1
  congr 1
  funext q ρ
  unfold bi2
  cases rd ρ p <;> cases rd ρ q <;> try rfl
  rename_i x y
  show opt ((cmpD o x y).map _) _ = opK ρ (cmT o x y)
  unfold cmT
  cases cmpD o x y <;> rfl
def ngK (d : D) (ρ : Env) : Out T := match d with | .int i => ret (.val (.int (-i))) ρ | _ => none
@[simp] theorem k_ng {i : Int} : ngK (.int i) ρ = some (.ok (.val (.int (-i))), ρ) := by rfl
@[simp] theorem k_neg {a : E} : ev Y (.neg a) ρ = bnd (evD (ev Y a ρ)) ngK := by
  conv => lhs; unfold ev
  all_goals rfl
def ch4 (ρ : Env) : Option Bool → Out T
  | some t => some (.ok (.val (.bl t)), ρ)
  | none => none
@[simp] theorem k_ch4 {t : Bool} : ch4 ρ (some t) = some (.ok (.val (.bl t)), ρ) := by rfl
def ch3 (o : CmpO) (y z : D) (ρ : Env) : Out T := ch4 ρ (cmpD o y z)
@[simp] theorem k_ch3 {o : CmpO} {y z : D} : ch3 o y z ρ = ch4 ρ (cmpD o y z) := by rfl
def ch2 (o' : CmpO) (m : Env → Out T) (y : D) (ρ : Env) : Option Bool → Out T
  | some false => some (.ok (.val (.bl false)), ρ)
  | some true => bnd (evD (m ρ)) (ch3 o' y)
  | none => none
@[simp] theorem k_ch2f {o' : CmpO} {m : Env → Out T} {y : D} : ch2 o' m y ρ (some false) = some (.ok (.val (.bl false)), ρ) := by rfl
@[simp] theorem k_ch2t {o' : CmpO} {m : Env → Out T} {y : D} : ch2 o' m y ρ (some true) = bnd (evD (m ρ)) (ch3 o' y) := by rfl
def ch1 (o o' : CmpO) (m : Env → Out T) (x y : D) (ρ : Env) : Out T := ch2 o' m y ρ (cmpD o x y)
@[simp] theorem k_ch1 {o o' : CmpO} {m : Env → Out T} {x y : D} : ch1 o o' m x y ρ = ch2 o' m y ρ (cmpD o x y) := by rfl
def ch0 (o o' : CmpO) (b m : Env → Out T) (x : D) (ρ : Env) : Out T := bnd (evD (b ρ)) (ch1 o o' m x)
@[simp] theorem k_ch0 {o o' : CmpO} {b m : Env → Out T} {x : D} : ch0 o o' b m x ρ = bnd (evD (b ρ)) (ch1 o o' m x) := by rfl
@[simp] theorem k_chn {o o' : CmpO} {a b c : E} : ev Y (.chn o o' a b c) ρ = bnd (evD (ev Y a ρ)) (ch0 o o' (ev Y b) (ev Y c)) := by
  conv => lhs; unfold ev
  congr 1
  funext x ρ
  unfold ch0
  congr 1
  funext y ρ
  unfold ch1
  cases cmpD o x y with
  | none => rfl
  | some t =>
    cases t with
    | false => rfl
    | true =>
      show bnd (evD (ev Y c ρ)) _ = bnd (evD (ev Y c ρ)) _
      congr 1
      funext z ρ
      unfold ch3
      cases cmpD o' y z <;> rfl
def anK (m : Env → Out T) (d : D) (ρ : Env) : Out T := match d with
  | .bl true => m ρ
  | .bl false => some (.ok (.val (.bl false)), ρ)
  | _ => none
@[simp] theorem k_anT {m : Env → Out T} : anK m (.bl true) ρ = m ρ := by rfl
@[simp] theorem k_anF {m : Env → Out T} : anK m (.bl false) ρ = some (.ok (.val (.bl false)), ρ) := by rfl
@[simp] theorem k_and {a b : E} : ev Y (.and a b) ρ = bnd (evD (ev Y a ρ)) (anK (ev Y b)) := by
  conv => lhs; unfold ev
  all_goals rfl
def orK (m : Env → Out T) (d : D) (ρ : Env) : Out T := match d with
  | .bl true => some (.ok (.val (.bl true)), ρ)
  | .bl false => m ρ
  | _ => none
@[simp] theorem k_orT {m : Env → Out T} : orK m (.bl true) ρ = some (.ok (.val (.bl true)), ρ) := by rfl
@[simp] theorem k_orF {m : Env → Out T} : orK m (.bl false) ρ = m ρ := by rfl
@[simp] theorem k_or {a b : E} : ev Y (.or a b) ρ = bnd (evD (ev Y a ρ)) (orK (ev Y b)) := by
  conv => lhs; unfold ev
  all_goals rfl
def ntK (d : D) (ρ : Env) : Out T := match d with
  | .bl b => some (.ok (.val (.bl (!b))), ρ)
  | _ => none
@[simp] theorem k_nt {b : Bool} : ntK (.bl b) ρ = some (.ok (.val (.bl (!b))), ρ) := by rfl
@[simp] theorem k_not {a : E} : ev Y (.not a) ρ = bnd (evD (ev Y a ρ)) ntK := by
  conv => lhs; unfold ev
  all_goals rfl
def itK {γ : Type} (f g : Env → γ) (b : Bool) (ρ : Env) : γ := match b with | true => f ρ | false => g ρ
@[simp] theorem k_itT {γ : Type} {f g : Env → γ} : itK f g true ρ = f ρ := by rfl
@[simp] theorem k_itF {γ : Type} {f g : Env → γ} : itK f g false ρ = g ρ := by rfl
@[simp] theorem k_ite {c a b : E} : ev Y (.ite c a b) ρ = bnd (evT Y c ρ) (itK (ev Y a) (ev Y b)) := by
  conv => lhs; unfold ev
  congr 1
  all_goals
    funext k ρ
    cases k <;> rfl
def tpK (ds : List D) (ρ : Env) : Out T := if ds.length ≤ LL then some (.ok (.val (.tup ds)), ρ) else none
theorem tpK_ok {ds : List D} (h : ds.length ≤ LL) : tpK ds ρ = some (.ok (.val (.tup ds)), ρ) := if_pos h
@[simp] theorem k_tp0 : tpK [] ρ = some (.ok (.val (.tup [])), ρ) := by rfl
@[simp] theorem k_tp1 {a : D} : tpK [a] ρ = some (.ok (.val (.tup [a])), ρ) := by rfl
@[simp] theorem k_tp2 {a b : D} : tpK [a, b] ρ = some (.ok (.val (.tup [a, b])), ρ) := by rfl
@[simp] theorem k_tp3 {a b c : D} : tpK [a, b, c] ρ = some (.ok (.val (.tup [a, b, c])), ρ) := by rfl
@[simp] theorem k_tp {a b c d : D} {r : List D} : tpK (a :: b :: c :: d :: r) ρ = if r.length ≤ 999996 then some (.ok (.val (.tup (a :: b :: c :: d :: r))), ρ) else none := by
  have e : (a :: b :: c :: d :: r).length ≤ LL ↔ r.length ≤ 999996 := by simp
  unfold tpK
  by_cases h : r.length ≤ 999996
  · rw [if_pos h, if_pos (e.mpr h)]
  · rw [if_neg h, if_neg fun z => h (e.mp z)]
def lsK (ds : List D) (ρ : Env) : Out T := if ds.length ≤ LL then some (.ok (.lst ds), ρ) else none
theorem lsK_ok {ds : List D} (h : ds.length ≤ LL) : lsK ds ρ = some (.ok (.lst ds), ρ) := if_pos h
@[simp] theorem k_ls0 : lsK [] ρ = some (.ok (.lst []), ρ) := by rfl
@[simp] theorem k_ls1 {a : D} : lsK [a] ρ = some (.ok (.lst [a]), ρ) := by rfl
@[simp] theorem k_ls2 {a b : D} : lsK [a, b] ρ = some (.ok (.lst [a, b]), ρ) := by rfl
@[simp] theorem k_ls3 {a b c : D} : lsK [a, b, c] ρ = some (.ok (.lst [a, b, c]), ρ) := by rfl
@[simp] theorem k_ls {a b c d : D} {r : List D} : lsK (a :: b :: c :: d :: r) ρ = if r.length ≤ 999996 then some (.ok (.lst (a :: b :: c :: d :: r)), ρ) else none := by
  have e : (a :: b :: c :: d :: r).length ≤ LL ↔ r.length ≤ 999996 := by simp
  unfold lsK
  by_cases h : r.length ≤ 999996
  · rw [if_pos h, if_pos (e.mpr h)]
  · rw [if_neg h, if_neg fun z => h (e.mp z)]
@[simp] theorem k_tup {l : List E} : ev Y (.tup l) ρ = bnd (evDs Y l ρ) tpK := by
  conv => lhs; unfold ev
  all_goals rfl
@[simp] theorem k_lst {l : List E} : ev Y (.lst l) ρ = bnd (evDs Y l ρ) lsK := by
  conv => lhs; unfold ev
  all_goals rfl
def cnK {γ : Type} (d : γ) (ds : List γ) (ρ : Env) : Out (List γ) := some (.ok (d :: ds), ρ)
@[simp] theorem k_cn {γ : Type} {d : γ} {ds : List γ} : cnK d ds ρ = some (.ok (d :: ds), ρ) := by rfl
def cnsK {γ : Type} (m : Env → Out (List γ)) (d : γ) (ρ : Env) : Out (List γ) := bnd (m ρ) (cnK d)
@[simp] theorem k_cns {γ : Type} {m : Env → Out (List γ)} {d : γ} : cnsK m d ρ = bnd (m ρ) (cnK d) := by rfl
@[simp] theorem k_Ds0 : evDs Y [] ρ = some (.ok [], ρ) := by unfold evDs; rfl
@[simp] theorem k_Ds {e : E} {r : List E} : evDs Y (e :: r) ρ = bnd (evD (ev Y e ρ)) (cnsK (evDs Y r)) := by
  conv => lhs; unfold evDs
  all_goals rfl
@[simp] theorem k_As0 : evAs Y [] ρ = some (.ok [], ρ) := by unfold evAs; rfl
@[simp] theorem k_As {e : E} {r : List E} : evAs Y (e :: r) ρ = bnd (evArg e (ev Y e) ρ) (cnsK (evAs Y r)) := by
  conv => lhs; unfold evAs
  all_goals rfl
@[simp] theorem k_Pls0 : evPls Y [] ρ = some (.ok [], ρ) := by unfold evPls; rfl
@[simp] theorem k_Pls {e : E} {r : List E} : evPls Y (e :: r) ρ = bnd (evPl e (ev Y e) ρ) (cnsK (evPls Y r)) := by
  conv => lhs; unfold evPls
  all_goals rfl
def su3 (ρ : Env) : Option D → Out T
  | some d => some (.ok (.val d), ρ)
  | none => none
@[simp] theorem k_su3 {d : D} : su3 ρ (some d) = some (.ok (.val d), ρ) := by rfl
def su2 (ρ : Env) (k : D) : Option D → Out T
  | some x => su3 ρ (subD x k)
  | none => none
@[simp] theorem k_su2 {k x : D} : su2 ρ k (some x) = su3 ρ (subD x k) := by rfl
def su1 (p : Pl) (k : D) (ρ : Env) : Out T := su2 ρ k (rd ρ p)
@[simp] theorem k_su1 {p : Pl} {k : D} : su1 p k ρ = su2 ρ k (rd ρ p) := by rfl
def su0 (m : Env → Out T) (p : Pl) (ρ : Env) : Out T := bnd (evD (m ρ)) (su1 p)
@[simp] theorem k_su0 {m : Env → Out T} {p : Pl} : su0 m p ρ = bnd (evD (m ρ)) (su1 p) := by rfl
@[simp] theorem k_sub {a i : E} : ev Y (.sub a i) ρ = bnd (evPl a (ev Y a) ρ) (su0 (ev Y i)) := by
  conv => lhs; unfold ev
  congr 1
  funext p ρ
  unfold su0
  congr 1
  funext k ρ
  unfold su1
  cases rd ρ p with
  | none => rfl
  | some x =>
    show opt (subD x k) _ = su3 ρ (subD x k)
    cases subD x k <;> rfl
def sl3 (ρ : Env) (l h : Option Int) : Option D → Out T
  | some x => opK ρ (slcD x l h)
  | none => none
@[simp] theorem k_sl3 {l h : Option Int} {x : D} : sl3 ρ l h (some x) = opK ρ (slcD x l h) := by rfl
def sl2 (p : Pl) (l h : Option Int) (ρ : Env) : Out T := sl3 ρ l h (rd ρ p)
@[simp] theorem k_sl2 {p : Pl} {l h : Option Int} : sl2 p l h ρ = sl3 ρ l h (rd ρ p) := by rfl
def sl1 (m : Env → Out (Option Int)) (p : Pl) (l : Option Int) (ρ : Env) : Out T := bnd (m ρ) (sl2 p l)
@[simp] theorem k_sl1 {m : Env → Out (Option Int)} {p : Pl} {l : Option Int} : sl1 m p l ρ = bnd (m ρ) (sl2 p l) := by rfl
def sl0 (m m' : Env → Out (Option Int)) (p : Pl) (ρ : Env) : Out T := bnd (m ρ) (sl1 m' p)
@[simp] theorem k_sl0 {m m' : Env → Out (Option Int)} {p : Pl} : sl0 m m' p ρ = bnd (m ρ) (sl1 m' p) := by rfl
@[simp] theorem k_slc {a lo hi : E} : ev Y (.slc a lo hi) ρ = bnd (evPl a (ev Y a) ρ) (sl0 (evBd lo (ev Y lo)) (evBd hi (ev Y hi))) := by
  conv => lhs; unfold ev
  congr 1
  funext p ρ
  unfold sl0
  congr 1
  funext l ρ
  unfold sl1
  congr 1
  funext h ρ
  unfold sl2
  cases rd ρ p with
  | none => rfl
  | some x =>
    show opt (slcD x l h) _ = opK ρ (slcD x l h)
    cases slcD x l h <;> rfl
def bdK (t : T) (ρ : Env) : Out (Option Int) := match frz t with
  | .int k => some (.ok (some k), ρ)
  | _ => none
@[simp] theorem k_bd {k : Int} : bdK (.val (.int k)) ρ = some (.ok (some k), ρ) := by
  show (match frz (.val (.int k)) with | .int k => some (Res.ok (some k), ρ) | _ => none) = _
  rw [k_frzV]
@[simp] theorem k_bdN {m : Env → Out T} : evBd (.c .non) m ρ = some (.ok none, ρ) := by rfl
def noN : E → Bool
  | .c .non => false
  | _ => true
@[simp] theorem kd_int {i : Int} {f : Env → Out T} : evBd (.c (.int i)) f ρ = bnd (f ρ) bdK := by rfl
@[simp] theorem kd_v {i : Nat} {f : Env → Out T} : evBd (.v i) f ρ = bnd (f ρ) bdK := by rfl
@[simp] theorem kd_g {f : Env → Out T} {d} : evBd (.g d) f ρ = bnd (f ρ) bdK := by rfl
@[simp] theorem kd_bin {f : Env → Out T} {o a b} : evBd (.bin o a b) f ρ = bnd (f ρ) bdK := by rfl
@[simp] theorem kd_neg {f : Env → Out T} {a} : evBd (.neg a) f ρ = bnd (f ρ) bdK := by rfl
@[simp] theorem kd_cmp {f : Env → Out T} {o a b} : evBd (.cmp o a b) f ρ = bnd (f ρ) bdK := by rfl
@[simp] theorem kd_chn {f : Env → Out T} {o o' a b c} : evBd (.chn o o' a b c) f ρ = bnd (f ρ) bdK := by rfl
@[simp] theorem kd_and {f : Env → Out T} {a b} : evBd (.and a b) f ρ = bnd (f ρ) bdK := by rfl
@[simp] theorem kd_or {f : Env → Out T} {a b} : evBd (.or a b) f ρ = bnd (f ρ) bdK := by rfl
@[simp] theorem kd_not {f : Env → Out T} {a} : evBd (.not a) f ρ = bnd (f ρ) bdK := by rfl
@[simp] theorem kd_ite {f : Env → Out T} {a b c} : evBd (.ite a b c) f ρ = bnd (f ρ) bdK := by rfl
@[simp] theorem kd_tup {f : Env → Out T} {a} : evBd (.tup a) f ρ = bnd (f ρ) bdK := by rfl
@[simp] theorem kd_lst {f : Env → Out T} {a} : evBd (.lst a) f ρ = bnd (f ρ) bdK := by rfl
@[simp] theorem kd_sub {f : Env → Out T} {a b} : evBd (.sub a b) f ρ = bnd (f ρ) bdK := by rfl
@[simp] theorem kd_slc {f : Env → Out T} {a b c} : evBd (.slc a b c) f ρ = bnd (f ρ) bdK := by rfl
@[simp] theorem kd_call {f : Env → Out T} {a b} : evBd (.call a b) f ρ = bnd (f ρ) bdK := by rfl
@[simp] theorem kd_call1 {f : Env → Out T} {a b} : evBd (.call1 a b) f ρ = bnd (f ρ) bdK := by rfl
@[simp] theorem kd_blt {f : Env → Out T} {a b} : evBd (.blt a b) f ρ = bnd (f ρ) bdK := by rfl
@[simp] theorem kd_mth {f : Env → Out T} {m a b} : evBd (.mth m a b) f ρ = bnd (f ρ) bdK := by rfl
@[simp] theorem kd_lc {f : Env → Out T} {a b c d e} : evBd (.lc a b c d e) f ρ = bnd (f ρ) bdK := by rfl
@[simp] theorem kd_lran {f : Env → Out T} {a} : evBd (.lran a) f ρ = bnd (f ρ) bdK := by rfl
/-! calls -/
def ca2 (ρ : Env) (as : List Arg) (k : Nat) : Option (Res T × List T) → Out T
  | some (r, ts') => if ts'.length = k then some (r, putArgs ρ as ts') else none
  | none => none
@[simp] theorem k_ca2 {as : List Arg} {k : Nat} {r : Res T} {ts' : List T} : ca2 ρ as k (some (r, ts')) = if ts'.length = k then some (r, putArgs ρ as ts') else none := by rfl
def ca1 (Y : Sys) (f : Nat) (as : List Arg) (ρ : Env) (ds : List D) : Option (List T) → Out T
  | some ts => ca2 ρ as (ts.length + ds.length) (Y.Γ f (ts ++ ds.map .val))
  | none => none
@[simp] theorem k_ca1 {f : Nat} {as : List Arg} {ds : List D} {ts : List T} : ca1 Y f as ρ ds (some ts) = ca2 ρ as (ts.length + ds.length) (Y.Γ f (ts ++ ds.map .val)) := by rfl
@[simp] theorem k_callT {f : Nat} {as : List Arg} : callT Y f as ρ = if (lns as).Nodup then ca1 Y f as ρ (Y.dfl f as.length) (argTs ρ as) else none := by
  have len : ∀ (as : List Arg) (ts : List T), argTs ρ as = some ts → ts.length = as.length := fun as => by
    induction as with
    | nil => intro ts h; cases h; rfl
    | cons a r ih =>
      intro ts h
      unfold argTs at h
      split at h
      · rename_i e1 e2
        cases h
        rw [List.length_cons, List.length_cons, ih _ e2]
      · cases h
  unfold callT
  by_cases h : (lns as).Nodup
  · rw [if_pos h, if_pos h]
    cases e : argTs ρ as with
    | none => rfl
    | some ts =>
      simp only [opt, ca1]
      rw [len as ts e]
      cases Y.Γ f (ts ++ (Y.dfl f as.length).map T.val) with
      | none => rfl
      | some q => rfl
  · rw [if_neg h, if_neg h]
@[simp] theorem k_ln0 : lns [] = [] := by unfold lns; rfl
@[simp] theorem k_lnV {d : D} {r : List Arg} : lns (.vl d :: r) = lns r := by conv => lhs; unfold lns
@[simp] theorem k_lnL {i : Nat} {r : List Arg} : lns (.ln i :: r) = i :: lns r := by conv => lhs; unfold lns
@[simp] theorem k_at0 : argTs ρ [] = some [] := by unfold argTs; rfl
def atK : Option T → Option (List T) → Option (List T)
  | some t, some ts => some (t :: ts)
  | _, _ => none
@[simp] theorem k_atK {t : T} {ts : List T} : atK (some t) (some ts) = some (t :: ts) := by rfl
@[simp] theorem k_atV {d : D} {r : List Arg} : argTs ρ (.vl d :: r) = atK (some (.val d)) (argTs ρ r) := by
  conv => lhs; unfold argTs
  unfold argT
  cases argTs ρ r <;> rfl
@[simp] theorem k_atL {i : Nat} {r : List Arg} : argTs ρ (.ln i :: r) = atK ((ρ[i]?).join) (argTs ρ r) := by
  conv => lhs; unfold argTs
  show (match look ρ i, argTs ρ r with | some t, some ts => some (t :: ts) | _, _ => none) = _
  rw [k_look]
  cases (ρ[i]?).join <;> cases argTs ρ r <;> rfl
@[simp] theorem k_pu0 {ts : List T} : putArgs ρ [] ts = ρ := by unfold putArgs; rfl
@[simp] theorem k_puV {d : D} {r : List Arg} {t : T} {ts : List T} : putArgs ρ (.vl d :: r) (t :: ts) = putArgs ρ r ts := by conv => lhs; unfold putArgs
@[simp] theorem k_puL {i : Nat} {r : List Arg} {t : T} {ts : List T} : putArgs ρ (.ln i :: r) (t :: ts) = (putArgs ρ r ts).set i (some t) := by conv => lhs; unfold putArgs
@[simp] theorem k_call {f : Nat} {l : List E} : ev Y (.call f l) ρ = bnd (evAs Y l ρ) (callT Y f) := by
  conv => lhs; unfold ev
  all_goals rfl
def c1K (Y : Sys) (f : Nat) (t : T) (ρ : Env) : Out T := call1T Y f t ρ
def c1R (ρ : Env) (k : Nat) : Option (Res T × List T) → Out T
  | some (r, ts') => if ts'.length = k then some (r, ρ) else none
  | none => none
@[simp] theorem k_c1R {k : Nat} {r : Res T} {ts' : List T} : c1R ρ k (some (r, ts')) = if ts'.length = k then some (r, ρ) else none := by rfl
@[simp] theorem k_c1K {f : Nat} {t : T} : c1K Y f t ρ = c1R ρ (1 + (Y.dfl f 1).length) (Y.Γ f (t :: (Y.dfl f 1).map .val)) := by
  unfold c1K call1T
  cases Y.Γ f (t :: (Y.dfl f 1).map .val) <;> rfl
@[simp] theorem k_call1 {f : Nat} {a : E} : ev Y (.call1 f a) ρ = bnd (ev Y a ρ) (c1K Y f) := by
  conv => lhs; unfold ev
  all_goals rfl
/-! built-ins -/
def rds (ρ : Env) : List Pl → Option (List D)
  | [] => some []
  | p :: r => match rd ρ p, rds ρ r with
    | some d, some ds => some (d :: ds)
    | _, _ => none
def rdK : Option D → Option (List D) → Option (List D)
  | some d, some ds => some (d :: ds)
  | _, _ => none
@[simp] theorem k_rdK {d : D} {ds : List D} : rdK (some d) (some ds) = some (d :: ds) := by rfl
@[simp] theorem k_rds0 : rds ρ [] = some [] := by rfl
@[simp] theorem k_rds {p : Pl} {r : List Pl} : rds ρ (p :: r) = rdK (rd ρ p) (rds ρ r) := by
  conv => lhs; unfold rds
  cases rd ρ p <;> cases rds ρ r <;> rfl
theorem mapM_rds : ∀ ps : List Pl, ps.mapM (rd ρ) = rds ρ ps
  | [] => rfl
  | p :: r => by
    rw [List.mapM_cons, mapM_rds r]
    unfold rds
    cases rd ρ p with
    | none => rfl
    | some d => cases e : rds ρ r <;> (unfold rds at e; rw [e]; rfl)
def bl2 (b : Blt) (ρ : Env) : Option (List D) → Out T
  | some ds => opK ρ (bltD b ds)
  | none => none
@[simp] theorem k_bl2 {b : Blt} {ds : List D} : bl2 b ρ (some ds) = opK ρ (bltD b ds) := by rfl
def bl1 (b : Blt) (ps : List Pl) (ρ : Env) : Out T := bl2 b ρ (rds ρ ps)
@[simp] theorem k_bl1 {b : Blt} {ps : List Pl} : bl1 b ps ρ = bl2 b ρ (rds ρ ps) := by rfl
@[simp] theorem k_blt {b : Blt} {l : List E} : ev Y (.blt b l) ρ = bnd (evPls Y l ρ) (bl1 b) := by
  conv => lhs; unfold ev
  congr 1
  funext ps ρ
  rw [mapM_rds]
  unfold bl1
  cases rds ρ ps with
  | none => rfl
  | some ds =>
    show opt (bltD b ds) _ = opK ρ (bltD b ds)
    cases bltD b ds <;> rfl
def mt2 (m : Env → Out Pl) (p : Pl) (ρ : Env) : Option Nat → Out T
  | some k => bnd (m ρ) (bi2 (mthD k) p)
  | none => none
@[simp] theorem k_mt2 {m : Env → Out Pl} {p : Pl} {k : Nat} : mt2 m p ρ (some k) = bnd (m ρ) (bi2 (mthD k) p) := by rfl
def mt1 (k : Mth) (m : Env → Out Pl) (p : Pl) (ρ : Env) : Option D → Out T
  | some x => mt2 m p ρ (mthK k x)
  | none => none
@[simp] theorem k_mt1 {k : Mth} {m : Env → Out Pl} {p : Pl} {x : D} : mt1 k m p ρ (some x) = mt2 m p ρ (mthK k x) := by rfl
def mt0 (k : Mth) (m : Env → Out Pl) (p : Pl) (ρ : Env) : Out T := mt1 k m p ρ (rd ρ p)
@[simp] theorem k_mt0 {k : Mth} {m : Env → Out Pl} {p : Pl} : mt0 k m p ρ = mt1 k m p ρ (rd ρ p) := by rfl
@[simp] theorem k_mth {k : Mth} {a b : E} : ev Y (.mth k a b) ρ = bnd (evPl a (ev Y a) ρ) (mt0 k (evPl b (ev Y b))) := by
  conv => lhs; unfold ev
  congr 1
  funext p ρ
  unfold mt0
  cases e0 : rd ρ p with
  | none => rfl
  | some x0 =>
    show opt (mthK k x0) _ = mt2 (evPl b (ev Y b)) p ρ (mthK k x0)
    cases mthK k x0 with
    | none => rfl
    | some j =>
      show bnd _ _ = bnd _ _
      congr 1
      funext q ρ
      unfold bi2
      cases rd ρ p <;> cases rd ρ q <;> try rfl
      rename_i x y
      show opt (mthD j x y) _ = opK ρ (mthD j x y)
      cases mthD j x y <;> rfl
@[simp] theorem k_moT {l : List D} : mthK .count (.tup l) = some 0 := by rfl
@[simp] theorem k_moL {l : List D} : mthK .count (.lst l) = some 1 := by rfl
@[simp] theorem k_mcT {l : List D} {y : D} : mthD 0 (.tup l) y = cntD l y := by rfl
@[simp] theorem k_mcL {l : List D} {y : D} : mthD 1 (.lst l) y = cntD l y := by rfl
def exK (c : Nat) (d : D) (ρ : Env) : Out T := some (.ok (.val (.exc c d)), ρ)
@[simp] theorem k_ex {c : Nat} {d : D} : exK c d ρ = some (.ok (.val (.exc c d)), ρ) := by rfl
@[simp] theorem k_exn {c : Nat} {a : E} : ev Y (.exn c a) ρ = bnd (evD (ev Y a ρ)) (exK c) := by
  conv => lhs; unfold ev
  all_goals rfl
def un1 (o : Op1) (ρ : Env) : Option D → Out T
  | some x => opK ρ (unD o x)
  | none => none
@[simp] theorem k_un1 {o : Op1} {x : D} : un1 o ρ (some x) = opK ρ (unD o x) := by rfl
def un0 (o : Op1) (p : Pl) (ρ : Env) : Out T := un1 o ρ (rd ρ p)
@[simp] theorem k_un0 {o : Op1} {p : Pl} : un0 o p ρ = un1 o ρ (rd ρ p) := by rfl
@[simp] theorem k_un {o : Op1} {a : E} : ev Y (.un o a) ρ = bnd (evPl a (ev Y a) ρ) (un0 o) := by
  conv => lhs; unfold ev
  congr 1
  funext p ρ
  unfold un0
  cases rd ρ p with
  | none => rfl
  | some x =>
    show opt (unD o x) _ = opK ρ (unD o x)
    cases unD o x <;> rfl
@[simp] theorem u_fld {n : Str} {x : D} : unD (.fld n) x = (fldD n x).map .val := by rfl
@[simp] theorem u_isx {n : Nat} {cs : List Nat} {x : D} : unD (.isx n cs) x = (isxD n cs x).map fun b => .val (.bl b) := by rfl
@[simp] theorem u_rev {l : List D} : unD .rev (.tup l) = some (.val (.tup l.reverse)) := by rfl
@[simp] theorem u_rpr {x : D} : unD .rpr x = rprD x := by rfl
@[simp] theorem u_val {c : Nat} {d : D} : fldD "value" (.exc c d) = some d := by rfl
def rgK (ds : List D) (ρ : Env) : Out T := opt (rangeD ds) fun l => ret (.lst l) ρ
@[simp] theorem k_lran {l : List E} : ev Y (.lran l) ρ = bnd (evDs Y l ρ) rgK := by
  conv => lhs; unfold ev
  all_goals rfl
/-! comprehensions -/
def lc3 (own : List Nat) (y : D) (ρ : Env) : Out (Option D) := some (.ok (some y), hide ρ own)
@[simp] theorem k_lc3 {own : List Nat} {y : D} : lc3 own y ρ = some (.ok (some y), hide ρ own) := by rfl
def lc2 (Y : Sys) (x : E) (own : List Nat) (b : Bool) (ρ : Env) : Out (Option D) := match b with
  | true => bnd (evD (ev Y x ρ)) (lc3 own)
  | false => some (.ok none, hide ρ own)
@[simp] theorem k_lc2t {x : E} {own : List Nat} : lc2 Y x own true ρ = bnd (evD (ev Y x ρ)) (lc3 own) := by rfl
@[simp] theorem k_lc2f {x : E} {own : List Nat} : lc2 Y x own false ρ = some (.ok none, hide ρ own) := by rfl
def lc1 (Y : Sys) (x : E) (ifs : List E) (own : List Nat) (ρ : Env) : Out (Option D) := bnd (evTs Y ifs ρ) (lc2 Y x own)
@[simp] theorem k_lc1 {x : E} {ifs : List E} {own : List Nat} : lc1 Y x ifs own ρ = bnd (evTs Y ifs ρ) (lc2 Y x own) := by rfl
/-- one turn of a comprehension -/
def lcS (Y : Sys) (x : E) (g : Tg) (ifs : List E) (own : List Nat) (d : D) (ρ : Env) : Out (Option D) := opt (asgD g d ρ) (lc1 Y x ifs own)
theorem lcS_eq {x : E} {g : Tg} {ifs : List E} {own : List Nat} {d : D} : lcS Y x g ifs own d ρ = opt (asgD g d ρ) (lc1 Y x ifs own) := rfl
def lcE (ρ1 : Env) (hs : List Nat) (ds : List D) (ρ2 : Env) : Out T := some (.ok (.lst ds), back ρ1 ρ2 hs)
@[simp] theorem k_lcE {ρ1 : Env} {hs : List Nat} {ds : List D} : lcE ρ1 hs ds ρ = some (.ok (.lst ds), back ρ1 ρ hs) := by rfl
def lcA (Y : Sys) (x : E) (g : Tg) (ifs : List E) (own : List Nat) (w : List D × List Nat) (ρ1 : Env) : Out T :=
  if w.1.length ≤ LL then bnd (noE (lcLoop (lcS Y x g ifs own) w.1 (hide ρ1 (own ++ w.2)))) (lcE ρ1 (own ++ w.2)) else none
@[simp] theorem k_lcA {x : E} {g : Tg} {ifs : List E} {own : List Nat} {l : List D} {hs : List Nat} (h : l.length ≤ LL) : lcA Y x g ifs own (l, hs) ρ = bnd (noE (lcLoop (lcS Y x g ifs own) l (hide ρ (own ++ hs)))) (lcE ρ (own ++ hs)) := if_pos h
@[simp] theorem k_noE {a : α} : noE (some (.ok a, ρ)) = some (.ok a, ρ) := by rfl
@[simp] theorem k_lc {x : E} {g : Tg} {it : E} {ifs : List E} {own : List Nat} : ev Y (.lc x g it ifs own) ρ = bnd (evIt Y (fun i => occ i 100 x || ifs.any (occ i 100)) it ρ) (lcA Y x g ifs own) := by
  conv => lhs; unfold ev
  congr 1
  all_goals
    funext w ρ
    unfold lcA
    have e : (fun (d : D) (ρ : Env) => opt (asgD g d ρ) fun ρ => bnd (evTs Y ifs ρ) fun b ρ => (match b with
          | true => bnd (evD (ev Y x ρ)) fun y ρ => ret (some y) (hide ρ own)
          | false => ret none (hide ρ own))) = lcS Y x g ifs own := by
      funext d ρ
      unfold lcS
      congr 1
      funext ρ
      unfold lc1
      congr 1
      funext b ρ
      cases b <;> rfl
    rw [e]
    rfl
@[simp] theorem k_hd0 : hide ρ [] = ρ := by unfold hide; rfl
@[simp] theorem k_hd {i : Nat} {r : List Nat} : hide ρ (i :: r) = (hide ρ r).set i none := by conv => lhs; unfold hide
@[simp] theorem k_bk0 {ρ0 : Env} : back ρ0 ρ [] = ρ := by unfold back; rfl
@[simp] theorem k_bk {ρ0 : Env} {i : Nat} {r : List Nat} : back ρ0 ρ (i :: r) = (back ρ0 ρ r).set i (ρ0.getD i none) := by conv => lhs; unfold back
@[simp] theorem k_asV {i : Nat} {d : D} : asgD (.v i) d ρ = if i < ρ.length then some (ρ.set i (some (.val d))) else none := by unfold asgD; rfl
@[simp] theorem k_asT {gs : List Tg} {ds : List D} : asgD (.tup gs) (.tup ds) ρ = asgDs gs ds ρ := by conv => lhs; unfold asgD
@[simp] theorem k_asL {gs : List Tg} {ds : List D} : asgD (.tup gs) (.lst ds) ρ = asgDs gs ds ρ := by conv => lhs; unfold asgD
@[simp] theorem k_ass0 : asgDs [] [] ρ = some ρ := by unfold asgDs; rfl
@[simp] theorem k_ass {g : Tg} {gs : List Tg} {d : D} {ds : List D} : asgDs (g :: gs) (d :: ds) ρ = (asgD g d ρ).bind (asgDs gs ds) := by
  conv => lhs; unfold asgDs
  cases asgD g d ρ <;> rfl
@[simp] theorem k_atTV {i : Nat} {t : T} : asgT (.v i) t ρ = if i < ρ.length then some (ρ.set i (some t)) else none := by rfl
@[simp] theorem k_atTT {gs : List Tg} {t : T} : asgT (.tup gs) t ρ = asgD (.tup gs) (frz t) ρ := by rfl
/-! what is walked -/
def wkK (oc : Nat → Bool) (i : Nat) (ρ : Env) : Option T → Out (D × List Nat)
  | none => none
  | some (.val d) => some (.ok (d, []), ρ)
  | some t => if oc i then some (.ok (frz t, []), ρ.set i (some (.val (frz t)))) else some (.ok (frz t, [i]), ρ)
@[simp] theorem k_wkV {oc : Nat → Bool} {i : Nat} {d : D} : wkK oc i ρ (some (.val d)) = some (.ok (d, []), ρ) := by rfl
@[simp] theorem k_wkL {oc : Nat → Bool} {i : Nat} {l : List D} : wkK oc i ρ (some (.lst l)) = if oc i then some (.ok (.lst l, []), ρ.set i (some (.val (.lst l)))) else some (.ok (.lst l, [i]), ρ) := by
  show (if oc i then some (Res.ok (frz (.lst l), []), ρ.set i (some (.val (frz (.lst l))))) else some (.ok (frz (.lst l), [i]), ρ)) = _
  rw [k_frzL]
@[simp] theorem k_wk_v {oc : Nat → Bool} {i : Nat} {f : Env → Out T} : evWk oc (.v i) f ρ = wkK oc i ρ ((ρ[i]?).join) := by
  have e : evWk oc (.v i) f ρ = (match look ρ i with | none => none | some (.val d) => ret (d, []) ρ | some t => if oc i then ret (frz t, []) (ρ.set i (some (.val (frz t)))) else ret (frz t, [i]) ρ) := rfl
  rw [e, ← k_look]
  cases look ρ i with
  | none => rfl
  | some t => cases t <;> rfl
def wtK (t : T) (ρ : Env) : Out (D × List Nat) := some (.ok (frz t, []), ρ)
@[simp] theorem k_wt {t : T} : wtK t ρ = some (.ok (frz t, []), ρ) := by rfl
@[simp] theorem kw_c {oc : Nat → Bool} {f : Env → Out T} {d} : evWk oc (.c d) f ρ = bnd (f ρ) wtK := by rfl
@[simp] theorem kw_g {oc : Nat → Bool} {f : Env → Out T} {d} : evWk oc (.g d) f ρ = bnd (f ρ) wtK := by rfl
@[simp] theorem kw_bin {oc : Nat → Bool} {f : Env → Out T} {o a b} : evWk oc (.bin o a b) f ρ = bnd (f ρ) wtK := by rfl
@[simp] theorem kw_neg {oc : Nat → Bool} {f : Env → Out T} {a} : evWk oc (.neg a) f ρ = bnd (f ρ) wtK := by rfl
@[simp] theorem kw_cmp {oc : Nat → Bool} {f : Env → Out T} {o a b} : evWk oc (.cmp o a b) f ρ = bnd (f ρ) wtK := by rfl
@[simp] theorem kw_chn {oc : Nat → Bool} {f : Env → Out T} {o o' a b c} : evWk oc (.chn o o' a b c) f ρ = bnd (f ρ) wtK := by rfl
@[simp] theorem kw_and {oc : Nat → Bool} {f : Env → Out T} {a b} : evWk oc (.and a b) f ρ = bnd (f ρ) wtK := by rfl
@[simp] theorem kw_or {oc : Nat → Bool} {f : Env → Out T} {a b} : evWk oc (.or a b) f ρ = bnd (f ρ) wtK := by rfl
@[simp] theorem kw_not {oc : Nat → Bool} {f : Env → Out T} {a} : evWk oc (.not a) f ρ = bnd (f ρ) wtK := by rfl
@[simp] theorem kw_ite {oc : Nat → Bool} {f : Env → Out T} {a b c} : evWk oc (.ite a b c) f ρ = bnd (f ρ) wtK := by rfl
@[simp] theorem kw_tup {oc : Nat → Bool} {f : Env → Out T} {a} : evWk oc (.tup a) f ρ = bnd (f ρ) wtK := by rfl
@[simp] theorem kw_lst {oc : Nat → Bool} {f : Env → Out T} {a} : evWk oc (.lst a) f ρ = bnd (f ρ) wtK := by rfl
@[simp] theorem kw_sub {oc : Nat → Bool} {f : Env → Out T} {a b} : evWk oc (.sub a b) f ρ = bnd (f ρ) wtK := by rfl
@[simp] theorem kw_slc {oc : Nat → Bool} {f : Env → Out T} {a b c} : evWk oc (.slc a b c) f ρ = bnd (f ρ) wtK := by rfl
@[simp] theorem kw_call {oc : Nat → Bool} {f : Env → Out T} {a b} : evWk oc (.call a b) f ρ = bnd (f ρ) wtK := by rfl
@[simp] theorem kw_call1 {oc : Nat → Bool} {f : Env → Out T} {a b} : evWk oc (.call1 a b) f ρ = bnd (f ρ) wtK := by rfl
@[simp] theorem kw_blt {oc : Nat → Bool} {f : Env → Out T} {a b} : evWk oc (.blt a b) f ρ = bnd (f ρ) wtK := by rfl
@[simp] theorem kw_mth {oc : Nat → Bool} {f : Env → Out T} {m a b} : evWk oc (.mth m a b) f ρ = bnd (f ρ) wtK := by rfl
@[simp] theorem kw_un {oc : Nat → Bool} {f : Env → Out T} {o a} : evWk oc (.un o a) f ρ = bnd (f ρ) wtK := by rfl
@[simp] theorem kw_lc {oc : Nat → Bool} {f : Env → Out T} {a b c d e} : evWk oc (.lc a b c d e) f ρ = bnd (f ρ) wtK := by rfl
@[simp] theorem kw_lran {oc : Nat → Bool} {f : Env → Out T} {a} : evWk oc (.lran a) f ρ = bnd (f ρ) wtK := by rfl
def itmK (g : D → Option (List D)) (w : D × List Nat) (ρ : Env) : Out (List D × List Nat) := opt (g w.1) fun l => some (.ok (l, w.2), ρ)
@[simp] theorem k_itm {g : D → Option (List D)} {d : D} {hs : List Nat} : itmK g (d, hs) ρ = opt (g d) fun l => some (.ok (l, hs), ρ) := by rfl
def rnK (ds : List D) (ρ : Env) : Out (List D × List Nat) := opt (rangeD ds) fun l => some (.ok (l, []), ρ)
@[simp] theorem k_rn {ds : List D} : rnK ds ρ = opt (rangeD ds) fun l => some (.ok (l, []), ρ) := by rfl
@[simp] theorem k_itR {oc : Nat → Bool} {l : List E} : evIt Y oc (.range l) ρ = bnd (evDs Y l ρ) rnK := by
  conv => lhs; unfold evIt
  all_goals rfl
def enI (d : D) : Option (List D) := (seqD d).map fun l => pairs l 0
@[simp] theorem k_enI {d : D} : enI d = (seqD d).map fun l => pairs l 0 := by rfl
@[simp] theorem k_itE {oc : Nat → Bool} {a : E} : evIt Y oc (.enum a) ρ = bnd (evWk oc a (ev Y a) ρ) (itmK enI) := by
  conv => lhs; unfold evIt
  congr 1
  funext w ρ
  unfold itmK enI
  cases seqD w.1 <;> rfl
def seqE' : E → Bool
  | .range _ => false
  | .enum _ => false
  | .zip _ _ => false
  | _ => true
theorem k_itS {oc : Nat → Bool} {a : E} (h : seqE' a = true) : evIt Y oc a ρ = bnd (evWk oc a (ev Y a) ρ) (itmK itemsD) := by
  cases a <;> first | (cases h; done) | (conv => lhs; unfold evIt) <;> rfl
@[simp] theorem k_itv {oc : Nat → Bool} {i} : evIt Y oc (.v i) ρ = bnd (evWk oc (.v i) (ev Y (.v i)) ρ) (itmK itemsD) := k_itS rfl
@[simp] theorem k_itc {oc : Nat → Bool} {d} : evIt Y oc (.c d) ρ = bnd (evWk oc (.c d) (ev Y (.c d)) ρ) (itmK itemsD) := k_itS rfl
@[simp] theorem k_itg {oc : Nat → Bool} {d} : evIt Y oc (.g d) ρ = bnd (evWk oc (.g d) (ev Y (.g d)) ρ) (itmK itemsD) := k_itS rfl
@[simp] theorem k_itb {oc : Nat → Bool} {o a b} : evIt Y oc (.bin o a b) ρ = bnd (evWk oc (.bin o a b) (ev Y (.bin o a b)) ρ) (itmK itemsD) := k_itS rfl
@[simp] theorem k_itt {oc : Nat → Bool} {a} : evIt Y oc (.tup a) ρ = bnd (evWk oc (.tup a) (ev Y (.tup a)) ρ) (itmK itemsD) := k_itS rfl
@[simp] theorem k_itl {oc : Nat → Bool} {a} : evIt Y oc (.lst a) ρ = bnd (evWk oc (.lst a) (ev Y (.lst a)) ρ) (itmK itemsD) := k_itS rfl
@[simp] theorem k_itsu {oc : Nat → Bool} {a b} : evIt Y oc (.sub a b) ρ = bnd (evWk oc (.sub a b) (ev Y (.sub a b)) ρ) (itmK itemsD) := k_itS rfl
@[simp] theorem k_itsl {oc : Nat → Bool} {a b c} : evIt Y oc (.slc a b c) ρ = bnd (evWk oc (.slc a b c) (ev Y (.slc a b c)) ρ) (itmK itemsD) := k_itS rfl
@[simp] theorem k_itca {oc : Nat → Bool} {a b} : evIt Y oc (.call a b) ρ = bnd (evWk oc (.call a b) (ev Y (.call a b)) ρ) (itmK itemsD) := k_itS rfl
@[simp] theorem k_itc1 {oc : Nat → Bool} {a b} : evIt Y oc (.call1 a b) ρ = bnd (evWk oc (.call1 a b) (ev Y (.call1 a b)) ρ) (itmK itemsD) := k_itS rfl
@[simp] theorem k_itbl {oc : Nat → Bool} {a b} : evIt Y oc (.blt a b) ρ = bnd (evWk oc (.blt a b) (ev Y (.blt a b)) ρ) (itmK itemsD) := k_itS rfl
@[simp] theorem k_itlc {oc : Nat → Bool} {a b c d e} : evIt Y oc (.lc a b c d e) ρ = bnd (evWk oc (.lc a b c d e) (ev Y (.lc a b c d e)) ρ) (itmK itemsD) := k_itS rfl
@[simp] theorem k_itlr {oc : Nat → Bool} {a} : evIt Y oc (.lran a) ρ = bnd (evWk oc (.lran a) (ev Y (.lran a)) ρ) (itmK itemsD) := k_itS rfl
@[simp] theorem k_iDl {l : List D} : itemsD (.lst l) = some l := by rfl
@[simp] theorem k_iDt {l : List D} : itemsD (.tup l) = some l := by rfl
@[simp] theorem k_sDl {l : List D} : seqD (.lst l) = some l := by rfl
@[simp] theorem k_sDt {l : List D} : seqD (.tup l) = some l := by rfl
def zp2 (w w' : D × List Nat) (ρ : Env) : Out (List D × List Nat) := opt (zipD w.1 w'.1) fun l => some (.ok (l, w.2 ++ w'.2), ρ)
@[simp] theorem k_zp2 {d d' : D} {hs hs' : List Nat} : zp2 (d, hs) (d', hs') ρ = opt (zipD d d') fun l => some (.ok (l, hs ++ hs'), ρ) := by rfl
def zp1 (m : Env → Out (D × List Nat)) (w : D × List Nat) (ρ : Env) : Out (List D × List Nat) := bnd (m ρ) (zp2 w)
@[simp] theorem k_zp1 {m : Env → Out (D × List Nat)} {w : D × List Nat} : zp1 m w ρ = bnd (m ρ) (zp2 w) := by rfl
@[simp] theorem k_itZv {oc : Nat → Bool} {i j : Nat} : evIt Y oc (.zip (.v i) (.v j)) ρ = bnd (wkK oc i ρ ((ρ[i]?).join)) (zp1 (evWk oc (.v j) (ev Y (.v j)))) := by
  conv => lhs; unfold evIt
  rw [k_wk_v]
  congr 1
  all_goals
    funext w ρ
    unfold zp1
    rw [k_wk_v, k_wk_v]
    rfl
def zd2 (x y : D) (ρ : Env) : Out (List D × List Nat) := opt (zipD x y) fun l => some (.ok (l, []), ρ)
@[simp] theorem k_zd2 {x y : D} : zd2 x y ρ = opt (zipD x y) fun l => some (.ok (l, []), ρ) := by rfl
def zd1 (m : Env → Out T) (x : D) (ρ : Env) : Out (List D × List Nat) := bnd (evD (m ρ)) (zd2 x)
@[simp] theorem k_zd1 {m : Env → Out T} {x : D} : zd1 m x ρ = bnd (evD (m ρ)) (zd2 x) := by rfl
@[simp] theorem kz_c {oc : Nat → Bool} {x0} {z : E} : evIt Y oc (.zip (.c x0) z) ρ = bnd (evD (ev Y (.c x0) ρ)) (zd1 (ev Y z)) := by
  (conv => lhs; unfold evIt) <;> rfl
@[simp] theorem kzv_c {oc : Nat → Bool} {x0} {z : Nat} : evIt Y oc (.zip (.v z) (.c x0)) ρ = bnd (evD (ev Y (.v z) ρ)) (zd1 (ev Y (.c x0))) := by
  (conv => lhs; unfold evIt) <;> rfl
@[simp] theorem kz_g {oc : Nat → Bool} {x0} {z : E} : evIt Y oc (.zip (.g x0) z) ρ = bnd (evD (ev Y (.g x0) ρ)) (zd1 (ev Y z)) := by
  (conv => lhs; unfold evIt) <;> rfl
@[simp] theorem kzv_g {oc : Nat → Bool} {x0} {z : Nat} : evIt Y oc (.zip (.v z) (.g x0)) ρ = bnd (evD (ev Y (.v z) ρ)) (zd1 (ev Y (.g x0))) := by
  (conv => lhs; unfold evIt) <;> rfl
@[simp] theorem kz_bin {oc : Nat → Bool} {x0 x1 x2} {z : E} : evIt Y oc (.zip (.bin x0 x1 x2) z) ρ = bnd (evD (ev Y (.bin x0 x1 x2) ρ)) (zd1 (ev Y z)) := by
  (conv => lhs; unfold evIt) <;> rfl
@[simp] theorem kzv_bin {oc : Nat → Bool} {x0 x1 x2} {z : Nat} : evIt Y oc (.zip (.v z) (.bin x0 x1 x2)) ρ = bnd (evD (ev Y (.v z) ρ)) (zd1 (ev Y (.bin x0 x1 x2))) := by
  (conv => lhs; unfold evIt) <;> rfl
@[simp] theorem kz_neg {oc : Nat → Bool} {x0} {z : E} : evIt Y oc (.zip (.neg x0) z) ρ = bnd (evD (ev Y (.neg x0) ρ)) (zd1 (ev Y z)) := by
  (conv => lhs; unfold evIt) <;> rfl
@[simp] theorem kzv_neg {oc : Nat → Bool} {x0} {z : Nat} : evIt Y oc (.zip (.v z) (.neg x0)) ρ = bnd (evD (ev Y (.v z) ρ)) (zd1 (ev Y (.neg x0))) := by
  (conv => lhs; unfold evIt) <;> rfl
@[simp] theorem kz_cmp {oc : Nat → Bool} {x0 x1 x2} {z : E} : evIt Y oc (.zip (.cmp x0 x1 x2) z) ρ = bnd (evD (ev Y (.cmp x0 x1 x2) ρ)) (zd1 (ev Y z)) := by
  (conv => lhs; unfold evIt) <;> rfl
@[simp] theorem kzv_cmp {oc : Nat → Bool} {x0 x1 x2} {z : Nat} : evIt Y oc (.zip (.v z) (.cmp x0 x1 x2)) ρ = bnd (evD (ev Y (.v z) ρ)) (zd1 (ev Y (.cmp x0 x1 x2))) := by
  (conv => lhs; unfold evIt) <;> rfl
@[simp] theorem kz_chn {oc : Nat → Bool} {x0 x1 x2 x3 x4} {z : E} : evIt Y oc (.zip (.chn x0 x1 x2 x3 x4) z) ρ = bnd (evD (ev Y (.chn x0 x1 x2 x3 x4) ρ)) (zd1 (ev Y z)) := by
  (conv => lhs; unfold evIt) <;> rfl
@[simp] theorem kzv_chn {oc : Nat → Bool} {x0 x1 x2 x3 x4} {z : Nat} : evIt Y oc (.zip (.v z) (.chn x0 x1 x2 x3 x4)) ρ = bnd (evD (ev Y (.v z) ρ)) (zd1 (ev Y (.chn x0 x1 x2 x3 x4))) := by
  (conv => lhs; unfold evIt) <;> rfl
@[simp] theorem kz_and {oc : Nat → Bool} {x0 x1} {z : E} : evIt Y oc (.zip (.and x0 x1) z) ρ = bnd (evD (ev Y (.and x0 x1) ρ)) (zd1 (ev Y z)) := by
  (conv => lhs; unfold evIt) <;> rfl
@[simp] theorem kzv_and {oc : Nat → Bool} {x0 x1} {z : Nat} : evIt Y oc (.zip (.v z) (.and x0 x1)) ρ = bnd (evD (ev Y (.v z) ρ)) (zd1 (ev Y (.and x0 x1))) := by
  (conv => lhs; unfold evIt) <;> rfl
@[simp] theorem kz_or {oc : Nat → Bool} {x0 x1} {z : E} : evIt Y oc (.zip (.or x0 x1) z) ρ = bnd (evD (ev Y (.or x0 x1) ρ)) (zd1 (ev Y z)) := by
  (conv => lhs; unfold evIt) <;> rfl
@[simp] theorem kzv_or {oc : Nat → Bool} {x0 x1} {z : Nat} : evIt Y oc (.zip (.v z) (.or x0 x1)) ρ = bnd (evD (ev Y (.v z) ρ)) (zd1 (ev Y (.or x0 x1))) := by
  (conv => lhs; unfold evIt) <;> rfl
@[simp] theorem kz_not {oc : Nat → Bool} {x0} {z : E} : evIt Y oc (.zip (.not x0) z) ρ = bnd (evD (ev Y (.not x0) ρ)) (zd1 (ev Y z)) := by
  (conv => lhs; unfold evIt) <;> rfl
@[simp] theorem kzv_not {oc : Nat → Bool} {x0} {z : Nat} : evIt Y oc (.zip (.v z) (.not x0)) ρ = bnd (evD (ev Y (.v z) ρ)) (zd1 (ev Y (.not x0))) := by
  (conv => lhs; unfold evIt) <;> rfl
@[simp] theorem kz_ite {oc : Nat → Bool} {x0 x1 x2} {z : E} : evIt Y oc (.zip (.ite x0 x1 x2) z) ρ = bnd (evD (ev Y (.ite x0 x1 x2) ρ)) (zd1 (ev Y z)) := by
  (conv => lhs; unfold evIt) <;> rfl
@[simp] theorem kzv_ite {oc : Nat → Bool} {x0 x1 x2} {z : Nat} : evIt Y oc (.zip (.v z) (.ite x0 x1 x2)) ρ = bnd (evD (ev Y (.v z) ρ)) (zd1 (ev Y (.ite x0 x1 x2))) := by
  (conv => lhs; unfold evIt) <;> rfl
@[simp] theorem kz_tup {oc : Nat → Bool} {x0} {z : E} : evIt Y oc (.zip (.tup x0) z) ρ = bnd (evD (ev Y (.tup x0) ρ)) (zd1 (ev Y z)) := by
  (conv => lhs; unfold evIt) <;> rfl
@[simp] theorem kzv_tup {oc : Nat → Bool} {x0} {z : Nat} : evIt Y oc (.zip (.v z) (.tup x0)) ρ = bnd (evD (ev Y (.v z) ρ)) (zd1 (ev Y (.tup x0))) := by
  (conv => lhs; unfold evIt) <;> rfl
@[simp] theorem kz_lst {oc : Nat → Bool} {x0} {z : E} : evIt Y oc (.zip (.lst x0) z) ρ = bnd (evD (ev Y (.lst x0) ρ)) (zd1 (ev Y z)) := by
  (conv => lhs; unfold evIt) <;> rfl
@[simp] theorem kzv_lst {oc : Nat → Bool} {x0} {z : Nat} : evIt Y oc (.zip (.v z) (.lst x0)) ρ = bnd (evD (ev Y (.v z) ρ)) (zd1 (ev Y (.lst x0))) := by
  (conv => lhs; unfold evIt) <;> rfl
@[simp] theorem kz_sub {oc : Nat → Bool} {x0 x1} {z : E} : evIt Y oc (.zip (.sub x0 x1) z) ρ = bnd (evD (ev Y (.sub x0 x1) ρ)) (zd1 (ev Y z)) := by
  (conv => lhs; unfold evIt) <;> rfl
@[simp] theorem kzv_sub {oc : Nat → Bool} {x0 x1} {z : Nat} : evIt Y oc (.zip (.v z) (.sub x0 x1)) ρ = bnd (evD (ev Y (.v z) ρ)) (zd1 (ev Y (.sub x0 x1))) := by
  (conv => lhs; unfold evIt) <;> rfl
@[simp] theorem kz_slc {oc : Nat → Bool} {x0 x1 x2} {z : E} : evIt Y oc (.zip (.slc x0 x1 x2) z) ρ = bnd (evD (ev Y (.slc x0 x1 x2) ρ)) (zd1 (ev Y z)) := by
  (conv => lhs; unfold evIt) <;> rfl
@[simp] theorem kzv_slc {oc : Nat → Bool} {x0 x1 x2} {z : Nat} : evIt Y oc (.zip (.v z) (.slc x0 x1 x2)) ρ = bnd (evD (ev Y (.v z) ρ)) (zd1 (ev Y (.slc x0 x1 x2))) := by
  (conv => lhs; unfold evIt) <;> rfl
@[simp] theorem kz_call {oc : Nat → Bool} {x0 x1} {z : E} : evIt Y oc (.zip (.call x0 x1) z) ρ = bnd (evD (ev Y (.call x0 x1) ρ)) (zd1 (ev Y z)) := by
  (conv => lhs; unfold evIt) <;> rfl
@[simp] theorem kzv_call {oc : Nat → Bool} {x0 x1} {z : Nat} : evIt Y oc (.zip (.v z) (.call x0 x1)) ρ = bnd (evD (ev Y (.v z) ρ)) (zd1 (ev Y (.call x0 x1))) := by
  (conv => lhs; unfold evIt) <;> rfl
@[simp] theorem kz_call1 {oc : Nat → Bool} {x0 x1} {z : E} : evIt Y oc (.zip (.call1 x0 x1) z) ρ = bnd (evD (ev Y (.call1 x0 x1) ρ)) (zd1 (ev Y z)) := by
  (conv => lhs; unfold evIt) <;> rfl
@[simp] theorem kzv_call1 {oc : Nat → Bool} {x0 x1} {z : Nat} : evIt Y oc (.zip (.v z) (.call1 x0 x1)) ρ = bnd (evD (ev Y (.v z) ρ)) (zd1 (ev Y (.call1 x0 x1))) := by
  (conv => lhs; unfold evIt) <;> rfl
@[simp] theorem kz_blt {oc : Nat → Bool} {x0 x1} {z : E} : evIt Y oc (.zip (.blt x0 x1) z) ρ = bnd (evD (ev Y (.blt x0 x1) ρ)) (zd1 (ev Y z)) := by
  (conv => lhs; unfold evIt) <;> rfl
@[simp] theorem kzv_blt {oc : Nat → Bool} {x0 x1} {z : Nat} : evIt Y oc (.zip (.v z) (.blt x0 x1)) ρ = bnd (evD (ev Y (.v z) ρ)) (zd1 (ev Y (.blt x0 x1))) := by
  (conv => lhs; unfold evIt) <;> rfl
@[simp] theorem kz_lc {oc : Nat → Bool} {x0 x1 x2 x3 x4} {z : E} : evIt Y oc (.zip (.lc x0 x1 x2 x3 x4) z) ρ = bnd (evD (ev Y (.lc x0 x1 x2 x3 x4) ρ)) (zd1 (ev Y z)) := by
  (conv => lhs; unfold evIt) <;> rfl
@[simp] theorem kzv_lc {oc : Nat → Bool} {x0 x1 x2 x3 x4} {z : Nat} : evIt Y oc (.zip (.v z) (.lc x0 x1 x2 x3 x4)) ρ = bnd (evD (ev Y (.v z) ρ)) (zd1 (ev Y (.lc x0 x1 x2 x3 x4))) := by
  (conv => lhs; unfold evIt) <;> rfl
@[simp] theorem kz_lran {oc : Nat → Bool} {x0} {z : E} : evIt Y oc (.zip (.lran x0) z) ρ = bnd (evD (ev Y (.lran x0) ρ)) (zd1 (ev Y z)) := by
  (conv => lhs; unfold evIt) <;> rfl
@[simp] theorem kzv_lran {oc : Nat → Bool} {x0} {z : Nat} : evIt Y oc (.zip (.v z) (.lran x0)) ρ = bnd (evD (ev Y (.v z) ρ)) (zd1 (ev Y (.lran x0))) := by
  (conv => lhs; unfold evIt) <;> rfl
@[simp] theorem k_zl {l m : List D} : zipD (.lst l) (.lst m) = some (zips l m) := by rfl
@[simp] theorem k_zlt {l m : List D} : zipD (.lst l) (.tup m) = some (zips l m) := by rfl
@[simp] theorem k_ztl {l m : List D} : zipD (.tup l) (.lst m) = some (zips l m) := by rfl
@[simp] theorem k_zt {l m : List D} : zipD (.tup l) (.tup m) = some (zips l m) := by rfl
/-! tests -/
def trK (t : T) (ρ : Env) : Out Bool := opt (truD (frz t)) fun b => some (.ok b, ρ)
@[simp] theorem k_tr {t : T} : trK t ρ = opt (truD (frz t)) fun b => some (.ok b, ρ) := by rfl
@[simp] theorem k_truT {m : Out T} : truT m = bnd m trK := by rfl
@[simp] theorem k_tb {b : Bool} : truD (.bl b) = some b := by rfl
@[simp] theorem k_ti {i : Int} : truD (.int i) = some (i != 0) := by rfl
@[simp] theorem k_tn : truD .non = some false := by rfl
@[simp] theorem k_tt {l : List D} : truD (.tup l) = some (!l.isEmpty) := by rfl
@[simp] theorem k_tl {l : List D} : truD (.lst l) = some (!l.isEmpty) := by rfl
def ntT (b : Bool) (ρ : Env) : Out Bool := some (.ok (!b), ρ)
@[simp] theorem k_ntT {b : Bool} : ntT b ρ = some (.ok (!b), ρ) := by rfl
@[simp] theorem k_Tnot {a : E} : evT Y (.not a) ρ = bnd (evT Y a ρ) ntT := by
  conv => lhs; unfold evT
  all_goals rfl
def okF (ρ : Env) : Out Bool := some (.ok false, ρ)
def okT (ρ : Env) : Out Bool := some (.ok true, ρ)
@[simp] theorem k_okF : okF ρ = some (.ok false, ρ) := by rfl
@[simp] theorem k_okT : okT ρ = some (.ok true, ρ) := by rfl
@[simp] theorem k_Tand {a b : E} : evT Y (.and a b) ρ = bnd (evT Y a ρ) (itK (evT Y b) okF) := by
  conv => lhs; unfold evT
  congr 1
  all_goals
    funext k ρ
    cases k <;> rfl
@[simp] theorem k_Tor {a b : E} : evT Y (.or a b) ρ = bnd (evT Y a ρ) (itK okT (evT Y b)) := by
  conv => lhs; unfold evT
  congr 1
  all_goals
    funext k ρ
    cases k <;> rfl
@[simp] theorem k_Tite {c a b : E} : evT Y (.ite c a b) ρ = bnd (evT Y c ρ) (itK (evT Y a) (evT Y b)) := by
  conv => lhs; unfold evT
  congr 1
  all_goals
    funext k ρ
    cases k <;> rfl
def tv1 (p : Pl) (ρ : Env) : Out Bool := opt (rd ρ p) fun d => opt (truD d) fun b => some (.ok b, ρ)
@[simp] theorem k_tv1 {p : Pl} : tv1 p ρ = opt (rd ρ p) fun d => opt (truD d) fun b => some (.ok b, ρ) := by rfl
@[simp] theorem k_Tv {i : Nat} : evT Y (.v i) ρ = bnd (plK i ρ ((ρ[i]?).join)) tv1 := by
  conv => lhs; unfold evT
  rw [k_pl_v]
  rfl
theorem T_of {e : E} (h : evT Y e = fun ρ => truT (ev Y e ρ)) : evT Y e ρ = bnd (ev Y e ρ) trK := by rw [h]; rfl
@[simp] theorem k_Tc {d} : evT Y (.c d) ρ = bnd (ev Y (.c d) ρ) trK := T_of (by funext ρ; (conv => lhs; unfold evT); rw [k_c]; rfl)
@[simp] theorem k_Tg {d} : evT Y (.g d) ρ = bnd (ev Y (.g d) ρ) trK := T_of (by funext ρ; (conv => lhs; unfold evT); rw [k_g]; rfl)
@[simp] theorem k_Tbin {o a b} : evT Y (.bin o a b) ρ = bnd (ev Y (.bin o a b) ρ) trK := T_of (by funext ρ; conv => lhs; unfold evT)
@[simp] theorem k_Tneg {a} : evT Y (.neg a) ρ = bnd (ev Y (.neg a) ρ) trK := T_of (by funext ρ; conv => lhs; unfold evT)
@[simp] theorem k_Tcmp {o a b} : evT Y (.cmp o a b) ρ = bnd (ev Y (.cmp o a b) ρ) trK := T_of (by funext ρ; conv => lhs; unfold evT)
@[simp] theorem k_Tchn {o o' a b c} : evT Y (.chn o o' a b c) ρ = bnd (ev Y (.chn o o' a b c) ρ) trK := T_of (by funext ρ; conv => lhs; unfold evT)
@[simp] theorem k_Ttup {a} : evT Y (.tup a) ρ = bnd (ev Y (.tup a) ρ) trK := T_of (by funext ρ; conv => lhs; unfold evT)
@[simp] theorem k_Tlst {a} : evT Y (.lst a) ρ = bnd (ev Y (.lst a) ρ) trK := T_of (by funext ρ; conv => lhs; unfold evT)
@[simp] theorem k_Tsub {a b} : evT Y (.sub a b) ρ = bnd (ev Y (.sub a b) ρ) trK := T_of (by funext ρ; conv => lhs; unfold evT)
@[simp] theorem k_Tslc {a b c} : evT Y (.slc a b c) ρ = bnd (ev Y (.slc a b c) ρ) trK := T_of (by funext ρ; conv => lhs; unfold evT)
@[simp] theorem k_Tcall {a b} : evT Y (.call a b) ρ = bnd (ev Y (.call a b) ρ) trK := T_of (by funext ρ; conv => lhs; unfold evT)
@[simp] theorem k_Tcall1 {a b} : evT Y (.call1 a b) ρ = bnd (ev Y (.call1 a b) ρ) trK := T_of (by funext ρ; conv => lhs; unfold evT)
@[simp] theorem k_Tblt {a b} : evT Y (.blt a b) ρ = bnd (ev Y (.blt a b) ρ) trK := T_of (by funext ρ; conv => lhs; unfold evT)
@[simp] theorem k_Tmth {m a b} : evT Y (.mth m a b) ρ = bnd (ev Y (.mth m a b) ρ) trK := T_of (by funext ρ; conv => lhs; unfold evT)
@[simp] theorem k_Tun {o a} : evT Y (.un o a) ρ = bnd (ev Y (.un o a) ρ) trK := T_of (by funext ρ; conv => lhs; unfold evT)
@[simp] theorem k_Tlc {a b c d e} : evT Y (.lc a b c d e) ρ = bnd (ev Y (.lc a b c d e) ρ) trK := T_of (by funext ρ; conv => lhs; unfold evT)
@[simp] theorem k_Tlran {a} : evT Y (.lran a) ρ = bnd (ev Y (.lran a) ρ) trK := T_of (by funext ρ; conv => lhs; unfold evT)
@[simp] theorem k_Ts0 : evTs Y [] ρ = some (.ok true, ρ) := by unfold evTs; rfl
@[simp] theorem k_Ts {e : E} {r : List E} : evTs Y (e :: r) ρ = bnd (evT Y e ρ) (itK (evTs Y r) okF) := by
  conv => lhs; unfold evTs
  congr 1
  all_goals
    funext k ρ
    cases k <;> rfl
/-! statements -/
def sqK (k : Env → SOut) : SOut → SOut
  | some (.next, ρ) => k ρ
  | o => o
@[simp] theorem k_sqN {k : Env → SOut} : sqK k (some (.next, ρ)) = k ρ := by rfl
@[simp] theorem k_sqR {k : Env → SOut} {t : T} : sqK k (some (.ret t, ρ)) = some (.ret t, ρ) := by rfl
@[simp] theorem k_sqE {k : Env → SOut} {c : Nat} {d : D} : sqK k (some (.err c d, ρ)) = some (.err c d, ρ) := by rfl
@[simp] theorem k_sqB {k : Env → SOut} : sqK k (some (.brk, ρ)) = some (.brk, ρ) := by rfl
@[simp] theorem k_sqC {k : Env → SOut} : sqK k (some (.cont, ρ)) = some (.cont, ρ) := by rfl
@[simp] theorem k_ss0 : exSs Y [] ρ = some (.next, ρ) := by unfold exSs; rfl
@[simp] theorem k_ss {s : S} {r : List S} : exSs Y (s :: r) ρ = sqK (exSs Y r) (exS Y s ρ) := by
  conv => lhs; unfold exSs
  cases exS Y s ρ with
  | none => rfl
  | some q =>
    obtain ⟨f, ρ1⟩ := q
    cases f <;> rfl
def nxK (t : T) (ρ : Env) : SOut := some (.next, ρ)
@[simp] theorem k_nx {t : T} : nxK t ρ = some (.next, ρ) := by rfl
@[simp] theorem k_pass : exS Y .pass ρ = some (.next, ρ) := by unfold exS; rfl
@[simp] theorem k_drop {e : E} : exS Y (.drop e) ρ = xs (ev Y e ρ) nxK := by
  conv => lhs; unfold exS
  all_goals rfl
def asK (g : Tg) (t : T) (ρ : Env) : SOut := opS (asgT g t ρ) fun ρ => some (.next, ρ)
@[simp] theorem k_as {g : Tg} {t : T} : asK g t ρ = opS (asgT g t ρ) fun ρ => some (.next, ρ) := by rfl
@[simp] theorem k_asg {g : Tg} {e : E} : exS Y (.asg g e) ρ = xs (ev Y e ρ) (asK g) := by
  conv => lhs; unfold exS
  all_goals rfl
def pa2 (i j : Nat) (s t : T) (ρ : Env) : SOut := if i ≠ j ∧ i < ρ.length ∧ j < ρ.length then some (.next, (ρ.set i (some s)).set j (some t)) else none
@[simp] theorem k_pa2 {i j : Nat} {s t : T} : pa2 i j s t ρ = if i ≠ j ∧ i < ρ.length ∧ j < ρ.length then some (.next, (ρ.set i (some s)).set j (some t)) else none := by rfl
def pa1 (i j : Nat) (m : Env → Out T) (s : T) (ρ : Env) : SOut := xs (m ρ) (pa2 i j s)
@[simp] theorem k_pa1 {i j : Nat} {m : Env → Out T} {s : T} : pa1 i j m s ρ = xs (m ρ) (pa2 i j s) := by rfl
@[simp] theorem k_par {i j : Nat} {a b : E} : exS Y (.par i j a b) ρ = xs (ev Y a ρ) (pa1 i j (ev Y b)) := by
  conv => lhs; unfold exS
  all_goals rfl
def rtK (t : T) (ρ : Env) : SOut := some (.ret t, ρ)
@[simp] theorem k_rt {t : T} : rtK t ρ = some (.ret t, ρ) := by rfl
@[simp] theorem k_ret_ {e : E} : exS Y (.ret e) ρ = xs (ev Y e ρ) rtK := by
  conv => lhs; unfold exS
  all_goals rfl
@[simp] theorem k_retm {i : Nat} : exS Y (.retm i) ρ = opS ((ρ[i]?).join) fun t => some (.ret t, ρ.set i none) := by
  conv => lhs; unfold exS
  rw [k_look]
@[simp] theorem k_iteS {c : E} {a b : List S} : exS Y (.ite c a b) ρ = xs (evT Y c ρ) (itK (exSs Y a) (exSs Y b)) := by
  conv => lhs; unfold exS
  congr 1
  all_goals
    funext k ρ
    cases k <;> rfl
def raK (c : Nat) (d : D) (ρ : Env) : SOut := some (.err c d, ρ)
@[simp] theorem k_ra {c : Nat} {d : D} : raK c d ρ = some (.err c d, ρ) := by rfl
@[simp] theorem k_raise {c : Nat} {e : E} : exS Y (.raise c e) ρ = xs (evD (ev Y e ρ)) (raK c) := by
  conv => lhs; unfold exS
  all_goals rfl
@[simp] theorem k_while {c : E} {b : List S} : exS Y (.while_ c b) ρ = whileLoop (evT Y c) (exSs Y b) Y.W ρ := by
  conv => lhs; unfold exS
def ap2 (i : Nat) (d : D) (ρ : Env) : Option T → SOut
  | some (.lst l) => if l.length < LL then some (.next, ρ.set i (some (.lst (l ++ [d])))) else none
  | _ => none
@[simp] theorem k_ap2 {i : Nat} {d : D} {l : List D} : ap2 i d ρ (some (.lst l)) = if l.length < LL then some (.next, ρ.set i (some (.lst (l ++ [d])))) else none := by rfl
def ap1 (i : Nat) (d : D) (ρ : Env) : SOut := ap2 i d ρ ((ρ[i]?).join)
@[simp] theorem k_ap1 {i : Nat} {d : D} : ap1 i d ρ = ap2 i d ρ ((ρ[i]?).join) := by rfl
def ap0 (i : Nat) (m : Env → Out T) (ρ : Env) : Option T → SOut
  | some (.lst _) => xs (evD (m ρ)) (ap1 i)
  | _ => none
@[simp] theorem k_ap0 {i : Nat} {m : Env → Out T} {l : List D} : ap0 i m ρ (some (.lst l)) = xs (evD (m ρ)) (ap1 i) := by rfl
@[simp] theorem k_app {i : Nat} {e : E} : exS Y (.app i e) ρ = ap0 i (ev Y e) ρ ((ρ[i]?).join) := by
  rw [← k_look]
  conv => lhs; unfold exS
  unfold ap0
  cases look ρ i with
  | none => rfl
  | some t =>
    cases t <;> try rfl
    show xs _ _ = xs _ _
    congr 1
    all_goals
      funext d ρ
      unfold ap1 ap2
      all_goals
        rw [← k_look]
        all_goals
          cases look ρ i with
          | none => rfl
          | some t => cases t <;> rfl
def ex2 (i : Nat) (d : D) (ρ : Env) : Option T → SOut
  | some (.lst l) => (match d with
    | .lst z => if l.length + z.length ≤ LL then some (.next, ρ.set i (some (.lst (l ++ z)))) else none
    | _ => none)
  | _ => none
@[simp] theorem k_ex2 {i : Nat} {l z : List D} : ex2 i (.lst z) ρ (some (.lst l)) = if l.length + z.length ≤ LL then some (.next, ρ.set i (some (.lst (l ++ z)))) else none := by rfl
def ex1 (i : Nat) (d : D) (ρ : Env) : SOut := ex2 i d ρ ((ρ[i]?).join)
@[simp] theorem k_ex1 {i : Nat} {d : D} : ex1 i d ρ = ex2 i d ρ ((ρ[i]?).join) := by rfl
def ex0 (i : Nat) (m : Env → Out T) (ρ : Env) : Option T → SOut
  | some (.lst _) => xs (evD (m ρ)) (ex1 i)
  | _ => none
@[simp] theorem k_ex0 {i : Nat} {m : Env → Out T} {l : List D} : ex0 i m ρ (some (.lst l)) = xs (evD (m ρ)) (ex1 i) := by rfl
@[simp] theorem k_ext {i : Nat} {e : E} : exS Y (.ext i e) ρ = ex0 i (ev Y e) ρ ((ρ[i]?).join) := by
  rw [← k_look]
  conv => lhs; unfold exS
  unfold ex0
  cases look ρ i with
  | none => rfl
  | some t =>
    cases t <;> try rfl
    show xs _ _ = xs _ _
    congr 1
    all_goals
      funext d ρ
      unfold ex1 ex2
      all_goals
        rw [← k_look]
        all_goals
          cases look ρ i with
          | none => cases d <;> rfl
          | some t => cases t <;> cases d <;> rfl
@[simp] theorem k_hrd {a : E} : ev Y (.hrd a) ρ = hrdT (ev Y a ρ) := by
  conv => lhs; unfold ev
@[simp] theorem hrd_ok {t : T} : hrdT (some (.ok t, ρ)) = some (.ok (.val (.tup [.non, frz t])), ρ) := by rfl
@[simp] theorem hrd_err {c : Nat} {d : D} : hrdT (some (.err c d, ρ)) = some (.ok (.val (.tup [.exc c d, .non])), ρ) := by rfl
def stK (ρ : Env) (i : Nat) (k d : D) : Option T → SOut
  | some (.lst l) => (match k with
    | .int k => (match L2.ixN l.length k with
      | some j => some (.next, ρ.set i (some (.lst (l.set j d))))
      | none => none)
    | _ => none)
  | _ => none
def stJ (ρ : Env) (i : Nat) (l : List D) (d : D) : Option Nat → SOut
  | some j => some (.next, ρ.set i (some (.lst (l.set j d))))
  | none => none
@[simp] theorem k_stJ {i j : Nat} {l : List D} {d : D} : stJ ρ i l d (some j) = some (.next, ρ.set i (some (.lst (l.set j d)))) := by rfl
@[simp] theorem k_st {i : Nat} {k : Int} {d : D} {l : List D} : stK ρ i (.int k) d (some (.lst l)) = stJ ρ i l d (L2.ixN l.length k) := by
  unfold stK stJ
  rfl
theorem setAt_eq {i : Nat} {k d : D} : (opS (setAt ρ i k d) fun ρ => some (Fl.next, ρ)) = stK ρ i k d ((ρ[i]?).join) := by
  rw [← k_look]
  unfold setAt stK
  cases look ρ i with
  | none => rfl
  | some t =>
    cases t with
    | lst l =>
      cases k <;> try rfl
      rename_i k
      show opS (match L2.ixN l.length k with | some j => _ | none => none) _ = (match L2.ixN l.length k with | some j => _ | none => none)
      cases L2.ixN l.length k <;> rfl
    | _ => rfl
def se2 (i : Nat) (d k : D) (ρ : Env) : SOut := stK ρ i k d ((ρ[i]?).join)
@[simp] theorem k_se2 {i : Nat} {d k : D} : se2 i d k ρ = stK ρ i k d ((ρ[i]?).join) := by rfl
def se1 (i : Nat) (m : Env → Out T) (d : D) (ρ : Env) : Option T → SOut
  | some (.lst _) => xs (evD (m ρ)) (se2 i d)
  | _ => none
@[simp] theorem k_se1 {i : Nat} {m : Env → Out T} {d : D} {l : List D} : se1 i m d ρ (some (.lst l)) = xs (evD (m ρ)) (se2 i d) := by rfl
def se0 (i : Nat) (m : Env → Out T) (d : D) (ρ : Env) : SOut := se1 i m d ρ ((ρ[i]?).join)
@[simp] theorem k_se0 {i : Nat} {m : Env → Out T} {d : D} : se0 i m d ρ = se1 i m d ρ ((ρ[i]?).join) := by rfl
@[simp] theorem k_setI {i : Nat} {k e : E} : exS Y (.setI i k e) ρ = xs (evD (ev Y e ρ)) (se0 i (ev Y k)) := by
  conv => lhs; unfold exS
  congr 1
  funext d ρ
  unfold se0
  rw [← k_look]
  unfold se1
  cases look ρ i with
  | none => rfl
  | some t =>
    cases t <;> try rfl
    show xs _ _ = xs _ _
    congr 1
    funext k ρ
    exact setAt_eq
def au4 (i : Nat) (k : Int) (x y : D) (ρ : Env) : SOut := match x, y with
  | .int x, .int y => stK ρ i (.int k) (.int (x + y)) ((ρ[i]?).join)
  | _, _ => none
@[simp] theorem k_au4 {i : Nat} {k x y : Int} : au4 i k (.int x) (.int y) ρ = stK ρ i (.int k) (.int (x + y)) ((ρ[i]?).join) := by rfl
def au3 (i : Nat) (k : Int) (m : Env → Out T) (ρ : Env) : Option D → SOut
  | some x => xs (evD (m ρ)) (au4 i k x)
  | _ => none
@[simp] theorem k_au3 {i : Nat} {k : Int} {x : D} {m : Env → Out T} : au3 i k m ρ (some x) = xs (evD (m ρ)) (au4 i k x) := by rfl
theorem augI_ok {i : Nat} {k e : E} {l l' : List D} {ρ1 ρ2 : Env} {j : Int} {x y : Int} (h : (ρ[i]?).join = some (.lst l)) (hk : evD (ev Y k ρ) = some (.ok (.int j), ρ1)) (h1 : (ρ1[i]?).join = some (.lst l')) (hx : L2.atI l' j = some (.int x)) (hy : evD (ev Y e ρ1) = some (.ok (.int y), ρ2)) :
    exS Y (.augI i k e) ρ = stK ρ2 i (.int j) (.int (x + y)) ((ρ2[i]?).join) := by
  rw [← k_look] at h h1
  conv => lhs; unfold exS
  rw [h]
  show xs (evD (ev Y k ρ)) _ = _
  rw [hk]
  show (match look ρ1 i, D.int j with
      | some (.lst l), .int k => opS (L2.atI l k) fun x => xs (evD (ev Y e ρ1)) fun y ρ => (match x, y with
        | .int x, .int y => opS (setAt ρ i (.int k) (.int (x + y))) fun ρ => some (.next, ρ)
        | _, _ => none)
      | _, _ => none) = _
  rw [h1]
  show opS (L2.atI l' j) _ = _
  rw [hx]
  show xs (evD (ev Y e ρ1)) _ = _
  rw [hy]
  exact setAt_eq
def ai2 (i : Nat) (m : Env → Out T) (k : D) (ρ : Env) : Option T → SOut
  | some (.lst l) => (match k with
    | .int k => au3 i k m ρ (L2.atI l k)
    | _ => none)
  | _ => none
@[simp] theorem k_ai2 {i : Nat} {m : Env → Out T} {k : Int} {l : List D} : ai2 i m (.int k) ρ (some (.lst l)) = au3 i k m ρ (L2.atI l k) := by rfl
def ai1 (i : Nat) (m : Env → Out T) (k : D) (ρ : Env) : SOut := ai2 i m k ρ ((ρ[i]?).join)
@[simp] theorem k_ai1 {i : Nat} {m : Env → Out T} {k : D} : ai1 i m k ρ = ai2 i m k ρ ((ρ[i]?).join) := by rfl
def ai0 (i : Nat) (mk m : Env → Out T) (ρ : Env) : Option T → SOut
  | some (.lst _) => xs (evD (mk ρ)) (ai1 i m)
  | _ => none
@[simp] theorem k_ai0 {i : Nat} {mk m : Env → Out T} {l : List D} : ai0 i mk m ρ (some (.lst l)) = xs (evD (mk ρ)) (ai1 i m) := by rfl
@[simp] theorem k_augI {i : Nat} {k e : E} : exS Y (.augI i k e) ρ = ai0 i (ev Y k) (ev Y e) ρ ((ρ[i]?).join) := by
  rw [← k_look]
  conv => lhs; unfold exS
  unfold ai0
  cases look ρ i with
  | none => rfl
  | some t =>
    cases t <;> try rfl
    show xs _ _ = xs _ _
    congr 1
    funext k ρ
    unfold ai1 ai2
    rw [← k_look]
    cases look ρ i with
    | none => rfl
    | some t =>
      cases t <;> try rfl
      cases k <;> try rfl
      rename_i l k
      show opS (L2.atI l k) _ = au3 i k (ev Y e) ρ (L2.atI l k)
      cases L2.atI l k with
      | none => rfl
      | some x =>
        show xs _ _ = xs _ _
        congr 1
        funext y ρ
        unfold au4
        cases x <;> cases y <;> first | exact setAt_eq | rfl
def an2 (i : Nat) (x : Int) (y : D) (ρ : Env) : SOut := match y with
  | .int y => if i < ρ.length then some (.next, ρ.set i (some (.val (.int (x + y))))) else none
  | _ => none
@[simp] theorem k_an2 {i : Nat} {x y : Int} : an2 i x (.int y) ρ = if i < ρ.length then some (.next, ρ.set i (some (.val (.int (x + y))))) else none := by rfl
def an1 (i : Nat) (m : Env → Out T) (ρ : Env) : Option T → SOut
  | some (.val (.int x)) => xs (evD (m ρ)) (an2 i x)
  | _ => none
@[simp] theorem k_an1 {i : Nat} {m : Env → Out T} {x : Int} : an1 i m ρ (some (.val (.int x))) = xs (evD (m ρ)) (an2 i x) := by rfl
@[simp] theorem k_augN {i : Nat} {e : E} : exS Y (.augN i e) ρ = an1 i (ev Y e) ρ ((ρ[i]?).join) := by
  rw [← k_look]
  conv => lhs; unfold exS
  unfold an1
  cases look ρ i with
  | none => rfl
  | some t =>
    cases t with
    | val d =>
      cases d <;> try rfl
      all_goals
        show xs _ _ = xs _ _
        congr 1
        funext y ρ
        cases y <;> rfl
    | _ => rfl
/-- one turn of a for -/
def fS (Y : Sys) (g : Tg) (b : List S) (d : D) (ρ : Env) : SOut := opS (asgD g d ρ) (exSs Y b)
theorem fS_eq {g : Tg} {b : List S} {d : D} : fS Y g b d ρ = opS (asgD g d ρ) (exSs Y b) := rfl
def fE (ρ1 : Env) (hs : List Nat) : SOut → SOut
  | some (f, ρ2) => some (f, back ρ1 ρ2 hs)
  | none => none
@[simp] theorem k_fE {ρ1 : Env} {hs : List Nat} {f : Fl} : fE ρ1 hs (some (f, ρ)) = some (f, back ρ1 ρ hs) := by rfl
def fA (Y : Sys) (g : Tg) (b : List S) (w : List D × List Nat) (ρ1 : Env) : SOut :=
  if w.1.length ≤ LL ∧ w.2.all (fun i => !(asgSs b).contains i && !(tgs g).contains i) then fE ρ1 w.2 (forLoop (fS Y g b) w.1 (hide ρ1 w.2)) else none
@[simp] theorem k_fA {g : Tg} {b : List S} {l : List D} (h : l.length ≤ LL) : fA Y g b (l, []) ρ = fE ρ [] (forLoop (fS Y g b) l ρ) := by
  unfold fA
  rw [if_pos ⟨h, rfl⟩]
  rfl
theorem k_fA1 {g : Tg} {b : List S} {l : List D} {i : Nat} (h : l.length ≤ LL) (h2 : (!(asgSs b).contains i && !(tgs g).contains i) = true) : fA Y g b (l, [i]) ρ = fE ρ [i] (forLoop (fS Y g b) l (ρ.set i none)) := by
  unfold fA
  rw [if_pos ⟨h, by simp only [List.all_cons, List.all_nil, Bool.and_true]; exact h2⟩]
  simp only [k_hd, k_hd0]
@[simp] theorem k_for {g : Tg} {it : E} {b : List S} : exS Y (.for_ g it b) ρ = xs (evIt Y (fun i => occSs i b || (tgs g).contains i) it ρ) (fA Y g b) := by
  conv => lhs; unfold exS
  congr 1
  all_goals
    funext w ρ
    unfold fA fE
    rfl
/-! defs -/
def fiK (as : List Nat) (ρ : Env) (ts : List T) : SOut → Option (Res T × List T)
  | some (.next, ρ) => (finals as ρ ts 0).map fun ts' => (.ok (.val .non), ts')
  | some (.ret t, ρ) => (finals as ρ ts 0).map fun ts' => (.ok t, ts')
  | some (.err c e, ρ) => (finals as ρ ts 0).map fun ts' => (.err c e, ts')
  | _ => none
theorem run_eq {np nn : Nat} {b : List S} {ts : List T} (h : ts.length = np) : runDef Y ⟨np, nn, b⟩ ts = fiK (asgSs b) ρ ts (exSs Y b (ts.map some ++ List.replicate (nn - np) none)) := by
  unfold runDef
  rw [if_pos h]
  unfold fiK
  rfl
def fin (as : List Nat) (ts : List T) : SOut → Option (Res T × List T)
  | some (.next, ρ) => (finals as ρ ts 0).map fun ts' => (.ok (.val .non), ts')
  | some (.ret t, ρ) => (finals as ρ ts 0).map fun ts' => (.ok t, ts')
  | some (.err c e, ρ) => (finals as ρ ts 0).map fun ts' => (.err c e, ts')
  | _ => none
@[simp] theorem k_run {np nn : Nat} {b : List S} {ts : List T} : runDef Y ⟨np, nn, b⟩ ts = if ts.length = np then fin (asgSs b) ts (exSs Y b (ts.map some ++ List.replicate (nn - np) none)) else none := by rfl
@[simp] theorem k_finN {as : List Nat} {ts : List T} : fin as ts (some (.next, ρ)) = (finals as ρ ts 0).map fun ts' => (.ok (.val .non), ts') := by rfl
@[simp] theorem k_finR {as : List Nat} {ts : List T} {t : T} : fin as ts (some (.ret t, ρ)) = (finals as ρ ts 0).map fun ts' => (.ok t, ts') := by rfl
@[simp] theorem k_finE {as : List Nat} {ts : List T} {c : Nat} {d : D} : fin as ts (some (.err c d, ρ)) = (finals as ρ ts 0).map fun ts' => (.err c d, ts') := by rfl
@[simp] theorem k_fi0 {as : List Nat} {k : Nat} : finals as ρ [] k = some [] := by unfold finals; rfl
@[simp] theorem k_fiV {as : List Nat} {k : Nat} {d : D} {r : List T} : finals as ρ (.val d :: r) k = (finals as ρ r (k + 1)).map (.val d :: ·) := by
  conv => lhs; unfold finals
@[simp] theorem k_fiL {as : List Nat} {k : Nat} {l : List D} {r : List T} : finals as ρ (.lst l :: r) k = if as.contains k then none else atK ((ρ[k]?).join) (finals as ρ r (k + 1)) := by
  conv => lhs; unfold finals
  rw [k_look]
  cases (ρ[k]?).join <;> cases finals as ρ r (k + 1) <;> rfl
@[simp] theorem k_fiI {as : List Nat} {k c : Nat} {l : List T} {r : List T} : finals as ρ (.ins c l :: r) k = if as.contains k then none else atK ((ρ[k]?).join) (finals as ρ r (k + 1)) := by
  conv => lhs; unfold finals
  rw [k_look]
  cases (ρ[k]?).join <;> cases finals as ρ r (k + 1) <;> rfl
@[simp] theorem k_fiK {as : List Nat} {k : Nat} {ks : List Key} {l : List T} {r : List T} : finals as ρ (.dic ks l :: r) k = if as.contains k then none else atK ((ρ[k]?).join) (finals as ρ r (k + 1)) := by
  conv => lhs; unfold finals
  rw [k_look]
  cases (ρ[k]?).join <;> cases finals as ρ r (k + 1) <;> rfl
/-! operations -/
@[simp] theorem b_add {i j : Int} : binD .add (.int i) (.int j) = some (.val (.int (i + j))) := by rfl
@[simp] theorem b_sub {i j : Int} : binD .sub (.int i) (.int j) = some (.val (.int (i - j))) := by rfl
@[simp] theorem b_mul {i j : Int} : binD .mul (.int i) (.int j) = if mulOk i j then some (.val (.int (i * j))) else none := by rfl
@[simp] theorem b_fdiv {i j : Int} : binD .fdiv (.int i) (.int j) = if j ≠ 0 ∧ Builtin.divisionGoesByPylong i j = false then some (.val (.int (i.fdiv j))) else none := by
  show (if decide (j ≠ 0 ∧ Builtin.divisionGoesByPylong i j = false) = true then _ else _) = _
  by_cases h : j ≠ 0 ∧ Builtin.divisionGoesByPylong i j = false
  · rw [if_pos h, if_pos (decide_eq_true h)]
  · rw [if_neg h, if_neg (by rw [decide_eq_false h]; exact Bool.false_ne_true)]
@[simp] theorem b_mod {i j : Int} : binD .mod (.int i) (.int j) = if j ≠ 0 then some (.val (.int (i.fmod j))) else none := by
  show (if decide (j ≠ 0) = true then _ else _) = _
  by_cases h : j ≠ 0
  · rw [if_pos h, if_pos (decide_eq_true h)]
  · rw [if_neg h, if_neg (by rw [decide_eq_false h]; exact Bool.false_ne_true)]
@[simp] theorem b_pow {i j : Int} : binD .pow (.int i) (.int j) = if 0 ≤ j ∧ (Builtin.Int.intBits i : Int) * j ≤ 2 ^ 27 then some (.val (.int (i ^ j.toNat))) else none := by
  show (if decide (0 ≤ j ∧ (Builtin.Int.intBits i : Int) * j ≤ 2 ^ 27) = true then _ else _) = _
  by_cases h : 0 ≤ j ∧ (Builtin.Int.intBits i : Int) * j ≤ 2 ^ 27
  · rw [if_pos h, if_pos (decide_eq_true h)]
  · rw [if_neg h, if_neg (by rw [decide_eq_false h]; exact Bool.false_ne_true)]
@[simp] theorem b_addL {a b : List D} : binD .add (.lst a) (.lst b) = if a.length + b.length ≤ LL then some (.lst (a ++ b)) else none := by rfl
@[simp] theorem b_addT {a b : List D} : binD .add (.tup a) (.tup b) = if a.length + b.length ≤ LL then some (.val (.tup (a ++ b))) else none := by rfl
@[simp] theorem b_mulL {a : List D} {k : Int} : binD .mul (.lst a) (.int k) = if (I63 k && decide (a.length * k.toNat ≤ LL)) = true then some (.lst (List.replicate k.toNat a).flatten) else none := by rfl
@[simp] theorem b_mulT {a : List D} {k : Int} : binD .mul (.tup a) (.int k) = if a ≠ [] ∧ 2 ≤ k ∧ k ≤ 1000 ∧ a.length ≤ 1000 then some (.val (.tup (List.replicate k.toNat a).flatten)) else none := by
  show (if decide (a ≠ [] ∧ 2 ≤ k ∧ k ≤ 1000 ∧ a.length ≤ 1000) = true then _ else _) = _
  by_cases h : a ≠ [] ∧ 2 ≤ k ∧ k ≤ 1000 ∧ a.length ≤ 1000
  · rw [if_pos h, if_pos (decide_eq_true h)]
  · rw [if_neg h, if_neg (by rw [decide_eq_false h]; exact Bool.false_ne_true)]
@[simp] theorem q_lt {i j : Int} : cmpD .lt (.int i) (.int j) = some (decide (i < j)) := by rfl
@[simp] theorem q_le {i j : Int} : cmpD .le (.int i) (.int j) = some (decide (i ≤ j)) := by rfl
@[simp] theorem q_gt {i j : Int} : cmpD .gt (.int i) (.int j) = some (decide (j < i)) := by rfl
@[simp] theorem q_ge {i j : Int} : cmpD .ge (.int i) (.int j) = some (decide (j ≤ i)) := by rfl
@[simp] theorem q_eq {a b : D} : cmpD .eq a b = (eqD a b).or (eqE a b) := by rfl
@[simp] theorem q_ne {a b : D} : cmpD .ne a b = ((eqD a b).or (eqE a b)).map (!·) := by rfl
@[simp] theorem q_is {d : D} : cmpD .is d .non = some (isNon d) := by rfl
@[simp] theorem q_isn {d : D} : cmpD .isnot d .non = some (!isNon d) := by rfl
@[simp] theorem q_in {a b : D} : cmpD .isin a b = inD a b := by rfl
@[simp] theorem q_nin {a b : D} : cmpD .notin a b = (inD a b).map (!·) := by rfl
@[simp] theorem i_n : isNon .non = true := by rfl
@[simp] theorem i_i {i : Int} : isNon (.int i) = false := by rfl
@[simp] theorem i_b {i : Bool} : isNon (.bl i) = false := by rfl
@[simp] theorem i_s {i : Str} : isNon (.str i) = false := by rfl
@[simp] theorem i_t {i : List D} : isNon (.tup i) = false := by rfl
@[simp] theorem i_l {i : List D} : isNon (.lst i) = false := by rfl
@[simp] theorem eqD_int {i j : Int} : eqD (.int i) (.int j) = some (decide (i = j)) := by
  show (if plain (.int i) && plain (.int j) && decide (min (depth (.int i)) (depth (.int j)) ≤ 64) then some (eqv (.int i) (.int j)) else none) = _
  simp [plain, depth, eqv]
  rfl
@[simp] theorem s_t0 {a : D} {r : List D} : subD (.tup (a :: r)) (.int 0) = some a := by
  show L2.atI (a :: r) 0 = some a
  simp [L2.atI, L2.ixN]
@[simp] theorem s_t1 {a b : D} {r : List D} : subD (.tup (a :: b :: r)) (.int 1) = some b := by
  show L2.atI (a :: b :: r) 1 = some b
  have h : (1 : Int) < r.length + 1 + 1 := by omega
  simp [L2.atI, L2.ixN, h]
@[simp] theorem s_t2 {a b c : D} {r : List D} : subD (.tup (a :: b :: c :: r)) (.int 2) = some c := by
  show L2.atI (a :: b :: c :: r) 2 = some c
  have h : (2 : Int) < r.length + 1 + 1 + 1 := by omega
  simp [L2.atI, L2.ixN, h]
@[simp] theorem s_l0 {a : D} {r : List D} : subD (.lst (a :: r)) (.int 0) = some a := s_t0
@[simp] theorem s_l1 {a b : D} {r : List D} : subD (.lst (a :: b :: r)) (.int 1) = some b := s_t1
@[simp] theorem s_l2 {a b c : D} {r : List D} : subD (.lst (a :: b :: c :: r)) (.int 2) = some c := s_t2
theorem atI_nat' {l : List α} {k : Nat} : L2.atI l (k : Int) = l[k]? := by
  by_cases h : k < l.length
  · simp [L2.atI, L2.ixN, h]
  · have h2 : ¬ (k : Int) < l.length := by omega
    simp [L2.atI, L2.ixN, h]
theorem ixN_nat {n k : Nat} (h : k < n) : L2.ixN n (k : Int) = some k := by simp [L2.ixN, h]
theorem s_tk {l : List D} {k : Nat} : subD (.tup l) (.int (k : Int)) = l[k]? := atI_nat'
theorem s_lk {l : List D} {k : Nat} : subD (.lst l) (.int (k : Int)) = l[k]? := atI_nat'
@[simp] theorem t_lenL {l : List D} : bltD .len [.lst l] = some (.val (.int l.length)) := by rfl
@[simp] theorem t_lenT {l : List D} : bltD .len [.tup l] = some (.val (.int l.length)) := by rfl
@[simp] theorem t_lenS {l : List Int} : bltD .len [.scr l] = some (.val (.int l.length)) := by rfl
@[simp] theorem t_abs {i : Int} : bltD .abs [.int i] = some (.val (.int (if i < 0 then -i else i))) := by rfl
@[simp] theorem t_int {i : Int} : bltD .int [.int i] = some (.val (.int i)) := by rfl
@[simp] theorem t_intB {k : Bool} : bltD .int [.bl k] = some (.val (.int (if k then 1 else 0))) := by rfl
@[simp] theorem t_max {i j : Int} : bltD .max [.int i, .int j] = some (.val (.int (if j > i then j else i))) := by rfl
@[simp] theorem t_min {i j : Int} : bltD .min [.int i, .int j] = some (.val (.int (if j < i then j else i))) := by rfl
@[simp] theorem t_sum {l : List Int} : bltD .sum [.lst (l.map .int)] = some (.val (.int l.sum)) := by
  show (intsD (l.map .int)).map (fun ns => T.val (.int ns.sum)) = _
  rw [intsD_map]
  rfl
@[simp] theorem t_all {l : List Bool} : bltD .all [.lst (l.map .bl)] = some (.val (.bl (l.all id))) := by
  show (blsD (l.map .bl)).map (fun ns => T.val (.bl (ns.all id))) = _
  rw [blsD_map]
  rfl
@[simp] theorem t_any {l : List Bool} : bltD .any [.lst (l.map .bl)] = some (.val (.bl (l.any id))) := by
  show (blsD (l.map .bl)).map (fun ns => T.val (.bl (ns.any id))) = _
  rw [blsD_map]
  rfl
@[simp] theorem t_sumC {l : List α} {f : α → Int} : bltD .sum [.lst (l.map (D.int ∘ f))] = some (.val (.int (l.map f).sum)) := by rw [← List.map_map]; exact t_sum
@[simp] theorem t_allC {l : List α} {f : α → Bool} : bltD .all [.lst (l.map (D.bl ∘ f))] = some (.val (.bl (l.all f))) := by
  rw [← List.map_map, t_all, List.all_map]
  rfl
@[simp] theorem t_anyC {l : List α} {f : α → Bool} : bltD .any [.lst (l.map (D.bl ∘ f))] = some (.val (.bl (l.any f))) := by
  rw [← List.map_map, t_any, List.any_map]
  rfl
@[simp] theorem t_sumF {l : List α} {f : α → Int} : bltD .sum [.lst (l.map fun x => D.int (f x))] = some (.val (.int (l.map f).sum)) := t_sumC
@[simp] theorem t_allF {l : List α} {f : α → Bool} : bltD .all [.lst (l.map fun x => D.bl (f x))] = some (.val (.bl (l.all f))) := t_allC
@[simp] theorem t_anyF {l : List α} {f : α → Bool} : bltD .any [.lst (l.map fun x => D.bl (f x))] = some (.val (.bl (l.any f))) := t_anyC
@[simp] theorem t_tupL {l : List D} : bltD .tuple [.lst l] = some (.val (.tup l)) := by rfl
@[simp] theorem t_tupT {l : List D} : bltD .tuple [.tup l] = some (.val (.tup l)) := by rfl
@[simp] theorem t_lstL {l : List D} : bltD .list [.lst l] = some (.lst l) := by rfl
@[simp] theorem t_lstT {l : List D} : bltD .list [.tup l] = some (.lst l) := by rfl
@[simp] theorem t_isi {d : D} : bltD .isint [d] = (tyD d).map fun n => .val (.bl (n == 1 || n == 2)) := by rfl
@[simp] theorem t_isb {d : D} : bltD .isbool [d] = (tyD d).map fun n => .val (.bl (n == 1)) := by rfl
@[simp] theorem t_ist {d : D} : bltD .istuple [d] = (tyD d).map fun n => .val (.bl (n == 4)) := by rfl
@[simp] theorem t_iss {d : D} : bltD .isstr [d] = (tyD d).map fun n => .val (.bl (n == 3)) := by rfl
@[simp] theorem y_n : tyD .non = some 0 := by rfl
@[simp] theorem y_b {b : Bool} : tyD (.bl b) = some 1 := by rfl
@[simp] theorem y_i {b : Int} : tyD (.int b) = some 2 := by rfl
@[simp] theorem y_s {b : Str} : tyD (.str b) = some 3 := by rfl
@[simp] theorem y_t {b : List D} : tyD (.tup b) = some 4 := by rfl
@[simp] theorem y_l {b : List D} : tyD (.lst b) = some 5 := by rfl
@[simp] theorem y_d {k : List Key} {b : List D} : tyD (.dic k b) = some 6 := by rfl
@[simp] theorem sl_t {l : List D} {lo hi : Option Int} : slcD (.tup l) lo hi = some (.val (.tup (cut l lo hi))) := by rfl
@[simp] theorem sl_s {z : Str} {lo hi : Option Int} : slcD (.str z) lo hi = if z.length ≤ LL then some (.val (.str (L2.cutS z lo hi))) else none := by rfl
@[simp] theorem sl_l {l : List D} {lo hi : Option Int} : slcD (.lst l) lo hi = some (.lst (cut l lo hi)) := by rfl
end Ev
end

section
set_option linter.all false
set_option maxRecDepth 100000
set_option maxHeartbeats 4000000
set_option exponentiation.threshold 100000
/-! Fractions in least terms. -/
namespace Ev
open PySem
/-- the fraction of two integers in least terms -/
def red (n u : Int) : Int × Int := (n.fdiv (if 0 < u then (Int.gcd n u : Int) else -(Int.gcd n u : Int)), u.fdiv (if 0 < u then (Int.gcd n u : Int) else -(Int.gcd n u : Int)))
def fr (p : Int × Int) : D := .tup [.int p.1, .int p.2]
theorem fr_inj {p q : Int × Int} (h : fr p = fr q) : p = q := by
  cases p; cases q
  unfold fr at h
  injection h with h
  injection h with h1 h
  injection h with h2 _
  injection h1 with h1
  injection h2 with h2
  exact Prod.ext h1 h2
theorem red_bd {k m : Nat} {n u : Int} (h : Bd k n) (h' : Bd m u) : Bd k (red n u).1 ∧ Bd m (red n u).2 := ⟨h.fdiv, h'.fdiv⟩
theorem fdiv_mul {a g : Int} (h : g ∣ a) : a.fdiv g * g = a := Int.fdiv_mul_cancel h
theorem red_mul {n u : Int} (h : 0 < u) : (red n u).1 * Int.gcd n u = n ∧ (red n u).2 * Int.gcd n u = u := by
  unfold red
  simp only [if_pos h]
  exact ⟨fdiv_mul (Int.gcd_dvd_left ..), fdiv_mul (Int.gcd_dvd_right ..)⟩
theorem gcd_pos {n u : Int} (h : 0 < u) : 0 < (Int.gcd n u : Int) := by
  have : Int.gcd n u ≠ 0 := fun z => by
    have := (Int.gcd_eq_zero_iff.mp z).2
    omega
  omega
theorem red_pos {n u : Int} (h : 0 < u) : 0 < (red n u).2 := by
  have e := (red_mul (n := n) h).2
  have g := gcd_pos (n := n) h
  rcases Int.lt_trichotomy (red n u).2 0 with q | q | q
  · have := Int.mul_neg_of_neg_of_pos q g
    omega
  · rw [q] at e
    omega
  · exact q
/-- in least terms -/
def Fr (p : Int × Int) : Prop := 0 < p.2 ∧ Int.gcd p.1 p.2 = 1
theorem red_fr {n u : Int} (h : 0 < u) : Fr (red n u) := by
  refine ⟨red_pos h, ?_⟩
  obtain ⟨e1, e2⟩ := red_mul (n := n) h
  have g := gcd_pos (n := n) h
  have e : Int.gcd ((red n u).1 * (Int.gcd n u : Int)) ((red n u).2 * (Int.gcd n u : Int)) = Int.gcd (red n u).1 (red n u).2 * Int.gcd n u := by
    rw [Int.gcd_mul_right]
    rfl
  rw [e1, e2] at e
  have g2 : 0 < Int.gcd n u := by omega
  have e3 : 1 * Int.gcd n u = Int.gcd (red n u).1 (red n u).2 * Int.gcd n u := by omega
  exact (Nat.eq_of_mul_eq_mul_right g2 e3).symm
/-- the same value -/
def Sv (a b c d : Int) : Prop := a * d = c * b
theorem red_sv {n u : Int} (h : 0 < u) : (red n u).1 * u = n * (red n u).2 := by
  obtain ⟨e1, e2⟩ := red_mul (n := n) h
  generalize (Int.gcd n u : Int) = g at e1 e2
  generalize red n u = p at e1 e2 ⊢
  rw [← e1, ← e2]
  grind
theorem dvd_of_fr {p : Int × Int} (h : Fr p) {x y : Int} (e : p.1 * y = x * p.2) : p.2 ∣ y := by
  have c : Int.gcd p.2 p.1 = 1 := by rw [Int.gcd_comm]; exact h.2
  have d : p.2 ∣ p.1 * y := ⟨x, by rw [e, Int.mul_comm]⟩
  have d' : p.2.natAbs ∣ p.1.natAbs * y.natAbs := by
    rw [← Int.natAbs_mul]
    exact Int.natAbs_dvd_natAbs.mpr d
  exact Int.natAbs_dvd_natAbs.mp (Nat.Coprime.dvd_of_dvd_mul_left (show Nat.Coprime p.2.natAbs p.1.natAbs from c) d')
theorem fr_eq {p q : Int × Int} (hp : Fr p) (hq : Fr q) (e : p.1 * q.2 = q.1 * p.2) : p = q := by
  have d1 : p.2 ∣ q.2 := dvd_of_fr hp e
  have d2 : q.2 ∣ p.2 := dvd_of_fr hq e.symm
  have e2 : p.2 = q.2 := Int.dvd_antisymm (Int.le_of_lt hp.1) (Int.le_of_lt hq.1) d1 d2
  have e1 : p.1 = q.1 := by
    rw [e2] at e
    exact Int.eq_of_mul_eq_mul_right (by have := hq.1; omega) e
  exact Prod.ext e1 e2
theorem red_eq {n u : Int} {p : Int × Int} (h : 0 < u) (hp : Fr p) (e : p.1 * u = n * p.2) : red n u = p := by
  refine fr_eq (red_fr h) hp ?_
  have e2 := red_sv (n := n) h
  have hu : u ≠ 0 := by omega
  refine Int.eq_of_mul_eq_mul_right hu ?_
  generalize red n u = r at e2 ⊢
  grind
def addF (a b : Int × Int) : Int × Int := red (a.1 * b.2 + b.1 * a.2) (a.2 * b.2)
def totF (l : List (Int × Int)) : Int × Int := l.foldl addF (0, 1)
theorem add_fr {a b : Int × Int} (h : 0 < a.2) (h' : 0 < b.2) : Fr (addF a b) := red_fr (Int.mul_pos h h')
theorem foldl_take {α β : Type} (f : β → α → β) (b : β) (l : List α) {j : Nat} {x : α} (h : l[j]? = some x) : (l.take (j + 1)).foldl f b = f ((l.take j).foldl f b) x := by
  rw [List.take_add_one, h, List.foldl_append]
  rfl
theorem tot_fr {l : List (Int × Int)} (h : ∀ c, c ∈ l → 0 < c.2) : ∀ a, Fr a → Fr (l.foldl addF a) := by
  induction l with
  | nil => exact fun a ha => ha
  | cons c r ih => exact fun a ha => ih (fun d hd => h d (List.mem_cons_of_mem _ hd)) _ (add_fr ha.1 (h c List.mem_cons_self))
theorem fr_0 : Fr (0, 1) := ⟨by decide, rfl⟩
theorem fr_1 : Fr (1, 1) := ⟨by decide, rfl⟩
theorem tot_bd {k : Nat} : ∀ {l : List (Int × Int)} {m : Nat} {a : Int × Int}, (∀ c, c ∈ l → 0 < c.2 ∧ Bd k c.1 ∧ Bd k c.2) → 0 < a.2 → Bd (k * (m + 1) + m) a.1 → Bd (k * (m + 1)) a.2 →
    Bd (k * (m + l.length + 1) + (m + l.length)) (l.foldl addF a).1 ∧ Bd (k * (m + l.length + 1)) (l.foldl addF a).2
  | [], _, _, _, _, h1, h2 => ⟨h1, h2⟩
  | c :: r, m, a, h, h0, h1, h2 => by
    obtain ⟨q0, q1, q2⟩ := h c List.mem_cons_self
    have e : k * (m + 1 + 1) = k * (m + 1) + k := by rw [Nat.mul_succ]
    have b1 : Bd (k * (m + 1 + 1) + (m + 1)) (a.1 * c.2 + c.1 * a.2) := by
      have x1 : Bd (k * (m + 1) + m + k) (a.1 * c.2) := h1.mul q2
      have x2 : Bd (k * (m + 1) + m + k) (c.1 * a.2) := (q1.mul h2).mono (by omega)
      exact (x1.add x2).mono (by omega)
    have b2 : Bd (k * (m + 1 + 1)) (a.2 * c.2) := (h2.mul q2).mono (by omega)
    have b := red_bd b1 b2
    have i := tot_bd (l := r) (m := m + 1) (a := addF a c) (fun d hd => h d (List.mem_cons_of_mem _ hd)) (red_pos (Int.mul_pos h0 q0)) b.1 b.2
    have el : m + (c :: r).length = m + 1 + r.length := by rw [List.length_cons]; omega
    rw [el]
    exact i
/-- the sum over one under -/
theorem tot_sum {S : Int} (hS : 0 < S) : ∀ {l : List (Int × Int)} {xs : List Int} {a : Int × Int} {s : Int}, l.length = xs.length → (∀ (i : Nat) (c : Int × Int) (x : Int), l[i]? = some c → xs[i]? = some x → 0 < c.2 ∧ c.1 * S = x * c.2) → 0 < a.2 → a.1 * S = s * a.2 →
    (l.foldl addF a).1 * S = (s + xs.sum) * (l.foldl addF a).2
  | [], [], a, s, _, _, _, h => by simpa using h
  | c :: r, x :: t, a, s, hl, h, h0, h1 => by
    obtain ⟨q1, q2⟩ := h 0 c x rfl rfl
    have i := tot_sum hS (l := r) (xs := t) (a := addF a c) (s := s + x) (by simpa using hl) (fun i c x u v => h (i + 1) c x u v) (red_pos (Int.mul_pos h0 q1)) (by
      have e := red_sv (n := a.1 * c.2 + c.1 * a.2) (Int.mul_pos h0 q1)
      have e' : (addF a c).1 * (a.2 * c.2) = (a.1 * c.2 + c.1 * a.2) * (addF a c).2 := e
      generalize addF a c = r at e' ⊢
      have hn : a.2 * c.2 ≠ 0 := Int.ne_of_gt (Int.mul_pos h0 q1)
      refine Int.eq_of_mul_eq_mul_right hn ?_
      have : r.1 * S * (a.2 * c.2) = (r.1 * (a.2 * c.2)) * S := by grind
      rw [this, e']
      have e3 : (a.1 * c.2 + c.1 * a.2) * S = (s + x) * (a.2 * c.2) := by grind
      grind)
    rw [List.sum_cons, List.foldl_cons, ← Int.add_assoc]
    exact i
  | [], _ :: _, _, _, h, _, _, _ => by cases h
  | _ :: _, [], _, _, h, _, _, _ => by cases h
theorem eqD_fr {p q : Int × Int} : eqD (fr p) (fr q) = some (decide (p = q)) := by
  have e : eqD (fr p) (fr q) = some (eqv (fr p) (fr q)) := by
    unfold eqD fr
    simp [plain, plains, depth, depths]
  rw [e]
  have e2 : eqv (fr p) (fr q) = (decide (p.1 = q.1) && decide (p.2 = q.2)) := by
    unfold fr
    simp only [eqv, eqvs, Bool.and_true]
    rfl
  rw [e2]
  congr 1
  by_cases h1 : p.1 = q.1 <;> by_cases h2 : p.2 = q.2 <;> simp [h1, h2, Prod.ext_iff]
theorem plains_ints : ∀ l : List Int, plains (l.map D.int) = true
  | [] => by rw [List.map_nil]; unfold plains; rfl
  | i :: r => by
    rw [List.map_cons]
    unfold plains plain
    rw [plains_ints r]
    rfl
theorem depths_ints : ∀ l : List Int, depths (l.map D.int) = 0
  | [] => by rw [List.map_nil]; unfold depths; rfl
  | i :: r => by
    rw [List.map_cons]
    unfold depths depth
    rw [depths_ints r]
    rfl
theorem eqvs_ints : ∀ l m : List Int, eqvs (l.map D.int) (m.map D.int) = decide (l = m)
  | [], [] => by simp [eqvs]
  | [], _ :: _ => by simp [eqvs]
  | _ :: _, [] => by simp [eqvs]
  | i :: r, j :: s => by
    rw [List.map_cons, List.map_cons]
    unfold eqvs eqv
    rw [eqvs_ints r s]
    have e : (i == j) = decide (i = j) := rfl
    rw [e]
    by_cases h1 : i = j <;> by_cases h2 : r = s <;> simp [h1, h2]
theorem eqD_ints {l m : List Int} : eqD (.tup (l.map D.int)) (.tup (m.map D.int)) = some (decide (l = m)) := by
  unfold eqD
  have e1 : plain (.tup (l.map D.int)) = true := by unfold plain; exact plains_ints l
  have e2 : plain (.tup (m.map D.int)) = true := by unfold plain; exact plains_ints m
  have e3 : depth (.tup (l.map D.int)) = 1 := by unfold depth; rw [depths_ints]
  have e4 : eqv (.tup (l.map D.int)) (.tup (m.map D.int)) = decide (l = m) := by unfold eqv; exact eqvs_ints l m
  have e5 : depth (.tup (m.map D.int)) = 1 := by unfold depth; rw [depths_ints]
  rw [e1, e2, e3, e4, e5]
  rfl
/-- naturals as data -/
def ctD (cs : List Nat) : List D := cs.map fun c => .int (c : Nat)
theorem ctD_len {cs : List Nat} : (ctD cs).length = cs.length := List.length_map ..
theorem eqD_ct {l m : List Nat} : eqD (.tup (ctD l)) (.tup (ctD m)) = some (decide (l = m)) := by
  have e : ∀ l : List Nat, ctD l = (l.map fun c : Nat => (c : Int)).map D.int := fun l => by unfold ctD; rw [List.map_map]; rfl
  rw [e, e, eqD_ints]
  congr 1
  have inj : ((l.map fun c : Nat => (c : Int)) = m.map fun c : Nat => (c : Int)) ↔ l = m := by
    constructor
    · intro h
      exact (List.map_inj_right (f := fun c : Nat => (c : Int)) (fun a b h => by have h : (a : Int) = (b : Int) := h; omega)).mp h
    · intro h
      rw [h]
  by_cases h : l = m <;> simp [h]
  intro z
  exact h (inj.mp z)
mutual
/-- data of any kind, its ints of a size -/
def okD (k : Nat) : D → Prop
  | .non => True
  | .bl _ => True
  | .str _ => True
  | .int i => Bd k i
  | .tup l => okDs k l
  | .lst l => okDs k l
  | .dic _ l => okDs k l
  | _ => False
def okDs (k : Nat) : List D → Prop
  | [] => True
  | d :: r => okD k d ∧ okDs k r
end
theorem okDs_mem {k : Nat} : ∀ {l : List D}, okDs k l → ∀ d, d ∈ l → okD k d
  | [], _, _, h => by cases h
  | e :: r, o, d, h => by
    unfold okDs at o
    rcases List.mem_cons.mp h with rfl | h
    · exact o.1
    · exact okDs_mem o.2 d h
theorem okDs_of {k : Nat} : ∀ {l : List D}, (∀ d, d ∈ l → okD k d) → okDs k l
  | [], _ => by unfold okDs; trivial
  | e :: r, h => by
    unfold okDs
    exact ⟨h e List.mem_cons_self, okDs_of fun d hd => h d (List.mem_cons_of_mem _ hd)⟩
mutual
theorem okD_mono' {k m : Nat} (h : k ≤ m) : ∀ {d : D}, okD k d → okD m d
  | .non, o => by unfold okD; trivial
  | .bl _, o => by unfold okD; trivial
  | .str _, o => by unfold okD; trivial
  | .int i, o => by unfold okD at o ⊢; exact o.mono h
  | .tup l, o => by unfold okD at o ⊢; exact okDs_mono h o
  | .lst l, o => by unfold okD at o ⊢; exact okDs_mono h o
  | .dic _ l, o => by unfold okD at o ⊢; exact okDs_mono h o
  | .ins _ _, o => by unfold okD at o; exact o.elim
  | .scr _, o => by unfold okD at o; exact o.elim
theorem okDs_mono {k m : Nat} (h : k ≤ m) : ∀ {l : List D}, okDs k l → okDs m l
  | [], _ => by unfold okDs; trivial
  | d :: r, o => by
    unfold okDs at o ⊢
    exact ⟨okD_mono' h o.1, okDs_mono h o.2⟩
end
theorem okD_mono {k m : Nat} {d : D} (o : okD k d) (h : k ≤ m) : okD m d := okD_mono' h o
theorem filterMap_some {α β : Type} {f : α → β} : ∀ {l : List α}, l.filterMap (fun x => some (f x)) = l.map f
  | [] => rfl
  | x :: r => by
    rw [List.filterMap_cons_some (f := fun x => some (f x)) (b := f x) rfl, filterMap_some]
    rfl
theorem okD_ty {k : Nat} {d : D} (h : okD k d) : (tyD d).isSome = true := by
  cases d <;> first | rfl | (unfold okD at h; exact h.elim)
theorem okD_tup {k : Nat} {l : List D} (h : okD k (.tup l)) : okDs k l := by unfold okD at h; exact h
theorem okD_int {k : Nat} {i : Int} (h : okD k (.int i)) : Bd k i := by unfold okD at h; exact h
def isIntD : D → Option Int
  | .int i => some i
  | _ => none
def isTupD : D → Option (List D)
  | .tup l => some l
  | _ => none
/-- a fraction in least terms -/
def isFrD : D → Option (Int × Int)
  | .tup [.int a, .int b] => if 1 ≤ b ∧ Int.gcd a b = 1 then some (a, b) else none
  | _ => none
theorem isFrD_ok {d : D} {p : Int × Int} (h : isFrD d = some p) : d = fr p ∧ Fr p := by
  unfold isFrD at h
  split at h
  · split at h
    · rename_i q
      cases h
      exact ⟨rfl, by unfold Fr; constructor <;> (simp only []; omega)⟩
    · cases h
  · cases h
theorem isFrD_fr {p : Int × Int} (h : Fr p) : isFrD (fr p) = some p := by
  have h1 := h.1
  show (if 1 ≤ p.2 ∧ Int.gcd p.1 p.2 = 1 then some (p.1, p.2) else none) = some p
  rw [if_pos ⟨by omega, h.2⟩]
/-- .. from an integer on -/
def isFrL (low : Int) (d : D) : Bool := match isFrD d with
  | some p => decide (low * p.2 ≤ p.1)
  | none => false
def isFr0 (d : D) : Option (Int × Int) := match isFrD d with
  | some p => if 0 ≤ p.1 then some p else none
  | none => none
/-- parts of so many -/
def partsD (d : D) (many : Int) : Option (List (Int × Int)) := match isTupD d with
  | some l => if (l.length : Int) = many then (match l.mapM isFr0 with
    | some ps => if totF ps = (1, 1) then some ps else none
    | none => none) else none
  | none => none
end Ev
end

section
set_option linter.all false
set_option maxRecDepth 100000
set_option maxHeartbeats 4000000
/-! Asks dealt: the plain part. -/
namespace Ev
def nxS (time : Int) (acc : Option (Nat × Int × Int)) (i : Nat) (p : Int × Int) (c : Nat) : Option (Nat × Int × Int) :=
  if (c : Int) * p.2 < p.1 * time then (match acc with
    | none => some (i, ((c : Int) + 1) * p.2, p.1)
    | some (j, x, y) => if ((c : Int) + 1) * p.2 * y < x * p.1 then some (i, ((c : Int) + 1) * p.2, p.1) else some (j, x, y))
  else acc
/-- what is found behind so many -/
def nxA (time : Int) (ch : List (Int × Int)) (cs : List Nat) : Nat → Option (Nat × Int × Int)
  | 0 => none
  | j + 1 => nxS time (nxA time ch cs j) j (ch.getD j (0, 1)) (cs.getD j 0)
def tot (cs : List Nat) : Int := (cs.map fun c : Nat => (c : Int)).sum
def nextOf (ch : List (Int × Int)) (cs : List Nat) : Option Nat := (nxA (tot cs + 1) ch cs ch.length).map (·.1)
def incr (cs : List Nat) (i : Nat) : List Nat := cs.set i (cs.getD i 0 + 1)
/-- counts and numbers dealt behind so many laps -/
def deal (ch : List (Int × Int)) : Nat → Option (List Nat × List Nat)
  | 0 => some (ch.map fun _ => 0, [])
  | n + 1 => (deal ch n).bind fun q => (nextOf ch q.1).map fun i => (incr q.1 i, q.2 ++ [i])
/-- what is found is one of those that may be dealt -/
theorem nxA_ok {t : Int} {ch : List (Int × Int)} {cs : List Nat} : ∀ {j : Nat} {q : Nat × Int × Int}, nxA t ch cs j = some q → q.1 < j ∧ q.2.1 = ((cs.getD q.1 0 : Nat) + 1 : Int) * (ch.getD q.1 (0, 1)).2 ∧ q.2.2 = (ch.getD q.1 (0, 1)).1 ∧ ((cs.getD q.1 0 : Nat) : Int) * (ch.getD q.1 (0, 1)).2 < (ch.getD q.1 (0, 1)).1 * t
  | 0, q, h => by cases h
  | j + 1, q, h => by
    have up : nxA t ch cs j = some q → q.1 < j + 1 ∧ q.2.1 = ((cs.getD q.1 0 : Nat) + 1 : Int) * (ch.getD q.1 (0, 1)).2 ∧ q.2.2 = (ch.getD q.1 (0, 1)).1 ∧ ((cs.getD q.1 0 : Nat) : Int) * (ch.getD q.1 (0, 1)).2 < (ch.getD q.1 (0, 1)).1 * t := fun h => by
      obtain ⟨h1, h2⟩ := nxA_ok h
      exact ⟨Nat.lt_succ_of_lt h1, h2⟩
    have h' : nxS t (nxA t ch cs j) j (ch.getD j (0, 1)) (cs.getD j 0) = some q := h
    unfold nxS at h'
    split at h'
    · rename_i lt
      split at h'
      · cases h'
        exact ⟨Nat.lt_succ_self _, rfl, rfl, lt⟩
      · rename_i a x y e
        split at h'
        · cases h'
          exact ⟨Nat.lt_succ_self _, rfl, rfl, lt⟩
        · rw [h'] at e
          exact up e
    · exact up h'
theorem nextOf_lt {ch : List (Int × Int)} {cs : List Nat} {i : Nat} (h : nextOf ch cs = some i) : i < ch.length := by
  obtain ⟨q, h1, rfl⟩ := Option.map_eq_some_iff.mp h
  exact (nxA_ok h1).1
theorem incr_length {cs : List Nat} {i : Nat} : (incr cs i).length = cs.length := List.length_set
theorem deal_len {ch : List (Int × Int)} : ∀ {n : Nat} {q : List Nat × List Nat}, deal ch n = some q → q.1.length = ch.length ∧ q.2.length = n
  | 0, q, h => by
    cases h
    exact ⟨List.length_map .., rfl⟩
  | n + 1, q, h => by
    obtain ⟨p, h1, h2⟩ := Option.bind_eq_some_iff.mp h
    obtain ⟨i, h3, rfl⟩ := Option.map_eq_some_iff.mp h2
    obtain ⟨i1, i2⟩ := deal_len h1
    exact ⟨incr_length.trans i1, by rw [List.length_append, i2]; rfl⟩
theorem sum_set : ∀ {cs : List Int} {i : Nat} {x : Int}, i < cs.length → (cs.set i x).sum = cs.sum - cs.getD i 0 + x
  | [], _, _, h => absurd h (Nat.not_lt_zero _)
  | c :: r, 0, x, _ => by simp; omega
  | c :: r, i + 1, x, h => by
    have e := sum_set (cs := r) (i := i) (x := x) (Nat.lt_of_succ_lt_succ h)
    simp only [List.set_cons_succ, List.sum_cons, List.getD_cons_succ]
    rw [e]
    omega
theorem tot_incr {cs : List Nat} {i : Nat} (h : i < cs.length) : tot (incr cs i) = tot cs + 1 := by
  unfold tot incr
  have e := sum_set (cs := cs.map fun c : Nat => (c : Int)) (i := i) (x := ((cs.getD i 0 + 1 : Nat) : Int)) (by rw [List.length_map]; exact h)
  rw [List.map_set, e]
  have g : (cs.map fun c : Nat => (c : Int)).getD i 0 = (cs.getD i 0 : Nat) := by
    rw [List.getD_eq_getElem?_getD, List.getD_eq_getElem?_getD, List.getElem?_map]
    cases cs[i]? <;> rfl
  rw [g]
  omega
theorem tot_zero : ∀ (ch : List (Int × Int)), tot (ch.map fun _ => 0) = 0
  | [] => rfl
  | c :: r => by
    have i := tot_zero r
    unfold tot at *
    simp only [List.map_cons, List.sum_cons]
    rw [i]
    rfl
theorem deal_tot {ch : List (Int × Int)} : ∀ {n : Nat} {q : List Nat × List Nat}, deal ch n = some q → tot q.1 = n
  | 0, q, h => by
    cases h
    exact tot_zero ch
  | n + 1, q, h => by
    obtain ⟨p, h1, h2⟩ := Option.bind_eq_some_iff.mp h
    obtain ⟨i, h3, rfl⟩ := Option.map_eq_some_iff.mp h2
    rw [tot_incr (by rw [(deal_len h1).1]; exact nextOf_lt h3), deal_tot h1]
    omega
theorem le_tot : ∀ {cs : List Nat} {c : Nat}, c ∈ cs → (c : Int) ≤ tot cs
  | [], _, h => by cases h
  | d :: r, c, h => by
    have nn : ∀ r : List Nat, 0 ≤ tot r := fun r => by
      induction r with
      | nil => exact Int.le_refl _
      | cons a r ih =>
        unfold tot at *
        simp only [List.map_cons, List.sum_cons]
        omega
    have n := nn r
    have e : tot (d :: r) = d + tot r := by unfold tot; simp only [List.map_cons, List.sum_cons]
    rcases List.mem_cons.mp h with rfl | h
    · omega
    · have := le_tot h
      omega
/-- fewer laps are the first ones of more -/
theorem deal_prefix {ch : List (Int × Int)} {m n : Nat} {q : List Nat × List Nat} (h : deal ch n = some q) (l : m ≤ n) : ∃ p, deal ch m = some p ∧ p.2 = q.2.take m := by
  induction n generalizing q with
  | zero =>
    cases (Nat.le_zero.mp l)
    exact ⟨q, h, by rw [List.take_zero]; exact List.length_eq_zero_iff.mp (deal_len h).2⟩
  | succ n ih =>
    by_cases e : m = n + 1
    · subst e
      exact ⟨q, h, (List.take_of_length_le (Nat.le_of_eq (deal_len h).2)).symm⟩
    · obtain ⟨p, h1, h2⟩ := Option.bind_eq_some_iff.mp h
      obtain ⟨i, h3, rfl⟩ := Option.map_eq_some_iff.mp h2
      obtain ⟨r, r1, r2⟩ := ih h1 (by omega)
      refine ⟨r, r1, ?_⟩
      rw [r2]
      exact (List.take_append_of_le_length (by rw [(deal_len h1).2]; omega)).symm
end Ev
end

section
set_option linter.all false
set_option maxRecDepth 100000
set_option maxHeartbeats 4000000
/-! Asks dealt: there is always one to be dealt; the law's own dealing. -/
namespace Ev
/-- x: the parts over one under S -/
structure Over (S : Int) (xs : List Int) (ch : List (Int × Int)) : Prop where
  pos : 0 < S
  len : xs.length = ch.length
  sum : xs.sum = S
  eq : ∀ (i : Nat) (c : Int × Int) (x : Int), ch[i]? = some c → xs[i]? = some x → 0 < c.2 ∧ c.1 * S = x * c.2
def prodU : List (Int × Int) → Int
  | [] => 1
  | c :: r => c.2 * prodU r
theorem prodU_pos : ∀ {l : List (Int × Int)}, (∀ c, c ∈ l → 0 < c.2) → 0 < prodU l
  | [], _ => by decide
  | c :: r, h => Int.mul_pos (h c List.mem_cons_self) (prodU_pos fun d hd => h d (List.mem_cons_of_mem _ hd))
theorem prodU_dvd : ∀ {l : List (Int × Int)} {c : Int × Int}, c ∈ l → c.2 ∣ prodU l
  | [], _, h => by cases h
  | d :: r, c, h => by
    rcases List.mem_cons.mp h with rfl | h
    · exact ⟨prodU r, rfl⟩
    · obtain ⟨k, hk⟩ := prodU_dvd h
      exact ⟨d.2 * k, by show d.2 * prodU r = _; rw [hk]; grind⟩
/-- chances that come to 1, over one under -/
theorem over_of {ch : List (Int × Int)} (h : ∀ c, c ∈ ch → 0 < c.2) (t : totF ch = (1, 1)) : ∃ S xs, Over S xs ch := by
  have hS := prodU_pos h
  have eq : ∀ (i : Nat) (c : Int × Int) (x : Int), ch[i]? = some c → (ch.map fun c => c.1 * (prodU ch / c.2))[i]? = some x → 0 < c.2 ∧ c.1 * prodU ch = x * c.2 := fun i c x hc hx => by
    rw [List.getElem?_map, hc] at hx
    cases hx
    have hm := List.mem_of_getElem? hc
    refine ⟨h c hm, ?_⟩
    have d : prodU ch / c.2 * c.2 = prodU ch := Int.ediv_mul_cancel (prodU_dvd hm)
    rw [Int.mul_assoc, d]
  refine ⟨prodU ch, ch.map fun c => c.1 * (prodU ch / c.2), hS, List.length_map .., ?_, eq⟩
  have s := tot_sum hS (l := ch) (xs := ch.map fun c => c.1 * (prodU ch / c.2)) (a := (0, 1)) (s := 0) (List.length_map ..).symm eq (by decide) (by simp)
  have e : ch.foldl addF (0, 1) = (1, 1) := t
  rw [e] at s
  simp only [Int.one_mul, Int.mul_one, Int.zero_add] at s
  exact s.symm
theorem sum_le {α : Type} : ∀ {l : List α} {f g : α → Int}, (∀ a, a ∈ l → f a ≤ g a) → (l.map f).sum ≤ (l.map g).sum
  | [], _, _, _ => Int.le_refl _
  | a :: r, f, g, h => by
    rw [List.map_cons, List.map_cons, List.sum_cons, List.sum_cons]
    have h1 := h a List.mem_cons_self
    have h2 := sum_le (l := r) (f := f) (g := g) fun b hb => h b (List.mem_cons_of_mem _ hb)
    omega
theorem sum_mul {α : Type} (k : Int) : ∀ {l : List α} {f : α → Int}, (l.map fun a => f a * k).sum = (l.map f).sum * k
  | [], _ => by simp
  | a :: r, f => by
    rw [List.map_cons, List.map_cons, List.sum_cons, List.sum_cons, sum_mul k, Int.add_mul]
theorem getD_sum {α : Type} (d : α) (f : α → Int) : ∀ {l : List α}, ((List.range l.length).map fun i => f (l.getD i d)).sum = (l.map f).sum
  | [] => rfl
  | a :: r => by
    rw [List.length_cons, List.range_succ_eq_map, List.map_cons, List.map_map, List.sum_cons, List.map_cons, List.sum_cons]
    have e : ((fun i => f ((a :: r).getD i d)) ∘ Nat.succ) = fun i => f (r.getD i d) := by
      funext i
      show f ((a :: r).getD (i + 1) d) = _
      rw [List.getD_cons_succ]
    rw [e, getD_sum d f]
    rfl
/-- may be dealt at the time t -/
def El (t : Int) (ch : List (Int × Int)) (cs : List Nat) (i : Nat) : Prop := ((cs.getD i 0 : Nat) : Int) * (ch.getD i (0, 1)).2 < (ch.getD i (0, 1)).1 * t
theorem el_ex {S : Int} {xs : List Int} {ch : List (Int × Int)} (o : Over S xs ch) {cs : List Nat} (hl : cs.length = ch.length) : ∃ i, i < ch.length ∧ El (tot cs + 1) ch cs i := by
  apply Classical.byContradiction
  intro no
  have no : ∀ i, i < ch.length → ¬ El (tot cs + 1) ch cs i := fun i hi h => no ⟨i, hi, h⟩
  have key : ∀ i, i ∈ List.range ch.length → xs.getD i 0 * (tot cs + 1) ≤ ((cs.getD i 0 : Nat) : Int) * S := fun i hi => by
    have hi := List.mem_range.mp hi
    have h := no i hi
    unfold El at h
    have hc : ch[i]? = some (ch.getD i (0, 1)) := by rw [List.getD_eq_getElem?_getD, List.getElem?_eq_getElem hi]; rfl
    have hx : xs[i]? = some (xs.getD i 0) := by rw [List.getD_eq_getElem?_getD, List.getElem?_eq_getElem (show i < xs.length by rw [o.len]; exact hi)]; rfl
    obtain ⟨q1, q2⟩ := o.eq i _ _ hc hx
    generalize ch.getD i (0, 1) = c at h q1 q2
    generalize xs.getD i 0 = x at q2
    generalize ((cs.getD i 0 : Nat) : Int) = k at h
    have h' : c.1 * (tot cs + 1) ≤ k * c.2 := by omega
    have h2 : c.1 * (tot cs + 1) * S ≤ k * c.2 * S := Int.mul_le_mul_of_nonneg_right h' (Int.le_of_lt o.pos)
    have h3 : (x * (tot cs + 1)) * c.2 ≤ (k * S) * c.2 := by
      have e1 : c.1 * (tot cs + 1) * S = (c.1 * S) * (tot cs + 1) := by grind
      have e2 : (x * (tot cs + 1)) * c.2 = (x * c.2) * (tot cs + 1) := by grind
      have e3 : (k * S) * c.2 = k * c.2 * S := by grind
      rw [e2, e3, ← q2, ← e1]
      exact h2
    exact Int.le_of_mul_le_mul_right h3 q1
  have s := sum_le key
  rw [sum_mul, sum_mul, ← o.len, getD_sum 0 (fun x => x), o.len, ← hl, getD_sum 0 (fun c : Nat => (c : Int))] at s
  have e1 : (xs.map fun x => x).sum = S := by rw [List.map_id']; exact o.sum
  have e2 : (cs.map fun c : Nat => (c : Int)).sum = tot cs := rfl
  rw [e1, e2] at s
  have p := o.pos
  have e3 : S * (tot cs + 1) = tot cs * S + S := by grind
  omega
theorem nxA_some {t : Int} {ch : List (Int × Int)} {cs : List Nat} {i : Nat} (h : El t ch cs i) : ∀ {j : Nat}, i < j → (nxA t ch cs j).isSome = true
  | j + 1, hj => by
    show (nxS t (nxA t ch cs j) j (ch.getD j (0, 1)) (cs.getD j 0)).isSome = true
    unfold nxS
    by_cases e : i = j
    · subst e
      have h' := h
      unfold El at h'
      rw [if_pos h']
      split
      · rfl
      · split <;> rfl
    · have q := nxA_some h (j := j) (by omega)
      split
      · split
        · rfl
        · split <;> rfl
      · exact q
theorem nextOf_some {S : Int} {xs : List Int} {ch : List (Int × Int)} (o : Over S xs ch) {cs : List Nat} (hl : cs.length = ch.length) : ∃ i, nextOf ch cs = some i := by
  obtain ⟨i, h1, h2⟩ := el_ex o hl
  have s := nxA_some h2 h1
  unfold nextOf
  cases e : nxA (tot cs + 1) ch cs ch.length with
  | none => rw [e] at s; cases s
  | some q => exact ⟨q.1, rfl⟩
theorem deal_some {S : Int} {xs : List Int} {ch : List (Int × Int)} (o : Over S xs ch) : ∀ n, ∃ q, deal ch n = some q
  | 0 => ⟨_, rfl⟩
  | n + 1 => by
    obtain ⟨q, h⟩ := deal_some o n
    obtain ⟨i, hi⟩ := nextOf_some o (deal_len h).1
    exact ⟨(incr q.1 i, q.2 ++ [i]), by
      show (deal ch n).bind _ = _
      rw [h]
      show (nextOf ch q.1).map _ = _
      rw [hi]
      rfl⟩
/-! ### the law's own -/
abbrev Cand := Nat × Int × Int
/-- those that may be dealt, with their waits -/
def elL (t : Int) (ch : List (Int × Int)) (cs : List Nat) : Nat → List Cand
  | 0 => []
  | j + 1 => elL t ch cs j ++ (if ((cs.getD j 0 : Nat) : Int) * (ch.getD j (0, 1)).2 < (ch.getD j (0, 1)).1 * t then [(j, ((cs.getD j 0 : Nat) + 1 : Int) * (ch.getD j (0, 1)).2, (ch.getD j (0, 1)).1)] else [])
def bst (acc : Option Cand) (e : Cand) : Option Cand := match acc with
  | none => some e
  | some a => if e.2.1 * a.2.2 < a.2.1 * e.2.2 then some e else some a
theorem nxA_fold {t : Int} {ch : List (Int × Int)} {cs : List Nat} : ∀ j, nxA t ch cs j = (elL t ch cs j).foldl bst none
  | 0 => rfl
  | j + 1 => by
    show nxS t (nxA t ch cs j) j (ch.getD j (0, 1)) (cs.getD j 0) = _
    unfold elL
    rw [List.foldl_append, ← nxA_fold j]
    unfold nxS
    by_cases h : ((cs.getD j 0 : Nat) : Int) * (ch.getD j (0, 1)).2 < (ch.getD j (0, 1)).1 * t
    · rw [if_pos h, if_pos h]
      cases nxA t ch cs j with
      | none => rfl
      | some a => rfl
    · rw [if_neg h, if_neg h]
      rfl
theorem elL_pos {t : Int} {ch : List (Int × Int)} {cs : List Nat} (ht : 0 < t) (hw : ∀ p, p ∈ ch → 0 < p.2) : ∀ {j : Nat} {e : Cand}, e ∈ elL t ch cs j → 0 < e.2.2
  | 0, e, h => by cases h
  | j + 1, e, h => by
    unfold elL at h
    rcases List.mem_append.mp h with h | h
    · exact elL_pos ht hw h
    · split at h
      · rename_i lt
        rw [List.mem_singleton.mp h]
        show 0 < (ch.getD j (0, 1)).1
        have w : 0 < (ch.getD j (0, 1)).2 := by
          by_cases hj : j < ch.length
          · have : ch.getD j (0, 1) ∈ ch := by
              rw [List.getD_eq_getElem?_getD, List.getElem?_eq_getElem hj]
              exact List.getElem_mem _
            exact hw _ this
          · rw [List.getD_eq_getElem?_getD, List.getElem?_eq_none (by omega)]
            decide
        have z : 0 ≤ ((cs.getD j 0 : Nat) : Int) * (ch.getD j (0, 1)).2 := Int.mul_nonneg (by omega) (Int.le_of_lt w)
        have p : 0 < (ch.getD j (0, 1)).1 * t := by omega
        exact Int.pos_of_mul_pos_left p ht
      · cases h
/-- the first best one -/
theorem bst_ok : ∀ (l : List Cand) (a : Cand), (∀ e, e ∈ a :: l → 0 < e.2.2) → ∃ b, l.foldl bst (some a) = some b ∧ b ∈ a :: l ∧ (∀ e, e ∈ a :: l → b.2.1 * e.2.2 ≤ e.2.1 * b.2.2) ∧ (a :: l).find? (fun e => decide (e.2.1 * b.2.2 = b.2.1 * e.2.2)) = some b
  | [], a, h => ⟨a, rfl, List.mem_cons_self, fun e he => by rw [List.mem_singleton.mp he]; exact Int.le_refl _, by simp⟩
  | x :: r, a, h => by
    have ha := h a List.mem_cons_self
    have hx := h x (List.mem_cons_of_mem _ List.mem_cons_self)
    by_cases lt : x.2.1 * a.2.2 < a.2.1 * x.2.2
    · obtain ⟨b, e1, e2, e3, e4⟩ := bst_ok r x fun e he => h e (List.mem_cons_of_mem _ he)
      have hb := h b (List.mem_cons_of_mem _ e2)
      have bx := e3 x List.mem_cons_self
      have ba : b.2.1 * a.2.2 < a.2.1 * b.2.2 := by
        have q1 : b.2.1 * x.2.2 * a.2.2 ≤ x.2.1 * b.2.2 * a.2.2 := Int.mul_le_mul_of_nonneg_right bx (Int.le_of_lt ha)
        have q2 : x.2.1 * a.2.2 * b.2.2 < a.2.1 * x.2.2 * b.2.2 := Int.mul_lt_mul_of_pos_right lt hb
        have q3 : (b.2.1 * a.2.2) * x.2.2 < (a.2.1 * b.2.2) * x.2.2 := by
          have z1 : (b.2.1 * a.2.2) * x.2.2 = b.2.1 * x.2.2 * a.2.2 := by grind
          have z2 : (a.2.1 * b.2.2) * x.2.2 = a.2.1 * x.2.2 * b.2.2 := by grind
          have z3 : x.2.1 * b.2.2 * a.2.2 = x.2.1 * a.2.2 * b.2.2 := by grind
          omega
        exact Int.lt_of_mul_lt_mul_right q3 (Int.le_of_lt hx)
      refine ⟨b, ?_, List.mem_cons_of_mem _ e2, fun e he => ?_, ?_⟩
      · show r.foldl bst (bst (some a) x) = _
        have : bst (some a) x = some x := if_pos lt
        rw [this]
        exact e1
      · rcases List.mem_cons.mp he with rfl | he
        · exact Int.le_of_lt ba
        · exact e3 e he
      · rw [List.find?_cons_of_neg (by simp only [decide_eq_true_eq]; omega)]
        exact e4
    · obtain ⟨b, e1, e2, e3, e4⟩ := bst_ok r a fun e he => h e (by
        rcases List.mem_cons.mp he with rfl | he
        · exact List.mem_cons_self
        · exact List.mem_cons_of_mem _ (List.mem_cons_of_mem _ he))
      have hb : 0 < b.2.2 := h b (by
        rcases List.mem_cons.mp e2 with rfl | he
        · exact List.mem_cons_self
        · exact List.mem_cons_of_mem _ (List.mem_cons_of_mem _ he))
      have ba := e3 a List.mem_cons_self
      have bx : b.2.1 * x.2.2 ≤ x.2.1 * b.2.2 := by
        have lt' : a.2.1 * x.2.2 ≤ x.2.1 * a.2.2 := by omega
        have q1 : b.2.1 * a.2.2 * x.2.2 ≤ a.2.1 * b.2.2 * x.2.2 := Int.mul_le_mul_of_nonneg_right ba (Int.le_of_lt hx)
        have q2 : a.2.1 * x.2.2 * b.2.2 ≤ x.2.1 * a.2.2 * b.2.2 := Int.mul_le_mul_of_nonneg_right lt' (Int.le_of_lt hb)
        have q3 : (b.2.1 * x.2.2) * a.2.2 ≤ (x.2.1 * b.2.2) * a.2.2 := by
          have z1 : (b.2.1 * x.2.2) * a.2.2 = b.2.1 * a.2.2 * x.2.2 := by grind
          have z2 : (x.2.1 * b.2.2) * a.2.2 = x.2.1 * a.2.2 * b.2.2 := by grind
          have z3 : a.2.1 * b.2.2 * x.2.2 = a.2.1 * x.2.2 * b.2.2 := by grind
          omega
        exact Int.le_of_mul_le_mul_right q3 ha
      refine ⟨b, ?_, ?_, fun e he => ?_, ?_⟩
      · show r.foldl bst (bst (some a) x) = _
        have : bst (some a) x = some a := if_neg lt
        rw [this]
        exact e1
      · rcases List.mem_cons.mp e2 with rfl | he
        · exact List.mem_cons_self
        · exact List.mem_cons_of_mem _ (List.mem_cons_of_mem _ he)
      · rcases List.mem_cons.mp he with rfl | he
        · exact ba
        · rcases List.mem_cons.mp he with rfl | he
          · exact bx
          · exact e3 e (List.mem_cons_of_mem _ he)
      · by_cases eqa : a.2.1 * b.2.2 = b.2.1 * a.2.2
        · rw [List.find?_cons_of_pos (by simp only [decide_eq_true_eq]; exact eqa)] at e4 ⊢
          exact e4
        · rw [List.find?_cons_of_neg (by simp only [decide_eq_true_eq]; exact eqa)] at e4 ⊢
          have nx : ¬ x.2.1 * b.2.2 = b.2.1 * x.2.2 := fun z => by
            -- then a would be no worse than x, and b better than a
            have lt' : a.2.1 * x.2.2 ≤ x.2.1 * a.2.2 := by omega
            have q1 : b.2.1 * a.2.2 < a.2.1 * b.2.2 := by omega
            have q2 : b.2.1 * a.2.2 * x.2.2 < a.2.1 * b.2.2 * x.2.2 := Int.mul_lt_mul_of_pos_right q1 hx
            have q3 : a.2.1 * x.2.2 * b.2.2 ≤ x.2.1 * a.2.2 * b.2.2 := Int.mul_le_mul_of_nonneg_right lt' (Int.le_of_lt hb)
            have z1 : b.2.1 * a.2.2 * x.2.2 = (b.2.1 * x.2.2) * a.2.2 := by grind
            have z2 : x.2.1 * a.2.2 * b.2.2 = (x.2.1 * b.2.2) * a.2.2 := by grind
            have z3 : a.2.1 * b.2.2 * x.2.2 = a.2.1 * x.2.2 * b.2.2 := by grind
            rw [z] at z2
            omega
          rw [List.find?_cons_of_neg (by simp only [decide_eq_true_eq]; exact nx)]
          exact e4
/-- the least of some fractions -/
def lsF (f : Int × Int) (w : Int × Int) : Int × Int := if w.1 * f.2 < f.1 * w.2 then w else f
theorem lsF_ok : ∀ (l : List (Int × Int)) (a : Int × Int), 0 < a.2 → (∀ e, e ∈ l → 0 < e.2) → (l.foldl lsF a = a ∨ l.foldl lsF a ∈ l) ∧ (∀ e, e ∈ a :: l → (l.foldl lsF a).1 * e.2 ≤ e.1 * (l.foldl lsF a).2)
  | [], a, _, _ => ⟨.inl rfl, fun e he => by rw [List.mem_singleton.mp he]; exact Int.le_refl _⟩
  | x :: r, a, ha, h => by
    have hx := h x List.mem_cons_self
    have hr : ∀ e, e ∈ r → 0 < e.2 := fun e he => h e (List.mem_cons_of_mem _ he)
    rw [List.foldl_cons]
    by_cases lt : x.1 * a.2 < a.1 * x.2
    · rw [show lsF a x = x from if_pos lt]
      obtain ⟨i1, i2⟩ := lsF_ok r x hx hr
      generalize hb : r.foldl lsF x = b at i1 i2
      have bp : 0 < b.2 := by
        rcases i1 with rfl | i1
        · exact hx
        · exact hr _ i1
      refine ⟨.inr (i1.elim (fun z => by rw [z]; exact List.mem_cons_self) fun z => List.mem_cons_of_mem _ z), fun e he => ?_⟩
      rcases List.mem_cons.mp he with rfl | he
      · have bx := i2 x List.mem_cons_self
        have q1 : b.1 * x.2 * e.2 ≤ x.1 * b.2 * e.2 := Int.mul_le_mul_of_nonneg_right bx (Int.le_of_lt ha)
        have q2 : x.1 * e.2 * b.2 ≤ e.1 * x.2 * b.2 := Int.mul_le_mul_of_nonneg_right (Int.le_of_lt lt) (Int.le_of_lt bp)
        have q3 : (b.1 * e.2) * x.2 ≤ (e.1 * b.2) * x.2 := by
          have z1 : (b.1 * e.2) * x.2 = b.1 * x.2 * e.2 := by grind
          have z2 : (e.1 * b.2) * x.2 = e.1 * x.2 * b.2 := by grind
          have z3 : x.1 * b.2 * e.2 = x.1 * e.2 * b.2 := by grind
          omega
        exact Int.le_of_mul_le_mul_right q3 hx
      · exact i2 e he
    · rw [show lsF a x = a from if_neg lt]
      obtain ⟨i1, i2⟩ := lsF_ok r a ha hr
      generalize hb : r.foldl lsF a = b at i1 i2
      have bp : 0 < b.2 := by
        rcases i1 with rfl | i1
        · exact ha
        · exact hr _ i1
      refine ⟨i1.elim .inl fun z => .inr (List.mem_cons_of_mem _ z), fun e he => ?_⟩
      rcases List.mem_cons.mp he with rfl | he
      · exact i2 e List.mem_cons_self
      · rcases List.mem_cons.mp he with rfl | he
        · have ba := i2 a List.mem_cons_self
          have lt' : a.1 * e.2 ≤ e.1 * a.2 := by omega
          have q1 : b.1 * a.2 * e.2 ≤ a.1 * b.2 * e.2 := Int.mul_le_mul_of_nonneg_right ba (Int.le_of_lt hx)
          have q2 : a.1 * e.2 * b.2 ≤ e.1 * a.2 * b.2 := Int.mul_le_mul_of_nonneg_right lt' (Int.le_of_lt bp)
          have q3 : (b.1 * e.2) * a.2 ≤ (e.1 * b.2) * a.2 := by
            have z1 : (b.1 * e.2) * a.2 = b.1 * a.2 * e.2 := by grind
            have z2 : (e.1 * b.2) * a.2 = e.1 * a.2 * b.2 := by grind
            have z3 : a.1 * b.2 * e.2 = a.1 * e.2 * b.2 := by grind
            omega
          exact Int.le_of_mul_le_mul_right q3 ha
        · exact i2 e (List.mem_cons_of_mem _ he)
def rdC (e : Cand) : Int × Int := red e.2.1 e.2.2
theorem rdC_eq {e b : Cand} (he : 0 < e.2.2) (hb : 0 < b.2.2) : rdC e = rdC b ↔ e.2.1 * b.2.2 = b.2.1 * e.2.2 := by
  have s1 := red_sv (n := e.2.1) he
  have s2 := red_sv (n := b.2.1) hb
  have p1 := red_pos (n := e.2.1) he
  have p2 := red_pos (n := b.2.1) hb
  constructor
  · intro h
    unfold rdC at h
    rw [h] at s1
    generalize red b.2.1 b.2.2 = q at s1 s2 p2
    have : (e.2.1 * b.2.2) * q.2 = (b.2.1 * e.2.2) * q.2 := by grind
    exact Int.eq_of_mul_eq_mul_right (by omega) this
  · intro h
    refine red_eq he (red_fr hb) ?_
    show (red b.2.1 b.2.2).1 * e.2.2 = e.2.1 * (red b.2.1 b.2.2).2
    generalize red b.2.1 b.2.2 = q at s2 p2
    have : (q.1 * e.2.2) * b.2.2 = (e.2.1 * q.2) * b.2.2 := by grind
    exact Int.eq_of_mul_eq_mul_right (by omega) this
/-- the number that the law finds -/
theorem law_next {t : Int} {ch : List (Int × Int)} {cs : List Nat} (ht : 0 < t) (hw : ∀ p, p ∈ ch → 0 < p.2) {q : Cand} (h : nxA t ch cs ch.length = some q) :
    ∃ e0 r, elL t ch cs ch.length = e0 :: r ∧ ((e0 :: r).filterMap fun e => if rdC e = ((e0 :: r).map rdC).foldl lsF (rdC e0) then some e.1 else none).head? = some q.1 := by
  rw [nxA_fold] at h
  have hp : ∀ e, e ∈ elL t ch cs ch.length → 0 < e.2.2 := fun e he => elL_pos ht hw he
  cases el : elL t ch cs ch.length with
  | nil => rw [el] at h; cases h
  | cons e0 r =>
    refine ⟨e0, r, rfl, ?_⟩
    rw [el] at h hp
    obtain ⟨b, b1, b2, b3, b4⟩ := bst_ok r e0 hp
    have h' : r.foldl bst (some e0) = some q := h
    rw [b1] at h'
    have hbq : b = q := Option.some.inj h'
    subst hbq
    have e0p : 0 < (rdC e0).2 := red_pos (hp e0 List.mem_cons_self)
    have lp : ∀ e, e ∈ (e0 :: r).map rdC → 0 < e.2 := fun e he => by
      obtain ⟨c, hc, rfl⟩ := List.mem_map.mp he
      exact red_pos (hp c hc)
    obtain ⟨m1, m2⟩ := lsF_ok ((e0 :: r).map rdC) (rdC e0) e0p lp
    generalize hm : ((e0 :: r).map rdC).foldl lsF (rdC e0) = m at m1 m2 ⊢
    have mm : m ∈ (e0 :: r).map rdC := m1.elim (fun z => by rw [z]; exact List.mem_map_of_mem List.mem_cons_self) id
    obtain ⟨c, hc, rfl⟩ := List.mem_map.mp mm
    have bp := hp b b2
    have cp := hp c hc
    have cb : rdC c = rdC b := by
      refine (rdC_eq cp bp).mpr ?_
      have u1 := b3 c hc
      have u2 := m2 (rdC b) (List.mem_cons_of_mem _ (List.mem_map_of_mem b2))
      have s1 := red_sv (n := c.2.1) cp
      have s2 := red_sv (n := b.2.1) bp
      have p1 := red_pos (n := c.2.1) cp
      have p2 := red_pos (n := b.2.1) bp
      have u2' : (red c.2.1 c.2.2).1 * (red b.2.1 b.2.2).2 ≤ (red b.2.1 b.2.2).1 * (red c.2.1 c.2.2).2 := u2
      generalize red c.2.1 c.2.2 = x at s1 p1 u2'
      generalize red b.2.1 b.2.2 = y at s2 p2 u2'
      have u3 : c.2.1 * b.2.2 ≤ b.2.1 * c.2.2 := by
        have k1 : x.1 * y.2 * (c.2.2 * b.2.2) ≤ y.1 * x.2 * (c.2.2 * b.2.2) := Int.mul_le_mul_of_nonneg_right u2' (Int.le_of_lt (Int.mul_pos cp bp))
        have k2 : (c.2.1 * b.2.2) * (x.2 * y.2) ≤ (b.2.1 * c.2.2) * (x.2 * y.2) := by
          have z1 : (c.2.1 * b.2.2) * (x.2 * y.2) = x.1 * y.2 * (c.2.2 * b.2.2) := by grind
          have z2 : (b.2.1 * c.2.2) * (x.2 * y.2) = y.1 * x.2 * (c.2.2 * b.2.2) := by grind
          omega
        exact Int.le_of_mul_le_mul_right k2 (Int.mul_pos p1 p2)
      omega
    have f : ∀ l : List Cand, (∀ e, e ∈ l → 0 < e.2.2) → (l.filterMap fun e => if rdC e = rdC c then some e.1 else none).head? = (l.find? fun e => decide (e.2.1 * b.2.2 = b.2.1 * e.2.2)).map (·.1) := fun l => by
      induction l with
      | nil => intro _; rfl
      | cons e s ih =>
        intro hl
        have ep := hl e List.mem_cons_self
        by_cases z : e.2.1 * b.2.2 = b.2.1 * e.2.2
        · have hz : rdC e = rdC c := ((rdC_eq ep bp).mpr z).trans cb.symm
          rw [List.find?_cons_of_pos (by simp only [decide_eq_true_eq]; exact z)]
          simp [List.filterMap_cons, hz]
        · have hz : ¬ rdC e = rdC c := fun y => z ((rdC_eq ep bp).mp (y.trans cb))
          rw [List.find?_cons_of_neg (by simp only [decide_eq_true_eq]; exact z), ← ih fun x hx => hl x (List.mem_cons_of_mem _ hx)]
          simp [List.filterMap_cons, hz]
    rw [f _ hp, b4]
    rfl
end Ev
end

section
set_option linter.all false
set_option maxRecDepth 100000
set_option maxHeartbeats 4000000
/-! Small data: their leaves, weight, depth; they are shown. -/
namespace Ev
open PySem L2
mutual
/-- leaves within b -/
def lfB (b : Nat) : D → Bool
  | .non | .bl _ => true
  | .int i => decide (i.natAbs ≤ b)
  | .str x => x.cps.toList.all fun c => decide (c < 16 ^ 8)
  | .tup l | .lst l => lfBs b l
  | .dic [] [] => true
  | _ => false
def lfBs (b : Nat) : List D → Bool
  | [] => true
  | d :: r => lfB b d && lfBs b r
end
theorem lfBs_iff {b : Nat} : ∀ {l : List D}, lfBs b l = true ↔ ∀ d ∈ l, lfB b d = true
  | [] => by simp [lfBs]
  | d :: r => by
    unfold lfBs
    rw [Bool.and_eq_true, lfBs_iff (l := r)]
    simp
theorem toQs_eq : ∀ (l : List D), toQs l = l.map toQ
  | [] => rfl
  | d :: r => by
    unfold toQs
    rw [toQs_eq r]
    rfl
theorem wAll_eq : ∀ (l : List PyData), PyData.weightAll l = (l.map fun d => d.weight + 1).sum
  | [] => rfl
  | d :: r => by
    unfold PyData.weightAll
    rw [wAll_eq r]
    simp
theorem dAll_le {n : Nat} : ∀ {l : List PyData}, PyData.depthAll l ≤ n ↔ ∀ d ∈ l, d.depth ≤ n
  | [] => by simp [PyData.depthAll]
  | d :: r => by
    unfold PyData.depthAll
    have ih := dAll_le (n := n) (l := r)
    simp only [List.mem_cons, forall_eq_or_imp]
    rw [← ih]
    omega
/-- small: leaves within b, weight w, depth n -/
structure Small (b w n : Nat) (d : D) : Prop where
  lf : lfB b d = true
  wt : (toQ d).weight ≤ w
  dp : (toQ d).depth ≤ n
theorem wT (l : List D) : (toQ (.tup l)).weight = (l.map fun d => (toQ d).weight + 1).sum := by
  show PyData.weightAll (toQs l) = _
  rw [wAll_eq, toQs_eq, List.map_map]
  rfl
theorem wL (l : List D) : (toQ (.lst l)).weight = (l.map fun d => (toQ d).weight + 1).sum := wT l
theorem dT {l : List D} {n : Nat} : (toQ (.tup l)).depth ≤ n ↔ 1 ≤ n ∧ ∀ d ∈ l, (toQ d).depth ≤ n - 1 := by
  have e : (toQ (.tup l)).depth = PyData.depthAll (toQs l) + 1 := rfl
  have k := dAll_le (n := n - 1) (l := toQs l)
  rw [toQs_eq] at k
  simp only [List.mem_map, forall_exists_index, and_imp, forall_apply_eq_imp_iff₂] at k
  rw [e, toQs_eq, ← k]
  omega
theorem dL {l : List D} {n : Nat} : (toQ (.lst l)).depth ≤ n ↔ 1 ≤ n ∧ ∀ d ∈ l, (toQ d).depth ≤ n - 1 := dT
/-- of the items -/
def Smalls (b w n : Nat) (l : List D) : Prop := (∀ d ∈ l, lfB b d = true ∧ (toQ d).depth ≤ n) ∧ (l.map fun d => (toQ d).weight + 1).sum ≤ w
theorem sm_tup {b w n : Nat} {l : List D} : Small b w (n + 1) (.tup l) ↔ Smalls b w n l := by
  constructor
  · intro h
    refine ⟨fun d hd => ⟨lfBs_iff.mp (show lfBs b l = true from h.lf) d hd, (dT.mp h.dp).2 d hd⟩, ?_⟩
    have := h.wt
    rwa [wT] at this
  · intro h
    exact ⟨lfBs_iff.mpr fun d hd => (h.1 d hd).1, by rw [wT]; exact h.2, dT.mpr ⟨by omega, fun d hd => (h.1 d hd).2⟩⟩
theorem sm_lst {b w n : Nat} {l : List D} : Small b w (n + 1) (.lst l) ↔ Smalls b w n l := (show Small b w (n + 1) (.lst l) ↔ Small b w (n + 1) (.tup l) from ⟨fun h => ⟨h.lf, h.wt, h.dp⟩, fun h => ⟨h.lf, h.wt, h.dp⟩⟩).trans sm_tup
theorem lfB_mono {b c : Nat} (h : b ≤ c) : ∀ {d : D}, lfB b d = true → lfB c d = true := by
  suffices H : ∀ (n : Nat) {d : D}, sizeOf d ≤ n → lfB b d = true → lfB c d = true from fun {d} => H _ (Nat.le_refl _)
  intro n
  induction n with
  | zero => intro d hd; cases d <;> simp at hd <;> omega
  | succ n ih =>
    intro d hd e
    have it : ∀ l : List D, sizeOf l ≤ n → lfBs b l = true → lfBs c l = true := fun l hl e => lfBs_iff.mpr fun x hx => ih (by have := List.sizeOf_lt_of_mem hx; omega) (lfBs_iff.mp e x hx)
    cases d with
    | int i =>
      have e1 : decide (i.natAbs ≤ b) = true := e
      exact decide_eq_true (Nat.le_trans (of_decide_eq_true e1) h)
    | tup l => exact it l (by simp at hd; omega) e
    | lst l => exact it l (by simp at hd; omega) e
    | dic ks l =>
      cases ks with
      | nil =>
        cases l with
        | nil => rfl
        | cons _ _ => cases e
      | cons _ _ => cases e
    | non => rfl
    | bl _ => rfl
    | str _ => exact e
    | _ => cases e
theorem Small.mono {b w n b' w' n' : Nat} {d : D} (h : Small b w n d) (hb : b ≤ b') (hw : w ≤ w') (hn : n ≤ n') : Small b' w' n' d := ⟨lfB_mono hb h.lf, Nat.le_trans h.wt hw, Nat.le_trans h.dp hn⟩
theorem Smalls.mono {b w n b' w' n' : Nat} {l : List D} (h : Smalls b w n l) (hb : b ≤ b') (hw : w ≤ w') (hn : n ≤ n') : Smalls b' w' n' l := ⟨fun d hd => ⟨lfB_mono hb (h.1 d hd).1, Nat.le_trans (h.1 d hd).2 hn⟩, Nat.le_trans h.2 hw⟩
theorem Smalls.nil {b w n : Nat} : Smalls b w n [] := ⟨fun d hd => (nomatch hd), Nat.zero_le _⟩
theorem Smalls.app {b w v n : Nat} {l m : List D} (h : Smalls b w n l) (k : Smalls b v n m) : Smalls b (w + v) n (l ++ m) := by
  refine ⟨fun d hd => (List.mem_append.mp hd).elim (h.1 d) (k.1 d), ?_⟩
  rw [List.map_append, List.sum_append]
  exact Nat.add_le_add h.2 k.2
theorem Smalls.take {b w n : Nat} {l : List D} (h : Smalls b w n l) (i : Nat) : Smalls b w n (l.take i) := by
  refine ⟨fun d hd => h.1 d (List.mem_of_mem_take hd), Nat.le_trans ?_ h.2⟩
  conv => rhs; rw [← List.take_append_drop i l, List.map_append, List.sum_append]
  exact Nat.le_add_right _ _
theorem Smalls.drop {b w n : Nat} {l : List D} (h : Smalls b w n l) (i : Nat) : Smalls b w n (l.drop i) := by
  refine ⟨fun d hd => h.1 d (List.mem_of_mem_drop hd), Nat.le_trans ?_ h.2⟩
  conv => rhs; rw [← List.take_append_drop i l, List.map_append, List.sum_append]
  exact Nat.le_add_left _ _
theorem Smalls.cut {b w n : Nat} {l : List D} (h : Smalls b w n l) (x y : Option Int) : Smalls b w n (cut l x y) := (h.drop _).take _
theorem Smalls.rev {b w n : Nat} {l : List D} (h : Smalls b w n l) : Smalls b w n l.reverse := by
  refine ⟨fun d hd => h.1 d (List.mem_reverse.mp hd), ?_⟩
  rw [List.map_reverse, List.sum_reverse]
  exact h.2
theorem Smalls.one {b w n : Nat} {d : D} (h : Small b w n d) : Smalls b (w + 1) n [d] := by
  refine ⟨fun x hx => ?_, ?_⟩
  · rw [List.mem_singleton.mp hx]
    exact ⟨h.lf, h.dp⟩
  · have := h.wt
    simp
    exact this
theorem Smalls.get {b w n : Nat} {l : List D} (h : Smalls b w n l) {d : D} (hd : d ∈ l) : Small b w n d := by
  refine ⟨(h.1 d hd).1, Nat.le_trans ?_ h.2, (h.1 d hd).2⟩
  clear h
  induction l with
  | nil => cases hd
  | cons a r ih =>
    simp only [List.map_cons, List.sum_cons]
    rcases List.mem_cons.mp hd with e | e
    · rw [e]; omega
    · have := ih e
      omega
/-- one item otherwise: what it weighs more -/
theorem Smalls.set {b w n v : Nat} {l : List D} (h : Smalls b w n l) {i : Nat} {d x : D} (hi : l[i]? = some d) (hx : Small b v n x) (hv : v ≤ 2 * (toQ d).weight + 100) : Smalls b (2 * w + 100) n (l.take i ++ [x] ++ l.drop (i + 1)) := by
  have e : l = l.take i ++ d :: l.drop (i + 1) := by
    have hl := (List.getElem?_eq_some_iff.mp hi).1
    have he := (List.getElem?_eq_some_iff.mp hi).2
    rw [← he, List.getElem_cons_drop, List.take_append_drop]
  refine ⟨fun y hy => ?_, ?_⟩
  · simp only [List.mem_append, List.mem_singleton] at hy
    rcases hy with (hy | hy) | hy
    · exact h.1 y (List.mem_of_mem_take hy)
    · rw [hy]; exact ⟨hx.lf, hx.dp⟩
    · exact h.1 y (List.mem_of_mem_drop hy)
  · have q := h.2
    rw [e] at q
    simp only [List.map_append, List.sum_append, List.map_cons, List.sum_cons, List.map_nil, List.sum_nil] at q ⊢
    have := hx.wt
    omega
theorem Smalls.len {b w n : Nat} {l : List D} (h : Smalls b w n l) : l.length ≤ w := by
  refine Nat.le_trans ?_ h.2
  clear h
  induction l with
  | nil => simp
  | cons a r ih => simp; omega
theorem Small.int {b w n : Nat} {i : Int} (h : i.natAbs ≤ b) (hw : 60 ≤ w) (hb : b < 10 ^ 12) : Small b w n (.int i) := by
  refine ⟨decide_eq_true h, ?_, by show PyData.depth (.int i) ≤ n; unfold PyData.depth; exact Nat.zero_le _⟩
  show PyData.weight (.int i) ≤ w
  unfold PyData.weight
  split
  · exact Nat.zero_le _
  · rename_i hi
    have h0 : i.natAbs ≠ 0 := by
      intro z
      have : i = 0 := by omega
      subst this
      simp at hi
    have : i.natAbs.log2 < 41 := (Nat.log2_lt h0).mpr (by omega)
    omega
theorem Small.showD {b w n : Nat} {d : D} (h : Small b w n d) (hb : b < 10 ^ 12) : showD d = true := by
  have key : ∀ (n : Nat) {d : D}, sizeOf d ≤ n → lfB b d = true → Ev.showD d = true := by
    intro n
    induction n with
    | zero => intro d hd; cases d <;> simp at hd <;> omega
    | succ n ih =>
      intro d hd e
      have it : ∀ l : List D, sizeOf l ≤ n → lfBs b l = true → showDs l = true := by
        intro l
        induction l with
        | nil => intro _ _; rfl
        | cons a r ih2 =>
          intro hl e
          obtain ⟨e1, e2⟩ := Bool.and_eq_true_iff.mp (show (lfB b a && lfBs b r) = true from e)
          simp at hl
          unfold showDs
          rw [ih (by omega) e1, ih2 (by omega) e2]
          rfl
      cases d with
      | int i =>
        have e1 : i.natAbs ≤ b := of_decide_eq_true (show decide (i.natAbs ≤ b) = true from e)
        refine decide_eq_true ?_
        by_cases h0 : i.natAbs = 0
        · rw [h0]; decide
        · exact (Nat.log2_lt h0).mpr (Nat.lt_of_le_of_lt e1 (Nat.lt_trans hb (by decide +kernel)))
      | tup l => exact it l (by simp at hd; omega) e
      | lst l => exact it l (by simp at hd; omega) e
      | dic ks l =>
        cases ks with
        | nil =>
          cases l with
          | nil => rfl
          | cons _ _ => cases e
        | cons _ _ => cases e
      | non => rfl
      | bl _ => rfl
      | str _ => rfl
      | _ => cases e
  exact key _ (Nat.le_refl _) h.lf
theorem lfB_short {b : Nat} (hb : b < 10 ^ 12) : ∀ (n : Nat) {d : D}, sizeOf d ≤ n → lfB b d = true → (toQ d).leavesShort 13 = true := by
  intro n
  induction n with
  | zero => intro d hd; cases d <;> simp at hd <;> omega
  | succ n ih =>
    intro d hd e
    have it : ∀ l : List D, sizeOf l ≤ n → lfBs b l = true → PyData.leavesShortAll 13 (toQs l) = true := by
      intro l
      induction l with
      | nil => intro _ _; rfl
      | cons a r ih2 =>
        intro hl e
        obtain ⟨e1, e2⟩ := Bool.and_eq_true_iff.mp (show (lfB b a && lfBs b r) = true from e)
        simp at hl
        unfold toQs PyData.leavesShortAll
        rw [ih (by omega) e1, ih2 (by omega) e2]
        rfl
    cases d with
    | int i =>
      have e1 : i.natAbs ≤ b := of_decide_eq_true (show decide (i.natAbs ≤ b) = true from e)
      show PyData.leavesShort 13 (.int i) = true
      unfold PyData.leavesShort
      exact decide_eq_true (PyData.shown_int_le (by omega))
    | tup l => exact it l (by simp at hd; omega) e
    | lst l => exact it l (by simp at hd; omega) e
    | dic ks l =>
      cases ks with
      | nil =>
        cases l with
        | nil => rfl
        | cons _ _ => cases e
      | cons _ _ => cases e
    | non => rfl
    | bl _ => rfl
    | str x => exact e
    | _ => cases e
/-- its repr -/
theorem Small.rpr {b w n : Nat} {d : D} (h : Small b w n d) (hb : b < 10 ^ 12) (hw : w ≤ 60000) (hn : n ≤ 64) : rprD d = some (.val (.str (toQ d).shown)) := by
  have e1 := h.showD hb
  have e2 := PyData.shown_le 13 (by decide) (toQ d) (lfB_short hb _ (Nat.le_refl _) h.lf)
  have e3 := h.wt
  have e4 := h.dp
  have e5 : LL = 1000000 := rfl
  unfold rprD
  rw [e1, decide_eq_true (show (toQ d).depth ≤ 64 by omega), decide_eq_true (show (toQ d).shown.length ≤ LL by omega)]
  rfl
/-- the values of any kind -/
def odds : List D := [.non, .bl true, .bl false, .int 0, .int 1, .int (-1), .int 2, .int 7, .str "", .str "a", .str "read", .str "write", .str "dead", .tup [], .lst [], .dic [] [], .tup [.int 0], .tup [.tup []], .lst [.int 0], .str "A",
  .tup [.int 0, .int 1], .tup [.int 1, .int 1], .tup [.int 1, .int 2], .tup [.int 2, .int 4], .tup [.int 1, .int 0], .tup [.bl true, .int 1], .tup [.str "a"], .tup [.str "a", .str "b"], .tup [.tup [.int 1, .int 1]], .tup [.non], .int 100000000]
theorem odds_sm : ∀ d ∈ odds, Small 100000000 60 2 d := by
  have h : odds.all (fun d => lfB 100000000 d && (decide ((toQ d).weight ≤ 60) && decide ((toQ d).depth ≤ 2))) = true := by decide +kernel
  intro d hd
  have h1 := List.all_eq_true.mp h d hd
  simp only [Bool.and_eq_true, decide_eq_true_eq] at h1
  exact ⟨h1.1, h1.2.1, h1.2.2⟩
end Ev
end

section
set_option linter.all false
set_option maxRecDepth 100000
set_option maxHeartbeats 0

namespace Lw
open PySem PySem.Spec PyProof.Rows L2 Ev

def top (i : Nat) : Stmt := PySem.Challenge.pw_evenasks_k47_chances_and_asks_refused.main.body.getD i (.Pass ⟨0, 0, 0, 0⟩)
/-- is_integer -/
def f0 : FD := ⟨⟨("is_integer", none), "is_integer", "is_integer", defArgs (top 5), defBody (top 5), defScope (top 5), [.non], []⟩, ["value", "low", "high"], ["value", "low", "high"], false, false⟩
/-- is_tuple -/
def f1 : FD := ⟨⟨("is_tuple", none), "is_tuple", "is_tuple", defArgs (top 6), defBody (top 6), defScope (top 6), [.non], []⟩, ["value", "low", "high"], ["value", "low", "high"], false, false⟩
/-- measure -/
def f2 : FD := ⟨⟨("measure", none), "measure", "measure", defArgs (top 11), defBody (top 11), defScope (top 11), [], []⟩, ["one", "other"], ["one", "other"], false, false⟩
/-- fraction -/
def f3 : FD := ⟨⟨("fraction", none), "fraction", "fraction", defArgs (top 12), defBody (top 12), defScope (top 12), [], []⟩, ["number", "under", "most"], ["number", "under"], false, false⟩
/-- is_whole -/
def f4 : FD := ⟨⟨("is_whole", none), "is_whole", "is_whole", defArgs (top 13), defBody (top 13), defScope (top 13), [], []⟩, ["value"], ["value"], false, false⟩
/-- is_fraction -/
def f5 : FD := ⟨⟨("is_fraction", none), "is_fraction", "is_fraction", defArgs (top 14), defBody (top 14), defScope (top 14), [.non], []⟩, ["value", "low"], ["value", "low"], false, false⟩
/-- plus -/
def f6 : FD := ⟨⟨("plus", none), "plus", "plus", defArgs (top 15), defBody (top 15), defScope (top 15), [], []⟩, ["one", "other"], ["one", "other"], false, false⟩
/-- total -/
def f7 : FD := ⟨⟨("total", none), "total", "total", defArgs (top 16), defBody (top 16), defScope (top 16), [], []⟩, ["some", "found", "one"], ["some"], false, false⟩
/-- are_parts -/
def f8 : FD := ⟨⟨("are_parts", none), "are_parts", "are_parts", defArgs (top 17), defBody (top 17), defScope (top 17), [], []⟩, ["value", "many", "one"], ["value", "many"], false, false⟩
/-- next_of -/
def f9 : FD := ⟨⟨("next_of", none), "next_of", "next_of", defArgs (top 21), defBody (top 21), defScope (top 21), [], []⟩, ["chances", "counts", "time", "found", "number", "part", "whole", "wait", "by"], ["chances", "counts"], false, false⟩
/-- dealt -/
def f10 : FD := ⟨⟨("dealt", none), "dealt", "dealt", defArgs (top 22), defBody (top 22), defScope (top 22), [], []⟩, ["chances", "many", "lap", "counts", "found", "number", "chance"], ["chances", "many"], false, false⟩
/-- _law_pot -/
def f11 : FD := ⟨⟨("_law_pot", none), "_law_pot", "_law_pot", defArgs (top 24), defBody (top 24), defScope (top 24), [], []⟩, ["_law_script", "_law_place", "_law_cell", "_law_own", "_law_small"], ["_law_script", "_law_place"], false, false⟩
/-- _law_take -/
def f12 : FD := ⟨⟨("_law_take", none), "_law_take", "_law_take", defArgs (top 25), defBody (top 25), defScope (top 25), [], []⟩, ["_law_pot_here", "_law_upto", "_law_prime", "_law_mix", "_law_digit"], ["_law_pot_here", "_law_upto"], false, false⟩
/-- _law_of -/
def f13 : FD := ⟨⟨("_law_of", none), "_law_of", "_law_of", defArgs (top 26), defBody (top 26), defScope (top 26), [], []⟩, ["_law_pot_here", "_law_some"], ["_law_pot_here", "_law_some"], false, false⟩
/-- _law_cells -/
def f14 : FD := ⟨⟨("_law_cells", none), "_law_cells", "_law_cells", defArgs (top 27), defBody (top 27), defScope (top 27), [], []⟩, ["_law_script", "_law_limit"], ["_law_script", "_law_limit"], false, false⟩
/-- _law_heard -/
def f15 : FD := ⟨⟨("_law_heard", none), "_law_heard", "_law_heard", defArgs (top 28), defBody (top 28), defScope (top 28), [], []⟩, ["_law_look", "_law_caught", "_law_back", "error"], ["_law_look"], false, false⟩
/-- _law_odd -/
def f16 : FD := ⟨⟨("_law_odd", none), "_law_odd", "_law_odd", defArgs (top 29), defBody (top 29), defScope (top 29), [], []⟩, ["_law_pot_here", "_law_some"], ["_law_pot_here"], false, false⟩
/-- _law_bent -/
def f17 : FD := ⟨⟨("_law_bent", none), "_law_bent", "_law_bent", defArgs (top 30), defBody (top 30), defScope (top 30), [], []⟩, ["_law_pot_here", "_law_value", "_law_at"], ["_law_pot_here", "_law_value"], false, false⟩
/-- _law_is_int -/
def f18 : FD := ⟨⟨("_law_is_int", none), "_law_is_int", "_law_is_int", defArgs (top 31), defBody (top 31), defScope (top 31), [.non], []⟩, ["_law_value", "_law_low", "_law_high"], ["_law_value", "_law_low", "_law_high"], false, false⟩
/-- _law_cut -/
def f19 : FD := ⟨⟨("_law_cut", none), "_law_cut", "_law_cut", defArgs (top 32), defBody (top 32), defScope (top 32), [], []⟩, ["_law_top", "_law_under", "_law_sign", "_law_one", "_law_other"], ["_law_top", "_law_under"], false, false⟩
/-- _law_plus -/
def f20 : FD := ⟨⟨("_law_plus", none), "_law_plus", "_law_plus", defArgs (top 33), defBody (top 33), defScope (top 33), [], []⟩, ["_law_one", "_law_other"], ["_law_one", "_law_other"], false, false⟩
/-- _law_sum -/
def f21 : FD := ⟨⟨("_law_sum", none), "_law_sum", "_law_sum", defArgs (top 34), defBody (top 34), defScope (top 34), [], []⟩, ["_law_some", "_law_found", "_law_one"], ["_law_some"], false, false⟩
/-- _law_is_fraction -/
def f22 : FD := ⟨⟨("_law_is_fraction", none), "_law_is_fraction", "_law_is_fraction", defArgs (top 35), defBody (top 35), defScope (top 35), [], []⟩, ["_law_value", "_law_one"], ["_law_value"], false, false⟩
/-- _law_are_parts -/
def f23 : FD := ⟨⟨("_law_are_parts", none), "_law_are_parts", "_law_are_parts", defArgs (top 36), defBody (top 36), defScope (top 36), [], []⟩, ["_law_value", "_law_many", "_law_one"], ["_law_value", "_law_many"], false, false⟩
/-- _law_parts -/
def f24 : FD := ⟨⟨("_law_parts", none), "_law_parts", "_law_parts", defArgs (top 37), defBody (top 37), defScope (top 37), [], []⟩, ["_law_pot_here", "_law_many", "_law_some", "_law_lap", "_law_one"], ["_law_pot_here", "_law_many"], false, false⟩
/-- _law_near -/
def f25 : FD := ⟨⟨("_law_near", none), "_law_near", "_law_near", defArgs (top 38), defBody (top 38), defScope (top 38), [], []⟩, ["_law_pot_here", "_law_some", "_law_found", "_law_one", "_law_lap"], ["_law_pot_here", "_law_some"], false, false⟩
/-- _law_right -/
def f26 : FD := ⟨⟨("_law_right", none), "_law_right", "_law_right", defArgs (top 39), defBody (top 39), defScope (top 39), [], []⟩, ["_law_pot_here", "_law_lap", "_law_some", "_law_asks", "_law_caught", "_law_told"], ["_law_pot_here"], true, true⟩
/-- law -/
def f27 : FD := ⟨⟨("law", none), "law", "law", defArgs (top 40), defBody (top 40), defScope (top 40), [], []⟩, ["_law_script", "_law_place", "_law_pot_here", "_law_lap"], ["_law_script"], true, false⟩
def fs : List FD := [f0, f1, f2, f3, f4, f5, f6, f7, f8, f9, f10, f11, f12, f13, f14, f15, f16, f17, f18, f19, f20, f21, f22, f23, f24, f25, f26, f27]
def cs : List (Str × D) := [("PAIR", .int 2), ("NOUGHT", .tup [.int 0, .int 1]), ("ONE", .tup [.int 1, .int 1]), ("MOST_LOTS", .int 20), ("MOST_ASKS", .int 99)]
abbrev Fn.is_integer : Nat := 0
abbrev Fn.is_tuple : Nat := 1
abbrev Fn.measure : Nat := 2
abbrev Fn.fraction : Nat := 3
abbrev Fn.is_whole : Nat := 4
abbrev Fn.is_fraction : Nat := 5
abbrev Fn.plus : Nat := 6
abbrev Fn.total : Nat := 7
abbrev Fn.are_parts : Nat := 8
abbrev Fn.next_of : Nat := 9
abbrev Fn.dealt : Nat := 10
abbrev Fn.law_pot : Nat := 11
abbrev Fn.law_take : Nat := 12
abbrev Fn.law_of : Nat := 13
abbrev Fn.law_cells : Nat := 14
abbrev Fn.law_heard : Nat := 15
abbrev Fn.law_odd : Nat := 16
abbrev Fn.law_bent : Nat := 17
abbrev Fn.law_is_int : Nat := 18
abbrev Fn.law_cut : Nat := 19
abbrev Fn.law_plus : Nat := 20
abbrev Fn.law_sum : Nat := 21
abbrev Fn.law_is_fraction : Nat := 22
abbrev Fn.law_are_parts : Nat := 23
abbrev Fn.law_parts : Nat := 24
abbrev Fn.law_near : Nat := 25
abbrev Fn.law_right : Nat := 26
abbrev Fn.law : Nat := 27
abbrev Gl.PAIR : Nat := 0
abbrev Gl.NOUGHT : Nat := 1
abbrev Gl.ONE : Nat := 2
abbrev Gl.MOST_LOTS : Nat := 3
abbrev Gl.MOST_ASKS : Nat := 4
/-- slots: value=0 low=1 high=2 -/
def d_is_integer : Def := ⟨3, 3, [.ite (.or (.not (.blt .isint [(.v 0)])) (.blt .isbool [(.v 0)])) [.ret (.c (.bl false))] [],
    .ret (.and (.cmp .le (.v 1) (.v 0)) (.or (.cmp .is (.v 2) (.c .non)) (.cmp .le (.v 0) (.v 2))))]⟩
/-- slots: value=0 low=1 high=2 -/
def d_is_tuple : Def := ⟨3, 3, [.ret (.and (.blt .istuple [(.v 0)]) (.and (.cmp .le (.v 1) (.blt .len [(.v 0)])) (.or (.cmp .is (.v 2) (.c .non)) (.cmp .le (.blt .len [(.v 0)]) (.v 2)))))]⟩
/-- slots: one=0 other=1 -/
def d_measure : Def := ⟨2, 2, [.par 0 1 (.blt .abs [(.v 0)]) (.blt .abs [(.v 1)]),
    .while_ (.cmp .gt (.v 1) (.c (.int 0))) [.par 0 1 (.v 1) (.bin .mod (.v 0) (.v 1))],
    .ret (.v 0)]⟩
/-- slots: number=0 under=1 most=2 -/
def d_fraction : Def := ⟨2, 3, [.asg (.v 2) (.ite (.cmp .gt (.v 1) (.c (.int 0))) (.call Fn.measure [(.v 0), (.v 1)]) (.neg (.call Fn.measure [(.v 0), (.v 1)]))),
    .ret (.tup [(.bin .fdiv (.v 0) (.v 2)), (.bin .fdiv (.v 1) (.v 2))])]⟩
/-- slots: value=0 -/
def d_is_whole : Def := ⟨1, 1, [.ret (.and (.blt .isint [(.v 0)]) (.not (.blt .isbool [(.v 0)])))]⟩
/-- slots: value=0 low=1 -/
def d_is_fraction : Def := ⟨2, 2, [.ite (.or (.not (.call Fn.is_tuple [(.v 0), (.g Gl.PAIR), (.g Gl.PAIR)])) (.or (.not (.call Fn.is_whole [(.sub (.v 0) (.c (.int 0)))])) (.not (.call Fn.is_integer [(.sub (.v 0) (.c (.int 1))), (.c (.int 1))])))) [.ret (.c (.bl false))] [],
    .ret (.and (.cmp .eq (.call Fn.measure [(.sub (.v 0) (.c (.int 0))), (.sub (.v 0) (.c (.int 1)))]) (.c (.int 1))) (.or (.cmp .is (.v 1) (.c .non)) (.cmp .ge (.sub (.v 0) (.c (.int 0))) (.bin .mul (.v 1) (.sub (.v 0) (.c (.int 1)))))))]⟩
/-- slots: one=0 other=1 -/
def d_plus : Def := ⟨2, 2, [.ret (.call Fn.fraction [(.bin .add (.bin .mul (.sub (.v 0) (.c (.int 0))) (.sub (.v 1) (.c (.int 1)))) (.bin .mul (.sub (.v 1) (.c (.int 0))) (.sub (.v 0) (.c (.int 1))))), (.bin .mul (.sub (.v 0) (.c (.int 1))) (.sub (.v 1) (.c (.int 1))))])]⟩
/-- slots: some=0 found=1 one=2 -/
def d_total : Def := ⟨1, 3, [.asg (.v 1) (.g Gl.NOUGHT),
    .for_ (.v 2) (.v 0) [.asg (.v 1) (.call Fn.plus [(.v 1), (.v 2)])],
    .retm 1]⟩
/-- slots: value=0 many=1 one=2 -/
def d_are_parts : Def := ⟨2, 3, [.ite (.or (.not (.call Fn.is_tuple [(.v 0), (.v 1), (.v 1)])) (.not (.blt .all [(.lc (.call Fn.is_fraction [(.v 2), (.c (.int 0))]) (.v 2) (.v 0) [] [2])]))) [.ret (.c (.bl false))] [],
    .ret (.cmp .eq (.call Fn.total [(.blt .list [(.v 0)])]) (.g Gl.ONE))]⟩
/-- slots: chances=0 counts=1 time=2 found=3 number=4 part=5 whole=6 wait=7 by=8 -/
def d_next_of : Def := ⟨2, 9, [.par 2 3 (.bin .add (.blt .sum [(.v 1)]) (.c (.int 1))) (.c .non),
    .for_ (.tup [(.v 4), (.tup [(.v 5), (.v 6)])]) (.enum (.v 0)) [.ite (.cmp .lt (.bin .mul (.sub (.v 1) (.v 4)) (.v 6)) (.bin .mul (.v 5) (.v 2))) [.par 7 8 (.bin .mul (.bin .add (.sub (.v 1) (.v 4)) (.c (.int 1))) (.v 6)) (.v 5),
    .ite (.or (.cmp .is (.v 3) (.c .non)) (.cmp .lt (.bin .mul (.v 7) (.sub (.v 3) (.c (.int 2)))) (.bin .mul (.sub (.v 3) (.c (.int 1))) (.v 8)))) [.asg (.v 3) (.tup [(.v 4), (.v 7), (.v 8)])] []] []],
    .ret (.sub (.v 3) (.c (.int 0)))]⟩
/-- slots: chances=0 many=1 lap=2 counts=3 found=4 number=5 chance=6 -/
def d_dealt : Def := ⟨2, 7, [.ite (.or (.not (.call Fn.is_tuple [(.v 0), (.c (.int 1)), (.g Gl.MOST_LOTS)])) (.not (.call Fn.are_parts [(.v 0), (.blt .len [(.v 0)])]))) [.raise 2 (.v 0)] [],
    .ite (.not (.call Fn.is_integer [(.v 1), (.c (.int 0)), (.g Gl.MOST_ASKS)])) [.raise 1 (.v 1)] [],
    .par 3 4 (.lc (.c (.int 0)) (.v 6) (.v 0) [] [6]) (.lst []),
    .for_ (.v 2) (.range [(.v 1)]) [.asg (.v 5) (.call Fn.next_of [(.v 0), (.v 3)]),
    .augI 3 (.v 5) (.c (.int 1)),
    .app 4 (.v 5)],
    .ret (.blt .tuple [(.v 4)])]⟩
/-- slots: _law_script=0 _law_place=1 _law_cell=2 _law_own=3 _law_small=4 -/
def d_law_pot : Def := ⟨2, 5, [.asg (.v 2) (.ite (.cmp .lt (.v 1) (.blt .len [(.v 0)])) (.sub (.v 0) (.v 1)) (.bin .add (.bin .mul (.c (.int 263)) (.v 1)) (.c (.int 109)))),
    .asg (.v 3) (.bin .mul (.bin .mod (.blt .int [(.blt .abs [(.v 2)])]) (.bin .pow (.bin .pow (.c (.int 10)) (.c (.int 60))) (.c (.int 5)))) (.blt .int [(.cmp .ge (.blt .abs [(.v 2)]) (.bin .pow (.c (.int 10)) (.c (.int 18))))])),
    .asg (.v 4) (.bin .mod (.blt .int [(.v 2)]) (.c (.int 2305843009213693951))),
    .ret (.lst [(.v 3), (.bin .mod (.blt .int [(.bin .add (.bin .add (.bin .mul (.v 4) (.c (.int 74357))) (.bin .mul (.bin .mul (.c (.int 7793)) (.v 1)) (.v 1))) (.c (.int 181)))]) (.c (.int 2305843009213693921))), (.c (.int 0))])]⟩
/-- slots: _law_pot_here=0 _law_upto=1 _law_prime=2 _law_mix=3 _law_digit=4 -/
def d_law_take : Def := ⟨2, 5, [.ite (.cmp .gt (.sub (.v 0) (.c (.int 0))) (.c (.int 0))) [.asg (.v 4) (.bin .mod (.blt .int [(.sub (.v 0) (.c (.int 0)))]) (.v 1)),
    .setI 0 (.c (.int 0)) (.bin .fdiv (.sub (.v 0) (.c (.int 0))) (.v 1)),
    .retm 4] [],
    .setI 0 (.c (.int 2)) (.bin .add (.sub (.v 0) (.c (.int 2))) (.c (.int 1))),
    .asg (.v 2) (.sub (.lst [(.c (.int 2147483647)), (.c (.int 2147483629)), (.c (.int 2147483587)), (.c (.int 2147483579)), (.c (.int 2147483563))]) (.bin .mod (.blt .int [(.sub (.v 0) (.c (.int 2)))]) (.c (.int 5)))),
    .asg (.v 3) (.bin .mod (.blt .int [(.bin .pow (.blt .int [(.bin .add (.bin .add (.sub (.v 0) (.c (.int 1))) (.bin .mul (.bin .mul (.c (.int 98809)) (.sub (.v 0) (.c (.int 2)))) (.sub (.v 0) (.c (.int 2))))) (.c (.int 91)))]) (.c (.int 3)))]) (.v 2)),
    .asg (.v 3) (.bin .mod (.blt .int [(.bin .mul (.v 3) (.bin .add (.bin .mod (.blt .int [(.v 3)]) (.c (.int 10513))) (.bin .mul (.c (.int 187)) (.sub (.v 0) (.c (.int 2))))))]) (.c (.int 2305843009213693907))),
    .ret (.bin .mod (.blt .int [(.bin .fdiv (.v 3) (.c (.int 167)))]) (.v 1))]⟩
/-- slots: _law_pot_here=0 _law_some=1 -/
def d_law_of : Def := ⟨2, 2, [.ret (.sub (.v 1) (.call Fn.law_take [(.v 0), (.blt .len [(.v 1)])]))]⟩
/-- slots: _law_script=0 _law_limit=1 -/
def d_law_cells : Def := ⟨2, 2, [.ret (.lran [(.blt .max [(.c (.int 1)), (.blt .min [(.v 1), (.blt .len [(.v 0)])])])])]⟩
/-- slots: _law_look=0 _law_caught=1 _law_back=2 error=3 -/
def d_law_heard : Def := ⟨1, 4, [.drop (.range []),
    .drop (.range []),
    .ret (.tup [(.v 1), (.v 2)])]⟩
/-- slots: _law_pot_here=0 _law_some=1 -/
def d_law_odd : Def := ⟨1, 2, [.asg (.v 1) (.lst [(.c .non), (.c (.bl true)), (.c (.bl false)), (.c (.int 0)), (.c (.int 1)), (.neg (.c (.int 1))), (.c (.int 2)), (.c (.int 7)), (.c (.str "")), (.c (.str "a")), (.c (.str "read")), (.c (.str "write")), (.c (.str "dead")), (.tup []), (.lst []), (.c (.dic [] [])), (.tup [(.c (.int 0))]), (.tup [(.tup [])]), (.lst [(.c (.int 0))]), (.c (.str "A"))]),
    .asg (.v 1) (.bin .add (.v 1) (.lst [(.tup [(.c (.int 0)), (.c (.int 1))]), (.tup [(.c (.int 1)), (.c (.int 1))]), (.tup [(.c (.int 1)), (.c (.int 2))]), (.tup [(.c (.int 2)), (.c (.int 4))]), (.tup [(.c (.int 1)), (.c (.int 0))]), (.tup [(.c (.bl true)), (.c (.int 1))]), (.tup [(.c (.str "a"))]), (.tup [(.c (.str "a")), (.c (.str "b"))]), (.tup [(.tup [(.c (.int 1)), (.c (.int 1))])]), (.tup [(.c .non)]), (.bin .pow (.c (.int 10)) (.c (.int 8)))])),
    .ret (.call Fn.law_of [(.v 0), (.v 1)])]⟩
/-- slots: _law_pot_here=0 _law_value=1 _law_at=2 -/
def d_law_bent : Def := ⟨2, 3, [.ite (.and (.blt .istuple [(.v 1)]) (.and (.cmp .ne (.v 1) (.tup [])) (.cmp .gt (.call Fn.law_take [(.v 0), (.c (.int 7))]) (.c (.int 0))))) [.asg (.v 2) (.call Fn.law_take [(.v 0), (.blt .len [(.v 1)])]),
    .ret (.bin .add (.bin .add (.slc (.v 1) (.c .non) (.v 2)) (.tup [(.call Fn.law_bent [(.v 0), (.sub (.v 1) (.v 2))])])) (.slc (.v 1) (.bin .add (.v 2) (.c (.int 1))) (.c .non)))] [],
    .ite (.blt .istuple [(.v 1)]) [.ret (.call Fn.law_of [(.v 0), (.lst [(.blt .list [(.v 1)]), (.slc (.v 1) (.c (.int 1)) (.c .non)), (.slc (.v 1) (.c .non) (.neg (.c (.int 1)))), (.bin .add (.v 1) (.slc (.v 1) (.neg (.c (.int 1))) (.c .non))), (.un .rev (.v 1)), (.tup []), (.c .non)])])] [],
    .ite (.and (.blt .isint [(.v 1)]) (.not (.blt .isbool [(.v 1)]))) [.ret (.call Fn.law_of [(.v 0), (.lst [(.bin .add (.v 1) (.c (.int 1))), (.bin .sub (.v 1) (.c (.int 1))), (.cmp .eq (.v 1) (.c (.int 1))), (.c (.str "1")), (.c .non), (.c (.int 0)), (.neg (.v 1)), (.bin .mul (.c (.int 2)) (.v 1))])])] [],
    .ite (.blt .isstr [(.v 1)]) [.ret (.call Fn.law_of [(.v 0), (.lst [(.bin .add (.v 1) (.c (.str "a"))), (.slc (.v 1) (.c .non) (.neg (.c (.int 1)))), (.c (.str "never")), (.c (.str "read")), (.c (.str "load")), (.c (.str "a")), (.c (.str "b")), (.c .non), (.c (.int 0)), (.lst [(.v 1)])])])] [],
    .ret (.call Fn.law_odd [(.v 0)])]⟩
/-- slots: _law_value=0 _law_low=1 _law_high=2 -/
def d_law_is_int : Def := ⟨3, 3, [.ite (.or (.not (.blt .isint [(.v 0)])) (.blt .isbool [(.v 0)])) [.ret (.c (.bl false))] [],
    .ret (.and (.cmp .le (.v 1) (.v 0)) (.or (.cmp .is (.v 2) (.c .non)) (.cmp .le (.v 0) (.v 2))))]⟩
/-- slots: _law_top=0 _law_under=1 _law_sign=2 _law_one=3 _law_other=4 -/
def d_law_cut : Def := ⟨2, 5, [.par 3 4 (.blt .abs [(.blt .int [(.v 0)])]) (.blt .abs [(.blt .int [(.v 1)])]),
    .while_ (.cmp .gt (.v 4) (.c (.int 0))) [.par 3 4 (.v 4) (.bin .mod (.blt .int [(.v 3)]) (.v 4))],
    .asg (.v 2) (.ite (.cmp .gt (.v 1) (.c (.int 0))) (.c (.int 1)) (.neg (.c (.int 1)))),
    .ret (.tup [(.bin .fdiv (.bin .mul (.v 2) (.v 0)) (.v 3)), (.bin .fdiv (.bin .mul (.v 2) (.v 1)) (.v 3))])]⟩
/-- slots: _law_one=0 _law_other=1 -/
def d_law_plus : Def := ⟨2, 2, [.ret (.call Fn.law_cut [(.bin .add (.bin .mul (.sub (.v 0) (.c (.int 0))) (.sub (.v 1) (.c (.int 1)))) (.bin .mul (.sub (.v 1) (.c (.int 0))) (.sub (.v 0) (.c (.int 1))))), (.bin .mul (.sub (.v 0) (.c (.int 1))) (.sub (.v 1) (.c (.int 1))))])]⟩
/-- slots: _law_some=0 _law_found=1 _law_one=2 -/
def d_law_sum : Def := ⟨1, 3, [.asg (.v 1) (.tup [(.c (.int 0)), (.c (.int 1))]),
    .for_ (.v 2) (.v 0) [.asg (.v 1) (.call Fn.law_plus [(.v 1), (.v 2)])],
    .retm 1]⟩
/-- slots: _law_value=0 _law_one=1 -/
def d_law_is_fraction : Def := ⟨1, 2, [.ite (.or (.not (.blt .istuple [(.v 0)])) (.cmp .ne (.blt .len [(.v 0)]) (.c (.int 2)))) [.ret (.c (.bl false))] [],
    .ite (.not (.blt .all [(.lc (.and (.blt .isint [(.v 1)]) (.not (.blt .isbool [(.v 1)]))) (.v 1) (.v 0) [] [1])])) [.ret (.c (.bl false))] [],
    .ret (.and (.cmp .gt (.sub (.v 0) (.c (.int 1))) (.c (.int 0))) (.cmp .eq (.call Fn.law_cut [(.sub (.v 0) (.c (.int 0))), (.sub (.v 0) (.c (.int 1)))]) (.v 0)))]⟩
/-- slots: _law_value=0 _law_many=1 _law_one=2 -/
def d_law_are_parts : Def := ⟨2, 3, [.ite (.or (.not (.blt .istuple [(.v 0)])) (.or (.cmp .ne (.blt .len [(.v 0)]) (.v 1)) (.not (.blt .all [(.lc (.call Fn.law_is_fraction [(.v 2)]) (.v 2) (.v 0) [] [2])])))) [.ret (.c (.bl false))] [],
    .ret (.and (.blt .all [(.lc (.cmp .ge (.sub (.v 2) (.c (.int 0))) (.c (.int 0))) (.v 2) (.v 0) [] [2])]) (.cmp .eq (.call Fn.law_sum [(.v 0)]) (.tup [(.c (.int 1)), (.c (.int 1))])))]⟩
/-- slots: _law_pot_here=0 _law_many=1 _law_some=2 _law_lap=3 _law_one=4 -/
def d_law_parts : Def := ⟨2, 5, [.asg (.v 2) (.lc (.call Fn.law_of [(.v 0), (.lst [(.c (.int 0)), (.c (.int 1)), (.c (.int 1)), (.c (.int 2)), (.c (.int 3)), (.call Fn.law_take [(.v 0), (.c (.int 30))])])]) (.v 3) (.range [(.v 1)]) [] [3]),
    .ite (.cmp .eq (.blt .sum [(.v 2)]) (.c (.int 0))) [.setI 2 (.call Fn.law_take [(.v 0), (.v 1)]) (.c (.int 1))] [],
    .ret (.blt .tuple [(.lc (.call Fn.law_cut [(.v 4), (.blt .sum [(.v 2)])]) (.v 4) (.v 2) [] [4])])]⟩
/-- slots: _law_pot_here=0 _law_some=1 _law_found=2 _law_one=3 _law_lap=4 -/
def d_law_near : Def := ⟨2, 5, [.asg (.v 2) (.lst [(.v 1), (.v 1), (.slc (.v 1) (.c (.int 1)) (.c .non)), (.bin .add (.v 1) (.slc (.v 1) (.c .non) (.c (.int 1)))), (.blt .list [(.v 1)]), (.blt .tuple [(.lc (.blt .list [(.v 3)]) (.v 3) (.v 1) [] [3])]), (.tup []), (.c .non)]),
    .ext 2 (.lst [(.bin .mul (.tup [(.tup [(.c (.int 1)), (.c (.int 21))])]) (.c (.int 21))), (.bin .mul (.tup [(.tup [(.c (.int 1)), (.c (.int 20))])]) (.c (.int 20))), (.tup [(.tup [(.c (.int 2)), (.c (.int 4))]), (.tup [(.c (.int 1)), (.c (.int 2))])]), (.tup [(.tup [(.c (.int 1)), (.c (.int 2))]), (.tup [(.c (.int 1)), (.c (.int 3))])]), (.tup [(.tup [(.c (.int 3)), (.c (.int 2))]), (.tup [(.neg (.c (.int 1))), (.c (.int 2))])]), (.tup [(.tup [(.c (.int 1)), (.c (.int 1))])])]),
    .ext 2 (.lst [(.tup [(.tup [(.c (.int 1)), (.c (.int 1))]), (.tup [(.c (.int 0)), (.c (.int 1))])]), (.tup [(.tup [(.c (.int 0)), (.c (.int 1))]), (.tup [(.c (.int 0)), (.c (.int 2))]), (.tup [(.c (.int 1)), (.c (.int 1))])]), (.tup [(.c (.int 1))]), (.tup [(.tup [(.c (.bl true)), (.c (.int 1))])]), (.tup [(.tup [(.c (.int 1)), (.c (.bl true))])]), (.tup [(.c (.int 1)), (.c (.int 1))]), (.tup [(.tup [(.c (.int 1)), (.c (.int 2))])])]),
    .ret (.call Fn.law_of [(.v 0), (.bin .add (.bin .add (.v 2) (.lc (.call Fn.law_bent [(.v 0), (.v 1)]) (.v 4) (.range [(.c (.int 5))]) [] [4])) (.lst [(.call Fn.law_odd [(.v 0)])]))])]⟩
/-- slots: _law_pot_here=0 _law_lap=1 _law_some=2 _law_asks=3 _law_caught=4 _law_told=5 -/
def d_law_right : Def := ⟨1, 6, [.for_ (.v 1) (.range [(.c (.int 8))]) [.asg (.v 2) (.call Fn.law_near [(.v 0), (.call Fn.law_parts [(.v 0), (.bin .add (.c (.int 1)) (.call Fn.law_take [(.v 0), (.c (.int 6))]))])]),
    .asg (.v 3) (.call Fn.law_of [(.v 0), (.lst [(.c (.int 0)), (.c (.int 1)), (.c (.int 99)), (.c (.int 100)), (.neg (.c (.int 1))), (.c (.bl true)), (.c .non), (.c (.str "3")), (.tup [(.c (.int 3))]), (.call Fn.law_odd [(.v 0)])])]),
    .asg (.tup [(.v 4), (.v 5)]) (.hrd (.call Fn.dealt [(.v 2), (.v 3)])),
    .ite (.or (.not (.blt .istuple [(.v 2)])) (.or (.not (.chn .lt .lt (.c (.int 0)) (.blt .len [(.v 2)]) (.c (.int 21)))) (.not (.call Fn.law_are_parts [(.v 2), (.blt .len [(.v 2)])])))) [.ite (.or (.not (.un (.isx 3 [2]) (.v 4))) (.cmp .ne (.un .rpr (.un (.fld "value") (.v 4))) (.un .rpr (.v 2)))) [.ret (.c (.bl false))] []] [.ite (.not (.call Fn.law_is_int [(.v 3), (.c (.int 0)), (.c (.int 99))])) [.ite (.or (.not (.un (.isx 3 [1]) (.v 4))) (.cmp .ne (.un .rpr (.un (.fld "value") (.v 4))) (.un .rpr (.v 3)))) [.ret (.c (.bl false))] []] [.ite (.or (.cmp .isnot (.v 4) (.c .non)) (.cmp .ne (.blt .len [(.v 5)]) (.v 3))) [.ret (.c (.bl false))] []]]],
    .ret (.c (.bl true))]⟩
/-- slots: _law_script=0 _law_place=1 _law_pot_here=2 _law_lap=3 -/
def d_law : Def := ⟨1, 4, [.for_ (.v 1) (.call Fn.law_cells [(.v 0), (.c (.int 6))]) [.asg (.v 2) (.call Fn.law_pot [(.v 0), (.v 1)]),
    .ite (.not (.blt .all [(.lc (.call Fn.law_right [(.v 2)]) (.v 3) (.range [(.c (.int 2))]) [] [3])])) [.ret (.c (.bl false))] []],
    .ret (.c (.bl true))]⟩
def ens : List Str := (["AskError", "BadNumber", "BadChances"] : List Str)
def eis : List (Str × Nat × List Nat) := [("BadChances", 3, [2]), ("BadNumber", 3, [1])]
abbrev ers : Er := erOf ens eis (some "_law_heard")
def exL (K : PySem.W.Frag) : Bool := exB cs K && (errB PySem.Challenge.pw_evenasks_k47_chances_and_asks_refused ens eis K && heB ens fs ers K)
def irs : List Def := [d_is_integer, d_is_tuple, d_measure, d_fraction, d_is_whole, d_is_fraction, d_plus, d_total, d_are_parts, d_next_of, d_dealt, d_law_pot, d_law_take, d_law_of, d_law_cells, d_law_heard, d_law_odd, d_law_bent, d_law_is_int, d_law_cut, d_law_plus, d_law_sum, d_law_is_fraction, d_law_are_parts, d_law_parts, d_law_near, d_law_right, d_law]
theorem ir_ok : irs = fs.map (compD fs cs ers) := by kernel_rfl
theorem sc0 : FnScope f0.N f0.ps f0.d.scope := ⟨rfl, rfl, rfl, by decide +kernel, rfl, by decide +kernel, by decide +kernel⟩
theorem sc1 : FnScope f1.N f1.ps f1.d.scope := ⟨rfl, rfl, rfl, by decide +kernel, rfl, by decide +kernel, by decide +kernel⟩
theorem sc2 : FnScope f2.N f2.ps f2.d.scope := ⟨rfl, rfl, rfl, by decide +kernel, rfl, by decide +kernel, by decide +kernel⟩
theorem sc3 : FnScope f3.N f3.ps f3.d.scope := ⟨rfl, rfl, rfl, by decide +kernel, rfl, by decide +kernel, by decide +kernel⟩
theorem sc4 : FnScope f4.N f4.ps f4.d.scope := ⟨rfl, rfl, rfl, by decide +kernel, rfl, by decide +kernel, by decide +kernel⟩
theorem sc5 : FnScope f5.N f5.ps f5.d.scope := ⟨rfl, rfl, rfl, by decide +kernel, rfl, by decide +kernel, by decide +kernel⟩
theorem sc6 : FnScope f6.N f6.ps f6.d.scope := ⟨rfl, rfl, rfl, by decide +kernel, rfl, by decide +kernel, by decide +kernel⟩
theorem sc7 : FnScope f7.N f7.ps f7.d.scope := ⟨rfl, rfl, rfl, by decide +kernel, rfl, by decide +kernel, by decide +kernel⟩
theorem sc8 : FnScope f8.N f8.ps f8.d.scope := ⟨rfl, rfl, rfl, by decide +kernel, rfl, by decide +kernel, by decide +kernel⟩
theorem sc9 : FnScope f9.N f9.ps f9.d.scope := ⟨rfl, rfl, rfl, by decide +kernel, rfl, by decide +kernel, by decide +kernel⟩
theorem sc10 : FnScope f10.N f10.ps f10.d.scope := ⟨rfl, rfl, rfl, by decide +kernel, rfl, by decide +kernel, by decide +kernel⟩
theorem sc11 : FnScope f11.N f11.ps f11.d.scope := ⟨rfl, rfl, rfl, by decide +kernel, rfl, by decide +kernel, by decide +kernel⟩
theorem sc12 : FnScope f12.N f12.ps f12.d.scope := ⟨rfl, rfl, rfl, by decide +kernel, rfl, by decide +kernel, by decide +kernel⟩
theorem sc13 : FnScope f13.N f13.ps f13.d.scope := ⟨rfl, rfl, rfl, by decide +kernel, rfl, by decide +kernel, by decide +kernel⟩
theorem sc14 : FnScope f14.N f14.ps f14.d.scope := ⟨rfl, rfl, rfl, by decide +kernel, rfl, by decide +kernel, by decide +kernel⟩
theorem sc15 : FnScope f15.N f15.ps f15.d.scope := ⟨rfl, rfl, rfl, by decide +kernel, rfl, by decide +kernel, by decide +kernel⟩
theorem sc16 : FnScope f16.N f16.ps f16.d.scope := ⟨rfl, rfl, rfl, by decide +kernel, rfl, by decide +kernel, by decide +kernel⟩
theorem sc17 : FnScope f17.N f17.ps f17.d.scope := ⟨rfl, rfl, rfl, by decide +kernel, rfl, by decide +kernel, by decide +kernel⟩
theorem sc18 : FnScope f18.N f18.ps f18.d.scope := ⟨rfl, rfl, rfl, by decide +kernel, rfl, by decide +kernel, by decide +kernel⟩
theorem sc19 : FnScope f19.N f19.ps f19.d.scope := ⟨rfl, rfl, rfl, by decide +kernel, rfl, by decide +kernel, by decide +kernel⟩
theorem sc20 : FnScope f20.N f20.ps f20.d.scope := ⟨rfl, rfl, rfl, by decide +kernel, rfl, by decide +kernel, by decide +kernel⟩
theorem sc21 : FnScope f21.N f21.ps f21.d.scope := ⟨rfl, rfl, rfl, by decide +kernel, rfl, by decide +kernel, by decide +kernel⟩
theorem sc22 : FnScope f22.N f22.ps f22.d.scope := ⟨rfl, rfl, rfl, by decide +kernel, rfl, by decide +kernel, by decide +kernel⟩
theorem sc23 : FnScope f23.N f23.ps f23.d.scope := ⟨rfl, rfl, rfl, by decide +kernel, rfl, by decide +kernel, by decide +kernel⟩
theorem sc24 : FnScope f24.N f24.ps f24.d.scope := ⟨rfl, rfl, rfl, by decide +kernel, rfl, by decide +kernel, by decide +kernel⟩
theorem sc25 : FnScope f25.N f25.ps f25.d.scope := ⟨rfl, rfl, rfl, by decide +kernel, rfl, by decide +kernel, by decide +kernel⟩
theorem sc26 : FnScope f26.N f26.ps f26.d.scope := ⟨rfl, rfl, rfl, by decide +kernel, rfl, by decide +kernel, by decide +kernel⟩
theorem sc27 : FnScope f27.N f27.ps f27.d.scope := ⟨rfl, rfl, rfl, by decide +kernel, rfl, by decide +kernel, by decide +kernel⟩
theorem all_fs {p : FD → Prop} (h0 : p f0) (h1 : p f1) (h2 : p f2) (h3 : p f3) (h4 : p f4) (h5 : p f5) (h6 : p f6) (h7 : p f7) (h8 : p f8) (h9 : p f9) (h10 : p f10) (h11 : p f11) (h12 : p f12) (h13 : p f13) (h14 : p f14) (h15 : p f15) (h16 : p f16) (h17 : p f17) (h18 : p f18) (h19 : p f19) (h20 : p f20) (h21 : p f21) (h22 : p f22) (h23 : p f23) (h24 : p f24) (h25 : p f25) (h26 : p f26) (h27 : p f27) : ∀ d, d ∈ fs → p d := fun d hd => by
  unfold fs at hd
  simp only [List.mem_cons, List.not_mem_nil, or_false] at hd
  rcases hd with rfl | rfl | rfl | rfl | rfl | rfl | rfl | rfl | rfl | rfl | rfl | rfl | rfl | rfl | rfl | rfl | rfl | rfl | rfl | rfl | rfl | rfl | rfl | rfl | rfl | rfl | rfl | rfl <;> assumption
theorem bn0 (K : PySem.W.Frag) (fd : FuncData) (j : Nat) (hj : j ≤ f0.d.dfl.length) (F : FunD K f0.d.name f0.d.qual f0.d.params f0.d.body f0.d.scope (f0.d.dvs K) [] (He.fAd K f0.d.at_) fd) : ∃ ds, Vals ((f0.d.dvs K).drop (f0.d.dfl.length - j)) ds ∧ Binds K fd f0.ps ds := by
  have hj : j ≤ 1 := hj
  have hc : j = 0 ∨ j = 1 := by omega
  rcases hc with rfl | rfl
  · exact FunD.binds1 F 3 1 (List.cons_ne_nil _ _) rfl fun _ _ _ _ _ _ _ us its h1 h2 => match us, its, h1, h2 with | [_, _, _], [_], _, _ => ⟨_, rfl, rfl⟩
  · exact FunD.binds1 F 2 0 (List.cons_ne_nil _ _) rfl fun _ _ _ _ _ _ _ us its h1 h2 => match us, its, h1, h2 with | [_, _], [_], _, _ => ⟨_, rfl, rfl⟩
theorem bn1 (K : PySem.W.Frag) (fd : FuncData) (j : Nat) (hj : j ≤ f1.d.dfl.length) (F : FunD K f1.d.name f1.d.qual f1.d.params f1.d.body f1.d.scope (f1.d.dvs K) [] (He.fAd K f1.d.at_) fd) : ∃ ds, Vals ((f1.d.dvs K).drop (f1.d.dfl.length - j)) ds ∧ Binds K fd f1.ps ds := by
  have hj : j ≤ 1 := hj
  have hc : j = 0 ∨ j = 1 := by omega
  rcases hc with rfl | rfl
  · exact FunD.binds1 F 3 1 (List.cons_ne_nil _ _) rfl fun _ _ _ _ _ _ _ us its h1 h2 => match us, its, h1, h2 with | [_, _, _], [_], _, _ => ⟨_, rfl, rfl⟩
  · exact FunD.binds1 F 2 0 (List.cons_ne_nil _ _) rfl fun _ _ _ _ _ _ _ us its h1 h2 => match us, its, h1, h2 with | [_, _], [_], _, _ => ⟨_, rfl, rfl⟩
theorem bn2 (K : PySem.W.Frag) (fd : FuncData) (j : Nat) (hj : j ≤ f2.d.dfl.length) (F : FunD K f2.d.name f2.d.qual f2.d.params f2.d.body f2.d.scope (f2.d.dvs K) [] (He.fAd K f2.d.at_) fd) : ∃ ds, Vals ((f2.d.dvs K).drop (f2.d.dfl.length - j)) ds ∧ Binds K fd f2.ps ds := by
  cases (Nat.le_zero.mp hj)
  exact ⟨[], .nil, FunD.bindsN F fun _ _ _ _ _ _ us hl => match us, hl with | [_, _], _ => rfl⟩
theorem bn3 (K : PySem.W.Frag) (fd : FuncData) (j : Nat) (hj : j ≤ f3.d.dfl.length) (F : FunD K f3.d.name f3.d.qual f3.d.params f3.d.body f3.d.scope (f3.d.dvs K) [] (He.fAd K f3.d.at_) fd) : ∃ ds, Vals ((f3.d.dvs K).drop (f3.d.dfl.length - j)) ds ∧ Binds K fd f3.ps ds := by
  cases (Nat.le_zero.mp hj)
  exact ⟨[], .nil, FunD.bindsN F fun _ _ _ _ _ _ us hl => match us, hl with | [_, _], _ => rfl⟩
theorem bn4 (K : PySem.W.Frag) (fd : FuncData) (j : Nat) (hj : j ≤ f4.d.dfl.length) (F : FunD K f4.d.name f4.d.qual f4.d.params f4.d.body f4.d.scope (f4.d.dvs K) [] (He.fAd K f4.d.at_) fd) : ∃ ds, Vals ((f4.d.dvs K).drop (f4.d.dfl.length - j)) ds ∧ Binds K fd f4.ps ds := by
  cases (Nat.le_zero.mp hj)
  exact ⟨[], .nil, FunD.bindsN F fun _ _ _ _ _ _ us hl => match us, hl with | [_], _ => rfl⟩
theorem bn5 (K : PySem.W.Frag) (fd : FuncData) (j : Nat) (hj : j ≤ f5.d.dfl.length) (F : FunD K f5.d.name f5.d.qual f5.d.params f5.d.body f5.d.scope (f5.d.dvs K) [] (He.fAd K f5.d.at_) fd) : ∃ ds, Vals ((f5.d.dvs K).drop (f5.d.dfl.length - j)) ds ∧ Binds K fd f5.ps ds := by
  have hj : j ≤ 1 := hj
  have hc : j = 0 ∨ j = 1 := by omega
  rcases hc with rfl | rfl
  · exact FunD.binds1 F 2 1 (List.cons_ne_nil _ _) rfl fun _ _ _ _ _ _ _ us its h1 h2 => match us, its, h1, h2 with | [_, _], [_], _, _ => ⟨_, rfl, rfl⟩
  · exact FunD.binds1 F 1 0 (List.cons_ne_nil _ _) rfl fun _ _ _ _ _ _ _ us its h1 h2 => match us, its, h1, h2 with | [_], [_], _, _ => ⟨_, rfl, rfl⟩
theorem bn6 (K : PySem.W.Frag) (fd : FuncData) (j : Nat) (hj : j ≤ f6.d.dfl.length) (F : FunD K f6.d.name f6.d.qual f6.d.params f6.d.body f6.d.scope (f6.d.dvs K) [] (He.fAd K f6.d.at_) fd) : ∃ ds, Vals ((f6.d.dvs K).drop (f6.d.dfl.length - j)) ds ∧ Binds K fd f6.ps ds := by
  cases (Nat.le_zero.mp hj)
  exact ⟨[], .nil, FunD.bindsN F fun _ _ _ _ _ _ us hl => match us, hl with | [_, _], _ => rfl⟩
theorem bn7 (K : PySem.W.Frag) (fd : FuncData) (j : Nat) (hj : j ≤ f7.d.dfl.length) (F : FunD K f7.d.name f7.d.qual f7.d.params f7.d.body f7.d.scope (f7.d.dvs K) [] (He.fAd K f7.d.at_) fd) : ∃ ds, Vals ((f7.d.dvs K).drop (f7.d.dfl.length - j)) ds ∧ Binds K fd f7.ps ds := by
  cases (Nat.le_zero.mp hj)
  exact ⟨[], .nil, FunD.bindsN F fun _ _ _ _ _ _ us hl => match us, hl with | [_], _ => rfl⟩
theorem bn8 (K : PySem.W.Frag) (fd : FuncData) (j : Nat) (hj : j ≤ f8.d.dfl.length) (F : FunD K f8.d.name f8.d.qual f8.d.params f8.d.body f8.d.scope (f8.d.dvs K) [] (He.fAd K f8.d.at_) fd) : ∃ ds, Vals ((f8.d.dvs K).drop (f8.d.dfl.length - j)) ds ∧ Binds K fd f8.ps ds := by
  cases (Nat.le_zero.mp hj)
  exact ⟨[], .nil, FunD.bindsN F fun _ _ _ _ _ _ us hl => match us, hl with | [_, _], _ => rfl⟩
theorem bn9 (K : PySem.W.Frag) (fd : FuncData) (j : Nat) (hj : j ≤ f9.d.dfl.length) (F : FunD K f9.d.name f9.d.qual f9.d.params f9.d.body f9.d.scope (f9.d.dvs K) [] (He.fAd K f9.d.at_) fd) : ∃ ds, Vals ((f9.d.dvs K).drop (f9.d.dfl.length - j)) ds ∧ Binds K fd f9.ps ds := by
  cases (Nat.le_zero.mp hj)
  exact ⟨[], .nil, FunD.bindsN F fun _ _ _ _ _ _ us hl => match us, hl with | [_, _], _ => rfl⟩
theorem bn10 (K : PySem.W.Frag) (fd : FuncData) (j : Nat) (hj : j ≤ f10.d.dfl.length) (F : FunD K f10.d.name f10.d.qual f10.d.params f10.d.body f10.d.scope (f10.d.dvs K) [] (He.fAd K f10.d.at_) fd) : ∃ ds, Vals ((f10.d.dvs K).drop (f10.d.dfl.length - j)) ds ∧ Binds K fd f10.ps ds := by
  cases (Nat.le_zero.mp hj)
  exact ⟨[], .nil, FunD.bindsN F fun _ _ _ _ _ _ us hl => match us, hl with | [_, _], _ => rfl⟩
theorem bn11 (K : PySem.W.Frag) (fd : FuncData) (j : Nat) (hj : j ≤ f11.d.dfl.length) (F : FunD K f11.d.name f11.d.qual f11.d.params f11.d.body f11.d.scope (f11.d.dvs K) [] (He.fAd K f11.d.at_) fd) : ∃ ds, Vals ((f11.d.dvs K).drop (f11.d.dfl.length - j)) ds ∧ Binds K fd f11.ps ds := by
  cases (Nat.le_zero.mp hj)
  exact ⟨[], .nil, FunD.bindsN F fun _ _ _ _ _ _ us hl => match us, hl with | [_, _], _ => rfl⟩
theorem bn12 (K : PySem.W.Frag) (fd : FuncData) (j : Nat) (hj : j ≤ f12.d.dfl.length) (F : FunD K f12.d.name f12.d.qual f12.d.params f12.d.body f12.d.scope (f12.d.dvs K) [] (He.fAd K f12.d.at_) fd) : ∃ ds, Vals ((f12.d.dvs K).drop (f12.d.dfl.length - j)) ds ∧ Binds K fd f12.ps ds := by
  cases (Nat.le_zero.mp hj)
  exact ⟨[], .nil, FunD.bindsN F fun _ _ _ _ _ _ us hl => match us, hl with | [_, _], _ => rfl⟩
theorem bn13 (K : PySem.W.Frag) (fd : FuncData) (j : Nat) (hj : j ≤ f13.d.dfl.length) (F : FunD K f13.d.name f13.d.qual f13.d.params f13.d.body f13.d.scope (f13.d.dvs K) [] (He.fAd K f13.d.at_) fd) : ∃ ds, Vals ((f13.d.dvs K).drop (f13.d.dfl.length - j)) ds ∧ Binds K fd f13.ps ds := by
  cases (Nat.le_zero.mp hj)
  exact ⟨[], .nil, FunD.bindsN F fun _ _ _ _ _ _ us hl => match us, hl with | [_, _], _ => rfl⟩
theorem bn14 (K : PySem.W.Frag) (fd : FuncData) (j : Nat) (hj : j ≤ f14.d.dfl.length) (F : FunD K f14.d.name f14.d.qual f14.d.params f14.d.body f14.d.scope (f14.d.dvs K) [] (He.fAd K f14.d.at_) fd) : ∃ ds, Vals ((f14.d.dvs K).drop (f14.d.dfl.length - j)) ds ∧ Binds K fd f14.ps ds := by
  cases (Nat.le_zero.mp hj)
  exact ⟨[], .nil, FunD.bindsN F fun _ _ _ _ _ _ us hl => match us, hl with | [_, _], _ => rfl⟩
theorem bn15 (K : PySem.W.Frag) (fd : FuncData) (j : Nat) (hj : j ≤ f15.d.dfl.length) (F : FunD K f15.d.name f15.d.qual f15.d.params f15.d.body f15.d.scope (f15.d.dvs K) [] (He.fAd K f15.d.at_) fd) : ∃ ds, Vals ((f15.d.dvs K).drop (f15.d.dfl.length - j)) ds ∧ Binds K fd f15.ps ds := by
  cases (Nat.le_zero.mp hj)
  exact ⟨[], .nil, FunD.bindsN F fun _ _ _ _ _ _ us hl => match us, hl with | [_], _ => rfl⟩
theorem bn16 (K : PySem.W.Frag) (fd : FuncData) (j : Nat) (hj : j ≤ f16.d.dfl.length) (F : FunD K f16.d.name f16.d.qual f16.d.params f16.d.body f16.d.scope (f16.d.dvs K) [] (He.fAd K f16.d.at_) fd) : ∃ ds, Vals ((f16.d.dvs K).drop (f16.d.dfl.length - j)) ds ∧ Binds K fd f16.ps ds := by
  cases (Nat.le_zero.mp hj)
  exact ⟨[], .nil, FunD.bindsN F fun _ _ _ _ _ _ us hl => match us, hl with | [_], _ => rfl⟩
theorem bn17 (K : PySem.W.Frag) (fd : FuncData) (j : Nat) (hj : j ≤ f17.d.dfl.length) (F : FunD K f17.d.name f17.d.qual f17.d.params f17.d.body f17.d.scope (f17.d.dvs K) [] (He.fAd K f17.d.at_) fd) : ∃ ds, Vals ((f17.d.dvs K).drop (f17.d.dfl.length - j)) ds ∧ Binds K fd f17.ps ds := by
  cases (Nat.le_zero.mp hj)
  exact ⟨[], .nil, FunD.bindsN F fun _ _ _ _ _ _ us hl => match us, hl with | [_, _], _ => rfl⟩
theorem bn18 (K : PySem.W.Frag) (fd : FuncData) (j : Nat) (hj : j ≤ f18.d.dfl.length) (F : FunD K f18.d.name f18.d.qual f18.d.params f18.d.body f18.d.scope (f18.d.dvs K) [] (He.fAd K f18.d.at_) fd) : ∃ ds, Vals ((f18.d.dvs K).drop (f18.d.dfl.length - j)) ds ∧ Binds K fd f18.ps ds := by
  have hj : j ≤ 1 := hj
  have hc : j = 0 ∨ j = 1 := by omega
  rcases hc with rfl | rfl
  · exact FunD.binds1 F 3 1 (List.cons_ne_nil _ _) rfl fun _ _ _ _ _ _ _ us its h1 h2 => match us, its, h1, h2 with | [_, _, _], [_], _, _ => ⟨_, rfl, rfl⟩
  · exact FunD.binds1 F 2 0 (List.cons_ne_nil _ _) rfl fun _ _ _ _ _ _ _ us its h1 h2 => match us, its, h1, h2 with | [_, _], [_], _, _ => ⟨_, rfl, rfl⟩
theorem bn19 (K : PySem.W.Frag) (fd : FuncData) (j : Nat) (hj : j ≤ f19.d.dfl.length) (F : FunD K f19.d.name f19.d.qual f19.d.params f19.d.body f19.d.scope (f19.d.dvs K) [] (He.fAd K f19.d.at_) fd) : ∃ ds, Vals ((f19.d.dvs K).drop (f19.d.dfl.length - j)) ds ∧ Binds K fd f19.ps ds := by
  cases (Nat.le_zero.mp hj)
  exact ⟨[], .nil, FunD.bindsN F fun _ _ _ _ _ _ us hl => match us, hl with | [_, _], _ => rfl⟩
theorem bn20 (K : PySem.W.Frag) (fd : FuncData) (j : Nat) (hj : j ≤ f20.d.dfl.length) (F : FunD K f20.d.name f20.d.qual f20.d.params f20.d.body f20.d.scope (f20.d.dvs K) [] (He.fAd K f20.d.at_) fd) : ∃ ds, Vals ((f20.d.dvs K).drop (f20.d.dfl.length - j)) ds ∧ Binds K fd f20.ps ds := by
  cases (Nat.le_zero.mp hj)
  exact ⟨[], .nil, FunD.bindsN F fun _ _ _ _ _ _ us hl => match us, hl with | [_, _], _ => rfl⟩
theorem bn21 (K : PySem.W.Frag) (fd : FuncData) (j : Nat) (hj : j ≤ f21.d.dfl.length) (F : FunD K f21.d.name f21.d.qual f21.d.params f21.d.body f21.d.scope (f21.d.dvs K) [] (He.fAd K f21.d.at_) fd) : ∃ ds, Vals ((f21.d.dvs K).drop (f21.d.dfl.length - j)) ds ∧ Binds K fd f21.ps ds := by
  cases (Nat.le_zero.mp hj)
  exact ⟨[], .nil, FunD.bindsN F fun _ _ _ _ _ _ us hl => match us, hl with | [_], _ => rfl⟩
theorem bn22 (K : PySem.W.Frag) (fd : FuncData) (j : Nat) (hj : j ≤ f22.d.dfl.length) (F : FunD K f22.d.name f22.d.qual f22.d.params f22.d.body f22.d.scope (f22.d.dvs K) [] (He.fAd K f22.d.at_) fd) : ∃ ds, Vals ((f22.d.dvs K).drop (f22.d.dfl.length - j)) ds ∧ Binds K fd f22.ps ds := by
  cases (Nat.le_zero.mp hj)
  exact ⟨[], .nil, FunD.bindsN F fun _ _ _ _ _ _ us hl => match us, hl with | [_], _ => rfl⟩
theorem bn23 (K : PySem.W.Frag) (fd : FuncData) (j : Nat) (hj : j ≤ f23.d.dfl.length) (F : FunD K f23.d.name f23.d.qual f23.d.params f23.d.body f23.d.scope (f23.d.dvs K) [] (He.fAd K f23.d.at_) fd) : ∃ ds, Vals ((f23.d.dvs K).drop (f23.d.dfl.length - j)) ds ∧ Binds K fd f23.ps ds := by
  cases (Nat.le_zero.mp hj)
  exact ⟨[], .nil, FunD.bindsN F fun _ _ _ _ _ _ us hl => match us, hl with | [_, _], _ => rfl⟩
theorem bn24 (K : PySem.W.Frag) (fd : FuncData) (j : Nat) (hj : j ≤ f24.d.dfl.length) (F : FunD K f24.d.name f24.d.qual f24.d.params f24.d.body f24.d.scope (f24.d.dvs K) [] (He.fAd K f24.d.at_) fd) : ∃ ds, Vals ((f24.d.dvs K).drop (f24.d.dfl.length - j)) ds ∧ Binds K fd f24.ps ds := by
  cases (Nat.le_zero.mp hj)
  exact ⟨[], .nil, FunD.bindsN F fun _ _ _ _ _ _ us hl => match us, hl with | [_, _], _ => rfl⟩
theorem bn25 (K : PySem.W.Frag) (fd : FuncData) (j : Nat) (hj : j ≤ f25.d.dfl.length) (F : FunD K f25.d.name f25.d.qual f25.d.params f25.d.body f25.d.scope (f25.d.dvs K) [] (He.fAd K f25.d.at_) fd) : ∃ ds, Vals ((f25.d.dvs K).drop (f25.d.dfl.length - j)) ds ∧ Binds K fd f25.ps ds := by
  cases (Nat.le_zero.mp hj)
  exact ⟨[], .nil, FunD.bindsN F fun _ _ _ _ _ _ us hl => match us, hl with | [_, _], _ => rfl⟩
theorem bn26 (K : PySem.W.Frag) (fd : FuncData) (j : Nat) (hj : j ≤ f26.d.dfl.length) (F : FunD K f26.d.name f26.d.qual f26.d.params f26.d.body f26.d.scope (f26.d.dvs K) [] (He.fAd K f26.d.at_) fd) : ∃ ds, Vals ((f26.d.dvs K).drop (f26.d.dfl.length - j)) ds ∧ Binds K fd f26.ps ds := by
  cases (Nat.le_zero.mp hj)
  exact ⟨[], .nil, FunD.bindsN F fun _ _ _ _ _ _ us hl => match us, hl with | [_], _ => rfl⟩
theorem bn27 (K : PySem.W.Frag) (fd : FuncData) (j : Nat) (hj : j ≤ f27.d.dfl.length) (F : FunD K f27.d.name f27.d.qual f27.d.params f27.d.body f27.d.scope (f27.d.dvs K) [] (He.fAd K f27.d.at_) fd) : ∃ ds, Vals ((f27.d.dvs K).drop (f27.d.dfl.length - j)) ds ∧ Binds K fd f27.ps ds := by
  cases (Nat.le_zero.mp hj)
  exact ⟨[], .nil, FunD.bindsN F fun _ _ _ _ _ _ us hl => match us, hl with | [_], _ => rfl⟩
theorem prT : PrT fs cs ers irs where
  ir := ir_ok
  sc := all_fs sc0 sc1 sc2 sc3 sc4 sc5 sc6 sc7 sc8 sc9 sc10 sc11 sc12 sc13 sc14 sc15 sc16 sc17 sc18 sc19 sc20 sc21 sc22 sc23 sc24 sc25 sc26 sc27
  at_ := all_fs rfl rfl rfl rfl rfl rfl rfl rfl rfl rfl rfl rfl rfl rfl rfl rfl rfl rfl rfl rfl rfl rfl rfl rfl rfl rfl rfl rfl
  kw := all_fs rfl rfl rfl rfl rfl rfl rfl rfl rfl rfl rfl rfl rfl rfl rfl rfl rfl rfl rfl rfl rfl rfl rfl rfl rfl rfl rfl rfl
  dv := all_fs ⟨rfl, by decide⟩ ⟨rfl, by decide⟩ ⟨rfl, by decide⟩ ⟨rfl, by decide⟩ ⟨rfl, by decide⟩ ⟨rfl, by decide⟩ ⟨rfl, by decide⟩ ⟨rfl, by decide⟩ ⟨rfl, by decide⟩ ⟨rfl, by decide⟩ ⟨rfl, by decide⟩ ⟨rfl, by decide⟩ ⟨rfl, by decide⟩ ⟨rfl, by decide⟩ ⟨rfl, by decide⟩ ⟨rfl, by decide⟩ ⟨rfl, by decide⟩ ⟨rfl, by decide⟩ ⟨rfl, by decide⟩ ⟨rfl, by decide⟩ ⟨rfl, by decide⟩ ⟨rfl, by decide⟩ ⟨rfl, by decide⟩ ⟨rfl, by decide⟩ ⟨rfl, by decide⟩ ⟨rfl, by decide⟩ ⟨rfl, by decide⟩ ⟨rfl, by decide⟩
  bnd := all_fs bn0 bn1 bn2 bn3 bn4 bn5 bn6 bn7 bn8 bn9 bn10 bn11 bn12 bn13 bn14 bn15 bn16 bn17 bn18 bn19 bn20 bn21 bn22 bn23 bn24 bn25 bn26 bn27
abbrev R : PySem.W.OpenRow := PySem.W.OpenLaw.row PySem.Challenge.rw_evenasks_k47_chances_and_asks_refused
abbrev hk : PySem.W.Hook := Ev.hookY 4 (faOf fs) (fs.map (·.d)) (tfOf fs) exL
def ob (s : PySem.W.SharedT) : He.AlX := Ev.obsY 4 (faOf fs) (fs.map (·.d)) (tfOf fs) exL (HandSHeadRun.getT s)
theorem ob_eq (s : PySem.W.SharedT) : ob s = hk.obs s.abs := Ev.obsY_eq (HandSHeadRun.getT_eq s)
def names : List Str := (["AskError", "BadNumber", "BadChances", "is_integer", "is_tuple", "PAIR", "NOUGHT", "ONE", "measure", "fraction", "is_whole", "is_fraction", "plus", "total", "are_parts", "MOST_LOTS", "MOST_ASKS", "next_of", "dealt", "_law_pot"] : List Str) ++ (["_law_take", "_law_of", "_law_cells", "_law_heard", "_law_odd", "_law_bent", "_law_is_int", "_law_cut", "_law_plus", "_law_sum", "_law_is_fraction", "_law_are_parts", "_law_parts", "_law_near", "_law_right"] : List Str)
theorem run (w : World) : HandSHeadRun.RunEq R (PySem.W.view R.prog [40]) hk ob 8000 names w := by
  intro os
  kernel_rfl
abbrev pr : Pr := prOf irs fs cs
abbrev Ys (n : Nat) : Sys := ⟨Ev.call pr n, WW, pr.gl, pr.dfl⟩
theorem c_is_integer {n : Nat} {ts : List T} : Ev.call pr (n + 1) Fn.is_integer ts = runDef (Ys n) d_is_integer ts := rfl
@[simp] theorem df_is_integer : pr.dfl Fn.is_integer 3 = [] := by rfl
@[simp] theorem df_is_integer1 : pr.dfl Fn.is_integer 2 = [.non] := by rfl
theorem c_is_tuple {n : Nat} {ts : List T} : Ev.call pr (n + 1) Fn.is_tuple ts = runDef (Ys n) d_is_tuple ts := rfl
@[simp] theorem df_is_tuple : pr.dfl Fn.is_tuple 3 = [] := by rfl
@[simp] theorem df_is_tuple1 : pr.dfl Fn.is_tuple 2 = [.non] := by rfl
theorem c_measure {n : Nat} {ts : List T} : Ev.call pr (n + 1) Fn.measure ts = runDef (Ys n) d_measure ts := rfl
@[simp] theorem df_measure : pr.dfl Fn.measure 2 = [] := by rfl
theorem c_fraction {n : Nat} {ts : List T} : Ev.call pr (n + 1) Fn.fraction ts = runDef (Ys n) d_fraction ts := rfl
@[simp] theorem df_fraction : pr.dfl Fn.fraction 2 = [] := by rfl
theorem c_is_whole {n : Nat} {ts : List T} : Ev.call pr (n + 1) Fn.is_whole ts = runDef (Ys n) d_is_whole ts := rfl
@[simp] theorem df_is_whole : pr.dfl Fn.is_whole 1 = [] := by rfl
theorem c_is_fraction {n : Nat} {ts : List T} : Ev.call pr (n + 1) Fn.is_fraction ts = runDef (Ys n) d_is_fraction ts := rfl
@[simp] theorem df_is_fraction : pr.dfl Fn.is_fraction 2 = [] := by rfl
@[simp] theorem df_is_fraction1 : pr.dfl Fn.is_fraction 1 = [.non] := by rfl
theorem c_plus {n : Nat} {ts : List T} : Ev.call pr (n + 1) Fn.plus ts = runDef (Ys n) d_plus ts := rfl
@[simp] theorem df_plus : pr.dfl Fn.plus 2 = [] := by rfl
theorem c_total {n : Nat} {ts : List T} : Ev.call pr (n + 1) Fn.total ts = runDef (Ys n) d_total ts := rfl
@[simp] theorem df_total : pr.dfl Fn.total 1 = [] := by rfl
theorem c_are_parts {n : Nat} {ts : List T} : Ev.call pr (n + 1) Fn.are_parts ts = runDef (Ys n) d_are_parts ts := rfl
@[simp] theorem df_are_parts : pr.dfl Fn.are_parts 2 = [] := by rfl
theorem c_next_of {n : Nat} {ts : List T} : Ev.call pr (n + 1) Fn.next_of ts = runDef (Ys n) d_next_of ts := rfl
@[simp] theorem df_next_of : pr.dfl Fn.next_of 2 = [] := by rfl
theorem c_dealt {n : Nat} {ts : List T} : Ev.call pr (n + 1) Fn.dealt ts = runDef (Ys n) d_dealt ts := rfl
@[simp] theorem df_dealt : pr.dfl Fn.dealt 2 = [] := by rfl
theorem c_law_pot {n : Nat} {ts : List T} : Ev.call pr (n + 1) Fn.law_pot ts = runDef (Ys n) d_law_pot ts := rfl
@[simp] theorem df_law_pot : pr.dfl Fn.law_pot 2 = [] := by rfl
theorem c_law_take {n : Nat} {ts : List T} : Ev.call pr (n + 1) Fn.law_take ts = runDef (Ys n) d_law_take ts := rfl
@[simp] theorem df_law_take : pr.dfl Fn.law_take 2 = [] := by rfl
theorem c_law_of {n : Nat} {ts : List T} : Ev.call pr (n + 1) Fn.law_of ts = runDef (Ys n) d_law_of ts := rfl
@[simp] theorem df_law_of : pr.dfl Fn.law_of 2 = [] := by rfl
theorem c_law_cells {n : Nat} {ts : List T} : Ev.call pr (n + 1) Fn.law_cells ts = runDef (Ys n) d_law_cells ts := rfl
@[simp] theorem df_law_cells : pr.dfl Fn.law_cells 2 = [] := by rfl
theorem c_law_heard {n : Nat} {ts : List T} : Ev.call pr (n + 1) Fn.law_heard ts = runDef (Ys n) d_law_heard ts := rfl
@[simp] theorem df_law_heard : pr.dfl Fn.law_heard 1 = [] := by rfl
theorem c_law_odd {n : Nat} {ts : List T} : Ev.call pr (n + 1) Fn.law_odd ts = runDef (Ys n) d_law_odd ts := rfl
@[simp] theorem df_law_odd : pr.dfl Fn.law_odd 1 = [] := by rfl
theorem c_law_bent {n : Nat} {ts : List T} : Ev.call pr (n + 1) Fn.law_bent ts = runDef (Ys n) d_law_bent ts := rfl
@[simp] theorem df_law_bent : pr.dfl Fn.law_bent 2 = [] := by rfl
theorem c_law_is_int {n : Nat} {ts : List T} : Ev.call pr (n + 1) Fn.law_is_int ts = runDef (Ys n) d_law_is_int ts := rfl
@[simp] theorem df_law_is_int : pr.dfl Fn.law_is_int 3 = [] := by rfl
@[simp] theorem df_law_is_int1 : pr.dfl Fn.law_is_int 2 = [.non] := by rfl
theorem c_law_cut {n : Nat} {ts : List T} : Ev.call pr (n + 1) Fn.law_cut ts = runDef (Ys n) d_law_cut ts := rfl
@[simp] theorem df_law_cut : pr.dfl Fn.law_cut 2 = [] := by rfl
theorem c_law_plus {n : Nat} {ts : List T} : Ev.call pr (n + 1) Fn.law_plus ts = runDef (Ys n) d_law_plus ts := rfl
@[simp] theorem df_law_plus : pr.dfl Fn.law_plus 2 = [] := by rfl
theorem c_law_sum {n : Nat} {ts : List T} : Ev.call pr (n + 1) Fn.law_sum ts = runDef (Ys n) d_law_sum ts := rfl
@[simp] theorem df_law_sum : pr.dfl Fn.law_sum 1 = [] := by rfl
theorem c_law_is_fraction {n : Nat} {ts : List T} : Ev.call pr (n + 1) Fn.law_is_fraction ts = runDef (Ys n) d_law_is_fraction ts := rfl
@[simp] theorem df_law_is_fraction : pr.dfl Fn.law_is_fraction 1 = [] := by rfl
theorem c_law_are_parts {n : Nat} {ts : List T} : Ev.call pr (n + 1) Fn.law_are_parts ts = runDef (Ys n) d_law_are_parts ts := rfl
@[simp] theorem df_law_are_parts : pr.dfl Fn.law_are_parts 2 = [] := by rfl
theorem c_law_parts {n : Nat} {ts : List T} : Ev.call pr (n + 1) Fn.law_parts ts = runDef (Ys n) d_law_parts ts := rfl
@[simp] theorem df_law_parts : pr.dfl Fn.law_parts 2 = [] := by rfl
theorem c_law_near {n : Nat} {ts : List T} : Ev.call pr (n + 1) Fn.law_near ts = runDef (Ys n) d_law_near ts := rfl
@[simp] theorem df_law_near : pr.dfl Fn.law_near 2 = [] := by rfl
theorem c_law_right {n : Nat} {ts : List T} : Ev.call pr (n + 1) Fn.law_right ts = runDef (Ys n) d_law_right ts := rfl
@[simp] theorem df_law_right : pr.dfl Fn.law_right 1 = [] := by rfl
theorem c_law {n : Nat} {ts : List T} : Ev.call pr (n + 1) Fn.law ts = runDef (Ys n) d_law ts := rfl
@[simp] theorem df_law : pr.dfl Fn.law 1 = [] := by rfl
@[simp] theorem gl_PAIR : pr.gl Gl.PAIR = .int 2 := by rfl
@[simp] theorem gl_NOUGHT : pr.gl Gl.NOUGHT = .tup [.int 0, .int 1] := by rfl
@[simp] theorem gl_ONE : pr.gl Gl.ONE = .tup [.int 1, .int 1] := by rfl
@[simp] theorem gl_MOST_LOTS : pr.gl Gl.MOST_LOTS = .int 20 := by rfl
@[simp] theorem gl_MOST_ASKS : pr.gl Gl.MOST_ASKS = .int 99 := by rfl
end Lw
open PySem PySem.W PySem.Calls PyProof.Rows
theorem law_of {n : Nat} (hn : n ≤ 60) (hm : ∀ ns : List Int, ns.length ≤ 63 → (∀ z ∈ ns, PySem.Builtin.Int.intBits z ≤ 1048576) → ∃ ts', Ev.call Lw.pr n 27 [.val (.scr ns)] = some (.ok (.val (.bl true)), ts')) : PySem.Challenge.rw_evenasks_k47_chances_and_asks_refused.Holds := by
  w_on; o_law
  refine HandSHeadRun.head_any (r := Lw.R) (q := view Lw.R.prog [40]) (H := Lw.hk) (ob := Lw.ob) (M := 8000) (loose := Lw.names) (d := HandSHeadRun.topDef Lw.R.prog 40) (kwd := []) Lw.ob_eq
    (by kernel_rfl) (fun s => by kernel_rfl) Lw.run (by kernel_rfl) (by kernel_rfl) (by kernel_rfl) (by rfl) (by first | assumption | decide +kernel) (by decide +kernel) ⟨rfl, rfl, rfl, rfl, rfl, by decide +kernel⟩ ?hw ?hc
  case hw => w_witness2
  case hc =>
    refine Ev.walk_G (l := PySem.Challenge.rw_evenasks_k47_chances_and_asks_refused) (n := 63) (k := 3 * n + 3) (x := "_law_script") (CX := fun w => L2.CX Lw.R.prog w) rfl (by decide) (by kernel_rfl) (L2.Room.mono (k := 200) ⟨rfl, by decide, by decide⟩ (by omega)) ?F (fun w => Ev.cx_none)
    intro w mg fa h Y G hmg0
    obtain ⟨K, KX, c⟩ := Y
    have hmg : mg ("law" : PySem.Str) = some (.ref fa) := by
      have e : (HandSHeadRun.topDef Lw.R.prog 40).name = ("law" : PySem.Str) := by kernel_rfl
      rw [← e]
      exact hmg0
    exact ⟨K, KX, Ev.law_at (d := Lw.f27) (n := n) (i := 27) ⟨fun _ => 0, fun _ => [], Ev.addrX K Lw.ens, Ev.tbOf K Lw.fs⟩ Lw.prT KX G c (He.ba c.more).1 (ens := Lw.ens) (fun m _ => Ev.addrX_in (by decide) m) rfl (He.ba (He.ba c.more).2).2 rfl rfl hmg (fun K fd F s u => L2.FunD.bindsA (ps := [("_law_script" : PySem.Str)]) F (fun _ _ _ _ _ _ us hl => match us, hl with | [_], _ => rfl) s [u] rfl) (fun base kb nb => Ev.erK_of kb nb (by decide) rfl (He.ba (He.ba c.more).2).1) hm⟩
end

section
set_option linter.all false
set_option maxRecDepth 100000
set_option maxHeartbeats 4000000
set_option exponentiation.threshold 100000
/-! numbers. -/
namespace Lw
open PySem L2 Ev
theorem succ_of {n : Nat} (h : 1 ≤ n) : ∃ m, n = m + 1 := ⟨n - 1, by omega⟩
/-! words -/
theorem is_integer_ok {n : Nat} (hn : 1 ≤ n) (i low high : Int) : Ev.call pr n Fn.is_integer [.val (.int i), .val (.int low), .val (.int high)] = some (.ok (.val (.bl (decide (low ≤ i ∧ i ≤ high)))), [.val (.int i), .val (.int low), .val (.int high)]) := by
  obtain ⟨m, rfl⟩ := succ_of hn
  rw [c_is_integer]
  by_cases h : low ≤ i <;> simp [d_is_integer, asgSs, asgS, h]
theorem is_integer_ok1 {n : Nat} (hn : 1 ≤ n) (i low : Int) : Ev.call pr n Fn.is_integer [.val (.int i), .val (.int low), .val .non] = some (.ok (.val (.bl (decide (low ≤ i)))), [.val (.int i), .val (.int low), .val .non]) := by
  obtain ⟨m, rfl⟩ := succ_of hn
  rw [c_is_integer]
  by_cases h : low ≤ i <;> simp [d_is_integer, asgSs, asgS, h]
theorem is_integer_no {n : Nat} (hn : 1 ≤ n) {d : D} {low high : D} (ht : (tyD d).isSome = true) (hi : isIntD d = none) : Ev.call pr n Fn.is_integer [.val d, .val low, .val high] = some (.ok (.val (.bl false)), [.val d, .val low, .val high]) := by
  obtain ⟨m, rfl⟩ := succ_of hn
  rw [c_is_integer]
  cases d <;> first | (cases ht; done) | (cases hi; done) | simp [d_is_integer, asgSs, asgS]
theorem is_tuple_ok {n : Nat} (hn : 1 ≤ n) (l : List D) (low high : Int) : Ev.call pr n Fn.is_tuple [.val (.tup l), .val (.int low), .val (.int high)] = some (.ok (.val (.bl (decide (low ≤ l.length ∧ l.length ≤ high)))), [.val (.tup l), .val (.int low), .val (.int high)]) := by
  obtain ⟨m, rfl⟩ := succ_of hn
  rw [c_is_tuple]
  by_cases h : low ≤ l.length <;> simp [d_is_tuple, asgSs, asgS, h]
theorem is_tuple_no {n : Nat} (hn : 1 ≤ n) {d : D} {low high : D} (ht : (tyD d).isSome = true) (hi : isTupD d = none) : Ev.call pr n Fn.is_tuple [.val d, .val low, .val high] = some (.ok (.val (.bl false)), [.val d, .val low, .val high]) := by
  obtain ⟨m, rfl⟩ := succ_of hn
  rw [c_is_tuple]
  cases d <;> first | (cases ht; done) | (cases hi; done) | simp [d_is_tuple, asgSs, asgS]
theorem is_whole_ok {n : Nat} (hn : 1 ≤ n) {d : D} (ht : (tyD d).isSome = true) : Ev.call pr n Fn.is_whole [.val d] = some (.ok (.val (.bl (isIntD d).isSome)), [.val d]) := by
  obtain ⟨m, rfl⟩ := succ_of hn
  rw [c_is_whole]
  cases d <;> first | (cases ht; done) | simp [d_is_whole, asgSs, asgS, isIntD]
/-! numbers -/
theorem measure_ok {n : Nat} (hn : 1 ≤ n) {a b : Int} (ha : Bd 4000 a) (hb : Bd 4000 b) : Ev.call pr n Fn.measure [.val (.int a), .val (.int b)] = some (.ok (.val (.int (Int.gcd a b))), [.val (.int a), .val (.int b)]) := by
  obtain ⟨m, rfl⟩ := succ_of hn
  rw [c_measure]
  have w := gcd_loop2 (c := evT (Ys m) (.cmp .gt (.v 1) (.c (.int 0)))) (bd := exSs (Ys m) [.par 0 1 (.v 1) (.bin .mod (.v 0) (.v 1))]) (fun x y => [some (.val (.int x)), some (.val (.int y))])
    (fun x y => by simp) (fun x y h => by
      have h0 : ¬ y = 0 := by omega
      simp [h0]
      rw [Int.fmod_eq_emod_of_nonneg _ (by omega)]) (a := a.natAbs) (b := b.natAbs) (k := 8000) (by
      have := Nat.mul_lt_mul'' ha hb
      rw [← Nat.pow_add] at this
      exact this) (n := WW) (by decide +kernel)
  have e1 : (if a < 0 then -a else a) = (a.natAbs : Int) := by omega
  have e2 : (if b < 0 then -b else b) = (b.natAbs : Int) := by omega
  simp [d_measure, e1, e2, w, asgSs, asgS]
  rfl
theorem fraction_ok {n : Nat} (hn : 2 ≤ n) {a b : Int} (ha : Bd 4000 a) (hb : Bd 4000 b) (h0 : b ≠ 0) : Ev.call pr n Fn.fraction [.val (.int a), .val (.int b)] = some (.ok (.val (fr (red a b))), [.val (.int a), .val (.int b)]) := by
  obtain ⟨m, rfl⟩ := succ_of (show 1 ≤ n by omega)
  rw [c_fraction]
  have g := measure_ok (n := m) (by omega) ha hb
  have g0 : (Int.gcd a b : Int) ≠ 0 := by
    intro z
    have : Int.gcd a b = 0 := by omega
    exact h0 (Int.gcd_eq_zero_iff.mp this).2
  have q1 : ∀ y, Builtin.divisionGoesByPylong a y = false := fun y => Bd.divOk (ha.mono (by decide))
  have q2 : ∀ y, Builtin.divisionGoesByPylong b y = false := fun y => Bd.divOk (hb.mono (by decide))
  by_cases h : 0 < b
  · simp [d_fraction, asgSs, asgS, tgs, h, g, h0, q1, q2, fr, red]
  · simp [d_fraction, asgSs, asgS, tgs, h, g, h0, q1, q2, fr, red]
theorem plus_ok {n : Nat} (hn : 3 ≤ n) {a b : Int × Int} (ha : Bd 1990 a.1 ∧ Bd 1990 a.2) (hb : Bd 1990 b.1 ∧ Bd 1990 b.2) (h1 : a.2 ≠ 0) (h2 : b.2 ≠ 0) : Ev.call pr n Fn.plus [.val (fr a), .val (fr b)] = some (.ok (.val (fr (addF a b))), [.val (fr a), .val (fr b)]) := by
  obtain ⟨m, rfl⟩ := succ_of (show 1 ≤ n by omega)
  rw [c_plus]
  have m1 : mulOk a.1 b.2 = true := Bd.mulOk (ha.1.mono (by decide)) (hb.2.mono (by decide))
  have m2 : mulOk b.1 a.2 = true := Bd.mulOk (hb.1.mono (by decide)) (ha.2.mono (by decide))
  have m3 : mulOk a.2 b.2 = true := Bd.mulOk (ha.2.mono (by decide)) (hb.2.mono (by decide))
  have f := fraction_ok (n := m) (by omega) (((ha.1.mul hb.2).add (hb.1.mul ha.2)).mono (by decide)) ((ha.2.mul hb.2).mono (by decide)) (Int.mul_ne_zero h1 h2)
  rw [show fr (addF a b) = fr (red (a.1 * b.2 + b.1 * a.2) (a.2 * b.2)) from rfl]
  generalize fr (red (a.1 * b.2 + b.1 * a.2) (a.2 * b.2)) = z at f ⊢
  simp [d_plus, asgSs, asgS, fr, m1, m2, m3, f]
theorem tot_bd0 {k : Nat} (hk : 1 ≤ k) {l : List (Int × Int)} (h : ∀ c, c ∈ l → 0 < c.2 ∧ Bd k c.1 ∧ Bd k c.2) : Bd (k * (l.length + 1) + l.length) (totF l).1 ∧ Bd (k * (l.length + 1)) (totF l).2 := by
  have b1 : Bd k 1 := Bd.mono (k := 1) (by unfold Bd; decide) hk
  have z := tot_bd (m := 0) (a := (0, 1)) h (by decide) (by unfold Bd; exact Nat.pow_pos (by decide)) (b1.mono (by omega))
  rw [Nat.zero_add] at z
  exact z
theorem total_ok {n : Nat} (hn : 4 ≤ n) {k : Nat} {l : List (Int × Int)} (hk : 1 ≤ k) (hl : k * (l.length + 1) + l.length ≤ 1990) (hL : l.length ≤ 1000000) (h : ∀ c, c ∈ l → 0 < c.2 ∧ Bd k c.1 ∧ Bd k c.2) : Ev.call pr n Fn.total [.val (.lst (l.map fr))] = some (.ok (.val (fr (totF l))), [.val (.lst (l.map fr))]) := by
  obtain ⟨m, rfl⟩ := succ_of (show 1 ≤ n by omega)
  rw [c_total]
  obtain ⟨f, ρ', e, o, q⟩ := for_rule (step := fS (Ys m) (.v 2) [.asg (.v 1) (.call Fn.plus [(.v 1), (.v 2)])])
    (fun j ρ => ∃ o, ρ = [some (.val (.lst (l.map fr))), some (.val (fr (totF (l.take j)))), o]) (fun f ρ => ∃ o, (f, ρ) = (Fl.next, [some (.val (.lst (l.map fr))), some (.val (fr (totF l))), o]))
    (l.map fr) 0 [some (.val (.lst (l.map fr))), some (.val (fr (0, 1))), none] ⟨none, rfl⟩ (fun j d ρ hj ⟨o, e⟩ => by
      rw [List.getElem?_map] at hj
      cases hc : l[j]? with
      | none => rw [hc] at hj; cases hj
      | some c =>
        rw [hc] at hj
        cases hj
        subst e
        rw [Nat.zero_add] at *
        have hm : c ∈ l := List.mem_of_getElem? hc
        have ht : ∀ d, d ∈ l.take j → 0 < d.2 ∧ Bd k d.1 ∧ Bd k d.2 := fun d hd => h d (List.mem_of_mem_take hd)
        obtain ⟨t1, t2⟩ := tot_bd0 hk ht
        have tl : (l.take j).length ≤ l.length := by rw [List.length_take]; omega
        have tm : k * ((l.take j).length + 1) ≤ k * (l.length + 1) := Nat.mul_le_mul_left _ (by omega)
        have tp : 0 < (totF (l.take j)).2 := (tot_fr (fun d hd => (ht d hd).1) _ fr_0).1
        have k1 : k ≤ k * (l.length + 1) := Nat.le_mul_of_pos_right _ (by omega)
        obtain ⟨c0, c1, c2⟩ := h c hm
        have p := plus_ok (n := m) (by omega) ⟨t1.mono (by omega), t2.mono (by omega)⟩ ⟨c1.mono (m := 1990) (by omega), c2.mono (m := 1990) (by omega)⟩ (by omega) (by omega)
        have eq : totF (l.take (j + 1)) = addF (totF (l.take j)) c := foldl_take addF (0, 1) l hc
        rw [← eq] at p
        refine ⟨.next, _, ?_, some (.val (fr c)), rfl⟩
        simp [fS_eq, p]) (fun ρ ⟨o, e⟩ => ⟨o, by subst e; simp⟩)
  injection q with q1 q2
  subst q1 q2
  simp [d_total, asgSs, asgS, tgs, fr, hL] at e ⊢
  rw [e]
  simp
theorem is_fraction_ok {n : Nat} (hn : 2 ≤ n) {d : D} (hd : okD 1000 d) {low : Int} (hl : Bd 1000 low) : Ev.call pr n Fn.is_fraction [.val d, .val (.int low)] = some (.ok (.val (.bl (isFrL low d))), [.val d, .val (.int low)]) := by
  obtain ⟨m, rfl⟩ := succ_of (show 1 ≤ n by omega)
  rw [c_is_fraction]
  have no : ∀ d, (tyD d).isSome = true → isTupD d = none → isFrL low d = false := fun d h1 h2 => by
    cases d <;> first | (cases h1; done) | (cases h2; done) | rfl
  cases ht : isTupD d with
  | none =>
    have e := is_tuple_no (n := m) (by omega) (low := .int 2) (high := .int 2) (okD_ty hd) ht
    simp [d_is_fraction, asgSs, asgS, e, no d (okD_ty hd) ht]
  | some l =>
    have ed : d = .tup l := by cases d <;> first | (cases ht; done) | (cases ht; rfl)
    subst ed
    have e := is_tuple_ok (n := m) (by omega) l 2 2
    by_cases hL : l.length = 2
    case neg =>
      have e2 : isFrL low (.tup l) = false := by
        unfold isFrL isFrD
        split
        · rename_i h
          split at h
          · rename_i h2
            cases h2
            exact absurd rfl hL
          · cases h
        · rfl
      have e3 : ¬ ((2 : Int) ≤ l.length ∧ (l.length : Int) ≤ 2) := by omega
      rw [decide_eq_false e3] at e
      simp [d_is_fraction, asgSs, asgS, e, e2]
    case pos =>
      obtain ⟨x, y, rfl⟩ : ∃ x y, l = [x, y] := by
        match l, hL with
        | [x, y], _ => exact ⟨x, y, rfl⟩
      have hs := okD_tup hd
      have hx := okDs_mem hs x List.mem_cons_self
      have hy := okDs_mem hs y (List.mem_cons_of_mem _ List.mem_cons_self)
      have e3 : ((2 : Int) ≤ ([x, y] : List D).length ∧ (([x, y] : List D).length : Int) ≤ 2) := by simp
      rw [decide_eq_true e3] at e
      have w := is_whole_ok (n := m) (by omega) (okD_ty hx)
      cases hix : isIntD x with
      | none =>
        rw [hix] at w
        have e2 : isFrL low (.tup [x, y]) = false := by cases x <;> first | (cases hix; done) | rfl
        simp [d_is_fraction, asgSs, asgS, e, w, e2]
      | some a =>
        have ex : x = .int a := by cases x <;> first | (cases hix; done) | (cases hix; rfl)
        subst ex
        cases hiy : isIntD y with
        | none =>
          have v := is_integer_no (n := m) (by omega) (low := .int 1) (high := .non) (okD_ty hy) hiy
          have e2 : isFrL low (.tup [.int a, y]) = false := by cases y <;> first | (cases hiy; done) | rfl
          rw [hix] at w
          simp [d_is_fraction, asgSs, asgS, e, w, v, e2]
        | some b =>
          have ey : y = .int b := by cases y <;> first | (cases hiy; done) | (cases hiy; rfl)
          subst ey
          have v := is_integer_ok1 (n := m) (by omega) b 1
          have g := measure_ok (n := m) (by omega) ((okD_int hx).mono (m := 4000) (by decide)) ((okD_int hy).mono (m := 4000) (by decide))
          have ml : mulOk low b = true := Bd.mulOk (hl.mono (by decide)) ((okD_int hy).mono (by decide))
          have er : isFrL low (.tup [.int a, .int b]) = (decide (1 ≤ b) && (decide (Int.gcd a b = 1) && decide (low * b ≤ a))) := by
            unfold isFrL isFrD
            by_cases h1 : 1 ≤ b <;> by_cases h2 : Int.gcd a b = 1 <;> simp [h1, h2]
          rw [hix] at w
          rw [er]
          by_cases h1 : 1 ≤ b
          · by_cases h2 : Int.gcd a b = 1
            · have h2' : (Int.gcd a b : Int) = 1 := by omega
              simp [d_is_fraction, asgSs, asgS, e, w, v, g, ml, h1, h2, h2']
            · have h2' : ¬ (Int.gcd a b : Int) = 1 := by omega
              simp [d_is_fraction, asgSs, asgS, e, w, v, g, ml, h1, h2, h2']
          · simp [d_is_fraction, asgSs, asgS, e, w, v, h1]
theorem isFr0_L (d : D) : (isFr0 d).isSome = isFrL 0 d := by
  unfold isFr0 isFrL
  cases isFrD d with
  | none => rfl
  | some p =>
    by_cases h : 0 ≤ p.1 <;> simp [h]
theorem mapM_isFr : ∀ {l : List D}, (l.map (isFrL 0)).all id = (l.mapM isFr0).isSome
  | [] => rfl
  | d :: r => by
    rw [List.map_cons, List.all_cons, mapM_isFr, List.mapM_cons, ← isFr0_L]
    cases isFr0 d with
    | none => rfl
    | some p => cases r.mapM isFr0 <;> rfl
theorem mapM_fr : ∀ {l : List D} {ps : List (Int × Int)}, l.mapM isFr0 = some ps → l = ps.map fr ∧ ∀ p, p ∈ ps → Fr p ∧ 0 ≤ p.1
  | [], ps, h => by
    cases h
    exact ⟨rfl, fun p hp => by cases hp⟩
  | d :: r, ps, h => by
    rw [List.mapM_cons] at h
    cases e : isFr0 d with
    | none => rw [e] at h; cases h
    | some p =>
      rw [e] at h
      cases e2 : r.mapM isFr0 with
      | none => rw [e2] at h; cases h
      | some qs =>
        rw [e2] at h
        cases h
        obtain ⟨i1, i2⟩ := mapM_fr e2
        unfold isFr0 at e
        cases e3 : isFrD d with
        | none => rw [e3] at e; cases e
        | some q =>
          rw [e3] at e
          simp only at e
          split at e
          · rename_i h0
            cases e
            obtain ⟨j1, j2⟩ := isFrD_ok e3
            exact ⟨by rw [i1, j1]; rfl, fun x hx => by
              rcases List.mem_cons.mp hx with rfl | hx
              · exact ⟨j2, h0⟩
              · exact i2 x hx⟩
          · cases e
theorem are_parts_ok {n : Nat} (hn : 5 ≤ n) {d : D} (hd : okD 90 d) {many : Int} (hm : many ≤ 20) : Ev.call pr n Fn.are_parts [.val d, .val (.int many)] = some (.ok (.val (.bl (partsD d many).isSome)), [.val d, .val (.int many)]) := by
  obtain ⟨m, rfl⟩ := succ_of (show 1 ≤ n by omega)
  rw [c_are_parts]
  cases ht : isTupD d with
  | none =>
    have e := is_tuple_no (n := m) (by omega) (low := .int many) (high := .int many) (okD_ty hd) ht
    have e2 : partsD d many = none := by unfold partsD; rw [ht]
    simp [d_are_parts, asgSs, asgS, e, e2]
  | some l =>
    have ed : d = .tup l := by cases d <;> first | (cases ht; done) | (cases ht; rfl)
    subst ed
    have e := is_tuple_ok (n := m) (by omega) l many many
    by_cases hL : (l.length : Int) = many
    case neg =>
      have e2 : partsD (.tup l) many = none := by
        unfold partsD
        simp only [isTupD]
        rw [if_neg hL]
      have e3 : ¬ (many ≤ l.length ∧ (l.length : Int) ≤ many) := by omega
      rw [decide_eq_false e3] at e
      simp [d_are_parts, asgSs, asgS, e, e2]
    case pos =>
      have e3 : (many ≤ l.length ∧ (l.length : Int) ≤ many) := by omega
      rw [decide_eq_true e3] at e
      have hs := okD_tup hd
      have ep : partsD (.tup l) many = (match l.mapM isFr0 with
          | some ps => if totF ps = (1, 1) then some ps else none
          | none => none) := by
        unfold partsD
        simp only [isTupD]
        rw [if_pos hL]
        all_goals rfl
      have lp := lc_map (step := lcS (Ys m) (.call Fn.is_fraction [(.v 2), (.c (.int 0))]) (.v 2) [] [2]) (ρ := [some (.val (.tup l)), some (.val (.int many)), none]) (fun d => some (.bl (isFrL 0 d))) l fun x hx => by
        have okx : okD 1000 x := okD_mono (okDs_mem hs x hx) (by decide)
        have f := is_fraction_ok (n := m) (by omega) okx (low := 0) (by unfold Bd; exact Nat.pow_pos (by decide))
        simp [lcS_eq, f]
      rw [filterMap_some] at lp
      have em : l.map (fun d => D.bl (isFrL 0 d)) = (l.map (isFrL 0)).map D.bl := by rw [List.map_map]; rfl
      rw [em] at lp
      have hLL : l.length ≤ 1000000 := by omega
      have al := mapM_isFr (l := l)
      cases hp : l.mapM isFr0 with
      | none =>
        rw [hp] at al ep
        have al' : l.all (isFrL 0) = false := by rw [List.all_map] at al; exact al
        simp [d_are_parts, asgSs, asgS, e, lp, hLL, ep, al', -List.all_eq_false, -List.any_eq_true]
      | some ps =>
        rw [hp] at al ep
        have al' : l.all (isFrL 0) = true := by rw [List.all_map] at al; exact al
        obtain ⟨el, hf⟩ := mapM_fr hp
        have len : ps.length = l.length := by rw [el, List.length_map]
        have tt := total_ok (n := m) (by omega) (k := 90) (l := ps) (by decide) (by rw [len]; omega) (by rw [len]; omega) fun c hc => by
          have q := okDs_mem hs (fr c) (by rw [el]; exact List.mem_map_of_mem hc)
          have q2 := okD_tup q
          exact ⟨(hf c hc).1.1, okD_int (okDs_mem q2 _ List.mem_cons_self), okD_int (okDs_mem q2 _ (List.mem_cons_of_mem _ List.mem_cons_self))⟩
        rw [← el] at tt
        have eo : pr.gl Gl.ONE = fr (1, 1) := rfl
        have er : (match some ps with
          | some ps => if totF ps = (1, 1) then some ps else none
          | none => none).isSome = decide (totF ps = (1, 1)) := by
          show (if totF ps = (1, 1) then some ps else none).isSome = _
          by_cases h : totF ps = (1, 1) <;> simp [h]
        rw [ep, er]
        simp [d_are_parts, asgSs, asgS, e, lp, hLL, al', tt, eqD_fr, -gl_ONE, eo, -List.all_eq_true]
end Lw
end

section
set_option linter.all false
set_option maxRecDepth 100000
set_option maxHeartbeats 4000000
set_option exponentiation.threshold 100000
/-! dealing. -/
namespace Lw
open PySem L2 Ev
def acD : Option (Nat × Int × Int) → D
  | none => .non
  | some (j, x, y) => .tup [.int (j : Nat), .int x, .int y]
def nxBody : List S := [.ite (.cmp .lt (.bin .mul (.sub (.v 1) (.v 4)) (.v 6)) (.bin .mul (.v 5) (.v 2))) [.par 7 8 (.bin .mul (.bin .add (.sub (.v 1) (.v 4)) (.c (.int 1))) (.v 6)) (.v 5),
    .ite (.or (.cmp .is (.v 3) (.c .non)) (.cmp .lt (.bin .mul (.v 7) (.sub (.v 3) (.c (.int 2)))) (.bin .mul (.sub (.v 3) (.c (.int 1))) (.v 8)))) [.asg (.v 3) (.tup [(.v 4), (.v 7), (.v 8)])] []] []]
theorem nx_turn (Y : Sys) {cs : List Nat} {ch : D} {t : Int} {acc : Option (Nat × Int × Int)} {j c : Nat} {p : Int × Int} {o4 o5 o6 o7 o8 : Option T} (hc : cs[j]? = some c) (bc : Bd 30 c) (bt : Bd 30 t) (bp : Bd 100 p.1 ∧ Bd 100 p.2) (ba : ∀ q, acc = some q → Bd 140 q.2.1 ∧ Bd 140 q.2.2) :
    ∃ p4 p5 p6 p7 p8, fS Y (.tup [.v 4, .tup [.v 5, .v 6]]) nxBody (.tup [.int (j : Nat), fr p]) [some (.val ch), some (.lst (ctD cs)), some (.val (.int t)), some (.val (acD acc)), o4, o5, o6, o7, o8] = some (.next, [some (.val ch), some (.lst (ctD cs)), some (.val (.int t)), some (.val (acD (nxS t acc j p c))), p4, p5, p6, p7, p8]) := by
  have e : (ctD cs)[j]? = some (.int (c : Nat)) := by unfold ctD; rw [List.getElem?_map, hc]; rfl
  have m1 : mulOk (c : Int) p.2 = true := Bd.mulOk (bc.mono (by decide)) (bp.2.mono (by decide))
  have m2 : mulOk p.1 t = true := Bd.mulOk (bp.1.mono (by decide)) (bt.mono (by decide))
  have b1 : Bd 31 ((c : Int) + 1) := bc.add (Bd.mono (k := 1) (by unfold Bd; decide) (by decide))
  have m3 : mulOk ((c : Int) + 1) p.2 = true := Bd.mulOk (b1.mono (by decide)) (bp.2.mono (by decide))
  by_cases h : (c : Int) * p.2 < p.1 * t
  · cases acc with
    | none => simp [fS_eq, nxBody, fr, acD, nxS, s_lk, e, m1, m2, m3, h]
    | some q =>
      obtain ⟨i, x, y⟩ := q
      obtain ⟨ax, ay⟩ := ba _ rfl
      have m4 : mulOk (((c : Int) + 1) * p.2) y = true := Bd.mulOk ((b1.mul bp.2).mono (by decide)) (ay.mono (by decide))
      have m5 : mulOk x p.1 = true := Bd.mulOk (ax.mono (by decide)) (bp.1.mono (by decide))
      by_cases h2 : ((c : Int) + 1) * p.2 * y < x * p.1
      · simp [fS_eq, nxBody, fr, acD, nxS, s_lk, e, m1, m2, m3, m4, m5, h, h2]
      · simp [fS_eq, nxBody, fr, acD, nxS, s_lk, e, m1, m2, m3, m4, m5, h, h2]
  · simp [fS_eq, nxBody, fr, acD, nxS, s_lk, e, m1, m2, m3, h]
theorem nx_bd {t : Int} {ch : List (Int × Int)} {cs : List Nat} {k m : Nat} (hm : 1 ≤ m) (hb : ∀ p, p ∈ ch → Bd k p.1 ∧ Bd k p.2) (hc : ∀ c, c ∈ cs → Bd m (c : Int)) {j : Nat} (hj : j ≤ ch.length) (hl : cs.length = ch.length) {q : Nat × Int × Int} (h : nxA t ch cs j = some q) : Bd (m + 1 + k) q.2.1 ∧ Bd k q.2.2 := by
  obtain ⟨h1, h2, h3, _⟩ := nxA_ok h
  have g1 : ch.getD q.1 (0, 1) ∈ ch := by
    rw [List.getD_eq_getElem?_getD, List.getElem?_eq_getElem (show q.1 < ch.length by omega)]
    exact List.getElem_mem _
  have g2 : cs.getD q.1 0 ∈ cs := by
    rw [List.getD_eq_getElem?_getD, List.getElem?_eq_getElem (show q.1 < cs.length by omega)]
    exact List.getElem_mem _
  obtain ⟨b1, b2⟩ := hb _ g1
  rw [h2, h3]
  exact ⟨((hc _ g2).add (Bd.mono (k := 1) (m := m) (by unfold Bd; decide) hm)).mul b2, b1⟩
theorem next_of_ok {n : Nat} (hn : 1 ≤ n) {ch : List (Int × Int)} {cs : List Nat} (hl : cs.length = ch.length) (hL : ch.length ≤ 1000000) (hb : ∀ p, p ∈ ch → Bd 100 p.1 ∧ Bd 100 p.2) (hc : ∀ c, c ∈ cs → Bd 30 (c : Int)) (ht : Bd 30 (tot cs + 1)) {i : Nat} (h : nextOf ch cs = some i) :
    Ev.call pr n Fn.next_of [.val (.tup (ch.map fr)), .lst (ctD cs)] = some (.ok (.val (.int (i : Nat))), [.val (.tup (ch.map fr)), .lst (ctD cs)]) := by
  obtain ⟨m, rfl⟩ := succ_of hn
  rw [c_next_of]
  obtain ⟨q, hq, rfl⟩ := Option.map_eq_some_iff.mp h
  have sm : bltD .sum [.lst (ctD cs)] = some (.val (.int (tot cs))) := t_sumF
  obtain ⟨f, ρ', e, q2⟩ := for_rule (step := fS (Ys m) (.tup [.v 4, .tup [.v 5, .v 6]]) nxBody)
    (fun j ρ => ∃ o4 o5 o6 o7 o8, ρ = [some (.val (.tup (ch.map fr))), some (.lst (ctD cs)), some (.val (.int (tot cs + 1))), some (.val (acD (nxA (tot cs + 1) ch cs j))), o4, o5, o6, o7, o8])
    (fun f ρ => ∃ o4 o5 o6 o7 o8, (f, ρ) = (Fl.next, [some (.val (.tup (ch.map fr))), some (.lst (ctD cs)), some (.val (.int (tot cs + 1))), some (.val (acD (some q))), o4, o5, o6, o7, o8]))
    (pairs (ch.map fr) 0) 0 [some (.val (.tup (ch.map fr))), some (.lst (ctD cs)), some (.val (.int (tot cs + 1))), some (.val .non), none, none, none, none, none] ⟨_, _, _, _, _, rfl⟩ (fun j d ρ hj ⟨o4, o5, o6, o7, o8, e⟩ => by
      subst e
      rw [Nat.zero_add]
      rw [pairs_eq, List.getElem?_mapIdx, List.getElem?_map] at hj
      cases hp : ch[j]? with
      | none => rw [hp] at hj; cases hj
      | some p =>
        rw [hp] at hj
        rw [Nat.zero_add] at hj
        cases hj
        have hjl := (List.getElem?_eq_some_iff.mp hp).1
        obtain ⟨c, hcj⟩ : ∃ c, cs[j]? = some c := ⟨_, List.getElem?_eq_getElem (show j < cs.length by omega)⟩
        have eA : nxA (tot cs + 1) ch cs (j + 1) = nxS (tot cs + 1) (nxA (tot cs + 1) ch cs j) j p c := by
          show nxS _ _ j (ch.getD j (0, 1)) (cs.getD j 0) = _
          rw [List.getD_eq_getElem?_getD, List.getD_eq_getElem?_getD, hp, hcj]
          rfl
        obtain ⟨p4, p5, p6, p7, p8, e⟩ := nx_turn (Ys m) (ch := .tup (ch.map fr)) (t := tot cs + 1) (acc := nxA (tot cs + 1) ch cs j) (o4 := o4) (o5 := o5) (o6 := o6) (o7 := o7) (o8 := o8) hcj (hc c (List.mem_of_getElem? hcj)) ht (hb p (List.mem_of_getElem? hp)) fun q hq => by
          obtain ⟨b1, b2⟩ := nx_bd (by decide) hb hc (by omega) hl hq
          exact ⟨b1.mono (by decide), b2.mono (by decide)⟩
        exact ⟨.next, _, e, p4, p5, p6, p7, p8, by rw [eA]⟩) (fun ρ ⟨o4, o5, o6, o7, o8, e⟩ => ⟨o4, o5, o6, o7, o8, by
          rw [pairs_length, List.length_map, Nat.zero_add, hq] at e
          rw [e]⟩)
  obtain ⟨o4, o5, o6, o7, o8, q3⟩ := q2
  injection q3 with q4 q5
  subst q4 q5
  obtain ⟨i, x, y⟩ := q
  have hLL : (pairs (ch.map fr) 0).length ≤ 1000000 := by rw [pairs_length, List.length_map]; exact hL
  rw [show d_next_of = ⟨2, 9, [.par 2 3 (.bin .add (.blt .sum [(.v 1)]) (.c (.int 1))) (.c .non),
    .for_ (.tup [(.v 4), (.tup [(.v 5), (.v 6)])]) (.enum (.v 0)) nxBody,
    .ret (.sub (.v 3) (.c (.int 0)))]⟩ from rfl]
  have as : (asgSs [.par 2 3 (.bin .add (.blt .sum [(.v 1)]) (.c (.int 1))) (.c .non), .for_ (.tup [(.v 4), (.tup [(.v 5), (.v 6)])]) (.enum (.v 0)) nxBody, .ret (.sub (.v 3) (.c (.int 0)))]).contains 1 = false := by rfl
  simp only [acD] at e
  simp [sm, hLL, e, as, -List.contains_eq_mem]
theorem mapM_of {l : List (Int × Int)} (h : ∀ p, p ∈ l → Fr p ∧ 0 ≤ p.1) : (l.map fr).mapM isFr0 = some l := by
  induction l with
  | nil => rfl
  | cons p r ih =>
    obtain ⟨h1, h2⟩ := h p List.mem_cons_self
    have e : isFr0 (fr p) = some p := by
      unfold isFr0
      rw [isFrD_fr h1]
      exact if_pos h2
    rw [List.map_cons, List.mapM_cons, e, ih fun q hq => h q (List.mem_cons_of_mem _ hq)]
    rfl
/-- chances -/
structure Chs (ch : List (Int × Int)) : Prop where
  one : 1 ≤ ch.length
  most : ch.length ≤ 20
  fr : ∀ p, p ∈ ch → Fr p ∧ 0 ≤ p.1
  bd : ∀ p, p ∈ ch → Bd 90 p.1 ∧ Bd 90 p.2
  tot : totF ch = (1, 1)
theorem Chs.parts {ch : List (Int × Int)} (h : Chs ch) : partsD (.tup (ch.map Ev.fr)) ch.length = some ch := by
  unfold partsD
  simp only [isTupD, List.length_map, if_true]
  rw [mapM_of h.fr]
  exact if_pos h.tot
theorem Chs.ok {ch : List (Int × Int)} (h : Chs ch) : okD 90 (.tup (ch.map Ev.fr)) := by
  unfold okD
  refine okDs_of fun d hd => ?_
  obtain ⟨p, hp, rfl⟩ := List.mem_map.mp hd
  obtain ⟨b1, b2⟩ := h.bd p hp
  unfold Ev.fr okD okDs okDs okDs okD
  exact ⟨b1, b2, trivial⟩
def dlBody : List S := [.asg (.v 5) (.call Fn.next_of [(.v 0), (.v 3)]),
    .augI 3 (.v 5) (.c (.int 1)),
    .app 4 (.v 5)]
theorem ctD_set {cs : List Nat} {i : Nat} : (ctD cs).set i (.int ((cs[i]?.getD 0 : Nat) + 1 : Int)) = ctD (incr cs i) := by
  unfold ctD incr
  rw [← List.getD_eq_getElem?_getD]
  rw [List.map_set]
  rfl
theorem dealt_ok {n : Nat} (hn : 7 ≤ n) {ch : List (Int × Int)} (hc : Chs ch) {k : Nat} (hk : k ≤ 99) {q : List Nat × List Nat} (hq : deal ch k = some q) :
    Ev.call pr n Fn.dealt [.val (.tup (ch.map fr)), .val (.int (k : Nat))] = some (.ok (.val (.tup (ctD q.2))), [.val (.tup (ch.map fr)), .val (.int (k : Nat))]) := by
  obtain ⟨m, rfl⟩ := succ_of (show 1 ≤ n by omega)
  rw [c_dealt]
  have h1 := hc.one
  have h2 := hc.most
  have t := is_tuple_ok (n := m) (by omega) (ch.map fr) 1 20
  rw [decide_eq_true (by rw [List.length_map]; omega)] at t
  have p := are_parts_ok (n := m) (by omega) hc.ok (many := ch.length) (by omega)
  rw [hc.parts] at p
  have w := is_integer_ok (n := m) (by omega) (k : Nat) 0 99
  rw [decide_eq_true (by omega)] at w
  have z := lc_map (step := lcS (Ys m) (.c (.int 0)) (.v 6) [] [6]) (ρ := [some (.val (.tup (ch.map fr))), some (.val (.int k)), none, none, none, none, none]) (fun d => some (.int 0)) (ch.map fr) fun x hx => by simp [lcS_eq]
  rw [filterMap_some, List.map_map] at z
  have zc : (ch.map fr).map (fun _ => D.int 0) = ctD (ch.map fun _ => 0) := by
    unfold ctD
    rw [List.map_map, List.map_map]
    rfl
  rw [List.map_map] at zc
  rw [zc] at z
  obtain ⟨f, ρ', e, q2⟩ := for_rule (step := fS (Ys m) (.v 2) dlBody)
    (fun j ρ => ∃ p o2 o5, deal ch j = some p ∧ ρ = [some (.val (.tup (ch.map fr))), some (.val (.int k)), o2, some (.lst (ctD p.1)), some (.lst (ctD p.2)), o5, none])
    (fun f ρ => ∃ o2 o5, (f, ρ) = (Fl.next, [some (.val (.tup (ch.map fr))), some (.val (.int k)), o2, some (.lst (ctD q.1)), some (.lst (ctD q.2)), o5, none]))
    ((List.range k).map fun i => .int (i : Nat)) 0 [some (.val (.tup (ch.map fr))), some (.val (.int k)), none, some (.lst (ctD (ch.map fun _ => 0))), some (.lst []), none, none] ⟨_, _, _, rfl, rfl⟩ (fun j d ρ hj ⟨p, o2, o5, hp, e⟩ => by
      subst e
      rw [Nat.zero_add] at *
      have hjk : j < k := by
        have := (List.getElem?_eq_some_iff.mp hj).1
        simpa using this
      rw [List.getElem?_map, List.getElem?_range hjk] at hj
      cases hj
      obtain ⟨r, hr, _⟩ := deal_prefix (m := j + 1) hq (by omega)
      obtain ⟨p', e1, e2⟩ := Option.bind_eq_some_iff.mp hr
      rw [hp] at e1
      cases e1
      obtain ⟨i, hi, er⟩ := Option.map_eq_some_iff.mp e2
      subst er
      have dl := deal_len hp
      have dt := deal_tot hp
      have il := nextOf_lt hi
      have ni := next_of_ok (n := m) (by omega) dl.1 (by omega) (fun p hp => ⟨(hc.bd p hp).1.mono (by decide), (hc.bd p hp).2.mono (by decide)⟩) (fun c hc => by
        have := le_tot hc
        exact bd_of (by omega) (by omega)) (bd_of (by omega) (by omega)) hi
      have gi : (ctD p.1)[i]? = some (.int (p.1.getD i 0 : Nat)) := by
        unfold ctD
        rw [List.getElem?_map, List.getD_eq_getElem?_getD, List.getElem?_eq_getElem (show i < p.1.length by omega)]
        rfl
      have li : (ctD p.1).length = p.1.length := List.length_map ..
      have ix : L2.ixN (ctD p.1).length (i : Int) = some i := ixN_nat (by omega)
      have lk : (ctD p.2).length < 1000000 := by
        have : (ctD p.2).length = p.2.length := List.length_map ..
        omega
      have ap : ctD p.2 ++ [D.int (i : Nat)] = ctD (p.2 ++ [i]) := by unfold ctD; rw [List.map_append]; rfl
      have as : incr p.1 i = incr p.1 i := rfl
      refine ⟨.next, _, ?_, (incr p.1 i, p.2 ++ [i]), some (.val (.int (j : Nat))), some (.val (.int (i : Nat))), hr, rfl⟩
      simp [fS_eq, dlBody, ni, atI_nat', gi, ix, lk, ctD_set, ap]) (fun ρ ⟨p, o2, o5, hp, e⟩ => ⟨o2, o5, by
      rw [List.length_map, List.length_range, Nat.zero_add, hq] at hp
      cases hp
      rw [e]⟩)
  obtain ⟨o2, o5, q3⟩ := q2
  injection q3 with q4 q5
  subst q4 q5
  have rg : rangeD [.int (k : Nat)] = some ((List.range k).map fun i => .int (i : Nat)) := by
    show (if decide (-(2 ^ 62) ≤ (k : Int) ∧ (k : Int) ≤ LL) = true then some ((List.range (k : Int).toNat).map fun k => D.int (k : Nat)) else none) = _
    have l : (LL : Int) = 1000000 := by decide
    rw [if_pos (decide_eq_true ⟨by omega, by omega⟩)]
    rfl
  have hLL : ch.length ≤ 1000000 := by omega
  have hkk : k ≤ 1000000 := by omega
  unfold dlBody at e
  simp [d_dealt, asgSs, asgS, tgs, t, p, w, z, e, rg, hLL, hkk]
end Lw
end

section
set_option linter.all false
set_option maxRecDepth 100000
set_option maxHeartbeats 4000000
/-! the laws' own helpers. -/
namespace Lw
open PySem L2 Ev
theorem succ_of' {n : Nat} (h : 1 ≤ n) : ∃ m, n = m + 1 := ⟨n - 1, by omega⟩
/-- a pot from which so many can be taken -/
def PotOk (k : Nat) (l : List D) : Prop := ∃ a b c : Int, l = [.int a, .int b, .int c] ∧ (0 ≤ a ∧ Builtin.Int.intBits a ≤ 1000) ∧ (0 ≤ b ∧ b < 2 ^ 62) ∧ 0 ≤ c ∧ c + k ≤ 2 ^ 39
theorem PotOk.mono {k m : Nat} {l : List D} (h : PotOk k l) (le : m ≤ k) : PotOk m l := by
  obtain ⟨a, b, c, h1, h2, h3, h4, h5⟩ := h
  exact ⟨a, b, c, h1, h2, h3, h4, by omega⟩
theorem take_spec {n : Nat} (hn : 1 ≤ n) {k : Nat} {l : List D} (h : PotOk (k + 1) l) {u : Int} (hu : 0 < u) :
    ∃ (r : Nat) (l' : List D), Ev.call pr n Fn.law_take [.lst l, .val (.int u)] = some (.ok (.val (.int (r : Nat))), [.lst l', .val (.int u)]) ∧ (r : Int) < u ∧ PotOk k l' := by
  obtain ⟨m, rfl⟩ := succ_of' hn
  obtain ⟨a, b, c, rfl, h1, h2, h3, h4⟩ := h
  obtain ⟨r, a', c', e, q1, q2, q3, q4⟩ := take_ok (Ys m) (a := a) (b := b) (c := c) (u := u) h1 h2 ⟨h3, by omega⟩ hu
  obtain ⟨r', rfl⟩ : ∃ r' : Nat, r = r' := ⟨r.toNat, by omega⟩
  exact ⟨r', _, e, q1.2, a', b, c', rfl, q2, h2, q3, by omega⟩
theorem of_spec {n : Nat} (hn : 2 ≤ n) {k : Nat} {l : List D} (h : PotOk (k + 1) l) {d : D} {ds : List D} (hd : d = .lst ds ∨ d = .tup ds) (hs : ds ≠ []) :
    ∃ (i : Nat) (x : D) (l' : List D), Ev.call pr n Fn.law_of [.lst l, .val d] = some (.ok (.val x), [.lst l', .val d]) ∧ ds[i]? = some x ∧ PotOk k l' := by
  obtain ⟨m, rfl⟩ := succ_of' (show 1 ≤ n by omega)
  have pos : 0 < ds.length := List.length_pos_iff.mpr hs
  obtain ⟨r, l', e, q1, q2⟩ := take_spec (n := m) (by omega) h (u := ds.length) (by omega)
  have hr : r < ds.length := by omega
  refine ⟨r, ds[r], l', ?_, List.getElem?_eq_getElem hr, q2⟩
  rw [c_law_of]
  have g : ds[r]? = some ds[r] := List.getElem?_eq_getElem hr
  rcases hd with rfl | rfl
  · simp [d_law_of, asgSs, asgS, e, s_lk, g]
  · simp [d_law_of, asgSs, asgS, e, s_tk, g]
theorem pot_spec {n : Nat} (hn : 1 ≤ n) {ns : List Int} {k : Nat} (hk : k < 1000) :
    ∃ l, Ev.call pr n Fn.law_pot [.val (.scr ns), .val (.int (k : Nat))] = some (.ok (.lst l), [.val (.scr ns), .val (.int (k : Nat))]) ∧ PotOk (2 ^ 39) l := by
  obtain ⟨m, rfl⟩ := succ_of' hn
  obtain ⟨a, b, e, q1, q2⟩ := pot_ok (Ys m) (ns := ns) hk
  exact ⟨_, e, a, b, 0, rfl, q1, q2, by decide, by decide⟩
theorem cells_spec {n : Nat} (hn : 1 ≤ n) {ns : List Int} {k : Nat} (h1 : 1 ≤ k) (hk : k ≤ 100) :
    ∃ j : Nat, 1 ≤ j ∧ j ≤ k ∧ Ev.call pr n Fn.law_cells [.val (.scr ns), .val (.int (k : Nat))] = some (.ok (.lst ((List.range j).map fun i => .int (i : Nat))), [.val (.scr ns), .val (.int (k : Nat))]) := by
  obtain ⟨m, rfl⟩ := succ_of' hn
  have go : ∀ j : Nat, 1 ≤ j → j ≤ k → (if (if (ns.length : Int) < k then (ns.length : Int) else k) > 1 then (if (ns.length : Int) < k then (ns.length : Int) else k) else 1) = (j : Int) → ∃ j : Nat, 1 ≤ j ∧ j ≤ k ∧ Ev.call pr (m + 1) Fn.law_cells [.val (.scr ns), .val (.int (k : Nat))] = some (.ok (.lst ((List.range j).map fun i => .int (i : Nat))), [.val (.scr ns), .val (.int (k : Nat))]) := fun j j1 j2 e => by
    refine ⟨j, j1, j2, ?_⟩
    rw [c_law_cells]
    have rg : rangeD [.int (j : Int)] = some ((List.range j).map fun i => .int (i : Nat)) := by
      show (if decide (-(2 ^ 62) ≤ (j : Int) ∧ (j : Int) ≤ LL) = true then some ((List.range (j : Int).toNat).map fun k => D.int (k : Nat)) else none) = _
      have l : (LL : Int) = 1000000 := by decide
      rw [if_pos (decide_eq_true ⟨by omega, by omega⟩)]
      rfl
    simp only [gt_iff_lt, Int.ofNat_lt] at e
    simp [d_law_cells, asgSs, asgS, e, rgK, rg]
  by_cases q : (ns.length : Int) < k
  · by_cases q2 : (ns.length : Int) > 1
    · exact go ns.length (by omega) (by omega) (by rw [if_pos q, if_pos q2])
    · exact go 1 (by omega) (by omega) (by rw [if_pos q, if_neg q2]; rfl)
  · by_cases q3 : (k : Int) > 1
    · exact go k h1 (by omega) (by rw [if_neg q, if_pos q3])
    · exact go 1 (by omega) (by omega) (by rw [if_neg q, if_neg q3]; rfl)
end Lw
end

section
set_option linter.all false
set_option maxRecDepth 100000
set_option maxHeartbeats 4000000
set_option exponentiation.threshold 100000
/-! the laws' own fractions, their dealing. -/
namespace Lw
open PySem L2 Ev
theorem range_ok {k : Nat} (h : k ≤ 1000000) : rangeD [.int (k : Nat)] = some ((List.range k).map fun i => .int (i : Nat)) := by
  show (if decide (-(2 ^ 62) ≤ (k : Int) ∧ (k : Int) ≤ LL) = true then some ((List.range (k : Int).toNat).map fun k => D.int (k : Nat)) else none) = _
  have l : (LL : Int) = 1000000 := by decide
  rw [if_pos (decide_eq_true ⟨by omega, by omega⟩)]
  rfl
theorem law_cut_ok {n : Nat} (hn : 1 ≤ n) {a b : Int} (ha : Bd 3990 a) (hb : Bd 3990 b) (h0 : 0 < b) : Ev.call pr n Fn.law_cut [.val (.int a), .val (.int b)] = some (.ok (.val (fr (red a b))), [.val (.int a), .val (.int b)]) := by
  obtain ⟨m, rfl⟩ := succ_of hn
  rw [c_law_cut]
  have w := gcd_loop2 (c := evT (Ys m) (.cmp .gt (.v 4) (.c (.int 0)))) (bd := exSs (Ys m) [.par 3 4 (.v 4) (.bin .mod (.blt .int [(.v 3)]) (.v 4))]) (fun x y => [some (.val (.int a)), some (.val (.int b)), none, some (.val (.int x)), some (.val (.int y))])
    (fun x y => by simp) (fun x y h => by
      have h0 : ¬ y = 0 := by omega
      simp [h0]
      rw [Int.fmod_eq_emod_of_nonneg _ (by omega)]) (a := a.natAbs) (b := b.natAbs) (k := 7980) (by
      have := Nat.mul_lt_mul'' ha hb
      rw [← Nat.pow_add] at this
      exact this) (n := WW) (by decide +kernel)
  have e1 : (if a < 0 then -a else a) = (a.natAbs : Int) := by omega
  have e2 : (if b < 0 then -b else b) = (b.natAbs : Int) := by omega
  have m1 : mulOk 1 a = true := Bd.mulOk (Bd.mono (k := 1) (by unfold Bd; decide) (by decide)) (ha.mono (by decide))
  have m2 : mulOk 1 b = true := Bd.mulOk (Bd.mono (k := 1) (by unfold Bd; decide) (by decide)) (hb.mono (by decide))
  have q1 : ∀ y, Builtin.divisionGoesByPylong a y = false := fun y => Bd.divOk (ha.mono (by decide))
  have q2 : ∀ y, Builtin.divisionGoesByPylong b y = false := fun y => Bd.divOk (hb.mono (by decide))
  have g : (((Nat.gcd a.natAbs b.natAbs : Nat) : Int)) = (Int.gcd a b : Int) := rfl
  have g0 : ¬ b = 0 := by omega
  simp [d_law_cut, e1, e2, w, asgSs, asgS, tgs, g, h0, m1, m2, q1, q2, g0, fr, red]
/-- xs: what is drawn, before it is divided by the sum -/
def partsOf (xs : List Nat) : List (Int × Int) := xs.map fun x : Nat => red (x : Int) (tot xs)
theorem map_int {xs : List Nat} : (ctD xs) = (xs.map fun c : Nat => (c : Int)).map D.int := by unfold ctD; rw [List.map_map]; rfl
theorem t_sumN {xs : List Nat} : bltD .sum [.lst (ctD xs)] = some (.val (.int (tot xs))) := t_sumF
theorem parts_chs {xs : List Nat} (h1 : 1 ≤ xs.length) (h2 : xs.length ≤ 20) (h3 : ∀ x, x ∈ xs → x ≤ 100) (h4 : 0 < tot xs) : Chs (partsOf xs) ∧ Over (tot xs) (xs.map fun c : Nat => (c : Int)) (partsOf xs) := by
  have len : (partsOf xs).length = xs.length := List.length_map ..
  have bt : tot xs ≤ 2000 := by
    have : ∀ l : List Nat, (∀ x, x ∈ l → x ≤ 100) → tot l ≤ 100 * l.length := fun l => by
      induction l with
      | nil => intro _; exact Int.le_refl 0
      | cons a r ih =>
        intro h
        have i := ih fun x hx => h x (List.mem_cons_of_mem _ hx)
        have a1 := h a List.mem_cons_self
        unfold tot at *
        rw [List.map_cons, List.sum_cons, List.length_cons]
        omega
    have := this xs h3
    omega
  have bS : Bd 11 (tot xs) := bd_of (by omega) (by omega)
  have ov : Over (tot xs) (xs.map fun c : Nat => (c : Int)) (partsOf xs) := ⟨h4, by rw [List.length_map, len], rfl, fun i c x hc hx => by
    unfold partsOf at hc
    rw [List.getElem?_map] at hc hx
    cases e : xs[i]? with
    | none => rw [e] at hc; cases hc
    | some y =>
      rw [e] at hc hx
      cases hc
      cases hx
      exact ⟨red_pos h4, red_sv h4⟩⟩
  have mem : ∀ p, p ∈ partsOf xs → ∃ x, x ∈ xs ∧ p = red (x : Int) (tot xs) := fun p hp => by
    obtain ⟨x, hx, e⟩ := List.mem_map.mp hp
    exact ⟨x, hx, e.symm⟩
  have hfr : ∀ p, p ∈ partsOf xs → Fr p ∧ 0 ≤ p.1 := fun p hp => by
    obtain ⟨x, hx, rfl⟩ := mem p hp
    refine ⟨red_fr h4, ?_⟩
    have e := red_sv (n := (x : Int)) h4
    have p2 := red_pos (n := (x : Int)) h4
    have nn : 0 ≤ (x : Int) * (red (x : Int) (tot xs)).2 := Int.mul_nonneg (by omega) (Int.le_of_lt p2)
    rw [← e] at nn
    exact Int.le_of_mul_le_mul_right (by rw [Int.zero_mul]; exact nn) h4
  refine ⟨⟨by omega, by omega, hfr, fun p hp => ?_, ?_⟩, ov⟩
  · obtain ⟨x, hx, rfl⟩ := mem p hp
    have bx : Bd 11 (x : Int) := bd_of (by omega) (by have := h3 x hx; omega)
    have b := red_bd bx bS
    exact ⟨b.1.mono (by decide), b.2.mono (by decide)⟩
  · have t := tot_sum (S := tot xs) h4 (l := partsOf xs) (xs := xs.map fun c : Nat => (c : Int)) (a := (0, 1)) (s := 0) (by rw [List.length_map, len]) (fun i c x hc hx => ov.eq i c x hc hx) (by decide) (by simp)
    have f := tot_fr (l := partsOf xs) (fun c hc => (hfr c hc).1.1) _ fr_0
    have e0 : (xs.map fun c : Nat => (c : Int)).sum = tot xs := rfl
    rw [e0, Int.zero_add] at t
    refine fr_eq f fr_1 ?_
    show (totF (partsOf xs)).1 * 1 = 1 * (totF (partsOf xs)).2
    have t' : (totF (partsOf xs)).1 * tot xs = tot xs * (totF (partsOf xs)).2 := t
    have hS : tot xs ≠ 0 := by omega
    refine Int.eq_of_mul_eq_mul_right hS ?_
    grind
theorem parts_spec {n : Nat} (hn : 4 ≤ n) {k : Nat} {l : List D} {many : Nat} (h : PotOk (k + 50) l) (h1 : 1 ≤ many) (h2 : many ≤ 20) :
    ∃ (xs : List Nat) (l' : List D), Ev.call pr n Fn.law_parts [.lst l, .val (.int (many : Nat))] = some (.ok (.val (.tup ((partsOf xs).map fr))), [.lst l', .val (.int (many : Nat))]) ∧ xs.length = many ∧ (∀ x, x ∈ xs → x ≤ 100) ∧ 0 < tot xs ∧ PotOk k l' := by
  obtain ⟨m, rfl⟩ := succ_of (show 1 ≤ n by omega)
  rw [c_law_parts]
  obtain ⟨ds, ρ', e, xs, l1, e1, e2, e3, e4⟩ := lc_rule (step := lcS (Ys m) (.call Fn.law_of [(.v 0), (.lst [(.c (.int 0)), (.c (.int 1)), (.c (.int 1)), (.c (.int 2)), (.c (.int 3)), (.call Fn.law_take [(.v 0), (.c (.int 30))])])]) (.v 3) [] [3])
    (fun j acc ρ => ∃ (xs : List Nat) (l1 : List D), acc = ctD xs ∧ xs.length = j ∧ (∀ x, x ∈ xs → x ≤ 100) ∧ PotOk (k + 50 - 2 * j) l1 ∧ ρ = [some (.lst l1), some (.val (.int (many : Nat))), none, none, none])
    ((List.range many).map fun i => .int (i : Nat)) 0 [] [some (.lst l), some (.val (.int (many : Nat))), none, none, none] ⟨[], l, rfl, rfl, (fun x hx => absurd hx List.not_mem_nil), h, rfl⟩ fun j d acc ρ hj ⟨xs, l1, a1, a2, a3, a4, a5⟩ => by
      have hjm : j < many := by
        have := (List.getElem?_eq_some_iff.mp hj).1
        simpa using this
      rw [Nat.zero_add] at *
      rw [List.getElem?_map, List.getElem?_range hjm] at hj
      cases hj
      subst a1 a5
      obtain ⟨r, l2, t1, t2, t3⟩ := take_spec (n := m) (by omega) (k := k + 50 - 2 * j - 1) (a4.mono (by omega)) (u := 30) (by decide)
      obtain ⟨i, x, l3, u1, u2, u3⟩ := of_spec (n := m) (by omega) (k := k + 50 - 2 * (j + 1)) (t3.mono (by omega)) (d := .lst (ctD [0, 1, 1, 2, 3, r])) (.inl rfl) (by simp [ctD])
      have hx : ∃ y : Nat, x = .int (y : Nat) ∧ y ≤ 100 := by
        have hm := List.mem_of_getElem? u2
        unfold ctD at hm
        obtain ⟨y, hy, rfl⟩ := List.mem_map.mp hm
        refine ⟨y, rfl, ?_⟩
        have : y ≤ 3 ∨ y = r := by
          simp only [List.mem_cons, List.not_mem_nil, or_false] at hy
          omega
        omega
      obtain ⟨y, rfl, hy⟩ := hx
      refine ⟨some (.int (y : Nat)), [some (.lst l3), some (.val (.int (many : Nat))), none, none, none], ?_, xs ++ [y], l3, ?_, ?_, ?_, u3, rfl⟩
      · have u1' : Ev.call pr m Fn.law_of [.lst l2, .val (.lst [.int 0, .int 1, .int 1, .int 2, .int 3, .int (r : Nat)])] = some (.ok (.val (.int (y : Nat))), [.lst l3, .val (.lst [.int 0, .int 1, .int 1, .int 2, .int 3, .int (r : Nat)])]) := u1
        simp [lcS_eq, t1, u1']
      · unfold ctD
        rw [List.map_append]
        rfl
      · rw [List.length_append, a2]; rfl
      · intro z hz
        rcases List.mem_append.mp hz with hz | hz
        · exact a3 z hz
        · rw [List.mem_singleton.mp hz]; exact hy
  rw [Nat.zero_add, List.length_map, List.length_range] at e2 e4
  rw [List.nil_append] at e1
  obtain ⟨e4, e5⟩ := e4
  subst e1 e5
  have hmL : many ≤ 1000000 := by omega
  -- behind the second statement
  obtain ⟨ys, l4, f1, f2, f3, f4, f5⟩ : ∃ (ys : List Nat) (l4 : List D), exSs (Ys m) [.ite (.cmp .eq (.blt .sum [(.v 2)]) (.c (.int 0))) [.setI 2 (.call Fn.law_take [(.v 0), (.v 1)]) (.c (.int 1))] []] [some (.lst l1), some (.val (.int (many : Nat))), some (.lst (ctD xs)), none, none] = some (.next, [some (.lst l4), some (.val (.int (many : Nat))), some (.lst (ctD ys)), none, none]) ∧ ys.length = many ∧ (∀ x, x ∈ ys → x ≤ 100) ∧ 0 < tot ys ∧ PotOk k l4 := by
    by_cases hz : tot xs = 0
    · obtain ⟨r, l2, t1, t2, t3⟩ := take_spec (n := m) (by omega) (k := k) (e4.mono (by omega)) (u := (many : Nat)) (by omega)
      have hr : r < xs.length := by omega
      have ix : L2.ixN (ctD xs).length (r : Int) = some r := ixN_nat (by rw [ctD_len]; exact hr)
      have st : (ctD xs).set r (.int 1) = ctD (xs.set r 1) := by unfold ctD; rw [List.map_set]; rfl
      refine ⟨xs.set r 1, l2, ?_, by rw [List.length_set, e2], fun x hx => ?_, ?_, t3⟩
      · simp [t_sumN, hz, t1, ix, st]
      · rcases List.mem_or_eq_of_mem_set hx with hx | rfl
        · exact e3 x hx
        · decide
      · have h := le_tot (cs := xs.set r 1) (c := 1) (List.mem_set hr 1)
        omega
    · refine ⟨xs, l1, ?_, e2, e3, ?_, e4.mono (by omega)⟩
      · simp [t_sumN, hz]
      · have : 0 ≤ tot xs := by
          cases xs with
          | nil => exact Int.le_refl 0
          | cons a r => exact Int.le_trans (by omega) (le_tot (cs := a :: r) (c := a) List.mem_cons_self)
        omega
  have bt := (parts_chs (xs := ys) (by omega) (by omega) f3 f4)
  have w := lc_map (step := lcS (Ys m) (.call Fn.law_cut [(.v 4), (.blt .sum [(.v 2)])]) (.v 4) [] [4]) (ρ := [some (.lst l4), some (.val (.int (many : Nat))), some (.val (.lst (ctD ys))), none, none]) (fun d => match d with | .int x => some (fr (red x (tot ys))) | d => some d) (ctD ys) fun d hd => by
    unfold ctD at hd
    obtain ⟨y, hy, rfl⟩ := List.mem_map.mp hd
    have by1 := f3 y hy
    have bS : Bd 3990 (tot ys) := by
      have l : tot ys ≤ 100 * ys.length := by
        have : ∀ l : List Nat, (∀ x, x ∈ l → x ≤ 100) → tot l ≤ 100 * l.length := fun l => by
          induction l with
          | nil => intro _; exact Int.le_refl 0
          | cons a r ih =>
            intro h
            have i := ih fun x hx => h x (List.mem_cons_of_mem _ hx)
            have a1 := h a List.mem_cons_self
            unfold tot at *
            rw [List.map_cons, List.sum_cons, List.length_cons]
            omega
        exact this ys f3
      exact Bd.mono (k := 11) (bd_of (by omega) (by omega)) (by decide)
    have c := law_cut_ok (n := m) (by omega) (a := (y : Int)) (b := tot ys) (Bd.mono (k := 11) (bd_of (by omega) (by omega)) (by decide)) bS f4
    simp [lcS_eq, t_sumN, c]
  have we : (ctD ys).filterMap (fun d => match d with | .int x => some (fr (red x (tot ys))) | d => some d) = (partsOf ys).map fr := by
    unfold ctD partsOf
    rw [List.filterMap_map, List.map_map]
    have e : ((fun d : D => match d with | .int x => some (fr (red x (tot ys))) | d => some d) ∘ fun c : Nat => D.int (c : Nat)) = fun c : Nat => some ((fr ∘ fun x : Nat => red (x : Int) (tot ys)) c) := rfl
    rw [e, filterMap_some]
  rw [we] at w
  refine ⟨ys, l4, ?_, f2, f3, f4, f5⟩
  have f1' := f1
  simp only [k_ss, k_ss0] at f1'
  have f2' : (ctD ys).length ≤ 1000000 := by rw [ctD_len]; omega
  have h2 : exS (Ys m) (.ite (.cmp .eq (.blt .sum [(.v 2)]) (.c (.int 0))) [.setI 2 (.call Fn.law_take [(.v 0), (.v 1)]) (.c (.int 1))] []) [some (.lst l1), some (.val (.int (many : Nat))), some (.lst (ctD xs)), none, none] = some (.next, [some (.lst l4), some (.val (.int (many : Nat))), some (.lst (ctD ys)), none, none]) := by
    cases q : exS (Ys m) (.ite (.cmp .eq (.blt .sum [(.v 2)]) (.c (.int 0))) [.setI 2 (.call Fn.law_take [(.v 0), (.v 1)]) (.c (.int 1))] []) [some (.lst l1), some (.val (.int (many : Nat))), some (.lst (ctD xs)), none, none] with
    | none => rw [q] at f1'; cases f1'
    | some z =>
      obtain ⟨f, ρ⟩ := z
      rw [q] at f1'
      cases f <;> first | (exact f1') | (cases f1')
  have s1 : exS (Ys m) (.asg (.v 2) (.lc (.call Fn.law_of [(.v 0), (.lst [(.c (.int 0)), (.c (.int 1)), (.c (.int 1)), (.c (.int 2)), (.c (.int 3)), (.call Fn.law_take [(.v 0), (.c (.int 30))])])]) (.v 3) (.range [(.v 1)]) [] [3])) [some (.lst l), some (.val (.int (many : Nat))), none, none, none] = some (.next, [some (.lst l1), some (.val (.int (many : Nat))), some (.lst (ctD xs)), none, none]) := by
    simp [range_ok hmL, hmL, e]
  have s3 : exS (Ys m) (.ret (.blt .tuple [(.lc (.call Fn.law_cut [(.v 4), (.blt .sum [(.v 2)])]) (.v 4) (.v 2) [] [4])])) [some (.lst l4), some (.val (.int (many : Nat))), some (.lst (ctD ys)), none, none] = some (.ret (.val (.tup ((partsOf ys).map fr))), [some (.lst l4), some (.val (.int (many : Nat))), some (.val (.lst (ctD ys))), none, none]) := by
    have oc : occ 2 100 (.call Fn.law_cut [(.v 4), (.blt .sum [(.v 2)])]) = true := rfl
    simp [oc, f2', w]
  have run : runDef (Ys m) d_law_parts [.lst l, .val (.int (many : Nat))] = Ev.fin (asgSs d_law_parts.body) [.lst l, .val (.int (many : Nat))] (exSs (Ys m) d_law_parts.body [some (.lst l), some (.val (.int (many : Nat))), none, none, none]) := rfl
  have bd : exSs (Ys m) d_law_parts.body [some (.lst l), some (.val (.int (many : Nat))), none, none, none] = some (.ret (.val (.tup ((partsOf ys).map fr))), [some (.lst l4), some (.val (.int (many : Nat))), some (.val (.lst (ctD ys))), none, none]) := by
    show exSs (Ys m) [_, _, _] _ = _
    rw [k_ss, s1, k_sqN, k_ss, h2, k_sqN, k_ss, s3, k_sqR]
  rw [run, bd, k_finR]
  have as : (asgSs d_law_parts.body).contains 0 = false := rfl
  simp [as, -List.contains_eq_mem]
end Lw
end

section
set_option linter.all false
set_option maxRecDepth 100000
set_option maxHeartbeats 4000000
/-! the laws' values of any kind, bent ones. -/
namespace Lw
open PySem L2 Ev
theorem of_specL {n : Nat} (hn : 2 ≤ n) {k : Nat} {l : List D} (h : PotOk (k + 1) l) {ds : List D} (hs : ds ≠ []) :
    ∃ (i : Nat) (x : D) (l' : List D), Ev.call pr n Fn.law_of [.lst l, .lst ds] = some (.ok (.val x), [.lst l', .lst ds]) ∧ ds[i]? = some x ∧ PotOk k l' := by
  obtain ⟨m, rfl⟩ := succ_of' (show 1 ≤ n by omega)
  have pos : 0 < ds.length := List.length_pos_iff.mpr hs
  obtain ⟨r, l', e, q1, q2⟩ := take_spec (n := m) (by omega) h (u := ds.length) (by omega)
  have hr : r < ds.length := by omega
  refine ⟨r, ds[r], l', ?_, List.getElem?_eq_getElem hr, q2⟩
  rw [c_law_of]
  have g : ds[r]? = some ds[r] := List.getElem?_eq_getElem hr
  simp [d_law_of, asgSs, asgS, e, s_lk, g]
theorem odd_spec {n : Nat} (hn : 3 ≤ n) {k : Nat} {l : List D} (h : PotOk (k + 1) l) : ∃ (x : D) (l' : List D), Ev.call pr n Fn.law_odd [.lst l] = some (.ok (.val x), [.lst l']) ∧ x ∈ odds ∧ PotOk k l' := by
  obtain ⟨m, rfl⟩ := succ_of' (show 1 ≤ n by omega)
  obtain ⟨i, x, l', e, g, q⟩ := of_specL (n := m) (by omega) h (ds := odds) (by decide)
  refine ⟨x, l', ?_, List.mem_of_getElem? g, q⟩
  rw [c_law_odd]
  unfold odds at e
  have hb : Builtin.Int.intBits 10 = 4 := by decide +kernel
  simp [d_law_odd, asgSs, asgS, tgs, hb, e]
theorem bent_odd {m k b w N : Nat} {l : List D} {d : D} (hm : 3 ≤ m) (hb : 100000000 ≤ b) (hp : PotOk (k + 1) l) (hd : tyD d = some 0 ∨ tyD d = some 1 ∨ tyD d = some 5 ∨ tyD d = some 6) :
    ∃ (x : D) (l' : List D), Ev.call pr (m + 1) Fn.law_bent [.lst l, .val d] = some (.ok (.val x), [.lst l', .val d]) ∧ Small (2 * b + 2) (2 * w + 100) (N + 2) x ∧ PotOk k l' := by
  obtain ⟨x, l', e, hx, q⟩ := odd_spec (n := m) hm hp
  refine ⟨x, l', ?_, (odds_sm x hx).mono (by omega) (by omega) (by omega), q⟩
  rw [c_law_bent]
  rcases hd with h | h | h | h <;> simp [d_law_bent, asgSs, asgS, tgs, h, e]
theorem bent_int {m k b w N : Nat} {l : List D} {i : Int} (hm : 3 ≤ m) (hi : i.natAbs ≤ b) (hb : 100000000 ≤ b) (hb2 : b < 10 ^ 11) (hp : PotOk (k + 1) l) :
    ∃ (x : D) (l' : List D), Ev.call pr (m + 1) Fn.law_bent [.lst l, .val (.int i)] = some (.ok (.val x), [.lst l', .val (.int i)]) ∧ Small (2 * b + 2) (2 * w + 100) (N + 2) x ∧ PotOk k l' := by
  obtain ⟨j, x, l', e, g, q⟩ := of_spec (n := m) (by omega) hp (d := .lst [.int (i + 1), .int (i - 1), .bl (decide (i = 1)), .str "1", .non, .int 0, .int (-i), .int (2 * i)]) (.inl rfl) (by simp)
  have mo : mulOk 2 i = true := Bd.mulOk (Bd.mono (k := 2) (by unfold Bd; decide) (by decide)) (Bd.mono (k := 40) (by unfold Bd; exact Nat.lt_of_le_of_lt hi (Nat.lt_trans hb2 (by decide +kernel))) (by decide))
  refine ⟨x, l', ?_, ?_, q⟩
  · rw [c_law_bent]
    simp [d_law_bent, asgSs, asgS, tgs, mo, e]
  · have hx := List.mem_of_getElem? g
    have I : ∀ j : Int, j.natAbs ≤ 2 * b + 2 → Small (2 * b + 2) (2 * w + 100) (N + 2) (.int j) := fun j hj => Small.int hj (by omega) (by omega)
    have O : ∀ y ∈ odds, Small (2 * b + 2) (2 * w + 100) (N + 2) y := fun y hy => (odds_sm y hy).mono (by omega) (by omega) (by omega)
    simp only [List.mem_cons, List.not_mem_nil, or_false] at hx
    rcases hx with rfl | rfl | rfl | rfl | rfl | rfl | rfl | rfl
    · exact I _ (by omega)
    · exact I _ (by omega)
    · cases decide (i = 1)
      · exact O _ (by simp [odds])
      · exact O _ (by simp [odds])
    · exact ⟨rfl, by show (1 : Nat) ≤ _; omega, Nat.zero_le _⟩
    · exact O _ (by simp [odds])
    · exact I _ (by omega)
    · exact I _ (by omega)
    · exact I _ (by omega)
theorem bent_str {m k b w N : Nat} {l : List D} {z : Str} (hm : 3 ≤ m) (hz : Small b w N (.str z)) (hw : w ≤ 100000) (hb : 100000000 ≤ b) (hb2 : b < 10 ^ 11) (hp : PotOk (k + 1) l) :
    ∃ (x : D) (l' : List D), Ev.call pr (m + 1) Fn.law_bent [.lst l, .val (.str z)] = some (.ok (.val x), [.lst l', .val (.str z)]) ∧ Small (2 * b + 2) (2 * (toQ (.str z)).weight + 100) (N + 2) x ∧ PotOk k l' := by
  have zl : z.length ≤ w := hz.wt
  have wz : (toQ (.str z)).weight = z.length := rfl
  have eL : LL = 1000000 := rfl
  have z1 : z.length + 1 ≤ LL := by omega
  have z2 : z.length ≤ 1000000 := by omega
  obtain ⟨j, x, l', e, g, q⟩ := of_spec (n := m) (by omega) hp (d := .lst [.str (z ++ "a"), .str (L2.cutS z none (some (-1))), .str "never", .str "read", .str "load", .str "a", .str "b", .non, .int 0, .lst [.str z]]) (.inl rfl) (by simp)
  have ba : binD .add (.str z) (.str (Str.ofString "a")) = some (.val (.str (z ++ Str.ofString "a"))) := if_pos z1
  refine ⟨x, l', ?_, ?_, q⟩
  · rw [c_law_bent]
    simp [d_law_bent, asgSs, asgS, tgs, ba, z2, e]
  · have hx := List.mem_of_getElem? g
    have cz : ∀ c ∈ z.cps.toList, c < 16 ^ 8 := by
      have := hz.lf
      exact fun c hc => of_decide_eq_true (List.all_eq_true.mp (show (z.cps.toList.all fun c => decide (c < 16 ^ 8)) = true from this) c hc)
    have St : ∀ y : Str, (∀ c ∈ y.cps.toList, c < 16 ^ 8) → y.length ≤ z.length + 10 → Small (2 * b + 2) (2 * z.length + 100) (N + 2) (.str y) := fun y hy hl => ⟨List.all_eq_true.mpr fun c hc => decide_eq_true (hy c hc), by show y.length ≤ _; omega, Nat.zero_le _⟩
    rw [wz]
    simp only [List.mem_cons, List.not_mem_nil, or_false] at hx
    rcases hx with rfl | rfl | rfl | rfl | rfl | rfl | rfl | rfl | rfl | rfl
    · refine St _ ?_ ?_
      · intro c hc
        rcases List.mem_append.mp (show c ∈ z.cps.toList ++ [97] by
          have e : (z ++ Str.ofString "a").cps = z.cps ++ #[97] := rfl
          rw [e] at hc
          simpa using hc) with h | h
        · exact cz c h
        · rw [List.mem_singleton.mp h]; decide
      · have e : (z ++ Str.ofString "a").length = z.length + 1 := PySem.strLen_append ..
        omega
    · refine St _ ?_ (Nat.le_trans (L2.cutS_length z _ _) (by omega))
      · intro c hc
        exact cz c (List.mem_of_mem_drop (List.mem_of_mem_take (by simpa [L2.cutS] using hc)))
    · exact St _ (by decide) (by show (5 : Nat) ≤ _; omega)
    · exact St _ (by decide) (by show (4 : Nat) ≤ _; omega)
    · exact St _ (by decide) (by show (4 : Nat) ≤ _; omega)
    · exact St _ (by decide) (by show (1 : Nat) ≤ _; omega)
    · exact St _ (by decide) (by show (1 : Nat) ≤ _; omega)
    · exact ⟨rfl, Nat.zero_le _, Nat.zero_le _⟩
    · exact Small.int (Nat.zero_le _) (by omega) (by omega)
    · exact sm_lst.mpr ((Smalls.one (show Small (2 * b + 2) z.length (N + 1) (.str z) from ⟨(St z cz (by omega)).lf, Nat.le_refl _, Nat.zero_le _⟩)).mono (Nat.le_refl _) (by omega) (Nat.le_refl _))
theorem cut_to {ds : List D} {i : Nat} : cut ds none (some (i : Int)) = ds.take i := by
  have h : ¬ ((i : Int) < 0) := by omega
  unfold cut HT.sIx
  simp only [h, if_false, Int.toNat_natCast, List.drop_zero, Nat.sub_zero]
  by_cases q : i ≤ ds.length
  · rw [Nat.min_eq_left q]
  · rw [Nat.min_eq_right (by omega), List.take_length, List.take_of_length_le (by omega)]
theorem cut_from {ds : List D} {i : Nat} : cut ds (some (i : Int)) none = ds.drop i := by
  have h : ¬ ((i : Int) < 0) := by omega
  unfold cut HT.sIx
  simp only [h, if_false, Int.toNat_natCast]
  by_cases q : i ≤ ds.length
  · rw [Nat.min_eq_left q, List.take_of_length_le (by rw [List.length_drop]; exact Nat.le_refl _)]
  · rw [Nat.min_eq_right (by omega), List.drop_length, List.drop_of_length_le (by omega), List.take_nil]
theorem ne0 (ds : List D) : cmpD .ne (.tup ds) (.tup []) = some (!ds.isEmpty) := by
  show ((eqD (.tup ds) (.tup [])).or (some ds.isEmpty)).map (!·) = _
  cases ds with
  | nil => rfl
  | cons a r =>
    unfold eqD
    split
    · simp [eqv, eqvs]
    · simp
theorem bent_tup0 {m k b w N : Nat} {l l0 : List D} {ds : List D} (hm : 3 ≤ m) (hz : Small b w (N + 1) (.tup ds)) (hw : w ≤ 100000) (hp : PotOk (k + 1) l)
    (h0 : (ds = [] ∧ l0 = l) ∨ (ds ≠ [] ∧ Ev.call pr m Fn.law_take [.lst l0, .val (.int 7)] = some (.ok (.val (.int 0)), [.lst l, .val (.int 7)]))) :
    ∃ (x : D) (l' : List D), Ev.call pr (m + 1) Fn.law_bent [.lst l0, .val (.tup ds)] = some (.ok (.val x), [.lst l', .val (.tup ds)]) ∧ Small (2 * b + 2) (2 * (toQ (.tup ds)).weight + 100) (N + 3) x ∧ PotOk k l' := by
  have S0 : Smalls b w N ds := sm_tup.mp hz
  have wz : (ds.map fun d => (toQ d).weight + 1).sum = (toQ (.tup ds)).weight := (wT ds).symm
  have S : Smalls b (toQ (.tup ds)).weight N ds := ⟨S0.1, by rw [wz]; exact Nat.le_refl _⟩
  have hl := S0.len
  have eL : LL = 1000000 := rfl
  have hc : (cut ds (some (-1)) none).length ≤ ds.length := by unfold cut; rw [List.length_take, List.length_drop]; omega
  have ba : binD .add (.tup ds) (.tup (cut ds (some (-1)) none)) = some (.val (.tup (ds ++ cut ds (some (-1)) none))) := if_pos (by omega)
  obtain ⟨j, x, l', e, g, q⟩ := of_spec (n := m) (by omega) hp (d := .lst [.lst ds, .tup (cut ds (some 1) none), .tup (cut ds none (some (-1))), .tup (ds ++ cut ds (some (-1)) none), .tup ds.reverse, .tup [], .non]) (.inl rfl) (by simp)
  refine ⟨x, l', ?_, ?_, q⟩
  · rw [c_law_bent]
    rcases h0 with ⟨rfl, rfl⟩ | ⟨hne, et⟩
    · simp only [List.reverse_nil, List.nil_append] at e
      simp [d_law_bent, asgSs, asgS, tgs, -q_ne, ne0, ba, e]
    · have hi : ds.isEmpty = false := by simpa using hne
      simp [d_law_bent, asgSs, asgS, tgs, -q_ne, ne0, hi, et, ba, e]
  · have hx := List.mem_of_getElem? g
    simp only [List.mem_cons, List.not_mem_nil, or_false] at hx
    have T : ∀ {m : List D} {v : Nat}, Smalls b v N m → v ≤ 2 * (toQ (.tup ds)).weight → Small (2 * b + 2) (2 * (toQ (.tup ds)).weight + 100) (N + 3) (.tup m) := fun s h => (sm_tup.mpr s).mono (by omega) (by omega) (by omega)
    rcases hx with rfl | rfl | rfl | rfl | rfl | rfl | rfl
    · exact (sm_lst.mpr S).mono (by omega) (by omega) (by omega)
    · exact T (S.cut _ _) (by omega)
    · exact T (S.cut _ _) (by omega)
    · exact T (S.app (S.cut _ _)) (by omega)
    · exact T S.rev (by omega)
    · exact T (v := 0) .nil (by omega)
    · exact ⟨rfl, Nat.zero_le _, Nat.zero_le _⟩
theorem bent_spec : ∀ (N : Nat) {n k b w : Nat} {l : List D} {d : D}, Small b w N d → 100000000 ≤ b → b < 10 ^ 11 → w ≤ 100000 → N + 4 ≤ n → PotOk (k + 2 * N + 4) l →
    ∃ (x : D) (l' : List D), Ev.call pr n Fn.law_bent [.lst l, .val d] = some (.ok (.val x), [.lst l', .val d]) ∧ Small (2 * b + 2) (2 * (toQ d).weight + 100) (N + 2) x ∧ PotOk k l' := by
  intro N
  induction N with
  | zero =>
    intro n k b w l d hd hb hb2 hw hn hp
    obtain ⟨m, rfl⟩ := succ_of' (show 1 ≤ n by omega)
    have hp1 : PotOk (k + 1) l := hp.mono (by omega)
    have od : (tyD d = some 0 ∨ tyD d = some 1 ∨ tyD d = some 5 ∨ tyD d = some 6) → _ := fun h => bent_odd (m := m) (w := (toQ d).weight) (N := 0) (by omega) hb hp1 h
    cases d with
    | non => exact od (.inl rfl)
    | bl _ => exact od (.inr (.inl rfl))
    | lst _ => exact od (.inr (.inr (.inl rfl)))
    | dic _ _ => exact od (.inr (.inr (.inr rfl)))
    | int i => exact bent_int (by omega) (of_decide_eq_true (show decide (i.natAbs ≤ b) = true from hd.lf)) hb hb2 hp1
    | str z => exact bent_str (by omega) hd hw hb hb2 hp1
    | tup l => exact absurd (dT.mp hd.dp).1 (by omega)
    | _ => exact nomatch hd.lf
  | succ N ih =>
    intro n k b w l d hd hb hb2 hw hn hp
    obtain ⟨m, rfl⟩ := succ_of' (show 1 ≤ n by omega)
    have hp1 : PotOk (k + 1) l := hp.mono (by omega)
    have od : (tyD d = some 0 ∨ tyD d = some 1 ∨ tyD d = some 5 ∨ tyD d = some 6) → _ := fun h => bent_odd (m := m) (w := (toQ d).weight) (N := N + 1) (by omega) hb hp1 h
    cases d with
    | non => exact od (.inl rfl)
    | bl _ => exact od (.inr (.inl rfl))
    | lst _ => exact od (.inr (.inr (.inl rfl)))
    | dic _ _ => exact od (.inr (.inr (.inr rfl)))
    | int i => exact bent_int (by omega) (of_decide_eq_true (show decide (i.natAbs ≤ b) = true from hd.lf)) hb hb2 hp1
    | str z => exact bent_str (by omega) hd hw hb hb2 hp1
    | tup ds =>
      by_cases hne : ds = []
      · exact bent_tup0 (by omega) hd hw hp1 (.inl ⟨hne, rfl⟩)
      obtain ⟨r, l1, e1, q1, p1⟩ := take_spec (n := m) (by omega) (k := k + 2 * N + 5) (hp.mono (by omega)) (u := 7) (by decide)
      by_cases hr : r = 0
      · subst hr
        exact bent_tup0 (by omega) hd hw (p1.mono (by omega)) (.inr ⟨hne, e1⟩)
      have pos : 0 < ds.length := List.length_pos_iff.mpr hne
      obtain ⟨i, l2, e2, q2, p2⟩ := take_spec (n := m) (by omega) (k := k + 2 * N + 4) p1 (u := ds.length) (by omega)
      have hi : i < ds.length := by omega
      have S0 : Smalls b w N ds := sm_tup.mp hd
      have wz : (ds.map fun d => (toQ d).weight + 1).sum = (toQ (.tup ds)).weight := (wT ds).symm
      have S : Smalls b (toQ (.tup ds)).weight N ds := ⟨S0.1, by rw [wz]; exact Nat.le_refl _⟩
      obtain ⟨y, l3, e3, sy, p3⟩ := ih (n := m) (S0.get (List.getElem_mem hi)) hb hb2 hw (by omega) p2
      have g : ds[i]? = some ds[i] := List.getElem?_eq_getElem hi
      have hl := S0.len
      have eL : LL = 1000000 := rfl
      have z1 : (ds.take i).length ≤ ds.length := by rw [List.length_take]; omega
      have z2 : (ds.drop (i + 1)).length ≤ ds.length := by rw [List.length_drop]; omega
      have b1 : binD .add (.tup (ds.take i)) (.tup [y]) = some (.val (.tup (ds.take i ++ [y]))) := if_pos (by simp only [List.length_singleton]; omega)
      have b2 : binD .add (.tup (ds.take i ++ [y])) (.tup (ds.drop (i + 1))) = some (.val (.tup (ds.take i ++ [y] ++ ds.drop (i + 1)))) := if_pos (by simp only [List.length_append, List.length_singleton]; omega)
      refine ⟨.tup (ds.take i ++ [y] ++ ds.drop (i + 1)), l3, ?_, ?_, p3⟩
      · rw [c_law_bent]
        have hie : ds.isEmpty = false := by simpa using hne
        have hr0 : 0 < r := by omega
        have cf : cut ds (some ((i : Int) + 1)) none = ds.drop (i + 1) := cut_from (i := i + 1)
        simp [d_law_bent, asgSs, asgS, tgs, -q_ne, ne0, hie, e1, e2, e3, hr0, s_tk, g, cut_to, cf, b1, b2]
      · have S' : Smalls (2 * b + 2) (toQ (.tup ds)).weight (N + 2) ds := S.mono (by omega) (Nat.le_refl _) (by omega)
        exact sm_tup.mpr (S'.set g sy (Nat.le_refl _))
    | _ => exact nomatch hd.lf
end Lw
end

section
set_option linter.all false
set_option maxRecDepth 100000
set_option maxHeartbeats 4000000
set_option exponentiation.threshold 100000
/-! the laws' own looks at values of any kind. -/
namespace Lw
open PySem L2 Ev
theorem law_is_int_yes {n : Nat} (hn : 1 ≤ n) (i low high : Int) : Ev.call pr n Fn.law_is_int [.val (.int i), .val (.int low), .val (.int high)] = some (.ok (.val (.bl (decide (low ≤ i ∧ i ≤ high)))), [.val (.int i), .val (.int low), .val (.int high)]) := by
  obtain ⟨m, rfl⟩ := succ_of hn
  rw [c_law_is_int]
  by_cases h : low ≤ i <;> simp [d_law_is_int, asgSs, asgS, h]
theorem law_is_int_no {n : Nat} (hn : 1 ≤ n) {d low high : D} (ht : (tyD d).isSome = true) (hi : isIntD d = none) : Ev.call pr n Fn.law_is_int [.val d, .val low, .val high] = some (.ok (.val (.bl false)), [.val d, .val low, .val high]) := by
  obtain ⟨m, rfl⟩ := succ_of hn
  rw [c_law_is_int]
  cases d <;> first | (cases hi; done) | (cases ht; done) | simp [d_law_is_int, asgSs, asgS, tyD]
theorem al2 (a b : Bool) : bltD .all [.lst [.bl a, .bl b]] = some (.val (.bl (a && b))) := by cases a <;> cases b <;> rfl
theorem red_id {a b : Int} (h : 0 < b) : red a b = (a, b) ↔ Int.gcd a b = 1 := by
  have g0 := gcd_pos (n := a) h
  unfold red
  rw [if_pos h]
  constructor
  · intro e
    injection e with e1 e2
    have d := Int.fdiv_mul_cancel (show (Int.gcd a b : Int) ∣ b from Int.gcd_dvd_right ..)
    rw [e2] at d
    have : b * ((Int.gcd a b : Int) - 1) = 0 := by rw [Int.mul_sub, d]; omega
    rcases Int.mul_eq_zero.mp this with z | z <;> omega
  · intro e
    rw [e]
    simp
theorem law_is_fraction_ok {n : Nat} (hn : 2 ≤ n) {d : D} (hd : okD 1000 d) : Ev.call pr n Fn.law_is_fraction [.val d] = some (.ok (.val (.bl (isFrD d).isSome)), [.val d]) := by
  obtain ⟨m, rfl⟩ := succ_of (show 1 ≤ n by omega)
  rw [c_law_is_fraction]
  by_cases ht : isTupD d = none
  · have e : isFrD d = none := by cases d <;> first | rfl | cases ht
    cases d <;> first | (cases ht; done) | (unfold okD at hd; exact hd.elim) | simp [d_law_is_fraction, asgSs, asgS, tyD, e]
  obtain ⟨l, rfl⟩ : ∃ l, d = .tup l := by cases d <;> first | exact ⟨_, rfl⟩ | exact absurd rfl ht
  have hs := okD_tup hd
  by_cases h2 : l.length = 2
  case neg =>
    have e : isFrD (.tup l) = none := by
      unfold isFrD
      split
      · rename_i q
        cases q
        exact absurd rfl h2
      · rfl
    have h2' : ¬ ((l.length : Int) = 2) := by omega
    simp [d_law_is_fraction, asgSs, asgS, tyD, e, h2']
  case pos =>
    match l, h2 with
    | [x, y], _ =>
      have okx := okDs_mem hs x List.mem_cons_self
      have oky := okDs_mem hs y (List.mem_cons_of_mem _ List.mem_cons_self)
      have tx := okD_ty okx
      have ty := okD_ty oky
      have one : ∀ z : D, (tyD z).isSome = true → lcS (Ys m) (.and (.blt .isint [(.v 1)]) (.not (.blt .isbool [(.v 1)]))) (.v 1) [] [1] z [some (.val (.tup [x, y])), none] = some (.ok (some (.bl (isIntD z).isSome)), [some (.val (.tup [x, y])), none]) := fun z hz => by
        cases z <;> first | (cases hz; done) | simp [lcS_eq, tyD, isIntD]
      have lp := lc_map (step := lcS (Ys m) (.and (.blt .isint [(.v 1)]) (.not (.blt .isbool [(.v 1)]))) (.v 1) [] [1]) (ρ := [some (.val (.tup [x, y])), none]) (fun d => some (.bl (isIntD d).isSome)) [x, y] fun z hz => one z (by
        simp only [List.mem_cons, List.not_mem_nil, or_false] at hz
        rcases hz with rfl | rfl
        · exact tx
        · exact ty)
      rw [filterMap_some] at lp
      by_cases hx : (isIntD x).isSome = true
      case neg =>
        have hx' : (isIntD x).isSome = false := by simpa using hx
        have e : isFrD (.tup [x, y]) = none := by cases x <;> first | rfl | exact absurd rfl hx
        simp [d_law_is_fraction, asgSs, asgS, tyD, lp, e, hx', al2]
      by_cases hy : (isIntD y).isSome = true
      case neg =>
        have hy' : (isIntD y).isSome = false := by simpa using hy
        have e : isFrD (.tup [x, y]) = none := by cases x <;> cases y <;> first | rfl | exact absurd rfl hy
        simp [d_law_is_fraction, asgSs, asgS, tyD, lp, e, hx, hy', al2]
      obtain ⟨a, rfl⟩ : ∃ a, x = .int a := by cases x <;> first | exact ⟨_, rfl⟩ | cases hx
      obtain ⟨b, rfl⟩ : ∃ b, y = .int b := by cases y <;> first | exact ⟨_, rfl⟩ | cases hy
      by_cases h0 : 0 < b
      · have c := law_cut_ok (n := m) (by omega) ((okD_int okx).mono (by decide)) ((okD_int oky).mono (by decide)) h0
        have eq : eqD (fr (red a b)) (.tup [.int a, .int b]) = some (decide (red a b = (a, b))) := eqD_fr (p := red a b) (q := (a, b))
        have e : (isFrD (.tup [.int a, .int b])).isSome = decide (red a b = (a, b)) := by
          show (if 1 ≤ b ∧ Int.gcd a b = 1 then some (a, b) else none).isSome = _
          by_cases g : Int.gcd a b = 1
          · rw [if_pos ⟨by omega, g⟩, decide_eq_true ((red_id h0).mpr g)]
            rfl
          · rw [if_neg (fun z => g z.2), decide_eq_false (fun z => g ((red_id h0).mp z))]
            rfl
        rw [e]
        simp [d_law_is_fraction, asgSs, asgS, tyD, lp, isIntD, h0, c, eq, al2]
      · have e : isFrD (.tup [.int a, .int b]) = none := if_neg (fun z => by omega)
        simp [d_law_is_fraction, asgSs, asgS, tyD, lp, isIntD, h0, e, al2]
theorem law_plus_ok {n : Nat} (hn : 2 ≤ n) {a b : Int × Int} (ha : Bd 1990 a.1 ∧ Bd 1990 a.2) (hb : Bd 1990 b.1 ∧ Bd 1990 b.2) (h1 : 0 < a.2) (h2 : 0 < b.2) : Ev.call pr n Fn.law_plus [.val (fr a), .val (fr b)] = some (.ok (.val (fr (addF a b))), [.val (fr a), .val (fr b)]) := by
  obtain ⟨m, rfl⟩ := succ_of (show 1 ≤ n by omega)
  rw [c_law_plus]
  have m1 : mulOk a.1 b.2 = true := Bd.mulOk (ha.1.mono (by decide)) (hb.2.mono (by decide))
  have m2 : mulOk b.1 a.2 = true := Bd.mulOk (hb.1.mono (by decide)) (ha.2.mono (by decide))
  have m3 : mulOk a.2 b.2 = true := Bd.mulOk (ha.2.mono (by decide)) (hb.2.mono (by decide))
  have c := law_cut_ok (n := m) (by omega) (a := a.1 * b.2 + b.1 * a.2) (b := a.2 * b.2) (((ha.1.mul hb.2).add (hb.1.mul ha.2)).mono (by decide)) ((ha.2.mul hb.2).mono (by decide)) (Int.mul_pos h1 h2)
  simp [d_law_plus, asgSs, asgS, fr, m1, m2, m3] at c ⊢
  simp [c, addF]
theorem law_sum_ok {n : Nat} (hn : 3 ≤ n) {k : Nat} {l : List (Int × Int)} (hk : 1 ≤ k) (hl : k * (l.length + 1) + l.length ≤ 1990) (hL : l.length ≤ 1000000) (h : ∀ c, c ∈ l → 0 < c.2 ∧ Bd k c.1 ∧ Bd k c.2) : Ev.call pr n Fn.law_sum [.val (.tup (l.map fr))] = some (.ok (.val (fr (totF l))), [.val (.tup (l.map fr))]) := by
  obtain ⟨m, rfl⟩ := succ_of (show 1 ≤ n by omega)
  rw [c_law_sum]
  obtain ⟨f, ρ', e, o, q⟩ := for_rule (step := fS (Ys m) (.v 2) [.asg (.v 1) (.call Fn.law_plus [(.v 1), (.v 2)])])
    (fun j ρ => ∃ o, ρ = [some (.val (.tup (l.map fr))), some (.val (fr (totF (l.take j)))), o]) (fun f ρ => ∃ o, (f, ρ) = (Fl.next, [some (.val (.tup (l.map fr))), some (.val (fr (totF l))), o]))
    (l.map fr) 0 [some (.val (.tup (l.map fr))), some (.val (fr (0, 1))), none] ⟨none, rfl⟩ (fun j d ρ hj ⟨o, e⟩ => by
      rw [List.getElem?_map] at hj
      cases hc : l[j]? with
      | none => rw [hc] at hj; cases hj
      | some c =>
        rw [hc] at hj
        cases hj
        subst e
        rw [Nat.zero_add] at *
        have hm : c ∈ l := List.mem_of_getElem? hc
        have ht : ∀ d, d ∈ l.take j → 0 < d.2 ∧ Bd k d.1 ∧ Bd k d.2 := fun d hd => h d (List.mem_of_mem_take hd)
        obtain ⟨t1, t2⟩ := tot_bd0 hk ht
        have tl : (l.take j).length ≤ l.length := by rw [List.length_take]; omega
        have tm : k * ((l.take j).length + 1) ≤ k * (l.length + 1) := Nat.mul_le_mul_left _ (by omega)
        have tp : 0 < (totF (l.take j)).2 := (tot_fr (fun d hd => (ht d hd).1) _ fr_0).1
        have k1 : k ≤ k * (l.length + 1) := Nat.le_mul_of_pos_right _ (by omega)
        obtain ⟨c0, c1, c2⟩ := h c hm
        have p := law_plus_ok (n := m) (by omega) ⟨t1.mono (by omega), t2.mono (by omega)⟩ ⟨c1.mono (m := 1990) (by omega), c2.mono (m := 1990) (by omega)⟩ tp c0
        have eq : totF (l.take (j + 1)) = addF (totF (l.take j)) c := foldl_take addF (0, 1) l hc
        rw [← eq] at p
        refine ⟨.next, _, ?_, some (.val (fr c)), rfl⟩
        simp [fS_eq, p]) (fun ρ ⟨o, e⟩ => ⟨o, by subst e; simp⟩)
  injection q with q1 q2
  subst q1 q2
  simp [d_law_sum, asgSs, asgS, tgs, fr, hL] at e ⊢
  rw [e]
  simp
theorem mapM_0 : ∀ {ps : List (Int × Int)}, (∀ p, p ∈ ps → Fr p) → ((ps.map fr).mapM isFr0).isSome = ps.all (fun p => decide (0 ≤ p.1))
  | [], _ => rfl
  | p :: r, h => by
    have e : isFr0 (fr p) = if 0 ≤ p.1 then some p else none := by
      unfold isFr0
      rw [isFrD_fr (h p List.mem_cons_self)]
    have ih := mapM_0 (ps := r) fun q hq => h q (List.mem_cons_of_mem _ hq)
    rw [List.map_cons, List.mapM_cons, e, List.all_cons]
    by_cases h0 : 0 ≤ p.1
    · rw [if_pos h0, decide_eq_true h0, ← ih]
      cases (r.map fr).mapM isFr0 <;> rfl
    · rw [if_neg h0, decide_eq_false h0]
      rfl
theorem all_fr : ∀ {l : List D}, (∀ d, d ∈ l → (isFrD d).isSome = true) → ∃ ps : List (Int × Int), l = ps.map fr ∧ ∀ p, p ∈ ps → Fr p
  | [], _ => ⟨[], rfl, fun p hp => nomatch hp⟩
  | d :: r, h => by
    obtain ⟨ps, e, f⟩ := all_fr (l := r) fun x hx => h x (List.mem_cons_of_mem _ hx)
    obtain ⟨p, hp⟩ := Option.isSome_iff_exists.mp (h d List.mem_cons_self)
    obtain ⟨e1, e2⟩ := isFrD_ok hp
    exact ⟨p :: ps, by rw [e, e1]; rfl, fun q hq => (List.mem_cons.mp hq).elim (fun z => z ▸ e2) (f q)⟩
theorem parts_none {l : List D} (h : ¬ ∀ d, d ∈ l → (isFrD d).isSome = true) : (partsD (.tup l) l.length).isSome = false := by
  unfold partsD
  simp only [isTupD, if_true]
  cases e : l.mapM isFr0 with
  | none => rfl
  | some ps =>
    obtain ⟨e1, e2⟩ := mapM_fr e
    refine absurd (fun d hd => ?_) h
    rw [e1] at hd
    obtain ⟨p, hp, rfl⟩ := List.mem_map.mp hd
    rw [isFrD_fr (e2 p hp).1]
    rfl
theorem law_are_parts_ok {n : Nat} (hn : 4 ≤ n) {l : List D} (hd : okD 90 (.tup l)) (hm : l.length ≤ 20) : Ev.call pr n Fn.law_are_parts [.val (.tup l), .val (.int (l.length : Nat))] = some (.ok (.val (.bl (partsD (.tup l) l.length).isSome)), [.val (.tup l), .val (.int (l.length : Nat))]) := by
  obtain ⟨m, rfl⟩ := succ_of (show 1 ≤ n by omega)
  rw [c_law_are_parts]
  have hs := okD_tup hd
  have lp := lc_map (step := lcS (Ys m) (.call Fn.law_is_fraction [(.v 2)]) (.v 2) [] [2]) (ρ := [some (.val (.tup l)), some (.val (.int (l.length : Nat))), none]) (fun d => some (.bl (isFrD d).isSome)) l fun x hx => by
    have f := law_is_fraction_ok (n := m) (by omega) (okD_mono (okDs_mem hs x hx) (by decide))
    simp [lcS_eq, f]
  rw [filterMap_some] at lp
  have em : l.map (fun d => D.bl (isFrD d).isSome) = (l.map fun d => (isFrD d).isSome).map D.bl := by rw [List.map_map]; rfl
  rw [em] at lp
  have hLL : l.length ≤ 1000000 := by omega
  by_cases hf : ∀ d, d ∈ l → (isFrD d).isSome = true
  case neg =>
    have al : (l.all fun d => (isFrD d).isSome) = false := by
      cases q : l.all fun d => (isFrD d).isSome with
      | false => rfl
      | true => exact absurd (List.all_eq_true.mp q) hf
    rw [parts_none hf]
    simp [d_law_are_parts, asgSs, asgS, tyD, lp, hLL, al, -List.all_eq_false, -List.any_eq_true]
  case pos =>
    have al : (l.all fun d => (isFrD d).isSome) = true := List.all_eq_true.mpr hf
    obtain ⟨ps, el, hF⟩ := all_fr hf
    have len : ps.length = l.length := by rw [el, List.length_map]
    have lp2 := lc_map (step := lcS (Ys m) (.cmp .ge (.sub (.v 2) (.c (.int 0))) (.c (.int 0))) (.v 2) [] [2]) (ρ := [some (.val (.tup l)), some (.val (.int (l.length : Nat))), none]) (fun d => match d with | .tup (.int a :: _) => some (.bl (decide (0 ≤ a))) | _ => none) l fun x hx => by
      rw [el] at hx
      obtain ⟨p, hp, rfl⟩ := List.mem_map.mp hx
      simp [lcS_eq, fr]
    have em2 : l.filterMap (fun d => match d with | .tup (.int a :: _) => some (.bl (decide (0 ≤ a))) | _ => none) = (ps.map fun p => decide (0 ≤ p.1)).map D.bl := by
      rw [el, List.filterMap_map, List.map_map]
      have e : ((fun d => match d with | D.tup (.int a :: _) => some (D.bl (decide (0 ≤ a))) | _ => none) ∘ fr) = fun p : Int × Int => some ((D.bl ∘ fun p : Int × Int => decide (0 ≤ p.1)) p) := rfl
      rw [e, filterMap_some]
    rw [em2] at lp2
    have m0 := mapM_0 hF
    rw [← el] at m0
    have bd : ∀ c, c ∈ ps → 0 < c.2 ∧ Bd 90 c.1 ∧ Bd 90 c.2 := fun c hc => by
      have q := okDs_mem hs (fr c) (by rw [el]; exact List.mem_map_of_mem hc)
      have q2 := okD_tup q
      exact ⟨(hF c hc).1, okD_int (okDs_mem q2 _ List.mem_cons_self), okD_int (okDs_mem q2 _ (List.mem_cons_of_mem _ List.mem_cons_self))⟩
    have sm := law_sum_ok (n := m) (by omega) (k := 90) (l := ps) (by decide) (by rw [len]; omega) (by rw [len]; omega) bd
    rw [← el] at sm
    have eq : eqD (fr (totF ps)) (.tup [.int 1, .int 1]) = some (decide (totF ps = (1, 1))) := eqD_fr (p := totF ps) (q := (1, 1))
    have er : (partsD (.tup l) l.length).isSome = ((ps.all fun p => decide (0 ≤ p.1)) && decide (totF ps = (1, 1))) := by
      unfold partsD
      simp only [isTupD, if_true]
      rw [← m0]
      cases q : l.mapM isFr0 with
      | none => rfl
      | some qs =>
        have : qs = ps := by
          have e1 := (mapM_fr q).1
          rw [el] at e1
          exact ((List.map_inj_right (fun a b h => fr_inj h)).mp e1).symm
        subst this
        show (if totF qs = (1, 1) then some qs else none).isSome = _
        by_cases h : totF qs = (1, 1) <;> simp [h]
    rw [er]
    cases q : ps.all fun p => decide (0 ≤ p.1) with
    | false => simp [d_law_are_parts, asgSs, asgS, tyD, lp, hLL, al, lp2, q, -List.all_eq_false, -List.any_eq_true, -List.all_eq_true]
    | true => simp [d_law_are_parts, asgSs, asgS, tyD, lp, hLL, al, lp2, q, sm, eq, -List.all_eq_false, -List.any_eq_true, -List.all_eq_true]
end Lw
end

section
set_option linter.all false
set_option maxRecDepth 100000
set_option maxHeartbeats 4000000
set_option exponentiation.threshold 100000
/-! k47: chances and asks refused. -/
namespace Lw
open PySem L2 Ev
theorem small_ok {b w n : Nat} {d : D} (h : Small b w n d) (hb : b < 10 ^ 12) : okD 90 d := by
  have key : ∀ (n : Nat) {d : D}, sizeOf d ≤ n → lfB b d = true → okD 90 d := by
    intro n
    induction n with
    | zero => intro d hd; cases d <;> simp at hd <;> omega
    | succ n ih =>
      intro d hd e
      have it : ∀ l : List D, sizeOf l ≤ n → lfBs b l = true → okDs 90 l := fun l hl e => okDs_of fun x hx => ih (by have := List.sizeOf_lt_of_mem hx; omega) (lfBs_iff.mp e x hx)
      cases d with
      | int i =>
        have e1 : i.natAbs ≤ b := of_decide_eq_true (show decide (i.natAbs ≤ b) = true from e)
        unfold okD
        exact Nat.lt_of_le_of_lt e1 (Nat.lt_trans hb (by decide +kernel))
      | tup l => unfold okD; exact it l (by simp at hd; omega) e
      | lst l => unfold okD; exact it l (by simp at hd; omega) e
      | dic ks l =>
        cases ks with
        | nil =>
          cases l with
          | nil => unfold okD okDs; trivial
          | cons _ _ => cases e
        | cons _ _ => cases e
      | non => unfold okD; trivial
      | bl _ => unfold okD; trivial
      | str _ => unfold okD; trivial
      | _ => cases e
  exact key _ (Nat.le_refl _) h.lf
/-- chances, as the law sees them -/
def goodC (d : D) : Bool := match d with
  | .tup l => decide (0 < l.length ∧ l.length < 21) && (partsD (.tup l) l.length).isSome
  | _ => false
theorem goodC_chs {l : List D} (h : goodC (.tup l) = true) (ok : okD 90 (.tup l)) : ∃ ch, l = ch.map fr ∧ Chs ch := by
  obtain ⟨h1, h2⟩ := Bool.and_eq_true_iff.mp (show (decide (0 < l.length ∧ l.length < 21) && (partsD (.tup l) l.length).isSome) = true from h)
  have h1 := of_decide_eq_true h1
  unfold partsD at h2
  simp only [isTupD, if_true] at h2
  cases e : l.mapM isFr0 with
  | none => rw [e] at h2; cases h2
  | some ps =>
    rw [e] at h2
    obtain ⟨el, hf⟩ := mapM_fr e
    have len : ps.length = l.length := by rw [el, List.length_map]
    have ht : totF ps = (1, 1) := by
      by_cases z : totF ps = (1, 1)
      · exact z
      · simp [z] at h2
    refine ⟨ps, el, by omega, by omega, hf, fun p hp => ?_, ht⟩
    have q := okDs_mem (okD_tup ok) (fr p) (by rw [el]; exact List.mem_map_of_mem hp)
    have q2 := okD_tup q
    exact ⟨okD_int (okDs_mem q2 _ List.mem_cons_self), okD_int (okDs_mem q2 _ (List.mem_cons_of_mem _ List.mem_cons_self))⟩
theorem dealt_bad {n : Nat} (hn : 7 ≤ n) {d a : D} (ok : okD 90 d) (h : goodC d = false) : Ev.call pr n Fn.dealt [.val d, .val a] = some (.err 2 d, [.val d, .val a]) := by
  obtain ⟨m, rfl⟩ := succ_of (show 1 ≤ n by omega)
  rw [c_dealt]
  cases ht : isTupD d with
  | none =>
    have e := is_tuple_no (n := m) (by omega) (low := .int 1) (high := .int 20) (okD_ty ok) ht
    simp [d_dealt, asgSs, asgS, tgs, e]
  | some l =>
    have ed : d = .tup l := by cases d <;> first | (cases ht; done) | (cases ht; rfl)
    subst ed
    have e := is_tuple_ok (n := m) (by omega) l 1 20
    by_cases hl : 0 < l.length ∧ l.length < 21
    · have hl' : (1 : Int) ≤ l.length ∧ (l.length : Int) ≤ 20 := by omega
      rw [decide_eq_true hl'] at e
      have p := are_parts_ok (n := m) (by omega) ok (many := l.length) (by omega)
      have z : (partsD (.tup l) l.length).isSome = false := by
        have := show (decide (0 < l.length ∧ l.length < 21) && (partsD (.tup l) l.length).isSome) = false from h
        rw [decide_eq_true hl] at this
        exact this
      rw [z] at p
      simp [d_dealt, asgSs, asgS, tgs, e, p]
    · have hl' : ¬ ((1 : Int) ≤ l.length ∧ (l.length : Int) ≤ 20) := by omega
      rw [decide_eq_false hl'] at e
      simp [d_dealt, asgSs, asgS, tgs, e]
/-- a number of asks -/
def goodN (d : D) : Bool := match d with
  | .int i => decide (0 ≤ i ∧ i ≤ 99)
  | _ => false
theorem dealt_num {n : Nat} (hn : 7 ≤ n) {ch : List (Int × Int)} (hc : Chs ch) {a : D} (ok : (tyD a).isSome = true) (h : goodN a = false) : Ev.call pr n Fn.dealt [.val (.tup (ch.map fr)), .val a] = some (.err 1 a, [.val (.tup (ch.map fr)), .val a]) := by
  obtain ⟨m, rfl⟩ := succ_of (show 1 ≤ n by omega)
  rw [c_dealt]
  have h1 := hc.one
  have h2 := hc.most
  have t := is_tuple_ok (n := m) (by omega) (ch.map fr) 1 20
  rw [decide_eq_true (by rw [List.length_map]; omega)] at t
  have p := are_parts_ok (n := m) (by omega) hc.ok (many := ch.length) (by omega)
  rw [hc.parts] at p
  cases hi : isIntD a with
  | none =>
    have w := is_integer_no (n := m) (by omega) (low := .int 0) (high := .int 99) ok hi
    simp [d_dealt, asgSs, asgS, tgs, t, p, w]
  | some i =>
    have ea : a = .int i := by cases a <;> first | (cases hi; done) | (cases hi; rfl)
    subst ea
    have w := is_integer_ok (n := m) (by omega) i 0 99
    rw [show decide (0 ≤ i ∧ i ≤ 99) = false from h] at w
    simp [d_dealt, asgSs, asgS, tgs, t, p, w]
/-- a fraction as a list -/
def toL : D → D
  | .tup l => .lst l
  | d => d
def nearA : List D := [.tup (List.replicate 21 (.tup [.int 1, .int 21])), .tup (List.replicate 20 (.tup [.int 1, .int 20])), .tup [.tup [.int 2, .int 4], .tup [.int 1, .int 2]], .tup [.tup [.int 1, .int 2], .tup [.int 1, .int 3]], .tup [.tup [.int 3, .int 2], .tup [.int (-1), .int 2]], .tup [.tup [.int 1, .int 1]]]
def nearB : List D := [.tup [.tup [.int 1, .int 1], .tup [.int 0, .int 1]], .tup [.tup [.int 0, .int 1], .tup [.int 0, .int 2], .tup [.int 1, .int 1]], .tup [.int 1], .tup [.tup [.bl true, .int 1]], .tup [.tup [.int 1, .bl true]], .tup [.int 1, .int 1], .tup [.tup [.int 1, .int 2]]]
theorem near_sm : ∀ d ∈ nearA ++ nearB, Small 100000000 400 4 d := by
  have h : (nearA ++ nearB).all (fun d => lfB 100000000 d && (decide ((toQ d).weight ≤ 400) && decide ((toQ d).depth ≤ 4))) = true := by decide +kernel
  intro d hd
  have h1 := List.all_eq_true.mp h d hd
  simp only [Bool.and_eq_true, decide_eq_true_eq] at h1
  exact ⟨h1.1, h1.2.1, h1.2.2⟩
theorem rep21 (x : D) : (List.replicate (21 : Nat) [x]).flatten = List.replicate 21 x := by simp
theorem mul21 : binD .mul (.tup [.tup [.int 1, .int 21]]) (.int 21) = some (.val (.tup (List.replicate 21 (.tup [.int 1, .int 21])))) := by rfl
theorem mul20 : binD .mul (.tup [.tup [.int 1, .int 20]]) (.int 20) = some (.val (.tup (List.replicate 20 (.tup [.int 1, .int 20])))) := by rfl
theorem near_spec {n : Nat} (hn : 12 ≤ n) {k : Nat} {l fs : List D} (hp : PotOk (k + 100) l) (hs : Small 100000000 800 3 (.tup fs)) (hne : fs ≠ []) (hL : ∀ d, d ∈ fs → ∃ z, d = .tup z) (h6 : fs.length ≤ 6) :
    ∃ (x : D) (l' : List D), Ev.call pr n Fn.law_near [.lst l, .val (.tup fs)] = some (.ok (.val x), [.lst l', .val (.tup fs)]) ∧ Small 200000002 2000 6 x ∧ PotOk k l' := by
  obtain ⟨m, rfl⟩ := succ_of' (show 1 ≤ n by omega)
  have S : Smalls 100000000 800 2 fs := sm_tup.mp hs
  have eL : LL = 1000000 := rfl
  have lp := lc_map (step := lcS (Ys m) (.blt .list [(.v 3)]) (.v 3) [] [3]) (ρ := [some (.lst l), some (.val (.tup fs)), none, none, none]) (fun d => some (toL d)) fs fun x hx => by
    obtain ⟨z, rfl⟩ := hL x hx
    simp [lcS_eq, toL]
  rw [filterMap_some] at lp
  have hLL : fs.length ≤ 1000000 := by omega
  have c1 : (cut fs none (some 1)).length ≤ fs.length := by unfold cut; rw [List.length_take, List.length_drop]; omega
  have ba : binD .add (.tup fs) (.tup (cut fs none (some 1))) = some (.val (.tup (fs ++ cut fs none (some 1)))) := if_pos (by omega)
  generalize hC : [D.tup fs, D.tup fs, D.tup (cut fs (some 1) none), D.tup (fs ++ cut fs none (some 1)), D.lst fs, D.tup (fs.map toL), D.tup [], D.non] = C0
  have sC : ∀ d, d ∈ C0 → Small 200000002 2000 6 d := by
    have T : ∀ {q : List D} {v : Nat}, Smalls 100000000 v 2 q → v ≤ 2000 → Small 200000002 2000 6 (.tup q) := fun s h => (sm_tup.mpr s).mono (by decide) h (by omega)
    have tl : Smalls 100000000 800 2 (fs.map toL) := by
      have e : ∀ d, d ∈ fs → toQ (toL d) = .list (match toQ d with | .tuple z => z | _ => []) ∧ (toQ (toL d)).weight = (toQ d).weight ∧ (toQ (toL d)).depth = (toQ d).depth ∧ lfB 100000000 (toL d) = lfB 100000000 d := fun d hd => by
        obtain ⟨z, rfl⟩ := hL d hd
        exact ⟨rfl, rfl, rfl, rfl⟩
      refine ⟨fun d hd => ?_, ?_⟩
      · obtain ⟨d', h', rfl⟩ := List.mem_map.mp hd
        obtain ⟨_, _, e2, e3⟩ := e d' h'
        rw [e2, e3]
        exact S.1 d' h'
      · have q : (fs.map toL).map (fun d => (toQ d).weight + 1) = fs.map fun d => (toQ d).weight + 1 := by
          rw [List.map_map]
          exact List.map_congr_left fun d hd => by show (toQ (toL d)).weight + 1 = _; rw [(e d hd).2.1]
        rw [q]
        exact S.2
    intro d hd
    rw [← hC] at hd
    simp only [List.mem_cons, List.not_mem_nil, or_false] at hd
    rcases hd with rfl | rfl | rfl | rfl | rfl | rfl | rfl | rfl
    · exact T S (by decide)
    · exact T S (by decide)
    · exact T (S.cut _ _) (by decide)
    · exact T (S.app (S.cut _ _)) (by decide)
    · exact (sm_lst.mpr S).mono (by decide) (by decide) (by omega)
    · exact T tl (by decide)
    · exact T (v := 0) .nil (by decide)
    · exact ⟨rfl, Nat.zero_le _, Nat.zero_le _⟩
  -- the bent ones
  obtain ⟨ds, ρ', e2, l2, q1, q2, q3, q4⟩ := lc_rule (step := lcS (Ys m) (.call Fn.law_bent [(.v 0), (.v 1)]) (.v 4) [] [4])
    (fun t acc ρ => ∃ l2, PotOk (k + 90 - 12 * t) l2 ∧ acc.length = t ∧ (∀ d, d ∈ acc → Small 200000002 2000 6 d) ∧ ρ = [some (.lst l2), some (.val (.tup fs)), some (.lst (C0 ++ nearA ++ nearB)), none, none])
    ((List.range 5).map fun i => .int (i : Nat)) 0 [] [some (.lst l), some (.val (.tup fs)), some (.lst (C0 ++ nearA ++ nearB)), none, none] ⟨l, hp.mono (by omega), rfl, (fun d hd => nomatch hd), rfl⟩ fun t d acc ρ ht ⟨l2, h1, h2, h3, h4⟩ => by
      have ht5 : t < 5 := by
        have := (List.getElem?_eq_some_iff.mp ht).1
        simpa using this
      rw [Nat.zero_add] at *
      rw [List.getElem?_map, List.getElem?_range ht5] at ht
      cases ht
      subst h4
      obtain ⟨y, l3, w1, w2, w3⟩ := bent_spec 3 (n := m) (k := k + 90 - 12 * (t + 1)) hs (by decide) (by decide) (by decide) (by omega) (h1.mono (by omega))
      refine ⟨some y, [some (.lst l3), some (.val (.tup fs)), some (.lst (C0 ++ nearA ++ nearB)), none, none], ?_, l3, w3, by simp [h2], fun d hd => ?_, rfl⟩
      · simp [lcS_eq, w1]
      · rcases List.mem_append.mp hd with hd | hd
        · exact h3 d hd
        · have e : d = y := by simpa using hd
          rw [e]
          exact w2.mono (by decide) (by have := hs.wt; omega) (by omega)
  rw [Nat.zero_add, List.length_map, List.length_range] at q1 q2
  simp only [List.nil_append] at q2 q3
  obtain ⟨o, l3, f1, f2, f3⟩ := odd_spec (n := m) (by omega) (k := k + 2) (q1.mono (by omega))
  obtain ⟨j, x, l4, g1, g2, g3⟩ := of_spec (n := m) (by omega) (k := k) (f3.mono (by omega)) (d := .lst (C0 ++ nearA ++ nearB ++ ds ++ [o])) (.inl rfl) (by simp)
  have lC : C0.length = 8 := by rw [← hC]; rfl
  have lA : nearA.length = 6 := rfl
  have lB : nearB.length = 7 := rfl
  have rg : rangeD [.int 5] = some ((List.range 5).map fun i => .int (i : Nat)) := range_ok (k := 5) (by decide)
  have ll : ((List.range 5).map fun i => D.int (i : Nat)).length ≤ 1000000 := by decide
  generalize (List.range 5).map (fun i => D.int (i : Nat)) = R at e2 rg ll
  have s1 : exS (Ys m) (.asg (.v 2) (.lst [(.v 1), (.v 1), (.slc (.v 1) (.c (.int 1)) (.c .non)), (.bin .add (.v 1) (.slc (.v 1) (.c .non) (.c (.int 1)))), (.blt .list [(.v 1)]), (.blt .tuple [(.lc (.blt .list [(.v 3)]) (.v 3) (.v 1) [] [3])]), (.tup []), (.c .non)])) [some (.lst l), some (.val (.tup fs)), none, none, none] = some (.next, [some (.lst l), some (.val (.tup fs)), some (.lst C0), none, none]) := by
    rw [← hC]
    simp [lp, hLL, ba]
  have s2 : exS (Ys m) (.ext 2 (.lst [(.bin .mul (.tup [(.tup [(.c (.int 1)), (.c (.int 21))])]) (.c (.int 21))), (.bin .mul (.tup [(.tup [(.c (.int 1)), (.c (.int 20))])]) (.c (.int 20))), (.tup [(.tup [(.c (.int 2)), (.c (.int 4))]), (.tup [(.c (.int 1)), (.c (.int 2))])]), (.tup [(.tup [(.c (.int 1)), (.c (.int 2))]), (.tup [(.c (.int 1)), (.c (.int 3))])]), (.tup [(.tup [(.c (.int 3)), (.c (.int 2))]), (.tup [(.neg (.c (.int 1))), (.c (.int 2))])]), (.tup [(.tup [(.c (.int 1)), (.c (.int 1))])])])) [some (.lst l), some (.val (.tup fs)), some (.lst C0), none, none] = some (.next, [some (.lst l), some (.val (.tup fs)), some (.lst (C0 ++ nearA)), none, none]) := by
    have h : C0.length + nearA.length ≤ 1000000 := by omega
    unfold nearA at h ⊢
    simp [mul21, mul20] at h ⊢
    simp [h]
  have s3 : exS (Ys m) (.ext 2 (.lst [(.tup [(.tup [(.c (.int 1)), (.c (.int 1))]), (.tup [(.c (.int 0)), (.c (.int 1))])]), (.tup [(.tup [(.c (.int 0)), (.c (.int 1))]), (.tup [(.c (.int 0)), (.c (.int 2))]), (.tup [(.c (.int 1)), (.c (.int 1))])]), (.tup [(.c (.int 1))]), (.tup [(.tup [(.c (.bl true)), (.c (.int 1))])]), (.tup [(.tup [(.c (.int 1)), (.c (.bl true))])]), (.tup [(.c (.int 1)), (.c (.int 1))]), (.tup [(.tup [(.c (.int 1)), (.c (.int 2))])])])) [some (.lst l), some (.val (.tup fs)), some (.lst (C0 ++ nearA)), none, none] = some (.next, [some (.lst l), some (.val (.tup fs)), some (.lst (C0 ++ nearA ++ nearB)), none, none]) := by
    have h : (C0 ++ nearA).length + nearB.length ≤ 1000000 := by rw [List.length_append]; omega
    generalize C0 ++ nearA = C1 at h
    unfold nearB at h ⊢
    simp at h ⊢
    simp [h]
  have lD : (C0 ++ nearA ++ nearB).length = 21 := by rw [List.length_append, List.length_append]; omega
  generalize hD : C0 ++ nearA ++ nearB = C2 at s3 e2 q4 g1 g2 lD
  have a1 : binD .add (.lst C2) (.lst ds) = some (.lst (C2 ++ ds)) := if_pos (by omega)
  have a2 : binD .add (.lst (C2 ++ ds)) (.lst [o]) = some (.lst (C2 ++ ds ++ [o])) := if_pos (by rw [List.length_append]; simp only [List.length_singleton]; omega)
  have s4 : exS (Ys m) (.ret (.call Fn.law_of [(.v 0), (.bin .add (.bin .add (.v 2) (.lc (.call Fn.law_bent [(.v 0), (.v 1)]) (.v 4) (.range [(.c (.int 5))]) [] [4])) (.lst [(.call Fn.law_odd [(.v 0)])]))])) [some (.lst l), some (.val (.tup fs)), some (.lst C2), none, none] = some (.ret (.val x), [some (.lst l4), some (.val (.tup fs)), some (.lst C2), none, none]) := by
    subst q4
    simp [rg, ll, e2, a1, f1, a2, g1, -List.append_assoc]
  have run : runDef (Ys m) d_law_near [.lst l, .val (.tup fs)] = Ev.fin (asgSs d_law_near.body) [.lst l, .val (.tup fs)] (exSs (Ys m) d_law_near.body [some (.lst l), some (.val (.tup fs)), none, none, none]) := rfl
  have bd : exSs (Ys m) d_law_near.body [some (.lst l), some (.val (.tup fs)), none, none, none] = some (.ret (.val x), [some (.lst l4), some (.val (.tup fs)), some (.lst C2), none, none]) := by
    show exSs (Ys m) [_, _, _, _] _ = _
    rw [k_ss, s1, k_sqN, k_ss, s2, k_sqN, k_ss, s3, k_sqN, k_ss, s4, k_sqR]
  refine ⟨x, l4, ?_, ?_, g3⟩
  · rw [c_law_near, run, bd, k_finR]
    have as : (asgSs d_law_near.body).contains 0 = false := rfl
    simp [as, -List.contains_eq_mem]
  · have hx := List.mem_of_getElem? g2
    rw [← hD] at hx
    simp only [List.mem_append, List.mem_singleton] at hx
    rcases hx with (((hx | hx) | hx) | hx) | hx
    · exact sC x hx
    · exact (near_sm x (List.mem_append_left _ hx)).mono (by decide) (by decide) (by omega)
    · exact (near_sm x (List.mem_append_right _ hx)).mono (by decide) (by decide) (by omega)
    · exact q3 x hx
    · rw [hx]
      exact (odds_sm o f2).mono (by decide) (by decide) (by omega)
theorem smalls_of {b w n : Nat} : ∀ {l : List D}, (∀ d, d ∈ l → Small b w n d) → Smalls b (l.length * (w + 1)) n l
  | [], _ => .nil
  | d :: r, h => by
    have a := Smalls.one (h d List.mem_cons_self)
    have c := smalls_of (l := r) fun x hx => h x (List.mem_cons_of_mem _ hx)
    have e := a.app c
    rw [List.length_cons, Nat.add_mul, Nat.one_mul, Nat.add_comm]
    exact e
theorem tot_le : ∀ {l : List Nat}, (∀ x, x ∈ l → x ≤ 100) → tot l ≤ 100 * l.length
  | [], _ => Int.le_refl 0
  | a :: r, h => by
    have i := tot_le (l := r) fun x hx => h x (List.mem_cons_of_mem _ hx)
    have a1 := h a List.mem_cons_self
    unfold tot at *
    rw [List.map_cons, List.sum_cons, List.length_cons]
    omega
theorem parts_sm {xs : List Nat} (h1 : xs.length ≤ 6) (h2 : ∀ x, x ∈ xs → x ≤ 100) (h3 : 0 < tot xs) : Small 100000000 800 3 (.tup ((partsOf xs).map fr)) := by
  have ht := tot_le h2
  have one : ∀ d, d ∈ (partsOf xs).map fr → Small 100000000 122 1 d := fun d hd => by
    obtain ⟨p, hp, rfl⟩ := List.mem_map.mp hd
    obtain ⟨x, hx, rfl⟩ := List.mem_map.mp (show p ∈ xs.map (fun x : Nat => red (x : Int) (tot xs)) from hp)
    have hx1 := h2 x hx
    obtain ⟨b1, b2⟩ := red_bd (k := 7) (m := 10) (n := (x : Int)) (u := tot xs) (by unfold Bd; omega) (by unfold Bd; omega)
    unfold Bd at b1 b2
    have i1 : Small 100000000 60 0 (.int (red (x : Int) (tot xs)).1) := Small.int (by omega) (by decide) (by decide)
    have i2 : Small 100000000 60 0 (.int (red (x : Int) (tot xs)).2) := Small.int (by omega) (by decide) (by decide)
    exact sm_tup.mpr ((Smalls.one i1).app (Smalls.one i2))
  have s := smalls_of one
  have e : ((partsOf xs).map fr).length = xs.length := by rw [List.length_map]; show (xs.map _).length = _; rw [List.length_map]
  rw [e] at s
  exact (sm_tup.mpr s).mono (Nat.le_refl _) (by omega) (by omega)
def B1 : S := .asg (.v 2) (.call Fn.law_near [(.v 0), (.call Fn.law_parts [(.v 0), (.bin .add (.c (.int 1)) (.call Fn.law_take [(.v 0), (.c (.int 6))]))])])
def B2 : S := .asg (.v 3) (.call Fn.law_of [(.v 0), (.lst [(.c (.int 0)), (.c (.int 1)), (.c (.int 99)), (.c (.int 100)), (.neg (.c (.int 1))), (.c (.bl true)), (.c .non), (.c (.str "3")), (.tup [(.c (.int 3))]), (.call Fn.law_odd [(.v 0)])])])
def B3 : S := .asg (.tup [(.v 4), (.v 5)]) (.hrd (.call Fn.dealt [(.v 2), (.v 3)]))
def B4 : S := .ite (.or (.not (.blt .istuple [(.v 2)])) (.or (.not (.chn .lt .lt (.c (.int 0)) (.blt .len [(.v 2)]) (.c (.int 21)))) (.not (.call Fn.law_are_parts [(.v 2), (.blt .len [(.v 2)])])))) [.ite (.or (.not (.un (.isx 3 [2]) (.v 4))) (.cmp .ne (.un .rpr (.un (.fld "value") (.v 4))) (.un .rpr (.v 2)))) [.ret (.c (.bl false))] []] [.ite (.not (.call Fn.law_is_int [(.v 3), (.c (.int 0)), (.c (.int 99))])) [.ite (.or (.not (.un (.isx 3 [1]) (.v 4))) (.cmp .ne (.un .rpr (.un (.fld "value") (.v 4))) (.un .rpr (.v 3)))) [.ret (.c (.bl false))] []] [.ite (.or (.cmp .isnot (.v 4) (.c .non)) (.cmp .ne (.blt .len [(.v 5)]) (.v 3))) [.ret (.c (.bl false))] []]]
theorem right_is : d_law_right.body = [.for_ (.v 1) (.range [(.c (.int 8))]) [B1, B2, B3, B4], .ret (.c (.bl true))] := rfl
theorem eqD_strs {z : Str} : eqD (.str z) (.str z) = some true := by
  have h : eqv (.str z) (.str z) = true := by simp [eqv]
  unfold eqD
  rw [h]
  rfl
theorem deal_ex {ch : List (Int × Int)} (h : Chs ch) (n : Nat) : ∃ q, deal ch n = some q := by
  obtain ⟨S, xs, o⟩ := over_of (fun c hc => (h.fr c hc).1.1) h.tot
  exact deal_some o n
/-- what is heard is right -/
theorem look_ok {m : Nat} (hm : 12 ≤ m) {l : List D} {x a : D} {o1 : Option T} {o4 o5 : Option T} (sx : Small 200000002 2000 6 x) (sa : Small 100000000 60 2 a) : ∃ p4 p5, exSs (Ys m) [B3, B4] [some (.lst l), o1, some (.val x), some (.val a), o4, o5] = some (.next, [some (.lst l), o1, some (.val x), some (.val a), p4, p5]) := by
  have okx : okD 90 x := small_ok sx (by decide)
  have oka : okD 90 a := small_ok sa (by decide)
  have rx := sx.rpr (by decide) (by decide) (by decide)
  have ra := sa.rpr (by decide) (by decide) (by decide)
  generalize (toQ x).shown = zx at rx
  generalize (toQ a).shown = za at ra
  have ex := eqD_strs (z := zx)
  have ea := eqD_strs (z := za)
  by_cases hg : goodC x = true
  case neg =>
    have hg : goodC x = false := by simpa using hg
    have db := dealt_bad (n := m) (by omega) (a := a) okx hg
    refine ⟨some (.val (.exc 2 x)), some (.val .non), ?_⟩
    cases ht : isTupD x with
    | none =>
      have it : bltD .istuple [x] = some (.val (.bl false)) := by cases x <;> first | rfl | (cases ht; done) | (unfold okD at okx; exact okx.elim)
      simp [B3, B4, db, it, isxD, fldD, rx, ex]
    | some q =>
      have eq : x = .tup q := by cases x <;> first | (cases ht; done) | (cases ht; rfl)
      subst eq
      by_cases hl : 0 < q.length ∧ q.length < 21
      · have pz : (partsD (.tup q) q.length).isSome = false := by
          have := show (decide (0 < q.length ∧ q.length < 21) && (partsD (.tup q) q.length).isSome) = false from hg
          rw [decide_eq_true hl] at this
          exact this
        have lp := law_are_parts_ok (n := m) (by omega) okx (by omega)
        rw [pz] at lp
        have c1 : (q.length : Int) < 21 := by omega
        simp [B3, B4, db, isxD, fldD, rx, ex, lp, tyD, hl.1, hl.2]
        rw [decide_eq_true c1]
        simp [lp, isxD, fldD, rx, ex]
      · by_cases h1 : 0 < q.length
        · have h2 : ¬ q.length < 21 := fun z => hl ⟨h1, z⟩
          have c1 : ¬ (q.length : Int) < 21 := by omega
          simp [B3, B4, db, isxD, fldD, rx, ex, tyD, h1, h2]
          rw [decide_eq_false c1]
          simp [isxD, fldD, rx, ex]
        · have h1' : q.length = 0 := by omega
          simp [B3, B4, db, isxD, fldD, rx, ex, tyD, h1']
  case pos =>
    obtain ⟨q, rfl⟩ : ∃ q, x = .tup q := by
      cases x <;> first | exact ⟨_, rfl⟩ | (cases hg; done)
    obtain ⟨h1, h2⟩ := Bool.and_eq_true_iff.mp (show (decide (0 < q.length ∧ q.length < 21) && (partsD (.tup q) q.length).isSome) = true from hg)
    have hl := of_decide_eq_true h1
    have lp := law_are_parts_ok (n := m) (by omega) okx (by omega)
    rw [h2] at lp
    obtain ⟨ch, eq, hc⟩ := goodC_chs hg okx
    subst eq
    by_cases hn : goodN a = true
    case neg =>
      have hn : goodN a = false := by simpa using hn
      have dn := dealt_num (n := m) (by omega) hc (okD_ty oka) hn
      refine ⟨some (.val (.exc 1 a)), some (.val .non), ?_⟩
      have li : Ev.call pr m Fn.law_is_int [.val a, .val (.int 0), .val (.int 99)] = some (.ok (.val (.bl false)), [.val a, .val (.int 0), .val (.int 99)]) := by
        cases hi : isIntD a with
        | none => exact law_is_int_no (by omega) (okD_ty oka) hi
        | some i =>
          have ei : a = .int i := by cases a <;> first | (cases hi; done) | (cases hi; rfl)
          subst ei
          have w := law_is_int_yes (n := m) (by omega) i 0 99
          rw [show decide (0 ≤ i ∧ i ≤ 99) = false from hn] at w
          exact w
      have hl1 : 0 < ch.length := hc.one
      have hl2 : ch.length < 21 := by have := hc.most; omega
      have c1 : (ch.length : Int) < 21 := by omega
      simp at lp
      simp [B3, B4, dn, isxD, fldD, ra, ea, tyD, hl1, hl2, lp, li]
      rw [decide_eq_true c1]
      simp [lp, li, isxD, fldD, ra, ea]
    case pos =>
      obtain ⟨i, rfl⟩ : ∃ i, a = .int i := by cases a <;> first | exact ⟨_, rfl⟩ | (cases hn; done)
      have hi : 0 ≤ i ∧ i ≤ 99 := of_decide_eq_true (show decide (0 ≤ i ∧ i ≤ 99) = true from hn)
      obtain ⟨k, rfl⟩ : ∃ k : Nat, i = k := ⟨i.toNat, by omega⟩
      obtain ⟨q, hq⟩ := deal_ex hc k
      have dq := dealt_ok (n := m) (by omega) hc (k := k) (by omega) hq
      have lq : (ctD q.2).length = k := by rw [ctD_len]; exact (deal_len hq).2
      have w := law_is_int_yes (n := m) (by omega) (k : Int) 0 99
      rw [decide_eq_true hi] at w
      have hl1 : 0 < ch.length := hc.one
      have hl2 : ch.length < 21 := by have := hc.most; omega
      refine ⟨some (.val .non), some (.val (.tup (ctD q.2))), ?_⟩
      have c1 : (ch.length : Int) < 21 := by omega
      simp at lp
      simp [B3, B4, dq, tyD, hl1, hl2, lp, w, lq]
      rw [decide_eq_true c1]
      simp [lp, w, lq]
theorem rng {k : Nat} (h : k ≤ 1000000) : rangeD [.int (k : Nat)] = some ((List.range k).map fun i => .int (i : Nat)) := by
  show (if decide (-(2 ^ 62) ≤ (k : Int) ∧ (k : Int) ≤ LL) = true then some ((List.range (k : Int).toNat).map fun k => D.int (k : Nat)) else none) = _
  have l : (LL : Int) = 1000000 := by decide
  rw [if_pos (decide_eq_true ⟨by omega, by omega⟩)]
  rfl
def asks : List D := [.int 0, .int 1, .int 99, .int 100, .int (-1), .bl true, .non, .str "3", .tup [.int 3]]
theorem asks_sm : ∀ d, d ∈ asks → Small 100000000 60 2 d := by
  intro d hd
  simp only [asks, List.mem_cons, List.not_mem_nil, or_false] at hd
  rcases hd with rfl | rfl | rfl | rfl | rfl | rfl | rfl | rfl | rfl <;> exact ⟨by decide, by decide, by decide⟩
theorem turn {m : Nat} (hm : 12 ≤ m) {k : Nat} {d : D} {l : List D} (h : PotOk (k + 160) l) {o1 o2 o3 o4 o5 : Option T} :
    ∃ (l' : List D) (p2 p3 p4 p5 : Option T), fS (Ys m) (.v 1) [B1, B2, B3, B4] d [some (.lst l), o1, o2, o3, o4, o5] = some (.next, [some (.lst l'), some (.val d), p2, p3, p4, p5]) ∧ PotOk k l' := by
  obtain ⟨r, l1, e1, r6, p1⟩ := take_spec (n := m) (by omega) (k := k + 152) (h.mono (by omega)) (u := 6) (by decide)
  obtain ⟨xs, l2, e2, x1, x2, x3, p2⟩ := parts_spec (n := m) (by omega) (k := k + 102) (many := 1 + r) (p1.mono (by omega)) (by omega) (by omega)
  have ps := parts_sm (xs := xs) (by omega) x2 x3
  have len : ((partsOf xs).map fr).length = xs.length := by rw [List.length_map]; show (xs.map _).length = _; rw [List.length_map]
  obtain ⟨x, l3, e3, sx, p3⟩ := near_spec (n := m) hm (k := k + 2) (p2.mono (by omega)) ps (by
    intro z
    rw [z] at len
    simp at len
    omega) (fun d hd => by
    obtain ⟨p, _, rfl⟩ := List.mem_map.mp hd
    exact ⟨_, rfl⟩) (by omega)
  obtain ⟨o, l4, e4, o6, p4⟩ := odd_spec (n := m) (by omega) (k := k + 1) (p3.mono (by omega))
  obtain ⟨j, a, l5, e5, a1, p5⟩ := of_spec (n := m) (by omega) (k := k) p4 (d := .lst (asks ++ [o])) (.inl rfl) (by simp)
  have sa : Small 100000000 60 2 a := by
    rcases List.mem_append.mp (List.mem_of_getElem? a1) with q | q
    · exact asks_sm a q
    · have q : a = o := by simpa using q
      rw [q]
      exact odds_sm o o6
  have s1 : exS (Ys m) B1 [some (.lst l), some (.val d), o2, o3, o4, o5] = some (.next, [some (.lst l3), some (.val d), some (.val x), o3, o4, o5]) := by
    have e2 : Ev.call pr m Fn.law_parts [.lst l1, .val (.int (1 + (r : Int)))] = some (.ok (.val (.tup ((partsOf xs).map fr))), [.lst l2, .val (.int (1 + (r : Int)))]) := by
      have := e2
      rw [show ((1 + r : Nat) : Int) = 1 + (r : Int) by omega] at this
      exact this
    generalize (partsOf xs).map fr = fs at e2 e3
    simp [B1, e1, e2, e3]
  have s2 : exS (Ys m) B2 [some (.lst l3), some (.val d), some (.val x), o3, o4, o5] = some (.next, [some (.lst l5), some (.val d), some (.val x), some (.val a), o4, o5]) := by
    unfold asks at e5
    simp only [List.cons_append, List.nil_append] at e5
    simp [B2, e4, e5]
  obtain ⟨u4, u5, e6⟩ := look_ok (m := m) hm (l := l5) (x := x) (a := a) (o1 := some (.val d)) (o4 := o4) (o5 := o5) sx sa
  refine ⟨l5, some (.val x), some (.val a), u4, u5, ?_, p5⟩
  rw [fS_eq]
  show (sqK (exSs (Ys m) [B1, B2, B3, B4]) (some (.next, [some (.lst l), some (.val d), o2, o3, o4, o5]))) = _
  rw [k_sqN, k_ss, s1, k_sqN, k_ss, s2, k_sqN]
  exact e6
theorem right_spec {n : Nat} (hn : 13 ≤ n) {k : Nat} {l : List D} (h : PotOk (k + 1280) l) : ∃ l', Ev.call pr n Fn.law_right [.lst l] = some (.ok (.val (.bl true)), [.lst l']) ∧ PotOk k l' := by
  obtain ⟨m, rfl⟩ := succ_of' (show 1 ≤ n by omega)
  obtain ⟨f, ρ', e, l', o1, o2, o3, o4, o5, q, p⟩ := for_rule (step := fS (Ys m) (.v 1) [B1, B2, B3, B4])
    (fun i ρ => ∃ l2 o1 o2 o3 o4 o5, PotOk (k + 1280 - 160 * i) l2 ∧ ρ = [some (.lst l2), o1, o2, o3, o4, o5]) (fun f ρ => ∃ l2 o1 o2 o3 o4 o5, (f, ρ) = (Fl.next, [some (.lst l2), o1, o2, o3, o4, o5]) ∧ PotOk k l2)
    ((List.range 8).map fun i => .int (i : Nat)) 0 [some (.lst l), none, none, none, none, none] ⟨l, _, _, _, _, _, h, rfl⟩ (fun i d ρ hi ⟨l2, o1, o2, o3, o4, o5, w, e⟩ => by
      have hi8 : i < 8 := by
        have := (List.getElem?_eq_some_iff.mp hi).1
        simpa using this
      subst e
      obtain ⟨l3, p2, p3, p4, p5, e1, w1⟩ := turn (m := m) (by omega) (k := k + 1280 - 160 * (0 + i + 1)) (d := d) (w.mono (by omega)) (o1 := o1) (o2 := o2) (o3 := o3) (o4 := o4) (o5 := o5)
      exact ⟨.next, _, e1, l3, _, _, _, _, _, w1, rfl⟩) (fun ρ ⟨l2, o1, o2, o3, o4, o5, w, e⟩ => ⟨l2, o1, o2, o3, o4, o5, by rw [e], w.mono (by simp)⟩)
  injection q with q1 q2
  subst q1 q2
  have rg : rangeD [.int 8] = some ((List.range 8).map fun i => .int (i : Nat)) := rng (k := 8) (by decide)
  have ll : ((List.range 8).map fun i => D.int (i : Nat)).length ≤ 1000000 := by decide
  generalize (List.range 8).map (fun i => D.int (i : Nat)) = R at e rg ll
  refine ⟨l', ?_, p⟩
  have run : runDef (Ys m) d_law_right [.lst l] = Ev.fin (asgSs d_law_right.body) [.lst l] (exSs (Ys m) d_law_right.body [some (.lst l), none, none, none, none, none]) := rfl
  have as : (asgSs d_law_right.body).contains 0 = false := rfl
  rw [c_law_right, run]
  generalize asgSs d_law_right.body = A at as ⊢
  rw [right_is]
  generalize [B1, B2, B3, B4] = bs at e
  simp [rg, ll, e, as, -List.contains_eq_mem]
def lapBody : List S := [.asg (.v 2) (.call Fn.law_pot [(.v 0), (.v 1)]),
    .ite (.not (.blt .all [(.lc (.call Fn.law_right [(.v 2)]) (.v 3) (.range [(.c (.int 2))]) [] [3])])) [.ret (.c (.bl false))] []]
theorem law_ok (ns : List Int) : ∃ ts', Ev.call pr 20 Fn.law [.val (.scr ns)] = some (.ok (.val (.bl true)), ts') := by
  obtain ⟨j, _, j2, hc⟩ := cells_spec (n := 19) (by omega) (ns := ns) (k := 6) (by omega) (by omega)
  have hc : Ev.call pr 19 Fn.law_cells [.val (.scr ns), .val (.int 6)] = some (.ok (.lst ((List.range j).map fun i => .int (i : Nat))), [.val (.scr ns), .val (.int 6)]) := hc
  obtain ⟨f, ρ', e, o1, o2, q⟩ := for_rule (step := fS (Ys 19) (.v 1) lapBody)
    (fun i ρ => ∃ o1 o2, ρ = [some (.val (.scr ns)), o1, o2, none]) (fun f ρ => ∃ o1 o2, (f, ρ) = (Fl.next, [some (.val (.scr ns)), o1, o2, none]))
    ((List.range j).map fun i => .int (i : Nat)) 0 [some (.val (.scr ns)), none, none, none] ⟨_, _, rfl⟩ (fun i d ρ hi ⟨o1, o2, e⟩ => by
      have hij : i < j := by
        have := (List.getElem?_eq_some_iff.mp hi).1
        simpa using this
      rw [List.getElem?_map, List.getElem?_range hij] at hi
      cases hi
      subst e
      obtain ⟨l, e1, q⟩ := pot_spec (n := 19) (by omega) (ns := ns) (k := i) (by omega)
      obtain ⟨ds, ρ2, e2, l2, q1, q2, q3⟩ := lc_rule (step := lcS (Ys 19) (.call Fn.law_right [(.v 2)]) (.v 3) [] [3])
        (fun t acc ρ => ∃ l2, PotOk (3000 - 1400 * t) l2 ∧ acc = List.replicate t (.bl true) ∧ ρ = [some (.val (.scr ns)), some (.val (.int (i : Nat))), some (.lst l2), none])
        ((List.range 2).map fun i => .int (i : Nat)) 0 [] [some (.val (.scr ns)), some (.val (.int (i : Nat))), some (.lst l), none] ⟨l, q.mono (by decide), rfl, rfl⟩ fun t d acc ρ ht ⟨l2, h1, h2, h3⟩ => by
          have ht3 : t < 2 := by
            have := (List.getElem?_eq_some_iff.mp ht).1
            simpa using this
          rw [Nat.zero_add] at *
          subst h3
          obtain ⟨l3, w1, w2⟩ := right_spec (n := 19) (by omega) (k := 3000 - 1400 * (t + 1)) (h1.mono (by omega))
          refine ⟨some (.bl true), [some (.val (.scr ns)), some (.val (.int (i : Nat))), some (.lst l3), none], ?_, l3, w2, ?_, rfl⟩
          · simp [lcS_eq, w1]
          · rw [h2, List.replicate_succ']
            rfl
      have q2 : ds = [.bl true, .bl true] := by simpa using q2
      subst q2 q3
      have al : bltD .all [.lst [.bl true, .bl true]] = some (.val (.bl true)) := by rfl
      have rg : rangeD [.int 2] = some ((List.range 2).map fun i => .int (i : Nat)) := rng (k := 2) (by decide)
      have ll : ((List.range 2).map fun i => D.int (i : Nat)).length ≤ 1000000 := by decide
      generalize (List.range 2).map (fun i => D.int (i : Nat)) = R at e2 rg ll
      refine ⟨.next, [some (.val (.scr ns)), some (.val (.int (i : Nat))), some (.lst l2), none], ?_, _, _, rfl⟩
      simp [fS_eq, lapBody, e1, rg, ll, e2, al]) (fun ρ ⟨o1, o2, e⟩ => ⟨o1, o2, by rw [e]⟩)
  injection q with q1 q2
  subst q1 q2
  have hLL : j ≤ 1000000 := by omega
  unfold lapBody at e
  refine ⟨[.val (.scr ns)], ?_⟩
  rw [c_law]
  simp [d_law, asgSs, asgS, tgs, hc, hLL, e]
end Lw
theorem PySem.Challenge.cw_evenasks_k47_chances_and_asks_refused_holds : PySem.Challenge.rw_evenasks_k47_chances_and_asks_refused.Holds :=
  law_of (n := 20) (by decide) fun ns _ _ => Lw.law_ok ns
end
