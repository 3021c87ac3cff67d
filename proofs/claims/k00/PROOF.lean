import PyProof.Rows.All
import PySem.Str
import HandS.Base
import HandS.List
import HandS.Text
import PyProof.ReprReads
import HandS.Call
import HandS.Exc
import HandS.ExcOwn
import HandS.ExcInit
import KE.KExcSuper
import KE.KSuper
import HandS.CallSlots
import HandS.Defaults
import HandS.HeadWalk
import HandS.TupAny
import HandS.TupMul
import KE.KRevSl
import PyProof.SeqRoads
import HandS.Wide
import KE.DataEq
import HandS.IsInst
import HandS.Iter
import PyProof.ReprRoads
import PyProof.CallFns
import HandS.ExcField
import HandS.ExcIs
import HandS.Walk
import HandS.Zip
import KE.GoesEnum
import KE.GoesMore
import KE.GoesZip
import HandS.TryOnly
import HandS.Comp
import HandS.Conv
import KE.KExcIs
import HandS.Dict
import KE.DataFind
import HandS.HeadHook1
import HandS.HeadHook2
import HandS.HeadHook3
import HandS.HeadHook4
import HandS.HeadEnd
import HandS.EndTab
import KE.IntBitsLaws
import Lean
import KE.KStateDown
import HandS.Ends
import HandS.More
import HandS.Words
import HandS.WordsExc
import HandS.Head0
import HandS.Head1
import HandS.Head2
import HandS.Head3
import PyProof.ReprLen
import PySem.Challenge.RW_evenasks_k00_errors_keep_their_value
set_option Elab.async false
section
set_option linter.all false
set_option maxRecDepth 100000
/-! The small language: data, own objects, what an expression, a statement, a def comes to. -/
namespace Ev
open PySem

abbrev Key := Sum Int Str

/-- data that nothing changes any more -/
inductive D where
  | non | bl (b : Bool) | int (i : Int) | str (x : Str)
  | tup (l : List D) | lst (l : List D)
  | dic (ks : List Key) (l : List D)
  | ins (c : Nat) (l : List D)
  -- an error of the class c with its value
  | exc (c : Nat) (d : D)
  -- the script
  | scr (l : List Int)
  deriving Inhabited

/-- what a slot holds: data, or an object of its own that may be changed -/
inductive T where
  | val (d : D)
  | lst (l : List D)
  | dic (ks : List Key) (l : List T)
  | ins (c : Nat) (l : List T)
  deriving Inhabited

mutual
def frz : T → D
  | .val d => d
  | .lst l => .lst l
  | .dic ks l => .dic ks (frzs l)
  | .ins c l => .ins c (frzs l)
def frzs : List T → List D
  | [] => []
  | t :: r => frz t :: frzs r
end
def T.isOwn : T → Bool
  | .val _ => false
  | _ => true

abbrev Env := List (Option T)
inductive Res (α : Type) where
  | ok (a : α)
  | err (c : Nat) (d : D)
/-- what a computation comes to: none where nothing is said -/
abbrev Out (α : Type) := Option (Res α × Env)
def bnd {α β : Type} (m : Out α) (k : α → Env → Out β) : Out β := match m with
  | none => none
  | some (.err c d, ρ) => some (.err c d, ρ)
  | some (.ok a, ρ) => k a ρ
def ret {α : Type} (a : α) (ρ : Env) : Out α := some (.ok a, ρ)
/-- a pure step that may not be defined -/
def opt {α β : Type} (o : Option α) (k : α → Out β) : Out β := match o with
  | none => none
  | some a => k a

inductive BinO where
  | add | sub | mul | fdiv | mod | pow
  deriving DecidableEq
inductive CmpO where
  | eq | ne | lt | le | gt | ge | is | isnot | isin | notin
  deriving DecidableEq
inductive Blt where
  | len | abs | int | max | min | sum | all | any | tuple | list | isint | isbool | istuple | isstr
  deriving DecidableEq

/-- a method of a built-in type -/
inductive Mth where
  | count
  deriving DecidableEq

/-- an operation on one value: a field, isinstance of errors, repr -/
inductive Op1 where
  | fld (n : Str)
  | isx (n : Nat) (cs : List Nat)
  | rpr
  -- a tuple from its end
  | rev

/-- a target -/
inductive Tg where
  | v (i : Nat)
  | tup (l : List Tg)

inductive E where
  | c (d : D)
  | g (n : Nat)
  | v (i : Nat)
  | bin (o : BinO) (a b : E)
  | neg (a : E)
  | cmp (o : CmpO) (a b : E)
  | chn (o o' : CmpO) (a b c : E)
  | and (a b : E)
  | or (a b : E)
  | not (a : E)
  | ite (c a b : E)
  | tup (l : List E)
  | lst (l : List E)
  | sub (a i : E)
  | slc (a lo hi : E)
  | call (f : Nat) (l : List E)
  -- of one argument, handed over
  | call1 (f : Nat) (a : E)
  | blt (b : Blt) (l : List E)
  | mth (m : Mth) (a b : E)
  -- an error made; an operation on one value
  | exn (c : Nat) (a : E)
  | un (o : Op1) (a : E)
  | lc (x : E) (g : Tg) (it : E) (ifs : List E) (own : List Nat)
  -- what is walked alone
  | range (l : List E)
  | enum (a : E)
  | zip (a b : E)
  -- list(range(..))
  | lran (l : List E)

inductive S where
  | pass
  | drop (e : E)
  | app (i : Nat) (e : E)
  | asg (g : Tg) (e : E)
  | par (i j : Nat) (a b : E)
  | setI (i : Nat) (k e : E)
  | augI (i : Nat) (k e : E)
  -- an int, plus an int
  | augN (i : Nat) (e : E)
  | ret (e : E)
  | retm (i : Nat)
  | ite (c : E) (a b : List S)
  | for_ (g : Tg) (it : E) (b : List S)
  | while_ (c : E) (b : List S)
  | raise (c : Nat) (e : E)

/-! ### operations on data -/
def LL : Nat := 1000000
def truD : D → Option Bool
  | .non => some false
  | .bl b => some b
  | .int i => some (i != 0)
  | .str x => if x.length ≤ LL then some ((x.length : Int) != 0) else none
  | .tup l => some (!l.isEmpty)
  | .lst l => some (!l.isEmpty)
  | .dic ks _ => some (!ks.isEmpty)
  | .ins _ _ => none
  | .exc _ _ => none
  | .scr _ => none

mutual
def plain : D → Bool
  | .non | .bl _ | .int _ | .str _ => true
  | .tup l | .lst l => plains l
  | _ => false
def plains : List D → Bool
  | [] => true
  | d :: r => plain d && plains r
end
mutual
def depth : D → Nat
  | .tup l | .lst l => depths l + 1
  | _ => 0
def depths : List D → Nat
  | [] => 0
  | d :: r => max (depth d) (depths r)
end
mutual
/-- == of data -/
def eqv : D → D → Bool
  | .non, .non => true
  | .bl a, .bl b => a == b
  | .bl a, .int b => (if a then 1 else 0) == b
  | .int a, .bl b => a == (if b then 1 else 0)
  | .int a, .int b => a == b
  | .str a, .str b => a == b
  | .lst a, .lst b => eqvs a b
  | .tup a, .tup b => eqvs a b
  | _, _ => false
def eqvs : List D → List D → Bool
  | [], [] => true
  | a :: r, b :: s => eqv a b && eqvs r s
  | _, _ => false
end
def eqD (a b : D) : Option Bool := if plain a && plain b && decide (min (depth a) (depth b) ≤ 64) then some (eqv a b) else none

/-- products that the machine makes -/
def mulOk (a b : Int) : Bool := !(decide (Builtin.Int.intBits a > shortFactorBits) && decide (Builtin.Int.intBits b > shortFactorBits) && Builtin.Int.intTooBig (Builtin.Int.intBits a + Builtin.Int.intBits b))
def I63 (k : Int) : Bool := decide (-(2 ^ 63) ≤ k ∧ k < 2 ^ 63)

def binD (o : BinO) (x y : D) : Option T := match o, x, y with
  | .add, .int i, .int j => some (.val (.int (i + j)))
  | .add, .str i, .str j => if i.length + j.length ≤ LL then some (.val (.str (i ++ j))) else none
  | .add, .tup a, .tup b => if a.length + b.length ≤ LL then some (.val (.tup (a ++ b))) else none
  | .add, .lst a, .lst b => if a.length + b.length ≤ LL then some (.lst (a ++ b)) else none
  | .sub, .int i, .int j => some (.val (.int (i - j)))
  | .mul, .int i, .int j => if mulOk i j then some (.val (.int (i * j))) else none
  | .mul, .lst a, .int k => if I63 k && decide (a.length * k.toNat ≤ LL) then some (.lst (List.replicate k.toNat a).flatten) else none
  | .mul, .tup a, .int k => if decide (a ≠ [] ∧ 2 ≤ k ∧ k ≤ 1000 ∧ a.length ≤ 1000) then some (.val (.tup (List.replicate k.toNat a).flatten)) else none
  | .fdiv, .int i, .int j => if decide (j ≠ 0 ∧ Builtin.divisionGoesByPylong i j = false) then some (.val (.int (i.fdiv j))) else none
  | .mod, .int i, .int j => if decide (j ≠ 0) then some (.val (.int (i.fmod j))) else none
  | .pow, .int i, .int j => if decide (0 ≤ j ∧ (Builtin.Int.intBits i : Int) * j ≤ 2 ^ 27) then some (.val (.int (i ^ j.toNat))) else none
  | _, _, _ => none

def inD (x y : D) : Option Bool := match y with
  | .lst l => if plain x && plains l && decide (depth x ≤ 64) then some (l.any fun d => eqv d x) else none
  | .tup l => if plain x && plains l && decide (depth x ≤ 64) then some (l.any fun d => eqv d x) else none
  | .str z => (match x with
    | .str c => if c.length = 1 then some (decide (c.cps.getD 0 0 ∈ z.cps.toList)) else none
    | _ => none)
  | _ => none
def isNon : D → Bool
  | .non => true
  | _ => false
def ints2 (f : Int → Int → Bool) : D → D → Option Bool
  | .int i, .int j => some (f i j)
  | _, _ => none
/-- a tuple of anything beside the empty one -/
def eqE : D → D → Option Bool
  | .tup l, .tup [] => some l.isEmpty
  | _, _ => none
def cmpD (o : CmpO) (x y : D) : Option Bool := match o with
  | .eq => (eqD x y).or (eqE x y)
  | .ne => ((eqD x y).or (eqE x y)).map (!·)
  | .lt => ints2 (fun i j => decide (i < j)) x y
  | .le => ints2 (fun i j => decide (i ≤ j)) x y
  | .gt => ints2 (fun i j => decide (j < i)) x y
  | .ge => ints2 (fun i j => decide (j ≤ i)) x y
  | .is => (match y with | .non => some (isNon x) | _ => none)
  | .isnot => (match y with | .non => some (!isNon x) | _ => none)
  | .isin => inD x y
  | .notin => (inD x y).map (!·)

def subD (x i : D) : Option D := match i with
  | .int k => (match x with
    | .lst l => L2.atI l k
    | .tup l => L2.atI l k
    | .str z => if z.length ≤ LL then (L2.atI z.cps.toList k).map fun c => .str ⟨#[c]⟩ else none
    | .scr l => (L2.atI l k).map .int
    | _ => none)
  | _ => none
def cut {α : Type} (xs : List α) (lo hi : Option Int) : List α := (xs.drop (HT.sIx xs.length 0 lo)).take (HT.sIx xs.length xs.length hi - HT.sIx xs.length 0 lo)
def slcD (x : D) (lo hi : Option Int) : Option T := match x with
  | .lst l => some (.lst (cut l lo hi))
  | .tup l => some (.val (.tup (cut l lo hi)))
  | .str z => if z.length ≤ LL then some (.val (.str (L2.cutS z lo hi))) else none
  | _ => none

/-- all of them ints -/
def intsD : List D → Option (List Int)
  | [] => some []
  | .int i :: r => (intsD r).map (i :: ·)
  | _ :: _ => none
def blsD : List D → Option (List Bool)
  | [] => some []
  | .bl b :: r => (blsD r).map (b :: ·)
  | _ :: _ => none
/-- what type of value -/
def tyD : D → Option Nat
  | .non => some 0
  | .bl _ => some 1
  | .int _ => some 2
  | .str _ => some 3
  | .tup _ => some 4
  | .lst _ => some 5
  | .dic _ _ => some 6
  | _ => none
def bltD (b : Blt) (l : List D) : Option T := match b, l with
  | .len, [.lst l] => some (.val (.int l.length))
  | .len, [.tup l] => some (.val (.int l.length))
  | .len, [.scr l] => some (.val (.int l.length))
  | .len, [.str z] => if z.length ≤ LL then some (.val (.int z.length)) else none
  | .abs, [.int i] => some (.val (.int (if i < 0 then -i else i)))
  | .int, [.int i] => some (.val (.int i))
  | .int, [.bl k] => some (.val (.int (if k then 1 else 0)))
  | .max, [.int i, .int j] => some (.val (.int (if j > i then j else i)))
  | .min, [.int i, .int j] => some (.val (.int (if j < i then j else i)))
  | .sum, [.lst l] => (intsD l).map fun ns => .val (.int ns.sum)
  | .all, [.lst l] => (blsD l).map fun bs => .val (.bl (bs.all id))
  | .any, [.lst l] => (blsD l).map fun bs => .val (.bl (bs.any id))
  | .tuple, [.lst l] => some (.val (.tup l))
  | .tuple, [.tup l] => some (.val (.tup l))
  | .list, [.lst l] => some (.lst l)
  | .list, [.tup l] => some (.lst l)
  | .isint, [d] => (tyD d).map fun n => .val (.bl (n == 1 || n == 2))
  | .isbool, [d] => (tyD d).map fun n => .val (.bl (n == 1))
  | .istuple, [d] => (tyD d).map fun n => .val (.bl (n == 4))
  | .isstr, [d] => (tyD d).map fun n => .val (.bl (n == 3))
  | _, _ => none

/-- the receiver has this method -/
def mthK : Mth → D → Option Nat
  | .count, .tup _ => some 0
  | .count, .lst _ => some 1
  | _, _ => none
def cntD (l : List D) (y : D) : Option T := if plain y && plains l && decide (depth y ≤ 64) then some (.val (.int ((l.countP fun d => eqv d y : Nat) : Int))) else none
def mthD (k : Nat) (x y : D) : Option T := match k, x with
  | 0, .tup l => cntD l y
  | 1, .lst l => cntD l y
  | _, _ => none

/-- a field -/
def fldD (n : Str) : D → Option D
  | .exc _ d => if n = "value" then some d else none
  | _ => none
/-- isinstance: which of the n errors are of that class -/
def isxD (n : Nat) (cs : List Nat) : D → Option Bool
  | .exc c _ => if c < n then some (cs.contains c) else none
  | .non | .bl _ | .int _ | .str _ | .tup _ | .lst _ => some false
  | _ => none

mutual
/-- data as repr reads them -/
def toQ : D → PyData
  | .non => .none
  | .bl b => .bool b
  | .int i => .int i
  | .str x => .str x
  | .tup l => .tuple (toQs l)
  | .lst l => .list (toQs l)
  | .dic _ _ => .dict []
  | _ => .none
def toQs : List D → List PyData
  | [] => []
  | d :: r => toQ d :: toQs r
end
mutual
def showD : D → Bool
  | .non | .bl _ | .str _ => true
  | .int i => decide (i.natAbs.log2 < 1920)
  | .tup l | .lst l => showDs l
  | .dic [] [] => true
  | _ => false
def showDs : List D → Bool
  | [] => true
  | d :: r => showD d && showDs r
end
def rprD (d : D) : Option T := if showD d && decide ((toQ d).depth ≤ 64) && decide ((toQ d).shown.length ≤ LL) then some (.val (.str (toQ d).shown)) else none
def revD : D → Option T
  | .tup l => some (.val (.tup l.reverse))
  | _ => none
def unD (o : Op1) (x : D) : Option T := match o with
  | .rev => revD x
  | .fld n => (fldD n x).map .val
  | .isx n cs => (isxD n cs x).map fun b => .val (.bl b)
  | .rpr => rprD x

/-! ### slots -/
def look (ρ : Env) (i : Nat) : Option T := match ρ[i]? with
  | some (some t) => some t
  | _ => none
/-- slots hidden -/
def hide (ρ : Env) : List Nat → Env
  | [] => ρ
  | i :: r => (hide ρ r).set i none
/-- slots as they were in ρ0 -/
def back (ρ0 ρ : Env) : List Nat → Env
  | [] => ρ
  | i :: r => (back ρ0 ρ r).set i (ρ0.getD i none)
/-- where a value stands that is read soon: no slot, or the object of a slot -/
inductive Pl where
  | tmp (d : D)
  | sl (i : Nat)
def rd (ρ : Env) : Pl → Option D
  | .tmp d => some d
  | .sl i => (look ρ i).map frz
/-- an argument: a value, or the object of a slot -/
inductive Arg where
  | vl (d : D)
  | ln (i : Nat)
def argT (ρ : Env) : Arg → Option T
  | .vl d => some (.val d)
  | .ln i => look ρ i
def argTs (ρ : Env) : List Arg → Option (List T)
  | [] => some []
  | a :: r => match argT ρ a, argTs ρ r with
    | some t, some ts => some (t :: ts)
    | _, _ => none
def lns : List Arg → List Nat
  | [] => []
  | .vl _ :: r => lns r
  | .ln i :: r => i :: lns r
/-- behind a call: the objects of slots as the callee left them -/
def putArgs (ρ : Env) : List Arg → List T → Env
  | .ln i :: r, t :: ts => (putArgs ρ r ts).set i (some t)
  | .vl _ :: r, _ :: ts => putArgs ρ r ts
  | _, _ => ρ
mutual
/-- data to a target -/
def asgD : Tg → D → Env → Option Env
  | .v i, d, ρ => if i < ρ.length then some (ρ.set i (some (.val d))) else none
  | .tup gs, .tup ds, ρ => asgDs gs ds ρ
  | .tup gs, .lst ds, ρ => asgDs gs ds ρ
  | _, _, _ => none
def asgDs : List Tg → List D → Env → Option Env
  | [], [], ρ => some ρ
  | g :: gs, d :: ds, ρ => (match asgD g d ρ with
    | some ρ' => asgDs gs ds ρ'
    | none => none)
  | _, _, _ => none
end
def asgT (g : Tg) (t : T) (ρ : Env) : Option Env := match g with
  | .v i => if i < ρ.length then some (ρ.set i (some t)) else none
  | .tup gs => asgD (.tup gs) (frz t) ρ

/-- a name occurs -/
def occ (i : Nat) : Nat → E → Bool
  | 0, _ => true
  | _ + 1, .c _ => false
  | _ + 1, .g _ => false
  | _ + 1, .v j => i == j
  | n + 1, .bin _ a b => occ i n a || occ i n b
  | n + 1, .neg a => occ i n a
  | n + 1, .cmp _ a b => occ i n a || occ i n b
  | n + 1, .chn _ _ a b c => occ i n a || occ i n b || occ i n c
  | n + 1, .and a b => occ i n a || occ i n b
  | n + 1, .or a b => occ i n a || occ i n b
  | n + 1, .not a => occ i n a
  | n + 1, .ite c a b => occ i n c || occ i n a || occ i n b
  | n + 1, .tup l => l.any (occ i n)
  | n + 1, .lst l => l.any (occ i n)
  | n + 1, .sub a k => occ i n a || occ i n k
  | n + 1, .slc a b c => occ i n a || occ i n b || occ i n c
  | n + 1, .call _ l => l.any (occ i n)
  | n + 1, .call1 _ a => occ i n a
  | n + 1, .blt _ l => l.any (occ i n)
  | n + 1, .mth _ a b => occ i n a || occ i n b
  | n + 1, .exn _ a => occ i n a
  | n + 1, .un _ a => occ i n a
  | n + 1, .lc x _ it ifs _ => occ i n x || occ i n it || ifs.any (occ i n)
  | n + 1, .range l => l.any (occ i n)
  | n + 1, .enum a => occ i n a
  | n + 1, .zip a b => occ i n a || occ i n b
  | n + 1, .lran l => l.any (occ i n)

/-- what the language stands on: the defs, how long a while may run, the module's constants, the defaults behind n arguments -/
structure Sys where
  Γ : Nat → List T → Option (Res T × List T)
  W : Nat
  gl : Nat → D
  dfl : Nat → Nat → List D

def rangeD : List D → Option (List D)
  | [.int j] => if decide (-(2 ^ 62) ≤ j ∧ j ≤ LL) then some ((List.range j.toNat).map fun k => .int (k : Nat)) else none
  | [.int i, .int j] => if decide (-(2 ^ 62) ≤ i ∧ i < 2 ^ 62 ∧ -(2 ^ 62) ≤ j ∧ j < 2 ^ 62 ∧ j - i ≤ LL) then some ((List.range (j - i).toNat).map fun k => .int (i + (k : Nat))) else none
  | _ => none
def itemsD : D → Option (List D)
  | .lst l => some l
  | .tup l => some l
  | .str z => some (z.cps.toList.map fun c => .str ⟨#[c]⟩)
  | _ => none
/-- the items of a list or a tuple alone -/
def seqD : D → Option (List D)
  | .lst l => some l
  | .tup l => some l
  | _ => none
def pairs (l : List D) (k : Nat) : List D := match l with
  | [] => []
  | d :: r => .tup [.int k, d] :: pairs r (k + 1)
def zips : List D → List D → List D
  | a :: r, b :: s => .tup [a, b] :: zips r s
  | _, _ => []
/-- lists, tuples -/
def zipD : D → D → Option (List D)
  | .lst l, .lst m => some (zips l m)
  | .tup l, .tup m => some (zips l m)
  | .lst l, .tup m => some (zips l m)
  | .tup l, .lst m => some (zips l m)
  | _, _ => none

/-- nothing said where an exception would leave -/
def noE {α : Type} (m : Out α) : Out α := match m with
  | some (.err _ _, _) => none
  | o => o
/-- a comprehension's turns -/
def lcLoop (step : D → Env → Out (Option D)) : List D → Env → Out (List D)
  | [], ρ => ret [] ρ
  | d :: r, ρ => bnd (step d ρ) fun o ρ => bnd (lcLoop step r ρ) fun ds ρ => ret (match o with | some x => x :: ds | none => ds) ρ

section
variable (Y : Sys)
/-- behind evaluation frozen -/
def evD (m : Out T) : Out D := bnd m fun t ρ => ret (frz t) ρ
def truT (m : Out T) : Out Bool := bnd m fun t ρ => opt (truD (frz t)) fun b => ret b ρ
/-- a bound of a slice: left out, or an int -/
def evBd (e : E) (m : Env → Out T) (ρ : Env) : Out (Option Int) := match e with
  | .c .non => ret none ρ
  | _ => bnd (m ρ) fun t ρ => (match frz t with
    | .int k => ret (some k) ρ
    | _ => none)
/-- where an expression's value stands -/
def evPl (e : E) (ev : Env → Out T) (ρ : Env) : Out Pl := match e with
  | .v i => (match look ρ i with
    | none => none
    | some (.val d) => ret (.tmp d) ρ
    | some _ => ret (.sl i) ρ)
  | _ => bnd (ev ρ) fun t ρ => ret (.tmp (frz t)) ρ
def evArg (e : E) (ev : Env → Out T) (ρ : Env) : Out Arg := match e with
  | .v i => (match look ρ i with
    | none => none
    | some (.val d) => ret (.vl d) ρ
    | some _ => ret (.ln i) ρ)
  | _ => bnd (ev ρ) fun t ρ => ret (.vl (frz t)) ρ
/-- what is walked: frozen where the body speaks of it -/
def evWk (oc : Nat → Bool) (e : E) (ev : Env → Out T) (ρ : Env) : Out (D × List Nat) := match e with
  | .v i => (match look ρ i with
    | none => none
    | some (.val d) => ret (d, []) ρ
    | some t => if oc i then ret (frz t, []) (ρ.set i (some (.val (frz t)))) else ret (frz t, [i]) ρ)
  | _ => bnd (ev ρ) fun t ρ => ret (frz t, []) ρ
def callT (f : Nat) (as : List Arg) (ρ : Env) : Out T := if (lns as).Nodup then
    opt (argTs ρ as) fun ts => (match Y.Γ f (ts ++ (Y.dfl f ts.length).map .val) with
    | none => none
    | some (r, ts') => if ts'.length = ts.length + (Y.dfl f ts.length).length then some (r, putArgs ρ as ts') else none)
  else none
/-- a call of one argument that is handed over -/
def call1T (f : Nat) (t : T) (ρ : Env) : Out T := match Y.Γ f (t :: (Y.dfl f 1).map .val) with
  | none => none
  | some (r, ts') => if ts'.length = 1 + (Y.dfl f 1).length then some (r, ρ) else none

mutual
def ev : E → Env → Out T
  | .c d, ρ => ret (.val d) ρ
  | .g n, ρ => ret (.val (Y.gl n)) ρ
  | .v i, ρ => (match look ρ i with
    | none => none
    | some (.val d) => ret (.val d) ρ
    | some t => ret (.val (frz t)) (ρ.set i (some (.val (frz t)))))
  | .bin o a b, ρ => bnd (evPl a (ev a) ρ) fun p ρ => bnd (evPl b (ev b) ρ) fun q ρ => opt (rd ρ p) fun x => opt (rd ρ q) fun y => opt (binD o x y) fun t => ret t ρ
  | .neg a, ρ => bnd (evD (ev a ρ)) fun d ρ => (match d with | .int i => ret (.val (.int (-i))) ρ | _ => none)
  | .cmp o a b, ρ => bnd (evPl a (ev a) ρ) fun p ρ => bnd (evPl b (ev b) ρ) fun q ρ => opt (rd ρ p) fun x => opt (rd ρ q) fun y => opt ((cmpD o x y).map fun t => T.val (.bl t)) fun t => ret t ρ
  | .chn o o' a b c, ρ => bnd (evD (ev a ρ)) fun x ρ => bnd (evD (ev b ρ)) fun y ρ => opt (cmpD o x y) fun t => (match t with
    | false => ret (.val (.bl false)) ρ
    | true => bnd (evD (ev c ρ)) fun z ρ => opt (cmpD o' y z) fun t => ret (.val (.bl t)) ρ)
  | .and a b, ρ => bnd (evD (ev a ρ)) fun d ρ => (match d with
    | .bl true => ev b ρ
    | .bl false => ret (.val (.bl false)) ρ
    | _ => none)
  | .or a b, ρ => bnd (evD (ev a ρ)) fun d ρ => (match d with
    | .bl true => ret (.val (.bl true)) ρ
    | .bl false => ev b ρ
    | _ => none)
  | .not a, ρ => bnd (evD (ev a ρ)) fun d ρ => (match d with
    | .bl b => ret (.val (.bl (!b))) ρ
    | _ => none)
  | .ite c a b, ρ => bnd (evT c ρ) fun k ρ => (match k with | true => ev a ρ | false => ev b ρ)
  | .tup l, ρ => bnd (evDs l ρ) fun ds ρ => if ds.length ≤ LL then ret (.val (.tup ds)) ρ else none
  | .lst l, ρ => bnd (evDs l ρ) fun ds ρ => if ds.length ≤ LL then ret (.lst ds) ρ else none
  | .sub a i, ρ => bnd (evPl a (ev a) ρ) fun p ρ => bnd (evD (ev i ρ)) fun k ρ => opt (rd ρ p) fun x => opt (subD x k) fun d => ret (.val d) ρ
  | .slc a lo hi, ρ => bnd (evPl a (ev a) ρ) fun p ρ => bnd (evBd lo (ev lo) ρ) fun l ρ => bnd (evBd hi (ev hi) ρ) fun h ρ => opt (rd ρ p) fun x => opt (slcD x l h) fun t => ret t ρ
  | .call f l, ρ => bnd (evAs l ρ) fun as ρ => callT Y f as ρ
  | .call1 f a, ρ => bnd (ev a ρ) fun t ρ => call1T Y f t ρ
  | .blt b l, ρ => bnd (evPls l ρ) fun ps ρ => opt (ps.mapM (rd ρ)) fun ds => opt (bltD b ds) fun t => ret t ρ
  | .mth m a b, ρ => bnd (evPl a (ev a) ρ) fun p ρ => opt (rd ρ p) fun x0 => opt (mthK m x0) fun k => bnd (evPl b (ev b) ρ) fun q ρ => opt (rd ρ p) fun x => opt (rd ρ q) fun y => opt (mthD k x y) fun t => ret t ρ
  | .exn c a, ρ => bnd (evD (ev a ρ)) fun d ρ => ret (.val (.exc c d)) ρ
  | .un o a, ρ => bnd (evPl a (ev a) ρ) fun p ρ => opt (rd ρ p) fun x => opt (unD o x) fun t => ret t ρ
  | .lc x g it ifs own, ρ => bnd (evIt (fun i => occ i 100 x || ifs.any (occ i 100)) it ρ) fun w ρ1 => if w.1.length ≤ LL then
      bnd (noE (lcLoop (fun d ρ => opt (asgD g d ρ) fun ρ => bnd (evTs ifs ρ) fun b ρ => (match b with
        | true => bnd (evD (ev x ρ)) fun y ρ => ret (some y) (hide ρ own)
        | false => ret none (hide ρ own))) w.1 (hide ρ1 (own ++ w.2)))) fun ds ρ2 => ret (.lst ds) (back ρ1 ρ2 (own ++ w.2))
    else none
  | .lran l, ρ => bnd (evDs l ρ) fun ds ρ => opt (rangeD ds) fun l => ret (.lst l) ρ
  | .range _, _ => none
  | .enum _, _ => none
  | .zip _ _, _ => none
/-- as a test -/
def evT : E → Env → Out Bool
  | .not a, ρ => bnd (evT a ρ) fun b ρ => ret (!b) ρ
  | .and a b, ρ => bnd (evT a ρ) fun k ρ => (match k with | true => evT b ρ | false => ret false ρ)
  | .or a b, ρ => bnd (evT a ρ) fun k ρ => (match k with | true => ret true ρ | false => evT b ρ)
  | .ite c a b, ρ => bnd (evT c ρ) fun k ρ => (match k with | true => evT a ρ | false => evT b ρ)
  | .c d, ρ => truT (ret (.val d) ρ)
  | .g n, ρ => truT (ret (.val (Y.gl n)) ρ)
  | .v i, ρ => bnd (evPl (.v i) (fun _ => none) ρ) fun p ρ => opt (rd ρ p) fun d => opt (truD d) fun b => ret b ρ
  | .bin o a b, ρ => truT (ev (.bin o a b) ρ)
  | .neg a, ρ => truT (ev (.neg a) ρ)
  | .cmp o a b, ρ => truT (ev (.cmp o a b) ρ)
  | .chn o o' a b c, ρ => truT (ev (.chn o o' a b c) ρ)
  | .tup l, ρ => truT (ev (.tup l) ρ)
  | .lst l, ρ => truT (ev (.lst l) ρ)
  | .sub a i, ρ => truT (ev (.sub a i) ρ)
  | .slc a lo hi, ρ => truT (ev (.slc a lo hi) ρ)
  | .call f l, ρ => truT (ev (.call f l) ρ)
  | .call1 f a, ρ => truT (ev (.call1 f a) ρ)
  | .blt b l, ρ => truT (ev (.blt b l) ρ)
  | .mth m a b, ρ => truT (ev (.mth m a b) ρ)
  | .exn c a, ρ => truT (ev (.exn c a) ρ)
  | .un o a, ρ => truT (ev (.un o a) ρ)
  | .lc x g it ifs own, ρ => truT (ev (.lc x g it ifs own) ρ)
  | .lran l, ρ => truT (ev (.lran l) ρ)
  | _, _ => none
def evTs : List E → Env → Out Bool
  | [], ρ => ret true ρ
  | e :: r, ρ => bnd (evT e ρ) fun b ρ => (match b with | true => evTs r ρ | false => ret false ρ)
def evDs : List E → Env → Out (List D)
  | [], ρ => ret [] ρ
  | e :: r, ρ => bnd (evD (ev e ρ)) fun d ρ => bnd (evDs r ρ) fun ds ρ => ret (d :: ds) ρ
def evAs : List E → Env → Out (List Arg)
  | [], ρ => ret [] ρ
  | e :: r, ρ => bnd (evArg e (ev e) ρ) fun d ρ => bnd (evAs r ρ) fun ds ρ => ret (d :: ds) ρ
def evPls : List E → Env → Out (List Pl)
  | [], ρ => ret [] ρ
  | e :: r, ρ => bnd (evPl e (ev e) ρ) fun d ρ => bnd (evPls r ρ) fun ds ρ => ret (d :: ds) ρ
/-- the items that are walked, the slots that are held meanwhile -/
def evIt (oc : Nat → Bool) : E → Env → Out (List D × List Nat)
  | .range l, ρ => bnd (evDs l ρ) fun ds ρ => opt (rangeD ds) fun l => ret (l, []) ρ
  | .enum a, ρ => bnd (evWk oc a (ev a) ρ) fun w ρ => opt (seqD w.1) fun l => ret (pairs l 0, w.2) ρ
  | .zip (.v i) (.v j), ρ => bnd (evWk oc (.v i) (fun _ => none) ρ) fun w ρ => bnd (evWk oc (.v j) (fun _ => none) ρ) fun w' ρ => opt (zipD w.1 w'.1) fun l => ret (l, w.2 ++ w'.2) ρ
  | .zip a b, ρ => bnd (evD (ev a ρ)) fun x ρ => bnd (evD (ev b ρ)) fun y ρ => opt (zipD x y) fun l => ret (l, []) ρ
  | e, ρ => bnd (evWk oc e (ev e) ρ) fun w ρ => opt (itemsD w.1) fun l => ret (l, w.2) ρ
end
end

/-! ### statements -/
inductive Fl where
  | next | brk | cont
  | ret (t : T)
  | err (c : Nat) (d : D)
abbrev SOut := Option (Fl × Env)
def xs {α : Type} (m : Out α) (k : α → Env → SOut) : SOut := match m with
  | none => none
  | some (.err c d, ρ) => some (.err c d, ρ)
  | some (.ok a, ρ) => k a ρ
def opS {α : Type} (o : Option α) (k : α → SOut) : SOut := match o with
  | none => none
  | some a => k a
mutual
def tgs : Tg → List Nat
  | .v i => [i]
  | .tup l => tgss l
def tgss : List Tg → List Nat
  | [] => []
  | g :: r => tgs g ++ tgss r
end
mutual
/-- the names that a statement gives values -/
def asgS : S → List Nat
  | .asg g _ => tgs g
  | .par i j _ _ => [i, j]
  | .augN i _ => [i]
  | .ite _ a b => asgSs a ++ asgSs b
  | .for_ g _ b => tgs g ++ asgSs b
  | .while_ _ b => asgSs b
  | _ => []
def asgSs : List S → List Nat
  | [] => []
  | s :: r => asgS s ++ asgSs r
end
mutual
def occS (i : Nat) : S → Bool
  | .pass => false
  | .drop e => occ i 100 e
  | .app j e => i == j || occ i 100 e
  | .asg g e => (tgs g).contains i || occ i 100 e
  | .par j k a b => i == j || i == k || occ i 100 a || occ i 100 b
  | .setI j k e => i == j || occ i 100 k || occ i 100 e
  | .augI j k e => i == j || occ i 100 k || occ i 100 e
  | .augN j e => i == j || occ i 100 e
  | .ret e => occ i 100 e
  | .retm j => i == j
  | .ite c a b => occ i 100 c || occSs i a || occSs i b
  | .for_ g it b => (tgs g).contains i || occ i 100 it || occSs i b
  | .while_ c b => occ i 100 c || occSs i b
  | .raise _ e => occ i 100 e
def occSs (i : Nat) : List S → Bool
  | [] => false
  | s :: r => occS i s || occSs i r
end
def forLoop (step : D → Env → SOut) : List D → Env → SOut
  | [], ρ => some (.next, ρ)
  | d :: r, ρ => (match step d ρ with
    | some (.next, ρ') => forLoop step r ρ'
    | some (.cont, ρ') => forLoop step r ρ'
    | some (.brk, ρ') => some (.next, ρ')
    | o => o)
def whileLoop (c : Env → Out Bool) (b : Env → SOut) : Nat → Env → SOut
  | 0, _ => none
  | n + 1, ρ => xs (c ρ) fun k ρ => (match k with
    | false => some (.next, ρ)
    | true => (match b ρ with
      | some (.next, ρ') => whileLoop c b n ρ'
      | some (.cont, ρ') => whileLoop c b n ρ'
      | some (.brk, ρ') => some (.next, ρ')
      | o => o))
def setAt (ρ : Env) (i : Nat) (k d : D) : Option Env := match look ρ i, k with
  | some (.lst l), .int k => (match L2.ixN l.length k with
    | some j => some (ρ.set i (some (.lst (l.set j d))))
    | none => none)
  | _, _ => none
section
variable (Y : Sys)
mutual
def exS : S → Env → SOut
  | .pass, ρ => some (.next, ρ)
  | .drop e, ρ => xs (ev Y e ρ) fun _ ρ => some (.next, ρ)
  | .app i e, ρ => (match look ρ i with
    | some (.lst _) => xs (evD (ev Y e ρ)) fun d ρ => (match look ρ i with
      | some (.lst l) => if l.length < LL then some (.next, ρ.set i (some (.lst (l ++ [d])))) else none
      | _ => none)
    | _ => none)
  | .asg g e, ρ => xs (ev Y e ρ) fun t ρ => opS (asgT g t ρ) fun ρ => some (.next, ρ)
  | .par i j a b, ρ => xs (ev Y a ρ) fun s ρ => xs (ev Y b ρ) fun t ρ => if i ≠ j ∧ i < ρ.length ∧ j < ρ.length then some (.next, (ρ.set i (some s)).set j (some t)) else none
  | .setI i k e, ρ => xs (evD (ev Y e ρ)) fun d ρ => (match look ρ i with
    | some (.lst _) => xs (evD (ev Y k ρ)) fun k ρ => opS (setAt ρ i k d) fun ρ => some (.next, ρ)
    | _ => none)
  | .augI i k e, ρ => (match look ρ i with
    | some (.lst _) => xs (evD (ev Y k ρ)) fun k ρ => (match look ρ i, k with
      | some (.lst l), .int k => opS (L2.atI l k) fun x => xs (evD (ev Y e ρ)) fun y ρ => (match x, y with
        | .int x, .int y => opS (setAt ρ i (.int k) (.int (x + y))) fun ρ => some (.next, ρ)
        | _, _ => none)
      | _, _ => none)
    | _ => none)
  | .augN i e, ρ => (match look ρ i with
    | some (.val (.int x)) => xs (evD (ev Y e ρ)) fun y ρ => (match y with
      | .int y => if i < ρ.length then some (.next, ρ.set i (some (.val (.int (x + y))))) else none
      | _ => none)
    | _ => none)
  | .ret e, ρ => xs (ev Y e ρ) fun t ρ => some (.ret t, ρ)
  | .retm i, ρ => opS (look ρ i) fun t => some (.ret t, ρ.set i none)
  | .ite c a b, ρ => xs (evT Y c ρ) fun k ρ => (match k with | true => exSs a ρ | false => exSs b ρ)
  | .for_ g it b, ρ => xs (evIt Y (fun i => occSs i b || (tgs g).contains i) it ρ) fun w ρ1 => if w.1.length ≤ LL ∧ w.2.all (fun i => !(asgSs b).contains i && !(tgs g).contains i) then
      (match forLoop (fun d ρ => opS (asgD g d ρ) fun ρ => exSs b ρ) w.1 (hide ρ1 w.2) with
      | some (f, ρ2) => some (f, back ρ1 ρ2 w.2)
      | none => none)
    else none
  | .while_ c b, ρ => whileLoop (evT Y c) (exSs b) Y.W ρ
  | .raise c e, ρ => xs (evD (ev Y e ρ)) fun d ρ => some (.err c d, ρ)
def exSs : List S → Env → SOut
  | [], ρ => some (.next, ρ)
  | s :: r, ρ => (match exS s ρ with
    | some (.next, ρ') => exSs r ρ'
    | o => o)
end
end

/-! ### defs -/
structure Def where
  np : Nat
  nn : Nat
  body : List S
/-- the arguments behind a call -/
def finals (as : List Nat) (ρ : Env) : List T → Nat → Option (List T)
  | [], _ => some []
  | .val d :: r, k => (finals as ρ r (k + 1)).map (.val d :: ·)
  | _ :: r, k => if as.contains k then none else (match look ρ k, finals as ρ r (k + 1) with
    | some t, some ts => some (t :: ts)
    | _, _ => none)
def runDef (Y : Sys) (d : Def) (ts : List T) : Option (Res T × List T) := if ts.length = d.np then
    (match exSs Y d.body (ts.map some ++ List.replicate (d.nn - d.np) none) with
    | some (.next, ρ) => (finals (asgSs d.body) ρ ts 0).map fun ts' => (.ok (.val .non), ts')
    | some (.ret t, ρ) => (finals (asgSs d.body) ρ ts 0).map fun ts' => (.ok t, ts')
    | some (.err c e, ρ) => (finals (asgSs d.body) ρ ts 0).map fun ts' => (.err c e, ts')
    | _ => none)
  else none
/-- a program: its defs, its constants, the defaults -/
structure Pr where
  ds : Nat → Def
  gl : Nat → D
  dfl : Nat → Nat → List D
def WW : Nat := 2 ^ 200
def call (p : Pr) : Nat → Nat → List T → Option (Res T × List T)
  | 0, _, _ => none
  | n + 1, f, ts => runDef ⟨call p n, WW, p.gl, p.dfl⟩ (p.ds f) ts
end Ev
end

section
set_option linter.all false
set_option maxRecDepth 100000
/-! How data and own objects stand in the abstract heap. -/
namespace Ev
open PySem L2

/-- whose an address is: nobody's here, frozen, or the place p of the tree r (0: what is just made; i + 1: slot i) -/
inductive Own where
  | non | frz | my (r : Nat) (p : List Nat)
abbrev Gh := Addr → Own
def Fz (G : Gh) (H : Hp) : Hp := fun a => match G a with
  | .frz => H a
  | _ => none
theorem Fz.of {G : Gh} {H : Hp} {a : Addr} {o : HO} (h : G a = .frz) (e : H a = some o) : Fz G H a = some o := by
  unfold Fz; rw [h]; exact e
theorem Fz.inv {G : Gh} {H : Hp} {a : Addr} {o : HO} (h : Fz G H a = some o) : G a = .frz ∧ H a = some o := by
  unfold Fz at h
  cases e : G a with
  | frz => rw [e] at h; exact ⟨rfl, h⟩
  | non => rw [e] at h; cases h
  | my r p => rw [e] at h; cases h

/-- the classes -/
structure Cls0 where
  C : Nat → Addr
  fs : Nat → List Str
  X : Nat → Addr

/-- an error of the class at C with its dict at dx, raised before or not -/
def exv (a C dx : Addr) : HO := .ext fun h => ∃ (oe : Obj) (vs : Array Value), h.get? a = some oe ∧ oe.cls = .ref C ∧ oe.dict = some dx ∧ oe.data = .fields vs
theorem exv_ok {P : Program} {w : World} {H : Hp} {h : Heap} {a C dx : Addr} {oe : Obj} {vs : Array Value} (e : h.get? a = some oe) (c : oe.cls = .ref C) (d : oe.dict = some dx) (f : oe.data = .fields vs) : ObjOk P w H h a (exv a C dx) :=
  ⟨⟨oe, vs, e, c, d, f⟩, ⟨oe, e⟩, fun _ _ ⟨o, us, e, r⟩ k => ⟨o, us, k _ e, r⟩⟩
theorem exv_at {P : Program} {w : World} {H : Hp} {h : Heap} {a C dx : Addr} (hok : HOk P w H h) (e : H a = some (exv a C dx)) : ∃ (oe : Obj) (vs : Array Value), h.get? a = some oe ∧ oe.cls = .ref C ∧ oe.dict = some dx ∧ oe.data = .fields vs := by
  have z : ObjOk P w H h a (.ext fun h => ∃ (oe : Obj) (vs : Array Value), h.get? a = some oe ∧ oe.cls = .ref C ∧ oe.dict = some dx ∧ oe.data = .fields vs) := hok a _ e
  exact z.1

/-- a tuple that has no dict of its own -/
def TpM (K : PySem.W.Frag) (F : Hp) (a : Addr) (vs : List V) : Prop := (∃ o, F a = some (.frz o (.tup vs)) ∧ o.cls = .type "tuple" ∧ o.dict = none) ∨
  ∃ (o : Obj) (its : Array Value) (n : Nat), K.lookup a = some o ∧ o.cls = .type "tuple" ∧ o.dict = none ∧ o.data = .seq its n ∧ its.size ≤ sizeLine ∧ Vals vs its.toList
theorem TpM.sq {K : PySem.W.Frag} {F : Hp} {a : Addr} {vs : List V} (h : TpM K F a vs) : SqT K F a vs := h.elim (fun ⟨o, q, _⟩ => .inl (.inr ⟨o, q⟩)) fun ⟨o, its, n, q1, q2, _, q3, q4, q5⟩ => .inr ⟨o, its, n, q1, q2, q3, q4, q5⟩
section
variable (K : PySem.W.Frag) (B : Cls0)
mutual
inductive Rep (F : Hp) : V → D → Prop
  | non : Rep F .non .non
  | bl (b : Bool) : Rep F (.bl b) (.bl b)
  | int (i : Int) : Rep F (.int i) (.int i)
  | str (x : Str) : Rep F (.str x) (.str x)
  | tup {a : Addr} {vs : List V} {ds : List D} : TpM K F a vs → Reps F vs ds → Rep F (.ref a) (.tup ds)
  | lst {a : Addr} {vs : List V} {ds : List D} : F a = some (.lst vs) → Reps F vs ds → Rep F (.ref a) (.lst ds)
  | scr {a : Addr} {l : List Int} : SqL K F a (l.map V.int) → Rep F (.ref a) (.scr l)
  | dic {a : Addr} {ks : List Key} {vs : List V} {ds : List D} : F a = some (.dK (ks.zip vs)) → ks.length = vs.length → Reps F vs ds → Rep F (.ref a) (.dic ks ds)
  | ins {a dx : Addr} {c : Nat} {vs : List V} {ds : List D} : F a = some (.ins (B.C c) dx ((B.fs c).zip vs)) → vs.length ≤ (B.fs c).length → Reps F vs ds → Rep F (.ref a) (.ins c ds)
  | exc {a dx : Addr} {c : Nat} {v : V} {d : D} : F a = some (exv a (B.X c) dx) → F dx = some (exd dx [("value", v)]) → Rep F v d → Rep F (.ref a) (.exc c d)
inductive Reps (F : Hp) : List V → List D → Prop
  | nil : Reps F [] []
  | cons {v : V} {vs : List V} {d : D} {ds : List D} : Rep F v d → Reps F vs ds → Reps F (v :: vs) (d :: ds)
end
mutual
inductive RepT (G : Gh) (H : Hp) (r : Nat) : List Nat → V → T → Prop
  | val {p : List Nat} {v : V} {d : D} : Rep K B (Fz G H) v d → RepT G H r p v (.val d)
  | lst {p : List Nat} {a : Addr} {vs : List V} {ds : List D} : G a = .my r p → H a = some (.lst vs) → Reps K B (Fz G H) vs ds → RepT G H r p (.ref a) (.lst ds)
  | dic {p : List Nat} {a : Addr} {ks : List Key} {vs : List V} {ts : List T} : G a = .my r p → H a = some (.dK (ks.zip vs)) → ks.length = vs.length → RepTs G H r p 0 vs ts → RepT G H r p (.ref a) (.dic ks ts)
  | ins {p : List Nat} {a dx : Addr} {c : Nat} {vs : List V} {ts : List T} : G a = .my r p → H a = some (.ins (B.C c) dx ((B.fs c).zip vs)) → vs.length ≤ (B.fs c).length → RepTs G H r p 0 vs ts → RepT G H r p (.ref a) (.ins c ts)
inductive RepTs (G : Gh) (H : Hp) (r : Nat) : List Nat → Nat → List V → List T → Prop
  | nil {p : List Nat} {k : Nat} : RepTs G H r p k [] []
  | cons {p : List Nat} {k : Nat} {v : V} {vs : List V} {t : T} {ts : List T} : RepT G H r (k :: p) v t → RepTs G H r p (k + 1) vs ts → RepTs G H r p k (v :: vs) (t :: ts)
end
end

section
variable {K : PySem.W.Frag} {B : Cls0} {F F' H H' H1 H2 : Hp} {G G' G1 G2 : Gh} {σ : L2.St} {ρ ρ' : Env}
def Sub (F F' : Hp) : Prop := ∀ a o, F a = some o → F' a = some o
theorem Sub.seqL (h : Sub F F') {a : Addr} {xs : List V} (q : SqL K F a xs) : SqL K F' a xs := by
  rcases q with (q | ⟨o, q⟩) | q
  · exact .inl (.inl (h _ _ q))
  · exact .inl (.inr ⟨o, h _ _ q⟩)
  · exact .inr q
theorem Sub.seqT (h : Sub F F') {a : Addr} {xs : List V} (q : SqT K F a xs) : SqT K F' a xs := by
  rcases q with (q | ⟨o, q⟩) | q
  · exact .inl (.inl (h _ _ q))
  · exact .inl (.inr ⟨o, h _ _ q⟩)
  · exact .inr q
theorem Sub.tpM (h : Sub F F') {a : Addr} {xs : List V} (q : TpM K F a xs) : TpM K F' a xs := q.elim (fun ⟨o, q⟩ => .inl ⟨o, h _ _ q.1, q.2⟩) .inr
mutual
theorem Rep.mono (h : Sub F F') : ∀ {v : V} {d : D}, Rep K B F v d → Rep K B F' v d
  | _, _, .non => .non
  | _, _, .bl b => .bl b
  | _, _, .int i => .int i
  | _, _, .str x => .str x
  | _, _, .tup a r => .tup (h.tpM a) (Reps.mono h r)
  | _, _, .lst a r => .lst (h _ _ a) (Reps.mono h r)
  | _, _, .scr a => .scr (h.seqL a)
  | _, _, .dic a l r => .dic (h _ _ a) l (Reps.mono h r)
  | _, _, .ins a l r => .ins (h _ _ a) l (Reps.mono h r)
  | _, _, .exc a b r => .exc (h _ _ a) (h _ _ b) (Rep.mono h r)
theorem Reps.mono (h : Sub F F') : ∀ {vs : List V} {ds : List D}, Reps K B F vs ds → Reps K B F' vs ds
  | _, _, .nil => .nil
  | _, _, .cons a r => .cons (Rep.mono h a) (Reps.mono h r)
end
theorem Reps.length : ∀ {vs : List V} {ds : List D}, Reps K B F vs ds → vs.length = ds.length
  | _, _, .nil => rfl
  | _, _, .cons _ r => congrArg Nat.succ (Reps.length r)
theorem Reps.get : ∀ {vs : List V} {ds : List D} {i : Nat} {d : D}, Reps K B F vs ds → ds[i]? = some d → ∃ v, vs[i]? = some v ∧ Rep K B F v d
  | _, _, _, _, .nil, e => by simp at e
  | _, _, 0, _, .cons a _, e => by
    have e2 := Option.some.inj e
    subst e2
    exact ⟨_, rfl, a⟩
  | _, _, i + 1, d, .cons _ r, e => Reps.get (i := i) r e
theorem Reps.getV : ∀ {vs : List V} {ds : List D} {i : Nat} {v : V}, Reps K B F vs ds → vs[i]? = some v → ∃ d, ds[i]? = some d ∧ Rep K B F v d
  | _, _, _, _, .nil, e => by simp at e
  | _, _, 0, _, .cons a _, e => by
    have e2 := Option.some.inj e
    subst e2
    exact ⟨_, rfl, a⟩
  | _, _, i + 1, d, .cons _ r, e => Reps.getV (i := i) r e
theorem Reps.append : ∀ {vs ws : List V} {ds es : List D}, Reps K B F vs ds → Reps K B F ws es → Reps K B F (vs ++ ws) (ds ++ es)
  | _, _, _, _, .nil, s => s
  | _, _, _, _, .cons a r, s => .cons a (Reps.append r s)
theorem Reps.reverse {vs : List V} {ds : List D} (h : Reps K B F vs ds) : Reps K B F vs.reverse ds.reverse := by
  suffices H : ∀ (n : Nat) {vs : List V} {ds : List D}, vs.length = n → Reps K B F vs ds → Reps K B F vs.reverse ds.reverse from H _ rfl h
  intro n
  induction n with
  | zero => intro vs ds e r; cases r with
    | nil => exact .nil
    | cons _ _ => cases e
  | succ n ih => intro vs ds e r; cases r with
    | nil => cases e
    | cons a r =>
      rw [List.reverse_cons, List.reverse_cons]
      exact Reps.append (ih (Nat.succ.inj e) r) (.cons a .nil)
theorem Reps.take : ∀ {vs : List V} {ds : List D} (n : Nat), Reps K B F vs ds → Reps K B F (vs.take n) (ds.take n)
  | _, _, 0, _ => .nil
  | _, _, _ + 1, .nil => .nil
  | _, _, n + 1, .cons a r => .cons a (Reps.take n r)
theorem Reps.drop : ∀ {vs : List V} {ds : List D} (n : Nat), Reps K B F vs ds → Reps K B F (vs.drop n) (ds.drop n)
  | _, _, 0, r => r
  | _, _, _ + 1, .nil => .nil
  | _, _, n + 1, .cons _ r => Reps.drop n r
theorem Reps.set {v : V} {d : D} (a : Rep K B F v d) : ∀ {vs : List V} {ds : List D} (n : Nat), Reps K B F vs ds → Reps K B F (vs.set n v) (ds.set n d)
  | _, _, _, .nil => .nil
  | _, _, 0, .cons _ r => .cons a r
  | _, _, n + 1, .cons b r => .cons b (Reps.set a n r)
theorem Reps.rep {vs : List V} {ds : List D} (h : Reps K B F vs ds) : ∀ k : Nat, Reps K B F (List.replicate k vs).flatten (List.replicate k ds).flatten
  | 0 => .nil
  | k + 1 => by
    rw [List.replicate_succ, List.replicate_succ, List.flatten_cons, List.flatten_cons]
    exact h.append (Reps.rep h k)
mutual
/-- a tree of its own, read -/
theorem RepT.read {r : Nat} (hz : ∀ a o, H a = some o → G a = .frz → F a = some o) (hl : ∀ a o p, H a = some o → G a = .my r p → F a = some o) : ∀ {p : List Nat} {v : V} {t : T}, RepT K B G H r p v t → Rep K B F v (frz t)
  | _, _, _, .val x => x.mono fun a o e => hz a o (Fz.inv e).2 (Fz.inv e).1
  | _, _, _, .lst g h x => .lst (hl _ _ _ h g) (x.mono fun a o e => hz a o (Fz.inv e).2 (Fz.inv e).1)
  | _, _, _, .dic g h l x => .dic (hl _ _ _ h g) l (RepTs.read hz hl x)
  | _, _, _, .ins g h l x => .ins (hl _ _ _ h g) l (RepTs.read hz hl x)
theorem RepTs.read {r : Nat} (hz : ∀ a o, H a = some o → G a = .frz → F a = some o) (hl : ∀ a o p, H a = some o → G a = .my r p → F a = some o) : ∀ {p : List Nat} {k : Nat} {vs : List V} {ts : List T}, RepTs K B G H r p k vs ts → Reps K B F vs (frzs ts)
  | _, _, _, _, .nil => .nil
  | _, _, _, _, .cons a b => .cons (RepT.read hz hl a) (RepTs.read hz hl b)
end
mutual
/-- a tree of its own stays, perhaps under another name -/
theorem RepT.stay {r r' : Nat} (hz : ∀ a o, H a = some o → G a = .frz → H' a = some o ∧ G' a = .frz) (hl : ∀ a o p, H a = some o → G a = .my r p → H' a = some o ∧ G' a = .my r' p) : ∀ {p : List Nat} {v : V} {t : T}, RepT K B G H r p v t → RepT K B G' H' r' p v t
  | _, _, _, .val x => .val (x.mono fun a o e => by
      have q := hz a o (Fz.inv e).2 (Fz.inv e).1
      exact Fz.of q.2 q.1)
  | _, _, _, .lst g h x => .lst (hl _ _ _ h g).2 (hl _ _ _ h g).1 (x.mono fun a o e => by
      have q := hz a o (Fz.inv e).2 (Fz.inv e).1
      exact Fz.of q.2 q.1)
  | _, _, _, .dic g h l x => .dic (hl _ _ _ h g).2 (hl _ _ _ h g).1 l (RepTs.stay hz hl x)
  | _, _, _, .ins g h l x => .ins (hl _ _ _ h g).2 (hl _ _ _ h g).1 l (RepTs.stay hz hl x)
theorem RepTs.stay {r r' : Nat} (hz : ∀ a o, H a = some o → G a = .frz → H' a = some o ∧ G' a = .frz) (hl : ∀ a o p, H a = some o → G a = .my r p → H' a = some o ∧ G' a = .my r' p) : ∀ {p : List Nat} {k : Nat} {vs : List V} {ts : List T}, RepTs K B G H r p k vs ts → RepTs K B G' H' r' p k vs ts
  | _, _, _, _, .nil => .nil
  | _, _, _, _, .cons a b => .cons (RepT.stay hz hl a) (RepTs.stay hz hl b)
end

/-! ### the state of a def -/
structure Sta (K : PySem.W.Frag) (B : Cls0) (G : Gh) (ρ : Env) (σ : L2.St) (H : Hp) : Prop where
  len : ρ.length = σ.length
  slot : ∀ i t, look ρ i = some t → ∃ v, σ[i]? = some (some v) ∧ RepT K B G H (i + 1) [] v t
  fresh : ∀ a, H a = none → G a = .non
/-- what is frozen stays, what is nobody's here stays -/
def Nx (G : Gh) (H : Hp) (G' : Gh) (H' : Hp) : Prop := ∀ a o, H a = some o → (G a = .frz → H' a = some o ∧ G' a = .frz) ∧ (G a = .non → H' a = some o ∧ G' a = .non)
theorem Nx.refl : Nx G H G H := fun _ _ e => ⟨fun g => ⟨e, g⟩, fun g => ⟨e, g⟩⟩
theorem Nx.trans (a : Nx G H G1 H1) (b : Nx G1 H1 G2 H2) : Nx G H G2 H2 := fun x o e => ⟨fun g => by
    obtain ⟨e1, g1⟩ := (a x o e).1 g
    exact (b x o e1).1 g1, fun g => by
    obtain ⟨e1, g1⟩ := (a x o e).2 g
    exact (b x o e1).2 g1⟩
theorem Nx.frz (n : Nx G H G' H') : Sub (Fz G H) (Fz G' H') := fun a o e => by
  obtain ⟨g, h⟩ := Fz.inv e
  obtain ⟨h', g'⟩ := (n a o h).1 g
  exact Fz.of g' h'
theorem Nx.rep (n : Nx G H G' H') {v : V} {d : D} (r : Rep K B (Fz G H) v d) : Rep K B (Fz G' H') v d := r.mono n.frz
theorem Nx.reps (n : Nx G H G' H') {vs : List V} {ds : List D} (r : Reps K B (Fz G H) vs ds) : Reps K B (Fz G' H') vs ds := r.mono n.frz
theorem Fz.sub : Sub (Fz G H) H := fun _ _ e => (Fz.inv e).2
theorem look_lt {i : Nat} {t : T} (h : look ρ i = some t) : i < ρ.length := by
  unfold look at h
  cases e : ρ[i]? with
  | none => rw [e] at h; cases h
  | some o => exact (List.getElem?_eq_some_iff.mp e).1
theorem look_set_ne {i j : Nat} {o : Option T} (h : i ≠ j) : look (ρ.set i o) j = look ρ j := by
  unfold look
  rw [List.getElem?_set_ne h]
theorem look_set_none {i : Nat} : look (ρ.set i none) i = none := by
  unfold look
  by_cases h : i < ρ.length
  · rw [List.getElem?_set_self h]
  · rw [List.getElem?_eq_none (by rw [List.length_set]; omega)]
theorem look_set_self {i : Nat} {t : T} (h : i < ρ.length) : look (ρ.set i (some t)) i = some t := by
  unfold look
  rw [List.getElem?_set_self h]
theorem look_set_some {i : Nat} {t t' : T} (h : look (ρ.set i (some t)) i = some t') : t' = t := by
  have hl := look_lt h
  rw [List.length_set] at hl
  rw [look_set_self hl] at h
  exact (Option.some.inj h).symm

/-! ### changes of names alone -/
/-- the tree r is frozen -/
def gFrz (r : Nat) (G : Gh) : Gh := fun a => match G a with
  | .my q p => if q = r then .frz else .my q p
  | o => o
theorem gFrz_frz {r : Nat} {a : Addr} (h : G a = .frz) : gFrz r G a = .frz := by unfold gFrz; rw [h]
theorem gFrz_non {r : Nat} {a : Addr} (h : G a = .non) : gFrz r G a = .non := by unfold gFrz; rw [h]
theorem gFrz_at {r : Nat} {a : Addr} {p : List Nat} (h : G a = .my r p) : gFrz r G a = .frz := by unfold gFrz; rw [h]; simp
theorem gFrz_ne {r q : Nat} {a : Addr} {p : List Nat} (h : G a = .my q p) (n : q ≠ r) : gFrz r G a = .my q p := by unfold gFrz; rw [h]; simp [n]
theorem Nx.gFrz {r : Nat} : Nx G H (gFrz r G) H := fun a o e => ⟨fun g => ⟨e, gFrz_frz g⟩, fun g => ⟨e, gFrz_non g⟩⟩
/-- the tree r becomes the tree r', what was r' is let go -/
def gMv (r r' : Nat) (G : Gh) : Gh := fun a => match G a with
  | .my q p => if q = r then .my r' p else if q = r' then .non else .my q p
  | o => o
theorem gMv_frz {r r' : Nat} {a : Addr} (h : G a = .frz) : gMv r r' G a = .frz := by unfold gMv; rw [h]
theorem gMv_non {r r' : Nat} {a : Addr} (h : G a = .non) : gMv r r' G a = .non := by unfold gMv; rw [h]
theorem gMv_at {r r' : Nat} {a : Addr} {p : List Nat} (h : G a = .my r p) : gMv r r' G a = .my r' p := by unfold gMv; rw [h]; simp
theorem gMv_ne {r r' q : Nat} {a : Addr} {p : List Nat} (h : G a = .my q p) (n : q ≠ r) (n' : q ≠ r') : gMv r r' G a = .my q p := by unfold gMv; rw [h]; simp [n, n']
theorem Nx.gMv {r r' : Nat} : Nx G H (gMv r r' G) H := fun a o e => ⟨fun g => ⟨e, gMv_frz g⟩, fun g => ⟨e, gMv_non g⟩⟩
/-- names under which nothing is known here -/
def gHid (s : Nat → Bool) (G : Gh) : Gh := fun a => match G a with
  | .my q p => if s q then .non else .my q p
  | o => o
theorem gHid_frz {s : Nat → Bool} {a : Addr} (h : G a = .frz) : gHid s G a = .frz := by unfold gHid; rw [h]
theorem gHid_non {s : Nat → Bool} {a : Addr} (h : G a = .non) : gHid s G a = .non := by unfold gHid; rw [h]
theorem gHid_at {s : Nat → Bool} {q : Nat} {a : Addr} {p : List Nat} (h : G a = .my q p) (n : s q = true) : gHid s G a = .non := by unfold gHid; rw [h]; simp [n]
theorem gHid_ne {s : Nat → Bool} {q : Nat} {a : Addr} {p : List Nat} (h : G a = .my q p) (n : s q = false) : gHid s G a = .my q p := by unfold gHid; rw [h]; simp [n]
theorem Nx.gHid {s : Nat → Bool} : Nx G H (gHid s G) H := fun a o e => ⟨fun g => ⟨e, gHid_frz g⟩, fun g => ⟨e, gHid_non g⟩⟩
/-- the hidden names come back -/
def gBack (s : Nat → Bool) (G0 G : Gh) : Gh := fun a => match G0 a with
  | .my q p => if s q then .my q p else G a
  | _ => G a
theorem gBack_at {s : Nat → Bool} {G0 : Gh} {q : Nat} {a : Addr} {p : List Nat} (h : G0 a = .my q p) (n : s q = true) : gBack s G0 G a = .my q p := by unfold gBack; rw [h]; simp [n]
theorem gBack_ne {s : Nat → Bool} {G0 : Gh} {a : Addr} (h : ∀ q p, G0 a = .my q p → s q = false) : gBack s G0 G a = G a := by
  unfold gBack
  cases e : G0 a with
  | non => rfl
  | frz => rfl
  | my q p => simp [h q p e]

/-! ### what the state becomes -/
/-- an object laid: it is nobody's yet in H -/
theorem Sta.keep (S : Sta K B G ρ σ H) (hz : ∀ a o, H a = some o → G a = .frz → H' a = some o ∧ G' a = .frz) (hl : ∀ i a o p, (look ρ i).isSome → H a = some o → G a = .my (i + 1) p → H' a = some o ∧ G' a = .my (i + 1) p) (hf : ∀ a, H' a = none → G' a = .non) : Sta K B G' ρ σ H' :=
  ⟨S.len, fun i t e => by
    obtain ⟨v, hv, r⟩ := S.slot i t e
    exact ⟨v, hv, r.stay hz fun a o p => hl i a o p (by rw [e]; rfl)⟩, hf⟩
/-- fewer slots known -/
theorem Sta.less (S : Sta K B G ρ σ H) (hl : ρ'.length = ρ.length) (h : ∀ i t, look ρ' i = some t → look ρ i = some t) : Sta K B G ρ' σ H :=
  ⟨hl.trans S.len, fun i t e => S.slot i t (h i t e), S.fresh⟩
end

/-- a new object at p, whose it is -/
def gNew (p : Addr) (w : Own) (G : Gh) : Gh := fun a => if a = p then w else G a
section
variable {K : PySem.W.Frag} {B : Cls0} {F F' H H' H1 H2 : Hp} {G G' G1 G2 : Gh} {σ : L2.St} {ρ ρ' : Env}
theorem gNew_same {p : Addr} {w : Own} : gNew p w G p = w := by unfold gNew; rw [if_pos rfl]
theorem gNew_ne {p a : Addr} {w : Own} (h : a ≠ p) : gNew p w G a = G a := by unfold gNew; rw [if_neg h]
theorem new_ne {p a : Addr} {o : HO} (h : H p = none) (e : H a = some o) : a ≠ p := ne_of_none e h
theorem Nx.new {p : Addr} {o : HO} {w : Own} (h : H p = none) : Nx G H (gNew p w G) (upd H p o) := fun a u e => by
  have n := new_ne h e
  rw [upd_ne n, gNew_ne n]
  exact ⟨fun g => ⟨e, g⟩, fun g => ⟨e, g⟩⟩
theorem Sta.new (S : Sta K B G ρ σ H) {p : Addr} {o : HO} {w : Own} (h : H p = none) : Sta K B (gNew p w G) ρ σ (upd H p o) :=
  S.keep (fun a u e g => by
      have n := new_ne h e
      rw [upd_ne n, gNew_ne n]
      exact ⟨e, g⟩) (fun i a u p _ e g => by
      have n := new_ne h e
      rw [upd_ne n, gNew_ne n]
      exact ⟨e, g⟩) (fun a e => by
      have n : a ≠ p := fun z => by
        rw [z, upd_same] at e
        cases e
      rw [upd_ne n] at e
      rw [gNew_ne n]
      exact S.fresh a e)
theorem Sta.frzTmp (S : Sta K B G ρ σ H) : Sta K B (gFrz 0 G) ρ σ H :=
  S.keep (fun a u e g => ⟨e, gFrz_frz g⟩) (fun i a u p _ e g => ⟨e, gFrz_ne g (Nat.succ_ne_zero i)⟩) fun a e => gFrz_non (S.fresh a e)
theorem RepT.frzd {r : Nat} {p : List Nat} {v : V} {t : T} (R : RepT K B G H r p v t) : Rep K B (Fz (gFrz r G) H) v (frz t) :=
  R.read (fun a o e g => Fz.of (gFrz_frz g) e) fun a o p e g => Fz.of (gFrz_at g) e
/-- a slot is frozen -/
theorem Sta.frzSlot (S : Sta K B G ρ σ H) {i : Nat} {t : T} (h : look ρ i = some t) : Sta K B (gFrz (i + 1) G) (ρ.set i (some (.val (frz t)))) σ H where
  len := by rw [List.length_set]; exact S.len
  slot := fun j t' e => by
    by_cases hj : i = j
    · subst hj
      obtain ⟨v, hv, r⟩ := S.slot i t h
      have e2 := look_set_some e
      subst e2
      exact ⟨v, hv, .val r.frzd⟩
    · rw [look_set_ne hj] at e
      obtain ⟨v, hv, r⟩ := S.slot j t' e
      exact ⟨v, hv, r.stay (fun a u e g => ⟨e, gFrz_frz g⟩) fun a u p e g => ⟨e, gFrz_ne g (fun z => hj (by omega))⟩⟩
  fresh := fun a e => gFrz_non (S.fresh a e)
/-- what is just made goes to slot i -/
theorem Sta.store (S : Sta K B G ρ σ H) {i : Nat} {v : V} {t : T} (hi : i < ρ.length) (R : RepT K B G H 0 [] v t) : Sta K B (gMv 0 (i + 1) G) (ρ.set i (some t)) (σ.set i (some v)) H where
  len := by rw [List.length_set, List.length_set]; exact S.len
  slot := fun j t' e => by
    by_cases hj : i = j
    · subst hj
      have e2 := look_set_some e
      subst e2
      refine ⟨v, by rw [List.getElem?_set_self (by rw [← S.len]; exact hi)], R.stay (fun a u e g => ⟨e, gMv_frz g⟩) fun a u p e g => ⟨e, gMv_at g⟩⟩
    · rw [look_set_ne hj] at e
      obtain ⟨w, hv, r⟩ := S.slot j t' e
      exact ⟨w, by rw [List.getElem?_set_ne hj]; exact hv, r.stay (fun a u e g => ⟨e, gMv_frz g⟩) fun a u p e g => ⟨e, gMv_ne g (Nat.succ_ne_zero j) (fun z => hj (by omega))⟩⟩
  fresh := fun a e => gMv_non (S.fresh a e)
/-- data go to slot i; what stood there is let go -/
theorem Sta.storeD (S : Sta K B G ρ σ H) {i : Nat} {v : V} {d : D} (R : Rep K B (Fz G H) v d) : ∃ G', Nx G H G' H ∧ Nx G' H G H ∧ Sta K B G' (ρ.set i (some (.val d))) (σ.set i (some v)) H := by
  refine ⟨G, Nx.refl, Nx.refl, ?_, fun j t' e => ?_, S.fresh⟩
  · rw [List.length_set, List.length_set]; exact S.len
  · by_cases hj : i = j
    · subst hj
      have hl := look_lt e
      rw [List.length_set] at hl
      have e2 := look_set_some e
      subst e2
      exact ⟨v, by rw [List.getElem?_set_self (by rw [← S.len]; exact hl)], .val R⟩
    · rw [look_set_ne hj] at e
      obtain ⟨w, hv, r⟩ := S.slot j t' e
      exact ⟨w, by rw [List.getElem?_set_ne hj]; exact hv, r⟩
end
end Ev
end

section
set_option linter.all false
set_option maxRecDepth 100000
set_option maxHeartbeats 4000000
/-! An own error's __init__ that says super().__init__(value), self.value = value. -/
namespace Ev
open PySem L2 PySem.Spec PyProof.Rows PySem.Calls
/-- what the written part tells of the class C, whose __init__ stands in the class at D -/
structure AskC (K : PySem.W.Frag) (D C : Addr) : Prop where
  ox : OexC K C
  sup : PySem.W.ks_superIn K C D "__init__" = some (some (.builtin "ValueError.__init__"))
  val : PySem.W.subIn K (.ref C) (.type "ValueError") = some true
  mro : PySem.W.mroIn K C (.ref D) = some true
  ini : PySem.W.excInitIn K C [.type "ValueError", .type "Exception", .type "BaseException", .type "object"] "ValueError.__new__" = true
  fld : PySem.W.findIn K (.ref C) "value" = some none
/-- what it tells of the __init__ at f: its def, its code object at cda, its cell at cc -/
structure AskI (P : Program) (K : PySem.W.Frag) (D f cc cda : Addr) (qual : Str) (fd : FuncData) : Prop where
  lk : ∃ oc od osl, K.lookup f = some ⟨oc, od, .func fd, osl⟩
  cd : PySem.W.codeIn K (.ref cda) qual = true
  hd : (fd.params.posonlyargs ++ fd.params.args).head?.map (·.arg) = some "self"
  cod : ∃ ccl cdd vs ccs file tf, K.lookup cda = some ⟨ccl, cdd, .fields vs, ccs⟩ ∧ vs[2]? = some (.str file tf) ∧ ((P.main.file : Str) == file) = true
  cel : ∃ cl cld csl, K.lookup cc = some ⟨cl, cld, .cell (some (.ref D)), csl⟩
  cls : (PySem.W.clsIn K D).isSome = true
  sup : PySem.W.nsIn K mainGlobals "super" = some none
  top : (P.main.scope.names.lookup ("super" : Str)).isSome = false
  sta : PySem.W.nsIn K cStatics "thirdparty.any" = some none
/-- the promise: the error at a gets its dict -/
def spAsk (K : PySem.W.Frag) (D : Addr) : Sp := fun vs H Q _ => ∃ (a C : Addr) (y : V), vs = [.ref a, y] ∧ AskC K D C ∧ H a = some (exo a C none) ∧ ∀ d, H d = none → d ≠ a → Q .non (upd (upd H d (exd d [("value", y)])) a (exo a C (some d)))
theorem ne_of_new {h : Heap} {L b : Addr} {o : Obj} (hL : h.objs.size ≤ L) (e : h.get? b = some o) : b ≠ L := Nat.ne_of_lt (Nat.lt_of_lt_of_le (Heap.lt_size e) hL)
theorem boot_super : bootBuiltins "super" = some (.type "super") := by first | rfl | kernel_rfl | decide +kernel
/-- the heap behind: a has its dict at dx -/
theorem ask_end {P : Program} {w : World} {fs : List Addr} {H : Hp} {h h5 : Heap} {a C dx t4 : Addr} {y : V} {u : Value} (ok : HOk P w H h) (ea : H a = some (exo a C none)) (nd : H dx = none) (nw : ∀ b o, h.get? b = some o → b ≠ dx)
    (kk : ∀ b o, b ≠ a → h.get? b = some o → h5.get? b = some o) (hx : h5.get? a = some { cls := .ref C, dict := some dx, data := .fields #[.ref t4, .none, .none, .none, .bool false, .none] })
    (hn : h5.Ns1 dx fun x => if x = "value" then some u else none) (ry : L2.RelV y u) :
    Un fs [] H (upd (upd H dx (exd dx [("value", y)])) a (exo a C (some dx))) h h5 ∧ HOk P w (upd (upd H dx (exd dx [("value", y)])) a (exo a C (some dx))) h5 := by
  generalize hH : upd (upd H dx (exd dx [("value", y)])) a (exo a C (some dx)) = H'
  have atA : H' a = some (exo a C (some dx)) := by rw [← hH]; exact upd_same
  have off : ∀ b, H b = none → b ≠ a := fun b n z => by
    subst z
    rw [ea] at n
    cases n
  have atD : H' dx = some (exd dx [("value", y)]) := by rw [← hH, upd_ne (off dx nd)]; exact upd_same
  have els : ∀ b, b ≠ a → b ≠ dx → H' b = H b := fun b h1 h2 => by rw [← hH, upd_ne h1, upd_ne h2]
  have same : ∀ {b : Addr} {v : HO}, H b = some v → v ≠ exo a C none → H' b = some v := fun {b v} e n => by
    have h1 : b ≠ a := fun z => n (by rw [z, ea] at e; exact (Option.some.inj e).symm)
    have h2 : b ≠ dx := fun z => by
      rw [z, nd] at e
      cases e
    rw [els b h1 h2]
    exact e
  constructor
  · refine ⟨fun b o e n _ _ => kk b o (off b n) e, fun b o e n _ _ => ⟨o.slots, kk b o (off b n) e⟩, fun b o e n _ => (els b (off b n) (nw b o e)).trans n, fun b o e _ => ?_, fun b vs e => same e (Ne.symm exo_tup), fun b o v e => same e (Ne.symm exo_frz), fun b ps e => ⟨#[], (same e (Ne.symm exo_tbl)).trans (by simp)⟩⟩
    by_cases z : b = a
    · subst z
      exact ⟨_, hx⟩
    · exact ⟨o, kk b o z e⟩
  · intro b v e
    by_cases z : b = a
    · subst z
      cases atA.symm.trans e
      exact exo_ok hx
    by_cases z' : b = dx
    · subst z'
      cases atD.symm.trans e
      exact exd_ok hn fun g => relO_put (fs := []) (mA := fun _ => none) ry (fun _ => trivial) g
    · have e' : H b = some v := (els b z z').symm.trans e
      refine (ok b v e').stay (fun c o hc q => kk c o (fun zc => ?_) q) (fun c hc => same hc (Ne.symm exo_own)) fun c vs hc => same hc (Ne.symm exo_tup)
      rcases hc with hc | hc
      · exact z (hc.symm.trans zc)
      · rw [zc, ea] at hc
        exact exo_own (Option.some.inj hc)
section
variable {P : Program} {w : World} {K : PySem.W.Frag} {mg : Str → Option Value} {base : Heap} {CX : CXT} {D f cc cda : Addr} {qual : Str} {params : Arguments} {scope : Scope} {dV kV doc pm ct : Value} {an : Option Addr} {p0 p1 p2 p3 p4 p5 p6 p7 ap cp : Pos}
abbrev askBody (p0 p1 ap p2 cp p3 p4 p5 p6 p7 : Pos) : List Stmt := [.Expr (.Call (.Attribute (.Call (.Name "super" p0) [] [] p1) "__init__" ap) [.Name "value" p2] [] cp) p3, .Assign [.Attribute (.Name "self" p4) "value" p5] (.Name "value" p6) p7]
theorem ask_ok (I : AskI P K D f cc cda qual (PySem.W.ksFn "__init__" qual params (askBody p0 p1 ap p2 cp p3 p4 p5 p6 p7) scope dV kV doc pm an (.ref cda) ct cc))
    (hks : scope.names.lookup ("super" : Str) = some .globalImplicit) (hkc : scope.names.lookup ("__class__" : Str) = some .free) (hk1 : scope.names.lookup ("self" : Str) = some .local) (hk2 : scope.names.lookup ("value" : Str) = some .local)
    {pl : Addr → Sem Bool} (hev : ∀ L, eval (.Call (.Attribute (.Call (.Name "super" p0) [] [] p1) "__init__" ap) [.Name "value" p2] [] cp) (PySem.W.ksEnv qual scope L f (.ref cda) cc) = (do
      let ov ← attributeBase (.Call (.Name "super" p0) [] [] p1) "__init__" (PySem.W.ksEnv qual scope L f (.ref cda) cc) (eval (.Call (.Name "super" p0) [] [] p1) (PySem.W.ksEnv qual scope L f (.ref cda) cc))
      standAt ap.atName
      let (g, first) ← holding [ov] (getMethod ov "__init__" (pl L))
      callWith cp g first (backTo cp (starEach [.Name "value" p2] (PySem.W.ksEnv qual scope L f (.ref cda) cc))) []))
    (hcell : ∀ x ∈ scope.names, x.2 ≠ .cell) (hco : scope.isCoroutine = false) (hgen : scope.isGenerator = false) (hk : scope.kind = .function) :
    FnOk P w K mg base CX 1 f (PySem.W.ksFn "__init__" qual params (askBody p0 p1 ap p2 cp p3 p4 p5 p6 p7) scope dV kV doc pm an (.ref cda) ct cc) ["self", "value"] (spAsk K D) where
  len := fun vs H Q E ⟨a, C, y, e, _⟩ => by rw [e]; rfl
  run := fun A outer s H args us vs Q E hr e0 hb r hs => by
    obtain ⟨a, C, y, rfl, T, ea, q⟩ := hs
    obtain ⟨u, rfl, ry⟩ : ∃ u, us = [.ref a, u] ∧ RelV y u := by
      match us, r with
      | [_, u], .cons ra (.cons ry .nil) => cases ra; exact ⟨u, rfl, ry⟩
    obtain ⟨oc, od, osl, lk⟩ := I.lk
    obtain ⟨ccl, cdd, vs, ccs, file, tf, lkc, hvs, hfile⟩ := I.cod
    obtain ⟨cl, cld, csl, lkcell⟩ := I.cel
    obtain ⟨cdD, hD⟩ := Option.isSome_iff_exists.mp I.cls
    have bk : ∀ b o, base.get? b = some o → s.heap.get? b = some o := fun b o e => (e0.bs b o e).1
    have KX : K.In s.heap := e0.mod.kin.keeps bk
    have lim : s.heap.NoLimit := e0.mod.nolimit.keeps bk
    obtain ⟨t1, hoa⟩ := exo_at e0.hok ea
    obtain ⟨cdC, hcC⟩ : ∃ cd, PySem.W.clsIn K C = some cd := by
      obtain ⟨cd, h1, _⟩ := Option.bind_eq_some_iff.mp T.mro
      exact ⟨cd, h1⟩
    have IC : ∀ {h : Heap} {o : Obj} {d : Option Addr} {t : Addr}, o = PySem.W.excObj C t d .none → h.get? a = some o → d = none → PySem.W.InstAt h a o C none := fun eo e ed => by
      subst eo ed
      exact ⟨e, rfl, rfl, trivial⟩
    refine PySem.ks_codeAny_call_defAt (fd := PySem.W.ksFn "__init__" qual params (askBody p0 p1 ap p2 cp p3 p4 p5 p6 p7) scope dV kV doc pm an (.ref cda) ct cc) (body := askBody p0 p1 ap p2 cp p3 p4 p5 p6 p7) (binds := ([("self" : Str), "value"]).zip [.ref a, u]) hr.depth (KX _ _ lk) rfl lim (PySem.W.codeRec_of KX I.cd) rfl hb hcell ?_ (fun h₁ hns hk₁ => ?_) hco hgen hk
    · intro x hx
      simp only [List.zip_cons_cons, List.zip_nil_right, List.mem_cons, List.not_mem_nil, or_false] at hx
      rcases hx with rfl | rfl
      · exact hk1
      · exact hk2
    -- the frame
    have hL : ∀ {b : Addr} {o : Obj}, s.heap.get? b = some o → b ≠ s.heap.objs.size := fun e => Nat.ne_of_lt (Heap.lt_size e)
    have F : Fr (s.heap.hide a) s.heap.objs.size h₁ (fun x => (([("self" : Str), "value"]).zip [Value.ref a, u]).reverse.lookup x) := ⟨hns, fun b o e => hk₁ b o (Heap.of_hide e), Nat.le_of_eq (Heap.hide_size _ _)⟩
    have N : News (s.heap.hide a) s.heap.objs.size h₁ [(a, PySem.W.excObj C t1 none .none)] := fun p hp => by
      rw [List.mem_singleton.mp hp]
      exact ⟨hk₁ _ _ hoa, hL hoa, Heap.hide_self _ _⟩
    have na : ∀ b o, base.get? b = some o → b ≠ a := fun b o e z => by
      have := (e0.bs b o e).2
      rw [z, ea] at this
      cases this
    have kb : ∀ {h : Heap} {m : Str → Option Value}, Fr (s.heap.hide a) s.heap.objs.size h m → ∀ b o, base.get? b = some o → h.get? b = some o := fun F b o e => F.keep b o (by rw [Heap.hide_ne _ (na b o e)]; exact bk b o e)
    have X0 : K.In (s.heap.hide a) := e0.mod.kin.keeps fun b o e => by rw [Heap.hide_ne _ (na b o e)]; exact bk b o e
    generalize hm : (fun x => (([("self" : Str), "value"]).zip [Value.ref a, u]).reverse.lookup x) = m at F
    have m1 : m "self" = some (.ref a) := by rw [← hm]; rfl
    have m2 : m "value" = some u := by rw [← hm]; rfl
    obtain ⟨ar, har, ear⟩ : ∃ ar, (params.posonlyargs ++ params.args).head? = some ar ∧ ar.arg = "self" := by
      obtain ⟨ar, h1, h2⟩ := Option.map_eq_some_iff.mp I.hd
      exact ⟨ar, h1, h2⟩
    refine ks_wpAt_execs_cons (ks_wpAt_Expr_any (ks_wpAt_MethodCall (he := hev _) ?_) (by show (scope.kind == .module && _) = false; rw [hk]; rfl) (by rfl))
    have X1 := X0.keeps F.keep
    refine ks_wpAt_super_base hks hkc (by decide) rfl (X1 _ _ lk) rfl har rfl (X1 _ _ lkc) rfl hvs hfile I.top ?_
    obtain ⟨mb, nb, hmb⟩ := e0.mod.blt
    have mgS : mg "super" = none := PySem.W.mg_none_of e0.mod.kin e0.mod.glob I.sup
    refine PySem.W.ks_loadName_global hk hks (loadGlobal_builtin (e0.mod.glob.keeps (kb F)) mgS (nb.keeps (kb F)) ((hmb _ (by decide)).trans boot_super) ⟨rfl, ?_⟩)
    refine wpAny_loadName_free (v := .ref D) hk hkc rfl ⟨_, X1 _ _ lkcell, rfl⟩ ?_
    rw [ear]
    refine wpAny_loadName_local hk hk1 F.ns m1 ?_
    obtain ⟨oD, hD1, hD2⟩ : ∃ oD, h₁.get? D = some oD ∧ oD.data = .cls cdD := by
      unfold PySem.W.clsIn at hD
      split at hD
      · rename_i c d cd' sl ho
        cases hD
        exact ⟨_, X1 _ _ ho, rfl⟩
      · cases hD
    refine ks_wpAny_isType_cls hD1 hD2 ⟨rfl, ?_⟩
    have hoa1 := hk₁ _ _ hoa
    refine ks_wpAny_call_super hD1 hD2 hoa1 rfl (fun c e => nomatch e) (PySem.W.looks_mroIn X1 T.mro) (fun h2 e2 k2 => ?_)
    obtain ⟨F2, N2, l2⟩ := PySem.W.ks_newsPush (s := { s with heap := h₁, toks := s.toks + (([("self" : Str), "value"]).zip [Value.ref a, u]).length }) (o := PySem.W.ks_superObj D a C) F N rfl e2 k2
    have lt1 := l2 _ (List.mem_singleton.mpr rfl)
    refine PySem.W.kxs_method PySem.W.kxs_ValueError F2 X0 N2 List.mem_cons_self (ox := PySem.W.excObj C t1 none .none) (odx := none) ⟨k2 _ _ hoa1, rfl, rfl, trivial⟩ I.sta T.sup T.val (by decide) (fun q3 h3 F3 N3 l3 => ?_)
    have lt2 := l3 _ (List.mem_cons_of_mem _ (List.mem_singleton.mpr rfl))
    have lt3 := l3 _ List.mem_cons_self
    refine PySem.W.kxs_callWith1 N3 List.mem_cons_self (Calls.spliced_cons (wpAny_Name (wpAny_loadName_local hk hk2 F3.ns m2 ?_))) (by rfl) (by rfl)
    refine Calls.spliced_nil ⟨PySem.W.kxs_at N3 List.mem_cons_self, ?_⟩
    refine PySem.W.kxs_call F3 X0 N3 PySem.F.excBase_ValueError T.ini List.mem_cons_self (.tail (by show q3 ≠ a; exact Nat.ne_of_gt lt2) (.tail (by show h₁.objs.size ≠ a; exact Nat.ne_of_gt lt1) (.head fun p hp => nomatch hp))) (by show 1 ≤ sizeLine; rw [sizeLine_eq]; omega) (fun t4 h4 F4 N4 l4 => ?_)
    have X4 := X0.keeps F4.keep
    have hx4 : h4.get? a = some (PySem.W.excObj C t4 none .none) := (N4 (a, _) (by simp)).1
    obtain ⟨nm, qn, NN, bs, bm, sn, sub, ab, col, dd, k0, k1, k2', k3, k5, hC, hbm⟩ := T.ox.cls
    have hcl : PySem.W.clsIn K C = some { name := nm, bases := bs, mro := .ref C :: bm, ns := NN, qualname := qn, hasDict := true, slotNames := sn, subclasses := sub, abstract := ab, collection := col, hasDel := false } := by unfold PySem.W.clsIn; rw [hC] <;> rfl
    refine ks_wpAt_execs_cons (ks_wpAt_Assign_Attr (wpAt_of_wpAny (wpAny_Name (wpAny_loadName_local hk hk2 F4.ns m2 (wpAny_Name (wpAny_loadName_local hk hk1 F4.ns m1 ?_))))) (by rfl))
    refine PySem.W.set_plain X4 (ox := PySem.W.excObj C t4 none .none) (od := none) ⟨hx4, rfl, rfl, trivial⟩ T.ox.sa ?_
    refine PySem.HandSPX.exc_osa X4 hx4 hcl (show PySem.HandSPX.refsVE (.ref C :: bm) = true from hbm) rfl T.fld (fun h5 tk5 dx k5' dn dne hx5 hn5 => ?_)
    have kk : ∀ b o, b ≠ a → s.heap.get? b = some o → h5.get? b = some o := fun b o hb e => k5' b o hb (F4.keep b o (by rw [Heap.hide_ne _ hb]; exact e))
    have hsz : s.heap.objs.size ≤ dx := by
      obtain ⟨oL, _, _, eL, _⟩ := F4.ns
      have z := Heap.lt_size (show h4.get? s.heap.objs.size = some oL from eL)
      exact Nat.le_of_lt (Nat.lt_of_lt_of_le z (show h4.objs.size ≤ dx from dn))
    have hnd : H dx = none := e0.hok.fresh hsz
    obtain ⟨un, ok⟩ := ask_end (P := P) (w := w) (fs := frs outer) e0.hok ea hnd (fun b o e => ne_of_new hsz e) kk hx5 hn5 ry
    refine wpAt_of_wpAny (wpAny_execs_nil ?_)
    exact ⟨.non, _, rfl, e0.bare, un, ok, rfl, q dx hnd dne⟩
end
end Ev
end

section
set_option linter.all false
set_option maxRecDepth 100000
set_option maxHeartbeats 4000000
/-! Defs called where no repr runs: the promise of a def under that condition, its calls, its proof, the law's end. -/
namespace Ev
open PySem L2 PySem.Spec PyProof.Rows
/-- a def keeps its promise wherever no repr runs -/
structure FnG (P : Program) (w : World) (K : PySem.W.Frag) (mg : Str → Option Value) (base : Heap) (CX : CXT) (k : Nat) (f : Addr) (fd : FuncData) (ps : List Str) (sp : Sp) : Prop where
  len : ∀ vs H Q E, sp vs H Q E → vs.length = ps.length
  run : ∀ (A : Around) (outer : List PySem.Env) (s : Shared) (H : Hp) (args : Args) (us : List Value) (vs : List V) (Q : VK) (E : XK), A.guards = some [] → Room k A → Env0 P w K mg base A outer s H → BindsTo s fd args (ps.zip us) → Vals vs us → sp vs H Q E →
    codeAny (model P w) A (PySem.Code.call (.ref f) args) (CR CX outer P w H s Q E) s
section
variable {X : Cx} {CX : CXT} {k : Nat} {f : Addr} {fd : FuncData} {ps : List Str} {sp : Sp} {dvs : List V} {ds : List Value} {E : L2.St → XK} {x : Str} {p pos : Pos} {e : Expr} {es : List Expr} {t : TA}
theorem g_run {pins : List (Addr × Obj)} {σ : L2.St} {H : Hp} {s : Shared} {Q : VK} {us : List Value} {vs : List V} (F : FnG X.prog X.w X.K X.mg X.base CX k f fd ps sp) (g : X.A.guards = some []) (hr : Room k X.A) (hb : Binds X.K fd ps ds) (hd : Vals dvs ds) (hx : PassesAt CX X σ (E σ)) (I : L2.Inv X pins σ H s) (rv : Vals vs us) (hs : sp (vs ++ dvs) H Q (E σ)) :
    wpAny (model X.prog X.w) X.A (PySem.call (.ref f) us) (EP X pins σ Q) X.xe s := by
  have all := rv.append hd
  have bt := hb s us I.kIn (all.length.symm.trans (F.len _ _ _ _ hs))
  have cr := F.run X.A X.stack s H ⟨us, []⟩ _ _ Q (E σ) g hr I.env0 bt all hs
  refine wpAny_call (codeAny_mono cr fun r s' => ?_)
  match r with
  | .error ex => exact fun q => hx pins H s ex s' I q
  | .ok (.ret u) => exact fun q => I.after q
  | .ok .next => exact fun q => False.elim q
  | .ok .brk => exact fun q => False.elim q
  | .ok .cont => exact fun q => False.elim q
theorem pe_callG (F : FnG X.prog X.w X.K X.mg X.base CX k f fd ps sp) (g : X.A.guards = some []) (hr : Room k X.A) (hg : Gl X x) (hm : X.mg x = some (.ref f)) (hk : PySem.W.keepIn X.K (.ref f) = true) (hb : Binds X.K fd ps ds) (hd : Vals dvs ds) (hx : ∀ σ, PassesAt CX X σ (E σ)) (ha : PA X (e :: es) t)
    (hdb : (x == ("__debug__" : Str)) = false) (he : starEach (e :: es) X.env = (false, eval e X.env) :: starEach es X.env) (hpl : (backTo pos (starEach es X.env)).any (·.1) = false) : PE X (.Call (.Name x p) (e :: es) [] pos) (tCallSD sp dvs E t) := by
  constructor
  intro pins s σ H Q I h
  apply wpAny_Call_Name_kw
  apply ld_glob I hg hm (hd := hdb)
  refine PySem.W.callWith_K I.ok.mod.kin hk (thn (ha.run pos pins s σ H _ I h) fun us s1 w => ?_) he hpl
  obtain ⟨vs, H1, I1, rv, q⟩ := w
  exact ⟨I1.kIn, g_run F g hr hb hd (hx σ) I1 rv q⟩
theorem pe_call0G (F : FnG X.prog X.w X.K X.mg X.base CX k f fd ps sp) (g : X.A.guards = some []) (hr : Room k X.A) (hg : Gl X x) (hm : X.mg x = some (.ref f)) (hk : PySem.W.keepIn X.K (.ref f) = true) (hb : Binds X.K fd ps ds) (hd : Vals dvs ds) (hx : ∀ σ, PassesAt CX X σ (E σ))
    (hdb : (x == ("__debug__" : Str)) = false) : PE X (.Call (.Name x p) [] [] pos) (tCallSD sp dvs E tNil) := by
  constructor
  intro pins s σ H Q I h
  apply wpAny_Call_Name_kw
  apply ld_glob I hg hm (hd := hdb)
  exact PySem.W.callWith_K0 I.kIn hk (g_run (us := []) F g hr hb hd (hx σ) I .nil h)
end
section
variable {P : Program} {w : World} {K : PySem.W.Frag} {mg : Str → Option Value} {base : Heap} {x qual : Str} {params : Arguments} {body : List Stmt} {scope : Scope} {dvs : List V} {kws : List (Str × V)} {f : Addr} {fd : FuncData}
/-- from the body's walk to the promise -/
theorem g_ok {CX : CXT} {N ps : List Str} {k : Nat} {sp : Sp} (F : FunD K x qual params body scope dvs kws f fd) (S : FnScope N ps scope) (len : ∀ vs H Q E, sp vs H Q E → vs.length = ps.length)
    (hbody : ∀ (cdv : Value) (A : Around) (outer : List PySem.Env) (s : Shared) (H : Hp) (vs : List V) (Q : VK) (E : XK), A.guards = some [] → Room k (A.deeper (envOfC qual scope s.heap.objs.size f cdv)) → sp vs H Q E →
      ∃ t, PSs (cxOf CX P w K mg base N qual scope f cdv A outer s H E) body t ∧ t { nx := fun _ H' => Q .non H', rt := Q } (L2.start N vs) H) : FnG P w K mg base CX (k + 1) f fd ps sp := by
  obtain ⟨_, _, _, _, _, _, _, code, _, _, rfl, look, rec, _, _⟩ := F.ex
  refine ⟨len, fun A outer s H args us vs Q E g hr e0 hb rv hs => ?_⟩
  exact LamX.run_ofS look rec S hr e0 hb rv (len _ _ _ _ hs) fun hr' => hbody code A outer s H vs Q E g hr' hs
end
/-! ### the law's end -/
abbrev tb0 : Obj := { cls := .none, data := .fields #[] }
section
variable {P : Program} {w : World} {K : PySem.W.Frag} {mg mb : Str → Option Value} {cs : List (Addr × Addr)} {a : Addr} {h : Heap} {vs : List Value} {ns : List Int}
/-- the abstract heap at the entry: the tables, and the script if it isn't of the written part -/
def H0 (K : PySem.W.Frag) (cs : List (Addr × Addr)) (a : Addr) (vs : List Value) (ns : List Int) : Hp := fun b => if b ∈ cs.map (·.2) then some (.tbl #[]) else if b = a ∧ K.lookup a = none then some (.frz { cls := .type "list", data := .seq vs.toArray } (.lst (ns.map V.int))) else none
/-- what is tracked is a table or the script -/
theorem H0_inv {b : Addr} {o : HO} (e : H0 K cs a vs ns b = some o) : (b ∈ cs.map (·.2) ∧ o = .tbl #[]) ∨ (b = a ∧ K.lookup a = none ∧ o = .frz { cls := .type "list", data := .seq vs.toArray } (.lst (ns.map V.int))) := by
  unfold H0 at e
  split at e
  · rename_i z
    exact .inl ⟨z, (Option.some.inj e).symm⟩
  · split at e
    · rename_i z
      exact .inr ⟨z.1, z.2, (Option.some.inj e).symm⟩
    · cases e
theorem H0_tab {p : Addr × Addr} (hp : p ∈ cs) : H0 K cs a vs ns p.2 = some (.tbl #[]) := if_pos (List.mem_map.mpr ⟨p, hp, rfl⟩)
theorem tab_at (hT : ∀ p ∈ cs, h.get? p.2 = some tb0) {b : Addr} (hb : b ∈ cs.map (·.2)) : h.get? b = some tb0 := by
  obtain ⟨p, hp, rfl⟩ := List.mem_map.mp hb
  exact hT p hp
/-- what is neither a table nor the script is not tracked -/
theorem H0_free (hT : ∀ p ∈ cs, h.get? p.2 = some tb0) {b : Addr} {o : Obj} (e : h.get? b = some o) (h1 : o.data ≠ .fields #[]) (h2 : b ≠ a ∨ K.lookup a ≠ none) : H0 K cs a vs ns b = none := by
  cases q : H0 K cs a vs ns b with
  | none => rfl
  | some u =>
    rcases H0_inv q with ⟨z, _⟩ | ⟨z, z2, _⟩
    · rw [tab_at hT z] at e
      cases e
      exact (h1 rfl).elim
    · rcases h2 with h2 | h2
      · exact (h2 z).elim
      · exact (h2 z2).elim
theorem H0_ok (hT : ∀ p ∈ cs, h.get? p.2 = some tb0) (ha : h.get? a = some { cls := .type "list", data := .seq vs.toArray }) (rv : Vals (ns.map V.int) vs) (hl : ns.length ≤ sizeLine) : HOk P w (H0 K cs a vs ns) h := fun b u e => by
  rcases H0_inv e with ⟨z, rfl⟩ | ⟨rfl, _, rfl⟩
  · exact tab_at hT z
  · exact ⟨ha, by rw [List.length_map]; exact hl, vs, _, rv, ha⟩
theorem H0_scr (hT : ∀ p ∈ cs, h.get? p.2 = some tb0) (KX : K.In h) (ha : h.get? a = some { cls := .type "list", data := .seq vs.toArray }) (rv : Vals (ns.map V.int) vs) (hl : ns.length ≤ sizeLine) (hv : vs.length = ns.length) : SqL K (H0 K cs a vs ns) a (ns.map V.int) := by
  have na : a ∉ cs.map (·.2) := fun z => by
    have := (tab_at hT z).symm.trans ha
    cases this
  cases hk : K.lookup a with
  | none =>
    refine .inl (.inr ⟨{ cls := .type "list", data := .seq vs.toArray }, ?_⟩)
    unfold H0
    rw [if_neg na, if_pos ⟨rfl, hk⟩]
  | some o =>
    cases (KX a o hk).symm.trans ha
    exact .inr ⟨_, vs.toArray, _, hk, rfl, rfl, rfl, by rw [List.size_toArray, hv]; exact hl, by simpa using rv⟩
theorem H0_grown {H' : Hp} {h' : Heap} (un : Un [] [] (H0 K cs a vs ns) H' h h') (ok : HOk P w H' h') {p : Addr × Addr} (hp : p ∈ cs) : ∃ more : Array Value, h'.get? p.2 = some { cls := .none, data := .fields more } := by
  obtain ⟨more, z⟩ := un.tbls p.2 #[] (H0_tab hp)
  exact ⟨_, ok p.2 _ z⟩
theorem H0_kept {H' : Hp} {h' : Heap} (un : Un [] [] (H0 K cs a vs ns) H' h h') (ok : HOk P w H' h') (ha : h.get? a = some { cls := .type "list", data := .seq vs.toArray }) {b : Addr} {o : Obj} (hb : b ∉ cs.map (·.2)) (e : h.get? b = some o) : h'.get? b = some o := by
  cases q : H0 K cs a vs ns b with
  | none => exact un.keep b o e q (fun z => nomatch z) (fun z => nomatch z)
  | some u =>
    rcases H0_inv q with ⟨z, _⟩ | ⟨rfl, _, rfl⟩
    · exact (hb z).elim
    · cases e.symm.trans ha
      exact (ok _ _ (un.frzs _ _ _ q)).1
/-- the law called: its script's list is given -/
theorem law_callG {CX : CXT} {k : Nat} {fa : Addr} {fd : FuncData} {x : Str} {sp : Sp} {s₁ : Shared} (KX : K.In s₁.heap) (hns : s₁.heap.Ns mainGlobals mg) (hb : s₁.heap.Ns builtinsNs mb) (hbb : ∀ x : Str, x ≠ "__name__" → mb x = bootBuiltins x) (hlim : s₁.heap.NoLimit) (hg : s₁.gens = #[])
    (hT : ∀ p ∈ cs, s₁.heap.get? p.2 = some tb0) (C : ∀ p ∈ cs, PySem.W.CodeHd s₁.heap p.1 p.2)
    (hbm : ∃ (bm : Addr) (ob : Obj), mg "__builtins__" = some (.ref bm) ∧ bm ≠ builtinsNs ∧ s₁.heap.get? bm = some ob ∧ ob.cls = .type "module" ∧ ob.dict = some builtinsNs ∧ ob.data = .plain)
    (nT : ∀ p ∈ cs, K.lookup p.2 = none) (ha : s₁.heap.get? a = some { cls := .type "list", data := .seq vs.toArray }) (hi : IntsAre vs ns) (hl : ns.length ≤ sizeLine) (hr : Room k callerA)
    (F : ∀ base : Heap, K.In base → base.Ns mainGlobals mg → (∀ p ∈ cs, LamX.TabB base mg p.1 p.2) → FnG P w K mg base CX k fa fd [x] sp) (hbind : ∀ (s : Shared) (u : Value), BindsTo s fd ⟨[u], []⟩ [(x, u)])
    (hsp : ∀ H : Hp, (∀ p ∈ cs, H p.2 = some (.tbl #[])) → SqL K H a (ns.map V.int) → sp [.ref a] H (fun v _ => v = .bl true) fun _ _ _ => False)
    (hCX : ∀ H e s', CX [] H s₁ (fun _ _ _ => False) e s' → False) :
    codeAny (model P w) callerA (PySem.Code.call (.ref fa) ⟨[.ref a], []⟩) (fun r s' => r = .ok (.ret (.bool true)) ∧ OldK s₁.heap s'.heap ∧ s'.os = s₁.os ∧ AllBare s'.gens) s₁ := by
  have rv := vals_ints hi
  generalize hH : H0 K cs a vs ns = H
  have up : ∀ {b : Addr} {o : Obj}, s₁.heap.get? b = some o → o.data ≠ .fields #[] → (b ≠ a ∨ K.lookup a ≠ none) → (hidT s₁.heap H).get? b = some o := fun e h1 h2 => hidT_get e (by rw [← hH]; exact H0_free hT e h1 h2)
  have ne : ∀ {b : Addr} {o : Obj}, s₁.heap.get? b = some o → (∀ z n, o.data ≠ .seq z n) → b ≠ a := fun {b o} e n z => by
    subst z
    cases e.symm.trans ha
    exact n _ _ rfl
  have dic : ∀ {b : Addr} {m : Str → Option Value}, s₁.heap.Ns b m → (hidT s₁.heap H).Ns b m := fun {b m} w => by
    obtain ⟨o, es, ep, e, d, r⟩ := w
    refine ⟨o, es, ep, up e (by rw [d]; exact nofun) (.inl (ne e fun z n => by rw [d]; exact nofun)), d, r⟩
  have KB : K.In (hidT s₁.heap H) := fun b o e => by
    refine hidT_get (KX b o e) ?_
    cases q : H b with
    | none => rfl
    | some u =>
      rw [← hH] at q
      rcases H0_inv q with ⟨z, _⟩ | ⟨rfl, z, _⟩
      · obtain ⟨p, hp, ep⟩ := List.mem_map.mp z
        rw [← ep, nT p hp] at e
        cases e
      · rw [z] at e
        cases e
  have lim : (hidT s₁.heap H).NoLimit := by
    obtain ⟨mc, h1, h2⟩ := hlim
    exact ⟨mc, dic h1, h2⟩
  have md : L2.Mod K mg (hidT s₁.heap H) := ⟨KB, dic hns, ⟨mb, dic hb, hbb⟩, lim⟩
  have nG : ∀ {b : Addr} {o : Obj}, s₁.heap.get? b = some o → (∀ es ep, o.data ≠ .dict es ep) → mainGlobals ≠ b := fun {b o} e n z => by
    obtain ⟨o', es, ep, e', d, _⟩ := hns
    rw [z, e] at e'
    cases e'
    exact n _ _ d
  have TB : ∀ p ∈ cs, LamX.TabB (hidT s₁.heap H) mg p.1 p.2 := fun p hp => by
    obtain ⟨o, us, file, tf, flags, tg, inF, text, tt, e1, c1, c2, c3, cr⟩ := C p hp
    have cd : PySem.W.CodeHd (hidT s₁.heap H) p.1 p.2 := by
      refine ⟨o, us, file, tf, flags, tg, inF, text, tt, up e1 (fun z => ?_) (.inl (ne e1 fun z n => by rw [c2]; exact nofun)), c1, c2, c3, cr⟩
      rw [c2] at z
      cases z
      cases c3
    obtain ⟨bm, ob, m1, m2, m3, m4, m5, m6⟩ := hbm
    have g1 := nG m3 fun es ep => by rw [m6]; exact nofun
    have g2 := nG (hT p hp) fun es ep => nofun
    refine ⟨cd, ⟨bm, ob, m1, m2, Ne.symm g1, fun z => ?_, up m3 (by rw [m6]; exact nofun) (.inl (ne m3 fun z n => by rw [m6]; exact nofun)), m4, m5, m6⟩, g2⟩
    rw [z, hT p hp] at m3
    cases m3
    cases m6
  have ok0 : HOk P w H s₁.heap := by rw [← hH]; exact H0_ok hT ha rv hl
  have e0 : Env0 P w K mg (hidT s₁.heap H) callerA [] s₁ H := ⟨rfl, md, fun b o e => of_hidT e, by rw [hidT_size]; exact Nat.le_refl _, trivial, (fun b hb => nomatch hb), ok0, .of_eq hg⟩
  have sc : SqL K H a (ns.map V.int) := by rw [← hH]; exact H0_scr hT KX ha rv hl hi.length
  have sp0 := hsp H (fun p hp => by rw [← hH]; exact H0_tab hp) sc
  refine codeAny_mono ((F _ KB (dic hns) TB).run callerA [] s₁ H ⟨[.ref a], []⟩ [.ref a] [.ref a] _ _ rfl hr e0 (hbind s₁ _) (.cons rfl .nil) sp0) fun r s' q => ?_
  match r, q with
  | .error e, q => exact (hCX H e s' q).elim
  | .ok .next, q => exact False.elim q
  | .ok .brk, q => exact False.elim q
  | .ok .cont, q => exact False.elim q
  | .ok (.ret u), q =>
    obtain ⟨v, H', os, bare, un, ok, r', ev⟩ := q
    cases (show v = .bl true from ev)
    cases (show u = Value.bool true from r')
    subst hH
    have old : ∀ b o, s₁.heap.get? b = some o → s'.heap.get? b = some o ∨ ∃ p, p ∈ cs ∧ p.2 = b ∧ o = tb0 ∧ ∃ more : Array Value, s'.heap.get? b = some { cls := .none, data := .fields more } := fun b o e => by
      by_cases z : b ∈ cs.map (·.2)
      · obtain ⟨p, hp, rfl⟩ := List.mem_map.mp z
        exact .inr ⟨p, hp, rfl, Option.some.inj (e.symm.trans (hT p hp)), H0_grown un ok hp⟩
      · exact .inl (H0_kept un ok ha z e)
    refine And.intro rfl ⟨⟨fun b o e => ?_, fun b o e => ?_⟩, os, bare⟩
    · rcases old b o e with z | ⟨p, hp, rfl, rfl, more, z⟩
      · exact .inl z
      · exact .inr (.inl ⟨((C p hp).tab (hT p hp)).isCodeTable, rfl, #[], more, rfl, by rw [Array.empty_append]; exact z⟩)
    · rcases old b o e with z | ⟨p, hp, rfl, rfl, more, z⟩
      · exact ⟨o, z⟩
      · exact ⟨_, z⟩
end
/-- what is wanted of the law's def -/
def LawG (l : PySem.W.OpenLaw) (w : World) (K : PySem.W.Frag) (CX : CXT) (k n : Nat) (x : Str) (mg : Str → Option Value) (fa : Addr) (h : Heap) : Prop :=
  ∃ (fd : FuncData) (cs : List (Addr × Addr)) (sp : Sp), ((∀ p ∈ cs, h.get? p.2 = some tb0) ∧ (∀ p ∈ cs, K.lookup p.2 = none) ∧ ∀ p ∈ cs, PySem.W.CodeHd h p.1 p.2) ∧ (∀ (s : Shared) (u : Value), BindsTo s fd ⟨[u], []⟩ [(x, u)]) ∧
    (∀ (H : Hp) (a : Addr) (ns : List Int), ns.length ≤ n → (∀ z ∈ ns, Builtin.Int.intBits z ≤ 1048576) → (∀ p ∈ cs, H p.2 = some (.tbl #[])) → SqL K H a (ns.map V.int) → sp [.ref a] H (fun v _ => v = .bl true) fun _ _ _ => False) ∧
    ∀ base : Heap, K.In base → base.Ns mainGlobals mg → (∀ p ∈ cs, LamX.TabB base mg p.1 p.2) → FnG l.prog w K mg base CX k fa fd [x] sp
theorem walk_G {l : PySem.W.OpenLaw} {n k : Nat} {q : Program} {loose : List Str} {XP : (Str → Option Value) → Heap → Prop} {YP : World → Heap → Prop} {d : DefRec} {CX : World → CXT} {x : Str} (hn : l.most = some n) (hn2 : n ≤ sizeLine) (hdf : d.params.defaults = []) (hr : Room k callerA)
    (F : ∀ (w : World) (mg : Str → Option Value) (fa : Addr) (h : Heap), YP w h → h.Ns mainGlobals mg → mg d.name = some (.ref fa) → ∃ K : PySem.W.Frag, K.In h ∧ LawG l w K (CX w) k n x mg fa h) (hCX : ∀ (w : World) (H : Hp) (s : Shared) (e : Value) (s' : Shared), CX w [] H s (fun _ _ _ => False) e s' → False) :
    PySem.W.WalkO q loose XP YP l.row.toRowW d [] (fun f vs => PySem.call f vs) := by
  refine Att.attach_callB hn hdf fun w s₀ s₁ mg mb fa o pm cd doc a vs ns G Y _ _ _ hmg hobj hints hlen hbits hg => ?_
  obtain ⟨K, KX, fd, cs, sp, ⟨hT, nT, C⟩, hb, hsp, hF⟩ := F w mg fa _ Y G.T.g hmg
  exact law_callG KX G.T.g G.T.b G.T.builtins G.T.nolimit hg hT C G.T.bmain nT hobj hints (Nat.le_trans hlen hn2) hr hF hb (fun H hH hS => hsp H a ns hlen hbits hH hS) fun H e s' => hCX w H s₁ e s'
end Ev
end

section
set_option linter.all false
set_option maxRecDepth 100000
set_option maxHeartbeats 4000000
/-! New tuples, known to have no dict of their own. -/
namespace Ev
open PySem L2 PySem.Spec PyProof.Rows
/-- the object of a new tuple -/
abbrev tpO (its : Array Value) : Obj := { cls := Value.type "tuple", data := .seq its }
/-- what is wanted of a new tuple -/
def NewT (H : Hp) (xs : List V) (Q : VK) : Prop := ∀ p o, H p = none → o.cls = Value.type "tuple" → o.dict = none → Q (.ref p) (upd H p (.frz o (.tup xs)))
section
variable {X : Cx} {pins : List (Addr × Obj)} {σ : L2.St} {H : Hp} {s : Shared} {xs : List V} {its : List Value} {Q : VK}
/-- a tuple is laid -/
theorem lay_tup (I : L2.Inv X pins σ H s) (r : Vals xs its) (z : xs.length ≤ sizeLine) (q : NewT H xs Q) {t' : Nat} : EP X pins σ Q (.ref s.heap.objs.size) { s with heap := s.heap.push (tpO its.toArray), toks := t' } := by
  have hn : H s.heap.objs.size = none := I.hok.fresh (Nat.le_refl _)
  have g : (s.heap.push (tpO its.toArray)).get? s.heap.objs.size = some (tpO its.toArray) := Heap.get?_push_size _ rfl
  have ok : ObjOk X.prog X.w (upd H s.heap.objs.size (.frz (tpO its.toArray) (.tup xs))) (s.heap.push (tpO its.toArray)) s.heap.objs.size (.frz (tpO its.toArray) (.tup xs)) := ⟨g, z, its, r, ⟨_, g, rfl, _, rfl⟩⟩
  exact ⟨.ref s.heap.objs.size, _, I.laid (t' := t') (fun b u e => Heap.get?_push_of_some _ e) (Nat.le_refl _) ok, rfl, q _ _ hn rfl rfl⟩
variable {es : List Expr} {t : TA} {pos : Pos} {k : Nat}
/-- (a, b, ..) -/
def tTupF (t : TA) : TE := fun σ H Q => t σ H fun xs H1 => xs.length ≤ sizeLine ∧ NewT H1 xs Q
theorem pe_tupF (h : PA X es t) : PE X (.Tuple es k pos) (tTupF t) := by
  constructor
  intro pins s σ H Q I hq
  refine wpAny_Tuple_spliced (thn (h.run pos pins s σ H _ I hq) fun us s1 w => ?_)
  obtain ⟨xs, H1, I1, r, z, q⟩ := w
  exact ⟨by rw [← r.length]; exact z, lay_tup I1 r z q⟩
/-- tuple(x) -/
def rTupF (K : PySem.W.Frag) : List V → Hp → VK → Prop := fun vs H Q => ∃ p ys, vs = [.ref p] ∧ ((SqL K H p ys ∧ NewT H ys Q) ∨ (SqT K H p ys ∧ Q (.ref p) H))
theorem call_tupF : CallR X (.type "tuple") (rTupF X.K) := by
  intro pins s σ H vs us Q I r ⟨p, ys, e, h⟩
  subst e
  have eu : us = [.ref p] := by
    match us, r with
    | [_], .cons r .nil => cases r; rfl
  subst eu
  rcases h with ⟨hq, q⟩ | ⟨hq, q⟩
  · obtain ⟨its, rv, pl, z⟩ := I.list hq
    have el := rv.length
    refine call_tuple_list pl.isList (fun h' kp => ?_) (by rw [List.size_toArray, ← el]; exact z)
    exact lay_tup (s := { s with heap := h' }) (I.kept (t' := s.toks) kp) rv z q
  · obtain ⟨its, _, pl, _⟩ := I.tuple hq
    exact call_tuple_same pl ⟨.ref p, H, I, rfl, q⟩
/-- t + u -/
def rCatF (K : PySem.W.Frag) : R2 := fun x y H Q => ∃ a b xs ys, (x = .ref a ∧ y = .ref b) ∧ (SqT K H a xs ∧ SqT K H b ys) ∧ xs.length + ys.length ≤ sizeLine ∧ (xs = [] → Q (.ref b) H) ∧ (ys = [] → Q (.ref a) H) ∧ NewT H (xs ++ ys) Q
theorem op_catF : OpR X (binaryOp .Add) (rCatF X.K) := by
  intro pins s σ H x y v u Q I rx ry ⟨a, b, xs, ys, ⟨ex, ey⟩, ⟨ha, hb⟩, z, q0, q1, q2⟩
  subst ex ey
  cases rx
  cases ry
  obtain ⟨l, r1, p1, _⟩ := I.tuple ha
  obtain ⟨m, r2, p2, _⟩ := I.tuple hb
  cases l with
  | nil =>
    cases r1
    exact cat_tup0 p1 p2 ⟨.ref b, H, I, rfl, q0 rfl⟩
  | cons w l =>
    refine HT.cat_tup p1 p2 (fun e => nomatch e) (fun e => ⟨.ref a, H, I, rfl, q1 (r2.nil_iff.mp e)⟩) (fun _ => ?_) (by rw [← r1.length, ← r2.length]; exact z)
    exact lay_tup (t' := s.toks) I (r1.append r2) (by rw [List.length_append]; exact z) q2
/-- t[lo:hi] -/
def rSlF (K : PySem.W.Frag) : V → Option Int → Option Int → Hp → VK → Prop := fun x lo hi H Q => ∃ a xs, x = .ref a ∧ SqT K H a xs ∧ (cutV xs lo hi = xs → Q (.ref a) H) ∧ NewT H (cutV xs lo hi) Q
theorem sl_tupF : SlR X (rSlF X.K) := by
  intro pins s σ H x v vl vu lo hi sl Q I rx hs pl pu ⟨a, xs, ex, hx, q1, q2⟩
  subst ex
  cases rx
  obtain ⟨its, r, ht, z⟩ := I.tuple hx
  have el : its.toArray.size = xs.length := by rw [List.size_toArray]; exact r.length.symm
  refine ⟨"tuple", _, PyProof.Rows.slot_tuple_getitem.lookup, ht.typeIs, ?_⟩
  by_cases hw : HT.sIx xs.length 0 lo = 0 ∧ HT.sIx xs.length xs.length hi = xs.length
  · refine getItem_tuple_whole ht hs pl pu (by rw [el]; exact hw) ⟨.ref a, H, I, rfl, q1 ?_⟩
    unfold cutV
    rw [hw.1, hw.2, List.drop_zero, Nat.sub_zero, List.take_length]
  · refine HT.getItem_tuple_cut ht hs pl pu (by rw [el]; exact hw) ?_ (by rw [el]; exact z)
    rw [el]
    exact lay_tup (t' := s.toks) I ((r.drop _).take _) (Nat.le_trans (cutV_length xs lo hi) z) q2
/-- t * k -/
def rMulF (K : PySem.W.Frag) : R2 := fun x y H Q => ∃ l k xs, (x = .ref l ∧ y = .int k) ∧ SqT K H l xs ∧ (xs ≠ [] ∧ 2 ≤ k ∧ k ≤ 1000 ∧ xs.length ≤ 1000) ∧ NewT H (List.replicate k.toNat xs).flatten Q
theorem op_mulF : OpR X (binaryOp .Mult) (rMulF X.K) := by
  intro pins s σ H x y v u Q I rx ry ⟨l, k, xs, ⟨ex, ey⟩, hT, ⟨h0, h1, h2, h3⟩, q⟩
  subst ex ey
  cases rx
  obtain ⟨t, rfl⟩ := ry
  obtain ⟨its, r, p, _⟩ := I.tuple hT
  have tI : s.TypeIs (.ref l) "tuple" := p.typeIs
  obtain ⟨⟨oc, od, dt, sl⟩, ho, hc, n, hd⟩ := p
  simp only at hc hd
  subst hc hd
  have el : its.length = xs.length := r.length.symm
  have ne : its ≠ [] := fun e => h0 (List.eq_nil_of_length_eq_zero (by rw [← el, e]; rfl))
  have e1 : its.toArray.isEmpty = false := by
    match its, ne with
    | _ :: _, _ => rfl
  have a1 : k.toNat * xs.length ≤ 1000 * 1000 := Nat.mul_le_mul (by omega) h3
  have a2 : ((xs.length : Nat) : Int) * k ≤ 1000 * k := Int.mul_le_mul_of_nonneg_right (by omega) (by omega)
  have es : ((its.toArray.size : Nat) : Int) = (xs.length : Nat) := by rw [List.size_toArray, el]
  have zf : (List.replicate k.toNat its).flatten.length ≤ sizeLine := by
    rw [lm_len_rep_flat, el, sizeLine_eq]
    omega
  have zx : (List.replicate k.toNat xs).flatten.length ≤ sizeLine := by
    rw [lm_len_rep_flat, sizeLine_eq]
    omega
  have f0 : (decide (k < -(2 ^ 63)) || decide (k ≥ 2 ^ 63)) = false := by simp only [Bool.or_eq_false_iff, decide_eq_false_iff_not]; omega
  have f1 : (its.toArray.isEmpty || k == 1) = false := by
    simp only [e1, Bool.false_or, beq_eq_false_iff_ne]
    omega
  have f2 : (decide (k ≤ 0) || its.toArray.isEmpty) = false := by
    simp only [e1, Bool.or_false, decide_eq_false_iff_not]
    omega
  have f3 : ¬ ((its.toArray.size : Nat) : Int) * k > (2 ^ 63 - 1) / 8 := by
    rw [es]
    omega
  have f4 : Builtin.Tuple.tupleTooMany (((its.toArray.size : Nat) : Int) * k) = false := by
    unfold Builtin.Tuple.tupleTooMany
    simp only [es, sizeLine_eq, decide_eq_false_iff_not]
    omega
  have mul := call_meets (Q := EP X pins σ Q) (E := X.xe) (prog := X.prog) (w := X.w) (A := X.A) F.slot_tuple_mul tI F.entry_tuple_mul (F.args_tuple_mul_2 (.ref l) (.int k t)) (tuple_mulW l its.toArray n od sl k t f0 f1 f2 f3 f4 (by rw [size_rep, List.size_toArray]; exact zf))
    ⟨ho, by rw [size_rep]; exact lay_tup (t' := s.toks) I (r.rep k.toNat) zx q⟩
  have go := int_rmul_tuple k t l its.toArray n od sl
  refine wpAny_binaryOp_repeat_ref (by decide) tI (fun s' => typeIs_int s' k t) noFill_tuple_mul F.fills_int_mul F.slot_int_rmul repeat_tuple F.slot_int_index.lookup ?_
  exact call_meets F.slot_int_rmul (typeIs_int s k t) F.entry_int_rmul (F.args_int_rmul_2 _ _) go ⟨ho, rfl, tI, mul⟩
end
end Ev
end

section
set_option linter.all false
set_option maxRecDepth 100000
set_option maxHeartbeats 4000000
/-! A tuple from its end. -/
namespace Ev
open PySem L2 PySem.Spec PyProof.Rows
theorem back_bounds (n : Nat) : Builtin.Slice.sliceAdjust none none (-1) (n : Int) = ((n : Int) - 1, -1) ∧ Builtin.Slice.slicePlaces ((n : Int) - 1) (-1) (-1) = n := by
  refine ⟨by simp [Builtin.Slice.sliceAdjust], ?_⟩
  unfold Builtin.Slice.slicePlaces
  have z : ¬ ((-1 : Int) > 0) := by omega
  have o : (- -1 : Int) = 1 := by decide
  simp only [z, if_false, o, Int.ediv_one]
  split <;> omega
theorem back_pick (xs : Array Value) : ((List.range xs.size).filterMap fun (k : Nat) => xs[(((xs.size : Int) - 1) + (k : Int) * (-1)).toNat]?).toArray = xs.toList.reverse.toArray := by
  have e : ∀ l : List Nat, (∀ k ∈ l, k < xs.size) → (l.filterMap fun (k : Nat) => xs[(((xs.size : Int) - 1) + (k : Int) * (-1)).toNat]?) = (l.map fun k => xs.size - 1 - k).filterMap (xs[·]?) := by
    intro l
    induction l with
    | nil => intro _; rfl
    | cons a r ih =>
      intro h
      have ha := h a List.mem_cons_self
      have ea : (((xs.size : Int) - 1) + (a : Int) * (-1)).toNat = xs.size - 1 - a := by omega
      simp only [List.filterMap_cons, List.map_cons, ea, ih fun k hk => h k (List.mem_cons_of_mem _ hk)]
  rw [e _ fun k hk => List.mem_range.mp hk, PySem.W.krv_range, List.filterMap_reverse, PySem.W.krv_all]
section
variable {prog : Program} {w : World} {A : Around} {E : Value → Shared → Prop} {s : Shared}
theorem back_parts {sl : Addr} {vs : Value} {n : Nat} {Q : Int × Int × Nat → Shared → Prop} (hs : s.heap.IsSliceOf sl .none .none vs) (ps : IsPart vs (some (-1))) (h : Q ((n : Int) - 1, -1, n) s) : wpAny (model prog w) A (Builtin.Slice.sliceApplied (.ref sl) (pure (n : Int))) Q E s := by
  obtain ⟨os, ho, hc, hd⟩ := hs
  have F : ∀ {i : Nat} {x : Value} {R : Value → Shared → Prop}, #[Value.none, .none, vs][i]? = some x → R x s → wpAny (model prog w) A (field (.ref sl) i) R E s := fun e r => wpAny_field ho hd e r
  have z : ∀ {R : Option Int → Shared → Prop}, R none s → wpAny (model prog w) A (Builtin.Slice.slicePartIndex .none) R E s := fun r => HT.slicePart_ .none r
  unfold Builtin.Slice.sliceApplied Builtin.Slice.sliceFields
  refine wpAny_bind (wpAny_bind (F (i := 0) rfl (wpAny_bind (F (i := 1) rfl (wpAny_bind (F (i := 2) rfl (wpAny_pure (wpAny_bind (HT.slicePart_ ps ?_)))))))))
  show wpAny _ _ (if (((-1 : Int)) == 0) = true then _ else _) _ _ s
  refine (if_neg (by decide : ¬ (((-1 : Int)) == 0) = true)).symm ▸ ?_
  refine wpAny_bind (z (wpAny_bind (z (wpAny_bind (wpAny_pure ?_)))))
  obtain ⟨b1, b2⟩ := back_bounds n
  have fin : wpAny (model prog w) A (pure ((n : Int) - 1, (-1 : Int), n) : Sem (Int × Int × Nat)) Q E s := wpAny_pure h
  simpa only [Option.getD_some, b1, b2] using fin
theorem back_item {t sl : Addr} {xs : Array Value} {vs : Value} {Q : Value → Shared → Prop} (ht : IsTup s.heap t xs) (hs : s.heap.IsSliceOf sl .none .none vs) (ps : IsPart vs (some (-1))) (hz : xs.size ≤ sizeLine) 
    (h : Q (.ref s.heap.objs.size) { s with heap := s.heap.push (tpO xs.toList.reverse.toArray) }) : wpAny (model prog w) A (getItem (.ref t) (.ref sl)) Q E s := by
  have tS : s.TypeIs (.ref sl) "slice" := let ⟨o, a, b, _⟩ := hs; ⟨o, a, b⟩
  refine PyProof.Rows.getItem_slot ht.typeIs (by decide) PyProof.Rows.slot_tuple_getitem (wpAny_call_entry PyProof.Rows.slot_tuple_getitem ht.typeIs entry_tuple_getitem ?_ (args_tuple_getitem _ _))
  refine wpAny_bind (m := Builtin.Tuple.tupleItemsOf _) (PyProof.Rows.tupleItemsOf_ ht ?_)
  refine wpAny_bind (wpAny_typeOf tS ?_)
  rw [if_pos (by decide)]
  refine wpAny_bind (back_parts hs ps ?_)
  have no : ¬ ((((xs.size : Int) - 1 == 0) && ((-1 : Int) == 1) && (xs.size == xs.size)) = true) := by simp
  dsimp only
  rw [if_neg no, back_pick]
  have z : sizeOk (.seq xs.toList.reverse.toArray) := by show xs.toList.reverse.toArray.size ≤ sizeLine; simpa using hz
  refine wpAny_bind (m := Builtin.Tuple.tupleExact _) ?_
  unfold Builtin.Tuple.tupleExact
  exact wpAny_newObj_type (wpAny_pure ⟨_, rfl, h⟩) z
end
section
variable {X : Cx} {e : Expr} {te : TE} {k : Nat} {p1 p2 p3 pos : Pos}
/-- t[::-1] -/
def tRevF (K : PySem.W.Frag) (te : TE) : TE := fun σ H Q => te σ H fun x H1 => ∃ a xs, x = .ref a ∧ SqT K H1 a xs ∧ NewT H1 xs.reverse Q
theorem pe_revF (he : PE X e te) : PE X (.Subscript e (.Slice none none (some (.UnaryOp .USub (.Constant (.int 1) k p1) p2)) p3) pos) (tRevF X.K te) := by
  constructor
  intro pins s σ H Q I h
  have one : PO X (some (.UnaryOp .USub (.Constant (.int 1) k p1) p2)) (tPart (tUn (rU fun i => .int (-i)) (tC (.int 1)))) := po_some (pe_un un_neg pe_int)
  refine Subscript_ (thn (he.run pins s σ H _ I h) fun v s1 ⟨x, H1, I1, r1, a, xs, ex, hx, q⟩ => wpAny_Slice ?_)
  subst ex
  cases r1
  have left : ∀ {H2 : Hp} {s2 : Shared} {R : Value → Shared → Prop}, L2.Inv X pins σ H2 s2 → (∀ s3, L2.Inv X pins σ H2 s3 → R .none s3) → wpAny (model X.prog X.w) X.A (evalPart none X.env) R X.xe s2 := fun I2 r => by
    rw [evalPart_none]
    exact wpAny_pure (r _ I2)
  refine left I1 fun s2 I2 => left I2 fun s3 I3 => thn (one.run pins s3 σ H1 (fun o H4 => o = some (-1) ∧ H4 = H1) I3 ⟨1, rfl, -1, rfl, rfl, rfl⟩) fun vs s4 ⟨o, H4, I4, ps, eo, e4⟩ => ?_
  subst eo e4
  generalize hs5 : ({ s4 with heap := s4.heap.push { cls := .type "slice", data := .fields #[.none, .none, vs] } } : Shared) = s5
  have I5 : L2.Inv X pins σ H4 s5 := by rw [← hs5]; exact I4.kept (t' := s4.toks) fun b ob z => Heap.get?_push_of_some _ z
  have sl : s5.heap.IsSliceOf s4.heap.objs.size .none .none vs := by rw [← hs5]; exact Heap.IsSliceOf.new ..
  obtain ⟨its, r, ht, hz⟩ := I5.tuple hx
  have go : wpAny (model X.prog X.w) X.A (getItem (.ref a) (.ref s4.heap.objs.size)) (EP X pins σ Q) X.xe s5 := by
    have el : its.length = xs.length := r.length.symm
    refine back_item ht sl ps (by simpa [el] using hz) ?_
    have rr : Vals xs.reverse its.reverse := r.reverse
    exact lay_tup (t' := s5.toks) I5 rr (by simpa using hz) q
  have end_ : wpAny (model X.prog X.w) X.A (subscriptTail e (.Slice none none (some (.UnaryOp .USub (.Constant (.int 1) k p1) p2)) p3) (.ref a) (.ref s4.heap.objs.size)) (EP X pins σ Q) X.xe s5 :=
    tail_any (ops := [.ref a, .ref s4.heap.objs.size]) ht.typeIs PyProof.Rows.slot_tuple_getitem.lookup go (by with_unfolding_all rfl)
  exact end_
end
end Ev
end

section
set_option linter.all false
set_option maxRecDepth 100000
set_option maxHeartbeats 4000000
/-! Operations by values, over what stands in the heap. -/
namespace Ev
open PySem L2 PySem.Spec PyProof.Rows

section
variable {K : PySem.W.Frag} {B : Cls0} {F F' H H' H1 H2 : Hp} {G G' G1 G2 : Gh}
/-- a value that reads as d now; what is in it is frozen -/
def RepC (K : PySem.W.Frag) (B : Cls0) (G : Gh) (H : Hp) (v : V) (d : D) : Prop := ∃ r p t, RepT K B G H r p v t ∧ frz t = d
theorem RepC.val {v : V} {d : D} (h : Rep K B (Fz G H) v d) : RepC K B G H v d := ⟨0, [], .val d, .val h, rfl⟩
theorem RepC.rep {v : V} {d : D} (h : RepC K B G H v d) : Rep K B H v d := by
  obtain ⟨r, p, t, R, rfl⟩ := h
  exact R.read (fun a o e _ => e) fun a o p e _ => e
theorem RepC.lst {v : V} {l : List D} (h : RepC K B G H v (.lst l)) : ∃ a vs, v = .ref a ∧ H a = some (.lst vs) ∧ Reps K B (Fz G H) vs l := by
  obtain ⟨r, p, t, R, e⟩ := h
  cases R with
  | val x =>
    have e2 : _ = D.lst l := e
    subst e2
    cases x with
    | lst a b => exact ⟨_, _, rfl, Fz.sub _ _ a, b⟩
  | lst g a b =>
    have e2 := D.lst.inj e
    subst e2
    exact ⟨_, _, rfl, a, b⟩
  | dic g a b c => cases e
  | ins g a b c => cases e
theorem RepC.tpm {v : V} {l : List D} (h : RepC K B G H v (.tup l)) : ∃ a vs, v = .ref a ∧ TpM K (Fz G H) a vs ∧ Reps K B (Fz G H) vs l := by
  obtain ⟨r, p, t, R, e⟩ := h
  cases R with
  | val x =>
    have e2 : _ = D.tup l := e
    subst e2
    cases x with
    | tup a b => exact ⟨_, _, rfl, a, b⟩
  | lst g a b => cases e
  | dic g a b c => cases e
  | ins g a b c => cases e
theorem RepC.tup {v : V} {l : List D} (h : RepC K B G H v (.tup l)) : ∃ a vs, v = .ref a ∧ SqT K (Fz G H) a vs ∧ Reps K B (Fz G H) vs l := by
  obtain ⟨a, vs, e, q, r⟩ := h.tpm
  exact ⟨a, vs, e, q.sq, r⟩
theorem RepC.int {v : V} {i : Int} (h : RepC K B G H v (.int i)) : v = .int i := by
  cases h.rep
  rfl
theorem RepC.bl {v : V} {i : Bool} (h : RepC K B G H v (.bl i)) : v = .bl i := by
  cases h.rep
  rfl
theorem RepC.str {v : V} {i : Str} (h : RepC K B G H v (.str i)) : v = .str i := by
  cases h.rep
  rfl
theorem RepC.non {v : V} (h : RepC K B G H v .non) : v = .non := by
  cases h.rep
  rfl
theorem RepC.scr {v : V} {l : List Int} (h : RepC K B G H v (.scr l)) : ∃ a, v = .ref a ∧ SqL K H a (l.map V.int) := by
  cases h.rep with
  | scr a => exact ⟨_, rfl, a⟩

/-- what an operation gives: what stood already, or one new object -/
inductive Mk1 (K : PySem.W.Frag) (B : Cls0) (G : Gh) (H : Hp) (t : T) : V → Gh → Hp → Prop
  | same {v : V} : RepT K B G H 0 [] v t → Mk1 K B G H t v G H
  | new {p : Addr} {o : HO} {w : Own} : H p = none → RepT K B (gNew p w G) (upd H p o) 0 [] (.ref p) t → Mk1 K B G H t (.ref p) (gNew p w G) (upd H p o)
theorem Mk1.nx {t : T} {v : V} (m : Mk1 K B G H t v G' H') : Nx G H G' H' := by
  cases m with
  | same _ => exact Nx.refl
  | new h _ => exact Nx.new h
theorem Mk1.rep {t : T} {v : V} (m : Mk1 K B G H t v G' H') : RepT K B G' H' 0 [] v t := by
  cases m with
  | same r => exact r
  | new h r => exact r
theorem Mk1.sta {t : T} {v : V} {σ : L2.St} {ρ : Env} (m : Mk1 K B G H t v G' H') (S : Sta K B G ρ σ H) : Sta K B G' ρ σ H' := by
  cases m with
  | same _ => exact S
  | new h _ => exact S.new h
theorem Mk1.val {d : D} {v : V} (h : Rep K B (Fz G H) v d) : Mk1 K B G H (.val d) v G H := .same (.val h)
theorem new_sub {p : Addr} {o : HO} {w : Own} (h : H p = none) : Sub (Fz G H) (Fz (gNew p w G) (upd H p o)) := (Nx.new h).frz
theorem Mk1.newL {vs : List V} {l : List D} {p : Addr} (h : H p = none) (r : Reps K B (Fz G H) vs l) : Mk1 K B G H (.lst l) (.ref p) (gNew p (.my 0 []) G) (upd H p (.lst vs)) :=
  .new h (.lst gNew_same upd_same (r.mono (new_sub h)))
theorem Mk1.newT {vs : List V} {l : List D} {p : Addr} {o : Obj} (h : H p = none) (hc : o.cls = .type "tuple") (hd : o.dict = none) (r : Reps K B (Fz G H) vs l) : Mk1 K B G H (.val (.tup l)) (.ref p) (gNew p .frz G) (upd H p (.frz o (.tup vs))) :=
  .new h (.val (.tup (.inl ⟨o, Fz.of gNew_same upd_same, hc, hd⟩) (r.mono (new_sub h))))

/-! ### == -/
mutual
def toP : D → PyData
  | .non => .none
  | .bl b => .bool b
  | .int i => .int i
  | .str x => .str x
  | .tup l => .tuple (toPs l)
  | .lst l => .list (toPs l)
  | _ => .none
def toPs : List D → List PyData
  | [] => []
  | d :: r => toP d :: toPs r
end
mutual
theorem toP_dp : ∀ {v : V} {d : D}, Rep K B F v d → plain d = true → Dp K F v (toP d)
  | _, _, .non, _ => .non
  | _, _, .bl b, _ => .bl b
  | _, _, .int i, _ => .int i
  | _, _, .str x, _ => .str x
  | _, _, .tup a r, h => .tup a.sq (toP_dps r h)
  | _, _, .lst a r, h => .lst (.inl (.inl a)) (toP_dps r h)
  | _, _, .scr _, h => nomatch h
  | _, _, .dic _ _ _, h => nomatch h
  | _, _, .ins _ _ _, h => nomatch h
  | _, _, .exc _ _ _, h => nomatch h
theorem toP_dps : ∀ {vs : List V} {ds : List D}, Reps K B F vs ds → plains ds = true → DpAll K F vs (toPs ds)
  | _, _, .nil, _ => .nil
  | _, _, .cons a r, h => by
    obtain ⟨h1, h2⟩ := Bool.and_eq_true_iff.mp (show (plain _ && plains _) = true from h)
    exact .cons (toP_dp a h1) (toP_dps r h2)
end
mutual
theorem toP_plain : ∀ {d : D}, plain d = true → (toP d).plain = true
  | .non, _ => rfl
  | .bl _, _ => rfl
  | .int _, _ => rfl
  | .str _, _ => rfl
  | .tup l, h => by
    show PyData.plainAll (toPs l) = true
    exact toPs_plain h
  | .lst l, h => by
    show PyData.plainAll (toPs l) = true
    exact toPs_plain h
  | .dic _ _, h => nomatch h
  | .ins _ _, h => nomatch h
  | .exc _ _, h => nomatch h
  | .scr _, h => nomatch h
theorem toPs_plain : ∀ {l : List D}, plains l = true → PyData.plainAll (toPs l) = true
  | [], _ => rfl
  | d :: r, h => by
    obtain ⟨h1, h2⟩ := Bool.and_eq_true_iff.mp (show (plain d && plains r) = true from h)
    show (PyData.plain (toP d) && PyData.plainAll (toPs r)) = true
    rw [toP_plain h1, toPs_plain h2] <;> rfl
end
mutual
theorem toP_depth : ∀ (d : D), (toP d).depth ≤ depth d
  | .non => Nat.le_refl _
  | .bl _ => Nat.le_refl _
  | .int _ => Nat.le_refl _
  | .str _ => Nat.le_refl _
  | .tup l => by
    show PyData.depth (.tuple (toPs l)) ≤ depths l + 1
    simp only [PyData.depth]
    exact Nat.succ_le_succ (toPs_depth l)
  | .lst l => by
    show PyData.depth (.list (toPs l)) ≤ depths l + 1
    simp only [PyData.depth]
    exact Nat.succ_le_succ (toPs_depth l)
  | .dic _ _ => Nat.le_refl _
  | .ins _ _ => Nat.le_refl _
  | .exc _ _ => Nat.le_refl _
  | .scr _ => Nat.le_refl _
theorem toPs_depth : ∀ (l : List D), PyData.depthAll (toPs l) ≤ depths l
  | [] => Nat.le_refl _
  | d :: r => by
    have h1 := toP_depth d
    have h2 := toPs_depth r
    show PyData.depthAll (toP d :: toPs r) ≤ max (depth d) (depths r)
    simp only [PyData.depthAll]
    omega
end
mutual
theorem toP_eqv : ∀ {a b : D}, plain a = true → plain b = true → PyData.eqv (toP a) (toP b) = eqv a b
  | .non, b, _, h => by cases b <;> first | (simp [plain] at h; done) | simp [toP, PyData.eqv, eqv]
  | .bl x, b, _, h => by cases b <;> first | (simp [plain] at h; done) | simp [toP, PyData.eqv, eqv]
  | .int x, b, _, h => by cases b <;> first | (simp [plain] at h; done) | simp [toP, PyData.eqv, eqv]
  | .str x, b, _, h => by cases b <;> first | (simp [plain] at h; done) | simp [toP, PyData.eqv, eqv]
  | .tup x, b, h1, h => by
    cases b with
    | tup y =>
      have q := toPs_eqv (a := x) (b := y) h1 h
      simp only [toP, PyData.eqv, eqv]
      exact q
    | _ => first | (simp [plain] at h; done) | simp [toP, PyData.eqv, eqv]
  | .lst x, b, h1, h => by
    cases b with
    | lst y =>
      have q := toPs_eqv (a := x) (b := y) h1 h
      simp only [toP, PyData.eqv, eqv]
      exact q
    | _ => first | (simp [plain] at h; done) | simp [toP, PyData.eqv, eqv]
  | .dic _ _, _, h, _ => nomatch h
  | .ins _ _, _, h, _ => nomatch h
  | .scr _, _, h, _ => nomatch h
theorem toPs_eqv : ∀ {a b : List D}, plains a = true → plains b = true → PyData.eqvAll (toPs a) (toPs b) = eqvs a b
  | [], [], _, _ => by simp [toPs, PyData.eqvAll, eqvs]
  | [], _ :: _, _, _ => by simp [toPs, PyData.eqvAll, eqvs]
  | _ :: _, [], _, _ => by simp [toPs, PyData.eqvAll, eqvs]
  | x :: r, y :: s, h1, h2 => by
    obtain ⟨a1, a2⟩ := Bool.and_eq_true_iff.mp (show (plain x && plains r) = true from h1)
    obtain ⟨b1, b2⟩ := Bool.and_eq_true_iff.mp (show (plain y && plains s) = true from h2)
    have q1 := toP_eqv a1 b1
    have q2 := toPs_eqv a2 b2
    simp only [toPs, PyData.eqvAll, eqvs, q1, q2]
end
end

section
variable {X : Cx}
def opo : BinO → Operator
  | .add => .Add | .sub => .Sub | .mul => .Mult | .fdiv => .FloorDiv | .mod => .Mod | .pow => .Pow
/-- a binary operation by data -/
def rBin (K : PySem.W.Frag) (B : Cls0) (o : BinO) : R2 := fun x y H Q => ∃ G dx dy t, RepC K B G H x dx ∧ RepC K B G H y dy ∧ binD o dx dy = some t ∧ ∀ v G' H', Mk1 K B G H t v G' H' → Q v H'
theorem LL_line {n : Nat} (h : n ≤ LL) : n ≤ sizeLine := Nat.le_trans h (by decide)
theorem LL_lt {n : Nat} (h : n < LL) : n < sizeLine := Nat.lt_of_lt_of_le h (by decide)
theorem fdivI {i j : Int} {t u : Tok} {Q : Value → Shared → Prop} {A : Around} {E : Value → Shared → Prop} {s : Shared} {P : Program} {w : World} (hb : j ≠ 0) (hr : Builtin.divisionGoesByPylong i j = false ∨ PySem.PylongRoom (model P w) A s) (h : Q (.int (i.fdiv j) s.toks) { s with toks := s.toks + 1 }) :
    wpAny (model P w) A (binaryOp .FloorDiv (.int i t) (.int j u)) Q E s := floordiv_int hb h hr
theorem op_bin (B : Cls0) (o : BinO) : OpR X (binaryOp (opo o)) (rBin X.K B o) := by
  intro pins s σ H x y v u Q I rx ry h
  obtain ⟨G, dx, dy, t, hx, hy, e, q⟩ := h
  unfold binD at e
  split at e
  · -- int + int
    cases hx.int
    cases hy.int
    have e2 := Option.some.inj e
    subst e2
    exact op_add pins s σ H _ _ v u Q I rx ry ⟨_, _, rfl, rfl, q _ _ _ (Mk1.val (.int _))⟩
  · cases hx.str
    cases hy.str
    split at e
    · rename_i hz
      have e2 := Option.some.inj e
      subst e2
      exact op_add_str pins s σ H _ _ v u Q I rx ry ⟨_, _, rfl, rfl, LL_line hz, q _ _ _ (Mk1.val (.str _))⟩
    · cases e
  · split at e
    · rename_i hz
      have e2 := Option.some.inj e
      subst e2
      obtain ⟨a, xs, rfl, ha, ra⟩ := hx.tpm
      obtain ⟨b, ys, rfl, hb, rb⟩ := hy.tpm
      have la := ra.length
      have lb := rb.length
      refine op_catF pins s σ H _ _ v u Q I rx ry ⟨a, b, xs, ys, ⟨rfl, rfl⟩, ⟨Fz.sub.seqT ha.sq, Fz.sub.seqT hb.sq⟩, LL_line (by rw [la, lb]; exact hz), fun e1 => ?_, fun e1 => ?_, fun p o hp hc hd => q _ _ _ (Mk1.newT hp hc hd (ra.append rb))⟩
      · subst e1
        cases ra
        exact q _ _ _ (Mk1.val (.tup hb rb))
      · subst e1
        cases rb
        rw [List.append_nil] at q
        exact q _ _ _ (Mk1.val (.tup ha ra))
    · cases e
  · split at e
    · rename_i hz
      have e2 := Option.some.inj e
      subst e2
      obtain ⟨a, xs, rfl, ha, ra⟩ := hx.lst
      obtain ⟨b, ys, rfl, hb, rb⟩ := hy.lst
      exact op_cat pins s σ H _ _ v u Q I rx ry ⟨a, b, xs, ys, rfl, rfl, ha, hb, LL_line (by rw [ra.length, rb.length]; exact hz), fun p hp => q _ _ _ (Mk1.newL hp (ra.append rb))⟩
    · cases e
  · cases hx.int
    cases hy.int
    have e2 := Option.some.inj e
    subst e2
    exact op_sub pins s σ H _ _ v u Q I rx ry ⟨_, _, rfl, rfl, q _ _ _ (Mk1.val (.int _))⟩
  · rename_i i j
    split at e
    · rename_i hm
      cases hx.int
      cases hy.int
      have e2 := Option.some.inj e
      subst e2
      obtain ⟨t1, rfl⟩ := rx
      obtain ⟨t2, rfl⟩ := ry
      refine mul_int ⟨.int _, H, I.tok _, ⟨_, rfl⟩, q _ _ _ (Mk1.val (.int _))⟩ ?_
      unfold mulOk at hm
      unfold IntMulOk
      intro z
      rw [z] at hm
      cases hm
    · cases e
  · split at e
    · rename_i hz
      obtain ⟨h1, h2⟩ := Bool.and_eq_true_iff.mp hz
      have h1' := of_decide_eq_true h1
      have h2' := of_decide_eq_true h2
      cases hy.int
      have e2 := Option.some.inj e
      subst e2
      obtain ⟨a, xs, rfl, ha, ra⟩ := hx.lst
      exact op_rep pins s σ H _ _ v u Q I rx ry ⟨a, _, xs, rfl, rfl, ha, h1'.1, h1'.2, LL_line (by rw [ra.length]; exact h2'), fun p hp => q _ _ _ (Mk1.newL hp (ra.rep _))⟩
    · cases e
  · split at e
    · rename_i hz
      have h1 := of_decide_eq_true hz
      cases hy.int
      have e2 := Option.some.inj e
      subst e2
      obtain ⟨a, xs, rfl, ha, ra⟩ := hx.tup
      have la := ra.length
      refine op_mulF pins s σ H _ _ v u Q I rx ry ⟨a, _, xs, ⟨rfl, rfl⟩, Fz.sub.seqT ha, ⟨fun z => ?_, h1.2.1, h1.2.2.1, by rw [la]; exact h1.2.2.2⟩, fun p o hp hc hd => q _ _ _ (Mk1.newT hp hc hd (ra.rep _))⟩
      subst z
      cases ra
      exact h1.1 rfl
    · cases e
  · split at e
    · rename_i hz
      have h1 := of_decide_eq_true hz
      cases hx.int
      cases hy.int
      have e2 := Option.some.inj e
      subst e2
      obtain ⟨t1, rfl⟩ := rx
      obtain ⟨t2, rfl⟩ := ry
      exact fdivI h1.1 (Or.inl h1.2) ⟨.int _, H, I.tok _, ⟨_, rfl⟩, q _ _ _ (Mk1.val (.int _))⟩
    · cases e
  · split at e
    · rename_i hz
      have h1 := of_decide_eq_true hz
      cases hx.int
      cases hy.int
      have e2 := Option.some.inj e
      subst e2
      exact op_modN pins s σ H _ _ v u Q I rx ry ⟨_, _, rfl, rfl, h1, q _ _ _ (Mk1.val (.int _))⟩
    · cases e
  · split at e
    · rename_i hz
      have h1 := of_decide_eq_true hz
      cases hx.int
      cases hy.int
      have e2 := Option.some.inj e
      subst e2
      obtain ⟨t1, rfl⟩ := rx
      obtain ⟨t2, rfl⟩ := ry
      exact pow_int h1.1 h1.2 ⟨.int _, H, I.tok _, ⟨_, rfl⟩, q _ _ _ (Mk1.val (.int _))⟩
    · cases e
  · cases e

/-! ### comparisons -/
def opc : CmpO → CmpOp
  | .eq => .Eq | .ne => .NotEq | .lt => .Lt | .le => .LtE | .gt => .Gt | .ge => .GtE | .is => .Is | .isnot => .IsNot | .isin => .In | .notin => .NotIn
def rCmp (K : PySem.W.Frag) (B : Cls0) (o : CmpO) : R2 := fun x y H Q => ∃ G dx dy b, RepC K B G H x dx ∧ RepC K B G H y dy ∧ cmpD o dx dy = some b ∧ Q (.bl b) H
theorem eq_reads {n : Nat} (hr : Room n X.A) {pins : List (Addr × Obj)} {σ : L2.St} {H : Hp} {s : Shared} {G : Gh} {x y : V} {v u : Value} {dx dy : D} (I : L2.Inv X pins σ H s) (rx : RelV x v) (ry : RelV y u) (hx : RepC X.K B G H x dx) (hy : RepC X.K B G H y dy)
    (h : (plain dx && plain dy && decide (min (depth dx) (depth dy) ≤ 64)) = true) : (∃ as, Reads s.heap v (toP dx) as) ∧ (∃ bs, Reads s.heap u (toP dy) bs) ∧ (toP dx).plain = true ∧ (toP dy).plain = true ∧ X.A.units + min (toP dx).depth (toP dy).depth < cLine ∧ PyData.eqv (toP dx) (toP dy) = eqv dx dy := by
  obtain ⟨h1, h3⟩ := Bool.and_eq_true_iff.mp h
  obtain ⟨h1, h2⟩ := Bool.and_eq_true_iff.mp h1
  have h3 := of_decide_eq_true h3
  refine ⟨Dp.reads I _ _ _ (toP_dp hx.rep h1) rx, Dp.reads I _ _ _ (toP_dp hy.rep h2) ry, toP_plain h1, toP_plain h2, ?_, toP_eqv h1 h2⟩
  have a := toP_depth dx
  have b := toP_depth dy
  have c := hr.un
  omega
theorem or_some {α : Type} {a b : Option α} {x : α} (h : a.or b = some x) : a = some x ∨ b = some x := by
  cases a with
  | none => exact .inr h
  | some y => exact .inl h
/-- any tuple beside the empty one: no items are looked at -/
theorem eqE_run {n : Nat} (hr : Room n X.A) {pins : List (Addr × Obj)} {σ : L2.St} {H : Hp} {s : Shared} {G : Gh} {x y : V} {v u : Value} {dx dy : D} {b : Bool} {Q : Value → Shared → Prop} (I : L2.Inv X pins σ H s) (rx : RelV x v) (ry : RelV y u) (hx : RepC X.K B G H x dx) (hy : RepC X.K B G H y dy)
    (h : eqE dx dy = some b) : (Q (.bool b) s → wpAny (model X.prog X.w) X.A (compareOp .Eq v u) Q X.xe s) ∧ (Q (.bool (!b)) s → wpAny (model X.prog X.w) X.A (compareOp .NotEq v u) Q X.xe s) := by
  unfold eqE at h
  split at h
  case h_2 => cases h
  rename_i l
  cases h
  obtain ⟨a1, vs, rfl, ha, r⟩ := hx.tpm
  obtain ⟨a2, ws, rfl, hb, r0⟩ := hy.tpm
  cases r0
  cases rx
  cases ry
  obtain ⟨its, q1, t1, _⟩ := I.tuple (Fz.sub.seqT ha.sq)
  obtain ⟨jts, q2, t2, _⟩ := I.tuple (Fz.sub.seqT hb.sq)
  cases q2
  have un : X.A.units < cLine := by have c := hr.un; omega
  have none_ : ∀ (j : Nat) (h1 : j < its.toArray.size) (h2 : j < ([] : List Value).toArray.size), SeqAt.EqAt X.A.in1 s its.toArray[j] ([] : List Value).toArray[j] ((fun _ => true) j) := fun j _ h2 => absurd h2 (by simp)
  have z : ((List.range (min its.toArray.size ([] : List Value).toArray.size)).all (fun _ => true) && its.toArray.size == ([] : List Value).toArray.size) = l.isEmpty := by
    have n1 : its.length = l.length := by rw [← q1.length, Reps.length r]
    cases l with
    | nil => simp [List.eq_nil_of_length_eq_zero n1]
    | cons c m =>
      cases its with
      | nil => cases n1
      | cons c' m' => simp
  constructor
  · intro q
    exact (SeqAt.RcAt.tuples t1 t2 un none_) X.prog X.w X.xe Q (by rw [z]; exact q)
  · intro q
    exact (SeqAt.RcNeAt.tuples t1 t2 un none_) X.prog X.w X.xe Q (by rw [z]; exact q)
theorem op_cmp (B : Cls0) (o : CmpO) {n : Nat} (hr : Room n X.A) (ho : o ≠ .isin ∧ o ≠ .notin) : OpR X (compareOp (opc o)) (rCmp X.K B o) := by
  intro pins s σ H x y v u Q I rx ry h
  obtain ⟨G, dx, dy, b, hx, hy, e, q⟩ := h
  have fin : ∀ {b' : Bool}, b' = b → EP X pins σ Q (.bool b') s := fun {b'} z => by
    subst z
    exact ⟨.bl _, H, I, rfl, q⟩
  have two : ∀ {f : Int → Int → Bool} {c : CmpOp}, ints2 f dx dy = some b → (OpR X (compareOp c) (rI0 fun i j => .bl (f i j))) → wpAny (model X.prog X.w) X.A (compareOp c v u) (EP X pins σ Q) X.xe s := fun {f c} e r => by
    cases dx with
    | int i =>
      cases dy with
      | int j =>
        have e2 := Option.some.inj e
        cases hx.int
        cases hy.int
        exact r pins s σ H _ _ v u Q I rx ry ⟨_, _, rfl, rfl, by show Q (V.bl (f i j)) H; rw [e2]; exact q⟩
      | _ => cases e
    | _ => cases e
  cases o with
  | eq =>
    rcases or_some (show (eqD dx dy).or (eqE dx dy) = some b from e) with e1 | e1
    · unfold eqD at e1
      split at e1
      · rename_i hc
        obtain ⟨⟨as, r1⟩, ⟨bs, r2⟩, p1, p2, hu, he⟩ := eq_reads hr I rx ry hx hy hc
        have e2 := Option.some.inj e1
        exact SeqAt.eq_plain r1 r2 p1 p2 hu (fin (by rw [he, e2]))
      · cases e1
    · exact (eqE_run hr I rx ry hx hy e1).1 (fin rfl)
  | ne =>
    obtain ⟨b0, e0, eb⟩ := Option.map_eq_some_iff.mp (show ((eqD dx dy).or (eqE dx dy)).map (!·) = some b from e)
    rcases or_some e0 with e1 | e1
    · unfold eqD at e1
      split at e1
      · rename_i hc
        obtain ⟨⟨as, r1⟩, ⟨bs, r2⟩, p1, p2, hu, he⟩ := eq_reads hr I rx ry hx hy hc
        have e2 := Option.some.inj e1
        exact SeqAt.ne_plain r1 r2 p1 p2 hu (fin (by rw [he, e2, ← eb]))
      · cases e1
    · exact (eqE_run hr I rx ry hx hy e1).2 (fin eb)
  | lt => exact two e op_lt
  | le => exact two e op_le
  | gt => exact two e op_gt
  | ge => exact two e op_ge
  | is =>
    cases dy with
    | non =>
      have e2 : isNon dx = b := Option.some.inj e
      cases hy.non
      refine op_isN pins s σ H _ _ v u Q I rx ry ⟨rfl, ?_⟩
      have : decide (x = V.non) = b := by
        rw [← e2]
        cases hx.rep <;> simp [isNon]
      rw [this]
      exact q
    | _ => cases e
  | isnot =>
    cases dy with
    | non =>
      have e2 : (!isNon dx) = b := Option.some.inj e
      cases hy.non
      refine op_notN pins s σ H _ _ v u Q I rx ry ⟨rfl, ?_⟩
      have : (!decide (x = V.non)) = b := by
        rw [← e2]
        cases hx.rep <;> simp [isNon]
      rw [this]
      exact q
    | _ => cases e
  | isin => exact absurd rfl ho.1
  | notin => exact absurd rfl ho.2
end
end Ev
end

section
set_option linter.all false
set_option maxRecDepth 100000
set_option maxHeartbeats 4000000
/-! Operations by values, further: in, subscripts, slices, built-ins. -/
namespace Ev
open PySem L2 PySem.Spec PyProof.Rows
section
variable {K : PySem.W.Frag} {B : Cls0} {F F' H H' H1 H2 : Hp} {G G' G1 G2 : Gh}
theorem toP_anys {d : D} (hd : plain d = true) : ∀ {l : List D}, plains l = true → ((toPs l).any fun y => PyData.eqv y (toP d)) = l.any fun e => eqv e d
  | [], _ => rfl
  | x :: r, h => by
    obtain ⟨h1, h2⟩ := Bool.and_eq_true_iff.mp (show (plain x && plains r) = true from h)
    show (PyData.eqv (toP x) (toP d) || (toPs r).any fun y => PyData.eqv y (toP d)) = (eqv x d || r.any fun e => eqv e d)
    rw [toP_eqv h1 hd, toP_anys hd h2]
/-- all of several values -/
inductive RepCs (K : PySem.W.Frag) (B : Cls0) (G : Gh) (H : Hp) : List V → List D → Prop
  | nil : RepCs K B G H [] []
  | cons {v : V} {vs : List V} {d : D} {ds : List D} : RepC K B G H v d → RepCs K B G H vs ds → RepCs K B G H (v :: vs) (d :: ds)
theorem atI_get2 {α β : Type} {xs : List α} {ys : List β} {k : Int} {y : β} (hl : xs.length = ys.length) (h : atI ys k = some y) : ∃ (j : Nat) (x : α), ys[j]? = some y ∧ xs[j]? = some x ∧ atI xs k = some x := by
  unfold atI at h
  cases e : ixN ys.length k with
  | none => rw [e] at h; cases h
  | some j =>
    rw [e] at h
    have h2 : ys[j]? = some y := h
    have hj : j < xs.length := by rw [hl]; exact (List.getElem?_eq_some_iff.mp h2).1
    refine ⟨j, xs[j], h2, List.getElem?_eq_getElem hj, ?_⟩
    unfold atI
    rw [hl, e]
    exact List.getElem?_eq_getElem hj
theorem cut_reps {vs : List V} {ds : List D} (r : Reps K B F vs ds) (lo hi : Option Int) : Reps K B F (cutV vs lo hi) (cut ds lo hi) := by
  unfold cutV cut
  rw [r.length]
  exact (r.drop _).take _
theorem intsD_vals : ∀ {l : List D} {ns : List Int} {vs : List V}, intsD l = some ns → Reps K B F vs l → vs = ns.map V.int
  | [], ns, vs, h, r => by
    cases r
    have e := Option.some.inj h
    subst e
    rfl
  | d :: l, ns, vs, h, r => by
    cases r with
    | cons a b =>
      cases d with
      | int i =>
        have h1 : (intsD l).map (i :: ·) = some ns := h
        cases e : intsD l with
        | none => rw [e] at h1; cases h1
        | some ms =>
          rw [e] at h1
          have e2 := Option.some.inj h1
          subst e2
          cases a
          show V.int i :: _ = V.int i :: ms.map V.int
          rw [intsD_vals e b]
      | _ => cases h
theorem blsD_vals : ∀ {l : List D} {ns : List Bool} {vs : List V}, blsD l = some ns → Reps K B F vs l → vs = ns.map V.bl
  | [], ns, vs, h, r => by
    cases r
    have e := Option.some.inj h
    subst e
    rfl
  | d :: l, ns, vs, h, r => by
    cases r with
    | cons a b =>
      cases d with
      | bl i =>
        have h1 : (blsD l).map (i :: ·) = some ns := h
        cases e : blsD l with
        | none => rw [e] at h1; cases h1
        | some ms =>
          rw [e] at h1
          have e2 := Option.some.inj h1
          subst e2
          cases a
          show V.bl i :: _ = V.bl i :: ms.map V.bl
          rw [blsD_vals e b]
      | _ => cases h
def tyN : Nat → String
  | 0 => "NoneType" | 1 => "bool" | 2 => "int" | 3 => "str" | 4 => "tuple" | 5 => "list" | _ => "dict"
theorem RepC.ty {v : V} {d : D} {n : Nat} (h : RepC K B G H v d) (e : tyD d = some n) : TyX K H v (.type (tyN n)) := by
  cases d with
  | non =>
    cases h.non
    have e2 := Option.some.inj e
    subst e2
    exact .base .non
  | bl b =>
    cases h.bl
    have e2 := Option.some.inj e
    subst e2
    exact .base (.bl b)
  | int i =>
    cases h.int
    have e2 := Option.some.inj e
    subst e2
    exact .base (.int i)
  | str x =>
    cases h.str
    have e2 := Option.some.inj e
    subst e2
    exact .base (.str x)
  | tup l =>
    have e2 := Option.some.inj e
    subst e2
    obtain ⟨a, vs, rfl, q, _⟩ := h.tup
    rcases Fz.sub.seqT q with (q | ⟨o, q⟩) | ⟨o, its, n, q, c, _⟩
    · exact .base (.tup q)
    · exact .fTuple q
    · exact .kTuple q c
  | lst l =>
    have e2 := Option.some.inj e
    subst e2
    obtain ⟨a, vs, rfl, q, _⟩ := h.lst
    exact .base (.lst q)
  | dic ks l =>
    have e2 := Option.some.inj e
    subst e2
    cases h.rep with
    | dic q _ _ => exact .base (.dK q)
  | ins c l => cases e
  | exc c l => cases e
  | scr l => cases e
end
section
variable {X : Cx}
theorem op_cmpIn (B : Cls0) (o : CmpO) {n : Nat} (hr : Room n X.A) (ho : o = .isin ∨ o = .notin) : OpR X (compareOp (opc o)) (rCmp X.K B o) := by
  intro pins s σ H x y v u Q I rx ry h
  obtain ⟨G, dx, dy, b, hx, hy, e, q⟩ := h
  have fin : ∀ {b' : Bool}, b' = b → EP X pins σ Q (.bool b') s := fun {b'} z => by
    subst z
    exact ⟨.bl _, H, I, rfl, q⟩
  have key : ∀ {l : List D} {b' : Bool}, (if plain dx && plains l && decide (depth dx ≤ 64) then some (l.any fun d => eqv d dx) else none) = some b' → (∃ bs, Reads s.heap v (toP dx) bs) ∧ plains l = true ∧ PyData.plainAll (toPs l) = true ∧ (toP dx).plain = true ∧ X.A.units + 1 + min (PyData.depthAll (toPs l)) (toP dx).depth < cLine ∧ ((toPs l).any fun y => PyData.eqv y (toP dx)) = b' := fun {l b'} z => by
    split at z
    · rename_i hc
      obtain ⟨h1, h3⟩ := Bool.and_eq_true_iff.mp hc
      obtain ⟨h1, h2⟩ := Bool.and_eq_true_iff.mp h1
      have h3 := of_decide_eq_true h3
      have a := toP_depth dx
      have c := hr.un
      exact ⟨Dp.reads I _ _ _ (toP_dp hx.rep h1) rx, h2, toPs_plain h2, toP_plain h1, by omega, (toP_anys h1 h2).trans (Option.some.inj z)⟩
    · cases z
  have go : ∀ (neg : Bool) (b' : Bool), inD dx dy = some b' → b = (if neg then !b' else b') → wpAny (model X.prog X.w) X.A (compareOp (if neg then .NotIn else .In) v u) (EP X pins σ Q) X.xe s := fun neg b' z zb => by
    cases dy with
    | lst l =>
      obtain ⟨⟨bs, r2⟩, pl, p1, p2, hu, he⟩ := key (b' := b') z
      have pl' : plain (.lst l) = true := pl
      obtain ⟨as, r1⟩ := Dp.reads I _ _ _ (toP_dp hy.rep pl') ry
      cases neg with
      | true => exact SeqAt.notIn_list_data r1 r2 p1 p2 hu (fin (by rw [he, zb]; rfl))
      | false => exact SeqAt.in_list_data r1 r2 p1 p2 hu (fin (by rw [he, zb]; rfl))
    | tup l =>
      obtain ⟨⟨bs, r2⟩, pl, p1, p2, hu, he⟩ := key (b' := b') z
      have pl' : plain (.tup l) = true := pl
      obtain ⟨as, r1⟩ := Dp.reads I _ _ _ (toP_dp hy.rep pl') ry
      cases neg with
      | true => exact SeqAt.notIn_tuple_data r1 r2 p1 p2 hu (fin (by rw [he, zb]; rfl))
      | false => exact SeqAt.in_tuple_data r1 r2 p1 p2 hu (fin (by rw [he, zb]; rfl))
    | str t =>
      cases dx with
      | str c =>
        have z1 : (if c.length = 1 then some (decide (c.cps.getD 0 0 ∈ t.cps.toList)) else none) = some b' := z
        split at z1
        · rename_i hc
          cases hx.str
          cases hy.str
          have e2 := Option.some.inj z1
          have ec : c = ⟨#[c.cps.getD 0 0]⟩ := by
            obtain ⟨⟨l⟩⟩ := c
            have hc' : l.length = 1 := hc
            match l, hc' with
            | [a], _ => rfl
          cases neg with
          | true => exact op_notIn_sign pins s σ H _ _ v u Q I rx ry ⟨c.cps.getD 0 0, t, congrArg V.str ec, rfl, by rw [e2, ← (show b = !b' from zb)]; exact q⟩
          | false => exact op_in_sign pins s σ H _ _ v u Q I rx ry ⟨c.cps.getD 0 0, t, congrArg V.str ec, rfl, by rw [e2, ← (show b = b' from zb)]; exact q⟩
        · cases z1
      | _ => cases z
    | _ => cases z
  rcases ho with rfl | rfl
  · have e1 : inD dx dy = some b := e
    exact go false b e1 rfl
  · have e1 : (inD dx dy).map (!·) = some b := e
    cases z : inD dx dy with
    | none => rw [z] at e1; cases e1
    | some b' =>
      rw [z] at e1
      exact go true b' z (Option.some.inj e1).symm
theorem op_cmpA (B : Cls0) (o : CmpO) {n : Nat} (hr : Room n X.A) : OpR X (compareOp (opc o)) (rCmp X.K B o) := by
  by_cases h : o = .isin ∨ o = .notin
  · exact op_cmpIn B o hr h
  · exact op_cmp B o hr ⟨fun z => h (.inl z), fun z => h (.inr z)⟩

/-! ### subscripts -/
def rSub (K : PySem.W.Frag) (B : Cls0) : R2 := fun x y H Q => ∃ G dx dk d, RepC K B G H x dx ∧ RepC K B G H y dk ∧ subD dx dk = some d ∧ ∀ v G' H', Mk1 K B G H (.val d) v G' H' → Q v H'
theorem ix_sub (B : Cls0) : IxR X (rSub X.K B) := by
  intro value slice pins s σ H x y v u Q I rx ry h hs
  obtain ⟨G, dx, dk, d, hx, hk, e, q⟩ := h
  cases dk with
  | int k =>
    cases hk.int
    cases dx with
    | lst l =>
      have e1 : atI l k = some d := e
      obtain ⟨a, vs, rfl, ha, r⟩ := hx.lst
      obtain ⟨j, w, h1, h2, h3⟩ := atI_get2 r.length e1
      obtain ⟨w', h4, h5⟩ := r.get h1
      rw [h2] at h4
      have e4 := Option.some.inj h4
      subst e4
      exact ix_list value slice pins s σ H _ _ v u Q I rx ry ⟨a, vs, k, w, rfl, rfl, .inl (.inl ha), h3, q _ _ _ (Mk1.val h5)⟩ hs
    | tup l =>
      have e1 : atI l k = some d := e
      obtain ⟨a, vs, rfl, ha, r⟩ := hx.tup
      obtain ⟨j, w, h1, h2, h3⟩ := atI_get2 r.length e1
      obtain ⟨w', h4, h5⟩ := r.get h1
      rw [h2] at h4
      have e4 := Option.some.inj h4
      subst e4
      exact ix_tup value slice pins s σ H _ _ v u Q I rx ry ⟨a, vs, k, w, rfl, rfl, Fz.sub.seqT ha, h3, q _ _ _ (Mk1.val h5)⟩ hs
    | str z =>
      have e1 : (if z.length ≤ LL then (atI z.cps.toList k).map fun c => D.str ⟨#[c]⟩ else none) = some d := e
      split at e1
      · rename_i hz
        cases hx.str
        cases ec : atI z.cps.toList k with
        | none => rw [ec] at e1; cases e1
        | some c =>
          rw [ec] at e1
          have e2 := Option.some.inj e1
          subst e2
          exact ix_str value slice pins s σ H _ _ v u Q I rx ry ⟨z, k, c, rfl, rfl, LL_line hz, ec, q _ _ _ (Mk1.val (.str _))⟩ hs
      · cases e1
    | scr l =>
      have e1 : (atI l k).map D.int = some d := e
      obtain ⟨a, rfl, ha⟩ := hx.scr
      cases ec : atI l k with
      | none => rw [ec] at e1; cases e1
      | some c =>
        rw [ec] at e1
        have e2 := Option.some.inj e1
        subst e2
        obtain ⟨j, w, h1, h2, h3⟩ := atI_get2 (xs := l.map V.int) (by rw [List.length_map]) ec
        rw [List.getElem?_map, h1] at h2
        have e3 := Option.some.inj h2
        subst e3
        exact ix_list value slice pins s σ H _ _ v u Q I rx ry ⟨a, l.map V.int, k, _, rfl, rfl, ha, h3, q _ _ _ (Mk1.val (.int _))⟩ hs
    | _ => cases e
  | _ => cases e

/-! ### slices -/
def rSlc (K : PySem.W.Frag) (B : Cls0) : V → Option Int → Option Int → Hp → VK → Prop := fun x lo hi H Q => ∃ G dx t, RepC K B G H x dx ∧ slcD dx lo hi = some t ∧ ∀ v G' H', Mk1 K B G H t v G' H' → Q v H'
theorem sl_slc (B : Cls0) : SlR X (rSlc X.K B) := by
  intro pins s σ H x v vl vu lo hi sl Q I rx hs pl pu h
  obtain ⟨G, dx, t, hx, e, q⟩ := h
  cases dx with
  | lst l =>
    have e2 := Option.some.inj e
    subst e2
    obtain ⟨a, vs, rfl, ha, r⟩ := hx.lst
    exact sl_list pins s σ H _ v vl vu lo hi sl Q I rx hs pl pu ⟨a, vs, rfl, .inl (.inl ha), fun p hp => q _ _ _ (Mk1.newL hp (cut_reps r lo hi))⟩
  | tup l =>
    have e2 := Option.some.inj e
    subst e2
    obtain ⟨a, vs, rfl, ha, r⟩ := hx.tpm
    refine sl_tupF pins s σ H _ v vl vu lo hi sl Q I rx hs pl pu ⟨a, vs, rfl, Fz.sub.seqT ha.sq, fun hw => ?_, fun p o hp hc hd => q _ _ _ (Mk1.newT hp hc hd (cut_reps r lo hi))⟩
    have rc := cut_reps r lo hi
    rw [hw] at rc
    exact q _ _ _ (Mk1.val (.tup ha rc))
  | str z =>
    have e1 : (if z.length ≤ LL then some (T.val (.str (L2.cutS z lo hi))) else none) = some t := e
    split at e1
    case isFalse => cases e1
    rename_i hz
    cases e1
    cases hx.str
    exact sl_str pins s σ H _ v vl vu lo hi sl Q I rx hs pl pu ⟨z, rfl, LL_line hz, q _ _ _ (Mk1.val (.str _))⟩
  | _ => cases e

/-! ### built-ins -/
def rBlt (K : PySem.W.Frag) (B : Cls0) (b : Blt) : List V → Hp → VK → Prop := fun vs H Q => ∃ G ds t, RepCs K B G H vs ds ∧ bltD b ds = some t ∧ ∀ v G' H', Mk1 K B G H t v G' H' → Q v H'
def bltV : Blt → Value
  | .len => .builtin "len" | .abs => .builtin "abs" | .int => .type "int" | .max => .builtin "max" | .min => .builtin "min" | .sum => .builtin "sum" | .all => .builtin "all" | .any => .builtin "any"
  | .tuple => .type "tuple" | .list => .type "list" | _ => .builtin "isinstance"
def isIs : Blt → Bool
  | .isint | .isbool | .istuple | .isstr => true
  | _ => false
theorem RepCs.one {K : PySem.W.Frag} {B : Cls0} {G : Gh} {H : Hp} {vs : List V} {d : D} (r : RepCs K B G H vs [d]) : ∃ v, vs = [v] ∧ RepC K B G H v d := by
  cases r with
  | cons a b =>
    cases b
    exact ⟨_, rfl, a⟩
theorem RepCs.two {K : PySem.W.Frag} {B : Cls0} {G : Gh} {H : Hp} {vs : List V} {d d' : D} (r : RepCs K B G H vs [d, d']) : ∃ v v', vs = [v, v'] ∧ RepC K B G H v d ∧ RepC K B G H v' d' := by
  cases r with
  | cons a b =>
    cases b with
    | cons a' c =>
      cases c
      exact ⟨_, _, rfl, a, a'⟩
theorem call_blt (B : Cls0) (b : Blt) (hb : isIs b = false) (hc : X.calm = true) : CallR X (bltV b) (rBlt X.K B b) := by
  intro pins s σ H vs us Q I r h
  obtain ⟨G, ds, t, hv, e, q⟩ := h
  unfold bltD at e
  split at e
  · obtain ⟨v, rfl, h1⟩ := hv.one
    have e2 := Option.some.inj e
    subst e2
    obtain ⟨a, xs, rfl, ha, ra⟩ := h1.lst
    refine call_len_seq pins s σ H _ us Q I r ⟨a, xs, rfl, .inl (.inl (.inl ha)), ?_⟩
    rw [ra.length]
    exact q _ _ _ (Mk1.val (.int _))
  · obtain ⟨v, rfl, h1⟩ := hv.one
    have e2 := Option.some.inj e
    subst e2
    obtain ⟨a, xs, rfl, ha, ra⟩ := h1.tup
    refine call_len_seq pins s σ H _ us Q I r ⟨a, xs, rfl, .inr (Fz.sub.seqT ha), ?_⟩
    rw [ra.length]
    exact q _ _ _ (Mk1.val (.int _))
  · obtain ⟨v, rfl, h1⟩ := hv.one
    have e2 := Option.some.inj e
    subst e2
    obtain ⟨a, rfl, ha⟩ := h1.scr
    refine call_len_seq pins s σ H _ us Q I r ⟨a, _, rfl, .inl ha, ?_⟩
    rw [List.length_map]
    exact q _ _ _ (Mk1.val (.int _))
  · split at e
    · rename_i hz
      obtain ⟨v, rfl, h1⟩ := hv.one
      have e2 := Option.some.inj e
      subst e2
      cases h1.str
      exact call_len_str pins s σ H _ us Q I r ⟨_, rfl, LL_line hz, q _ _ _ (Mk1.val (.int _))⟩
    · cases e
  · obtain ⟨v, rfl, h1⟩ := hv.one
    have e2 := Option.some.inj e
    subst e2
    cases h1.int
    exact call_abs pins s σ H _ us Q I r ⟨_, rfl, q _ _ _ (Mk1.val (.int _))⟩
  · obtain ⟨v, rfl, h1⟩ := hv.one
    have e2 := Option.some.inj e
    subst e2
    cases h1.int
    exact call_int1 pins s σ H _ us Q I r (.inl ⟨_, rfl, q _ _ _ (Mk1.val (.int _))⟩)
  · obtain ⟨v, rfl, h1⟩ := hv.one
    have e2 := Option.some.inj e
    subst e2
    cases h1.bl
    exact call_int1 pins s σ H _ us Q I r (.inr ⟨_, rfl, q _ _ _ (Mk1.val (.int _))⟩)
  · obtain ⟨v, v', rfl, h1, h2⟩ := hv.two
    have e2 := Option.some.inj e
    subst e2
    cases h1.int
    cases h2.int
    exact call_max2 hc pins s σ H _ us Q I r ⟨_, _, rfl, q _ _ _ (Mk1.val (.int _))⟩
  · obtain ⟨v, v', rfl, h1, h2⟩ := hv.two
    have e2 := Option.some.inj e
    subst e2
    cases h1.int
    cases h2.int
    exact call_min2 hc pins s σ H _ us Q I r ⟨_, _, rfl, q _ _ _ (Mk1.val (.int _))⟩
  · rename_i l
    obtain ⟨v, rfl, h1⟩ := hv.one
    cases z : intsD l with
    | none => rw [z] at e; cases e
    | some ns =>
      rw [z] at e
      have e2 := Option.some.inj e
      subst e2
      obtain ⟨a, xs, rfl, ha, ra⟩ := h1.lst
      have ex := intsD_vals z ra
      subst ex
      exact cr_sum hc pins s σ H _ us Q I r ⟨a, ns, rfl, .inl (.inl ha), q _ _ _ (Mk1.val (.int _))⟩
  · rename_i l
    obtain ⟨v, rfl, h1⟩ := hv.one
    cases z : blsD l with
    | none => rw [z] at e; cases e
    | some ns =>
      rw [z] at e
      have e2 := Option.some.inj e
      subst e2
      obtain ⟨a, xs, rfl, ha, ra⟩ := h1.lst
      have ex := blsD_vals z ra
      subst ex
      exact cr_all hc pins s σ H _ us Q I r ⟨a, ns, rfl, .inl (.inl ha), q _ _ _ (Mk1.val (.bl _))⟩
  · rename_i l
    obtain ⟨v, rfl, h1⟩ := hv.one
    cases z : blsD l with
    | none => rw [z] at e; cases e
    | some ns =>
      rw [z] at e
      have e2 := Option.some.inj e
      subst e2
      obtain ⟨a, xs, rfl, ha, ra⟩ := h1.lst
      have ex := blsD_vals z ra
      subst ex
      exact cr_any hc pins s σ H _ us Q I r ⟨a, ns, rfl, .inl (.inl ha), q _ _ _ (Mk1.val (.bl _))⟩
  · obtain ⟨v, rfl, h1⟩ := hv.one
    have e2 := Option.some.inj e
    subst e2
    obtain ⟨a, xs, rfl, ha, ra⟩ := h1.lst
    exact call_tupF pins s σ H _ us Q I r ⟨a, xs, rfl, .inl ⟨.inl (.inl ha), fun p o hp hc hd => q _ _ _ (Mk1.newT hp hc hd ra)⟩⟩
  · obtain ⟨v, rfl, h1⟩ := hv.one
    have e2 := Option.some.inj e
    subst e2
    obtain ⟨a, xs, rfl, ha, ra⟩ := h1.tpm
    exact call_tupF pins s σ H _ us Q I r ⟨a, xs, rfl, .inr ⟨Fz.sub.seqT ha.sq, q _ _ _ (Mk1.val (.tup ha ra))⟩⟩
  · obtain ⟨v, rfl, h1⟩ := hv.one
    have e2 := Option.some.inj e
    subst e2
    obtain ⟨a, xs, rfl, ha, ra⟩ := h1.lst
    exact call_list_of pins s σ H _ us Q I r ⟨a, xs, rfl, .inl (.inl (.inl ha)), fun p hp => q _ _ _ (Mk1.newL hp ra)⟩
  · obtain ⟨v, rfl, h1⟩ := hv.one
    have e2 := Option.some.inj e
    subst e2
    obtain ⟨a, xs, rfl, ha, ra⟩ := h1.tup
    exact call_list_of pins s σ H _ us Q I r ⟨a, xs, rfl, .inr (Fz.sub.seqT ha), fun p hp => q _ _ _ (Mk1.newL hp ra)⟩
  · cases hb
  · cases hb
  · cases hb
  · cases hb
  · cases e
/-- isinstance by a built-in type -/
def isTy : Blt → String
  | .isint => "int" | .isbool => "bool" | .istuple => "tuple" | _ => "str"
theorem kit_tab {b : Blt} (hb : isIs b = true) {d : D} {t : T} (e : bltD b [d] = some t) : ∃ n k, tyD d = some n ∧ t = .val (.bl k) ∧ kitB (tyN n) (isTy b) = some k := by
  cases d <;> cases b <;> first
    | (cases hb; done)
    | (cases e; done)
    | (have e2 := Option.some.inj e; subst e2; exact ⟨_, _, rfl, rfl, by decide +kernel⟩)
theorem call_is (B : Cls0) (b : Blt) (hb : isIs b = true) {pins : List (Addr × Obj)} {s : Shared} {σ : L2.St} {H : Hp} {x : V} {us : List Value} {Q : VK} (I : L2.Inv X pins σ H s) (r : Vals [x, .ty (isTy b)] us) {G : Gh} {d : D} {t : T} (hx : RepC X.K B G H x d) (e : bltD b [d] = some t) (q : ∀ v G' H', Mk1 X.K B G H t v G' H' → Q v H') :
    wpAny (model X.prog X.w) X.A (PySem.call (.builtin "isinstance") us) (EP X pins σ Q) X.xe s := by
  obtain ⟨n, k, h1, rfl, h2⟩ := kit_tab hb e
  exact call_isi pins s σ H _ us Q I r ⟨x, _, _, _, k, rfl, .ty _, hx.ty h1, kit_ty h2, q _ _ _ (Mk1.val (.bl _))⟩
end
end Ev
end

section
set_option linter.all false
set_option maxRecDepth 100000
set_option maxHeartbeats 4000000
/-! repr of data. -/
namespace Ev
open PySem L2 PySem.Spec PyProof.Rows
mutual
theorem toQ_showable : ∀ {d : D}, showD d = true → (toQ d).showable = true
  | .non, _ => rfl
  | .bl _, _ => rfl
  | .str _, _ => rfl
  | .int _, h => h
  | .tup l, h => by
    show PyData.showableAll (toQs l) = true
    exact toQs_showable h
  | .lst l, h => by
    show PyData.showableAll (toQs l) = true
    exact toQs_showable h
  | .dic _ _, _ => rfl
  | .ins _ _, h => nomatch h
  | .exc _ _, h => nomatch h
  | .scr _, h => nomatch h
theorem toQs_showable : ∀ {l : List D}, showDs l = true → PyData.showableAll (toQs l) = true
  | [], _ => rfl
  | d :: r, h => by
    obtain ⟨h1, h2⟩ := Bool.and_eq_true_iff.mp (show (showD d && showDs r) = true from h)
    show (PyData.showable (toQ d) && PyData.showableAll (toQs r)) = true
    rw [toQ_showable h1, toQs_showable h2] <;> rfl
end
section
variable {X : Cx} {B : Cls0} {pins : List (Addr × Obj)} {σ : L2.St} {H : Hp} {s : Shared}
/-- the module table is a dict of the written part -/
def SysD (K : PySem.W.Frag) : Prop := ∃ o, K.lookup sysModules = some o ∧ o.cls = .type "dict"
mutual
theorem rep_reads (I : L2.Inv X pins σ H s) (hs : SysD X.K) : ∀ {v : V} {d : D} {u : Value}, Rep X.K B H v d → showD d = true → L2.RelV v u → ∃ as, Reads s.heap u (toQ d) as ∧ sysModules ∉ as
  | _, _, _, .non, _, r => by
    cases r
    exact ⟨[], .none, by simp⟩
  | _, _, _, .bl b, _, r => by
    cases r
    exact ⟨[], .bool b, by simp⟩
  | _, _, _, .int i, _, r => by
    obtain ⟨t, rfl⟩ := r
    exact ⟨[], .int i t, by simp⟩
  | _, _, _, .str x, _, r => by
    obtain ⟨t, rfl⟩ := r
    exact ⟨[], .str x t, by simp⟩
  | _, _, _, .tup a rs, h, r => by
    cases r
    obtain ⟨its, rv, pl, _⟩ := I.tuple a.sq
    obtain ⟨as, h1, h2⟩ := reps_reads I hs rs h rv
    obtain ⟨o, g1, g2, n, g3⟩ := pl
    exact ⟨as, .tuple g1 g2 g3 (by simpa using h1), h2⟩
  | _, _, _, .lst a rs, h, r => by
    cases r
    obtain ⟨its, rv, pl, _⟩ := I.list (.inl (.inl a))
    obtain ⟨as, h1, h2⟩ := reps_reads I hs rs h rv
    obtain ⟨o, g1, g2, n, g3⟩ := pl.isList
    refine ⟨_, .list g1 g2 g3 (by simpa using h1), fun z => ?_⟩
    rcases List.mem_cons.mp z with z | z
    · obtain ⟨o', k1, k2⟩ := hs
      rw [z] at k1
      cases (I.kIn _ _ k1).symm.trans g1
      have e := k2.symm.trans g2
      injection e with e
      exact absurd e (by decide)
    · exact h2 z
  | _, _, _, .scr _, h, _ => nomatch h
  | _, _, _, .dic (ks := ks) (ds := ds) a l rs, h, r => by
    cases r
    cases ks with
    | cons _ _ => cases ds <;> cases h
    | nil =>
      obtain ⟨_, ne, vs, kv, o, es, ep, g1, g2, g3, _, gp, _⟩ := (show ObjOk X.prog X.w H s.heap _ (.dK []) from I.hok _ _ a)
      cases kv
      have e0 : es.toList = [] := by
        cases q : es.toList with
        | nil => rfl
        | cons x y => rw [q] at gp; cases gp
      refine ⟨_, .dict g1 g2.1 g3 (by rw [e0]; exact .nil) (by rw [e0]; exact .nil), ?_⟩
      simpa using fun z : sysModules = _ => by
        rw [z] at ne
        simp at ne
  | _, _, _, .ins _ _ _, h, _ => nomatch h
  | _, _, _, .exc _ _ _, h, _ => nomatch h
theorem reps_reads (I : L2.Inv X pins σ H s) (hs : SysD X.K) : ∀ {vs : List V} {ds : List D} {us : List Value}, Reps X.K B H vs ds → showDs ds = true → Vals vs us → ∃ as, ReadsAll s.heap us (toQs ds) as ∧ sysModules ∉ as
  | _, _, _, .nil, _, r => by
    cases r
    exact ⟨[], .nil, by simp⟩
  | _, _, _, .cons a rs, h, r => by
    obtain ⟨h1, h2⟩ := Bool.and_eq_true_iff.mp (show (showD _ && showDs _) = true from h)
    cases r with
    | cons ra rr =>
      obtain ⟨as, e1, e2⟩ := rep_reads I hs a h1 ra
      obtain ⟨bs, f1, f2⟩ := reps_reads I hs rs h2 rr
      exact ⟨as ++ bs, .cons e1 f1, fun z => (List.mem_append.mp z).elim e2 f2⟩
end
/-- repr(x) -/
def rRepr (K : PySem.W.Frag) (B : Cls0) : List V → Hp → VK → Prop := fun xs H Q => ∃ x d, xs = [x] ∧ Rep K B H x d ∧ (showD d = true ∧ (toQ d).depth ≤ 64) ∧ (toQ d).shown.length ≤ sizeLine ∧ Q (.str (toQ d).shown) H
theorem call_reprD {n : Nat} (hg : X.A.guards = some []) (hr : Room n X.A) (hs : SysD X.K) : CallR X (.builtin "repr") (rRepr X.K B) := by
  intro pins s σ H xs us Q I r ⟨x, d, e, R, ⟨sh, dp⟩, sz, q⟩
  subst e
  obtain ⟨u, eu, ru⟩ := Vals.one r
  subst eu
  have un := hr.un
  have fin : ∀ h' t t', (∀ b o, s.heap.get? b = some o → h'.get? b = some o) → EP X pins σ Q (.str (toQ d).shown t) { s with heap := h', toks := t' } := fun h' t t' k => ⟨.str _, H, I.kept (t' := t') k, ⟨t, rfl⟩, q⟩
  have many : ∀ a, u = .ref a → wpAny (model X.prog X.w) X.A (PySem.call (.builtin "repr") [u]) (EP X pins σ Q) X.xe s := fun a ea => by
    obtain ⟨as, rd, nm⟩ := rep_reads I hs R sh ru
    subst ea
    exact repr_of_reads' rd (toQ_showable sh) (fun _ => nm) hg (by omega) (fun _ _ z => z) (fun h' u' tk k => fin h' u' tk k) sz
  cases R with
  | non => cases ru; exact P.repr_of_none (fin s.heap _ _ fun _ _ z => z)
  | bl b => cases ru; exact P.repr_of_bool (by have := fin s.heap s.toks (s.toks + 1) fun _ _ z => z; cases b <;> exact this)
  | int i => obtain ⟨t, rfl⟩ := ru; exact P.repr_of_int (of_decide_eq_true sh) (fin s.heap _ _ fun _ _ z => z)
  | str z => obtain ⟨t, rfl⟩ := ru; exact P.repr_of_str (fin s.heap _ _ fun _ _ z => z) sz
  | tup a b => cases ru; exact many _ rfl
  | lst a b => cases ru; exact many _ rfl
  | dic a b c => cases ru; exact many _ rfl
  | scr a => cases sh
  | ins a b c => cases sh
  | exc a b c => cases sh
end
end Ev
end

section
set_option linter.all false
set_option maxRecDepth 100000
set_option maxHeartbeats 4000000
/-! Errors as values: made, their field, isinstance. -/
namespace Ev
open PySem L2 PySem.Spec PyProof.Rows
/-- what the written part tells of the error class at C; D: the class whose __init__ it has, at f -/
structure XC (K : PySem.W.Frag) (D f C : Addr) : Prop where
  ask : AskC K D C
  fld : XfC K C
  is_ : ExcC K C
  ini : PySem.W.findIn K (.ref C) "__init__" = some (some (.ref f))
  typ : PySem.W.typeIn K (.ref f) = some (.type "function")
theorem upd_again {H : Hp} {a d : Addr} {o o' z : HO} (h : d ≠ a) : upd (upd (upd H a o) d z) a o' = upd (upd H d z) a o' := by
  funext b
  by_cases h1 : b = a
  · subst h1
    rw [upd_same, upd_same]
  · rw [upd_ne h1, upd_ne h1]
    by_cases h2 : b = d
    · subst h2
      rw [upd_same, upd_same]
    · rw [upd_ne h2, upd_ne h2, upd_ne h1]
theorem upd_twice {H : Hp} {a : Addr} {o o' : HO} : upd (upd H a o) a o' = upd H a o' := by
  funext b
  by_cases h1 : b = a
  · subst h1
    rw [upd_same, upd_same]
  · rw [upd_ne h1, upd_ne h1, upd_ne h1]
section
variable {X : Cx} {D f C : Addr} {fd : FuncData} {x : Str} {p pos : Pos} {e : Expr} {te : TE}
/-- of one value -/
def q1 (R : V → Hp → Prop) (vs : List V) (H : Hp) : Prop := match vs with
  | [y] => R y H
  | _ => False
/-- a new error -/
def tExn (C : Addr) (te : TE) : TE := fun σ H Q => te σ H fun y H1 => ∀ a d, H1 a = none → H1 d = none → d ≠ a → Q (.ref a) (upd (upd H1 d (exd d [("value", y)])) a (exv a C d))
theorem pe_exn {CX : CXT} (T : XC X.K D f C) (Fi : FnOk X.prog X.w X.K X.mg X.base CX 1 f fd ["self", "value"] (spAsk X.K D)) (hr : Room 2 X.A) (hb : Binds X.K fd ["self", "value"] []) (hx : Passes CX X (fun _ _ _ => False)) (hg : Gl X x) (hm : X.mg x = some (.ref C)) (he : PE X e te)
    (hst : starEach [e] X.env = (false, eval e X.env) :: starEach [] X.env) (hdb : (x == ("__debug__" : Str)) = false) : PE X (.Call (.Name x p) [e] [] pos) (tExn C te) := by
  constructor
  intro pins s σ H Q I h
  obtain ⟨nm, qn, N, bs, bm, sn, sub, ab, col, dd, k0, k1, k2, k3, k5, hC, hbm⟩ := T.ask.ox.cls
  apply wpAny_Call_Name_kw
  apply ld_glob I hg hm (hd := hdb)
  have hA := (pa_cons he pa_nil hst).run pos pins s σ H (q1 fun y H1 => ∀ a d, H1 a = none → H1 d = none → d ≠ a → Q (.ref a) (upd (upd H1 d (exd d [("value", y)])) a (exv a C d))) I h
  refine PySem.W.callWith_K I.ok.mod.kin T.ask.ox.kC (thn hA fun us s1 w => ?_) hst (by rfl)
  obtain ⟨vs, H1, I1, rv, q⟩ := w
  obtain ⟨y, rfl⟩ : ∃ y, vs = [y] := by
    match vs, q with
    | [y], _ => exact ⟨y, rfl⟩
  have q : ∀ a d, H1 a = none → H1 d = none → d ≠ a → Q (.ref a) (upd (upd H1 d (exd d [("value", y)])) a (exv a C d)) := q
  obtain ⟨u, eu, ry⟩ := Vals.one rv
  subst eu
  refine ⟨I1.kIn, ?_⟩
  show wpAny _ _ (PySem.call (.ref C) [u]) _ _ _
  obtain ⟨hp, g, dr, tk, os⟩ := s1
  have le : hp.objs.size ≤ hp.objs.size + 1 := Nat.le_succ _
  generalize ea : hp.objs.size + 1 = a at le
  have na : H1 a = none := I1.hok.fresh le
  have hk : ∀ b o, hp.get? b = some o → ((hp.push (PySem.W.kdv_tup [u])).push (PySem.HandSPX.excO C hp.objs.size)).get? b = some o := fun b o z => Heap.get?_push_of_some _ (Heap.get?_push_of_some _ z)
  have ga : ((hp.push (PySem.W.kdv_tup [u])).push (PySem.HandSPX.excO C hp.objs.size)).get? a = some (PySem.HandSPX.excO C hp.objs.size) := by
    rw [← ea]
    heap_get
  have I2 : L2.Inv X pins σ (upd H1 a (exo a C none)) ⟨(hp.push (PySem.W.kdv_tup [u])).push (PySem.HandSPX.excO C hp.objs.size), g, dr, tk, os⟩ := I1.laid (t' := tk) hk le (exo_ok ga)
  have rr : Vals [V.ref a, y] [Value.ref a, u] := .cons rfl (.cons ry .nil)
  refine wpAny_call (PySem.HandSPX.call_own F.excBase_ValueError (fun Y => PySem.HandSPX.refsVE_contains Y bm hbm) (I1.kIn _ _ hC) (PySem.W.looks_findIn I1.kIn T.ini) (fun self => PySem.W.bind_fn I1.kIn self T.typ) (by show 1 ≤ sizeLine; rw [sizeLine_eq]; omega) ?_)
  rw [ea]
  have bt := hb _ [Value.ref a, u] I2.kIn rfl
  refine codeAny_mono (Fi.run _ X.stack _ _ ⟨[Value.ref a, u], []⟩ [Value.ref a, u] [V.ref a, y] (fun v H2 => v = .non ∧ ∃ d, H1 d = none ∧ d ≠ a ∧ H2 = upd (upd H1 d (exd d [("value", y)])) a (exo a C (some d))) (fun _ _ _ => False) (hr.make C [u] []) (I2.env0.make C [u] []) bt rr
    ⟨a, C, y, rfl, T.ask, upd_same, fun d nd ne => ⟨rfl, d, by rw [← nd, upd_ne ne], ne, upd_again ne⟩⟩) fun r s' hq => ?_
  match r, hq with
  | .error er, hq => exact hx pins σ _ _ er s' I2 hq
  | .ok .next, hq => exact False.elim hq
  | .ok .brk, hq => exact False.elim hq
  | .ok .cont, hq => exact False.elim hq
  | .ok (.ret z), hq =>
    obtain ⟨v, H2, J, rz, ev, d, nd, ne, eH⟩ := I2.after hq
    subst ev eH
    obtain ⟨t2, ho⟩ := exo_at J.hok upd_same
    have J2 := J.write (t' := s'.toks) (x := a) (e := a) (o := exv a C d) (by rw [upd_same]; exact True.intro) (.inl rfl) (fun _ _ _ z => z) ⟨_, ho⟩ (exv_ok ho rfl rfl rfl)
    rw [upd_twice] at J2
    exact ⟨rz, .ref a, _, J2, rfl, q a d na nd ne⟩
end
/-- isinstance of an error, or of other data -/
structure IsF (K : PySem.W.Frag) (B : Cls0) (n : Nat) (cs : List Nat) (cv : Value) : Prop where
  er : ∀ c, c < n → ExcC K (B.X c) ∧ PySem.W.kitOne K (.ref (B.X c)) cv = some (cs.contains c)
  ty : ∀ k, k ≤ 5 → PySem.W.kitOne K (.type (tyN k)) cv = some false
/-- what errors ask of the program -/
structure ErrF (P : Program) (w : World) (K : PySem.W.Frag) (mg : Str → Option Value) (base : Heap) (B : Cls0) : Prop where
  ex : ∃ (D f : Addr) (fd : FuncData), (∀ c, XC K D f (B.X c)) ∧ FnOk P w K mg base (L2.CX P w) 1 f fd ["self", "value"] (spAsk K D) ∧ Binds K fd ["self", "value"] []
  sys : SysD K
/-- the class of that name, as isinstance asks it -/
structure IsN (K : PySem.W.Frag) (mg : Str → Option Value) (B : Cls0) (x : Str) (n : Nat) (cs : List Nat) : Prop where
  ex : ∃ c cv, ClsV c cv ∧ IsF K B n cs cv ∧ L2.RelV c cv ∧ (mg x = some cv ∨ (mg x = none ∧ bootBuiltins x = some cv))
end Ev
end

section
set_option linter.all false
set_option maxRecDepth 100000
/-! What is walked: a list (false) or a tuple (true). -/
namespace Ev
open PySem L2 PySem.Spec PyProof.Rows
def SqB (K : PySem.W.Frag) (H : Hp) (a : Addr) (b : Bool) (xs : List V) : Prop := match b with
  | false => SqL K H a xs
  | true => SqT K H a xs
theorem Sub.seqB {K : PySem.W.Frag} {F F' : Hp} {a : Addr} {b : Bool} {xs : List V} (h : Sub F F') (q : SqB K F a b xs) : SqB K F' a b xs := match b, q with
  | false, q => h.seqL q
  | true, q => h.seqT q
/-- an iterator of a list (false), of a tuple (true) -/
def SrcIt : Bool → Heap → Addr → Addr → Nat → Prop
  | false, h, it, a, i => h.IsListIter it a i
  | true, h, it, a, i => h.IsTupleIter it a i
def SrcAt : Bool → Heap → Addr → Array Value → Prop
  | false, h, a, its => h.IsList a its
  | true, h, a, its => h.IsTuple a its
theorem SrcIt.at' {b : Bool} {h h' : Heap} {it a : Addr} {i : Nat} (q : SrcIt b h it a i) (k : ∀ o, h.get? it = some o → h'.get? it = some o) : SrcIt b h' it a i := match b, q with
  | false, q => Heap.IsListIter.at q k
  | true, q => Heap.IsTupleIter.at q k
theorem SrcIt.cell {b : Bool} {h : Heap} {it a : Addr} {i : Nat} (q : SrcIt b h it a i) : ∃ o, h.get? it = some o ∧ ∀ v, o.data ≠ .cell v := match b, q with
  | false, ⟨o, q1, q2, q3⟩ => ⟨o, q1, fun v z => by rw [q3] at z; cases z⟩
  | true, ⟨o, q1, q2, q3⟩ => ⟨o, q1, fun v z => by rw [q3] at z; cases z⟩
theorem draw_b {prog : Program} {w : World} {A : Around} (hh : A.handled = none) (b : Bool) (it a : Addr) (hne : a ≠ it) (its : Array Value) :
    Draws prog w A it [it, a] its.size (fun i v => its[i]? = some v) (fun i h => SrcIt b h it a i ∧ SrcAt b h a its) := match b with
  | false => Draws.list hh it a hne its
  | true => Draws.tuple hh it a hne its
def srcObj : Bool → Addr → Obj
  | false, a => { cls := .type "list_iterator", data := .fields #[.ref a, .int 0 0] }
  | true, a => { cls := .type "tuple_iterator", data := .fields #[.ref a, .int 0 0] }
theorem begins_b (b : Bool) (a : Addr) (its : Array Value) : Begins (.ref a) (srcObj b a) fun h => SrcAt b h a its := match b with
  | false => begins_list a its
  | true => begins_tuple a its
theorem srcIt_new (b : Bool) {h : Heap} {it a : Addr} (q : h.get? it = some (srcObj b a)) : SrcIt b h it a 0 := match b, q with
  | false, q => ⟨_, q, rfl, rfl⟩
  | true, q => ⟨_, q, rfl, rfl⟩
section
variable {X : Cx} {pins : List (Addr × Obj)} {σ : L2.St} {H : Hp} {s : Shared} {a : Addr} {b : Bool} {xs ys : List V}
theorem inv_src (I : Inv X pins σ H s) (q : SqB X.K H a b xs) : ∃ its : List Value, Vals xs its ∧ SrcAt b s.heap a its.toArray ∧ a < s.heap.objs.size := match b, q with
  | false, q => by
    obtain ⟨its, r, p, _⟩ := I.list q
    exact ⟨its, r, p.isList, p.lt⟩
  | true, q => by
    obtain ⟨its, r, p, _⟩ := I.tuple q
    obtain ⟨o, o1, _⟩ := id p
    exact ⟨its, r, p, Heap.lt_size o1⟩
theorem inv_src_inj (I : Inv X pins σ H s) (q : SqB X.K H a b xs) (q' : SqB X.K H a b ys) : xs = ys := match b, q, q' with
  | false, q, q' => I.list_inj q q'
  | true, q, q' => I.tuple_inj q q'
end
/-- a new pair of the i-th of f and the i-th of g -/
def YPairF (f g : Nat → Option V) : Nat → Hp → V → Hp → Prop := fun i H v H' => ∃ T o x y, v = .ref T ∧ H T = none ∧ (o.cls = Value.type "tuple" ∧ o.dict = none) ∧ H' = upd H T (.frz o (.tup [x, y])) ∧ f i = some x ∧ g i = some y
/-- a pair is laid -/
theorem pair_ok {P : Program} {w : World} {H : Hp} {h : Heap} {T : Addr} {x y : V} {u v : Value} (rx : RelV x u) (ry : RelV y v) (g : h.get? T = some (tpO #[u, v])) : ObjOk P w (upd H T (.frz (tpO #[u, v]) (.tup [x, y]))) h T (.frz (tpO #[u, v]) (.tup [x, y])) :=
  ⟨g, by show 2 ≤ sizeLine; decide, [u, v], .cons rx (.cons ry .nil), ⟨_, g, rfl, _, rfl⟩⟩
end Ev
end

section
set_option linter.all false
set_option maxRecDepth 100000
set_option maxHeartbeats 4000000
/-! enumerate over a tuple. -/
namespace Ev
open PySem L2 PySem.Spec PyProof.Rows
section
variable {prog : Program} {w : World} {A : Around} {E : Value → Shared → Prop} {s : Shared}
/-- the cell of a new enumerate -/
abbrev enObj (a : Addr) : Obj := { cls := Value.type "enumerate", data := .fields #[.none, .bool false, .ref a, rawInt 0, .none, .none] }
theorem meets_en {v : Value} {o : Obj} {Hh : Heap → Prop} (B : Begins v o Hh) :
    Meets (Builtin.«enumerate.__new__» ⟨[.type "enumerate", v], []⟩) fun _ R s => Hh s.heap ∧ R (.ok (.ret (.ref (s.heap.push o).objs.size))) { s with heap := (s.heap.push o).push (enObj s.heap.objs.size) } :=
  .of_wp fun prog w A R s q => by
    obtain ⟨q1, q2⟩ := q
    have sub := sub_enumerate
    have go : ∀ {A' : Around} {E' : Value → Shared → Prop} {Q : Value → Shared → Prop}, Q (.ref s.heap.objs.size) { s with heap := s.heap.push o } → wpAny (model prog w) A' (pyIter v) Q E' s := fun q => B.iter prog w _ _ s _ q1 q
    obtain ⟨hp, g, d, tk, os⟩ := s
    wp_walk using go
    refine wpAny_stack_any fun st => wpAny_pure ?_
    split
    next c _ _ _ _ _ => cases (c == Value.type "enumerate") <;> (wp_walk using go; exact ⟨_, rfl, q2⟩)
    next => wp_walk using go; exact ⟨_, rfl, q2⟩
theorem call_en {v : Value} {o : Obj} {Hh : Heap → Prop} {Q : Value → Shared → Prop} (B : Begins v o Hh) (q : Hh s.heap)
    (h : ∀ h', IsEnum h' (s.heap.objs.size + 1) s.heap.objs.size 0 .none → h'.get? s.heap.objs.size = some o → (∀ b u, s.heap.get? b = some u → h'.get? b = some u) → Q (.ref (s.heap.objs.size + 1)) { s with heap := h' }) :
    wpAny (model prog w) A (PySem.call (.type "enumerate") [v]) Q E s := by
  have sz : (s.heap.push o).objs.size = s.heap.objs.size + 1 := Heap.size_push ..
  have g1 : (s.heap.push o).get? s.heap.objs.size = some o := Heap.get?_push_size _ B.free
  have g2 : ((s.heap.push o).push (enObj s.heap.objs.size)).get? (s.heap.objs.size + 1) = some (enObj s.heap.objs.size) := by
    rw [← sz]
    exact Heap.get?_push_size _ rfl
  refine callType_new F.called_enumerate (by decide) (F.typeCall_enumerate_1 _) (F.newCall_enumerate_1 _) (fun obj => F.args_object_init_2 obj _) F.entry_enumerate_new (meets_en B) ⟨q, ?_⟩
  rw [sz]
  exact ⟨⟨_, g2, rfl⟩, h _ g2 (Heap.get?_push_of_some _ g1) fun b u e => Heap.get?_push_of_some _ (Heap.get?_push_of_some _ e)⟩
end
/-- the list, the tuple at a, item by item, each in a new pair -/
def IteB (K : PySem.W.Frag) (b : Bool) (a : Addr) : It where
  go := fun i H => ∃ xs : List V, SqB K H a b xs ∧ i < xs.length
  yld := fun i H v H' => ∃ T o x, v = .ref T ∧ H T = none ∧ (o.cls = Value.type "tuple" ∧ o.dict = none) ∧ H' = upd H T (.frz o (.tup [.int (i : Nat), x])) ∧ ∀ xs, SqB K H a b xs → xs[i]? = some x
  stop := fun i H => ∃ xs : List V, SqB K H a b xs ∧ xs.length = i
/-- what is drawn -/
def EnSt (b : Bool) (a e it : Addr) (i : Nat) (h : Heap) : Prop := (∃ old, IsEnum h e it (i : Int) old) ∧ SrcIt b h it a i ∧ e ≠ it ∧ a ≠ it ∧ a ≠ e
theorem turn_enB {P : Program} {w : World} {K : PySem.W.Frag} {elts : List Expr} {kk : Nat} {tpos : Pos} (b : Bool) (a e it : Addr) : Turn P w K (.Tuple elts kk tpos) (IteB K b a) [e, it] e (EnSt b a e it) where
  mem := List.mem_cons_self
  obj := fun i h ⟨⟨old, q⟩, q1, _⟩ c hc => by
    rcases List.mem_cons.mp hc with rfl | hc
    · exact ⟨_, q, fun v z => nomatch z⟩
    · have hc := List.mem_singleton.mp hc
      subst hc
      exact q1.cell
  keep := fun i h h' ⟨⟨old, q⟩, q1, q2⟩ k => ⟨⟨old, k e List.mem_cons_self _ q⟩, q1.at' fun o z => k it (List.mem_cons_of_mem _ List.mem_cons_self) o z, q2⟩
  item := by
    intro X hP hw hK hc i pins s σ H E I hf ⟨⟨old, q⟩, q1, n1, n2, n3⟩ ⟨xs, hx, hi⟩
    subst hP hw hK
    obtain ⟨its, rv, p, _⟩ := inv_src I hx
    have hh : X.A.in1.handled = none := I.ok.hd hc
    have D := draw_b (prog := X.prog) (w := X.w) hh b it a n2 its.toArray
    have ne : e ∉ [it, a] := by simp [n1, Ne.symm n3]
    have W := WalksT.enumFrom 0 D e n1 ne (by simp)
    have hlen := rv.length
    have le : s.heap.objs.size ≠ e := Nat.ne_of_gt (Heap.lt_size q)
    have li : s.heap.objs.size ≠ it := by
      obtain ⟨o, z, _⟩ := q1.cell
      exact Nat.ne_of_gt (Heap.lt_size z)
    refine wpAny_pyNext_enum_itemC (c := (i : Int)) D q ⟨q1, p⟩ (by simp; omega) n1 ne fun x h' tk hx2 ho st' g sz kp => ⟨_, rfl, W.go elts kk tpos i s.heap.objs.size _ _ E ⟨⟨x, by rw [Int.zero_add]; exact ho⟩, st', le, li⟩ fun h2 st kp2 => ?_⟩
    obtain ⟨v, hv⟩ : ∃ v, xs[i]? = some v := ⟨_, List.getElem?_eq_getElem hi⟩
    obtain ⟨u, hu, ru⟩ := rv.get hv
    have eu : u = x := by
      have : its.toArray[i]? = some u := by simpa using hu
      rw [this] at hx2
      exact Option.some.inj hx2
    subst eu
    have hTn : s.heap.objs.size ∉ [e, it] := fun hm => by
      rcases List.mem_cons.mp hm with z | hm
      · exact le z
      · exact li (List.mem_singleton.mp hm)
    generalize hTT : s.heap.objs.size = T at hTn g
    have I1 : Inv X pins σ (upd H T (.frz (tpO #[.int (i : Nat) tk, u]) (.tup [.int (i : Nat), v]))) { s with heap := h2, toks := tk + 1 } :=
      I.turnedNew (ch := [e, it]) (fun c ob hc z => kp2 c ob hc (kp c ob (fun x => hc (by simp [x])) (fun x => hc (by simp [x])) z)) hf (Nat.le_of_eq hTT) (pair_ok ⟨_, rfl⟩ ru (kp2 T _ hTn g))
    obtain ⟨⟨old', st1⟩, st2, _⟩ := st
    refine ⟨.ref T, _, I1, rfl, ⟨T, _, v, rfl, I.hok.fresh (Nat.le_of_eq hTT), ⟨rfl, rfl⟩, rfl, fun ys hy => by rw [inv_src_inj I hy hx]; exact hv⟩, ⟨⟨old', by rw [Int.zero_add] at st1; exact st1⟩, st2, n1, n2, n3⟩, fun c hc => ?_⟩
    rw [upd_ne fun z => hTn (by rw [← z]; exact hc)]
    exact (hf c hc).1
  done := by
    intro X hP hw hK hc i pins s σ H E I hf ⟨⟨old, q⟩, q1, n1, n2, n3⟩ ⟨xs, hx, hi⟩
    subst hP hw hK hi
    obtain ⟨its, rv, p, _⟩ := inv_src I hx
    have hh : X.A.in1.handled = none := I.ok.hd hc
    have D := draw_b (prog := X.prog) (w := X.w) hh b it a n2 its.toArray
    have W := WalksT.enumFrom 0 D e n1 (by simp [n1, Ne.symm n3]) (by simp)
    have hlen : its.toArray.size = xs.length := by rw [List.size_toArray]; exact rv.length.symm
    exact W.done s _ E ⟨⟨old, by rw [Int.zero_add, hlen]; exact q⟩, by rw [hlen]; exact q1, p⟩ fun h' tk kp => ⟨rfl, I.turnedL (ch := [e, it]) kp hf⟩
  self := fun A i s Q E ⟨⟨old, q⟩, _⟩ h => wpAny_pyIter_enum q h
/-- enumerate of a list or a tuple -/
def iEnB (K : PySem.W.Frag) (ta : TA) : TI := fun σ H R => ta σ H fun vs H1 => ∃ b a xs, vs = [.ref a] ∧ SqB K H1 a b xs ∧ R (IteB K b a) H1
theorem pi_enB {X : Cx} {e : Expr} {ta : TA} {p pos tpos : Pos} {elts : List Expr} {kk : Nat} (hg : Gl X "enumerate") (hm : X.mg "enumerate" = none) (ha : PA X [e] ta) (hs : starEach [e] X.env = [(false, eval e X.env)]) : PI X (.Tuple elts kk tpos) (.Call (.Name "enumerate" p) [e] [] pos) (iEnB X.K ta) := by
  constructor
  intro pins s σ H R I h
  refine Call_ (ld_blt I hg hm boot_enumerate (PyProof.Rows.callWith_type1 (thn (ha.run pos pins s σ H _ I h) fun us s1 w => ?_) hs rfl))
  obtain ⟨vs, H1, I1, r1, b, a, xs, ex, hx, q⟩ := w
  subst ex
  have eu : us = [.ref a] := by
    match us, r1 with
    | [_], .cons r .nil => cases r; rfl
  subst eu
  have fp : ∀ c, c ∈ [s1.heap.objs.size + 1, s1.heap.objs.size] → FpOk X pins H1 c := fun c hc => by
    have le : s1.heap.objs.size ≤ c := by
      rcases List.mem_cons.mp hc with rfl | hc
      · exact Nat.le_succ _
      · rw [List.mem_singleton.mp hc]; exact Nat.le_refl _
    exact I1.fpOk le (I1.hok.fresh le)
  obtain ⟨its, _, p1, lt⟩ := inv_src I1 hx
  refine call_en (begins_b b a its.toArray) p1 fun h' q1 q2 kp => ?_
  refine wpAny_pyIter_enum (s := { s1 with heap := h' }) q1 ?_
  exact ⟨_, _, _, _, H1, rfl, I1.kept (t' := s1.toks) kp, turn_enB b a (s1.heap.objs.size + 1) s1.heap.objs.size, ⟨⟨_, q1⟩, srcIt_new b q2, Nat.succ_ne_self _, Nat.ne_of_lt lt, Nat.ne_of_lt (Nat.lt_succ_of_lt lt)⟩, fp, q⟩
theorem walk_enB {K : PySem.W.Frag} {b : Bool} {a : Addr} {xs : List V} : Walk (IteB K b a) xs.length (fun H => SqB K H a b xs) (YPairF (fun i => some (.int (i : Nat))) (fun i => xs[i]?)) where
  goes := fun i H hi q => ⟨xs, q, hi⟩
  stops := fun H q => ⟨xs, q, rfl⟩
  yields := fun i H x H' hi q ⟨t, o, y, h1, h2, h3, h4, h5⟩ => ⟨t, o, .int (i : Nat), y, h1, h2, h3, h4, rfl, h5 xs q⟩
end Ev
end

section
set_option linter.all false
set_option maxRecDepth 100000
set_option maxHeartbeats 4000000
/-! zip of two, each a list or a tuple. -/
namespace Ev
open PySem L2 PySem.Spec PyProof.Rows
/-- two walked together, each item pair in a new tuple -/
def ItzB (K : PySem.W.Frag) (b1 : Bool) (a1 : Addr) (b2 : Bool) (a2 : Addr) : It where
  go := fun i H => ∃ xs ys : List V, SqB K H a1 b1 xs ∧ SqB K H a2 b2 ys ∧ i < min xs.length ys.length
  yld := fun i H v H' => ∃ T o x y, v = .ref T ∧ H T = none ∧ (o.cls = Value.type "tuple" ∧ o.dict = none) ∧ H' = upd H T (.frz o (.tup [x, y])) ∧ (∀ xs, SqB K H a1 b1 xs → xs[i]? = some x) ∧ ∀ ys, SqB K H a2 b2 ys → ys[i]? = some y
  stop := fun i H => ∃ xs ys : List V, SqB K H a1 b1 xs ∧ SqB K H a2 b2 ys ∧ i = min xs.length ys.length
/-- where a zip's own cells stand -/
structure ZAt (z TI TO i1 i2 a1 a2 : Addr) : Prop where
  sep : ZipSep2 z TI TO i1 i2 [i1, a1] [i2, a2]
  n1 : a1 ≠ i1
  n2 : a2 ≠ i2
def ZSt (z TI TO i1 i2 : Addr) (b1 : Bool) (a1 : Addr) (b2 : Bool) (a2 : Addr) (i : Nat) (h : Heap) : Prop := IsZip h z TI TO .none ∧ IsTupOf2 h TI (.ref i1) (.ref i2) ∧ (∃ x y, IsTupOf2 h TO x y) ∧ SrcIt b1 h i1 a1 i ∧ SrcIt b2 h i2 a2 i
theorem mem5 {z TI TO i1 i2 c : Addr} (h : c ∈ [z, TI, TO, i1, i2]) : c = z ∨ c = TI ∨ c = TO ∨ c = i1 ∨ c = i2 := by simpa using h
theorem turn_zB {P : Program} {w : World} {K : PySem.W.Frag} {elts : List Expr} {kk : Nat} {tpos : Pos} {z TI TO i1 i2 a1 a2 : Addr} {b1 b2 : Bool} (D : ZAt z TI TO i1 i2 a1 a2) :
    Turn P w K (.Tuple elts kk tpos) (ItzB K b1 a1 b2 a2) [z, TI, TO, i1, i2] z (ZSt z TI TO i1 i2 b1 a1 b2 a2) where
  mem := List.mem_cons_self
  obj := fun i h ⟨q1, q2, ⟨x, y, q3⟩, q4, q5⟩ c hc => by
    rcases mem5 hc with rfl | rfl | rfl | rfl | rfl
    · exact ⟨_, q1, fun v e => nomatch e⟩
    · exact ⟨_, q2, fun v e => nomatch e⟩
    · exact ⟨_, q3, fun v e => nomatch e⟩
    · exact q4.cell
    · exact q5.cell
  keep := fun i h h' ⟨q1, q2, ⟨x, y, q3⟩, q4, q5⟩ k => ⟨k z (by simp) _ q1, k TI (by simp) _ q2, ⟨x, y, k TO (by simp) _ q3⟩, q4.at' fun o e => k i1 (by simp) o e, q5.at' fun o e => k i2 (by simp) o e⟩
  item := by
    intro X hP hw hK hc i pins s σ H E I hf ⟨q1, q2, q3, q4, q5⟩ ⟨xs, ys, hx, hy, hi⟩
    subst hP hw hK
    obtain ⟨its, rv, p, _⟩ := inv_src I hx
    obtain ⟨its2, rv2, p2, _⟩ := inv_src I hy
    have hh : X.A.in1.handled = none := I.ok.hd hc
    have d1 := draw_b (prog := X.prog) (w := X.w) hh b1 i1 a1 D.n1 its.toArray
    have d2 := draw_b (prog := X.prog) (w := X.w) hh b2 i2 a2 D.n2 its2.toArray
    have W := WalksT.zipD2 D.sep d1 d2
    have l1 := rv.length
    have l2 := rv2.length
    obtain ⟨xo, yo, q3'⟩ := q3
    have lz : ∀ {c o}, s.heap.get? c = some o → s.heap.objs.size ≠ c := fun e => Nat.ne_of_gt (Heap.lt_size e)
    have ni1 : s.heap.objs.size ≠ i1 := by
      obtain ⟨o, e, _⟩ := q4.cell
      exact lz e
    have ni2 : s.heap.objs.size ≠ i2 := by
      obtain ⟨o, e, _⟩ := q5.cell
      exact lz e
    refine wpAny_pyNext_zipD2_item (i := i) D.sep d1 d2 q1 q2 q3' ⟨q4, p⟩ ⟨q5, p2⟩ (by simp; omega) (by simp; omega) fun u1 u2 h' tk e1 e2 z1 z2 z3 z4 g gz kp => ⟨_, rfl, W.go elts kk tpos i s.heap.objs.size _ _ E ⟨z1, kp _ _ D.sep.TIz D.sep.TITO D.sep.TIi1 D.sep.TIi2 q2, ⟨_, _, z2⟩, z3, z4, lz q1, lz q3', ni1, ni2⟩ fun h2 st kp2 => ?_⟩
    have q3 : ∃ x y, IsTupOf2 s.heap TO x y := ⟨_, _, q3'⟩
    obtain ⟨v1, hv1⟩ : ∃ v, xs[i]? = some v := ⟨_, List.getElem?_eq_getElem (by omega)⟩
    obtain ⟨v2, hv2⟩ : ∃ v, ys[i]? = some v := ⟨_, List.getElem?_eq_getElem (by omega)⟩
    obtain ⟨w1, hw1, rw1⟩ := rv.get hv1
    obtain ⟨w2, hw2, rw2⟩ := rv2.get hv2
    have eu1 : w1 = u1 := by
      have : its.toArray[i]? = some w1 := by simpa using hw1
      rw [this] at e1
      exact Option.some.inj e1
    have eu2 : w2 = u2 := by
      have : its2.toArray[i]? = some w2 := by simpa using hw2
      rw [this] at e2
      exact Option.some.inj e2
    subst eu1 eu2
    have hTn : s.heap.objs.size ∉ [z, TO, i1, i2] := by
      intro hm
      have hm : s.heap.objs.size = z ∨ s.heap.objs.size = TO ∨ s.heap.objs.size = i1 ∨ s.heap.objs.size = i2 := by simpa using hm
      rcases hm with e | e | e | e
      · exact lz q1 e
      · exact lz q3' e
      · exact ni1 e
      · exact ni2 e
    have hT := Nat.le_refl s.heap.objs.size
    generalize hTT : s.heap.objs.size = T at hTn g hT
    have sub : ∀ c, c ∉ [z, TI, TO, i1, i2] → c ∉ [z, TO, i1, i2] := fun c hc h => hc (by
      have h : c = z ∨ c = TO ∨ c = i1 ∨ c = i2 := by simpa using h
      rcases h with rfl | rfl | rfl | rfl <;> simp)
    have I1 : Inv X pins σ (upd H T (.frz (tpO #[w1, w2]) (.tup [v1, v2]))) { s with heap := h2, toks := tk } :=
      I.turnedNew (ch := [z, TI, TO, i1, i2]) (fun c ob hc e => kp2 c ob (sub c hc) (kp c ob (fun x => hc (by simp [x])) (fun x => hc (by simp [x])) (fun x => hc (by simp [x])) (fun x => hc (by simp [x])) e)) hf (Nat.le_of_eq hTT) (pair_ok rw1 rw2 (kp2 T _ hTn g))
    obtain ⟨r1, r2, r3, r4, r5⟩ := st
    refine ⟨.ref T, _, I1, rfl, ⟨T, _, v1, v2, rfl, I.hok.fresh (Nat.le_of_eq hTT), ⟨rfl, rfl⟩, rfl, fun l hl => by rw [inv_src_inj I hl hx]; exact hv1, fun l hl => by rw [inv_src_inj I hl hy]; exact hv2⟩, ⟨r1, r2, r3, r4.1, r5.1⟩, fun c hc => ?_⟩
    have lt : c < s.heap.objs.size := by
      obtain ⟨x, y, q3⟩ := q3
      rcases mem5 hc with rfl | rfl | rfl | rfl | rfl
      · exact Heap.lt_size q1
      · exact Heap.lt_size q2
      · exact Heap.lt_size q3
      · obtain ⟨o, e, _⟩ := q4.cell; exact Heap.lt_size e
      · obtain ⟨o, e, _⟩ := q5.cell; exact Heap.lt_size e
    rw [upd_ne (Nat.ne_of_lt (by rw [← hTT]; exact lt))]
    exact (hf c hc).1
  done := by
    intro X hP hw hK hc i pins s σ H E I hf ⟨q1, q2, q3, q4, q5⟩ ⟨xs, ys, hx, hy, hi⟩
    subst hP hw hK hi
    obtain ⟨its, rv, p, _⟩ := inv_src I hx
    obtain ⟨its2, rv2, p2, _⟩ := inv_src I hy
    have hh : X.A.in1.handled = none := I.ok.hd hc
    have W := WalksT.zipD2 (prog := X.prog) (w := X.w) (A := X.A) D.sep (draw_b hh b1 i1 a1 D.n1 its.toArray) (draw_b hh b2 i2 a2 D.n2 its2.toArray)
    have em : min its.toArray.size its2.toArray.size = min xs.length ys.length := by
      rw [List.size_toArray, List.size_toArray, rv.length, rv2.length]
    refine W.done s _ E ?_ fun h' tk kp => ⟨rfl, I.turnedL (ch := [z, TI, TO, i1, i2]) (fun c ob hc e => kp c ob (fun h => hc (by
      have h : c = z ∨ c = TO ∨ c = i1 ∨ c = i2 := by simpa using h
      rcases h with rfl | rfl | rfl | rfl <;> simp)) e) hf⟩
    rw [em]
    exact ⟨q1, q2, q3, ⟨q4, p⟩, ⟨q5, p2⟩⟩
  self := fun A i s Q E ⟨q1, _⟩ h => wpAny_pyIter_zip q1 h
def iZB (K : PySem.W.Frag) (ta : TA) : TI := fun σ H R => ta σ H fun vs H1 => ∃ b1 a1 b2 a2 xs ys, vs = [.ref a1, .ref a2] ∧ SqB K H1 a1 b1 xs ∧ SqB K H1 a2 b2 ys ∧ R (ItzB K b1 a1 b2 a2) H1
theorem pi_zB {X : Cx} {e e2 : Expr} {ta : TA} {p pos tpos : Pos} {elts : List Expr} {kk : Nat} (hg : Gl X "zip") (hm : X.mg "zip" = none) (ha : PA X [e, e2] ta)
    (hs : starEach [e, e2] X.env = (false, eval e X.env) :: starEach [e2] X.env) (hpl : (backTo pos (starEach [e2] X.env)).any (·.1) = false) : PI X (.Tuple elts kk tpos) (.Call (.Name "zip" p) [e, e2] [] pos) (iZB X.K ta) := by
  constructor
  intro pins s σ H R I h
  refine Call_ (ld_blt I hg hm PyProof.Rows.boot_zip (PyProof.Rows.callWith_type1 (thn (ha.run pos pins s σ H _ I h) fun us s1 w => ?_) hs hpl))
  obtain ⟨vs, H1, I1, r1, b1, a1, b2, a2, xs, ys, ex, hx, hy, q⟩ := w
  subst ex
  have eu : us = [.ref a1, .ref a2] := by
    match us, r1 with
    | [_, _], .cons r (.cons r' .nil) => cases r; cases r'; rfl
  subst eu
  obtain ⟨its, _, p1, t1⟩ := inv_src I1 hx
  obtain ⟨its2, _, p2, t2⟩ := inv_src I1 hy
  refine zip_begins2 (begins_b b1 a1 its.toArray) (begins_b b2 a2 its2.toArray) p1 p2 fun h' z1 z2 z3 z4 z5 sz kp => ?_
  refine wpAny_pyIter_zip (s := { s1 with heap := h' }) z1 ?_
  have sep : ZipSep2 (s1.heap.objs.size + 4) (s1.heap.objs.size + 2) (s1.heap.objs.size + 3) s1.heap.objs.size (s1.heap.objs.size + 1) [s1.heap.objs.size, a1] [s1.heap.objs.size + 1, a2] :=
    zip_sep2 (fun b hb => by rw [List.mem_singleton.mp hb]; exact t1) (fun b hb => by rw [List.mem_singleton.mp hb]; exact t2)
  have D : ZAt (s1.heap.objs.size + 4) (s1.heap.objs.size + 2) (s1.heap.objs.size + 3) s1.heap.objs.size (s1.heap.objs.size + 1) a1 a2 := ⟨sep, Nat.ne_of_lt t1, Nat.ne_of_lt (Nat.lt_succ_of_lt t2)⟩
  exact ⟨_, _, _, _, H1, rfl, I1.kept (t' := s1.toks) kp, turn_zB (b1 := b1) (b2 := b2) D, ⟨z1, z2, ⟨_, _, z3⟩, srcIt_new b1 z4, srcIt_new b2 z5⟩, fun c hc => by
    have le : s1.heap.objs.size ≤ c := by
      rcases mem5 hc with rfl | rfl | rfl | rfl | rfl <;> omega
    exact I1.fpOk le (I1.hok.fresh le), q⟩
theorem walk_zB {K : PySem.W.Frag} {b1 b2 : Bool} {a1 a2 : Addr} {xs ys : List V} : Walk (ItzB K b1 a1 b2 a2) (min xs.length ys.length) (fun H => SqB K H a1 b1 xs ∧ SqB K H a2 b2 ys) (YPairF (fun i => xs[i]?) (fun i => ys[i]?)) where
  goes := fun i H hi q => ⟨xs, ys, q.1, q.2, hi⟩
  stops := fun H q => ⟨xs, ys, q.1, q.2, rfl⟩
  yields := fun i H x H' hi q ⟨t, o, y, z, h1, h2, h3, h4, h5, h6⟩ => ⟨t, o, y, z, h1, h2, h3, h4, h5 xs q.1, h6 ys q.2⟩
end Ev
end

section
set_option linter.all false
set_option maxRecDepth 100000
set_option maxHeartbeats 4000000
/-! The language is what the machine does: expressions. -/
namespace Ev
open PySem L2 PySem.Spec PyProof.Rows

/-- an exception of the program's own: its value in its dict -/
def XRep (K : PySem.W.Frag) (B : Cls0) (G : Gh) (H : Hp) (d : D) (dx : Addr) : Prop := ∃ v, H dx = some (.xd [("value", v)]) ∧ Rep K B (Fz G H) v d

section
variable (K : PySem.W.Frag) (B : Cls0) (W : WX) (σ : L2.St)
/-- what is wanted behind a computation -/
def PostX {α β : Type} (R : α → Env → Gh → Hp → β → Prop) (o : Out α) (G : Gh) (H : Hp) (Q : β → Hp → Prop) : Prop := match o with
  | none => False
  | some (.ok a, ρ') => ∀ G' H' b, Nx G H G' H' → Sta K B G' ρ' σ H' → R a ρ' G' H' b → Q b H'
  | some (.err c d, ρ') => ∀ G' H' dx, Nx G H G' H' → Sta K B G' ρ' σ H' → XRep K B G' H' d dx → W (.ref (B.C c)) (some dx) σ H'
/-- a reading by the language -/
def tX {α β : Type} (R : α → Env → Gh → Hp → β → Prop) (f : Env → Out α) (H : Hp) (Q : β → Hp → Prop) : Prop := ∃ G ρ, Sta K B G ρ σ H ∧ PostX K B W σ R (f ρ) G H Q
end
section
variable {K : PySem.W.Frag} {B : Cls0} {W : WX} {σ : L2.St} {G G' G1 : Gh} {H H' H1 : Hp} {ρ ρ' : Env}
theorem PostX.mono {α β : Type} {R : α → Env → Gh → Hp → β → Prop} {o : Out α} {Q : β → Hp → Prop} (h : PostX K B W σ R o G H Q) (n : Nx G H G1 H1) : PostX K B W σ R o G1 H1 Q := by
  cases o with
  | none => exact h
  | some p =>
    obtain ⟨r, ρ'⟩ := p
    cases r with
    | ok a => exact fun G' H' b n' S r => h G' H' b (n.trans n') S r
    | err c d => exact fun G' H' dx n' S r => h G' H' dx (n.trans n') S r
theorem PostX.bnd {α β γ δ : Type} {R1 : α → Env → Gh → Hp → β → Prop} {R2 : γ → Env → Gh → Hp → δ → Prop} {m : Out α} {k : α → Env → Out γ} {Q : δ → Hp → Prop} {Q' : β → Hp → Prop} (h : PostX K B W σ R2 (bnd m k) G H Q)
    (f : ∀ a ρ1 G1 H1 b, m = some (.ok a, ρ1) → Nx G H G1 H1 → Sta K B G1 ρ1 σ H1 → R1 a ρ1 G1 H1 b → PostX K B W σ R2 (k a ρ1) G1 H1 Q → Q' b H1) : PostX K B W σ R1 m G H Q' := by
  cases m with
  | none => exact h
  | some p =>
    obtain ⟨r, ρ1⟩ := p
    cases r with
    | ok a => exact fun G1 H1 b n S r => f a ρ1 G1 H1 b rfl n S r (PostX.mono (show PostX K B W σ R2 (k a ρ1) G H Q from h) n)
    | err c d => exact h
theorem PostX.ret {α β : Type} {R : α → Env → Gh → Hp → β → Prop} {a : α} {Q : β → Hp → Prop} {b : β} (h : PostX K B W σ R (Ev.ret a ρ) G H Q) (S : Sta K B G1 ρ σ H1) (n : Nx G H G1 H1) (r : R a ρ G1 H1 b) : Q b H1 := h G1 H1 b n S r
theorem PostX.opt {α γ δ : Type} {R2 : γ → Env → Gh → Hp → δ → Prop} {o : Option α} {k : α → Out γ} {Q : δ → Hp → Prop} (h : PostX K B W σ R2 (opt o k) G H Q) : ∃ a, o = some a ∧ PostX K B W σ R2 (k a) G H Q := by
  cases o with
  | none => exact h.elim
  | some a => exact ⟨a, rfl, h⟩

/-- relations of results -/
def RT (K : PySem.W.Frag) (B : Cls0) : T → Env → Gh → Hp → V → Prop := fun t _ G H v => RepT K B G H 0 [] v t
def RD (K : PySem.W.Frag) (B : Cls0) : D → Env → Gh → Hp → V → Prop := fun d _ G H v => Rep K B (Fz G H) v d
def RB : Bool → Env → Gh → Hp → Bool → Prop := fun b _ _ _ b' => b' = b
def RPl (K : PySem.W.Frag) (B : Cls0) (σ : L2.St) : Pl → Env → Gh → Hp → V → Prop := fun p _ G H v => match p with
  | .tmp d => Rep K B (Fz G H) v d
  | .sl i => σ[i]? = some (some v)
def RArg (K : PySem.W.Frag) (B : Cls0) (σ : L2.St) : Arg → Env → Gh → Hp → V → Prop := fun p _ G H v => match p with
  | .vl d => Rep K B (Fz G H) v d
  | .ln i => σ[i]? = some (some v)
theorem RPl.nx {p : Pl} {ρ ρ' : Env} {v : V} (n : Nx G H G1 H1) (r : RPl K B σ p ρ G H v) : RPl K B σ p ρ' G1 H1 v := by
  cases p with
  | tmp d => exact n.rep r
  | sl i => exact r
/-- what stands at a place, read now -/
theorem RPl.rd {p : Pl} {ρ0 : Env} {v : V} {d : D} (S : Sta K B G ρ σ H) (r : RPl K B σ p ρ0 G H v) (h : Ev.rd ρ p = some d) : RepC K B G H v d := by
  cases p with
  | tmp e =>
    have e2 : e = d := Option.some.inj h
    subst e2
    exact .val r
  | sl i =>
    have h2 : (look ρ i).map frz = some d := h
    cases e : look ρ i with
    | none => rw [e] at h2; cases h2
    | some t =>
      rw [e] at h2
      have e2 := Option.some.inj h2
      obtain ⟨v', hv, R⟩ := S.slot i t e
      have ev : v = v' := by
        have q : σ[i]? = some (some v) := r
        rw [hv] at q
        exact (Option.some.inj (Option.some.inj q)).symm
      subst ev
      exact ⟨_, _, t, R, e2⟩

theorem pe_mono {X : Cx} {e : Expr} {t t' : TE} (h : PE X e t) (f : ∀ σ H Q, t' σ H Q → t σ H Q) : PE X e t' := ⟨fun pins s σ H Q I q => h.run pins s σ H Q I (f σ H Q q)⟩
theorem pt_mono {X : Cx} {e : Expr} {t t' : TT} (h : PT X e t) (f : ∀ σ H Q, t' σ H Q → t σ H Q) : PT X e t' := ⟨fun pins s σ H Q I q => h.run pins s σ H Q I (f σ H Q q)⟩
theorem pa_mono {X : Cx} {e : List Expr} {t t' : TA} (h : PA X e t) (f : ∀ σ H Q, t' σ H Q → t σ H Q) : PA X e t' := ⟨fun pos pins s σ H Q I q => h.run pos pins s σ H Q I (f σ H Q q)⟩
theorem po_mono {X : Cx} {e : Option Expr} {t t' : TO} (h : PO X e t) (f : ∀ σ H Q, t' σ H Q → t σ H Q) : PO X e t' := ⟨fun pins s σ H Q I q => h.run pins s σ H Q I (f σ H Q q)⟩
abbrev tE (K : PySem.W.Frag) (B : Cls0) (W : WX) (f : Env → Out T) : TE := fun σ H Q => tX K B W σ (RT K B) f H Q
abbrev tD (K : PySem.W.Frag) (B : Cls0) (W : WX) (f : Env → Out D) : TE := fun σ H Q => tX K B W σ (RD K B) f H Q
abbrev tP (K : PySem.W.Frag) (B : Cls0) (W : WX) (f : Env → Out Pl) : TE := fun σ H Q => tX K B W σ (RPl K B σ) f H Q
abbrev tR (K : PySem.W.Frag) (B : Cls0) (W : WX) (f : Env → Out Arg) : TE := fun σ H Q => tX K B W σ (RArg K B σ) f H Q
abbrev tT (K : PySem.W.Frag) (B : Cls0) (W : WX) (f : Env → Out Bool) : TT := fun σ H Q => tX K B W σ RB f H Q

variable {X : Cx} {x y z : Expr} {f g : Env → Out T}
/-- .. frozen -/
theorem se_D (h : PE X x (tE K B W f)) : PE X x (tD K B W fun ρ => evD (f ρ)) := pe_mono h fun σ H Q ⟨G, ρ, S, P⟩ => ⟨G, ρ, S, PostX.bnd P fun t ρ1 G1 H1 v _ _ S1 R P1 => P1.ret S1.frzTmp Nx.gFrz R.frzd⟩
theorem se_Pl {i : E} (h : PE X x (tE K B W f)) (hv : ∀ k, i = .v k → PE X x (tVar k)) : PE X x (tP K B W (evPl i f)) := by
  have gen : (∀ k, i ≠ .v k) → PE X x (tP K B W (evPl i f)) := fun n => by
    have e : evPl i f = fun ρ => bnd (f ρ) fun t ρ => ret (.tmp (frz t)) ρ := by
      funext ρ
      cases i <;> first | rfl | exact absurd rfl (n _)
    rw [e]
    exact pe_mono h fun σ H Q ⟨G, ρ, S, P⟩ => ⟨G, ρ, S, PostX.bnd P fun t ρ1 G1 H1 v _ _ S1 R P1 => P1.ret S1.frzTmp Nx.gFrz R.frzd⟩
  cases i with
  | v k =>
    refine pe_mono (hv k rfl) fun σ H Q ⟨G, ρ, S, P⟩ => ?_
    have P1 : PostX K B W σ (RPl K B σ) (match look ρ k with
      | none => none
      | some (.val d) => ret (.tmp d) ρ
      | some _ => ret (.sl k) ρ) G H Q := P
    cases e : look ρ k with
    | none => rw [e] at P1; exact P1.elim
    | some t =>
      rw [e] at P1
      obtain ⟨v, hv, R⟩ := S.slot k t e
      refine ⟨v, hv, ?_⟩
      cases t with
      | val d =>
        cases R with
        | val r => exact P1.ret S Nx.refl r
      | lst l => exact P1.ret S Nx.refl hv
      | dic a b => exact P1.ret S Nx.refl hv
      | ins a b => exact P1.ret S Nx.refl hv
  | _ => exact gen fun k q => nomatch q
theorem se_Arg {i : E} (h : PE X x (tE K B W f)) (hv : ∀ k, i = .v k → PE X x (tVar k)) : PE X x (tR K B W (evArg i f)) := by
  have gen : (∀ k, i ≠ .v k) → PE X x (tR K B W (evArg i f)) := fun n => by
    have e : evArg i f = fun ρ => bnd (f ρ) fun t ρ => ret (.vl (frz t)) ρ := by
      funext ρ
      cases i <;> first | rfl | exact absurd rfl (n _)
    rw [e]
    exact pe_mono h fun σ H Q ⟨G, ρ, S, P⟩ => ⟨G, ρ, S, PostX.bnd P fun t ρ1 G1 H1 v _ _ S1 R P1 => P1.ret S1.frzTmp Nx.gFrz R.frzd⟩
  cases i with
  | v k =>
    refine pe_mono (hv k rfl) fun σ H Q ⟨G, ρ, S, P⟩ => ?_
    have P1 : PostX K B W σ (RArg K B σ) (match look ρ k with
      | none => none
      | some (.val d) => ret (.vl d) ρ
      | some _ => ret (.ln k) ρ) G H Q := P
    cases e : look ρ k with
    | none => rw [e] at P1; exact P1.elim
    | some t =>
      rw [e] at P1
      obtain ⟨v, hv, R⟩ := S.slot k t e
      refine ⟨v, hv, ?_⟩
      cases t with
      | val d =>
        cases R with
        | val r => exact P1.ret S Nx.refl r
      | lst l => exact P1.ret S Nx.refl hv
      | dic a b => exact P1.ret S Nx.refl hv
      | ins a b => exact P1.ret S Nx.refl hv
  | _ => exact gen fun k q => nomatch q

/-! ### leaves -/
theorem se_cst {d : D} {v : V} (h : PE X x (tC v)) (r : ∀ F, Rep K B F v d) : PE X x (tE K B W fun ρ => ret (.val d) ρ) := pe_mono h fun σ H Q ⟨G, ρ, S, P⟩ => P.ret S Nx.refl (.val (r _))
theorem se_v {Y : Sys} {k : Nat} (h : PE X x (tVar k)) : PE X x (tE K B W (ev Y (.v k))) := by
  refine pe_mono h fun σ H Q ⟨G, ρ, S, P⟩ => ?_
  have P1 : PostX K B W σ (RT K B) (match look ρ k with
    | none => none
    | some (.val d) => ret (.val d) ρ
    | some t => ret (.val (frz t)) (ρ.set k (some (.val (frz t))))) G H Q := by
    have e : ev Y (.v k) ρ = (match look ρ k with
      | none => none
      | some (.val d) => ret (.val d) ρ
      | some t => ret (.val (frz t)) (ρ.set k (some (.val (frz t))))) := by
      unfold ev
      rfl
    rw [← e]
    exact P
  cases e : look ρ k with
  | none => rw [e] at P1; exact P1.elim
  | some t =>
    rw [e] at P1
    obtain ⟨v, hv, R⟩ := S.slot k t e
    refine ⟨v, hv, ?_⟩
    have go : PostX K B W σ (RT K B) (ret (.val (frz t)) (ρ.set k (some (.val (frz t))))) G H Q → Q v H := fun P2 =>
      P2.ret (S.frzSlot e) Nx.gFrz (.val R.frzd)
    cases t with
    | val d =>
      cases R with
      | val r => exact P1.ret S Nx.refl (.val r)
    | lst l => exact go P1
    | dic a b => exact go P1
    | ins a b => exact go P1

/-! ### operators -/
theorem se_two {i j : E} {fa fb : Env → Out T} {op : D → D → Option T} {r : R2} (ha : PE X x (tP K B W (evPl i fa))) (hb : PE X y (tP K B W (evPl j fb)))
    (hr : ∀ (G : Gh) (H : Hp) (v u : V) (dx dy : D) (t : T) (Q : VK), RepC K B G H v dx → RepC K B G H u dy → op dx dy = some t → (∀ v G' H', Mk1 K B G H t v G' H' → Q v H') → r v u H Q) :
    ∀ σ H Q, tE K B W (fun ρ => bnd (evPl i fa ρ) fun p ρ => bnd (evPl j fb ρ) fun q ρ => opt (rd ρ p) fun x => opt (rd ρ q) fun y => opt (op x y) fun t => ret t ρ) σ H Q → tOp r (tP K B W (evPl i fa)) (tP K B W (evPl j fb)) σ H Q := fun σ H Q ⟨G, ρ, S, P⟩ => by
  refine ⟨G, ρ, S, PostX.bnd P fun p ρ1 G1 H1 v _ _ S1 R1 P1 => ?_⟩
  refine ⟨G1, ρ1, S1, PostX.bnd P1 fun q ρ2 G2 H2 u _ n S2 R2 P2 => ?_⟩
  obtain ⟨dx, ex, P3⟩ := P2.opt
  obtain ⟨dy, ey, P4⟩ := P3.opt
  obtain ⟨t, et, P5⟩ := P4.opt
  have c1 : RepC K B G2 H2 v dx := RPl.rd S2 (RPl.nx (ρ' := ρ2) n R1) ex
  have c2 : RepC K B G2 H2 u dy := RPl.rd S2 R2 ey
  exact hr G2 H2 v u dx dy t Q c1 c2 et fun v' G3 H3 m => P5.ret (m.sta S2) m.nx m.rep
end
section
variable {B : Cls0} {W : WX} {X : Cx} {x y z : Expr} {pos : Pos} {a b c : E} {Y : Sys}
/-- an expression by the language: its value, and where it may stand in a slot -/
structure SE (B : Cls0) (W : WX) (Y : Sys) (X : Cx) (a : E) (x : Expr) : Prop where
  e : PE X x (tE X.K B W (ev Y a))
  v : ∀ k, a = .v k → PE X x (tVar k)
theorem SE.d (h : SE B W Y X a x) : PE X x (tD X.K B W fun ρ => evD (ev Y a ρ)) := se_D h.e
theorem SE.p (h : SE B W Y X a x) : PE X x (tP X.K B W (evPl a (ev Y a))) := se_Pl h.e h.v
theorem SE.r (h : SE B W Y X a x) : PE X x (tR X.K B W (evArg a (ev Y a))) := se_Arg h.e h.v
theorem SE.mk1 (h : PE X x (tE X.K B W (ev Y a))) (n : ∀ k, a ≠ .v k) : SE B W Y X a x := ⟨h, fun k e => absurd e (n k)⟩
theorem se_bin {o : BinO} (ha : SE B W Y X a x) (hb : SE B W Y X b y) : SE B W Y X (.bin o a b) (.BinOp x (opo o) y pos) := by
  refine SE.mk1 (pe_mono (pe_op (op_bin B o) ha.p hb.p) fun σ H Q h => ?_) fun k => nofun
  refine se_two (op := binD o) ha.p hb.p (fun G H v u dx dy t Q c1 c2 e q => ⟨G, dx, dy, t, c1, c2, e, q⟩) σ H Q ?_
  have e : ev Y (.bin o a b) = fun ρ => bnd (evPl a (ev Y a) ρ) fun p ρ => bnd (evPl b (ev Y b) ρ) fun q ρ => opt (rd ρ p) fun x => opt (rd ρ q) fun y => opt (binD o x y) fun t => ret t ρ := by
    funext ρ
    conv => lhs; unfold ev
  rw [← e]
  exact h
theorem se_cmp {o : CmpO} {n : Nat} (hr : Room n X.A) (ha : SE B W Y X a x) (hb : SE B W Y X b y) (hm : behindInMarks (opc o) y = false) : SE B W Y X (.cmp o a b) (.Compare x [opc o] [y] pos) := by
  refine SE.mk1 (pe_mono (pe_cmpR (op_cmpA B o hr) ha.p hb.p hm) fun σ H Q h => ?_) fun k => nofun
  refine se_two (op := fun x y => (cmpD o x y).map fun t => T.val (.bl t)) ha.p hb.p (fun G H v u dx dy t Q c1 c2 e q => ?_) σ H Q ?_
  · cases e2 : cmpD o dx dy with
    | none => rw [e2] at e; cases e
    | some k =>
      rw [e2] at e
      have e3 := Option.some.inj e
      subst e3
      exact ⟨G, dx, dy, k, c1, c2, e2, q _ _ _ (Mk1.val (.bl _))⟩
  · have e : ev Y (.cmp o a b) = fun ρ => bnd (evPl a (ev Y a) ρ) fun p ρ => bnd (evPl b (ev Y b) ρ) fun q ρ => opt (rd ρ p) fun x => opt (rd ρ q) fun y => opt (((cmpD o x y)).map fun t => T.val (.bl t)) fun t => ret t ρ := by
      funext ρ
      conv => lhs; unfold ev
    rw [← e]
    exact h
theorem se_neg (ha : SE B W Y X a x) : SE B W Y X (.neg a) (.UnaryOp .USub x pos) := by
  refine SE.mk1 (pe_mono (pe_un un_neg ha.d) fun σ H Q ⟨G, ρ, S, P⟩ => ?_) fun k => nofun
  unfold ev at P
  refine ⟨G, ρ, S, PostX.bnd P fun d ρ1 G1 H1 v _ _ S1 R P1 => ?_⟩
  cases d with
  | int i =>
    cases R
    exact ⟨i, rfl, P1.ret S1 Nx.refl (.val (.int _))⟩
  | _ => exact P1.elim
theorem se_chn {o o' : CmpO} {n : Nat} (hr : Room n X.A) (ha : SE B W Y X a x) (hb : SE B W Y X b y) (hc : SE B W Y X c z) (hm : lastMarks [opc o, opc o'] [y, z] = false) : SE B W Y X (.chn o o' a b c) (.Compare x [opc o, opc o'] [y, z] pos) := by
  refine SE.mk1 (pe_mono (pe_chain (op_cmpA B o hr) (op_cmpA B o' hr) ha.d hb.d hc.d hm) fun σ H Q ⟨G, ρ, S, P⟩ => ?_) fun k => nofun
  unfold ev at P
  refine ⟨G, ρ, S, PostX.bnd P fun dx ρ1 G1 H1 v _ _ S1 R1 P1 => ⟨G1, ρ1, S1, PostX.bnd P1 fun dy ρ2 G2 H2 u _ n2 S2 R2 P2 => ?_⟩⟩
  obtain ⟨t, et, P3⟩ := P2.opt
  refine ⟨G2, dx, dy, t, .val (n2.rep R1), .val R2, et, t, rfl, ?_⟩
  cases t with
  | false =>
    rw [if_neg Bool.false_ne_true]
    exact P3.ret S2 Nx.refl (.val (.bl _))
  | true =>
    rw [if_pos rfl]
    refine ⟨G2, ρ2, S2, PostX.bnd P3 fun dz ρ3 G3 H3 w _ n3 S3 R3 P4 => ?_⟩
    obtain ⟨t', et', P5⟩ := P4.opt
    exact ⟨G3, dy, dz, t', .val (n3.rep R2), .val R3, et', P5.ret S3 Nx.refl (.val (.bl _))⟩
/-- and, or, not as values -/
theorem se_and {r : List Expr} (ha : SE B W Y X a x) (hb : PE X (.BoolOp .And (y :: r) pos) (tE X.K B W (ev Y b))) : SE B W Y X (.and a b) (.BoolOp .And (x :: y :: r) pos) := by
  refine SE.mk1 (pe_mono (pe_and ha.d hb) fun σ H Q ⟨G, ρ, S, P⟩ => ?_) fun k => nofun
  unfold ev at P
  refine ⟨G, ρ, S, PostX.bnd P fun d ρ1 G1 H1 v _ _ S1 R P1 => ?_⟩
  cases d with
  | bl k =>
    cases R
    refine ⟨k, rfl, ?_⟩
    cases k with
    | true =>
      rw [if_pos rfl]
      exact ⟨G1, ρ1, S1, P1⟩
    | false =>
      rw [if_neg Bool.false_ne_true]
      exact P1.ret S1 Nx.refl (.val (.bl _))
  | _ => exact P1.elim
theorem se_or {r : List Expr} (ha : SE B W Y X a x) (hb : PE X (.BoolOp .Or (y :: r) pos) (tE X.K B W (ev Y b))) : SE B W Y X (.or a b) (.BoolOp .Or (x :: y :: r) pos) := by
  refine SE.mk1 (pe_mono (pe_or ha.d hb) fun σ H Q ⟨G, ρ, S, P⟩ => ?_) fun k => nofun
  unfold ev at P
  refine ⟨G, ρ, S, PostX.bnd P fun d ρ1 G1 H1 v _ _ S1 R P1 => ?_⟩
  cases d with
  | bl k =>
    cases R
    refine ⟨k, rfl, ?_⟩
    cases k with
    | true =>
      rw [if_pos rfl]
      exact P1.ret S1 Nx.refl (.val (.bl _))
    | false =>
      rw [if_neg Bool.false_ne_true]
      exact ⟨G1, ρ1, S1, P1⟩
  | _ => exact P1.elim
theorem se_not (ha : SE B W Y X a x) : SE B W Y X (.not a) (.UnaryOp .Not x pos) := by
  refine SE.mk1 (pe_mono (pe_not ha.d) fun σ H Q ⟨G, ρ, S, P⟩ => ?_) fun k => nofun
  unfold ev at P
  refine ⟨G, ρ, S, PostX.bnd P fun d ρ1 G1 H1 v _ _ S1 R P1 => ?_⟩
  cases d with
  | bl k =>
    cases R
    exact ⟨k, rfl, P1.ret S1 Nx.refl (.val (.bl _))⟩
  | _ => exact P1.elim
theorem se_ite (hc : PT X z (tT X.K B W (evT Y c))) (ha : SE B W Y X a x) (hb : SE B W Y X b y) : SE B W Y X (.ite c a b) (.IfExp z x y pos) := by
  refine SE.mk1 (pe_mono (pe_ifExp hc ha.e hb.e) fun σ H Q ⟨G, ρ, S, P⟩ => ?_) fun k => nofun
  unfold ev at P
  refine ⟨G, ρ, S, PostX.bnd P fun k ρ1 G1 H1 v _ _ S1 R P1 => ?_⟩
  have R2 : v = k := R
  subst R2
  cases v with
  | true =>
    rw [if_pos rfl]
    exact ⟨G1, ρ1, S1, P1⟩
  | false =>
    rw [if_neg Bool.false_ne_true]
    exact ⟨G1, ρ1, S1, P1⟩

/-! ### tests -/
theorem st_not (ha : PT X x (tT X.K B W (evT Y a))) : PT X (.UnaryOp .Not x pos) (tT X.K B W (evT Y (.not a))) := by
  refine pt_mono (pt_not ha) fun σ H Q ⟨G, ρ, S, P⟩ => ?_
  unfold evT at P
  refine ⟨G, ρ, S, PostX.bnd P fun k ρ1 G1 H1 v _ _ S1 R P1 => ?_⟩
  have R2 : v = k := R
  subst R2
  exact P1.ret S1 Nx.refl rfl
theorem st_and {r : List Expr} (ha : PT X x (tT X.K B W (evT Y a))) (hb : PW X (.BoolOp .And (y :: r) pos) (tT X.K B W (evT Y b))) : PW X (.BoolOp .And (x :: y :: r) pos) (tT X.K B W (evT Y (.and a b))) := by
  have h := pw_and ha hb
  refine ⟨fun wh pins s σ H Q I ⟨G, ρ, S, P⟩ => h.run wh pins s σ H Q I ?_⟩
  unfold evT at P
  refine ⟨G, ρ, S, PostX.bnd P fun k ρ1 G1 H1 v _ _ S1 R P1 => ?_⟩
  have R2 : v = k := R
  subst R2
  cases v with
  | true =>
    rw [if_pos rfl]
    exact ⟨G1, ρ1, S1, P1⟩
  | false =>
    rw [if_neg Bool.false_ne_true]
    exact P1.ret S1 Nx.refl rfl
theorem st_or {r : List Expr} (ha : PT X x (tT X.K B W (evT Y a))) (hb : PW X (.BoolOp .Or (y :: r) pos) (tT X.K B W (evT Y b))) : PW X (.BoolOp .Or (x :: y :: r) pos) (tT X.K B W (evT Y (.or a b))) := by
  have h := pw_or ha hb
  refine ⟨fun wh pins s σ H Q I ⟨G, ρ, S, P⟩ => h.run wh pins s σ H Q I ?_⟩
  unfold evT at P
  refine ⟨G, ρ, S, PostX.bnd P fun k ρ1 G1 H1 v _ _ S1 R P1 => ?_⟩
  have R2 : v = k := R
  subst R2
  cases v with
  | true =>
    rw [if_pos rfl]
    exact P1.ret S1 Nx.refl rfl
  | false =>
    rw [if_neg Bool.false_ne_true]
    exact ⟨G1, ρ1, S1, P1⟩
/-- the truth of what reads as d -/
theorem RepC.truth {K : PySem.W.Frag} {G : Gh} {H : Hp} {v : V} {d : D} {k : Bool} (h : RepC K B G H v d) (e : truD d = some k) : TruV K v H k := by
  cases d with
  | non =>
    cases h.non
    have e2 := Option.some.inj e
    subst e2
    rfl
  | bl b =>
    cases h.bl
    have e2 := Option.some.inj e
    subst e2
    rfl
  | int i =>
    cases h.int
    have e2 := Option.some.inj e
    subst e2
    rfl
  | str x =>
    cases h.str
    have e1 : (if x.length ≤ LL then some ((x.length : Int) != 0) else none) = some k := e
    split at e1
    · rename_i hz
      have e2 := Option.some.inj e1
      subst e2
      exact ⟨LL_line hz, rfl⟩
    · cases e1
  | tup l =>
    have e2 := Option.some.inj e
    subst e2
    obtain ⟨a, vs, rfl, q, r⟩ := h.tup
    refine .inr (.inl ⟨vs, Fz.sub.seqT q, ?_⟩)
    have := r.length
    cases vs <;> cases l <;> first | rfl | cases this
  | lst l =>
    have e2 := Option.some.inj e
    subst e2
    obtain ⟨a, vs, rfl, q, r⟩ := h.lst
    refine .inl ⟨vs, .inl (.inl q), ?_⟩
    have := r.length
    cases vs <;> cases l <;> first | rfl | cases this
  | dic ks l =>
    have e2 := Option.some.inj e
    subst e2
    cases h.rep with
    | dic q hl r =>
      refine .inr (.inr ⟨_, q, ?_⟩)
      rename_i a vs
      cases ks <;> cases vs <;> first | rfl | cases hl
  | exc c d => cases e
  | ins c l => cases e
  | scr l => cases e
theorem st_plain (ha : SE B W Y X a x) (he : ∀ whole, isTrue x X.env whole = (do let v ← whole; standAt x.pos; holding [v] (truthy v))) : PT X x (tT X.K B W fun ρ => bnd (evPl a (ev Y a) ρ) fun p ρ => opt (rd ρ p) fun d => opt (truD d) fun b => ret b ρ) := by
  refine pt_mono (pt_truth ha.p he) fun σ H Q ⟨G, ρ, S, P⟩ => ?_
  refine ⟨G, ρ, S, PostX.bnd P fun p ρ1 G1 H1 v _ _ S1 R P1 => ?_⟩
  obtain ⟨d, ed, P2⟩ := P1.opt
  obtain ⟨k, ek, P3⟩ := P2.opt
  exact ⟨k, (RPl.rd S1 R ed).truth ek, P3.ret S1 Nx.refl rfl⟩
theorem st_tru (ha : SE B W Y X a x) (he : ∀ whole, isTrue x X.env whole = (do let v ← whole; standAt x.pos; holding [v] (truthy v))) : PT X x (tT X.K B W fun ρ => truT (ev Y a ρ)) := by
  refine pt_mono (pt_truth ha.d he) fun σ H Q ⟨G, ρ, S, P⟩ => ?_
  have P0 : PostX X.K B W σ RB (bnd (ev Y a ρ) fun t ρ => opt (truD (frz t)) fun b => ret b ρ) G H Q := P
  have e : (bnd (ev Y a ρ) fun t ρ => opt (truD (frz t)) fun b => ret b ρ) = (bnd (evD (ev Y a ρ)) fun d ρ => opt (truD d) fun b => ret b ρ) := by
    cases ev Y a ρ with
    | none => rfl
    | some p =>
      obtain ⟨r, ρ1⟩ := p
      cases r <;> rfl
  rw [e] at P0
  refine ⟨G, ρ, S, PostX.bnd P0 fun d ρ1 G1 H1 v _ _ S1 R P1 => ?_⟩
  obtain ⟨k, ek, P3⟩ := P1.opt
  exact ⟨k, (RepC.val R).truth ek, P3.ret S1 Nx.refl rfl⟩
/-- a comparison as a test -/
theorem tru_bl {σ : L2.St} {H : Hp} {Q : Bool → Hp → Prop} (h : tT X.K B W (fun ρ => truT (ev Y a ρ)) σ H Q) (hb : ∀ ρ t ρ', ev Y a ρ = some (.ok t, ρ') → ∃ k, t = .val (.bl k)) : tE X.K B W (ev Y a) σ H (fun x H' => ∃ k, x = .bl k ∧ Q k H') := by
  obtain ⟨G, ρ, S, P⟩ := h
  refine ⟨G, ρ, S, ?_⟩
  have P0 : PostX X.K B W σ RB (bnd (ev Y a ρ) fun t ρ => opt (truD (frz t)) fun b => ret b ρ) G H Q := P
  refine PostX.bnd P0 fun t ρ1 G1 H1 v ee _ S1 R P1 => ?_
  obtain ⟨k, rfl⟩ := hb ρ t ρ1 ee
  cases R with
  | val r =>
    cases r
    exact ⟨k, rfl, P1.ret S1 Nx.refl rfl⟩

/-! ### argument lists -/
theorem pa_nil' {α β : Type} {R : List α → Env → Gh → Hp → List V → Prop} (hR : ∀ ρ G H, R [] ρ G H []) {K : PySem.W.Frag} : PA X [] (fun σ H Q => tX K B W σ R (fun ρ => ret ([] : List α) ρ) H Q) := pa_mono pa_nil fun σ H Q ⟨G, ρ, S, P⟩ => P.ret S Nx.refl (hR _ _ _)
def RDs (K : PySem.W.Frag) (B : Cls0) : List D → Env → Gh → Hp → List V → Prop := fun ds _ G H vs => Reps K B (Fz G H) vs ds
/-- item by item -/
inductive All2 {α β : Type} (R : α → β → Prop) : List α → List β → Prop
  | nil : All2 R [] []
  | cons {a : α} {b : β} {l : List α} {r : List β} : R a b → All2 R l r → All2 R (a :: l) (b :: r)
theorem All2.imp {α β : Type} {R R' : α → β → Prop} (h : ∀ a b, R a b → R' a b) : ∀ {l : List α} {r : List β}, All2 R l r → All2 R' l r
  | _, _, .nil => .nil
  | _, _, .cons x y => .cons (h _ _ x) (All2.imp h y)
theorem All2.length {α β : Type} {R : α → β → Prop} : ∀ {l : List α} {r : List β}, All2 R l r → l.length = r.length
  | _, _, .nil => rfl
  | _, _, .cons _ y => congrArg Nat.succ (All2.length y)
theorem All2.get {α β : Type} {R : α → β → Prop} : ∀ {l : List α} {r : List β} {i : Nat} {a : α} {b : β}, All2 R l r → l[i]? = some a → r[i]? = some b → R a b
  | _, _, _, _, _, .nil, e, _ => by simp at e
  | _, _, 0, _, _, .cons x _, e, e' => by
    have e2 := Option.some.inj e
    have e3 := Option.some.inj e'
    subst e2 e3
    exact x
  | _, _, i + 1, _, _, .cons _ y, e, e' => All2.get (i := i) y e e'
def RPls (K : PySem.W.Frag) (B : Cls0) (σ : L2.St) : List Pl → Env → Gh → Hp → List V → Prop := fun ps ρ G H vs => All2 (fun p v => RPl K B σ p ρ G H v) ps vs
def RArgs (K : PySem.W.Frag) (B : Cls0) (σ : L2.St) : List Arg → Env → Gh → Hp → List V → Prop := fun ps ρ G H vs => All2 (fun p v => RArg K B σ p ρ G H v) ps vs
abbrev tDs (K : PySem.W.Frag) (B : Cls0) (W : WX) (f : Env → Out (List D)) : TA := fun σ H Q => tX K B W σ (RDs K B) f H Q
abbrev tPs (K : PySem.W.Frag) (B : Cls0) (W : WX) (f : Env → Out (List Pl)) : TA := fun σ H Q => tX K B W σ (RPls K B σ) f H Q
abbrev tRs (K : PySem.W.Frag) (B : Cls0) (W : WX) (f : Env → Out (List Arg)) : TA := fun σ H Q => tX K B W σ (RArgs K B σ) f H Q
structure SL (B : Cls0) (W : WX) (Y : Sys) (X : Cx) (l : List E) (es : List Expr) : Prop where
  d : PA X es (tDs X.K B W (evDs Y l))
  p : PA X es (tPs X.K B W (evPls Y l))
  r : PA X es (tRs X.K B W (evAs Y l))
theorem sl_nil : SL B W Y X [] [] :=
  ⟨pa_mono pa_nil fun σ H Q ⟨G, ρ, S, P⟩ => by unfold evDs at P; exact P.ret S Nx.refl Reps.nil, pa_mono pa_nil fun σ H Q ⟨G, ρ, S, P⟩ => by unfold evPls at P; exact P.ret S Nx.refl All2.nil, pa_mono pa_nil fun σ H Q ⟨G, ρ, S, P⟩ => by unfold evAs at P; exact P.ret S Nx.refl All2.nil⟩
theorem sl_cons {l : List E} {es : List Expr} (ha : SE B W Y X a x) (hl : SL B W Y X l es) (hs : starEach (x :: es) X.env = (false, eval x X.env) :: starEach es X.env) : SL B W Y X (a :: l) (x :: es) := by
  refine ⟨pa_mono (pa_cons ha.d hl.d hs) fun σ H Q ⟨G, ρ, S, P⟩ => ?_, pa_mono (pa_cons ha.p hl.p hs) fun σ H Q ⟨G, ρ, S, P⟩ => ?_, pa_mono (pa_cons ha.r hl.r hs) fun σ H Q ⟨G, ρ, S, P⟩ => ?_⟩
  · unfold evDs at P
    refine ⟨G, ρ, S, PostX.bnd P fun d ρ1 G1 H1 v _ _ S1 R P1 => ⟨G1, ρ1, S1, PostX.bnd P1 fun ds ρ2 G2 H2 vs _ n2 S2 R2 P2 => ?_⟩⟩
    exact P2.ret S2 Nx.refl (Reps.cons (n2.rep R) R2)
  · unfold evPls at P
    refine ⟨G, ρ, S, PostX.bnd P fun d ρ1 G1 H1 v _ _ S1 R P1 => ⟨G1, ρ1, S1, PostX.bnd P1 fun ds ρ2 G2 H2 vs _ n2 S2 R2 P2 => ?_⟩⟩
    exact P2.ret S2 Nx.refl (All2.cons (RPl.nx n2 R) R2)
  · unfold evAs at P
    refine ⟨G, ρ, S, PostX.bnd P fun d ρ1 G1 H1 v _ _ S1 R P1 => ⟨G1, ρ1, S1, PostX.bnd P1 fun ds ρ2 G2 H2 vs _ n2 S2 R2 P2 => ?_⟩⟩
    refine P2.ret S2 Nx.refl (All2.cons ?_ R2)
    cases d with
    | vl e => exact n2.rep R
    | ln i => exact R
theorem se_tup {l : List E} {es : List Expr} {k : Nat} (h : SL B W Y X l es) : SE B W Y X (.tup l) (.Tuple es k pos) := by
  refine SE.mk1 (pe_mono (pe_tupF h.d) fun σ H Q ⟨G, ρ, S, P⟩ => ?_) fun k => nofun
  unfold ev at P
  refine ⟨G, ρ, S, PostX.bnd P fun ds ρ1 G1 H1 vs _ _ S1 R P1 => ?_⟩
  by_cases hz : ds.length ≤ LL
  · rw [if_pos hz] at P1
    refine ⟨LL_line (by rw [Reps.length R]; exact hz), fun p o hp hc hd => ?_⟩
    have m := Mk1.newT (G := G1) hp hc hd R
    exact P1.ret (m.sta S1) m.nx m.rep
  · rw [if_neg hz] at P1
    exact P1.elim
theorem se_lst {l : List E} {es : List Expr} (h : SL B W Y X l es) : SE B W Y X (.lst l) (.List es pos) := by
  refine SE.mk1 (pe_mono (pe_lst h.d) fun σ H Q ⟨G, ρ, S, P⟩ => ?_) fun k => nofun
  unfold ev at P
  refine ⟨G, ρ, S, PostX.bnd P fun ds ρ1 G1 H1 vs _ _ S1 R P1 => ?_⟩
  by_cases hz : ds.length ≤ LL
  · rw [if_pos hz] at P1
    refine ⟨LL_line (by rw [Reps.length R]; exact hz), fun p hp => ?_⟩
    have m := Mk1.newL (G := G1) hp R
    exact P1.ret (m.sta S1) m.nx m.rep
  · rw [if_neg hz] at P1
    exact P1.elim
theorem se_sub (ha : SE B W Y X a x) (hb : SE B W Y X b y) (hs : PlainIx y) : SE B W Y X (.sub a b) (.Subscript x y pos) := by
  refine SE.mk1 (pe_mono (pe_ix (ix_sub B) ha.p hb.d hs) fun σ H Q ⟨G, ρ, S, P⟩ => ?_) fun k => nofun
  unfold ev at P
  refine ⟨G, ρ, S, PostX.bnd P fun p ρ1 G1 H1 v _ _ S1 R1 P1 => ⟨G1, ρ1, S1, PostX.bnd P1 fun k ρ2 G2 H2 u _ n2 S2 R2 P2 => ?_⟩⟩
  obtain ⟨dx, ex, P3⟩ := P2.opt
  obtain ⟨d, ed, P4⟩ := P3.opt
  exact ⟨G2, dx, k, d, RPl.rd S2 (RPl.nx (ρ' := ρ2) n2 R1) ex, .val R2, ed, fun v' G3 H3 m => P4.ret (m.sta S2) m.nx m.rep⟩
def RO : Option Int → Env → Gh → Hp → Option Int → Prop := fun b _ _ _ b' => b' = b
abbrev tO (K : PySem.W.Frag) (B : Cls0) (W : WX) (f : Env → Out (Option Int)) : TO := fun σ H Q => tX K B W σ RO f H Q
theorem so_none : PO X none (tO X.K B W (evBd (.c .non) (ev Y (.c .non)))) := po_mono po_none fun σ H Q ⟨G, ρ, S, P⟩ => P.ret S Nx.refl rfl
theorem so_some (ha : SE B W Y X a x) (hn : a ≠ .c .non) : PO X (some x) (tO X.K B W (evBd a (ev Y a))) := by
  have e : evBd a (ev Y a) = fun ρ => bnd (evD (ev Y a ρ)) fun d ρ => (match d with
    | .int k => ret (some k) ρ
    | _ => none) := by
    funext ρ
    have h1 : evBd a (ev Y a) ρ = bnd (ev Y a ρ) fun t ρ => (match frz t with
      | .int k => ret (some k) ρ
      | _ => none) := by
      unfold evBd
      split
      · exact absurd rfl hn
      · rfl
    rw [h1]
    cases ev Y a ρ with
    | none => rfl
    | some p =>
      obtain ⟨r, ρ1⟩ := p
      cases r <;> rfl
  rw [e]
  refine po_mono (po_some ha.d) fun σ H Q ⟨G, ρ, S, P⟩ => ⟨G, ρ, S, PostX.bnd P fun d ρ1 G1 H1 v _ _ S1 R P1 => ?_⟩
  cases d with
  | int i =>
    cases R
    exact ⟨i, rfl, P1.ret S1 Nx.refl rfl⟩
  | _ => exact P1.elim
theorem se_slc {lo hi : Option Expr} {p2 : Pos} (ha : SE B W Y X a x) (hb : PO X lo (tO X.K B W (evBd b (ev Y b)))) (hc : PO X hi (tO X.K B W (evBd c (ev Y c)))) : SE B W Y X (.slc a b c) (.Subscript x (.Slice lo hi none p2) pos) := by
  refine SE.mk1 (pe_mono (pe_slice (sl_slc B) ha.p hb hc) fun σ H Q ⟨G, ρ, S, P⟩ => ?_) fun k => nofun
  unfold ev at P
  refine ⟨G, ρ, S, PostX.bnd P fun p ρ1 G1 H1 v _ _ S1 R1 P1 => ⟨G1, ρ1, S1, PostX.bnd P1 fun l ρ2 G2 H2 l' _ n2 S2 R2 P2 => ⟨G2, ρ2, S2, PostX.bnd P2 fun u ρ3 G3 H3 u' _ n3 S3 R3 P3 => ?_⟩⟩⟩
  have R2' : l' = l := R2
  have R3' : u' = u := R3
  subst R2' R3'
  obtain ⟨dx, ex, P4⟩ := P3.opt
  obtain ⟨t, et, P5⟩ := P4.opt
  exact ⟨G3, dx, t, RPl.rd S3 (RPl.nx (ρ' := ρ3) (n2.trans n3) R1) ex, et, fun v' G4 H4 m => P5.ret (m.sta S3) m.nx m.rep⟩
theorem rd_all {K : PySem.W.Frag} {σ : L2.St} {G : Gh} {H : Hp} {ρ ρ0 : Env} (S : Sta K B G ρ σ H) : ∀ {ps : List Pl} {vs : List V} {ds : List D}, RPls K B σ ps ρ0 G H vs → ps.mapM (rd ρ) = some ds → RepCs K B G H vs ds
  | [], _, ds, .nil, e => by
    have e2 : ([] : List D) = ds := Option.some.inj e
    subst e2
    exact .nil
  | p :: ps, _, ds, .cons r rr, e => by
    rw [List.mapM_cons] at e
    cases e1 : rd ρ p with
    | none => rw [e1] at e; cases e
    | some d =>
      rw [e1] at e
      have e' : (do let y ← ps.mapM (rd ρ); pure (d :: y)) = some ds := e
      cases e2 : ps.mapM (rd ρ) with
      | none => rw [e2] at e'; cases e'
      | some ds' =>
        rw [e2] at e'
        have e3 : d :: ds' = ds := Option.some.inj e'
        subst e3
        exact .cons (RPl.rd S r e1) (rd_all S rr e2)
theorem blt_tail {bb : Blt} {l : List E} {es : List Expr} (h : PA X es (tPs X.K B W (evPls Y l))) : ∀ σ H Q, tE X.K B W (ev Y (.blt bb l)) σ H Q → tPs X.K B W (evPls Y l) σ H (fun vs H1 => rBlt X.K B bb vs H1 Q) := fun σ H Q ⟨G, ρ, S, P⟩ => by
  unfold ev at P
  refine ⟨G, ρ, S, PostX.bnd P fun ps ρ1 G1 H1 vs _ _ S1 R P1 => ?_⟩
  obtain ⟨ds, eds, P2⟩ := P1.opt
  obtain ⟨t, et, P3⟩ := P2.opt
  exact ⟨G1, ds, t, rd_all S1 R eds, et, fun v' G2 H2 m => P3.ret (m.sta S1) m.nx m.rep⟩
end
end Ev
end

section
set_option linter.all false
set_option maxRecDepth 100000
set_option maxHeartbeats 4000000
/-! The language is what the machine does: calls. -/
namespace Ev
open PySem L2 PySem.Spec PyProof.Rows

/-! ### the names behind a call -/
/-- the place of slot i among the arguments -/
def lnPos (i : Nat) : List Arg → Nat → Option Nat
  | [], _ => none
  | .vl _ :: r, k => lnPos i r (k + 1)
  | .ln j :: r, k => if j = i then some k else lnPos i r (k + 1)
theorem lnPos_mem {i : Nat} : ∀ {as : List Arg} {k j : Nat}, lnPos i as k = some j → k ≤ j ∧ as[j - k]? = some (.ln i)
  | [], _, _, h => by cases h
  | .vl d :: r, k, j, h => by
    obtain ⟨h1, h2⟩ := lnPos_mem (as := r) (k := k + 1) (j := j) h
    have e : j - k = (j - (k + 1)) + 1 := by omega
    refine ⟨by omega, ?_⟩
    rw [e]
    exact h2
  | .ln m :: r, k, j, h => by
    have h' : (if m = i then some k else lnPos i r (k + 1)) = some j := h
    split at h'
    · rename_i hm
      have e := Option.some.inj h'
      subst e hm
      exact ⟨Nat.le_refl _, by rw [Nat.sub_self]; rfl⟩
    · obtain ⟨h1, h2⟩ := lnPos_mem (as := r) (k := k + 1) (j := j) h'
      have e : j - k = (j - (k + 1)) + 1 := by omega
      refine ⟨by omega, ?_⟩
      rw [e]
      exact h2
theorem mem_lns {i : Nat} : ∀ {as : List Arg} {j : Nat}, as[j]? = some (.ln i) → i ∈ lns as
  | [], _, h => by simp at h
  | .vl _ :: r, 0, h => by cases Option.some.inj h
  | .ln m :: r, 0, h => by
    have e := Arg.ln.inj (Option.some.inj h)
    rw [e]
    exact List.mem_cons_self
  | .vl _ :: r, j + 1, h => mem_lns (as := r) (j := j) h
  | .ln m :: r, j + 1, h => List.mem_cons_of_mem _ (mem_lns (as := r) (j := j) h)
theorem lnPos_of {i : Nat} : ∀ {as : List Arg} {j k : Nat}, (lns as).Nodup → as[j]? = some (.ln i) → lnPos i as k = some (k + j)
  | [], _, _, _, h => by simp at h
  | .vl _ :: r, 0, _, _, h => by cases Option.some.inj h
  | .ln m :: r, 0, k, _, h => by
    have e := Arg.ln.inj (Option.some.inj h)
    subst e
    show (if m = m then some k else _) = some (k + 0)
    rw [if_pos rfl]
    rfl
  | .vl _ :: r, j + 1, k, n, h => by
    have q := lnPos_of (as := r) (j := j) (k := k + 1) n h
    show lnPos i r (k + 1) = some (k + (j + 1))
    rw [q]
    congr 1
    omega
  | .ln m :: r, j + 1, k, n, h => by
    obtain ⟨n1, n2⟩ := List.nodup_cons.mp (show (m :: lns r).Nodup from n)
    have q := lnPos_of (as := r) (j := j) (k := k + 1) n2 h
    show (if m = i then some k else lnPos i r (k + 1)) = some (k + (j + 1))
    have ne : m ≠ i := fun z => n1 (by rw [z]; exact mem_lns (as := r) (j := j) h)
    rw [if_neg ne, q]
    congr 1
    omega
/-- the callee's names -/
def gCall (as : List Arg) (G : Gh) : Gh := fun b => match G b with
  | .my (i + 1) p => (match lnPos i as 0 with | some j => .my (j + 1) p | none => .non)
  | .my 0 _ => .non
  | o => o
/-- the names behind the call: G1 ahead of it, G' as the callee left them -/
def gAft (as : List Arg) (G1 G' : Gh) : Gh := fun b => match G1 b with
  | .my (i + 1) p => (match lnPos i as 0 with
    | none => .my (i + 1) p
    | some _ => (match G' b with
      | .my (j + 1) p => (match as[j]? with | some (.ln i) => .my (i + 1) p | _ => .non)
      | o => o))
  | _ => (match G' b with
    | .my (j + 1) p => (match as[j]? with | some (.ln i) => .my (i + 1) p | _ => .non)
    | o => o)
/-- the callee's names, the argument handed over -/
def gMv1 (G : Gh) : Gh := fun b => match G b with
  | .my 0 p => .my 1 p
  | .my (_ + 1) _ => .non
  | o => o
theorem gMv1_frz {G : Gh} {b : Addr} (h : G b = .frz) : gMv1 G b = .frz := by unfold gMv1; rw [h]
theorem gMv1_non {G : Gh} {b : Addr} (h : G b = .non) : gMv1 G b = .non := by unfold gMv1; rw [h]
theorem gMv1_0 {G : Gh} {b : Addr} {p : List Nat} (h : G b = .my 0 p) : gMv1 G b = .my 1 p := by unfold gMv1; rw [h]
theorem gMv1_s {G : Gh} {b : Addr} {i : Nat} {p : List Nat} (h : G b = .my (i + 1) p) : gMv1 G b = .non := by unfold gMv1; rw [h]
/-- its place is kept aside -/
def Hid (as : List Arg) (G1 : Gh) (b : Addr) : Prop := ∃ i p, G1 b = .my (i + 1) p ∧ lnPos i as 0 = none
theorem gAft_hid {as : List Arg} {G1 G' : Gh} {b : Addr} {i : Nat} {p : List Nat} (h : G1 b = .my (i + 1) p) (n : lnPos i as 0 = none) : gAft as G1 G' b = .my (i + 1) p := by
  unfold gAft
  rw [h]
  simp only [n]
theorem gAft_out {as : List Arg} {G1 G' : Gh} {b : Addr} (n : ¬ Hid as G1 b) : gAft as G1 G' b = (match G' b with
    | .my (j + 1) p => (match as[j]? with | some (.ln i) => .my (i + 1) p | _ => .non)
    | o => o) := by
  unfold gAft
  cases h : G1 b with
  | non => rfl
  | frz => rfl
  | my r p =>
    cases r with
    | zero => rfl
    | succ i =>
      cases e : lnPos i as 0 with
      | none => exact absurd ⟨i, p, h, e⟩ n
      | some j => simp only [e]
section
variable {K : PySem.W.Frag} {B : Cls0} {W : WX} {σ : L2.St} {G G' G1 : Gh} {H H' H1 : Hp} {ρ ρ' : Env} {as : List Arg}
theorem gCall_frz {b : Addr} (h : G b = .frz) : gCall as G b = .frz := by unfold gCall; rw [h]
theorem gCall_non {b : Addr} (h : G b = .non) : gCall as G b = .non := by unfold gCall; rw [h]
theorem gCall_my {b : Addr} {i j : Nat} {p : List Nat} (h : G b = .my (i + 1) p) (e : lnPos i as 0 = some j) : gCall as G b = .my (j + 1) p := by
  unfold gCall
  rw [h]
  simp only [e]
theorem gCall_hid {b : Addr} (h : Hid as G b) : gCall as G b = .non := by
  obtain ⟨i, p, h1, h2⟩ := h
  unfold gCall
  rw [h1]
  simp only [h2]
theorem gCall_inv {b : Addr} (h : gCall as G b = .frz) : G b = .frz := by
  unfold gCall at h
  cases e : G b with
  | frz => rfl
  | non => rw [e] at h; cases h
  | my r p =>
    rw [e] at h
    cases r with
    | zero => cases h
    | succ i =>
      simp only at h
      cases q : lnPos i as 0 with
      | none => rw [q] at h; cases h
      | some j => rw [q] at h; cases h
theorem fz_call : Fz (gCall as G) H = Fz G H := by
  funext a
  unfold Fz
  cases e : G a with
  | frz => rw [gCall_frz e]
  | non => rw [gCall_non e]
  | my r p =>
    cases q : gCall as G a with
    | frz => rw [gCall_inv q] at e; cases e
    | non => rfl
    | my r' p' => rfl
/-- several arguments, by their places -/
def Args (K : PySem.W.Frag) (B : Cls0) (G : Gh) (H : Hp) (vs : List V) (ts : List T) : Prop := ∀ (j : Nat) (v : V) (t : T), vs[j]? = some v → ts[j]? = some t → RepT K B G H (j + 1) [] v t
/-- what a def promises, by the language -/
def spF (K : PySem.W.Frag) (B : Cls0) (k : Nat) (Γ : List T → Option (Res T × List T)) : Sp := fun vs H Q E => vs.length = k ∧ ∃ G ts r ts', vs.length = ts.length ∧ (∀ a, H a = none → G a = .non) ∧ Args K B G H vs ts ∧ Γ ts = some (r, ts') ∧ (match r with
  | .ok t => ∀ G' H' v, Nx G H G' H' → (∀ a, H' a = none → G' a = .non) → RepT K B G' H' 0 [] v t → Args K B G' H' vs ts' → Q v H'
  | .err c d => ∀ G' H' dx, Nx G H G' H' → (∀ a, H' a = none → G' a = .non) → Args K B G' H' vs ts' → XRep K B G' H' d dx → E (.ref (B.C c)) (some dx) H')
theorem argTs_get : ∀ {as : List Arg} {ts : List T}, argTs ρ as = some ts → as.length = ts.length ∧ ∀ (j : Nat) (t : T), ts[j]? = some t → ∃ a, as[j]? = some a ∧ argT ρ a = some t
  | [], ts, h => by
    have e : ([] : List T) = ts := Option.some.inj h
    subst e
    exact ⟨rfl, fun j t h => by simp at h⟩
  | a :: r, ts, h => by
    have h' : (match argT ρ a, argTs ρ r with
      | some t, some ts => some (t :: ts)
      | _, _ => none) = some ts := h
    cases e1 : argT ρ a with
    | none => rw [e1] at h'; cases h'
    | some t =>
      cases e2 : argTs ρ r with
      | none => rw [e1, e2] at h'; cases h'
      | some us =>
        rw [e1, e2] at h'
        have e3 : t :: us = ts := Option.some.inj h'
        subst e3
        obtain ⟨h1, h2⟩ := argTs_get e2
        refine ⟨congrArg Nat.succ h1, fun j t' hj => ?_⟩
        cases j with
        | zero =>
          have e4 := Option.some.inj hj
          subst e4
          exact ⟨a, rfl, e1⟩
        | succ j => exact h2 j t' hj
theorem putArgs_length : ∀ {as : List Arg} {ts : List T}, (putArgs ρ as ts).length = ρ.length
  | [], _ => rfl
  | .vl _ :: _, [] => rfl
  | .ln _ :: _, [] => rfl
  | .vl _ :: r, _ :: ts => putArgs_length (as := r) (ts := ts)
  | .ln i :: r, t :: ts => by
    show ((putArgs ρ r ts).set i (some t)).length = _
    rw [List.length_set]
    exact putArgs_length (as := r) (ts := ts)
theorem putArgs_out {i : Nat} : ∀ {as : List Arg} {ts : List T}, i ∉ lns as → look (putArgs ρ as ts) i = look ρ i
  | [], _, _ => rfl
  | .vl _ :: _, [], _ => rfl
  | .ln _ :: _, [], _ => rfl
  | .vl _ :: r, _ :: ts, h => putArgs_out (as := r) (ts := ts) h
  | .ln j :: r, t :: ts, h => by
    have h1 : j ≠ i := fun z => h (by rw [z]; exact List.mem_cons_self)
    have h2 : i ∉ lns r := fun z => h (List.mem_cons_of_mem _ z)
    show look ((putArgs ρ r ts).set j (some t)) i = _
    rw [look_set_ne h1]
    exact putArgs_out h2
theorem putArgs_in {i : Nat} {t' : T} : ∀ {as : List Arg} {ts : List T}, as.length ≤ ts.length → (lns as).Nodup → i ∈ lns as → look (putArgs ρ as ts) i = some t' → ∃ (j : Nat), as[j]? = some (Arg.ln i) ∧ ts[j]? = some t'
  | [], _, _, _, h, _ => by cases h
  | .vl _ :: _, [], hl, _, _, _ => by cases hl
  | .ln _ :: _, [], hl, _, _, _ => by cases hl
  | .vl _ :: r, _ :: ts, hl, n, h, e => by
    obtain ⟨j, h1, h2⟩ := putArgs_in (as := r) (ts := ts) (Nat.le_of_succ_le_succ hl) n h e
    exact ⟨j + 1, h1, h2⟩
  | .ln m :: r, t :: ts, hl, n, h, e => by
    obtain ⟨n1, n2⟩ := List.nodup_cons.mp (show (m :: lns r).Nodup from n)
    have e1 : look ((putArgs ρ r ts).set m (some t)) i = some t' := e
    by_cases hm : m = i
    · subst hm
      have e2 := look_set_some e1
      subst e2
      exact ⟨0, rfl, rfl⟩
    · rw [look_set_ne hm] at e1
      have h2 : i ∈ lns r := (List.mem_cons.mp (show i ∈ m :: lns r from h)).resolve_left (fun z => hm z.symm)
      obtain ⟨j, h3, h4⟩ := putArgs_in (as := r) (ts := ts) (Nat.le_of_succ_le_succ hl) n2 h2 e1
      exact ⟨j + 1, h3, h4⟩
/-- ahead of the callee -/
theorem args_in (S : Sta K B G ρ σ H) {vs : List V} {ts : List T} (nd : (lns as).Nodup) (R : RArgs K B σ as ρ G H vs) (e : argTs ρ as = some ts) {dvs : List V} {dds : List D} (hd : Reps K B (fun _ => none) dvs dds) :
    Args K B (gCall as G) H (vs ++ dvs) (ts ++ dds.map .val) := fun j v t hv ht => by
  obtain ⟨hl, hg⟩ := argTs_get e
  have hl2 : as.length = vs.length := All2.length R
  by_cases hj : j < ts.length
  · rw [List.getElem?_append_left hj] at ht
    rw [List.getElem?_append_left (by omega)] at hv
    obtain ⟨a, ha, et⟩ := hg j t ht
    have r := All2.get R ha hv
    cases a with
    | vl d =>
      have e2 : T.val d = t := Option.some.inj et
      subst e2
      refine .val ?_
      rw [fz_call]
      exact r
    | ln i =>
      obtain ⟨v', hv', R2⟩ := S.slot i t et
      have ev : v = v' := by
        have q : σ[i]? = some (some v) := r
        rw [hv'] at q
        exact (Option.some.inj (Option.some.inj q)).symm
      subst ev
      have lp : lnPos i as 0 = some j := by
        have := lnPos_of (k := 0) nd ha
        rw [Nat.zero_add] at this
        exact this
      exact R2.stay (fun a o e g => ⟨e, gCall_frz g⟩) fun a o p e g => ⟨e, gCall_my g lp⟩
  · rw [List.getElem?_append_right (by omega)] at ht
    rw [List.getElem?_append_right (by omega)] at hv
    rw [List.getElem?_map] at ht
    have ej : j - vs.length = j - ts.length := by omega
    rw [ej] at hv
    cases q : dds[j - ts.length]? with
    | none => rw [q] at ht; cases ht
    | some d =>
      rw [q] at ht
      have e2 : T.val d = t := Option.some.inj ht
      subst e2
      obtain ⟨v', h1, h2⟩ := hd.get q
      rw [hv] at h1
      have e3 := Option.some.inj h1
      subst e3
      exact .val (h2.mono fun a o z => by cases z)
theorem Hid.tracked (S : Sta K B G ρ σ H) {b : Addr} (h : Hid as G b) : ∃ o, H b = some o := by
  obtain ⟨i, p, h1, _⟩ := h
  cases e : H b with
  | some o => exact ⟨o, rfl⟩
  | none =>
    rw [S.fresh b e] at h1
    cases h1
/-- behind the callee -/
theorem args_out (S : Sta K B G ρ σ H) {vs : List V} (nd : (lns as).Nodup) (R : RArgs K B σ as ρ G H vs) {dvs : List V} {ts' : List T} (n : Nx (gCall as G) H G' H') (fr : ∀ a, H' a = none → G' a = .non) (A : Args K B G' H' (vs ++ dvs) ts') (hl : as.length ≤ ts'.length) :
    Nx G H (gAft as G G') H' ∧ Sta K B (gAft as G G') (putArgs ρ as ts') σ H' ∧ (∀ {v t}, RepT K B G' H' 0 [] v t → RepT K B (gAft as G G') H' 0 [] v t) ∧ (∀ {v d}, Rep K B (Fz G' H') v d → Rep K B (Fz (gAft as G G') H') v d) := by
  have hid : ∀ b, Hid as G b → ∃ o, H b = some o ∧ H' b = some o ∧ G' b = .non := fun b h => by
    obtain ⟨o, ho⟩ := h.tracked S
    obtain ⟨h1, h2⟩ := (n b o ho).2 (gCall_hid h)
    exact ⟨o, ho, h1, h2⟩
  have frzK : ∀ b, G' b = .frz → gAft as G G' b = .frz := fun b h => by
    rw [gAft_out fun z => ?_, h]
    obtain ⟨_, _, _, q⟩ := hid b z
    rw [h] at q
    cases q
  have my0 : ∀ b p, G' b = .my 0 p → gAft as G G' b = .my 0 p := fun b p h => by
    rw [gAft_out fun z => ?_, h]
    obtain ⟨_, _, _, q⟩ := hid b z
    rw [h] at q
    cases q
  have myS : ∀ (b : Addr) (j : Nat) (p : List Nat) (i : Nat), G' b = .my (j + 1) p → as[j]? = some (Arg.ln i) → gAft as G G' b = .my (i + 1) p := fun b j p i h ha => by
    rw [gAft_out fun z => ?_, h]
    · simp only [ha]
    · obtain ⟨_, _, _, q⟩ := hid b z
      rw [h] at q
      cases q
  refine ⟨fun a o e => ⟨fun g => ?_, fun g => ?_⟩, ⟨?_, fun i t e => ?_, fun a e => ?_⟩, fun {v t} r => r.stay (fun a o e g => ⟨e, frzK a g⟩) fun a o p e g => ⟨e, my0 a p g⟩, fun {v d} r => r.mono fun a o e => ?_⟩
  · obtain ⟨h1, h2⟩ := (n a o e).1 (gCall_frz g)
    exact ⟨h1, frzK a h2⟩
  · obtain ⟨h1, h2⟩ := (n a o e).2 (gCall_non g)
    refine ⟨h1, ?_⟩
    have nh : ¬ Hid as G a := fun ⟨i, p, q, _⟩ => by
      rw [g] at q
      cases q
    rw [gAft_out nh, h2]
  · rw [putArgs_length]
    exact S.len
  · by_cases hi : i ∈ lns as
    · obtain ⟨j, h1, h2⟩ := putArgs_in hl nd hi e
      have hj : j < as.length := (List.getElem?_eq_some_iff.mp h1).1
      have hl2 : as.length = vs.length := All2.length R
      have hv : vs[j]? = some vs[j] := List.getElem?_eq_getElem (by omega)
      have r : σ[i]? = some (some vs[j]) := All2.get (R := fun p v => RArg K B σ p ρ G H v) R h1 hv
      have A1 := A j vs[j] t (by rw [List.getElem?_append_left (by omega)]; exact hv) h2
      exact ⟨vs[j], r, A1.stay (fun a o e g => ⟨e, frzK a g⟩) fun a o p e g => ⟨e, myS a j p i g h1⟩⟩
    · rw [putArgs_out hi] at e
      obtain ⟨v, hv, R2⟩ := S.slot i t e
      have lp : lnPos i as 0 = none := by
        cases q : lnPos i as 0 with
        | none => rfl
        | some j => exact absurd (mem_lns (lnPos_mem q).2) hi
      refine ⟨v, hv, R2.stay (fun a o e g => ?_) fun a o p e g => ?_⟩
      · obtain ⟨h1, h2⟩ := (n a o e).1 (gCall_frz g)
        exact ⟨h1, frzK a h2⟩
      · obtain ⟨o', h1, h2, _⟩ := hid a ⟨i, p, g, lp⟩
        rw [e] at h1
        have e2 := Option.some.inj h1
        subst e2
        exact ⟨h2, gAft_hid g lp⟩
  · have q := fr a e
    rw [gAft_out fun z => ?_, q]
    obtain ⟨_, _, h2, _⟩ := hid a z
    rw [e] at h2
    cases h2
  · obtain ⟨g, h⟩ := Fz.inv e
    exact Fz.of (frzK a g) h
end
section
variable {B : Cls0} {W : WX} {X : Cx} {x y z : Expr} {pos p : Pos} {Y : Sys}
theorem call_tail {f : Nat} {l : List E} {k : Nat} {dvs : List V} (hd : Reps X.K B (fun _ => none) dvs (Y.dfl f l.length)) (hk : ∀ vs H Q E, spF X.K B k (Y.Γ f) vs H Q E → True) (hlen : ∀ (as : List Arg), True) (kk : l.length + dvs.length = k) (hl : ∀ ρ as ρ', evAs Y l ρ = some (.ok as, ρ') → as.length = l.length) :
    ∀ σ H Q, tE X.K B W (ev Y (.call f l)) σ H Q → tRs X.K B W (evAs Y l) σ H (fun vs H1 => spF X.K B k (Y.Γ f) (vs ++ dvs) H1 Q (WE W σ)) := fun σ H Q ⟨G, ρ, S, P⟩ => by
  unfold ev at P
  refine ⟨G, ρ, S, PostX.bnd P fun as ρ1 G1 H1 vs ee _ S1 R P1 => ?_⟩
  have la := hl ρ as ρ1 ee
  have lv : as.length = vs.length := All2.length R
  unfold callT at P1
  by_cases nd : (lns as).Nodup
  · rw [if_pos nd] at P1
    obtain ⟨ts, ets, P2⟩ := P1.opt
    have lt := (argTs_get ets).1
    have edf : Y.dfl f ts.length = Y.dfl f l.length := by rw [← lt, la]
    rw [edf] at P2
    cases er : Y.Γ f (ts ++ (Y.dfl f l.length).map .val) with
    | none => rw [er] at P2; exact P2.elim
    | some rr =>
      obtain ⟨r, ts'⟩ := rr
      rw [er] at P2
      simp only at P2
      by_cases hlt : ts'.length = ts.length + (Y.dfl f l.length).length
      · rw [if_pos hlt] at P2
        have ld := hd.length
        refine ⟨by rw [List.length_append]; omega, gCall as G1, ts ++ (Y.dfl f l.length).map .val, r, ts', by rw [List.length_append, List.length_append, List.length_map]; omega, fun a e => gCall_non (S1.fresh a e), args_in S1 nd R ets hd, er, ?_⟩
        cases r with
        | ok t =>
          intro G' H' v n fr rt A
          obtain ⟨h1, h2, h3, h4⟩ := args_out S1 nd R n fr A (by omega)
          exact P2 _ _ _ h1 h2 (h3 rt)
        | err c d =>
          intro G' H' dx n fr A ⟨v, x1, x2⟩
          obtain ⟨h1, h2, h3, h4⟩ := args_out S1 nd R n fr A (by omega)
          exact P2 _ _ dx h1 h2 ⟨v, x1, h4 x2⟩
      · rw [if_neg hlt] at P2
        exact P2.elim
  · rw [if_neg nd] at P1
    exact P1.elim
theorem evAs_length : ∀ {l : List E} {ρ ρ' : Env} {as : List Arg}, evAs Y l ρ = some (.ok as, ρ') → as.length = l.length
  | [], ρ, ρ', as, h => by
    unfold evAs at h
    have e : (Res.ok ([] : List Arg), ρ) = (.ok as, ρ') := Option.some.inj h
    injection e with e1 _
    injection e1 with e2
    rw [← e2]
    rfl
  | a :: l, ρ, ρ', as, h => by
    unfold evAs at h
    cases e : evArg a (ev Y a) ρ with
    | none => rw [e] at h; cases h
    | some q =>
      obtain ⟨r, ρ1⟩ := q
      rw [e] at h
      cases r with
      | err c d => cases h
      | ok a1 =>
        have h' : bnd (evAs Y l ρ1) (fun ds ρ => ret (a1 :: ds) ρ) = some (.ok as, ρ') := h
        cases e2 : evAs Y l ρ1 with
        | none => rw [e2] at h'; cases h'
        | some q2 =>
          obtain ⟨r2, ρ2⟩ := q2
          rw [e2] at h'
          cases r2 with
          | err c d => cases h'
          | ok as2 =>
            have e3 : (Res.ok (a1 :: as2), ρ2) = (.ok as, ρ') := Option.some.inj h'
            injection e3 with e4 _
            injection e4 with e5
            rw [← e5]
            exact congrArg Nat.succ (evAs_length e2)
theorem se_call {f : Nat} {l : List E} {x : Str} {e : Expr} {es : List Expr} {n k : Nat} {fA : Addr} {fd : FuncData} {ps : List Str} {dvs : List V} {ds : List Value} (h : SL B W Y X l (e :: es)) (F : FnG X.prog X.w X.K X.mg X.base (L2.CX X.prog X.w) n fA fd ps (spF X.K B k (Y.Γ f))) (hgd : X.A.guards = some []) (hr : Room n X.A) (hg : Gl X x) (hm : X.mg x = some (.ref fA))
    (hkp : PySem.W.keepIn X.K (.ref fA) = true) (hb : Binds X.K fd ps ds) (hd : Vals dvs ds) (hrd : Reps X.K B (fun _ => none) dvs (Y.dfl f l.length)) (tk : Takes X W) (hdb : (x == ("__debug__" : Str)) = false) (he : starEach (e :: es) X.env = (false, eval e X.env) :: starEach es X.env) (hpl : (backTo pos (starEach es X.env)).any (·.1) = false) (kk : l.length + dvs.length = k) :
    SE B W Y X (.call f l) (.Call (.Name x p) (e :: es) [] pos) :=
  SE.mk1 (pe_mono (pe_callG F hgd hr hg hm hkp hb hd (fun σ => passAt tk σ) h.r hdb he hpl) fun σ H Q q => call_tail hrd (fun _ _ _ _ _ => trivial) (fun _ => trivial) kk (fun ρ as ρ' => evAs_length) σ H Q q) fun k => nofun
/-- built-ins -/
theorem se_blt {bb : Blt} {l : List E} {x : Str} {e : Expr} {es : List Expr} (h : SL B W Y X l (e :: es)) (hbb : isIs bb = false) (hc : X.calm = true) (hg : Gl X x) (hm : X.mg x = none) (hv : bootBuiltins x = some (bltV bb)) (hn : x ≠ "__name__") (hdb : (x == ("__debug__" : Str)) = false) (he : starEach (e :: es) X.env = (false, eval e X.env) :: starEach es X.env) (hpl : (backTo pos (starEach es X.env)).any (·.1) = false) :
    SE B W Y X (.blt bb l) (.Call (.Name x p) (e :: es) [] pos) := by
  have hcall := call_blt (X := X) B bb hbb hc
  have ht := blt_tail (bb := bb) h.p
  cases bb <;> first
    | (cases hbb; done)
    | exact SE.mk1 (pe_mono (pe_callB hcall hg hm hv h.p hn hdb he hpl) ht) fun k => nofun
    | exact SE.mk1 (pe_mono (pe_callTy hcall hg hm hv h.p hn hdb he hpl) ht) fun k => nofun
/-- isinstance -/
theorem se_is {bb : Blt} {a : E} {x t : Str} {e : Expr} {p2 : Pos} (h : SE B W Y X a e) (hbb : isIs bb = true) (hg : Gl X x) (hm : X.mg x = none) (hv : bootBuiltins x = some (.builtin "isinstance")) (hn : x ≠ "__name__") (hdb : (x == ("__debug__" : Str)) = false) (hg2 : Gl X t) (hm2 : X.mg t = none) (hv2 : bootBuiltins t = some (.type (isTy bb))) (hn2 : t ≠ "__name__") (hdb2 : (t == ("__debug__" : Str)) = false)
    (he : starEach [e, .Name t p2] X.env = (false, eval e X.env) :: starEach [.Name t p2] X.env) (hpl : (backTo pos (starEach [.Name t p2] X.env)).any (·.1) = false) :
    SE B W Y X (.blt bb [a]) (.Call (.Name x p) [e, .Name t p2] [] pos) := by
  refine SE.mk1 ⟨fun pins s σ H Q I ⟨G, ρ, S, P⟩ => ?_⟩ fun k => nofun
  refine wpAny_Call_Name_kw (ld_blt (u := .builtin "isinstance") I hg hm hv (PyProof.Rows.callWith_builtin1 (thn ((pa_cons h.p (pa_cons (pe_bltn (v := .ty (isTy bb)) hg2 hm2 hv2 rfl hn2 hdb2) pa_nil rfl) he).run pos pins s σ H (fun vs H1 => ∃ v, vs = [v, .ty (isTy bb)] ∧ ∃ G d t, RepC X.K B G H1 v d ∧ bltD bb [d] = some t ∧ ∀ v' G' H', Mk1 X.K B G H1 t v' G' H' → Q v' H') I ?_) fun us s1 ⟨vs, H1, I1, r1, q1⟩ => ?_) he hpl) hn hdb)
  · unfold ev at P
    unfold evPls at P
    unfold evPls at P
    have e0 : (bnd (bnd (evPl a (ev Y a) ρ) fun d ρ => bnd (ret ([] : List Pl) ρ) fun ds ρ => ret (d :: ds) ρ) fun ps ρ => opt (ps.mapM (rd ρ)) fun ds => opt (bltD bb ds) fun t => ret t ρ) = bnd (evPl a (ev Y a) ρ) fun p ρ => opt (rd ρ p) fun d => opt (bltD bb [d]) fun t => ret t ρ := by
      cases evPl a (ev Y a) ρ with
      | none => rfl
      | some q =>
        obtain ⟨r, ρ1⟩ := q
        cases r with
        | err c d => rfl
        | ok p =>
          show (opt ([p].mapM (rd ρ1)) fun ds => opt (bltD bb ds) fun t => ret t ρ1) = opt (rd ρ1 p) fun d => opt (bltD bb [d]) fun t => ret t ρ1
          rw [List.mapM_cons]
          cases rd ρ1 p <;> rfl
    rw [e0] at P
    refine ⟨G, ρ, S, PostX.bnd P fun p ρ1 G1 H1 v _ _ S1 R P1 => ?_⟩
    obtain ⟨d, ed, P2⟩ := P1.opt
    obtain ⟨t, et, P3⟩ := P2.opt
    exact ⟨v, rfl, G1, d, t, RPl.rd S1 R ed, et, fun v' G2 H2 m => P3.ret (m.sta S1) m.nx m.rep⟩
  · obtain ⟨v, rfl, G1, d, t, c1, et, q⟩ := q1
    exact call_is B bb hbb I1 r1 c1 et q
/-- behind a callee that was handed its argument -/
theorem args_out1 {K : PySem.W.Frag} {σ : L2.St} {G G' : Gh} {H H' : Hp} {ρ : Env} (S : Sta K B G ρ σ H) (n : Nx (gMv1 G) H G' H') (fr : ∀ a, H' a = none → G' a = .non) :
    Nx G H (gAft [] G G') H' ∧ Sta K B (gAft [] G G') ρ σ H' ∧ (∀ {v t}, RepT K B G' H' 0 [] v t → RepT K B (gAft [] G G') H' 0 [] v t) ∧ (∀ {v d}, Rep K B (Fz G' H') v d → Rep K B (Fz (gAft [] G G') H') v d) := by
  have hid : ∀ b, Hid [] G b → ∃ o, H b = some o ∧ H' b = some o ∧ G' b = .non := fun b h => by
    obtain ⟨o, ho⟩ := h.tracked S
    obtain ⟨i, p, g, _⟩ := h
    obtain ⟨h1, h2⟩ := (n b o ho).2 (gMv1_s g)
    exact ⟨o, ho, h1, h2⟩
  have frzK : ∀ b, G' b = .frz → gAft [] G G' b = .frz := fun b h => by
    rw [gAft_out fun z => ?_, h]
    obtain ⟨_, _, _, q⟩ := hid b z
    rw [h] at q
    cases q
  have my0 : ∀ b p, G' b = .my 0 p → gAft [] G G' b = .my 0 p := fun b p h => by
    rw [gAft_out fun z => ?_, h]
    obtain ⟨_, _, _, q⟩ := hid b z
    rw [h] at q
    cases q
  refine ⟨fun a o e => ⟨fun g => ?_, fun g => ?_⟩, ⟨S.len, fun i t e => ?_, fun a e => ?_⟩, fun {v t} r => r.stay (fun a o e g => ⟨e, frzK a g⟩) fun a o p e g => ⟨e, my0 a p g⟩, fun {v d} r => r.mono fun a o e => ?_⟩
  · obtain ⟨h1, h2⟩ := (n a o e).1 (gMv1_frz g)
    exact ⟨h1, frzK a h2⟩
  · obtain ⟨h1, h2⟩ := (n a o e).2 (gMv1_non g)
    refine ⟨h1, ?_⟩
    have nh : ¬ Hid [] G a := fun ⟨i, p, q, _⟩ => by
      rw [g] at q
      cases q
    rw [gAft_out nh, h2]
  · obtain ⟨v, hv, R2⟩ := S.slot i t e
    refine ⟨v, hv, R2.stay (fun a o e g => ?_) fun a o p e g => ?_⟩
    · obtain ⟨h1, h2⟩ := (n a o e).1 (gMv1_frz g)
      exact ⟨h1, frzK a h2⟩
    · obtain ⟨o', h1, h2, _⟩ := hid a ⟨i, p, g, rfl⟩
      rw [e] at h1
      have e2 := Option.some.inj h1
      subst e2
      exact ⟨h2, gAft_hid g rfl⟩
  · have q := fr a e
    rw [gAft_out fun z => ?_, q]
    obtain ⟨_, _, h2, _⟩ := hid a z
    rw [e] at h2
    cases h2
  · obtain ⟨g, h⟩ := Fz.inv e
    exact Fz.of (frzK a g) h
theorem fz_mv1 {G : Gh} {H : Hp} : Fz (gMv1 G) H = Fz G H := by
  funext a
  unfold Fz gMv1
  cases G a with
  | frz => rfl
  | non => rfl
  | my r p => cases r <;> rfl
theorem se_call1 {f : Nat} {a : E} {x : Str} {e : Expr} {n k : Nat} {fA : Addr} {fd : FuncData} {ps : List Str} {dvs : List V} {ds : List Value} (h : SE B W Y X a e) (F : FnG X.prog X.w X.K X.mg X.base (L2.CX X.prog X.w) n fA fd ps (spF X.K B k (Y.Γ f))) (hgd : X.A.guards = some []) (hr : Room n X.A) (hg : Gl X x) (hm : X.mg x = some (.ref fA))
    (hkp : PySem.W.keepIn X.K (.ref fA) = true) (hb : Binds X.K fd ps ds) (hd : Vals dvs ds) (hrd : Reps X.K B (fun _ => none) dvs (Y.dfl f 1)) (tk : Takes X W) (hdb : (x == ("__debug__" : Str)) = false) (he : starEach [e] X.env = (false, eval e X.env) :: starEach [] X.env) (hpl : (backTo pos (starEach [] X.env)).any (·.1) = false) (kk : 1 + dvs.length = k) :
    SE B W Y X (.call1 f a) (.Call (.Name x p) [e] [] pos) := by
  refine SE.mk1 (pe_mono (pe_callG F hgd hr hg hm hkp hb hd (fun σ => passAt tk σ) (pa_cons h.e pa_nil he) hdb he hpl) fun σ H Q ⟨G, ρ, S, P⟩ => ?_) fun k => nofun
  unfold ev at P
  refine ⟨G, ρ, S, PostX.bnd P fun t ρ1 G1 H1 v ee _ S1 R P1 => ?_⟩
  unfold call1T at P1
  cases er : Y.Γ f (t :: (Y.dfl f 1).map .val) with
  | none => rw [er] at P1; exact P1.elim
  | some rr =>
    obtain ⟨r, ts'⟩ := rr
    rw [er] at P1
    simp only at P1
    by_cases hlt : ts'.length = 1 + (Y.dfl f 1).length
    · rw [if_pos hlt] at P1
      have ld := hrd.length
      have A0 : Args X.K B (gMv1 G1) H1 ([v] ++ dvs) (t :: (Y.dfl f 1).map .val) := fun j v' t' hv ht => by
        cases j with
        | zero =>
          have e1 := Option.some.inj hv
          have e2 := Option.some.inj ht
          subst e1 e2
          exact (show RepT X.K B G1 H1 0 [] v t from R).stay (fun a o e g => ⟨e, gMv1_frz g⟩) fun a o p e g => ⟨e, gMv1_0 g⟩
        | succ j =>
          have ht' : ((Y.dfl f 1).map T.val)[j]? = some t' := ht
          have hv' : dvs[j]? = some v' := hv
          rw [List.getElem?_map] at ht'
          cases q : (Y.dfl f 1)[j]? with
          | none => rw [q] at ht'; cases ht'
          | some d =>
            rw [q] at ht'
            have e2 : T.val d = t' := Option.some.inj ht'
            subst e2
            obtain ⟨v2, h1, h2⟩ := hrd.get q
            rw [hv'] at h1
            have e3 := Option.some.inj h1
            subst e3
            exact .val (h2.mono fun a o z => by cases z)
      refine ⟨by rw [List.length_append]; exact kk, gMv1 G1, t :: (Y.dfl f 1).map .val, r, ts', by simp only [List.length_append, List.length_cons, List.length_map, List.length_nil]; omega, fun a e => gMv1_non (S1.fresh a e), A0, er, ?_⟩
      cases r with
      | ok t =>
        intro G' H' v n fr rt A
        obtain ⟨h1, h2, h3, h4⟩ := args_out1 S1 n fr
        exact P1 _ _ _ h1 h2 (h3 rt)
      | err c d =>
        intro G' H' dx n fr A ⟨v, x1, x2⟩
        obtain ⟨h1, h2, h3, h4⟩ := args_out1 S1 n fr
        exact P1 _ _ dx h1 h2 ⟨v, x1, h4 x2⟩
    · rw [if_neg hlt] at P1
      exact P1.elim
end
end Ev
end

section
set_option linter.all false
set_option maxRecDepth 100000
set_option maxHeartbeats 4000000
/-! The language is what the machine does: targets, what is walked, comprehensions. -/
namespace Ev
open PySem L2 PySem.Spec PyProof.Rows

/-- σ' differs from σ at the slots l alone -/
def Sm (l : List Nat) (σ σ' : L2.St) : Prop := σ'.length = σ.length ∧ ∀ i, i ∉ l → σ'[i]? = σ[i]?
theorem Sm.refl {l : List Nat} {σ : L2.St} : Sm l σ σ := ⟨rfl, fun _ _ => rfl⟩
theorem Sm.trans {l m : List Nat} {σ σ1 σ2 : L2.St} (a : Sm l σ σ1) (b : Sm m σ1 σ2) : Sm (l ++ m) σ σ2 := ⟨b.1.trans a.1, fun i h => (b.2 i fun z => h (List.mem_append_right _ z)).trans (a.2 i fun z => h (List.mem_append_left _ z))⟩
theorem Sm.more {l m : List Nat} {σ σ1 : L2.St} (a : Sm l σ σ1) (h : ∀ i, i ∈ l → i ∈ m) : Sm m σ σ1 := ⟨a.1, fun i k => a.2 i fun z => k (h i z)⟩
theorem Sm.set {σ : L2.St} {i : Nat} {o : Option V} : Sm [i] σ (σ.set i o) := ⟨List.length_set, fun j h => by
  rw [List.getElem?_set_ne]
  intro z
  exact h (by rw [z]; exact List.mem_singleton.mpr rfl)⟩
theorem wipe_in {σ : L2.St} {i : Nat} : ∀ {vs : List Nat}, i ∈ vs → i < σ.length → (L2.wipe σ vs)[i]? = some none
  | [], h, _ => by cases h
  | v :: vs, h, hl => by
    unfold L2.wipe
    by_cases hv : v = i
    · subst hv
      rw [List.getElem?_set_self (by rw [wipe_length]; exact hl)]
    · rw [List.getElem?_set_ne hv]
      exact wipe_in ((List.mem_cons.mp h).resolve_left fun z => hv z.symm) hl
theorem Sm.wipe {l vs : List Nat} {σ σ' : L2.St} (a : Sm l σ σ') (h : ∀ i, i ∈ l → i ∈ vs) : L2.wipe σ' vs = L2.wipe σ vs := by
  refine List.ext_getElem? fun i => ?_
  by_cases hi : i ∈ vs
  · by_cases hl : i < σ.length
    · rw [wipe_in hi hl, wipe_in hi (by rw [a.1]; exact hl)]
    · rw [List.getElem?_eq_none (by rw [wipe_length, a.1]; omega), List.getElem?_eq_none (by rw [wipe_length]; omega)]
  · rw [wipe_out hi, wipe_out hi]
    exact a.2 i fun z => hi (h i z)
theorem wipe_wipe {vs : List Nat} {σ : L2.St} : L2.wipe (L2.wipe σ vs) vs = L2.wipe σ vs := by
  refine List.ext_getElem? fun i => ?_
  by_cases hi : i ∈ vs
  · by_cases hl : i < σ.length
    · rw [wipe_in hi hl, wipe_in hi (by rw [wipe_length]; exact hl)]
    · rw [List.getElem?_eq_none (by rw [wipe_length, wipe_length]; omega), List.getElem?_eq_none (by rw [wipe_length]; omega)]
  · rw [wipe_out hi]

/-! ### targets -/
section
variable (K : PySem.W.Frag) (B : Cls0)
def tG (g : Tg) : TG := fun v σ H Q => ∃ G ρ d ρ', Sta K B G ρ σ H ∧ Rep K B (Fz G H) v d ∧ asgD g d ρ = some ρ' ∧ ∀ σ', Sta K B G ρ' σ' H → Sm (tgs g) σ σ' → Q σ' H
def tGs (gs : List Tg) : TGs := fun vs σ H Q => ∃ G ρ ds ρ', Sta K B G ρ σ H ∧ Reps K B (Fz G H) vs ds ∧ asgDs gs ds ρ = some ρ' ∧ ∀ σ', Sta K B G ρ' σ' H → Sm (tgss gs) σ σ' → Q σ' H
end
section
variable {B : Cls0} {X : Cx} {pos : Pos}
theorem Sta.putD {K : PySem.W.Frag} {G : Gh} {ρ : Env} {σ : L2.St} {H : Hp} (S : Sta K B G ρ σ H) {i : Nat} {v : V} {d : D} (R : Rep K B (Fz G H) v d) : Sta K B G (ρ.set i (some (.val d))) (σ.set i (some v)) H := by
  refine ⟨?_, fun j t' e => ?_, S.fresh⟩
  · rw [List.length_set, List.length_set]; exact S.len
  · by_cases hj : i = j
    · subst hj
      have hl := look_lt e
      rw [List.length_set] at hl
      have e2 := look_set_some e
      subst e2
      exact ⟨v, by rw [List.getElem?_set_self (by rw [← S.len]; exact hl)], .val R⟩
    · rw [look_set_ne hj] at e
      obtain ⟨w, hv, r⟩ := S.slot j t' e
      exact ⟨w, by rw [List.getElem?_set_ne hj]; exact hv, r⟩
theorem pg_mono {e : Expr} {t t' : TG} (h : PG X e t) (f : ∀ v σ H Q, t' v σ H Q → t v σ H Q) : PG X e t' := ⟨fun pins s σ H v u Q I r q => h.run pins s σ H v u Q I r (f v σ H Q q)⟩
theorem pgs_mono {e : List Expr} {t t' : TGs} (h : PGs X e t) (f : ∀ v σ H Q, t' v σ H Q → t v σ H Q) : PGs X e t' := ⟨fun pins s σ H v u Q I r q => h.run pins s σ H v u Q I r (f v σ H Q q)⟩
theorem sg_name {i : Nat} {x : Str} (hN : X.N.Nodup) (hi : X.N[i]? = some x) (hx : Loc X.env.scope x) (hf : X.fn x = true ∨ X.env.scope.names.lookup x = some .local) : PG X (.Name x pos) (tG X.K B (.v i)) :=
  pg_mono (pg_name hN hi hx hf) fun v σ H Q ⟨G, ρ, d, ρ', S, R, e, q⟩ => by
    have e' : (if i < ρ.length then some (ρ.set i (some (.val d))) else none) = some ρ' := by
      unfold asgD at e
      exact e
    split at e'
    · have e2 := Option.some.inj e'
      subst e2
      exact q _ (S.putD R) Sm.set
    · cases e'
theorem sgs_nil : PGs X [] (tGs X.K B []) := pgs_mono pgs_nil fun vs σ H Q ⟨G, ρ, ds, ρ', S, R, e, q⟩ => by
  cases R with
  | nil =>
    have e2 : some ρ = some ρ' := by unfold asgDs at e; exact e
    have e3 := Option.some.inj e2
    subst e3
    exact ⟨rfl, q _ S Sm.refl⟩
  | cons a r => unfold asgDs at e; cases e
theorem sgs_cons {g : Tg} {gs : List Tg} {e : Expr} {es : List Expr} (h1 : PG X e (tG X.K B g)) (h2 : PGs X es (tGs X.K B gs)) (hs : (assignEach (e :: es) X.env).map (·.2) = assign e X.env :: (assignEach es X.env).map (·.2)) : PGs X (e :: es) (tGs X.K B (g :: gs)) :=
  pgs_mono (pgs_cons h1 h2 hs) fun vs σ H Q ⟨G, ρ, ds, ρ', S, R, e, q⟩ => by
    cases R with
    | nil => unfold asgDs at e; cases e
    | @cons v vr d dr a r =>
      have e' : (match asgD g d ρ with
        | some ρ' => asgDs gs dr ρ'
        | none => none) = some ρ' := by unfold asgDs at e; exact e
      cases e1 : asgD g d ρ with
      | none => rw [e1] at e'; cases e'
      | some ρ1 =>
        rw [e1] at e'
        exact ⟨v, vr, rfl, G, ρ, d, ρ1, S, a, e1, fun σ1 S1 m1 => ⟨G, ρ1, dr, ρ', S1, r, e', fun σ2 S2 m2 => q σ2 S2 (m1.trans m2)⟩⟩
theorem asgDs_len : ∀ {gs : List Tg} {ds : List D} {ρ ρ' : Env}, asgDs gs ds ρ = some ρ' → ds.length = gs.length
  | [], [], _, _, _ => rfl
  | [], _ :: _, _, _, h => by unfold asgDs at h; cases h
  | _ :: _, [], _, _, h => by unfold asgDs at h; cases h
  | g :: gs, d :: ds, ρ, ρ', h => by
    have e' : (match asgD g d ρ with
      | some ρ' => asgDs gs ds ρ'
      | none => none) = some ρ' := by unfold asgDs at h; exact h
    cases e1 : asgD g d ρ with
    | none => rw [e1] at e'; cases e'
    | some ρ1 =>
      rw [e1] at e'
      exact congrArg Nat.succ (asgDs_len e')
theorem sg_tup {gs : List Tg} {es : List Expr} {k n : Nat} (hc : X.calm = true) (h : PGs X es (tGs X.K B gs)) (hn : (assignEach es X.env).length = n) (hst : (assignEach es X.env).findIdx? (·.1) = none) (hl : gs.length = n) : PG X (.Tuple es k pos) (tG X.K B (.tup gs)) := by
  refine ⟨fun pins s σ H v u Q I r ⟨G, ρ, d, ρ', S, R, e, q⟩ => ?_⟩
  cases R with
  | @tup p vs ds a rs =>
    have e' : asgDs gs ds ρ = some ρ' := by unfold asgD at e; exact e
    refine (pg_tup (n := n) hc h hn hst).run pins s σ H _ u Q I r ⟨p, vs, rfl, Fz.sub.seqT a.sq, by rw [rs.length, asgDs_len e', hl], G, ρ, ds, ρ', S, rs, e', fun σ' S' m => q σ' S' m⟩
  | @lst p vs ds a rs =>
    have e' : asgDs gs ds ρ = some ρ' := by unfold asgD at e; exact e
    refine (pg_lst (n := n) hc h hn hst).run pins s σ H _ u Q I r ⟨p, vs, rfl, .inl (.inl (Fz.sub _ _ a)), by rw [rs.length, asgDs_len e', hl], G, ρ, ds, ρ', S, rs, e', fun σ' S' m => q σ' S' m⟩
  | _ => unfold asgD at e; cases e
end

/-! ### what is walked -/
def hidS (hs : List Nat) (q : Nat) : Bool := hs.any fun i => q == i + 1
/-- what stays, whoever runs -/
def Fx (G : Gh) (H : Hp) : Hp := fun a => match G a with
  | .my _ _ => none
  | _ => H a
section
variable {K : PySem.W.Frag} {B : Cls0} {σ : L2.St} {G G' G1 : Gh} {H H' H1 : Hp} {ρ ρ' : Env}
theorem Fx.frz {a : Addr} {o : HO} (h : G a = .frz) (e : H a = some o) : Fx G H a = some o := by unfold Fx; rw [h]; exact e
theorem Fx.non {a : Addr} {o : HO} (h : G a = .non) (e : H a = some o) : Fx G H a = some o := by unfold Fx; rw [h]; exact e
theorem Fx.inv {a : Addr} {o : HO} (e : Fx G H a = some o) : (G a = .frz ∨ G a = .non) ∧ H a = some o := by
  unfold Fx at e
  cases h : G a with
  | frz => rw [h] at e; exact ⟨.inl rfl, e⟩
  | non => rw [h] at e; exact ⟨.inr rfl, e⟩
  | my r p => rw [h] at e; cases e
theorem Nx.fx (n : Nx G H G1 H1) : Sub (Fx G H) (Fx G1 H1) := fun a o e => by
  obtain ⟨h | h, e'⟩ := Fx.inv e
  · obtain ⟨h1, h2⟩ := (n a o e').1 h
    exact Fx.frz h2 h1
  · obtain ⟨h1, h2⟩ := (n a o e').2 h
    exact Fx.non h2 h1
theorem Fx.sub : Sub (Fx G H) H := fun _ _ e => (Fx.inv e).2
theorem fz_hid {s : Nat → Bool} : Fz (gHid s G) H = Fz G H := by
  funext a
  unfold Fz
  cases e : G a with
  | frz => rw [gHid_frz e]
  | non => rw [gHid_non e]
  | my r p =>
    cases hs : s r with
    | true => rw [gHid_at e hs]
    | false => rw [gHid_ne e hs]
theorem fz_fx : Sub (Fz G H) (Fx G H) := fun a o e => by
  obtain ⟨h, e'⟩ := Fz.inv e
  exact Fx.frz h e'
/-- fewer hidden names, one more frozen -/
theorem fx_hid_mono {s s' : Nat → Bool} (h : ∀ q, s q = true → s' q = true) : Sub (Fx (gHid s G) H) (Fx (gHid s' G) H) := fun a o e => by
  obtain ⟨h1, e'⟩ := Fx.inv e
  cases g : G a with
  | frz => exact Fx.frz (gHid_frz g) e'
  | non => exact Fx.non (gHid_non g) e'
  | my r p =>
    cases hs : s r with
    | true => exact Fx.non (gHid_at g (h r hs)) e'
    | false =>
      rw [gHid_ne g hs] at h1
      rcases h1 with h1 | h1 <;> cases h1
theorem fx_hid_frz {s : Nat → Bool} {r : Nat} : Sub (Fx (gHid s G) H) (Fx (gHid s (gFrz r G)) H) := fun a o e => by
  obtain ⟨h1, e'⟩ := Fx.inv e
  cases g : G a with
  | frz => exact Fx.frz (gHid_frz (gFrz_frz g)) e'
  | non => exact Fx.non (gHid_non (gFrz_non g)) e'
  | my q p =>
    by_cases hq : q = r
    · subst hq
      exact Fx.frz (gHid_frz (gFrz_at g)) e'
    · cases hs : s q with
      | true => exact Fx.non (gHid_at (gFrz_ne g hq) hs) e'
      | false =>
        rw [gHid_ne g hs] at h1
        rcases h1 with h1 | h1 <;> cases h1
/-- each turn gives the next of ds -/
def WalkD (K : PySem.W.Frag) (B : Cls0) (J : L2.It) (ds : List D) (G : Gh) (H : Hp) : Prop := ∃ (Ga : Hp → Prop) (Yy : Nat → Hp → V → Hp → Prop), Walk J ds.length Ga Yy ∧ (∀ G' H', Nx G H G' H' → Ga H') ∧ ∀ i x G' H' H'', Nx G H G' H' → Yy i H' x H'' → ∃ d G'', ds[i]? = some d ∧ Mk1 K B G' H' (.val d) x G'' H''
/-- a value to be walked -/
def RWk (K : PySem.W.Frag) (B : Cls0) : D × List Nat → Env → Gh → Hp → V → Prop := fun w _ G H v => (∀ l, w.1 = .lst l → ∃ a vs, v = .ref a ∧ SqL K (Fx (gHid (hidS w.2) G) H) a vs ∧ Reps K B (Fz G H) vs l) ∧ (∀ l, w.1 = .tup l → ∃ a vs, v = .ref a ∧ SqT K (Fx (gHid (hidS w.2) G) H) a vs ∧ Reps K B (Fz G H) vs l) ∧ ∀ z, w.1 = .str z → v = .str z
def RW (K : PySem.W.Frag) (B : Cls0) : List D × List Nat → Env → Gh → Hp → L2.It → Prop := fun w _ G H J => WalkD K B J w.1 (gHid (hidS w.2) G) H
abbrev tWk (K : PySem.W.Frag) (B : Cls0) (W : WX) (f : Env → Out (D × List Nat)) : TE := fun σ H Q => tX K B W σ (RWk K B) f H Q
abbrev tI (K : PySem.W.Frag) (B : Cls0) (W : WX) (f : Env → Out (List D × List Nat)) : L2.TI := fun σ H Q => tX K B W σ (RW K B) f H Q
/-- data, walked -/
theorem RWk.data {v : V} {d : D} {ρ0 : Env} (r : Rep K B (Fz G H) v d) {hs : List Nat} : RWk K B (d, hs) ρ0 G H v := by
  have up : Sub (Fz G H) (Fx (gHid (hidS hs) G) H) := fun a o x => by
    obtain ⟨g, h⟩ := Fz.inv x
    exact Fx.frz (gHid_frz g) h
  refine ⟨fun l e => ?_, fun l e => ?_, fun z e => ?_⟩
  · have e' : d = .lst l := e
    subst e'
    cases r with
    | lst q rs => exact ⟨_, _, rfl, .inl (.inl (up _ _ q)), rs⟩
  · have e' : d = .tup l := e
    subst e'
    cases r with
    | tup q rs => exact ⟨_, _, rfl, up.seqT q.sq, rs⟩
  · have e' : d = .str z := e
    subst e'
    cases r
    rfl
/-- an own object in a slot, held -/
theorem RWk.slot {v : V} {t : T} {i : Nat} {ρ0 : Env} (r : RepT K B G H (i + 1) [] v t) : RWk K B (frz t, [i]) ρ0 G H v := by
  cases r with
  | val x => exact RWk.data x
  | lst g h rs =>
    refine ⟨fun l e => ?_, fun l e => (by cases e), fun z e => (by cases e)⟩
    injection e with e2
    subst e2
    exact ⟨_, _, rfl, .inl (.inl (Fx.non (gHid_at g (by simp [hidS])) h)), rs⟩
  | dic g h l rs => exact ⟨fun l e => (by cases e), fun l e => (by cases e), fun z e => (by cases e)⟩
  | ins g h l rs => exact ⟨fun l e => (by cases e), fun l e => (by cases e), fun z e => (by cases e)⟩
theorem RWk.mono {w : D × List Nat} {ρ0 ρ1 : Env} {v : V} (r : RWk K B w ρ0 G H v) (h1 : Sub (Fx (gHid (hidS w.2) G) H) (Fx (gHid (hidS w.2) G1) H1)) (h2 : Sub (Fz G H) (Fz G1 H1)) : RWk K B w ρ1 G1 H1 v := by
  refine ⟨fun l e => ?_, fun l e => ?_, r.2.2⟩
  · obtain ⟨a, vs, e1, e2, e3⟩ := r.1 l e
    exact ⟨a, vs, e1, h1.seqL e2, e3.mono h2⟩
  · obtain ⟨a, vs, e1, e2, e3⟩ := r.2.1 l e
    exact ⟨a, vs, e1, h1.seqT e2, e3.mono h2⟩
/-- a slot, walked -/
theorem wk_var {oc : Nat → Bool} {i : Nat} {f : Env → Out T} (S : Sta K B G ρ σ H) : (∀ {w ρ1}, evWk oc (.v i) f ρ = some (.ok w, ρ1) → ∃ v G1, σ[i]? = some (some v) ∧ Nx G H G1 H ∧ (∀ s, Sub (Fx (gHid s G) H) (Fx (gHid s G1) H)) ∧ Sta K B G1 ρ1 σ H ∧ RWk K B w ρ1 G1 H v) ∧ ∀ {c d ρ1}, evWk oc (.v i) f ρ ≠ some (.err c d, ρ1) := by
  have e0 : evWk oc (.v i) f ρ = (match look ρ i with
    | none => none
    | some (.val d) => ret (d, []) ρ
    | some t => if oc i then ret (frz t, []) (ρ.set i (some (.val (frz t)))) else ret (frz t, [i]) ρ) := rfl
  rw [e0]
  cases e : look ρ i with
  | none => exact ⟨fun h => (by cases h), fun h => (by cases h)⟩
  | some t =>
    obtain ⟨v, hv, R⟩ := S.slot i t e
    have own : ∀ {w ρ1}, (if oc i = true then ret (frz t, ([] : List Nat)) (ρ.set i (some (.val (frz t)))) else ret (frz t, [i]) ρ) = some (.ok w, ρ1) → ∃ v G1, σ[i]? = some (some v) ∧ Nx G H G1 H ∧ (∀ s, Sub (Fx (gHid s G) H) (Fx (gHid s G1) H)) ∧ Sta K B G1 ρ1 σ H ∧ RWk K B w ρ1 G1 H v := fun {w ρ1} h => by
      split at h
      · injection h with h
        injection h with h1 h2
        injection h1 with h1
        subst h1 h2
        exact ⟨v, gFrz (i + 1) G, hv, Nx.gFrz, fun s => fx_hid_frz, S.frzSlot e, RWk.data R.frzd⟩
      · injection h with h
        injection h with h1 h2
        injection h1 with h1
        subst h1 h2
        exact ⟨v, G, hv, Nx.refl, fun s a o z => z, S, RWk.slot R⟩
    have own2 : ∀ {c d ρ1}, (if oc i = true then ret (frz t, ([] : List Nat)) (ρ.set i (some (.val (frz t)))) else ret (frz t, [i]) ρ) ≠ some (.err c d, ρ1) := fun h => by
      split at h <;> cases h
    cases t with
    | val d =>
      refine ⟨fun {w ρ1} h => ?_, fun h => by cases h⟩
      injection h with h
      injection h with h1 h2
      injection h1 with h1
      subst h1 h2
      cases R with
      | val r => exact ⟨v, G, hv, Nx.refl, fun s a o z => z, S, RWk.data r⟩
    | lst l => exact ⟨own, own2⟩
    | dic a b => exact ⟨own, own2⟩
    | ins a b => exact ⟨own, own2⟩
/-! walks -/
theorem wd_at {J : L2.It} {Ga : Hp → Prop} {vs : List V} {ds : List D} (w : Walk J vs.length Ga (YAt vs)) (hG : ∀ G' H', Nx G H G' H' → Ga H') (r : Reps K B (Fz G H) vs ds) : WalkD K B J ds G H :=
  ⟨Ga, YAt vs, by rw [← r.length]; exact w, hG, fun i x G' H' H'' n ⟨e, hx⟩ => by
    subst e
    obtain ⟨d, hd, rd⟩ := (n.reps r).getV hx
    exact ⟨d, G', hd, .val rd⟩⟩
theorem wd_list {a : Addr} {vs : List V} {ds : List D} (q : SqL K (Fx G H) a vs) (r : Reps K B (Fz G H) vs ds) : WalkD K B (L2.Itl K a) ds G H := wd_at walk_list (fun _ _ n => Fx.sub.seqL (n.fx.seqL q)) r
theorem wd_tup {a : Addr} {vs : List V} {ds : List D} (q : SqT K (Fx G H) a vs) (r : Reps K B (Fz G H) vs ds) : WalkD K B (L2.Itt K a) ds G H := wd_at walk_tup (fun _ _ n => Fx.sub.seqT (n.fx.seqT q)) r
theorem pairs_get : ∀ (l : List D) (k i : Nat) {d : D}, l[i]? = some d → (pairs l k)[i]? = some (.tup [.int ((k + i : Nat) : Int), d])
  | [], _, _, _, h => by simp at h
  | e :: r, k, 0, d, h => by
    have e2 := Option.some.inj h
    subst e2
    rfl
  | e :: r, k, i + 1, d, h => by
    have := pairs_get r (k + 1) i (d := d) h
    show (pairs r (k + 1))[i]? = _
    rw [this]
    congr 5
    omega
theorem pairs_length : ∀ (l : List D) (k : Nat), (pairs l k).length = l.length
  | [], _ => rfl
  | _ :: r, k => congrArg Nat.succ (pairs_length r (k + 1))
theorem zips_get : ∀ (l m : List D) (i : Nat) {d e : D}, l[i]? = some d → m[i]? = some e → (zips l m)[i]? = some (.tup [d, e])
  | [], _, _, _, _, h, _ => by simp at h
  | _ :: _, [], _, _, _, _, h => by simp at h
  | a :: r, b :: s, 0, d, e, h, h' => by
    have e2 := Option.some.inj h
    have e3 := Option.some.inj h'
    subst e2 e3
    rfl
  | a :: r, b :: s, i + 1, d, e, h, h' => zips_get r s i (d := d) (e := e) h h'
theorem zips_length : ∀ (l m : List D), (zips l m).length = min l.length m.length
  | [], m => by unfold zips; simp
  | _ :: _, [] => by unfold zips; simp
  | a :: r, b :: s => by
    show (zips r s).length + 1 = _
    rw [zips_length r s, List.length_cons, List.length_cons]
    omega
theorem wd_pair {J : L2.It} {f g : Nat → Option V} {ds : List D} {Ga : Hp → Prop} (w : Walk J ds.length Ga (YPairF f g)) (hG : ∀ G' H', Nx G H G' H' → Ga H') (hi : ∀ i x y, f i = some x → g i = some y → ∃ d e, ds[i]? = some (.tup [d, e]) ∧ Rep K B (Fz G H) x d ∧ Rep K B (Fz G H) y e) : WalkD K B J ds G H :=
  ⟨Ga, YPairF f g, w, hG, fun i v G' H' H'' n ⟨p, o, x, y, e1, e2, e6, e3, e4, e5⟩ => by
    obtain ⟨d, e, hd, r1, r2⟩ := hi i x y e4 e5
    subst e1 e3
    exact ⟨_, _, hd, Mk1.newT e2 e6.1 e6.2 (.cons (n.rep r1) (.cons (n.rep r2) .nil))⟩⟩
theorem wd_enB {b : Bool} {a : Addr} {vs : List V} {ds : List D} (q : SqB K (Fx G H) a b vs) (r : Reps K B (Fz G H) vs ds) : WalkD K B (IteB K b a) (pairs ds 0) G H := by
  refine wd_pair (f := fun i => some (V.int (i : Nat))) (g := fun i => vs[i]?) ?_ (fun G' H' n => Fx.sub.seqB (n.fx.seqB q)) fun i x y e1 e2 => ?_
  · rw [pairs_length, ← r.length]
    exact walk_enB
  · obtain ⟨d, hd, rd⟩ := r.getV e2
    have ep := pairs_get ds 0 i hd
    rw [Nat.zero_add] at ep
    cases e1
    exact ⟨_, d, ep, .int _, rd⟩
theorem zip_items {vs vs' : List V} {ds ds' : List D} (r : Reps K B (Fz G H) vs ds) (r' : Reps K B (Fz G H) vs' ds') (i : Nat) (x y : V) (e1 : vs[i]? = some x) (e2 : vs'[i]? = some y) : ∃ d e, (zips ds ds')[i]? = some (.tup [d, e]) ∧ Rep K B (Fz G H) x d ∧ Rep K B (Fz G H) y e := by
  obtain ⟨d, hd, rd⟩ := r.getV e1
  obtain ⟨e, he, re⟩ := r'.getV e2
  exact ⟨d, e, zips_get ds ds' i hd he, rd, re⟩
theorem wd_zipB {b1 b2 : Bool} {a a' : Addr} {vs vs' : List V} {ds ds' : List D} (q : SqB K (Fx G H) a b1 vs) (r : Reps K B (Fz G H) vs ds) (q' : SqB K (Fx G H) a' b2 vs') (r' : Reps K B (Fz G H) vs' ds') : WalkD K B (ItzB K b1 a b2 a') (zips ds ds') G H := by
  refine wd_pair (Ga := fun H => SqB K H a b1 vs ∧ SqB K H a' b2 vs') (f := fun i => vs[i]?) (g := fun i => vs'[i]?) ?_ (fun G' H' n => ⟨Fx.sub.seqB (n.fx.seqB q), Fx.sub.seqB (n.fx.seqB q')⟩) (zip_items r r')
  have el : (zips ds ds').length = min vs.length vs'.length := by rw [zips_length, r.length, r'.length]
  rw [el]
  exact walk_zB
theorem wd_str {z : Str} : WalkD K B (L2.Its z) (z.cps.toList.map fun c => .str ⟨#[c]⟩) G H :=
  ⟨fun _ => True, fun i H v H' => H' = H ∧ ∃ c, z.cps[i]? = some c ∧ v = .str ⟨#[c]⟩, by rw [List.length_map, Array.length_toList]; exact walk_str, fun _ _ _ => trivial, fun i x G' H' H'' n ⟨e, c, hc, hx⟩ => by
    subst e hx
    refine ⟨.str ⟨#[c]⟩, G', ?_, .val (.str _)⟩
    rw [List.getElem?_map, Array.getElem?_toList, hc]
    rfl⟩
theorem wd_range {lo : Int} {n : Nat} : WalkD K B (L2.Itr lo n) ((List.range n).map fun k => .int (lo + (k : Nat))) G H :=
  ⟨fun _ => True, fun i H x H' => i < n ∧ H' = H ∧ x = .int (lo + i), by
    rw [List.length_map, List.length_range]
    exact ⟨fun i H hi _ => walk_range.goes i H hi trivial, fun H _ => walk_range.stops H trivial, fun i H x H' hi _ y => ⟨hi, walk_range.yields i H x H' hi trivial y⟩⟩, fun _ _ _ => trivial, fun i x G' H' H'' n ⟨hi, e, hx⟩ => by
    subst e hx
    refine ⟨.int (lo + (i : Nat)), G', ?_, .val (.int _)⟩
    rw [List.getElem?_map, List.getElem?_range hi]
    rfl⟩
end
end Ev
end

section
set_option linter.all false
set_option maxRecDepth 100000
set_option maxHeartbeats 4000000
/-! The language is what the machine does: iterables, comprehensions. -/
namespace Ev
open PySem L2 PySem.Spec PyProof.Rows

theorem bnd_ok {α β : Type} {m : Out α} {k : α → Env → Out β} {c : β} {ρ2 : Env} (h : bnd m k = some (.ok c, ρ2)) : ∃ a ρ1, m = some (.ok a, ρ1) ∧ k a ρ1 = some (.ok c, ρ2) := by
  cases m with
  | none => cases h
  | some q =>
    obtain ⟨r, ρ1⟩ := q
    cases r with
    | ok a => exact ⟨a, ρ1, rfl, h⟩
    | err c d => cases h
theorem opt_ok {α β : Type} {o : Option α} {k : α → Out β} {c : β} {ρ2 : Env} (h : opt o k = some (.ok c, ρ2)) : ∃ a, o = some a ∧ k a = some (.ok c, ρ2) := by
  cases o with
  | none => cases h
  | some a => exact ⟨a, rfl, h⟩
theorem ret_ok {α : Type} {a b : α} {ρ1 ρ2 : Env} (h : ret a ρ1 = some (.ok b, ρ2)) : a = b ∧ ρ1 = ρ2 := by
  injection h with h
  injection h with h1 h2
  injection h1 with h1
  exact ⟨h1, h2⟩

theorem pi_mono {X : Cx} {tg e : Expr} {t t' : L2.TI} (h : PI X tg e t) (f : ∀ σ H R, t' σ H R → t σ H R) : PI X tg e t' := ⟨fun pins s σ H R I q => h.run pins s σ H R I (f σ H R q)⟩
/-- walked as it is -/
def seqE : E → Bool
  | .range _ => false
  | .enum _ => false
  | .zip _ _ => false
  | _ => true
def isV : E → Bool
  | .v _ => true
  | _ => false
section
variable {B : Cls0} {W : WX} {X : Cx} {x y z tg : Expr} {pos p : Pos} {a b c : E} {Y : Sys} {oc : Nat → Bool}
theorem evIt_seq (h : seqE a = true) (ρ : Env) : evIt Y oc a ρ = bnd (evWk oc a (ev Y a) ρ) fun w ρ => opt (itemsD w.1) fun l => ret (l, w.2) ρ := by
  cases a <;> first | (cases h; done) | (unfold evIt; rfl)
theorem evIt_zip (h : (isV a && isV b) = false) (ρ : Env) : evIt Y oc (.zip a b) ρ = bnd (evD (ev Y a ρ)) fun x ρ => bnd (evD (ev Y b ρ)) fun y ρ => opt (zipD x y) fun l => ret (l, []) ρ := by
  cases a <;> cases b <;> first | (cases h; done) | (unfold evIt; rfl)
theorem se_Wk (h : SE B W Y X a x) : PE X x (tWk X.K B W (evWk oc a (ev Y a))) := by
  have gen : (∀ k, a ≠ .v k) → PE X x (tWk X.K B W (evWk oc a (ev Y a))) := fun n => by
    have e : evWk oc a (ev Y a) = fun ρ => bnd (ev Y a ρ) fun t ρ => ret (frz t, []) ρ := by
      funext ρ
      cases a <;> first | rfl | exact absurd rfl (n _)
    rw [e]
    exact pe_mono h.e fun σ H Q ⟨G, ρ, S, P⟩ => ⟨G, ρ, S, PostX.bnd P fun t ρ1 G1 H1 v _ _ S1 R P1 => P1.ret S1.frzTmp Nx.gFrz (RWk.data R.frzd)⟩
  cases a with
  | v k =>
    refine pe_mono (h.v k rfl) fun σ H Q ⟨G, ρ, S, P⟩ => ?_
    obtain ⟨h1, h2⟩ := wk_var (oc := oc) (i := k) (f := ev Y (.v k)) S
    cases e : evWk oc (.v k) (ev Y (.v k)) ρ with
    | none => rw [e] at P; exact P.elim
    | some q =>
      obtain ⟨r, ρ1⟩ := q
      cases r with
      | err c d => exact absurd e h2
      | ok w =>
        rw [e] at P
        obtain ⟨v, G1, hv, n, _, S1, R⟩ := h1 e
        exact ⟨v, hv, P G1 H v n S1 R⟩
  | _ => exact gen fun k q => nomatch q
/-- what is walked is known ahead: the library's rule for it -/
theorem si_seq (h : SE B W Y X a x) (hs : seqE a = true) : PI X tg x (tI X.K B W (evIt Y oc a)) := by
  constructor
  intro pins s σ H R I hw
  have hw2 := hw
  obtain ⟨G, ρ, S, P⟩ := hw
  rw [evIt_seq hs] at P
  have q := se_Wk (oc := oc) h
  cases o : evWk oc a (ev Y a) ρ with
  | none => rw [o] at P; exact P.elim
  | some z =>
    obtain ⟨r, ρ'⟩ := z
    have kn : ∀ {w ρ1 r'}, evWk oc a (ev Y a) ρ = some (.ok w, ρ1) → r = .ok r' → w = r' := fun e1 e2 => by
      rw [o, e2] at e1
      have e3 := Option.some.inj e1
      injection e3 with e4 _
      injection e4 with e5
      exact e5.symm
    have lst : ∀ l hs', r = .ok (.lst l, hs') → (iList X.K (tWk X.K B W (evWk oc a (ev Y a)))) σ H R := fun l hs' er => ⟨G, ρ, S, PostX.bnd P fun w ρ1 G1 H1 v ee _ S1 R1 P1 => by
      have ew := kn ee er
      subst ew
      obtain ⟨l2, el, P2⟩ := P1.opt
      cases el
      obtain ⟨ad, vs, e1, q1, r1⟩ := R1.1 l rfl
      exact ⟨ad, e1, ⟨vs, Fx.sub.seqL q1⟩, P2.ret S1 Nx.refl (wd_list q1 (by rw [fz_hid]; exact r1))⟩⟩
    cases r with
    | err c d =>
      refine (pi_list q).run pins s σ H R I ⟨G, ρ, S, ?_⟩
      rw [o] at P ⊢
      exact P
    | ok w =>
      obtain ⟨d, hs'⟩ := w
      cases d with
      | lst l => exact (pi_list q).run pins s σ H R I (lst l hs' rfl)
      | tup l =>
        refine (pi_tup q).run pins s σ H R I ⟨G, ρ, S, PostX.bnd P fun w ρ1 G1 H1 v ee _ S1 R1 P1 => ?_⟩
        have ew := kn ee rfl
        subst ew
        obtain ⟨l2, el, P2⟩ := P1.opt
        cases el
        obtain ⟨ad, vs, e1, q1, r1⟩ := R1.2.1 l rfl
        exact ⟨ad, e1, ⟨vs, Fx.sub.seqT q1⟩, P2.ret S1 Nx.refl (wd_tup q1 (by rw [fz_hid]; exact r1))⟩
      | str z =>
        refine (pi_str q).run pins s σ H R I ⟨G, ρ, S, PostX.bnd P fun w ρ1 G1 H1 v ee _ S1 R1 P1 => ?_⟩
        have ew := kn ee rfl
        subst ew
        obtain ⟨l2, el, P2⟩ := P1.opt
        cases el
        exact ⟨z, R1.2.2 z rfl, P2.ret S1 Nx.refl wd_str⟩
      | _ => rw [o] at P; exact P.elim
/-- what is walked, a list or a tuple -/
theorem wk_src {K : PySem.W.Frag} {B : Cls0} {G : Gh} {H : Hp} {ρ1 : Env} {w : D × List Nat} {v : V} {l : List D} (R : RWk K B w ρ1 G H v) (e : seqD w.1 = some l) : ∃ b a xs, v = .ref a ∧ SqB K (Fx (gHid (hidS w.2) G) H) a b xs ∧ Reps K B (Fz G H) xs l := by
  obtain ⟨d, k⟩ := w
  cases d <;> first | (cases e; done) | skip
  · cases e
    obtain ⟨a, vs, e1, q1, r1⟩ := R.2.1 _ rfl
    exact ⟨true, a, vs, e1, q1, r1⟩
  · cases e
    obtain ⟨a, vs, e1, q1, r1⟩ := R.1 _ rfl
    exact ⟨false, a, vs, e1, q1, r1⟩
theorem si_enum {elts : List Expr} {kk : Nat} {tpos : Pos} (h : SE B W Y X a x) (hg : Gl X "enumerate") (hm : X.mg "enumerate" = none) (hs : starEach [x] X.env = [(false, eval x X.env)]) :
    PI X (.Tuple elts kk tpos) (.Call (.Name "enumerate" p) [x] [] pos) (tI X.K B W (evIt Y oc (.enum a))) :=
  pi_mono (pi_enB hg hm (pa_cons (se_Wk (oc := oc) h) pa_nil hs) hs) fun σ H R ⟨G, ρ, S, P⟩ => by
    unfold evIt at P
    refine ⟨G, ρ, S, PostX.bnd P fun w ρ1 G1 H1 v _ _ S1 R1 P1 => ?_⟩
    obtain ⟨l, el, P2⟩ := P1.opt
    obtain ⟨bb, ad, vs, e1, q, r⟩ := wk_src R1 el
    exact ⟨bb, ad, vs, by rw [e1], Fx.sub.seqB q, P2.ret S1 Nx.refl (wd_enB q (by rw [fz_hid]; exact r))⟩
theorem zipD_ok {x y : D} {l : List D} (h : zipD x y = some l) : ∃ a b, seqD x = some a ∧ seqD y = some b ∧ l = zips a b := by
  cases x <;> cases y <;> first | (cases h; done) | (cases h; exact ⟨_, _, rfl, rfl, rfl⟩)
theorem zip_go {K : PySem.W.Frag} {B : Cls0} {G : Gh} {H : Hp} {ρ1 ρ2 : Env} {w w' : D × List Nat} {v v' : V} {hs : List Nat} {l : List D} {R : L2.It → Hp → Prop} (R1 : RWk K B w ρ1 G H v) (R2 : RWk K B w' ρ2 G H v') (m1 : ∀ q, hidS w.2 q = true → hidS hs q = true) (m2 : ∀ q, hidS w'.2 q = true → hidS hs q = true) (el : zipD w.1 w'.1 = some l) (go : ∀ J, WalkD K B J l (gHid (hidS hs) G) H → R J H) :
    ∃ b1 a1 b2 a2 xs ys, [v, v'] = [.ref a1, .ref a2] ∧ SqB K H a1 b1 xs ∧ SqB K H a2 b2 ys ∧ R (ItzB K b1 a1 b2 a2) H := by
  obtain ⟨l1, l2, e1, e2, rfl⟩ := zipD_ok el
  obtain ⟨b1, a1, xs, v1, q1, r1⟩ := wk_src R1 e1
  obtain ⟨b2, a2, ys, v2, q2, r2⟩ := wk_src R2 e2
  exact ⟨b1, a1, b2, a2, xs, ys, by rw [v1, v2], Fx.sub.seqB q1, Fx.sub.seqB q2, go _ (wd_zipB ((fx_hid_mono m1).seqB q1) (by rw [fz_hid]; exact r1) ((fx_hid_mono m2).seqB q2) (by rw [fz_hid]; exact r2))⟩
theorem hidS_app {l m : List Nat} {q : Nat} : hidS (l ++ m) q = (hidS l q || hidS m q) := by unfold hidS; rw [List.any_append]
theorem si_zip {elts : List Expr} {kk : Nat} {tpos : Pos} (h : SE B W Y X a x) (h' : SE B W Y X b y) (hg : Gl X "zip") (hm : X.mg "zip" = none)
    (hs : starEach [x, y] X.env = (false, eval x X.env) :: starEach [y] X.env) (hs2 : starEach [y] X.env = [(false, eval y X.env)]) (hpl : (backTo pos (starEach [y] X.env)).any (·.1) = false) :
    PI X (.Tuple elts kk tpos) (.Call (.Name "zip" p) [x, y] [] pos) (tI X.K B W (evIt Y oc (.zip a b))) := by
  by_cases hv : (isV a && isV b) = true
  · cases a with
    | v i =>
      cases b with
      | v j =>
        refine pi_mono (pi_zB hg hm (pa_cons (h.v i rfl) (pa_cons (h'.v j rfl) pa_nil hs2) hs) hs hpl) fun σ H R ⟨G, ρ, S, P⟩ => ?_
        have P0 : PostX X.K B W σ (RW X.K B) (bnd (evWk oc (.v i) (fun _ => none) ρ) fun w ρ => bnd (evWk oc (.v j) (fun _ => none) ρ) fun w' ρ => opt (zipD w.1 w'.1) fun l => ret (l, w.2 ++ w'.2) ρ) G H R := by
          unfold evIt at P
          exact P
        obtain ⟨h1, h2⟩ := wk_var (oc := oc) (i := i) (f := fun _ => none) S
        cases e : evWk oc (.v i) (fun _ => none) ρ with
        | none => rw [e] at P0; exact P0.elim
        | some q =>
          obtain ⟨r, ρ1⟩ := q
          cases r with
          | err c d => exact absurd e h2
          | ok w =>
            rw [e] at P0
            obtain ⟨v, G1, hv1, n1, _, S1, R1⟩ := h1 e
            have P1 : PostX X.K B W σ (RW X.K B) (bnd (evWk oc (.v j) (fun _ => none) ρ1) fun w' ρ => opt (zipD w.1 w'.1) fun l => ret (l, w.2 ++ w'.2) ρ) G H R := P0
            obtain ⟨h3, h4⟩ := wk_var (oc := oc) (i := j) (f := fun _ => none) S1
            cases e' : evWk oc (.v j) (fun _ => none) ρ1 with
            | none => rw [e'] at P1; exact P1.elim
            | some q =>
              obtain ⟨r, ρ2⟩ := q
              cases r with
              | err c d => exact absurd e' h4
              | ok w' =>
                rw [e'] at P1
                obtain ⟨v', G2, hv2, n2, sb, S2, R2⟩ := h3 e'
                have R1' : RWk X.K B w ρ2 G2 H v := R1.mono (sb _) n2.frz
                have P2 : PostX X.K B W σ (RW X.K B) (opt (zipD w.1 w'.1) fun l => ret (l, w.2 ++ w'.2) ρ2) G H R := P1
                obtain ⟨l, el, P3⟩ := P2.opt
                exact ⟨v, hv1, v', hv2, zip_go R1' R2 (fun q z => by rw [hidS_app, z]; rfl) (fun q z => by rw [hidS_app, z, Bool.or_true]) el fun J wd => P3.ret S2 (n1.trans n2) wd⟩
      | _ => cases hv
    | _ => cases hv
  · refine pi_mono (pi_zB hg hm (pa_cons h.d (pa_cons h'.d pa_nil hs2) hs) hs hpl) fun σ H R ⟨G, ρ, S, P⟩ => ?_
    rw [evIt_zip (by simpa using hv)] at P
    refine ⟨G, ρ, S, PostX.bnd P fun d ρ1 G1 H1 v _ _ S1 R1 P1 => ⟨G1, ρ1, S1, PostX.bnd P1 fun d' ρ2 G2 H2 v' _ n2 S2 R2 P2 => ?_⟩⟩
    obtain ⟨l, el, P3⟩ := P2.opt
    have Q1 : RWk X.K B (d, []) ρ2 G2 H2 v := RWk.data (n2.rep R1)
    have Q2 : RWk X.K B (d', []) ρ2 G2 H2 v' := RWk.data R2
    exact zip_go (hs := []) Q1 Q2 (fun q z => z) (fun q z => z) el fun J wd => P3.ret S2 Nx.refl wd
theorem rangeD1 {d : D} {l : List D} (h : rangeD [d] = some l) : ∃ j : Int, d = .int j ∧ -(2 ^ 62) ≤ j ∧ j ≤ LL ∧ l = (List.range j.toNat).map fun k => .int (0 + (k : Nat)) := by
  cases d with
  | int j =>
    have e : (if decide (-(2 ^ 62) ≤ j ∧ j ≤ LL) = true then some ((List.range j.toNat).map fun k => D.int (k : Nat)) else none) = some l := h
    split at e
    · rename_i hj
      have hj := of_decide_eq_true hj
      refine ⟨j, rfl, hj.1, hj.2, ?_⟩
      rw [← Option.some.inj e]
      congr 1
      funext k
      rw [Int.zero_add]
    · cases e
  | _ => cases h
theorem rangeD2 {d d' : D} {l : List D} (h : rangeD [d, d'] = some l) : ∃ i j : Int, d = .int i ∧ d' = .int j ∧ (-(2 ^ 62) ≤ i ∧ i < 2 ^ 62 ∧ -(2 ^ 62) ≤ j ∧ j < 2 ^ 62 ∧ j - i ≤ LL) ∧ l = (List.range (j - i).toNat).map fun k => .int (i + (k : Nat)) := by
  cases d with
  | int i =>
    cases d' with
    | int j =>
      have e : (if decide (-(2 ^ 62) ≤ i ∧ i < 2 ^ 62 ∧ -(2 ^ 62) ≤ j ∧ j < 2 ^ 62 ∧ j - i ≤ LL) = true then some ((List.range (j - i).toNat).map fun k => D.int (i + (k : Nat))) else none) = some l := h
      split at e
      · rename_i hj
        exact ⟨i, j, rfl, rfl, of_decide_eq_true hj, (Option.some.inj e).symm⟩
      · cases e
    | _ => cases h
  | _ => cases h
theorem bnd_bnd {α β γ : Type} {m : Out α} {k : α → Env → Out β} {k' : β → Env → Out γ} : bnd (bnd m k) k' = bnd m fun a ρ => bnd (k a ρ) k' := by
  cases m with
  | none => rfl
  | some q =>
    obtain ⟨r, ρ1⟩ := q
    cases r <;> rfl
theorem evDs1 {ρ : Env} : evDs Y [a] ρ = bnd (evD (ev Y a ρ)) fun d ρ => ret [d] ρ := by
  unfold evDs
  unfold evDs
  rfl
theorem evDs2 {ρ : Env} : evDs Y [a, b] ρ = bnd (evD (ev Y a ρ)) fun d ρ => bnd (evD (ev Y b ρ)) fun e ρ => ret [d, e] ρ := by
  unfold evDs
  congr 1
  funext d ρ
  rw [evDs1, bnd_bnd]
  rfl
theorem LL62 : (LL : Int) < 2 ^ 62 := by decide
theorem si_range1 (h : SE B W Y X a x) (hg : Gl X "range") (hm : X.mg "range" = none) (hs : starEach [x] X.env = [(false, eval x X.env)]) : PI X tg (.Call (.Name "range" p) [x] [] pos) (tI X.K B W (evIt Y oc (.range [a]))) :=
  pi_mono (pi_range1 hg hm (pa_cons h.d pa_nil hs) hs) fun σ H R ⟨G, ρ, S, P⟩ => by
    unfold evIt at P
    rw [evDs1, bnd_bnd] at P
    refine ⟨G, ρ, S, PostX.bnd P fun d ρ1 G1 H1 v _ _ S1 R1 P1 => ?_⟩
    have P1 : PostX X.K B W σ (RW X.K B) (opt (rangeD [d]) fun l => ret (l, []) ρ1) G1 H1 R := P1
    obtain ⟨l, el, P2⟩ := P1.opt
    obtain ⟨j, rfl, h1, h2, rfl⟩ := rangeD1 el
    cases R1
    have := LL62
    exact ⟨j, rfl, h1, by omega, P2.ret S1 Nx.refl wd_range⟩
theorem si_range2 (h : SE B W Y X a x) (h' : SE B W Y X b y) (hg : Gl X "range") (hm : X.mg "range" = none) (hs : starEach [x, y] X.env = [(false, eval x X.env), (false, eval y X.env)]) (hs2 : starEach [y] X.env = [(false, eval y X.env)]) : PI X tg (.Call (.Name "range" p) [x, y] [] pos) (tI X.K B W (evIt Y oc (.range [a, b]))) :=
  pi_mono (pi_range2 hg hm (pa_cons h.d (pa_cons h'.d pa_nil hs2) (by rw [hs, hs2])) hs hs2) fun σ H R ⟨G, ρ, S, P⟩ => by
    unfold evIt at P
    rw [evDs2, bnd_bnd] at P
    refine ⟨G, ρ, S, PostX.bnd P fun d ρ1 G1 H1 v _ _ S1 R1 P1 => ?_⟩
    rw [bnd_bnd] at P1
    refine ⟨G1, ρ1, S1, PostX.bnd P1 fun e ρ2 G2 H2 v2 _ n2 S2 R2 P2 => ?_⟩
    have P2 : PostX X.K B W σ (RW X.K B) (opt (rangeD [d, e]) fun l => ret (l, []) ρ2) G2 H2 R := P2
    obtain ⟨l, el, P3⟩ := P2.opt
    obtain ⟨i, j, rfl, rfl, ⟨h1, h2, h3, h4, h5⟩, rfl⟩ := rangeD2 el
    cases R1
    cases R2
    exact ⟨i, j, rfl, ⟨h1, h2, h3, h4⟩, P3.ret S2 Nx.refl wd_range⟩
/-- list(range(..)) -/
theorem rgV_reps {K : PySem.W.Frag} {F : Hp} {i j : Int} : Reps K B F (rgV i j) ((List.range (j - i).toNat).map fun k => .int (i + (k : Nat))) := by
  unfold rgV
  generalize List.range (j - i).toNat = l
  induction l with
  | nil => exact .nil
  | cons k r ih => exact .cons (.int _) ih
theorem se_lran1 {p2 p3 : Pos} (h : SE B W Y X a x) (hc : X.calm = true) (hg : Gl X "range") (hm : X.mg "range" = none) (hg2 : Gl X "list") (hm2 : X.mg "list" = none) (hs : starEach [x] X.env = (false, eval x X.env) :: starEach [] X.env)
    (hs2 : starEach [.Call (.Name "range" p) [x] [] p2] X.env = (false, eval (.Call (.Name "range" p) [x] [] p2) X.env) :: starEach [] X.env) :
    SE B W Y X (.lran [a]) (.Call (.Name "list" p3) [.Call (.Name "range" p) [x] [] p2] [] pos) := by
  refine SE.mk1 (pe_mono (pe_listRg hc hg2 hm2 (prg_1 hg hm h.d hs) hs2) fun σ H Q ⟨G, ρ, S, P⟩ => ?_) fun k => nofun
  unfold ev at P
  rw [evDs1, bnd_bnd] at P
  refine ⟨G, ρ, S, PostX.bnd P fun d ρ1 G1 H1 v _ _ S1 R1 P1 => ?_⟩
  have P1 : PostX X.K B W σ (RT X.K B) (opt (rangeD [d]) fun l => ret (.lst l) ρ1) G1 H1 Q := P1
  obtain ⟨l, el, P2⟩ := P1.opt
  obtain ⟨j, rfl, h1, h2, rfl⟩ := rangeD1 el
  cases R1
  have := LL62
  have e24 : (LL : Int) ≤ 2 ^ 24 := by decide
  refine ⟨j, rfl, ⟨by omega, by omega, h1, by omega, by omega⟩, fun q hq => ?_⟩
  have m := Mk1.newL (G := G1) hq (rgV_reps (B := B) (K := X.K) (i := 0) (j := j))
  rw [Int.sub_zero] at m
  exact P2.ret (m.sta S1) m.nx m.rep

/-! ### comprehensions -/
theorem back_length {ρ0 : Env} : ∀ {ρ : Env} {l : List Nat}, (back ρ0 ρ l).length = ρ.length
  | ρ, [] => rfl
  | ρ, i :: r => by
    unfold back
    rw [List.length_set]
    exact back_length (l := r)
theorem hide_length : ∀ {ρ : Env} {l : List Nat}, (hide ρ l).length = ρ.length
  | ρ, [] => rfl
  | ρ, i :: r => by
    unfold hide
    rw [List.length_set]
    exact hide_length (l := r)
theorem look_hide_in {i : Nat} : ∀ {ρ : Env} {l : List Nat}, i ∈ l → look (hide ρ l) i = none
  | ρ, [], h => by cases h
  | ρ, j :: r, h => by
    unfold hide
    by_cases hj : j = i
    · subst hj
      exact look_set_none
    · rw [look_set_ne hj]
      exact look_hide_in ((List.mem_cons.mp h).resolve_left fun z => hj z.symm)
theorem look_hide_out {i : Nat} : ∀ {ρ : Env} {l : List Nat}, i ∉ l → look (hide ρ l) i = look ρ i
  | ρ, [], h => rfl
  | ρ, j :: r, h => by
    unfold hide
    rw [look_set_ne fun z => h (by rw [z]; exact List.mem_cons_self)]
    exact look_hide_out fun z => h (List.mem_cons_of_mem _ z)
theorem look_back_in {i : Nat} {ρ0 : Env} {t : T} : ∀ {ρ : Env} {l : List Nat}, i ∈ l → look (back ρ0 ρ l) i = some t → look ρ0 i = some t
  | ρ, [], h, _ => by cases h
  | ρ, j :: r, h, e => by
    unfold back at e
    by_cases hj : j = i
    · subst hj
      have hl := look_lt e
      rw [List.length_set] at hl
      unfold look at e ⊢
      rw [List.getElem?_set_self hl] at e
      rw [List.getD_eq_getElem?_getD] at e
      cases q : ρ0[j]? with
      | none => rw [q] at e; cases e
      | some o => rw [q] at e; exact e
    · rw [look_set_ne hj] at e
      exact look_back_in ((List.mem_cons.mp h).resolve_left fun z => hj z.symm) e
theorem look_back_out {i : Nat} {ρ0 : Env} : ∀ {ρ : Env} {l : List Nat}, i ∉ l → look (back ρ0 ρ l) i = look ρ i
  | ρ, [], h => rfl
  | ρ, j :: r, h => by
    unfold back
    rw [look_set_ne fun z => h (by rw [z]; exact List.mem_cons_self)]
    exact look_back_out fun z => h (List.mem_cons_of_mem _ z)
theorem hidS_mem {hs : List Nat} {i : Nat} : hidS hs (i + 1) = true ↔ i ∈ hs := by
  unfold hidS
  rw [List.any_eq_true]
  constructor
  · rintro ⟨j, hj, e⟩
    have e : i + 1 = j + 1 := by simpa using e
    have : i = j := by omega
    rw [this]
    exact hj
  · intro h
    exact ⟨i, h, by simp⟩
section
variable {K : PySem.W.Frag} {σ : L2.St} {G G' G1 Gn : Gh} {H H' H1 Hn : Hp} {ρ ρ' ρ1 ρn : Env} {hs own : List Nat}
theorem Sta.hid (S : Sta K B G ρ σ H) (ho : ∀ i, i ∈ own → i ∈ hs) : Sta K B (gHid (hidS hs) G) (hide ρ hs) (L2.wipe σ own) H := by
  refine ⟨by rw [hide_length, wipe_length]; exact S.len, fun i t e => ?_, fun a e => gHid_non (S.fresh a e)⟩
  have hi : i ∉ hs := fun z => by
    rw [look_hide_in z] at e
    cases e
  rw [look_hide_out hi] at e
  obtain ⟨v, hv, R⟩ := S.slot i t e
  refine ⟨v, by rw [wipe_out fun z => hi (ho i z)]; exact hv, R.stay (fun a o e g => ⟨e, gHid_frz g⟩) fun a o p e g => ⟨e, gHid_ne g ?_⟩⟩
  cases q : hidS hs (i + 1) with
  | false => rfl
  | true => exact absurd (hidS_mem.mp q) hi
theorem Sta.wipe (S : Sta K B G ρ σ H) : Sta K B G (hide ρ own) (L2.wipe σ own) H := by
  refine ⟨by rw [hide_length, wipe_length]; exact S.len, fun i t e => ?_, S.fresh⟩
  have hi : i ∉ own := fun z => by
    rw [look_hide_in z] at e
    cases e
  rw [look_hide_out hi] at e
  obtain ⟨v, hv, R⟩ := S.slot i t e
  exact ⟨v, by rw [wipe_out hi]; exact hv, R⟩
theorem nx_hid {s : Nat → Bool} (n : Nx (gHid s G) H G' H') : Nx G H G' H' := fun a o e => ⟨fun g => (n a o e).1 (gHid_frz g), fun g => (n a o e).2 (gHid_non g)⟩
theorem nx_hid_mono {s s' : Nat → Bool} (h : ∀ q, s q = true → s' q = true) (n : Nx (gHid s' G) H G' H') : Nx (gHid s G) H G' H' := fun a o e => by
  refine ⟨fun g => ?_, fun g => ?_⟩
  · cases q : G a with
    | frz => exact (n a o e).1 (gHid_frz q)
    | non => rw [gHid_non q] at g; cases g
    | my r p =>
      cases z : s r with
      | true => rw [gHid_at q z] at g; cases g
      | false => rw [gHid_ne q z] at g; cases g
  · cases q : G a with
    | frz => rw [gHid_frz q] at g; cases g
    | non => exact (n a o e).2 (gHid_non q)
    | my r p =>
      cases z : s r with
      | true => exact (n a o e).2 (gHid_at q (h r z))
      | false => rw [gHid_ne q z] at g; cases g
/-- the hidden come back -/
theorem Sta.unhid (S : Sta K B G1 ρ1 σ H1) (Sn : Sta K B Gn ρn (L2.wipe σ own) Hn) (n : Nx (gHid (hidS hs) G1) H1 Gn Hn) (ho : ∀ i, i ∈ own → i ∈ hs) :
    Nx G1 H1 (gBack (hidS hs) G1 Gn) Hn ∧ Sta K B (gBack (hidS hs) G1 Gn) (back ρ1 ρn hs) σ Hn ∧ (∀ a o, H1 a = none → Hn a = some o → gBack (hidS hs) G1 Gn a = Gn a) ∧ Sub (Fz Gn Hn) (Fz (gBack (hidS hs) G1 Gn) Hn) := by
  have heap : ∀ a q p, G1 a = .my q p → ∃ o, H1 a = some o := fun a q p g => by
    cases e : H1 a with
    | some o => exact ⟨o, rfl⟩
    | none => rw [S.fresh a e] at g; cases g
  have held : ∀ a q p, G1 a = .my q p → hidS hs q = true → ∃ o, H1 a = some o ∧ Hn a = some o ∧ Gn a = .non := fun a q p g z => by
    obtain ⟨o, e⟩ := heap a q p g
    obtain ⟨h1, h2⟩ := (n a o e).2 (gHid_at g z)
    exact ⟨o, e, h1, h2⟩
  have same : ∀ a, Gn a ≠ .non → gBack (hidS hs) G1 Gn a = Gn a := fun a h => gBack_ne fun q p g => by
    cases z : hidS hs q with
    | false => rfl
    | true =>
      obtain ⟨_, _, _, k⟩ := held a q p g z
      exact absurd k h
  have frzK : ∀ a, Gn a = .frz → gBack (hidS hs) G1 Gn a = .frz := fun a h => (same a (by rw [h]; exact fun z => by cases z)).trans h
  refine ⟨fun a o e => ⟨fun g => ?_, fun g => ?_⟩, ⟨?_, fun i t e => ?_, fun a e => ?_⟩, fun a o e e' => gBack_ne fun q p g => ?_, fun a o e => ?_⟩
  · obtain ⟨h1, h2⟩ := (n a o e).1 (gHid_frz g)
    exact ⟨h1, frzK a h2⟩
  · obtain ⟨h1, h2⟩ := (n a o e).2 (gHid_non g)
    exact ⟨h1, by rw [gBack_ne (fun q p g' => by rw [g] at g'; cases g')]; exact h2⟩
  · rw [back_length, Sn.len, wipe_length]
  · by_cases hi : i ∈ hs
    · have e1 := look_back_in hi e
      obtain ⟨v, hv, R⟩ := S.slot i t e1
      refine ⟨v, hv, R.stay (fun a o e g => ?_) fun a o p e g => ?_⟩
      · obtain ⟨h1, h2⟩ := (n a o e).1 (gHid_frz g)
        exact ⟨h1, frzK a h2⟩
      · obtain ⟨h1, h2⟩ := (n a o e).2 (gHid_at g (hidS_mem.mpr hi))
        exact ⟨h1, gBack_at g (hidS_mem.mpr hi)⟩
    · rw [look_back_out hi] at e
      obtain ⟨v, hv, R⟩ := Sn.slot i t e
      rw [wipe_out fun z => hi (ho i z)] at hv
      exact ⟨v, hv, R.stay (fun a o e g => ⟨e, frzK a g⟩) fun a o p e g => ⟨e, (same a (by rw [g]; exact fun z => by cases z)).trans g⟩⟩
  · rw [gBack_ne fun q p g => ?_]
    · exact Sn.fresh a e
    · cases z : hidS hs q with
      | false => rfl
      | true =>
        obtain ⟨o, _, h2, _⟩ := held a q p g z
        rw [e] at h2
        cases h2
  · obtain ⟨o', h⟩ := heap a q p g
    rw [e] at h
    cases h
  · obtain ⟨g, h⟩ := Fz.inv e
    exact Fz.of (frzK a g) h
end
def WF : WX := fun _ _ _ _ => False
theorem lc_core2 {g : Tg} {it : E} {ifs : List E} {own : List Nat} (ho : ∀ i, i ∈ tgs g → i ∈ own) : ∀ σ H Q, tE X.K B W (ev Y (.lc a g it ifs own)) σ H Q →
    tLc (tI X.K B W (evIt Y (fun i => occ i 100 a || ifs.any (occ i 100)) it)) (tG X.K B g) (tT X.K B WF (evTs Y ifs)) (tD X.K B WF fun ρ => evD (ev Y a ρ)) own σ H Q := fun σ H Q ⟨G, ρ, S, P⟩ => by
  unfold ev at P
  refine ⟨G, ρ, S, PostX.bnd P fun w ρ1 G1 H1 J _ _ S1 RJ P1 => ?_⟩
  intro La hD
  by_cases hz : w.1.length ≤ LL
  case neg =>
    rw [if_neg hz] at P1
    exact P1.elim
  rw [if_pos hz] at P1
  generalize hstep : (fun (d : Ev.D) (ρ : Env) => opt (asgD g d ρ) fun ρ => bnd (evTs Y ifs ρ) fun b ρ => (match b with
        | true => bnd (evD (ev Y a ρ)) fun y ρ => ret (some y) (hide ρ own)
        | false => ret none (hide ρ own))) = step at P1
  cases el : lcLoop step w.1 (hide ρ1 (own ++ w.2)) with
  | none => rw [el] at P1; exact P1.elim
  | some q =>
    obtain ⟨r, ρ2⟩ := q
    cases r with
    | err c d => rw [el] at P1; exact P1.elim
    | ok ds =>
      rw [el] at P1
      have P2 : PostX X.K B W σ (RT X.K B) (ret (.lst ds) (back ρ1 ρ2 (own ++ w.2))) G1 H1 Q := P1
      obtain ⟨Ga, Yy, wk, hGa, hY⟩ := RJ
      have hoh : ∀ i, i ∈ own → i ∈ own ++ w.2 := fun i h => List.mem_append_left _ h
      have hmo : ∀ q, hidS w.2 q = true → hidS (own ++ w.2) q = true := fun q h => by rw [hidS_app, h, Bool.or_true]
      refine lc_it wk (fun i H => ∃ Gi ρi acc accD rest, Sta X.K B Gi ρi (L2.wipe σ own) H ∧ Nx (gHid (hidS (own ++ w.2)) G1) H1 Gi H ∧ H La = some (.lst acc) ∧ Gi La = .non ∧ Reps X.K B (Fz Gi H) acc accD ∧ lcLoop step (w.1.drop i) ρi = some (.ok rest, ρ2) ∧ accD ++ rest = ds ∧ acc.length ≤ i) ?_ ?_ ?_ ?_
      · exact ⟨gNew La .non (gHid (hidS (own ++ w.2)) G1), hide ρ1 (own ++ w.2), [], [], ds, (S1.hid hoh).new hD, Nx.new hD, upd_same, gNew_same, .nil, by rw [List.drop_zero]; exact el, rfl, Nat.le_refl _⟩
      · intro i H hi ⟨Gi, ρi, acc, accD, rest, Si, n, _⟩
        exact hGa Gi H (nx_hid_mono hmo n)
      · intro i x H H' hi ⟨Gi, ρi, acc, accD, rest, Si, n, hd, gd, rs, ee, ea, hl⟩ hy
        obtain ⟨d, G2, hdi, mk⟩ := hY i x Gi H H' (nx_hid_mono hmo n) hy
        have edr : w.1.drop i = d :: w.1.drop (i + 1) := by
          rw [List.drop_eq_getElem_cons hi]
          congr 1
          have := (List.getElem?_eq_some_iff.mp hdi).2
          exact this
        rw [edr] at ee
        have ee' : (bnd (step d ρi) fun o ρ => bnd (lcLoop step (w.1.drop (i + 1)) ρ) fun ds ρ => ret (match o with | some x => x :: ds | none => ds) ρ) = some (.ok rest, ρ2) := ee
        obtain ⟨o, ρ3, es, ee2⟩ := bnd_ok ee'
        obtain ⟨rest', ρ4, el', ee3⟩ := bnd_ok ee2
        obtain ⟨er, e4⟩ := ret_ok ee3
        subst e4
        subst hstep
        obtain ⟨ρa, ea', es2⟩ := opt_ok es
        obtain ⟨b, ρb, eb, es3⟩ := bnd_ok es2
        have hrep : Rep X.K B (Fz G2 H') x d := by
          cases mk.rep with
          | val r => exact r
        have n2 : Nx Gi H G2 H' := mk.nx
        refine ⟨G2, ρi, d, ρa, mk.sta Si, hrep, ea', fun σ2 S2 m2 => ⟨(m2.wipe ho).trans wipe_wipe, G2, ρa, S2, ?_⟩⟩
        have ew : L2.wipe σ2 own = L2.wipe σ own := (m2.wipe ho).trans wipe_wipe
        rw [eb]
        intro G3 H3 b' n3 S3 R3
        have R3 : b' = b := R3
        subst R3
        cases b' with
        | false =>
          rw [if_neg Bool.false_ne_true]
          obtain ⟨eo, e5⟩ := ret_ok es3
          subst eo e5
          have nn := n2.trans n3
          obtain ⟨hd', gd'⟩ := (nn La _ hd).2 gd
          have S4 := S3.wipe (own := own)
          rw [ew] at S4
          exact ⟨G3, hide ρb own, acc, accD, rest', S4, n.trans nn, hd', gd', nn.reps rs, el', by rw [← ea, ← er], by omega⟩
        | true =>
          rw [if_pos rfl]
          obtain ⟨y, ρc, ey, es4⟩ := bnd_ok es3
          obtain ⟨eo, e5⟩ := ret_ok es4
          subst eo e5
          refine ⟨G3, ρb, S3, ?_⟩
          show PostX X.K B WF σ2 (RD X.K B) (evD (ev Y a ρb)) G3 H3 _
          rw [ey]
          intro G4 H4 yv n4 S4 R4
          have nn := (n2.trans n3).trans n4
          obtain ⟨hd', gd'⟩ := (nn La _ hd).2 gd
          have S5 := S4.wipe (own := own)
          rw [ew] at S5
          have up : Sub (Fz G4 H4) (Fz G4 (upd H4 La (.lst (acc ++ [yv])))) := fun c o e => by
            obtain ⟨g, h⟩ := Fz.inv e
            refine Fz.of g ?_
            rw [upd_ne fun z => ?_]
            · exact h
            · rw [z, gd'] at g
              cases g
          refine ⟨acc, hd', LL_lt (by omega), G4, hide ρc own, acc ++ [yv], accD ++ [y], rest', ?_, ?_, upd_same, gd', ((nn.reps rs).mono up).append (.cons (Rep.mono up R4) .nil), el', by rw [← ea, ← er, List.append_assoc]; rfl, by rw [List.length_append]; show acc.length + 1 ≤ _; omega⟩
          · refine S5.keep (fun c o e g => ⟨?_, g⟩) (fun j c o p _ e g => ⟨?_, g⟩) fun c e => ?_
            · rw [upd_ne fun z => ?_]
              · exact e
              · rw [z, gd'] at g
                cases g
            · rw [upd_ne fun z => ?_]
              · exact e
              · rw [z, gd'] at g
                cases g
            · by_cases hc : c = La
              · rw [hc, upd_same] at e
                cases e
              · rw [upd_ne hc] at e
                exact S5.fresh c e
          · refine fun c o e => ?_
            have nc : c ≠ La := new_ne hD e
            rw [upd_ne nc]
            exact (n.trans nn) c o e
      · intro H ⟨Gi, ρi, acc, accD, rest, Si, n, hd, gd, rs, ee, ea, hl⟩
        rw [List.drop_length] at ee
        obtain ⟨er, e4⟩ := ret_ok (show ret ([] : List Ev.D) ρi = some (.ok rest, ρ2) from ee)
        subst er e4
        rw [List.append_nil] at ea
        subst ea
        obtain ⟨u1, u2, u3, u4⟩ := Sta.unhid S1 Si n hoh
        refine P2 (gNew La (.my 0 []) (gBack (hidS (own ++ w.2)) G1 Gi)) H (.ref La) ?_ ?_ ?_
        · refine fun c o e => ?_
          have nc : c ≠ La := new_ne hD e
          rw [gNew_ne nc]
          exact u1 c o e
        · have gbD : gBack (hidS (own ++ w.2)) G1 Gi La = .non := by rw [u3 La _ hD hd]; exact gd
          refine u2.keep (fun c o e g => ⟨e, ?_⟩) (fun j c o p _ e g => ⟨e, ?_⟩) fun c e => ?_
          · rw [gNew_ne fun z => ?_]
            · exact g
            · rw [z, gbD] at g
              cases g
          · rw [gNew_ne fun z => ?_]
            · exact g
            · rw [z, gbD] at g
              cases g
          · have nc : c ≠ La := fun z => by
              rw [z, hd] at e
              cases e
            rw [gNew_ne nc]
            exact u2.fresh c e
        · refine .lst gNew_same hd ((rs.mono u4).mono fun c o e => ?_)
          obtain ⟨g, h⟩ := Fz.inv e
          refine Fz.of ?_ h
          rw [gNew_ne fun z => ?_]
          · exact g
          · rw [z, u3 La _ hD hd, gd] at g
            cases g
theorem se_lc {g : Tg} {it : E} {ifs : List E} {own : List Nat} {elt iter : Expr} {ifsE : List Expr} {scope : Scope} {ownl : List (Str × Nat)} (hc : X.calm = true) (hN : X.N.Nodup) (hi : PI X tg iter (tI X.K B W (evIt Y (fun i => occ i 100 a || ifs.any (occ i 100)) it))) (ok : BlkOk X.N X.env.scope scope ownl) (hown : own = ownl.map (·.2))
    (hg : ∀ (s : Shared) (H : Hp) (C : Addr) (cl : List (Str × Addr)) (fp : List Addr), PG (X.blk s H scope (compEnvC scope cl C X.env) fp) tg (tG X.K B g)) (ht : ∀ (s : Shared) (H : Hp) (C : Addr) (cl : List (Str × Addr)) (fp : List Addr), PTs (X.blk s H scope (compEnvC scope cl C X.env) fp) ifsE (tT X.K B WF (evTs Y ifs)))
    (he : ∀ (s : Shared) (H : Hp) (C : Addr) (cl : List (Str × Addr)) (fp : List Addr), PE (X.blk s H scope (compEnvC scope cl C X.env) fp) elt (tD X.K B WF fun ρ => evD (ev Y a ρ))) (hs : ∀ x, foldedSetIterable iter X.env x = pure x) (ho : ∀ i, i ∈ tgs g → i ∈ own) :
    SE B W Y X (.lc a g it ifs own) (.ListComp elt [⟨tg, iter, ifsE, 0⟩] scope pos) := by
  refine SE.mk1 (pe_mono (pe_lc hc hN hi ok hg ht he hs) fun σ H Q q => ?_) fun k => nofun
  rw [← hown]
  exact lc_core2 ho σ H Q q
end
end Ev
end

section
set_option linter.all false
set_option maxRecDepth 100000
set_option maxHeartbeats 4000000
/-! From the program's expressions to the language's. -/
namespace Ev
open PySem L2 PySem.Spec PyProof.Rows

/-! ### names -/
structure Tab where
  N : List Str
  np : Nat
  fns : List ((Str × Nat) × Nat)
  cs : List (Str × Nat)
  -- the error classes by name; those that isinstance asks: of so many errors which; whether there are any
  xs : List (Str × Nat)
  is_ : List (Str × Nat × List Nat)
  ne : Bool
def ixN (x : Str) : List Str → Nat → Option Nat
  | [], _ => none
  | y :: r, k => if y = x then some k else ixN x r (k + 1)
theorem ixN_get {x : Str} : ∀ {l : List Str} {k i : Nat}, ixN x l k = some i → k ≤ i ∧ l[i - k]? = some x
  | [], _, _, h => by cases h
  | y :: r, k, i, h => by
    have h' : (if y = x then some k else ixN x r (k + 1)) = some i := h
    split at h'
    · rename_i e
      have e2 := Option.some.inj h'
      subst e2 e
      exact ⟨Nat.le_refl _, by rw [Nat.sub_self]; rfl⟩
    · obtain ⟨h1, h2⟩ := ixN_get (l := r) h'
      refine ⟨by omega, ?_⟩
      have e : i - k = (i - (k + 1)) + 1 := by omega
      rw [e]
      exact h2
theorem ixN_get0 {x : Str} {l : List Str} {i : Nat} (h : ixN x l 0 = some i) : l[i]? = some x := (ixN_get h).2
def Tab.fn (T : Tab) (x : Str) (m : Nat) : Option Nat := (T.fns.find? fun p => decide (p.1.1 = x ∧ p.1.2 = m)).map (·.2)
def Tab.c (T : Tab) (x : Str) : Option Nat := (T.cs.find? fun p => decide (p.1 = x)).map (·.2)
def Tab.x (T : Tab) (x : Str) : Option Nat := (T.xs.find? fun p => decide (p.1 = x)).map (·.2)
def Tab.i (T : Tab) (x : Str) : Option (Nat × List Nat) := (T.is_.find? fun p => decide (p.1 = x)).map (·.2)
def nov (x : Str) : Bool := !(x == ("__debug__" : Str)) && !(x == ("__classdict__" : Str)) && !decide (x = ("__name__" : Str))
theorem nov_ok {x : Str} (h : nov x = true) : (x == ("__debug__" : Str)) = false ∧ (x == ("__classdict__" : Str)) = false ∧ x ≠ ("__name__" : Str) := by
  unfold nov at h
  simp only [Bool.and_eq_true, Bool.not_eq_true', decide_eq_false_iff_not] at h
  exact ⟨h.1.1, h.1.2, h.2⟩
def visC (sc : Scope) (x : Str) : Bool := match sc.names.lookup x with
  | some .local => true
  | some .cell => true
  | some .free => true
  | _ => false
theorem visC_ok {sc : Scope} {x : Str} (h : visC sc x = true) : Vis sc x := by
  unfold visC at h
  split at h
  · exact .inl (by assumption)
  · exact .inr (.inl (by assumption))
  · exact .inr (.inr (by assumption))
  · cases h
def glC (sc : Scope) (x : Str) : Bool := match sc.names.lookup x with
  | some .globalImplicit => true
  | _ => false
theorem glC_ok {X : Cx} {sc : Scope} {x : Str} (e : X.env.scope = sc) (h : glC sc x = true) : Gl X x := by
  unfold glC at h
  split at h
  · rename_i q
    show X.env.scope.names.lookup x = _
    rw [e]
    exact q
  · cases h
/-- a place to store -/
def locC (fc : Str → Bool) (sc : Scope) (x : Str) : Bool := match sc.names.lookup x with
  | some .local => true
  | some .cell => fc x
  | _ => false
theorem locC_ok {fc : Str → Bool} {sc : Scope} {x : Str} (h : locC fc sc x = true) : Loc sc x ∧ (fc x = true ∨ sc.names.lookup x = some .local) := by
  unfold locC at h
  split at h
  · exact ⟨.inl (by assumption), .inr (by assumption)⟩
  · exact ⟨.inr (by assumption), .inl h⟩
  · cases h

/-! ### built-ins -/
def bltN (x : Str) : Option Blt := if x = "len" then some .len else if x = "abs" then some .abs else if x = "int" then some .int else if x = "max" then some .max else if x = "min" then some .min else if x = "sum" then some .sum
  else if x = "all" then some .all else if x = "any" then some .any else if x = "tuple" then some .tuple else if x = "list" then some .list else none
def isN (x : Str) : Option Blt := if x = "int" then some .isint else if x = "bool" then some .isbool else if x = "tuple" then some .istuple else if x = "str" then some .isstr else none
def bltNames : List Str := ["len", "abs", "int", "max", "min", "sum", "all", "any", "tuple", "list", "bool", "str", "isinstance", "range", "enumerate", "zip", "repr"]
theorem boot_len : bootBuiltins "len" = some (.builtin "len") := by decide +kernel
theorem boot_abs : bootBuiltins "abs" = some (.builtin "abs") := by decide +kernel
theorem boot_int : bootBuiltins "int" = some (.type "int") := by decide +kernel
theorem boot_max : bootBuiltins "max" = some (.builtin "max") := by decide +kernel
theorem boot_min : bootBuiltins "min" = some (.builtin "min") := by decide +kernel
theorem boot_sum : bootBuiltins "sum" = some (.builtin "sum") := by decide +kernel
theorem boot_all : bootBuiltins "all" = some (.builtin "all") := by decide +kernel
theorem boot_any : bootBuiltins "any" = some (.builtin "any") := by decide +kernel
theorem boot_tup : bootBuiltins "tuple" = some (.type "tuple") := by decide +kernel
theorem boot_lst : bootBuiltins "list" = some (.type "list") := by decide +kernel
theorem boot_bl : bootBuiltins "bool" = some (.type "bool") := by decide +kernel
theorem boot_st : bootBuiltins "str" = some (.type "str") := by decide +kernel
theorem boot_isi : bootBuiltins "isinstance" = some (.builtin "isinstance") := by decide +kernel
theorem bltN_ok {x : Str} {b : Blt} (h : bltN x = some b) : x ∈ bltNames ∧ isIs b = false ∧ bootBuiltins x = some (bltV b) ∧ x ≠ ("__name__" : Str) ∧ (x == ("__debug__" : Str)) = false := by
  unfold bltN at h
  split at h
  · rename_i e; subst e; cases h; exact ⟨by decide +kernel, rfl, boot_len, by decide, by decide⟩
  split at h
  · rename_i e; subst e; cases h; exact ⟨by decide +kernel, rfl, boot_abs, by decide, by decide⟩
  split at h
  · rename_i e; subst e; cases h; exact ⟨by decide +kernel, rfl, boot_int, by decide, by decide⟩
  split at h
  · rename_i e; subst e; cases h; exact ⟨by decide +kernel, rfl, boot_max, by decide, by decide⟩
  split at h
  · rename_i e; subst e; cases h; exact ⟨by decide +kernel, rfl, boot_min, by decide, by decide⟩
  split at h
  · rename_i e; subst e; cases h; exact ⟨by decide +kernel, rfl, boot_sum, by decide, by decide⟩
  split at h
  · rename_i e; subst e; cases h; exact ⟨by decide +kernel, rfl, boot_all, by decide, by decide⟩
  split at h
  · rename_i e; subst e; cases h; exact ⟨by decide +kernel, rfl, boot_any, by decide, by decide⟩
  split at h
  · rename_i e; subst e; cases h; exact ⟨by decide +kernel, rfl, boot_tup, by decide, by decide⟩
  split at h
  · rename_i e; subst e; cases h; exact ⟨by decide +kernel, rfl, boot_lst, by decide, by decide⟩
  cases h
theorem isN_ok {x : Str} {b : Blt} (h : isN x = some b) : x ∈ bltNames ∧ isIs b = true ∧ bootBuiltins x = some (.type (isTy b)) ∧ x ≠ ("__name__" : Str) ∧ (x == ("__debug__" : Str)) = false := by
  unfold isN at h
  split at h
  · rename_i e; subst e; cases h; exact ⟨by decide +kernel, rfl, boot_int, by decide, by decide⟩
  split at h
  · rename_i e; subst e; cases h; exact ⟨by decide +kernel, rfl, boot_bl, by decide, by decide⟩
  split at h
  · rename_i e; subst e; cases h; exact ⟨by decide +kernel, rfl, boot_tup, by decide, by decide⟩
  split at h
  · rename_i e; subst e; cases h; exact ⟨by decide +kernel, rfl, boot_st, by decide, by decide⟩
  cases h

/-! ### forms -/
def opB : Operator → Option BinO
  | .Add => some .add | .Sub => some .sub | .Mult => some .mul | .FloorDiv => some .fdiv | .Mod => some .mod | .Pow => some .pow | _ => none
theorem opB_ok {o : Operator} {b : BinO} (h : opB o = some b) : o = opo b := by cases o <;> cases h <;> rfl
def opC : CmpOp → Option CmpO
  | .Eq => some .eq | .NotEq => some .ne | .Lt => some .lt | .LtE => some .le | .Gt => some .gt | .GtE => some .ge | .Is => some .is | .IsNot => some .isnot | .In => some .isin | .NotIn => some .notin
theorem opC_ok {o : CmpOp} {b : CmpO} (h : opC o = some b) : o = opc b := by cases o <;> cases h <;> rfl
def isStar : Expr → Bool
  | .Starred _ _ => true
  | _ => false
theorem star_one {x : Expr} (h : isStar x = false) (es : List Expr) (env : PySem.Env) : starEach (x :: es) env = (false, eval x env) :: starEach es env := by
  cases x <;> first | (cases h; done) | rfl
theorem asg_one {x : Expr} (h : isStar x = false) (es : List Expr) (env : PySem.Env) : assignEach (x :: es) env = (false, PySem.assign x env) :: assignEach es env := by
  cases x <;> first | (cases h; done) | rfl
theorem no_star {es : List Expr} (h : es.any isStar = false) (pos : Pos) (env : PySem.Env) : (backTo pos (starEach es env)).any (·.1) = false := by
  induction es with
  | nil => rfl
  | cons x r ih =>
    simp only [List.any_cons, Bool.or_eq_false_iff] at h
    rw [star_one h.1]
    have := ih h.2
    unfold backTo at this ⊢
    rw [List.map_cons, List.any_cons, this]
    rfl
def isSlc : Expr → Bool
  | .Slice _ _ _ _ => true
  | _ => false
theorem plainIx_of {y : Expr} (h : isSlc y = false) : PlainIx y := fun o i => by
  cases y <;> first | (cases h; done) | rfl
def isSetE : Expr → Bool
  | .Set _ _ _ => true
  | _ => false
theorem fold_of {y : Expr} (h : isSetE y = false) (env : PySem.Env) : ∀ x, foldedSetIterable y env x = pure x := fun x => by
  cases y <;> first | (cases h; done) | rfl
def isNonE : E → Bool
  | .c .non => true
  | _ => false
theorem isNonE_ok {a : E} (h : isNonE a = false) : a ≠ .c .non := fun e => by rw [e] at h; cases h
def mapO {α β : Type} (f : α → Option β) : List α → Option (List β)
  | [] => some []
  | a :: r => (f a).bind fun b => (mapO f r).bind fun s => some (b :: s)
theorem mapO_len {α β : Type} {f : α → Option β} : ∀ {l : List α} {r : List β}, mapO f l = some r → r.length = l.length
  | [], _, h => by cases h; rfl
  | a :: l, r, h => by
    obtain ⟨b, _, h⟩ := Option.bind_eq_some_iff.mp (show ((f a).bind fun b => (mapO f l).bind fun s => some (b :: s)) = some r from h)
    obtain ⟨s, hs, h⟩ := Option.bind_eq_some_iff.mp h
    cases h
    exact congrArg Nat.succ (mapO_len hs)

/-! ### what the def stands on -/
structure FnFact (B : Cls0) (Y : Sys) (X : Cx) (x : Str) (f m : Nat) : Prop where
  ex : ∃ (n k : Nat) (fA : Addr) (fd : FuncData) (ps : List Str) (dvs : List V) (ds : List Value), FnG X.prog X.w X.K X.mg X.base (L2.CX X.prog X.w) n fA fd ps (spF X.K B k (Y.Γ f)) ∧ Room n X.A ∧ X.mg x = some (.ref fA) ∧ PySem.W.keepIn X.K (.ref fA) = true ∧
    Binds X.K fd ps ds ∧ Vals dvs ds ∧ Reps X.K B (fun _ => none) dvs (Y.dfl f m) ∧ m + dvs.length = k
structure XOk (T : Tab) (B : Cls0) (W : WX) (Y : Sys) (X : Cx) (sc : Scope) : Prop where
  calm : X.calm = true
  nodup : X.N.Nodup
  N : X.N = T.N
  sc : X.env.scope = sc
  room : ∃ n, Room (n + 3) X.A
  ers : ∀ x c, T.x x = some c → X.mg x = some (.ref (B.X c))
  erf : T.ne = true → ErrF X.prog X.w X.K X.mg X.base B
  iss : ∀ x q, T.i x = some q → IsN X.K X.mg B x q.1 q.2
  gd : X.A.guards = some []
  blt : ∀ x, x ∈ bltNames → X.mg x = none
  cs : ∀ x n, T.c x = some n → ∃ v u, X.mg x = some u ∧ RelV v u ∧ Rep X.K B (fun _ => none) v (Y.gl n)
  fns : ∀ x m f, T.fn x m = some f → FnFact B Y X x f m
  takes : Takes X W
theorem takes_WF {X : Cx} : Takes X WF := fun u s' ⟨a, B, sI, pins, σ, H, cls, d, e, I, nb, up, sky, na, os, ag, w⟩ => w.elim
theorem XOk.blk {T : Tab} {B : Cls0} {W : WX} {Y : Sys} {X : Cx} {sc scope : Scope} (o : XOk T B W Y X sc) (s : Shared) (H : Hp) (C : Addr) (cl : List (Str × Addr)) (fp : List Addr) : XOk T B WF Y (X.blk s H scope (compEnvC scope cl C X.env) fp) (relS scope sc) where
  calm := o.calm
  nodup := o.nodup
  N := o.N
  sc := by rw [← o.sc]; rfl
  room := o.room
  ers := o.ers
  erf := o.erf
  iss := o.iss
  gd := o.gd
  blt := o.blt
  cs := o.cs
  fns := fun x m f h => ⟨(o.fns x m f h).ex⟩
  takes := takes_WF
/-- an expression and its test -/
structure SET (B : Cls0) (W : WX) (Y : Sys) (X : Cx) (a : E) (x : Expr) : Prop where
  s : SE B W Y X a x
  t : PT X x (tT X.K B W (evT Y a))

section
variable {B : Cls0} {W : WX} {X : Cx} {x y z : Expr} {pos p : Pos} {a b c : E} {Y : Sys}
theorem cmp_conv {o : CmpO} (ha : SE B W Y X a x) (hb : SE B W Y X b y) : ∀ σ H Q, tE X.K B W (ev Y (.cmp o a b)) σ H Q → tOp (rCmp X.K B o) (tP X.K B W (evPl a (ev Y a))) (tP X.K B W (evPl b (ev Y b))) σ H Q := fun σ H Q h => by
  refine se_two (op := fun x y => (cmpD o x y).map fun t => T.val (.bl t)) ha.p hb.p (fun G H v u dx dy t Q c1 c2 e q => ?_) σ H Q ?_
  · cases e2 : cmpD o dx dy with
    | none => rw [e2] at e; cases e
    | some k =>
      rw [e2] at e
      have e3 := Option.some.inj e
      subst e3
      exact ⟨G, dx, dy, k, c1, c2, e2, q _ _ _ (Mk1.val (.bl _))⟩
  · have e : ev Y (.cmp o a b) = fun ρ => bnd (evPl a (ev Y a) ρ) fun p ρ => bnd (evPl b (ev Y b) ρ) fun q ρ => opt (rd ρ p) fun x => opt (rd ρ q) fun y => opt (((cmpD o x y)).map fun t => T.val (.bl t)) fun t => ret t ρ := by
      funext ρ
      conv => lhs; unfold ev
    rw [← e]
    exact h
theorem opt_map_bl {o : Option Bool} {t : T} (h : (o.map fun t => T.val (.bl t)) = some t) : ∃ k, t = .val (.bl k) := by
  cases o with
  | none => cases h
  | some k => exact ⟨k, (Option.some.inj h).symm⟩
theorem cmp_bl {o : CmpO} : ∀ ρ t ρ', ev Y (.cmp o a b) ρ = some (.ok t, ρ') → ∃ k, t = .val (.bl k) := fun ρ t ρ' h => by
  unfold ev at h
  obtain ⟨p, ρ1, _, h⟩ := bnd_ok h
  obtain ⟨q, ρ2, _, h⟩ := bnd_ok h
  obtain ⟨dx, _, h⟩ := opt_ok h
  obtain ⟨dy, _, h⟩ := opt_ok h
  obtain ⟨t', e, h⟩ := opt_ok h
  obtain ⟨e2, _⟩ := ret_ok h
  subst e2
  exact opt_map_bl e
theorem st_cmp {o : CmpO} {n : Nat} (hr : Room n X.A) (ha : SE B W Y X a x) (hb : SE B W Y X b y) (hm : behindInMarks (opc o) y = false) : PT X (.Compare x [opc o] [y] pos) (tT X.K B W (evT Y (.cmp o a b))) :=
  pt_mono (pt_cmpR (op_cmpA B o hr) ha.p hb.p hm) fun σ H Q h => by
    have e : evT Y (.cmp o a b) = fun ρ => truT (ev Y (.cmp o a b) ρ) := by funext ρ; conv => lhs; unfold evT
    rw [e] at h
    exact cmp_conv ha hb σ H _ (tru_bl h cmp_bl)
theorem chn_conv {o o' : CmpO} (ha : SE B W Y X a x) (hb : SE B W Y X b y) (hc : SE B W Y X c z) : ∀ σ H Q, tE X.K B W (ev Y (.chn o o' a b c)) σ H Q → tChain (rCmp X.K B o) (rCmp X.K B o') (tD X.K B W fun ρ => evD (ev Y a ρ)) (tD X.K B W fun ρ => evD (ev Y b ρ)) (tD X.K B W fun ρ => evD (ev Y c ρ)) σ H Q := fun σ H Q ⟨G, ρ, S, P⟩ => by
  unfold ev at P
  refine ⟨G, ρ, S, PostX.bnd P fun dx ρ1 G1 H1 v _ _ S1 R1 P1 => ⟨G1, ρ1, S1, PostX.bnd P1 fun dy ρ2 G2 H2 u _ n2 S2 R2 P2 => ?_⟩⟩
  obtain ⟨t, et, P3⟩ := P2.opt
  refine ⟨G2, dx, dy, t, .val (n2.rep R1), .val R2, et, t, rfl, ?_⟩
  cases t with
  | false =>
    rw [if_neg Bool.false_ne_true]
    exact P3.ret S2 Nx.refl (.val (.bl _))
  | true =>
    rw [if_pos rfl]
    refine ⟨G2, ρ2, S2, PostX.bnd P3 fun dz ρ3 G3 H3 w _ n3 S3 R3 P4 => ?_⟩
    obtain ⟨t', et', P5⟩ := P4.opt
    exact ⟨G3, dy, dz, t', .val (n3.rep R2), .val R3, et', P5.ret S3 Nx.refl (.val (.bl _))⟩
theorem chn_bl {o o' : CmpO} : ∀ ρ t ρ', ev Y (.chn o o' a b c) ρ = some (.ok t, ρ') → ∃ k, t = .val (.bl k) := fun ρ t ρ' h => by
  unfold ev at h
  obtain ⟨p, ρ1, _, h⟩ := bnd_ok h
  obtain ⟨q, ρ2, _, h⟩ := bnd_ok h
  obtain ⟨k, _, h⟩ := opt_ok h
  cases k with
  | false => exact ⟨_, (ret_ok h).1.symm⟩
  | true =>
    obtain ⟨r, ρ3, _, h⟩ := bnd_ok h
    obtain ⟨k', _, h⟩ := opt_ok h
    exact ⟨_, (ret_ok h).1.symm⟩
theorem st_chn {o o' : CmpO} {n : Nat} (hr : Room n X.A) (ha : SE B W Y X a x) (hb : SE B W Y X b y) (hc : SE B W Y X c z) (hm : lastMarks [opc o, opc o'] [y, z] = false) : PT X (.Compare x [opc o, opc o'] [y, z] pos) (tT X.K B W (evT Y (.chn o o' a b c))) :=
  pt_mono (pt_chain (op_cmpA B o hr) (op_cmpA B o' hr) ha.d hb.d hc.d hm) fun σ H Q h => by
    have e : evT Y (.chn o o' a b c) = fun ρ => truT (ev Y (.chn o o' a b c) ρ) := by funext ρ; conv => lhs; unfold evT
    rw [e] at h
    exact chn_conv ha hb hc σ H _ (tru_bl h chn_bl)
theorem st_ite (hc : PT X z (tT X.K B W (evT Y c))) (ha : PT X x (tT X.K B W (evT Y a))) (hb : PT X y (tT X.K B W (evT Y b))) : PT X (.IfExp z x y pos) (tT X.K B W (evT Y (.ite c a b))) := by
  refine ⟨fun pins s σ H Q I ⟨G, ρ, S, P⟩ => ?_⟩
  unfold evT at P
  refine isTrue_IfExp (thn (hc.run pins s σ H (fun k H1 => ∃ G1 ρ1, Sta X.K B G1 ρ1 σ H1 ∧ PostX X.K B W σ RB (match k with | true => evT Y a ρ1 | false => evT Y b ρ1) G1 H1 Q) I ⟨G, ρ, S, PostX.bnd P fun k ρ1 G1 H1 v _ _ S1 R P1 => ?_⟩) fun d s1 ⟨H1, I1, q1⟩ => ?_)
  · have R2 : v = k := R
    subst R2
    exact ⟨G1, ρ1, S1, P1⟩
  · obtain ⟨G1, ρ1, S1, P1⟩ := q1
    cases d with
    | true => exact ha.run pins s1 σ H1 Q I1 ⟨G1, ρ1, S1, P1⟩
    | false => exact hb.run pins s1 σ H1 Q I1 ⟨G1, ρ1, S1, P1⟩
/-- the forms whose test is their truth -/
theorem SET.plain (h : SE B W Y X a x) (e : ∀ ρ, evT Y a ρ = truT (ev Y a ρ)) (he : ∀ whole, isTrue x X.env whole = (do let v ← whole; standAt x.pos; holding [v] (truthy v))) : SET B W Y X a x :=
  ⟨h, by
    have e' : evT Y a = fun ρ => truT (ev Y a ρ) := funext e
    rw [e']
    exact st_tru h he⟩
theorem se_call0 {f : Nat} {x : Str} {n k : Nat} {fA : Addr} {fd : FuncData} {ps : List Str} {dvs : List V} {ds : List Value} (F : FnG X.prog X.w X.K X.mg X.base (L2.CX X.prog X.w) n fA fd ps (spF X.K B k (Y.Γ f))) (hgd : X.A.guards = some []) (hr : Room n X.A) (hg : Gl X x) (hm : X.mg x = some (.ref fA))
    (hkp : PySem.W.keepIn X.K (.ref fA) = true) (hb : Binds X.K fd ps ds) (hd : Vals dvs ds) (hrd : Reps X.K B (fun _ => none) dvs (Y.dfl f 0)) (tk : Takes X W) (hdb : (x == ("__debug__" : Str)) = false) (kk : 0 + dvs.length = k) :
    SE B W Y X (.call f []) (.Call (.Name x p) [] [] pos) := by
  have q := pe_call0G (pos := pos) (p := p) F hgd hr hg hm hkp hb hd (fun σ => passAt tk σ) hdb
  refine SE.mk1 (pe_mono q fun σ H Q h => ?_) fun k => nofun
  obtain ⟨G, ρ, S, P⟩ := call_tail (l := []) hrd (fun _ _ _ _ _ => trivial) (fun _ => trivial) kk (fun ρ as ρ' => evAs_length) σ H Q h
  unfold evAs at P
  exact P.ret S Nx.refl .nil
end

section
variable {B : Cls0} {X : Cx} {Y : Sys}
/-! ### targets -/
def cG (T : Tab) (fc : Str → Bool) (sc : Scope) : Nat → Expr → Option Tg
  | 0, _ => none
  | n + 1, .Name x _ => if locC fc sc x then (ixN x T.N 0).bind fun i => some (.v i) else none
  | n + 1, .Tuple es _ _ => if es.any isStar then none else (mapO (cG T fc sc n) es).bind fun l => some (.tup l)
  | _, _ => none
theorem asgEach_ok {es : List Expr} (h : es.any isStar = false) (env : PySem.Env) : (assignEach es env).length = es.length ∧ (assignEach es env).findIdx? (·.1) = none := by
  induction es with
  | nil => exact ⟨rfl, rfl⟩
  | cons x r ih =>
    simp only [List.any_cons, Bool.or_eq_false_iff] at h
    rw [asg_one h.1]
    obtain ⟨h1, h2⟩ := ih h.2
    refine ⟨congrArg Nat.succ h1, ?_⟩
    rw [List.findIdx?_cons, h2]
    rfl
theorem cG_ok {T : Tab} {fc : Str → Bool} {sc : Scope} (hc : X.calm = true) (hN : X.N.Nodup) (eN : X.N = T.N) (es : X.env.scope = sc) (hf : ∀ x, fc x = true → X.fn x = true) : ∀ {n : Nat} {x : Expr} {g : Tg}, cG T fc sc n x = some g → PG X x (tG X.K B g) := by
  intro n
  induction n with
  | zero => intro x g h; unfold cG at h; cases h
  | succ n ih =>
    intro x g h
    cases x with
    | Name x p =>
      have h' : (if locC fc sc x then (ixN x T.N 0).bind fun i => some (.v i) else none) = some g := h
      split at h'
      · rename_i hl
        obtain ⟨i, hi, h2⟩ := Option.bind_eq_some_iff.mp h'
        cases h2
        obtain ⟨l1, l2⟩ := locC_ok hl
        exact sg_name hN (by rw [eN]; exact ixN_get0 hi) (by rw [es]; exact l1) (by
          rcases l2 with l2 | l2
          · exact .inl (hf x l2)
          · exact .inr (by rw [es]; exact l2))
      · cases h'
    | Tuple es k p =>
      have h' : (if es.any isStar then none else (mapO (cG T fc sc n) es).bind fun l => some (.tup l)) = some g := h
      split at h'
      · cases h'
      · rename_i hs
        have hs : es.any isStar = false := by simpa using hs
        obtain ⟨l, hl, h2⟩ := Option.bind_eq_some_iff.mp h'
        cases h2
        obtain ⟨a1, a2⟩ := asgEach_ok hs X.env
        refine sg_tup hc ?_ a1 a2 (mapO_len hl)
        clear a1 a2 h h'
        induction es generalizing l with
        | nil => cases hl; exact sgs_nil
        | cons e es ihs =>
          simp only [List.any_cons, Bool.or_eq_false_iff] at hs
          obtain ⟨b, hb, hl⟩ := Option.bind_eq_some_iff.mp (show ((cG T fc sc n e).bind fun b => (mapO (cG T fc sc n) es).bind fun s => some (b :: s)) = some l from hl)
          obtain ⟨s, hs2, hl⟩ := Option.bind_eq_some_iff.mp hl
          cases hl
          exact sgs_cons (ih hb) (ihs (by rw [hs.2]; exact Bool.false_ne_true) hs.2 _ hs2) (by rw [asg_one hs.1]; rfl)
    | _ => cases h
end
end Ev
end

section
set_option linter.all false
set_option maxRecDepth 100000
set_option maxHeartbeats 4000000
/-! Errors as values: what the language says of them. -/
namespace Ev
open PySem L2 PySem.Spec PyProof.Rows
section
variable {K : PySem.W.Frag} {B : Cls0} {G : Gh} {H : Hp}
theorem RepC.exc {v : V} {c : Nat} {d : D} (h : RepC K B G H v (.exc c d)) : ∃ a dx y, v = .ref a ∧ Fz G H a = some (exv a (B.X c) dx) ∧ Fz G H dx = some (exd dx [("value", y)]) ∧ Rep K B (Fz G H) y d := by
  obtain ⟨r, p, t, R, e⟩ := h
  cases R with
  | val x =>
    have e2 : _ = D.exc c d := e
    subst e2
    cases x with
    | exc a b r => exact ⟨_, _, _, rfl, a, b, r⟩
  | lst g a b => cases e
  | dic g a b c => cases e
  | ins g a b c => cases e
end
section
variable {X : Cx} {x y : Expr} {p pos : Pos}
/-- the field of an error -/
def tVal (K : PySem.W.Frag) (n : Str) (te : TE) : TE := fun σ H Q => te σ H fun x H1 => ∃ a C dx v, x = .ref a ∧ (XfC K C ∧ PySem.W.findIn K (.ref C) n = some none) ∧ H1 a = some (exv a C dx) ∧ H1 dx = some (exd dx [(n, v)]) ∧ Q v H1
theorem pe_val {n : Str} {te : TE} (hb : attributeBase x n X.env (eval x X.env) = eval x X.env) (he : PE X x te) : PE X (.Attribute x n pos) (tVal X.K n te) := by
  constructor
  intro pins s σ H Q I h
  refine attr_of hb (thn (he.run pins s σ H _ I h) fun u s1 w => ?_)
  obtain ⟨v0, H1, I1, rx, a, C, dx, v, ev, ⟨T, hno⟩, e1, e2, q⟩ := w
  subst ev
  cases rx
  obtain ⟨oe, vs, g1, g2, g3, g4⟩ := exv_at I1.hok e1
  obtain ⟨mA, hns, rel⟩ := exd_at I1.hok e2
  obtain ⟨od, ho, hl⟩ := lookIn_ns hns
  have rv := rel n
  rw [lookup_put, if_pos rfl] at rv
  obtain ⟨z, hz, rz⟩ : ∃ z, mA n = some z ∧ L2.RelV v z := by
    cases hm : mA n with
    | none => rw [hm] at rv; exact rv.elim
    | some z => rw [hm] at rv; exact ⟨z, rfl, rv⟩
  have J : PySem.W.InstAt s1.heap a oe C (some od) := ⟨g1, g2, by unfold PySem.W.notCls; rw [g4] <;> rfl, by rw [g3]; exact ho⟩
  exact HandSPX.exc_get I1.kIn J T.ga T.gg T.exC (PySem.W.findObj_own T.hdC hno rfl (by rw [hl, hz])) (handed_of rz) ⟨v, H1, I1.tok _, rz, q⟩
end
section
variable {B : Cls0} {W : WX} {X : Cx} {x y : Expr} {p pos : Pos} {a b : E} {Y : Sys}
/-- an error made -/
theorem se_exn {D f : Addr} {fd : FuncData} {n : Str} {c : Nat} (T : XC X.K D f (B.X c)) (F : FnOk X.prog X.w X.K X.mg X.base (L2.CX X.prog X.w) 1 f fd ["self", "value"] (spAsk X.K D)) (hr : Room 2 X.A) (hb : Binds X.K fd ["self", "value"] []) (tk : Takes X W) (hg : Gl X n) (hm : X.mg n = some (.ref (B.X c)))
    (ha : SE B W Y X a x) (hst : isStar x = false) (hdb : (n == ("__debug__" : Str)) = false) : SE B W Y X (.exn c a) (.Call (.Name n p) [x] [] pos) := by
  refine SE.mk1 (pe_mono (pe_exn T F hr hb (passes_call tk fun _ _ _ _ z => z.elim) hg hm ha.d (star_one hst _ _) hdb) fun σ H Q ⟨G, ρ, S, P⟩ => ?_) fun k => nofun
  unfold ev at P
  refine ⟨G, ρ, S, PostX.bnd P fun d ρ1 G1 H1 v _ _ S1 R P1 => fun l dx nl nd ne => ?_⟩
  have n2 : upd H1 dx (exd dx [("value", v)]) l = none := by rw [upd_ne (Ne.symm ne)]; exact nl
  have x1 : Nx G1 H1 (gNew dx .frz G1) (upd H1 dx (exd dx [("value", v)])) := Nx.new nd
  have x2 : Nx (gNew dx .frz G1) (upd H1 dx (exd dx [("value", v)])) (gNew l .frz (gNew dx .frz G1)) (upd (upd H1 dx (exd dx [("value", v)])) l (exv l (B.X c) dx)) := Nx.new n2
  refine P1.ret ((S1.new nd).new n2) (x1.trans x2) (.val (.exc (Fz.of gNew_same upd_same) ?_ ((x1.trans x2).rep R)))
  exact Fz.of (by rw [gNew_ne ne]; exact gNew_same) (by rw [upd_ne ne]; exact upd_same)
/-- its value -/
theorem se_fld {n : Str} (hx : ∀ c, XfC X.K (B.X c) ∧ PySem.W.findIn X.K (.ref (B.X c)) "value" = some none) (hb : attributeBase x n X.env (eval x X.env) = eval x X.env) (ha : SE B W Y X a x) : SE B W Y X (.un (.fld n) a) (.Attribute x n pos) := by
  refine SE.mk1 (pe_mono (pe_val hb ha.p) fun σ H Q ⟨G, ρ, S, P⟩ => ?_) fun k => nofun
  unfold ev at P
  refine ⟨G, ρ, S, PostX.bnd P fun q ρ1 G1 H1 v _ _ S1 R P1 => ?_⟩
  obtain ⟨d0, e0, P2⟩ := P1.opt
  obtain ⟨t, e1, P3⟩ := P2.opt
  obtain ⟨d, e2, et⟩ := Option.map_eq_some_iff.mp (show (fldD n d0).map T.val = some t from e1)
  subst et
  have c0 : RepC X.K B G1 H1 v d0 := RPl.rd S1 R e0
  cases d0 with
  | exc c d' =>
    have e1' : (if n = "value" then some d' else none) = some d := e2
    split at e1'
    · rename_i en
      cases e1'
      subst en
      obtain ⟨l, dx, w, rfl, f1, f2, r⟩ := c0.exc
      exact ⟨l, B.X c, dx, w, rfl, hx c, Fz.sub _ _ f1, Fz.sub _ _ f2, P3.ret S1 Nx.refl (.val r)⟩
    · cases e1'
  | _ => cases e2
def rIsF (K : PySem.W.Frag) (B : Cls0) (n : Nat) (cs : List Nat) (c : V) : List V → Hp → VK → Prop := fun xs H Q => ∃ G x d b, xs = [x, c] ∧ RepC K B G H x d ∧ isxD n cs d = some b ∧ Q (.bl b) H
theorem call_isF {n : Nat} {cs : List Nat} {c : V} {cv : Value} (f : IsF X.K B n cs cv) (hc : ClsV c cv) : CallR X (.builtin "isinstance") (rIsF X.K B n cs c) := by
  intro pins s σ H xs us Q I r ⟨G, x, d, b, e, R, eb, q⟩
  subst e
  have base : ∀ k, k ≤ 5 → tyD d = some k → isxD n cs d = some false → wpAny (model X.prog X.w) X.A (PySem.call (.builtin "isinstance") us) (EP X pins σ Q) X.xe s := fun k hk ht hi => by
    cases hi.symm.trans eb
    exact call_isi pins s σ H _ us Q I r ⟨x, c, _, cv, false, rfl, hc, R.ty ht, f.ty k hk, q⟩
  cases d with
  | exc m d' =>
    have eb' : (if m < n then some (cs.contains m) else none) = some b := eb
    split at eb'
    case isFalse => cases eb'
    rename_i hm
    cases eb'
    obtain ⟨C, ek⟩ := f.er m hm
    obtain ⟨l, dx, y, rfl, f1, f2, _⟩ := R.exc
    obtain ⟨oe, vs, g1, g2, g3, g4⟩ := exv_at I.hok (Fz.sub _ _ f1)
    obtain ⟨mA, hns, _⟩ := exd_at I.hok (Fz.sub _ _ f2)
    obtain ⟨od, ho, _⟩ := lookIn_ns hns
    have J : PySem.W.InstAt s.heap l oe (B.X m) (some od) := ⟨g1, g2, by unfold PySem.W.notCls; rw [g4] <;> rfl, by rw [g3]; exact ho⟩
    match us, r with
    | [u1, u2], .cons r1 (.cons r2 .nil) =>
      cases r1
      have e2 := hc.eq r2
      subst e2
      have hcl : (PySem.W.clsIn X.K (B.X m)).isSome = true := by
        have z := C.hd
        cases q : PySem.W.clsIn X.K (B.X m) with
        | some _ => rfl
        | none => unfold PySem.W.hasDictIn at z; rw [q] at z; cases z
      exact PySem.W.kia_one (PySem.W.kitx_exc hcl C.hg C.hk C.hs C.ha C.hn C.ht C.hm) I.kIn J ek (fun z => nomatch z) fun tk => ⟨.bl _, H, I.tok tk, rfl, q⟩
  | non => exact base 0 (by decide) rfl rfl
  | bl _ => exact base 1 (by decide) rfl rfl
  | int _ => exact base 2 (by decide) rfl rfl
  | str _ => exact base 3 (by decide) rfl rfl
  | tup _ => exact base 4 (by decide) rfl rfl
  | lst _ => exact base 5 (by decide) rfl rfl
  | _ => cases eb
/-- isinstance(e, t) -/
theorem se_isx {n : Nat} {cs : List Nat} {c : V} {cv : Value} {t : Str} {p2 : Pos} (f : IsF X.K B n cs cv) (hc : ClsV c cv) (ht : PE X (.Name t p2) (tC c)) (ha : SE B W Y X a x) (hst : isStar x = false) (hg : Gl X "isinstance") (hm : X.mg "isinstance" = none) (hv : bootBuiltins "isinstance" = some (.builtin "isinstance")) :
    SE B W Y X (.un (.isx n cs) a) (.Call (.Name "isinstance" p) [x, .Name t p2] [] pos) := by
  refine SE.mk1 (pe_mono (pe_callB (call_isF (B := B) f hc) hg hm hv (pa_cons ha.p (pa_cons ht pa_nil (star_one rfl _ _)) (star_one hst _ _)) (by decide) (by decide) (star_one hst _ _) (no_star (by rfl) _ _)) fun σ H Q ⟨G, ρ, S, P⟩ => ?_) fun k => nofun
  unfold ev at P
  refine ⟨G, ρ, S, PostX.bnd P fun q ρ1 G1 H1 v _ _ S1 R P1 => ?_⟩
  obtain ⟨d, e0, P2⟩ := P1.opt
  obtain ⟨t, e1, P3⟩ := P2.opt
  obtain ⟨b, e2, et⟩ := Option.map_eq_some_iff.mp (show (isxD n cs d).map (fun b => T.val (.bl b)) = some t from e1)
  subst et
  exact ⟨G1, v, d, b, rfl, RPl.rd S1 R e0, e2, P3.ret S1 Nx.refl (.val (.bl b))⟩
/-- repr(e) -/
theorem se_rpr {n : Nat} (hgd : X.A.guards = some []) (hr : Room n X.A) (hs : SysD X.K) (ha : SE B W Y X a x) (hst : isStar x = false) (hg : Gl X "repr") (hm : X.mg "repr" = none) (hv : bootBuiltins "repr" = some (.builtin "repr")) : SE B W Y X (.un .rpr a) (.Call (.Name "repr" p) [x] [] pos) := by
  refine SE.mk1 (pe_mono (pe_callB (call_reprD (B := B) hgd hr hs) hg hm hv (pa_cons ha.p pa_nil (star_one hst _ _)) (by decide) (by decide) (star_one hst _ _) (by rfl)) fun σ H Q ⟨G, ρ, S, P⟩ => ?_) fun k => nofun
  unfold ev at P
  refine ⟨G, ρ, S, PostX.bnd P fun q ρ1 G1 H1 v _ _ S1 R P1 => ?_⟩
  obtain ⟨d, e0, P2⟩ := P1.opt
  obtain ⟨t, e1, P3⟩ := P2.opt
  have e1 : (if showD d && decide ((toQ d).depth ≤ 64) && decide ((toQ d).shown.length ≤ LL) then some (T.val (.str (toQ d).shown)) else none) = some t := e1
  split at e1
  case isFalse => cases e1
  rename_i hc
  cases e1
  simp only [Bool.and_eq_true, decide_eq_true_eq] at hc
  exact ⟨v, d, rfl, (RPl.rd S1 R e0).rep, ⟨hc.1.1, hc.1.2⟩, LL_line hc.2, P3.ret S1 Nx.refl (.val (.str _))⟩
/-- x[::-1] -/
theorem se_rev {k : Nat} {p1 p2 p3 : Pos} (ha : SE B W Y X a x) : SE B W Y X (.un .rev a) (.Subscript x (.Slice none none (some (.UnaryOp .USub (.Constant (.int 1) k p1) p2)) p3) pos) := by
  refine SE.mk1 (pe_mono (pe_revF ha.p) fun σ H Q ⟨G, ρ, S, P⟩ => ?_) fun k => nofun
  unfold ev at P
  refine ⟨G, ρ, S, PostX.bnd P fun q ρ1 G1 H1 v _ _ S1 R P1 => ?_⟩
  obtain ⟨d, e0, P2⟩ := P1.opt
  obtain ⟨t, e1, P3⟩ := P2.opt
  have c0 : RepC X.K B G1 H1 v d := RPl.rd S1 R e0
  cases d with
  | tup l =>
    have e2 := Option.some.inj (show some (T.val (.tup l.reverse)) = some t from e1)
    subst e2
    obtain ⟨l', vs, rfl, ht, r⟩ := c0.tpm
    refine ⟨l', vs, rfl, Fz.sub.seqT ht.sq, fun p o hp hc hd => ?_⟩
    have m := Mk1.newT (G := G1) hp hc hd r.reverse
    exact P3.ret (m.sta S1) m.nx m.rep
  | _ => exact nomatch e1
/-- {} -/
theorem se_dic0 : SE B W Y X (.c (.dic [] [])) (.Dict [] [] pos) := by
  refine SE.mk1 (pe_mono pe_dnewK fun σ H Q ⟨G, ρ, S, P⟩ => ?_) fun k => nofun
  unfold ev at P
  intro p hp
  exact P.ret (S.new (w := .frz) hp) (Nx.new (w := .frz) hp) (.val (.dic (ks := []) (vs := []) (Fz.of gNew_same upd_same) rfl .nil))
end
end Ev
end

section
set_option linter.all false
set_option maxRecDepth 100000
set_option maxHeartbeats 4000000
/-! Methods of built-in types, as expressions. -/
namespace Ev
open PySem L2 PySem.Spec PyProof.Rows
section
variable {X : Cx} {pins : List (Addr × Obj)} {σ : L2.St} {H : Hp} {s : Shared}
/-- a value of that built-in type, without a dict of its own -/
def TyM (K : PySem.W.Frag) (ty : String) (x : V) (H : Hp) : Prop := tyV K ty x H ∨ (ty = "tuple" ∧ ∃ a vs, x = .ref a ∧ TpM K H a vs)
theorem tyM_is {ty : String} {x : V} {v : Value} (I : L2.Inv X pins σ H s) (r : RelV x v) (h : TyM X.K ty x H) : s.TypeIs v ty ∧ ∀ a, v = .ref a → ∃ ob, s.heap.get? a = some ob ∧ ob.dict = none := by
  rcases h with h | ⟨e, a, vs, ex, h⟩
  · exact tyV_is I r h
  subst e ex
  cases r
  have key : ∃ o, s.heap.get? a = some o ∧ o.cls = .type "tuple" ∧ o.dict = none := by
    rcases h with ⟨o, q, hc, hd⟩ | ⟨o, _, _, q, hc, hd, _⟩
    · exact ⟨o, (I.hok a _ q).1, hc, hd⟩
    · exact ⟨o, I.kIn a o q, hc, hd⟩
  obtain ⟨o, e, hc, hd⟩ := key
  exact ⟨⟨o, e, hc⟩, fun b eb => by cases eb; exact ⟨o, e, hd⟩⟩
/-- what is asked where the receiver is known -/
def tMth (X : Cx) (name : Str) (to : TE) (t : TA) : TE := fun σ H Q => to σ H fun x H1 => ∃ ty id, ∃ r : V → List V → Hp → VK → Prop, PlainAttrs ty ∧ Slot ty name id ∧ typeOf (.builtin id) = pure (.type "method_descriptor") ∧ TyM X.K ty x H1 ∧ MtR X id r ∧ t σ H1 fun xs H2 => r x xs H2 Q
variable {o e : Expr} {to : TE} {t : TA} {name : Str} {ap cp : Pos}
/-- o.name(e) -/
theorem pe_mth (ho : PE X o to) (ha : PA X [e] t) (hb : attributeBase o name X.env (eval o X.env) = eval o X.env) (hst : isStar e = false) (hl : (ap.endLine == cp.line) = true) : PE X (.Call (.Attribute o name ap) [e] [] cp) (tMth X name to t) := by
  constructor
  intro pins s σ H Q I h
  have h1 : starEach [e] X.env = [(false, eval e X.env)] := by
    have q := star_one hst (es := []) X.env
    exact q
  refine wpAny_Call_method1_late hb hl (by rw [h1]; rfl) (thn (ho.run pins s σ H _ I h) fun v s1 w => ?_)
  obtain ⟨x, H1, I1, rx, ty, id, r, pa, sl, hty, hT, hm, q⟩ := w
  obtain ⟨g1, g2⟩ := tyM_is I1 rx hT
  have hA := ha.run cp pins s1 σ H1 _ I1 q
  rw [h1] at hA
  refine ⟨ty, id, pa, sl, hty, g1, g2, Calls.callWith_builtin rfl (Calls.evalArgs_plain (thn hA fun us s2 w => ?_))⟩
  obtain ⟨vs, H2, I2, rs, q2⟩ := w
  exact hm pins s2 σ H2 x vs v us Q I2 rx rs q2
end
section
variable {X : Cx}
theorem cnt_toP {d : D} (hd : plain d = true) : ∀ {l : List D}, plains l = true → ((toPs l).countP fun y => PyData.eqv y (toP d)) = l.countP fun e => eqv e d
  | [], _ => rfl
  | x :: r, h => by
    obtain ⟨h1, h2⟩ := Bool.and_eq_true_iff.mp (show (plain x && plains r) = true from h)
    show (toP x :: toPs r).countP _ = _
    rw [List.countP_cons, List.countP_cons, cnt_toP hd h2, toP_eqv h1 hd]
def rCntT (K : PySem.W.Frag) (B : Cls0) : V → List V → Hp → VK → Prop := fun x xs H Q => ∃ G y l dy t, xs = [y] ∧ RepC K B G H x (.tup l) ∧ RepC K B G H y dy ∧ cntD l dy = some t ∧ ∀ v G' H', Mk1 K B G H t v G' H' → Q v H'
def rCntL (K : PySem.W.Frag) (B : Cls0) : V → List V → Hp → VK → Prop := fun x xs H Q => ∃ G y l dy t, xs = [y] ∧ RepC K B G H x (.lst l) ∧ RepC K B G H y dy ∧ cntD l dy = some t ∧ ∀ v G' H', Mk1 K B G H t v G' H' → Q v H'
theorem cntD_ok {l : List D} {y : D} {t : T} (h : cntD l y = some t) : plain y = true ∧ plains l = true ∧ depth y ≤ 64 ∧ t = .val (.int ((l.countP fun d => eqv d y : Nat) : Int)) := by
  unfold cntD at h
  split at h
  · rename_i hc
    obtain ⟨h1, h3⟩ := Bool.and_eq_true_iff.mp hc
    obtain ⟨h1, h2⟩ := Bool.and_eq_true_iff.mp h1
    exact ⟨h1, h2, of_decide_eq_true h3, (Option.some.inj h).symm⟩
  · cases h
theorem mt_cntT (B : Cls0) {n : Nat} (hr : Room n X.A) : MtR X "tuple.count" (rCntT X.K B) := by
  intro pins s σ H x xs v us Q I rx rxs ⟨G, y, l, dy, t, e, hx, hy, et, q⟩
  subst e
  obtain ⟨u, e, ry⟩ := Vals.one rxs
  subst e
  obtain ⟨h1, h2, h3, e⟩ := cntD_ok et
  subst e
  have a := toP_depth dy
  have c := hr.un
  obtain ⟨bs, r2⟩ := Dp.reads I _ _ _ (toP_dp hy.rep h1) ry
  obtain ⟨as, r1⟩ := Dp.reads I _ _ _ (toP_dp hx.rep (show plain (.tup l) = true from h2)) rx
  cases r1 with
  | tuple g1 g2 g3 g4 =>
    refine SeqAt.count_tuple_data ⟨_, g1, g2, _, g3⟩ g4 r2 (toPs_plain h2) (toP_plain h1) (by omega) ?_
    rw [cnt_toP h1 h2]
    exact ⟨.int _, H, I.tok _, ⟨_, rfl⟩, q _ _ _ (Mk1.val (.int _))⟩
theorem mt_cntL (B : Cls0) {n : Nat} (hr : Room n X.A) : MtR X "list.count" (rCntL X.K B) := by
  intro pins s σ H x xs v us Q I rx rxs ⟨G, y, l, dy, t, e, hx, hy, et, q⟩
  subst e
  obtain ⟨u, e, ry⟩ := Vals.one rxs
  subst e
  obtain ⟨h1, h2, h3, e⟩ := cntD_ok et
  subst e
  have a := toP_depth dy
  have c := hr.un
  obtain ⟨bs, r2⟩ := Dp.reads I _ _ _ (toP_dp hy.rep h1) ry
  obtain ⟨as, r1⟩ := Dp.reads I _ _ _ (toP_dp hx.rep (show plain (.lst l) = true from h2)) rx
  cases r1 with
  | list g1 g2 g3 g4 =>
    refine SeqAt.count_list_data ⟨_, g1, g2, _, g3⟩ g4 r2 (toPs_plain h2) (toP_plain h1) (by omega) ?_
    rw [cnt_toP h1 h2]
    exact ⟨.int _, H, I.tok _, ⟨_, rfl⟩, q _ _ _ (Mk1.val (.int _))⟩
end
section
variable {B : Cls0} {W : WX} {X : Cx} {x y : Expr} {ap cp : Pos} {a b : E} {Y : Sys}
def mthS : Mth → Str
  | .count => "count"
theorem se_mth {m : Mth} {n : Nat} (hr : Room n X.A) (ha : SE B W Y X a x) (hb : SE B W Y X b y) (hbase : attributeBase x (mthS m) X.env (eval x X.env) = eval x X.env) (hst : isStar y = false) (hl : (ap.endLine == cp.line) = true) :
    SE B W Y X (.mth m a b) (.Call (.Attribute x (mthS m) ap) [y] [] cp) := by
  refine SE.mk1 (pe_mono (pe_mth ha.p (pa_cons hb.p pa_nil (star_one hst _ _)) hbase hst hl) fun σ H Q ⟨G, ρ, S, P⟩ => ?_) fun k => nofun
  unfold ev at P
  refine ⟨G, ρ, S, PostX.bnd P fun p ρ1 G1 H1 v _ _ S1 R1 P1 => ?_⟩
  obtain ⟨x0, ex0, P1⟩ := P1.opt
  obtain ⟨k, ek, P1⟩ := P1.opt
  have c0 : RepC X.K B G1 H1 v x0 := RPl.rd S1 R1 ex0
  have go : ∀ {r : V → List V → Hp → VK → Prop}, (∀ G2 H2 u dx dy t, RepC X.K B G2 H2 v dx → RepC X.K B G2 H2 u dy → mthD k dx dy = some t → (∀ w G' H', Mk1 X.K B G2 H2 t w G' H' → Q w H') → r v [u] H2 Q) →
      tCons (tP X.K B W (evPl b (ev Y b))) tNil σ H1 (fun xs H2 => r v xs H2 Q) := fun {r} hr => by
    refine ⟨G1, ρ1, S1, PostX.bnd P1 fun q ρ2 G2 H2 u _ n2 S2 R2 P2 => ?_⟩
    obtain ⟨dx, ex, P3⟩ := P2.opt
    obtain ⟨dy, ey, P4⟩ := P3.opt
    obtain ⟨t, et, P5⟩ := P4.opt
    exact hr G2 H2 u dx dy t (RPl.rd S2 (RPl.nx (ρ' := ρ2) n2 R1) ex) (RPl.rd S2 R2 ey) et fun w G3 H3 m => P5.ret (m.sta S2) m.nx m.rep
  cases m with
  | count =>
    cases x0 with
    | tup l0 =>
      cases Option.some.inj ek
      obtain ⟨ad, vs, rfl, hT, _⟩ := c0.tpm
      refine ⟨"tuple", "tuple.count", _, PySem.F.plainAttrs_tuple, PySem.F.slot_tuple_count, PySem.F.type_tuple_count, .inr ⟨rfl, ad, vs, rfl, Fz.sub.tpM hT⟩, mt_cntT B hr, go fun G2 H2 u dx dy t h1 h2 e q => ?_⟩
      cases dx <;> first | (cases e; done) | skip
      exact ⟨G2, u, _, dy, t, rfl, h1, h2, e, q⟩
    | lst l0 =>
      cases Option.some.inj ek
      obtain ⟨ad, vs, rfl, hT, _⟩ := c0.lst
      refine ⟨"list", "list.count", _, PySem.F.plainAttrs_list, PySem.F.slot_list_count, PySem.F.type_list_count, .inl (.inl ⟨rfl, vs, .inl (.inl hT)⟩), mt_cntL B hr, go fun G2 H2 u dx dy t h1 h2 e q => ?_⟩
      cases dx <;> first | (cases e; done) | skip
      exact ⟨G2, u, _, dy, t, rfl, h1, h2, e, q⟩
    | _ => cases ek
end
end Ev
end

section
set_option linter.all false
set_option maxRecDepth 100000
set_option maxHeartbeats 8000000
/-! From the program's expressions to the language's: all forms. -/
namespace Ev
open PySem L2 PySem.Spec PyProof.Rows

section
variable (T : Tab) (f : Scope → Expr → Option E) (sc : Scope)
def cConst : Const → Option D
  | .int i => some (.int i)
  | .bool b => some (.bl b)
  | .none => some .non
  | .str x => some (.str x)
  | _ => none
def cName (x : Str) : Option E := if nov x then (if visC sc x then (ixN x T.N 0).bind fun i => some (.v i) else if glC sc x then (T.c x).bind fun n => some (.g n) else none) else none
def cL (es : List Expr) : Option (List E) := if es.any isStar then none else mapO (f sc) es
def cBool (op : E → E → E) : List Expr → Option E
  | [] => none
  | [x] => f sc x
  | x :: r => (f sc x).bind fun a => (cBool op r).bind fun b => some (op a b)
def cBd : Option Expr → Option E
  | none => some (.c .non)
  | some x => (f sc x).bind fun a => if isNonE a then none else some a
def cGen (x : Str) : List Expr → Option E
  | [] => none
  | e :: es => (bltN x).bind fun b => (cL f sc (e :: es)).bind fun l => some (.blt b l)
def cIs : List Expr → Option E
  | [e, .Name t _] => if isStar e then none else if glC sc t then (isN t).bind fun b => (f sc e).bind fun a => some (.blt b [a]) else none
  | _ => none
def cLran : List Expr → Option E
  | [.Call (.Name r _) [a] [] _] => if r = "range" then (if glC sc r && !isStar a then (f sc a).bind fun a => some (.lran [a]) else none) else none
  | _ => none
def cBlt (x : Str) (args : List Expr) : Option E := if x = "isinstance" then cIs f sc args else if x = "list" then (match cLran f sc args with
    | some e => some e
    | none => cGen f sc x args) else cGen f sc x args
def isCallE : E → Bool
  | .call _ _ => true
  | .call1 _ _ => true
  | _ => false
def cCall (x : Str) (args : List Expr) : Option E := if nov x && glC sc x then (match T.fn x args.length with
    | some k => (match args with
    | [a] => if isStar a then none else (f sc a).bind fun e => some (if isCallE e then .call1 k e else .call k [e])
    | args => (cL f sc args).bind fun l => some (.call k l))
    | none => cBlt f sc x args) else none
def isTupE : Expr → Bool
  | .Tuple _ _ _ => true
  | _ => false
def cItG (it : Expr) : Option E := (f sc it).bind fun e => if seqE e then some e else none
def cItC (tg : Expr) (x : Str) : List Expr → Option E
  | [a] => if isStar a then none else if x = "range" then (f sc a).bind fun a => some (.range [a]) else if x = "enumerate" then (if isTupE tg then (f sc a).bind fun a => some (.enum a) else none) else none
  | [a, b] => if isStar a || isStar b then none else if x = "range" then (f sc a).bind fun a => (f sc b).bind fun b => some (.range [a, b]) else if x = "zip" then (if isTupE tg then (f sc a).bind fun a => (f sc b).bind fun b => some (.zip a b) else none) else none
  | _ => none
def cIt (tg it : Expr) : Option E := match it with
  | .Call (.Name x _) args [] _ => if glC sc x then (match cItC f sc tg x args with
    | some e => some e
    | none => cItG f sc it) else cItG f sc it
  | _ => cItG f sc it
def ownOf (scope : Scope) : List (Str × Nat) := scope.names.filterMap fun p => match p.2 with
  | .local => (ixN p.1 T.N 0).map fun i => (p.1, i)
  | .cell => (ixN p.1 T.N 0).map fun i => (p.1, i)
  | _ => none
def cIfs (sc : Scope) : List Expr → Option (List E)
  | [] => some []
  | [c] => (f sc c).bind fun a => some [a]
  | _ => none
def cLc (elt tg it : Expr) (ifs : List Expr) (scope : Scope) : Option E := if isSetE it then none else if blkC T.N sc scope (ownOf T scope) then
    (cIt f sc tg it).bind fun it => (cG T (fun x => scope.names.lookup x == some .cell) (relS scope sc) 5 tg).bind fun g => (cIfs f (relS scope sc) ifs).bind fun ifs => (f (relS scope sc) elt).bind fun a =>
      if (tgs g).all (((ownOf T scope).map (·.2)).contains ·) then some (.lc a g it ifs ((ownOf T scope).map (·.2))) else none
  else none
def cCmp (a : Expr) (os : List CmpOp) (bs : List Expr) : Option E := match os, bs with
    | [o], [b] => if behindInMarks o b then none else (opC o).bind fun o => (f sc a).bind fun a => (f sc b).bind fun b => some (.cmp o a b)
    | [o, o'], [b, c] => if lastMarks [o, o'] [b, c] then none else (opC o).bind fun o => (opC o').bind fun o' => (f sc a).bind fun a => (f sc b).bind fun b => (f sc c).bind fun c => some (.chn o o' a b c)
    | _, _ => none
def cSub (a i : Expr) : Option E := match i with
    | .Slice none none (some (.UnaryOp .USub (.Constant (.int 1) _ _) _)) _ => (f sc a).bind fun a => some (.un .rev a)
    | .Slice lo hi none _ => (f sc a).bind fun a => (cBd f sc lo).bind fun lo => (cBd f sc hi).bind fun hi => some (.slc a lo hi)
    | i => if isSlc i then none else (f sc a).bind fun a => (f sc i).bind fun i => some (.sub a i)
/-- no call without arguments -/
def noCall0 : Expr → Bool
  | .Call _ [] _ _ => false
  | _ => true
def mthN (x : Str) : Option Mth := if x = "count" then some .count else none
def cMth (o : Expr) (name : Str) (ap : Pos) (args : List Expr) (pos : Pos) : Option E := match args with
    | [y] => if isStar y then none else if ap.endLine == pos.line && noCall0 o then (mthN name).bind fun m => (f sc o).bind fun a => (f sc y).bind fun b => some (.mth m a b) else none
    | _ => none
def cErr2 (x : Str) (args : List Expr) : Option E := match args with
    | [a] => if x = "repr" then (if isStar a then none else (f sc a).bind fun e => some (.un .rpr e)) else none
    | [a, .Name t _] => if x = "isinstance" then (if isStar a then none else if nov t && glC sc t then (T.i t).bind fun q => (f sc a).bind fun e => some (.un (.isx q.1 q.2) e) else none) else none
    | _ => none
def cErr (x : Str) (args : List Expr) : Option E := if T.ne && (nov x && glC sc x) then (match T.x x, args with
    | some c, [a] => if isStar a then none else (f sc a).bind fun e => some (.exn c e)
    | _, _ => cErr2 T f sc x args) else none
def cFld (r : Expr) (n : Str) : Option E := if T.ne && noCall0 r then (f sc r).bind fun a => some (.un (.fld n) a) else none
def cCallE (fn : Expr) (args : List Expr) (kws : List Keyword) (pos : Pos) : Option E := match fn, kws with
    | .Name x _, [] => (match cErr T f sc x args with
      | some e => some e
      | none => cCall T f sc x args)
    | .Attribute o name ap, [] => cMth f sc o name ap args pos
    | _, _ => none
def cLcE (elt : Expr) (gens : List Comprehension) (scope : Scope) : Option E := match gens with
    | [⟨tg, it, ifs, k⟩] => if k = 0 then cLc T f sc elt tg it ifs scope else none
    | _ => none
def cE1 : Expr → Option E
  | .Name x _ => cName T sc x
  | .Constant c _ _ => (cConst c).bind fun d => some (.c d)
  | .BinOp a o b _ => (opB o).bind fun o => (f sc a).bind fun a => (f sc b).bind fun b => some (.bin o a b)
  | .UnaryOp o a _ => (match o with
    | .USub => (f sc a).bind fun a => some (.neg a)
    | .Not => (f sc a).bind fun a => some (.not a)
    | _ => none)
  | .Compare a os bs _ => cCmp f sc a os bs
  | .BoolOp o xs _ => (match xs with
    | [] => none
    | [_] => none
    | _ => (match o with
      | .And => cBool f sc .and xs
      | .Or => cBool f sc .or xs))
  | .IfExp c a b _ => (f sc c).bind fun c => (f sc a).bind fun a => (f sc b).bind fun b => some (.ite c a b)
  | .Tuple es _ _ => (cL f sc es).bind fun l => some (.tup l)
  | .List es _ => (cL f sc es).bind fun l => some (.lst l)
  | .Subscript a i _ => cSub f sc a i
  | .Call fn args kws p => cCallE T f sc fn args kws p
  | .ListComp elt gens scope _ => cLcE T f sc elt gens scope
  | .Attribute r n _ => cFld T f sc r n
  | .Dict [] [] _ => some (.c (.dic [] []))
  | _ => none
end
def cE (T : Tab) : Nat → Scope → Expr → Option E
  | 0, _, _ => none
  | n + 1, sc, x => cE1 T (cE T n) sc x

section
variable {B : Cls0} {W : WX} {X : Cx} {x y z : Expr} {pos p : Pos} {Y : Sys} {T : Tab} {f : Scope → Expr → Option E} {sc : Scope}
/-- what is known of the recursion -/
def FOk (T : Tab) (B : Cls0) (Y : Sys) (f : Scope → Expr → Option E) : Prop := ∀ (W : WX) (X : Cx) (sc : Scope) (x : Expr) (e : E), XOk T B W Y X sc → f sc x = some e → SET B W Y X e x
theorem XOk.room' (o : XOk T B W Y X sc) : ∃ n, Room n X.A := o.room.imp' (· + 3) fun _ h => h
theorem cL_ok (o : XOk T B W Y X sc) (hf : FOk T B Y f) : ∀ {es : List Expr} {l : List E}, cL f sc es = some l → SL B W Y X l es := by
  intro es l h
  unfold cL at h
  split at h
  · cases h
  · rename_i hs
    have hs : es.any isStar = false := by simpa using hs
    induction es generalizing l with
    | nil => cases h; exact sl_nil
    | cons e es ih =>
      simp only [List.any_cons, Bool.or_eq_false_iff] at hs
      obtain ⟨b, hb, h⟩ := Option.bind_eq_some_iff.mp (show ((f sc e).bind fun b => (mapO (f sc) es).bind fun s => some (b :: s)) = some l from h)
      obtain ⟨s, hs2, h⟩ := Option.bind_eq_some_iff.mp h
      cases h
      exact sl_cons (hf _ _ _ _ _ o hb).s (ih (by rw [hs.2]; exact Bool.false_ne_true) hs2 hs.2) (star_one hs.1 _ _)
theorem cL_len {es : List Expr} {l : List E} (h : cL f sc es = some l) : l.length = es.length ∧ es.any isStar = false := by
  unfold cL at h
  split at h
  · cases h
  · rename_i hs
    exact ⟨mapO_len h, by simpa using hs⟩
theorem cAnd_ok (o : XOk T B W Y X sc) (hf : FOk T B Y f) {pos : Pos} : ∀ {xs : List Expr} {e : E}, cBool f sc .and xs = some e → PE X (.BoolOp .And xs pos) (tE X.K B W (ev Y e)) ∧ PW X (.BoolOp .And xs pos) (tT X.K B W (evT Y e)) ∧ (2 ≤ xs.length → SE B W Y X e (.BoolOp .And xs pos))
  | [], e, h => by cases h
  | [x], e, h => by
    have s := hf _ _ _ _ _ o (show f sc x = some e from h)
    exact ⟨pe_one s.s.e, pw_and1 s.t, fun h => by simp at h⟩
  | x :: y :: r, e, h => by
    obtain ⟨a, ha, h⟩ := Option.bind_eq_some_iff.mp (show ((f sc x).bind fun a => (cBool f sc .and (y :: r)).bind fun b => some (.and a b)) = some e from h)
    obtain ⟨b, hb, h⟩ := Option.bind_eq_some_iff.mp h
    cases h
    have s := hf _ _ _ _ _ o ha
    obtain ⟨h1, h2, _⟩ := cAnd_ok o hf (pos := pos) hb
    have q : SE B W Y X (.and a b) (.BoolOp .And (x :: y :: r) pos) := se_and s.s h1
    exact ⟨q.e, st_and s.t h2, fun _ => q⟩
theorem cOr_ok (o : XOk T B W Y X sc) (hf : FOk T B Y f) {pos : Pos} : ∀ {xs : List Expr} {e : E}, cBool f sc .or xs = some e → PE X (.BoolOp .Or xs pos) (tE X.K B W (ev Y e)) ∧ PW X (.BoolOp .Or xs pos) (tT X.K B W (evT Y e)) ∧ (2 ≤ xs.length → SE B W Y X e (.BoolOp .Or xs pos))
  | [], e, h => by cases h
  | [x], e, h => by
    have s := hf _ _ _ _ _ o (show f sc x = some e from h)
    exact ⟨pe_one s.s.e, pw_or1 s.t, fun h => by simp at h⟩
  | x :: y :: r, e, h => by
    obtain ⟨a, ha, h⟩ := Option.bind_eq_some_iff.mp (show ((f sc x).bind fun a => (cBool f sc .or (y :: r)).bind fun b => some (.or a b)) = some e from h)
    obtain ⟨b, hb, h⟩ := Option.bind_eq_some_iff.mp h
    cases h
    have s := hf _ _ _ _ _ o ha
    obtain ⟨h1, h2, _⟩ := cOr_ok o hf (pos := pos) hb
    have q : SE B W Y X (.or a b) (.BoolOp .Or (x :: y :: r) pos) := se_or s.s h1
    exact ⟨q.e, st_or s.t h2, fun _ => q⟩
theorem cName_ok (o : XOk T B W Y X sc) {x : Str} {e : E} (h : cName T sc x = some e) : SET B W Y X e (.Name x p) := by
  unfold cName at h
  split at h
  case isFalse => cases h
  rename_i hn
  obtain ⟨n1, n2, n3⟩ := nov_ok hn
  split at h
  · rename_i hv
    obtain ⟨i, hi, h⟩ := Option.bind_eq_some_iff.mp h
    cases h
    have q : PE X (.Name x p) (tVar i) := pe_var (by rw [o.N]; exact ixN_get0 hi) (by rw [o.sc]; exact visC_ok hv) n1 n2
    have s : SE B W Y X (.v i) (.Name x p) := ⟨se_v q, fun k e => by cases e; exact q⟩
    refine ⟨s, ?_⟩
    have e' : evT Y (.v i) = fun ρ => bnd (evPl (.v i) (ev Y (.v i)) ρ) fun p ρ => opt (rd ρ p) fun d => opt (truD d) fun b => ret b ρ := by
      funext ρ
      conv => lhs; unfold evT
      rfl
    rw [e']
    exact st_plain s fun _ => rfl
  · split at h
    case isFalse => cases h
    rename_i hg
    obtain ⟨n, hc, h⟩ := Option.bind_eq_some_iff.mp h
    cases h
    obtain ⟨v, u, hm, r, rp⟩ := o.cs x n hc
    have q : PE X (.Name x p) (tE X.K B W (ev Y (.g n))) := by
      have e : ev Y (.g n) = fun ρ => ret (.val (Y.gl n)) ρ := by funext ρ; conv => lhs; unfold ev
      rw [e]
      exact se_cst (pe_glob (glC_ok o.sc hg) hm r n1) fun F => rp.mono fun a o z => by cases z
    exact SET.plain (SE.mk1 q fun k => nofun) (fun ρ => by conv => lhs; unfold evT
                                                           conv => rhs; unfold ev) fun _ => rfl
theorem cConst_ok {c : Const} {k : Nat} {d : D} (h : cConst c = some d) : SET B W Y X (.c d) (.Constant c k p) := by
  have e : ev Y (.c d) = fun ρ => ret (.val d) ρ := by funext ρ; conv => lhs; unfold ev
  have q : PE X (.Constant c k p) (tE X.K B W (ev Y (.c d))) := by
    rw [e]
    cases c <;> first | (cases h; done) | skip
    · cases h; exact se_cst pe_non fun F => .non
    · cases h; exact se_cst pe_bl fun F => .bl _
    · cases h; exact se_cst pe_int fun F => .int _
    · cases h; exact se_cst pe_str fun F => .str _
  exact SET.plain (SE.mk1 q fun k => nofun) (fun ρ => by rw [e]; conv => lhs; unfold evT) fun _ => rfl
theorem cBd_ok (o : XOk T B W Y X sc) (hf : FOk T B Y f) {x : Option Expr} {a : E} (h : cBd f sc x = some a) : PO X x (tO X.K B W (evBd a (ev Y a))) := by
  cases x with
  | none => cases h; exact so_none
  | some x =>
    obtain ⟨a', ha, h⟩ := Option.bind_eq_some_iff.mp (show ((f sc x).bind fun a => if isNonE a then none else some a) = some a from h)
    split at h
    · cases h
    · rename_i hn
      cases h
      exact so_some (hf _ _ _ _ _ o ha).s (isNonE_ok (by simpa using hn))
theorem cGen_ok (o : XOk T B W Y X sc) (hf : FOk T B Y f) {x : Str} {args : List Expr} {e : E} (hg : Gl X x) (h : cGen f sc x args = some e) : SE B W Y X e (.Call (.Name x p) args [] pos) := by
  cases args with
  | nil => cases h
  | cons a as =>
    obtain ⟨b, hb, h⟩ := Option.bind_eq_some_iff.mp (show ((bltN x).bind fun b => (cL f sc (a :: as)).bind fun l => some (.blt b l)) = some e from h)
    obtain ⟨l, hl, h⟩ := Option.bind_eq_some_iff.mp h
    cases h
    obtain ⟨b1, b2, b3, b4, b5⟩ := bltN_ok hb
    have hs := (cL_len hl).2
    simp only [List.any_cons, Bool.or_eq_false_iff] at hs
    exact se_blt (cL_ok o hf hl) b2 o.calm hg (o.blt x b1) b3 b4 b5 (star_one hs.1 _ _) (no_star hs.2 _ _)
theorem cIs_ok (o : XOk T B W Y X sc) (hf : FOk T B Y f) {args : List Expr} {e : E} (hg : Gl X "isinstance") (h : cIs f sc args = some e) : SE B W Y X e (.Call (.Name "isinstance" p) args [] pos) := by
  unfold cIs at h
  split at h
  case h_2 => cases h
  rename_i x t p2
  split at h
  · cases h
  rename_i hs
  split at h
  case isFalse => cases h
  rename_i hgt
  obtain ⟨b, hb, h⟩ := Option.bind_eq_some_iff.mp h
  obtain ⟨a, ha, h⟩ := Option.bind_eq_some_iff.mp h
  cases h
  obtain ⟨b1, b2, b3, b4, b5⟩ := isN_ok hb
  exact se_is (hf _ _ _ _ _ o ha).s b2 hg (o.blt _ (by decide +kernel)) boot_isi (by decide) (by decide) (glC_ok o.sc hgt) (o.blt t b1) b3 b4 b5 (star_one (by simpa using hs) _ _) (no_star (by rfl) _ _)
theorem cLran_ok (o : XOk T B W Y X sc) (hf : FOk T B Y f) {args : List Expr} {e : E} (hg : Gl X "list") (h : cLran f sc args = some e) : SE B W Y X e (.Call (.Name "list" p) args [] pos) := by
  unfold cLran at h
  split at h
  case h_2 => cases h
  rename_i r p2 a p3
  split at h
  case isFalse => cases h
  rename_i hr
  subst hr
  split at h
  case isFalse => cases h
  rename_i hg2
  simp only [Bool.and_eq_true, Bool.not_eq_true'] at hg2
  obtain ⟨a', ha, h⟩ := Option.bind_eq_some_iff.mp h
  cases h
  exact se_lran1 (hf _ _ _ _ _ o ha).s o.calm (glC_ok o.sc hg2.1) (o.blt _ (by decide +kernel)) hg (o.blt _ (by decide +kernel)) (star_one hg2.2 _ _) (star_one rfl _ _)
theorem cBlt_ok (o : XOk T B W Y X sc) (hf : FOk T B Y f) {x : Str} {args : List Expr} {e : E} (hg : Gl X x) (h : cBlt f sc x args = some e) : SE B W Y X e (.Call (.Name x p) args [] pos) := by
  unfold cBlt at h
  split at h
  · rename_i e1
    subst e1
    exact cIs_ok o hf hg h
  · split at h
    · rename_i e1
      subst e1
      split at h
      · rename_i e2 q
        cases h
        exact cLran_ok o hf hg q
      · exact cGen_ok o hf hg h
    · exact cGen_ok o hf hg h
theorem cCall_ok (o : XOk T B W Y X sc) (hf : FOk T B Y f) {x : Str} {args : List Expr} {e : E} (h : cCall T f sc x args = some e) : SE B W Y X e (.Call (.Name x p) args [] pos) := by
  unfold cCall at h
  split at h
  case isFalse => cases h
  rename_i hh
  simp only [Bool.and_eq_true] at hh
  obtain ⟨n1, n2, n3⟩ := nov_ok hh.1
  have hg := glC_ok o.sc hh.2
  split at h
  case h_2 => exact cBlt_ok o hf hg h
  rename_i k hk
  obtain ⟨n, kk, fA, fd, ps, dvs, ds, F, hr, hm, hkp, hb, hd, hrd, he⟩ := (o.fns x _ k hk).ex
  split at h
  · rename_i a
    split at h
    · cases h
    rename_i hs
    have hs : isStar a = false := by simpa using hs
    obtain ⟨e', ha, h⟩ := Option.bind_eq_some_iff.mp h
    cases h
    have sa := (hf _ _ _ _ _ o ha).s
    split
    · exact se_call1 sa F o.gd hr hg hm hkp hb hd hrd o.takes n1 (star_one hs _ _) rfl he
    · exact se_call (sl_cons sa sl_nil (star_one hs _ _)) F o.gd hr hg hm hkp hb hd hrd o.takes n1 (star_one hs _ _) rfl he
  obtain ⟨l, hl, h⟩ := Option.bind_eq_some_iff.mp h
  cases h
  have hlen := cL_len hl
  cases args with
  | nil =>
    have e0 : l = [] := List.length_eq_zero_iff.mp hlen.1
    subst e0
    exact se_call0 F o.gd hr hg hm hkp hb hd hrd o.takes n1 he
  | cons a as =>
    have hs := hlen.2
    simp only [List.any_cons, Bool.or_eq_false_iff] at hs
    exact se_call (cL_ok o hf hl) F o.gd hr hg hm hkp hb hd (by rw [hlen.1]; exact hrd) o.takes n1 (star_one hs.1 _ _) (no_star hs.2 _ _) (by rw [hlen.1]; exact he)
theorem cItG_ok (o : XOk T B W Y X sc) (hf : FOk T B Y f) {tg it : Expr} {e : E} {oc : Nat → Bool} (h : cItG f sc it = some e) : PI X tg it (tI X.K B W (evIt Y oc e)) := by
  obtain ⟨a, ha, h⟩ := Option.bind_eq_some_iff.mp (show ((f sc it).bind fun e => if seqE e then some e else none) = some e from h)
  split at h
  · rename_i hs
    cases h
    exact si_seq (hf _ _ _ _ _ o ha).s hs
  · cases h
theorem isTup_ok {tg : Expr} (h : isTupE tg = true) : ∃ es k p, tg = .Tuple es k p := by
  cases tg <;> first | (cases h; done) | exact ⟨_, _, _, rfl⟩
theorem cItC_ok (o : XOk T B W Y X sc) (hf : FOk T B Y f) {tg : Expr} {x : Str} {args : List Expr} {e : E} {oc : Nat → Bool} (hg : Gl X x) (h : cItC f sc tg x args = some e) : PI X tg (.Call (.Name x p) args [] pos) (tI X.K B W (evIt Y oc e)) := by
  unfold cItC at h
  split at h
  · rename_i a
    split at h
    · cases h
    rename_i hs
    have hs : isStar a = false := by simpa using hs
    split at h
    · rename_i e1
      subst e1
      obtain ⟨a', ha, h⟩ := Option.bind_eq_some_iff.mp h
      cases h
      exact si_range1 (hf _ _ _ _ _ o ha).s hg (o.blt _ (by decide +kernel)) (star_one hs _ _)
    split at h
    · rename_i e1
      subst e1
      split at h
      case isFalse => cases h
      rename_i ht
      obtain ⟨es, k, p', rfl⟩ := isTup_ok ht
      obtain ⟨a', ha, h⟩ := Option.bind_eq_some_iff.mp h
      cases h
      exact si_enum (hf _ _ _ _ _ o ha).s hg (o.blt _ (by decide +kernel)) (star_one hs _ _)
    · cases h
  · rename_i a b
    split at h
    · cases h
    rename_i hs
    have hs : (isStar a || isStar b) = false := by simpa using hs
    simp only [Bool.or_eq_false_iff] at hs
    split at h
    · rename_i e1
      subst e1
      obtain ⟨a', ha, h⟩ := Option.bind_eq_some_iff.mp h
      obtain ⟨b', hb, h⟩ := Option.bind_eq_some_iff.mp h
      cases h
      exact si_range2 (hf _ _ _ _ _ o ha).s (hf _ _ _ _ _ o hb).s hg (o.blt _ (by decide +kernel)) (by rw [star_one hs.1, star_one hs.2]; rfl) (star_one hs.2 _ _)
    split at h
    · rename_i e1
      subst e1
      split at h
      case isFalse => cases h
      rename_i ht
      obtain ⟨es, k, p', rfl⟩ := isTup_ok ht
      obtain ⟨a', ha, h⟩ := Option.bind_eq_some_iff.mp h
      obtain ⟨b', hb, h⟩ := Option.bind_eq_some_iff.mp h
      cases h
      exact si_zip (hf _ _ _ _ _ o ha).s (hf _ _ _ _ _ o hb).s hg (o.blt _ (by decide +kernel)) (star_one hs.1 _ _) (star_one hs.2 _ _) (no_star (by simp [hs.2]) _ _)
    · cases h
  · cases h
theorem cIt_ok (o : XOk T B W Y X sc) (hf : FOk T B Y f) {tg it : Expr} {e : E} {oc : Nat → Bool} (h : cIt f sc tg it = some e) : PI X tg it (tI X.K B W (evIt Y oc e)) := by
  unfold cIt at h
  split at h
  · split at h
    · rename_i hg
      split at h
      · rename_i q
        cases h
        exact cItC_ok o hf (glC_ok o.sc hg) q
      · exact cItG_ok o hf h
    · exact cItG_ok o hf h
  · exact cItG_ok o hf h
theorem cIfs_ok (o : XOk T B W Y X sc) (hf : FOk T B Y f) {es : List Expr} {l : List E} (h : cIfs f sc es = some l) : PTs X es (tT X.K B W (evTs Y l)) := by
  unfold cIfs at h
  split at h
  · cases h
    refine ⟨fun pins s σ H Q I ⟨G, ρ, S, P⟩ => pts_nil.run pins s σ H Q I ?_⟩
    unfold evTs at P
    exact P.ret S Nx.refl rfl
  · rename_i c
    obtain ⟨a, ha, h⟩ := Option.bind_eq_some_iff.mp h
    cases h
    have q := pts_one (hf _ _ _ _ _ o ha).t
    refine ⟨fun pins s σ H Q I ⟨G, ρ, S, P⟩ => q.run pins s σ H Q I ⟨G, ρ, S, ?_⟩⟩
    have e : evTs Y [a] ρ = evT Y a ρ := by
      conv => lhs; unfold evTs
      unfold evTs
      cases evT Y a ρ with
      | none => rfl
      | some q =>
        obtain ⟨r, ρ1⟩ := q
        cases r with
        | err c d => rfl
        | ok b => cases b <;> rfl
    rw [← e]
    exact P
  · cases h
theorem cLc_ok (o : XOk T B W Y X sc) (hf : FOk T B Y f) {elt tg it : Expr} {ifs : List Expr} {scope : Scope} {e : E} (h : cLc T f sc elt tg it ifs scope = some e) : SE B W Y X e (.ListComp elt [⟨tg, it, ifs, 0⟩] scope pos) := by
  unfold cLc at h
  split at h
  · cases h
  rename_i hset
  split at h
  case isFalse => cases h
  rename_i hblk
  obtain ⟨it', hit, h⟩ := Option.bind_eq_some_iff.mp h
  obtain ⟨g, hg, h⟩ := Option.bind_eq_some_iff.mp h
  obtain ⟨ifs', hifs, h⟩ := Option.bind_eq_some_iff.mp h
  obtain ⟨a, ha, h⟩ := Option.bind_eq_some_iff.mp h
  split at h
  case isFalse => cases h
  rename_i hall
  cases h
  have hb : BlkOk X.N X.env.scope scope (ownOf T scope) := by
    rw [o.N, o.sc]
    exact blkOk_by hblk
  refine se_lc o.calm o.nodup (cIt_ok o hf hit) hb rfl (fun s H C cl fp => ?_) (fun s H C cl fp => cIfs_ok (o.blk s H C cl fp) hf hifs) (fun s H C cl fp => (hf _ _ _ _ _ (o.blk s H C cl fp) ha).s.d) (fold_of (by simpa using hset) _) fun i hi => ?_
  · have ob := o.blk (scope := scope) s H C cl fp
    exact cG_ok (X := X.blk s H scope (compEnvC scope cl C X.env) fp) ob.calm ob.nodup ob.N ob.sc (fun x h => h) hg
  · have := List.all_eq_true.mp hall i hi
    exact List.contains_iff_mem.mp this
theorem plT (h : SE B W Y X a x) (e : ∀ ρ, evT Y a ρ = truT (ev Y a ρ)) (he : ∀ whole, isTrue x X.env whole = (do let v ← whole; standAt x.pos; holding [v] (truthy v))) : SET B W Y X a x := SET.plain h e he
theorem isTrue_call {fn : Expr} {as : List Expr} {ks : List Keyword} {env : PySem.Env} : ∀ whole, isTrue (.Call fn as ks pos) env whole = (do let v ← whole; standAt (Expr.Call fn as ks pos).pos; holding [v] (truthy v)) := fun _ => rfl
theorem base_ok {o : Expr} {name : Str} {env : PySem.Env} {whole : Sem Value} (h : noCall0 o = true) : attributeBase o name env whole = whole := by
  unfold attributeBase
  split
  · cases h
  · rfl
theorem mthN_ok {x : Str} {m : Mth} (h : mthN x = some m) : x = mthS m := by
  unfold mthN at h
  split at h
  · rename_i e
    cases h
    exact e
  · cases h
theorem cMth_ok (o : XOk T B W Y X sc) (hf : FOk T B Y f) {r : Expr} {name : Str} {ap : Pos} {args : List Expr} {e : E} (h : cMth f sc r name ap args pos = some e) : SET B W Y X e (.Call (.Attribute r name ap) args [] pos) := by
  unfold cMth at h
  split at h
  case h_2 => cases h
  rename_i y
  split at h
  · cases h
  rename_i hs
  split at h
  case isFalse => cases h
  rename_i hc
  obtain ⟨hl, hn⟩ := Bool.and_eq_true_iff.mp hc
  obtain ⟨m, hm, h⟩ := Option.bind_eq_some_iff.mp h
  obtain ⟨a, ha, h⟩ := Option.bind_eq_some_iff.mp h
  obtain ⟨b, hb, h⟩ := Option.bind_eq_some_iff.mp h
  cases h
  cases mthN_ok hm
  obtain ⟨n, hr⟩ := o.room'
  exact SET.plain (se_mth hr (hf _ _ _ _ _ o ha).s (hf _ _ _ _ _ o hb).s (base_ok hn) (by simpa using hs) hl) (fun ρ => by conv => lhs; unfold evT) fun _ => rfl
theorem boot_rpr : bootBuiltins "repr" = some (.builtin "repr") := by decide +kernel
theorem cErr2_ok (o : XOk T B W Y X sc) (hf : FOk T B Y f) (hne : T.ne = true) {x : Str} {args : List Expr} {e : E} (hg : Gl X x) (h : cErr2 T f sc x args = some e) : SET B W Y X e (.Call (.Name x p) args [] pos) := by
  unfold cErr2 at h
  split at h
  · split at h
    case isFalse => cases h
    rename_i ex
    subst ex
    split at h
    · cases h
    rename_i hs
    obtain ⟨a, ha, h⟩ := Option.bind_eq_some_iff.mp h
    cases h
    obtain ⟨n, hr⟩ := o.room
    exact SET.plain (se_rpr o.gd hr (o.erf hne).sys (hf _ _ _ _ _ o ha).s (by simpa using hs) hg (o.blt _ (by decide +kernel)) boot_rpr) (fun ρ => by conv => lhs; unfold evT) fun _ => rfl
  · split at h
    case isFalse => cases h
    rename_i ex
    subst ex
    split at h
    · cases h
    rename_i hs
    split at h
    case isFalse => cases h
    rename_i ht
    obtain ⟨ht1, ht2⟩ := Bool.and_eq_true_iff.mp ht
    obtain ⟨q, hq, h⟩ := Option.bind_eq_some_iff.mp h
    obtain ⟨a, ha, h⟩ := Option.bind_eq_some_iff.mp h
    cases h
    obtain ⟨c, cv, c1, c2, c3, c4⟩ := (o.iss _ q hq).ex
    obtain ⟨n1, n2, n3⟩ := nov_ok ht1
    have hgt := glC_ok o.sc ht2
    refine SET.plain (se_isx c2 c1 ?_ (hf _ _ _ _ _ o ha).s (by simpa using hs) hg (o.blt _ (by decide +kernel)) boot_isi) (fun ρ => by conv => lhs; unfold evT) fun _ => rfl
    rcases c4 with c4 | ⟨c4, c5⟩
    · exact pe_glob hgt c4 c3 n1
    · exact pe_bltn hgt c4 c5 c3 n3 n1
  · cases h
theorem cErr_ok (o : XOk T B W Y X sc) (hf : FOk T B Y f) {x : Str} {args : List Expr} {e : E} (h : cErr T f sc x args = some e) : SET B W Y X e (.Call (.Name x p) args [] pos) := by
  unfold cErr at h
  split at h
  case isFalse => cases h
  rename_i hh
  obtain ⟨hne, hh⟩ := Bool.and_eq_true_iff.mp hh
  obtain ⟨h1, h2⟩ := Bool.and_eq_true_iff.mp hh
  obtain ⟨n1, n2, n3⟩ := nov_ok h1
  have hg := glC_ok o.sc h2
  split at h
  · rename_i c a hx
    split at h
    · cases h
    rename_i hs
    obtain ⟨a', ha, h⟩ := Option.bind_eq_some_iff.mp h
    cases h
    obtain ⟨D, fI, fd, g1, g2, g3⟩ := (o.erf hne).ex
    obtain ⟨n, hr⟩ := o.room
    exact SET.plain (se_exn (g1 c) g2 (hr.mono (by omega)) g3 o.takes hg (o.ers _ _ hx) (hf _ _ _ _ _ o ha).s (by simpa using hs) n1) (fun ρ => by conv => lhs; unfold evT) fun _ => rfl
  · exact cErr2_ok o hf hne hg h
theorem cFld_ok (o : XOk T B W Y X sc) (hf : FOk T B Y f) {r : Expr} {n : Str} {e : E} (h : cFld T f sc r n = some e) : SET B W Y X e (.Attribute r n p) := by
  unfold cFld at h
  split at h
  case isFalse => cases h
  rename_i hh
  obtain ⟨hne, hn⟩ := Bool.and_eq_true_iff.mp hh
  obtain ⟨a, ha, h⟩ := Option.bind_eq_some_iff.mp h
  cases h
  obtain ⟨D, fI, fd, g1, g2, g3⟩ := (o.erf hne).ex
  exact SET.plain (se_fld (fun c => ⟨(g1 c).fld, (g1 c).ask.fld⟩) (base_ok hn) (hf _ _ _ _ _ o ha).s) (fun ρ => by conv => lhs; unfold evT) fun _ => rfl
theorem cE1_ok (o : XOk T B W Y X sc) (hf : FOk T B Y f) {e : E} (h : cE1 T f sc x = some e) : SET B W Y X e x := by
  cases x with
  | Name x p => exact cName_ok o h
  | Constant c k p =>
    obtain ⟨d, hd, h⟩ := Option.bind_eq_some_iff.mp (show ((cConst c).bind fun d => some (.c d)) = some e from h)
    cases h
    exact cConst_ok hd
  | BinOp a op b p =>
    obtain ⟨op', ho, h⟩ := Option.bind_eq_some_iff.mp (show ((opB op).bind fun o => (f sc a).bind fun a => (f sc b).bind fun b => some (.bin o a b)) = some e from h)
    obtain ⟨a', ha, h⟩ := Option.bind_eq_some_iff.mp h
    obtain ⟨b', hb, h⟩ := Option.bind_eq_some_iff.mp h
    cases h
    rw [opB_ok ho]
    exact SET.plain (se_bin (hf _ _ _ _ _ o ha).s (hf _ _ _ _ _ o hb).s) (fun ρ => by conv => lhs; unfold evT) fun _ => rfl
  | UnaryOp op a p =>
    cases op with
    | USub =>
      obtain ⟨a', ha, h⟩ := Option.bind_eq_some_iff.mp (show ((f sc a).bind fun a => some (.neg a)) = some e from h)
      cases h
      exact SET.plain (se_neg (hf _ _ _ _ _ o ha).s) (fun ρ => by conv => lhs; unfold evT) fun _ => rfl
    | Not =>
      obtain ⟨a', ha, h⟩ := Option.bind_eq_some_iff.mp (show ((f sc a).bind fun a => some (.not a)) = some e from h)
      cases h
      exact ⟨se_not (hf _ _ _ _ _ o ha).s, st_not (hf _ _ _ _ _ o ha).t⟩
    | _ => cases h
  | Compare a os bs p =>
    have h' : cCmp f sc a os bs = some e := h
    clear h
    unfold cCmp at h'
    obtain ⟨n, hr⟩ := o.room'
    split at h'
    · split at h'
      · cases h'
      rename_i hm
      obtain ⟨o1, ho, h2⟩ := Option.bind_eq_some_iff.mp h'
      obtain ⟨a', ha, h2⟩ := Option.bind_eq_some_iff.mp h2
      obtain ⟨b', hb, h2⟩ := Option.bind_eq_some_iff.mp h2
      cases h2
      cases opC_ok ho
      have hm' := by simpa using hm
      exact ⟨se_cmp hr (hf _ _ _ _ _ o ha).s (hf _ _ _ _ _ o hb).s hm', st_cmp hr (hf _ _ _ _ _ o ha).s (hf _ _ _ _ _ o hb).s hm'⟩
    · split at h'
      · cases h'
      rename_i hm
      obtain ⟨o1, ho, h2⟩ := Option.bind_eq_some_iff.mp h'
      obtain ⟨o2, ho2, h2⟩ := Option.bind_eq_some_iff.mp h2
      obtain ⟨a', ha, h2⟩ := Option.bind_eq_some_iff.mp h2
      obtain ⟨b', hb, h2⟩ := Option.bind_eq_some_iff.mp h2
      obtain ⟨c', hc, h2⟩ := Option.bind_eq_some_iff.mp h2
      cases h2
      cases opC_ok ho
      cases opC_ok ho2
      have hm' := by simpa using hm
      exact ⟨se_chn hr (hf _ _ _ _ _ o ha).s (hf _ _ _ _ _ o hb).s (hf _ _ _ _ _ o hc).s hm', st_chn hr (hf _ _ _ _ _ o ha).s (hf _ _ _ _ _ o hb).s (hf _ _ _ _ _ o hc).s hm'⟩
    · cases h'
  | BoolOp op xs p =>
    cases xs with
    | nil => cases h
    | cons x r =>
      cases r with
      | nil => cases h
      | cons y r =>
        cases op with
        | And =>
          obtain ⟨_, h2, h3⟩ := cAnd_ok o hf (pos := p) (show cBool f sc .and (x :: y :: r) = some e from h)
          exact ⟨h3 (by simp), h2.pt⟩
        | Or =>
          obtain ⟨_, h2, h3⟩ := cOr_ok o hf (pos := p) (show cBool f sc .or (x :: y :: r) = some e from h)
          exact ⟨h3 (by simp), h2.pt⟩
  | IfExp c a b p =>
    obtain ⟨c', hc, h⟩ := Option.bind_eq_some_iff.mp (show ((f sc c).bind fun c => (f sc a).bind fun a => (f sc b).bind fun b => some (.ite c a b)) = some e from h)
    obtain ⟨a', ha, h⟩ := Option.bind_eq_some_iff.mp h
    obtain ⟨b', hb, h⟩ := Option.bind_eq_some_iff.mp h
    cases h
    have sc' := hf _ _ _ _ _ o hc
    have sa := hf _ _ _ _ _ o ha
    have sb := hf _ _ _ _ _ o hb
    exact ⟨se_ite sc'.t sa.s sb.s, st_ite sc'.t sa.t sb.t⟩
  | Tuple es k p =>
    obtain ⟨l, hl, h⟩ := Option.bind_eq_some_iff.mp (show ((cL f sc es).bind fun l => some (.tup l)) = some e from h)
    cases h
    exact SET.plain (se_tup (cL_ok o hf hl)) (fun ρ => by conv => lhs; unfold evT) fun _ => rfl
  | List es p =>
    obtain ⟨l, hl, h⟩ := Option.bind_eq_some_iff.mp (show ((cL f sc es).bind fun l => some (.lst l)) = some e from h)
    cases h
    exact SET.plain (se_lst (cL_ok o hf hl)) (fun ρ => by conv => lhs; unfold evT) fun _ => rfl
  | Subscript a i p =>
    have h' : cSub f sc a i = some e := h
    clear h
    unfold cSub at h'
    split at h'
    · obtain ⟨a', ha, h2⟩ := Option.bind_eq_some_iff.mp h'
      cases h2
      exact SET.plain (se_rev (hf _ _ _ _ _ o ha).s) (fun ρ => by conv => lhs; unfold evT) fun _ => rfl
    · obtain ⟨a', ha, h2⟩ := Option.bind_eq_some_iff.mp h'
      obtain ⟨lo', hlo, h2⟩ := Option.bind_eq_some_iff.mp h2
      obtain ⟨hi', hhi, h2⟩ := Option.bind_eq_some_iff.mp h2
      cases h2
      exact SET.plain (se_slc (hf _ _ _ _ _ o ha).s (cBd_ok o hf hlo) (cBd_ok o hf hhi)) (fun ρ => by conv => lhs; unfold evT) fun _ => rfl
    · split at h'
      · cases h'
      rename_i hs
      obtain ⟨a', ha, h2⟩ := Option.bind_eq_some_iff.mp h'
      obtain ⟨b', hb, h2⟩ := Option.bind_eq_some_iff.mp h2
      cases h2
      exact SET.plain (se_sub (hf _ _ _ _ _ o ha).s (hf _ _ _ _ _ o hb).s (plainIx_of (by simpa using hs))) (fun ρ => by conv => lhs; unfold evT) fun _ => rfl
  | Call fn args kws p =>
    have h' : cCallE T f sc fn args kws p = some e := h
    clear h
    unfold cCallE at h'
    split at h'
    · rename_i x p2
      split at h'
      · rename_i q
        cases h'
        exact cErr_ok o hf q
      have s := cCall_ok (p := p2) (pos := p) o hf h'
      refine SET.plain s (fun ρ => ?_) fun _ => rfl
      unfold cCall at h'
      split at h'
      case isFalse => cases h'
      split at h'
      · split at h'
        · split at h'
          · cases h'
          obtain ⟨e', ha, h2⟩ := Option.bind_eq_some_iff.mp h'
          cases h2
          split
          · conv => lhs; unfold evT
          · conv => lhs; unfold evT
        · obtain ⟨l, _, h2⟩ := Option.bind_eq_some_iff.mp h'
          cases h2
          conv => lhs; unfold evT
      · unfold cBlt at h'
        have gen : ∀ {x : Str} {as : List Expr}, cGen f sc x as = some e → evT Y e ρ = truT (ev Y e ρ) := fun {x as} q => by
          cases as with
          | nil => cases q
          | cons b bs =>
            obtain ⟨b, hb, q⟩ := Option.bind_eq_some_iff.mp (show ((bltN x).bind fun b' => (cL f sc (b :: bs)).bind fun l => some (.blt b' l)) = some e from q)
            obtain ⟨l, hl, q⟩ := Option.bind_eq_some_iff.mp q
            cases q
            conv => lhs; unfold evT
        split at h'
        · unfold cIs at h'
          split at h'
          · split at h'
            · cases h'
            split at h'
            · obtain ⟨b, hb, q⟩ := Option.bind_eq_some_iff.mp h'
              obtain ⟨a, ha, q⟩ := Option.bind_eq_some_iff.mp q
              cases q
              conv => lhs; unfold evT
            · cases h'
          · cases h'
        · split at h'
          · split at h'
            · rename_i q
              cases h'
              unfold cLran at q
              split at q
              · split at q
                · split at q
                  · obtain ⟨a, ha, q⟩ := Option.bind_eq_some_iff.mp q
                    cases q
                    conv => lhs; unfold evT
                  · cases q
                · cases q
              · cases q
            · exact gen h'
          · exact gen h'
    · exact cMth_ok o hf h'
    · cases h'
  | Attribute r n p => exact cFld_ok o hf (show cFld T f sc r n = some e from h)
  | ListComp elt gens scope p =>
    have h' : cLcE T f sc elt gens scope = some e := h
    clear h
    unfold cLcE at h'
    split at h'
    · split at h'
      · rename_i hk
        subst hk
        refine SET.plain (cLc_ok o hf h') (fun ρ => ?_) fun _ => rfl
        unfold cLc at h'
        split at h'
        · cases h'
        split at h'
        case isFalse => cases h'
        obtain ⟨it', hit, h⟩ := Option.bind_eq_some_iff.mp h'
        obtain ⟨g, hg, h⟩ := Option.bind_eq_some_iff.mp h
        obtain ⟨ifs', hifs, h⟩ := Option.bind_eq_some_iff.mp h
        obtain ⟨a, ha, h⟩ := Option.bind_eq_some_iff.mp h
        split at h
        case isFalse => cases h
        cases h
        conv => lhs; unfold evT
      · cases h'
    · cases h'
  | Dict ks vs p =>
    cases ks with
    | nil =>
      cases vs with
      | nil =>
        cases h
        exact SET.plain se_dic0 (fun ρ => by conv => lhs; unfold evT
                                             conv => rhs; unfold ev) fun _ => rfl
      | cons _ _ => cases h
    | cons _ _ => cases h
  | _ => cases h
theorem cE_ok : ∀ (n : Nat), FOk T B Y (cE T n)
  | 0 => fun W X sc x e o h => by unfold cE at h; cases h
  | n + 1 => fun W X sc x e o h => by
    unfold cE at h
    exact cE1_ok o (cE_ok n) h
end
end Ev
end

section
set_option linter.all false
set_option maxRecDepth 100000
set_option maxHeartbeats 4000000
/-! The language is what the machine does: statements. -/
namespace Ev
open PySem L2 PySem.Spec PyProof.Rows

section
variable (K : PySem.W.Frag) (B : Cls0) (W : WX) (σ : L2.St) (l : List Nat)
/-- what is wanted behind statements: the slots l may be given new values -/
def PostS (o : SOut) (G : Gh) (H : Hp) (D : Ends) : Prop := match o with
  | none => False
  | some (.next, ρ') => ∀ G' H' σ', Nx G H G' H' → Sta K B G' ρ' σ' H' → Sm l σ σ' → D.nx σ' H'
  | some (.brk, ρ') => ∀ G' H' σ', Nx G H G' H' → Sta K B G' ρ' σ' H' → Sm l σ σ' → D.bk σ' H'
  | some (.cont, ρ') => ∀ G' H' σ', Nx G H G' H' → Sta K B G' ρ' σ' H' → Sm l σ σ' → D.ct σ' H'
  | some (.ret t, ρ') => ∀ G' H' σ' v, Nx G H G' H' → Sta K B G' ρ' σ' H' → Sm l σ σ' → RepT K B G' H' 0 [] v t → D.rt v H'
  | some (.err c d, ρ') => ∀ G' H' σ' dx, Nx G H G' H' → Sta K B G' ρ' σ' H' → Sm l σ σ' → XRep K B G' H' d dx → W (.ref (B.C c)) (some dx) σ' H'
end
def tS (K : PySem.W.Frag) (B : Cls0) (W : WX) (l : List Nat) (f : Env → SOut) : TS := fun D σ H => ∃ G ρ, Sta K B G ρ σ H ∧ PostS K B W σ l (f ρ) G H D
section
variable {K : PySem.W.Frag} {B : Cls0} {W : WX} {σ σ0 σ1 : L2.St} {l l0 l1 : List Nat} {G G' G1 : Gh} {H H' H1 : Hp} {ρ ρ' : Env} {D D' : Ends}
theorem PostS.mono {o : SOut} (h : PostS K B W σ l o G H D) (n : Nx G H G1 H1) (m : Sm l0 σ σ1) (h0 : ∀ i, i ∈ l0 → i ∈ l) (h1 : ∀ i, i ∈ l1 → i ∈ l) : PostS K B W σ1 l1 o G1 H1 D := by
  have mm : ∀ {σ' : L2.St}, Sm l1 σ1 σ' → Sm l σ σ' := fun {σ'} q => (m.trans q).more fun i hi => by
    rcases List.mem_append.mp hi with z | z
    · exact h0 i z
    · exact h1 i z
  cases o with
  | none => exact h
  | some p =>
    obtain ⟨f, ρ'⟩ := p
    cases f with
    | next => exact fun G' H' σ' n' S q => h G' H' σ' (n.trans n') S (mm q)
    | brk => exact fun G' H' σ' n' S q => h G' H' σ' (n.trans n') S (mm q)
    | cont => exact fun G' H' σ' n' S q => h G' H' σ' (n.trans n') S (mm q)
    | ret t => exact fun G' H' σ' v n' S q r => h G' H' σ' v (n.trans n') S (mm q) r
    | err c d => exact fun G' H' σ' dx n' S q r => h G' H' σ' dx (n.trans n') S (mm q) r
theorem PostS.ends {o : SOut} (h : PostS K B W σ l o G H D) (hn : ∀ σ' H', D.nx σ' H' → D'.nx σ' H') (hb : D'.bk = D.bk) (hc : D'.ct = D.ct) (hr : D'.rt = D.rt) : PostS K B W σ l o G H D' := by
  cases o with
  | none => exact h
  | some p =>
    obtain ⟨f, ρ'⟩ := p
    cases f with
    | next => exact fun G' H' σ' n' S q => hn _ _ (h G' H' σ' n' S q)
    | brk => intro G' H' σ' n' S q; rw [hb]; exact h G' H' σ' n' S q
    | cont => intro G' H' σ' n' S q; rw [hc]; exact h G' H' σ' n' S q
    | ret t => intro G' H' σ' v n' S q r; rw [hr]; exact h G' H' σ' v n' S q r
    | err c d => exact h
theorem PostS.xs {α β : Type} {R : α → Env → Gh → Hp → β → Prop} {m : Out α} {k : α → Env → SOut} {Q' : β → Hp → Prop} (h : PostS K B W σ l (xs m k) G H D)
    (f : ∀ a ρ1 G1 H1 b, m = some (.ok a, ρ1) → Nx G H G1 H1 → Sta K B G1 ρ1 σ H1 → R a ρ1 G1 H1 b → PostS K B W σ l (k a ρ1) G1 H1 D → Q' b H1) : PostX K B W σ R m G H Q' := by
  cases m with
  | none => exact h
  | some q =>
    obtain ⟨r, ρ1⟩ := q
    cases r with
    | ok a => exact fun G1 H1 b n S r => f a ρ1 G1 H1 b rfl n S r (PostS.mono (show PostS K B W σ l (k a ρ1) G H D from h) n (Sm.refl (l := [])) (fun i hi => by cases hi) fun i hi => hi)
    | err c d => exact fun G1 H1 dx n S r => (show PostS K B W σ l (some (.err c d, ρ1)) G H D from h) G1 H1 σ dx n S Sm.refl r
theorem PostS.opS {α : Type} {o : Option α} {k : α → SOut} (h : PostS K B W σ l (opS o k) G H D) : ∃ a, o = some a ∧ PostS K B W σ l (k a) G H D := by
  cases o with
  | none => exact h.elim
  | some a => exact ⟨a, rfl, h⟩
theorem PostS.nxt (h : PostS K B W σ l (some (.next, ρ)) G H D) (S : Sta K B G1 ρ σ1 H1) (n : Nx G H G1 H1) (m : Sm l σ σ1) : D.nx σ1 H1 := h G1 H1 σ1 n S m
theorem RepT.lstI {r : Nat} {p : List Nat} {v : V} {l : List Ev.D} (h : RepT K B G H r p v (.lst l)) : ∃ a vs, v = .ref a ∧ G a = .my r p ∧ H a = some (.lst vs) ∧ Reps K B (Fz G H) vs l := by
  cases h with
  | lst g h x => exact ⟨_, _, rfl, g, h, x⟩
/-- an own list is written -/
theorem Sta.lset (S : Sta K B G ρ σ H) {i : Nat} {a : Addr} {vs vs' : List V} {l l' : List Ev.D} (hi : look ρ i = some (.lst l)) (hv : σ[i]? = some (some (.ref a))) (g : G a = .my (i + 1) []) (ha : H a = some (.lst vs)) (rs : Reps K B (Fz G H) vs' l') :
    Sta K B G (ρ.set i (some (.lst l'))) σ (upd H a (.lst vs')) ∧ Nx G H G (upd H a (.lst vs')) := by
  have fz : ∀ c o, H c = some o → G c = .frz → upd H a (.lst vs') c = some o := fun c o e g' => by
    rw [upd_ne fun z => ?_]
    · exact e
    · rw [z, g] at g'
      cases g'
  have sub : Sub (Fz G H) (Fz G (upd H a (.lst vs'))) := fun c o e => by
    obtain ⟨g', h⟩ := Fz.inv e
    exact Fz.of g' (fz c o h g')
  refine ⟨⟨by rw [List.length_set]; exact S.len, fun j t e => ?_, fun c e => ?_⟩, fun c o e => ⟨fun g' => ⟨fz c o e g', g'⟩, fun g' => ⟨?_, g'⟩⟩⟩
  · by_cases hj : i = j
    · subst hj
      have e2 := look_set_some e
      subst e2
      exact ⟨_, hv, .lst g upd_same (rs.mono sub)⟩
    · rw [look_set_ne hj] at e
      obtain ⟨v, hv2, R⟩ := S.slot j t e
      refine ⟨v, hv2, R.stay (fun c o e g' => ⟨fz c o e g', g'⟩) fun c o p e g' => ⟨?_, g'⟩⟩
      rw [upd_ne fun z => ?_]
      · exact e
      · rw [z, g] at g'
        injection g' with h1 _
        omega
  · by_cases hc : c = a
    · rw [hc, upd_same] at e
      cases e
    · rw [upd_ne hc] at e
      exact S.fresh c e
  · rw [upd_ne fun z => ?_]
    · exact e
    · rw [z, g] at g'
      cases g'
/-- the hidden come back, the other slots perhaps given new values -/
theorem Sta.unhid2 {hs : List Nat} {ρ1 ρn : Env} {Gn : Gh} {Hn : Hp} {σn : L2.St} (S : Sta K B G1 ρ1 σ H1) (Sn : Sta K B Gn ρn σn Hn) (n : Nx (gHid (hidS hs) G1) H1 Gn Hn) (hσ : ∀ i, i ∈ hs → σn[i]? = σ[i]?) :
    Nx G1 H1 (gBack (hidS hs) G1 Gn) Hn ∧ Sta K B (gBack (hidS hs) G1 Gn) (back ρ1 ρn hs) σn Hn ∧ (∀ {p v t}, RepT K B Gn Hn 0 p v t → RepT K B (gBack (hidS hs) G1 Gn) Hn 0 p v t) ∧ Sub (Fz Gn Hn) (Fz (gBack (hidS hs) G1 Gn) Hn) := by
  have heap : ∀ a q p, G1 a = .my q p → ∃ o, H1 a = some o := fun a q p g => by
    cases e : H1 a with
    | some o => exact ⟨o, rfl⟩
    | none => rw [S.fresh a e] at g; cases g
  have held : ∀ a q p, G1 a = .my q p → hidS hs q = true → ∃ o, H1 a = some o ∧ Hn a = some o ∧ Gn a = .non := fun a q p g z => by
    obtain ⟨o, e⟩ := heap a q p g
    obtain ⟨h1, h2⟩ := (n a o e).2 (gHid_at g z)
    exact ⟨o, e, h1, h2⟩
  have same : ∀ a, Gn a ≠ .non → gBack (hidS hs) G1 Gn a = Gn a := fun a h => gBack_ne fun q p g => by
    cases z : hidS hs q with
    | false => rfl
    | true =>
      obtain ⟨_, _, _, k⟩ := held a q p g z
      exact absurd k h
  have frzK : ∀ a, Gn a = .frz → gBack (hidS hs) G1 Gn a = .frz := fun a h => (same a (by rw [h]; exact fun z => by cases z)).trans h
  refine ⟨fun a o e => ⟨fun g => ?_, fun g => ?_⟩, ⟨?_, fun i t e => ?_, fun a e => ?_⟩, fun {p v t} r => r.stay (fun a o e g => ⟨e, frzK a g⟩) fun a o p e g => ⟨e, (same a (by rw [g]; exact fun z => by cases z)).trans g⟩, fun a o e => ?_⟩
  · obtain ⟨h1, h2⟩ := (n a o e).1 (gHid_frz g)
    exact ⟨h1, frzK a h2⟩
  · obtain ⟨h1, h2⟩ := (n a o e).2 (gHid_non g)
    exact ⟨h1, by rw [gBack_ne (fun q p g' => by rw [g] at g'; cases g')]; exact h2⟩
  · rw [back_length, Sn.len]
  · by_cases hi : i ∈ hs
    · have e1 := look_back_in hi e
      obtain ⟨v, hv, R⟩ := S.slot i t e1
      refine ⟨v, by rw [hσ i hi]; exact hv, R.stay (fun a o e g => ?_) fun a o p e g => ?_⟩
      · obtain ⟨h1, h2⟩ := (n a o e).1 (gHid_frz g)
        exact ⟨h1, frzK a h2⟩
      · obtain ⟨h1, h2⟩ := (n a o e).2 (gHid_at g (hidS_mem.mpr hi))
        exact ⟨h1, gBack_at g (hidS_mem.mpr hi)⟩
    · rw [look_back_out hi] at e
      obtain ⟨v, hv, R⟩ := Sn.slot i t e
      exact ⟨v, hv, R.stay (fun a o e g => ⟨e, frzK a g⟩) fun a o p e g => ⟨e, (same a (by rw [g]; exact fun z => by cases z)).trans g⟩⟩
  · rw [gBack_ne fun q p g => ?_]
    · exact Sn.fresh a e
    · cases z : hidS hs q with
      | false => rfl
      | true =>
        obtain ⟨o, _, h2, _⟩ := held a q p g z
        rw [e] at h2
        cases h2
  · obtain ⟨g, h⟩ := Fz.inv e
    exact Fz.of (frzK a g) h
/-- slot i is moved out -/
theorem Sta.out (S : Sta K B G ρ σ H) {i : Nat} {t : T} (h : look ρ i = some t) : ∃ v, σ[i]? = some (some v) ∧ Nx G H (gMv (i + 1) 0 G) H ∧ Sta K B (gMv (i + 1) 0 G) (ρ.set i none) σ H ∧ RepT K B (gMv (i + 1) 0 G) H 0 [] v t := by
  obtain ⟨v, hv, R⟩ := S.slot i t h
  refine ⟨v, hv, Nx.gMv, ⟨by rw [List.length_set]; exact S.len, fun j t' e => ?_, fun a e => gMv_non (S.fresh a e)⟩, R.stay (fun a o e g => ⟨e, gMv_frz g⟩) fun a o p e g => ⟨e, gMv_at g⟩⟩
  by_cases hj : i = j
  · subst hj
    rw [look_set_none] at e
    cases e
  · rw [look_set_ne hj] at e
    obtain ⟨w, hw, R2⟩ := S.slot j t' e
    exact ⟨w, hw, R2.stay (fun a o e g => ⟨e, gMv_frz g⟩) fun a o p e g => ⟨e, gMv_ne g (fun z => hj (by omega)) (Nat.succ_ne_zero j)⟩⟩
end

section
variable {B : Cls0} {W : WX} {X : Cx} {x y z tg : Expr} {st : Stmt} {sts : List Stmt} {pos p : Pos} {a b c e : E} {Y : Sys} {s : S} {ss : List S}
abbrev SS (B : Cls0) (W : WX) (Y : Sys) (X : Cx) (s : S) (st : Stmt) : Prop := PS X st (tS X.K B W (asgS s) (exS Y s))
abbrev SSs (B : Cls0) (W : WX) (Y : Sys) (X : Cx) (ss : List S) (sts : List Stmt) : Prop := PSs X sts (tS X.K B W (asgSs ss) (exSs Y ss))
theorem ps_mono {t t' : TS} (h : PS X st t) (f : ∀ D σ H, t' D σ H → t D σ H) : PS X st t' := ⟨fun pins s σ H D I q => h.run pins s σ H D I (f D σ H q)⟩
theorem pss_mono {t t' : TS} (h : PSs X sts t) (f : ∀ D σ H, t' D σ H → t D σ H) : PSs X sts t' := ⟨fun pins s σ H D I q => h.run pins s σ H D I (f D σ H q)⟩
theorem sss_nil : SSs B W Y X [] [] := pss_mono pss_nil fun D σ H ⟨G, ρ, S, P⟩ => by
  unfold exSs at P
  exact P.nxt S Nx.refl Sm.refl
theorem sss_cons (h1 : SS B W Y X s st) (h2 : SSs B W Y X ss sts) : SSs B W Y X (s :: ss) (st :: sts) := pss_mono (pss_cons h1 h2) fun D σ H ⟨G, ρ, S, P⟩ => by
  have e : exSs Y (s :: ss) ρ = (match exS Y s ρ with
    | some (.next, ρ') => exSs Y ss ρ'
    | o => o) := by
    conv => lhs; unfold exSs
    all_goals
      cases exS Y s ρ with
      | none => rfl
      | some q =>
        obtain ⟨f, ρ1⟩ := q
        cases f <;> rfl
  rw [e] at P
  have hl : asgSs (s :: ss) = asgS s ++ asgSs ss := by conv => lhs; unfold asgSs
  rw [hl] at P
  refine ⟨G, ρ, S, ?_⟩
  have inL : ∀ i, i ∈ asgS s → i ∈ asgS s ++ asgSs ss := fun i h => List.mem_append_left _ h
  have inR : ∀ i, i ∈ asgSs ss → i ∈ asgS s ++ asgSs ss := fun i h => List.mem_append_right _ h
  cases q : exS Y s ρ with
  | none => rw [q] at P; exact P
  | some r =>
    obtain ⟨f, ρ1⟩ := r
    rw [q] at P
    cases f with
    | next => exact fun G' H' σ' n S' m => ⟨G', ρ1, S', P.mono n m inL inR⟩
    | brk => exact fun G' H' σ' n S' m => P G' H' σ' n S' (m.more inL)
    | cont => exact fun G' H' σ' n S' m => P G' H' σ' n S' (m.more inL)
    | ret t => exact fun G' H' σ' v n S' m r => P G' H' σ' v n S' (m.more inL) r
    | err c d => exact fun G' H' σ' dx n S' m r => P G' H' σ' dx n S' (m.more inL) r
theorem ss_never : SS B W Y X (.drop (.range [])) st := ps_mono ps_never fun D σ H ⟨G, ρ, S, P⟩ => by
  have e : exS Y (.drop (.range [])) ρ = none := by
    unfold exS
    unfold ev
    rfl
  rw [e] at P
  exact P
theorem ss_pass : SS B W Y X .pass (.Pass pos) := ps_mono ps_pass fun D σ H ⟨G, ρ, S, P⟩ => by
  unfold exS at P
  exact P.nxt S Nx.refl Sm.refl
theorem ss_drop (h : SE B W Y X a x) (hs : swapsWith x none pos.line X.env = pure false) : SS B W Y X (.drop a) (.Expr x pos) := ps_mono (ps_expr h.e hs) fun D σ H ⟨G, ρ, S, P⟩ => by
  unfold exS at P
  exact ⟨G, ρ, S, P.xs fun t ρ1 G1 H1 v eeρ1 _ S1 _ P1 => P1.nxt S1 Nx.refl Sm.refl⟩
theorem ss_ret (h : SE B W Y X a x) : SS B W Y X (.ret a) (.Return (some x) pos) := ps_mono (ps_ret h.e) fun D σ H ⟨G, ρ, S, P⟩ => by
  unfold exS at P
  exact ⟨G, ρ, S, P.xs fun t ρ1 G1 H1 v eeρ1 _ S1 R P1 => P1 G1 H1 σ v Nx.refl S1 Sm.refl R⟩
theorem ss_retm {i : Nat} (h : PE X x (tVar i)) : SS B W Y X (.retm i) (.Return (some x) pos) := ps_mono (ps_ret h) fun D σ H ⟨G, ρ, S, P⟩ => by
  unfold exS at P
  obtain ⟨t, et, P1⟩ := P.opS
  obtain ⟨v, hv, n, S1, R⟩ := S.out et
  exact ⟨v, hv, P1 _ H σ v n S1 Sm.refl R⟩
theorem ss_ite {sa sb : List S} {ta tb : List Stmt} (hc : PT X x (tT X.K B W (evT Y a))) (ha : SSs B W Y X sa ta) (hb : SSs B W Y X sb tb) : SS B W Y X (.ite a sa sb) (.If x ta tb pos) := ps_mono (ps_if hc ha hb) fun D σ H ⟨G, ρ, S, P⟩ => by
  unfold exS at P
  refine ⟨G, ρ, S, P.xs fun k ρ1 G1 H1 v eeρ1 _ S1 R P1 => ?_⟩
  have R2 : v = k := R
  subst R2
  have hl : asgS (.ite a sa sb) = asgSs sa ++ asgSs sb := by conv => lhs; unfold asgS
  rw [hl] at P1
  cases v with
  | true =>
    rw [if_pos rfl]
    exact ⟨G1, ρ1, S1, P1.mono Nx.refl (Sm.refl (l := [])) (fun i hi => by cases hi) fun i h => List.mem_append_left _ h⟩
  | false =>
    rw [if_neg Bool.false_ne_true]
    exact ⟨G1, ρ1, S1, P1.mono Nx.refl (Sm.refl (l := [])) (fun i hi => by cases hi) fun i h => List.mem_append_right _ h⟩
/-- a name -/
theorem asg_name {te : TE} {i : Nat} (hi : ∀ D σ H, tS X.K B W (asgS (.asg (.v i) a)) (exS Y (.asg (.v i) a)) D σ H → tE X.K B W (ev Y a) σ H fun x H1 => gName i x σ H1 D.nx) (h : PS X st (tAsg te (gName i))) (hte : ∀ σ H Q, tE X.K B W (ev Y a) σ H Q → te σ H Q) : SS B W Y X (.asg (.v i) a) st :=
  ps_mono h fun D σ H q => hte σ H _ (hi D σ H q)
theorem asg_nameT {i : Nat} : ∀ D σ H, tS X.K B W (asgS (.asg (.v i) a)) (exS Y (.asg (.v i) a)) D σ H → tE X.K B W (ev Y a) σ H fun x H1 => gName i x σ H1 D.nx := fun D σ H ⟨G, ρ, S, P⟩ => by
  unfold exS at P
  refine ⟨G, ρ, S, P.xs fun t ρ1 G1 H1 v eeρ1 _ S1 R P1 => ?_⟩
  obtain ⟨ρ2, e, P2⟩ := P1.opS
  have e' : (if i < ρ1.length then some (ρ1.set i (some t)) else none) = some ρ2 := e
  split at e'
  · rename_i hi
    have e2 := Option.some.inj e'
    subst e2
    refine P2.nxt (S1.store hi R) Nx.gMv ?_
    have hl : asgS (.asg (.v i) a) = [i] := by
      conv => lhs; unfold asgS
      unfold tgs
      rfl
    rw [hl]
    exact Sm.set
  · cases e'
theorem ss_set {i : Nat} {n : Str} {p2 : Pos} (hN : X.N.Nodup) (hi : X.N[i]? = some n) (hx : Loc X.env.scope n) (h : SE B W Y X a x) (hs : swapsWith x (some (.Name n p2)) pos.line X.env = pure false) (hf : X.fn n = true ∨ X.env.scope.names.lookup n = some .local) :
    SS B W Y X (.asg (.v i) a) (.Assign [.Name n p2] x pos) := asg_name asg_nameT (ps_set hN hi hx h.e hs hf) fun _ _ _ q => q
/-- a tuple of names -/
theorem ss_tup {g : List Tg} (h : SE B W Y X a x) (hg : PG X tg (tG X.K B (.tup g))) (hs : swapsWithSole [tg] x pos.line X.env = pure false) (hw : swappedStores [tg] x X.env = pure none) (h1 : (assignEach [tg] X.env).map (·.2) = [PySem.assign tg X.env]) :
    SS B W Y X (.asg (.tup g) a) (.Assign [tg] x pos) := ps_mono (ps_asg h.d hg hs hw h1) fun D σ H ⟨G, ρ, S, P⟩ => by
  unfold exS at P
  have e : xs (ev Y a ρ) (fun t ρ => opS (asgT (.tup g) t ρ) fun ρ => some (.next, ρ)) = xs (evD (ev Y a ρ)) fun d ρ => opS (asgD (.tup g) d ρ) fun ρ => some (.next, ρ) := by
    cases ev Y a ρ with
    | none => rfl
    | some q =>
      obtain ⟨r, ρ1⟩ := q
      cases r <;> rfl
  rw [e] at P
  refine ⟨G, ρ, S, P.xs fun d ρ1 G1 H1 v eeρ1 _ S1 R P1 => ?_⟩
  obtain ⟨ρ2, e2, P2⟩ := P1.opS
  have hl : asgS (.asg (.tup g) a) = tgs (.tup g) := by conv => lhs; unfold asgS
  rw [hl] at P2
  exact ⟨G1, ρ1, d, ρ2, S1, R, e2, fun σ' S' m => P2.nxt S' Nx.refl m⟩
/-- an item of an own list -/
theorem ss_setI {i : Nat} {k : E} {n : Str} {p2 p3 : Pos} (hi : PE X (.Name n p2) (tVar i)) (hk : SE B W Y X k y) (h : SE B W Y X a x) (hs : swapsWithSole [.Subscript (.Name n p2) y p3] x pos.line X.env = pure false) (hsl : isSlc y = false) :
    SS B W Y X (.setI i k a) (.Assign [.Subscript (.Name n p2) y p3] x pos) := by
  have hsub : PG X (.Subscript (.Name n p2) y p3) _ := pg_sub hi hk.d set_list (by intro _; cases y <;> first | (cases hsl; done) | rfl)
  refine ps_mono (ps_asg h.d hsub hs rfl rfl) fun D σ H ⟨G, ρ, S, P⟩ => ?_
  unfold exS at P
  refine ⟨G, ρ, S, P.xs fun d ρ1 G1 H1 v eeρ1 _ S1 R P1 => ?_⟩
  cases e : look ρ1 i with
  | none => rw [e] at P1; exact P1.elim
  | some t =>
    rw [e] at P1
    cases t with
    | lst l0 =>
      have P1 : PostS X.K B W σ _ (xs (evD (ev Y k ρ1)) fun k ρ => opS (setAt ρ i k d) fun ρ => some (.next, ρ)) G1 H1 D := P1
      obtain ⟨vi, hvi, _⟩ := S1.slot i _ e
      refine ⟨vi, hvi, G1, ρ1, S1, P1.xs fun dk ρ2 G2 H2 vk eeρ2 n2 S2 R2 P2 => ?_⟩
      obtain ⟨ρ3, e3, P3⟩ := P2.opS
      unfold setAt at e3
      split at e3
      case h_2 => cases e3
      rename_i l kk el
      cases hj : L2.ixN l.length kk with
      | none => rw [hj] at e3; cases e3
      | some j =>
        rw [hj] at e3
        have e4 := Option.some.inj e3
        subst e4
        obtain ⟨vi', hvi', Rl⟩ := S2.slot i _ el
        rw [hvi] at hvi'
        have e5 := Option.some.inj (Option.some.inj hvi')
        subst e5
        obtain ⟨ad, vs, rfl, g, ha, rs⟩ := Rl.lstI
        cases R2
        obtain ⟨S3, n3⟩ := S2.lset el hvi g ha (rs.set (n2.rep R) j)
        exact ⟨ad, vs, kk, j, rfl, rfl, ha, by rw [rs.length]; exact hj, P3.nxt S3 n3 Sm.refl⟩
    | _ => exact P1.elim
/-- an item of a list by its place, straight from ixN -/
theorem get_list : PGet X (rIxL X.K) := fun pins s σ H o ix ov iv Q I ro ri hyp => by
  obtain ⟨adr, cells, pos, got, eo, ei, sq, at_, post⟩ := hyp
  subst eo
  subst ei
  cases ro
  obtain ⟨tok, eiv⟩ := ri
  subst eiv
  obtain ⟨arr, rel, isl, _⟩ := I.list sq
  obtain ⟨place, ep, ec⟩ := Option.bind_eq_some_iff.mp (show (L2.ixN cells.length pos).bind (fun j => cells[j]?) = some got from at_)
  obtain ⟨val, ev, rv⟩ := rel.get ec
  have len := rel.length
  have lt := (List.getElem?_eq_some_iff.mp ev).1
  have small := line63
  have done : EP X pins σ Q val s := ⟨got, H, I, rv, post⟩
  unfold L2.ixN at ep
  split at ep
  · rename_i nonneg
    split at ep
    case isFalse => cases ep
    cases ep
    exact wpAny_getItem_list isl.isList nonneg (by omega) (by simpa using ev) done
  · rename_i neg
    split at ep
    case isFalse => cases ep
    cases ep
    refine wpAny_getItem_list_neg isl.isList (by omega) (by rw [List.size_toArray]; omega) (by omega) ?_ done
    rw [List.size_toArray, ← len]
    simpa using ev
theorem ss_augI {i : Nat} {k : E} {n : Str} {p2 p3 : Pos} (hi : PE X (.Name n p2) (tVar i)) (hk : SE B W Y X k y) (h : SE B W Y X a x) (hsl : isSlc y = false) :
    SS B W Y X (.augI i k a) (.AugAssign (.Subscript (.Name n p2) y p3) .Add x pos) := by
  refine ps_mono (ps_augS hi hk.d get_list h.d ip_add set_list (by intro _ _ _; cases y <;> first | (cases hsl; done) | rfl)) fun D σ H ⟨G, ρ, S, P⟩ => ?_
  unfold exS at P
  cases e : look ρ i with
  | none => rw [e] at P; exact P.elim
  | some t =>
    rw [e] at P
    cases t with
    | lst l0 =>
      obtain ⟨vi, hvi, _⟩ := S.slot i _ e
      refine ⟨vi, hvi, G, ρ, S, PostS.xs (show PostS X.K B W σ _ (xs (evD (ev Y k ρ)) fun k ρ => (match look ρ i, k with
        | some (.lst l), .int k => opS (L2.atI l k) fun x => xs (evD (ev Y a ρ)) fun y ρ => (match x, y with
          | .int x, .int y => opS (setAt ρ i (.int k) (.int (x + y))) fun ρ => some (.next, ρ)
          | _, _ => none)
        | _, _ => none)) G H D from P) fun dk ρ1 G1 H1 vk eeρ1 n1 S1 R1 P1 => ?_⟩
      split at P1
      case h_2 => exact P1.elim
      rename_i l kk el
      obtain ⟨xo, ex, P2⟩ := P1.opS
      obtain ⟨vi', hvi', Rl⟩ := S1.slot i _ el
      rw [hvi] at hvi'
      have e5 := Option.some.inj (Option.some.inj hvi')
      subst e5
      obtain ⟨ad, vs, rfl, g, ha, rs⟩ := Rl.lstI
      cases R1
      obtain ⟨j, xv, h1, h2, h3⟩ := atI_get2 rs.length ex
      obtain ⟨xv', h4, h5⟩ := rs.get h1
      rw [h2] at h4
      have e6 := Option.some.inj h4
      subst e6
      refine ⟨ad, vs, kk, xv, rfl, rfl, .inl (.inl ha), h3, G1, ρ1, S1, P2.xs fun dy ρ2 G2 H2 vy eeρ2 n2 S2 R2 P3 => ?_⟩
      split at P3
      case h_2 => exact P3.elim
      rename_i xi yi
      obtain ⟨ρ3, e3, P4⟩ := P3.opS
      unfold setAt at e3
      split at e3
      case h_2 => cases e3
      rename_i l2 kk2 el2 ek
      cases ek
      cases hj : L2.ixN l2.length kk with
      | none => rw [hj] at e3; cases e3
      | some j2 =>
        rw [hj] at e3
        have e4 := Option.some.inj e3
        subst e4
        obtain ⟨vi2, hvi2, Rl2⟩ := S2.slot i _ el2
        rw [hvi] at hvi2
        have e7 := Option.some.inj (Option.some.inj hvi2)
        obtain ⟨ad2, vs2, e8, g2, ha2, rs2⟩ := Rl2.lstI
        rw [← e7] at e8
        cases e8
        cases R2
        cases h5
        obtain ⟨S3, n3⟩ := S2.lset el2 hvi g2 ha2 (rs2.set (.int (xi + yi)) j2)
        exact ⟨xi, yi, rfl, rfl, ad, vs2, kk, j2, rfl, rfl, ha2, by rw [rs2.length]; exact hj, P4.nxt S3 n3 Sm.refl⟩
    | _ => exact P.elim
theorem ss_augN {i : Nat} {n : Str} {p2 : Pos} (hN : X.N.Nodup) (hi : X.N[i]? = some n) (hx : Loc X.env.scope n) (h : SE B W Y X a x) (hf : X.fn n = true ∨ X.env.scope.names.lookup n = some .local) :
    SS B W Y X (.augN i a) (.AugAssign (.Name n p2) .Add x pos) := by
  refine ps_mono (ps_aug hN hi hx h.d ip_add hf) fun D σ H ⟨G, ρ, S, P⟩ => ?_
  unfold exS at P
  split at P
  case h_2 => exact P.elim
  rename_i xi e
  obtain ⟨vi, hvi, R⟩ := S.slot i _ e
  cases R with
  | val R =>
    cases R
    refine ⟨_, hvi, G, ρ, S, P.xs fun dy ρ1 G1 H1 vy eeρ1 n1 S1 R1 P1 => ?_⟩
    split at P1
    case h_2 => exact P1.elim
    rename_i yi
    cases R1
    split at P1
    case isFalse => exact P1.elim
    have hl : asgS (.augN i a) = [i] := by conv => lhs; unfold asgS
    rw [hl] at P1
    exact ⟨xi, yi, rfl, rfl, P1.nxt (S1.putD (.int _)) Nx.refl Sm.set⟩
/-- append -/
theorem ss_app {i : Nat} {n : Str} {p2 ap cp : Pos} (hi : PE X (.Name n p2) (tVar i)) (h : SE B W Y X a x) (hst : isStar x = false) (hline : (ap.endLine == cp.line) = true) :
    SS B W Y X (.app i a) (.Expr (.Call (.Attribute (.Name n p2) "append" ap) [x] [] cp) pos) := by
  have hpe := pe_bm (apos := ap) (cpos := cp) PySem.F.plainAttrs_list PySem.F.slot_list_append PySem.F.type_list_append mt_append hi (pa_cons h.d pa_nil (star_one hst _ _)) rfl (by rw [star_one hst]; rfl) hline (star_one hst _ _) rfl
  refine ps_mono (ps_expr hpe rfl) fun D σ H ⟨G, ρ, S, P⟩ => ?_
  unfold exS at P
  cases e : look ρ i with
  | none => rw [e] at P; exact P.elim
  | some t =>
    rw [e] at P
    cases t with
    | lst l0 =>
      obtain ⟨vi, hvi, R0⟩ := S.slot i _ e
      obtain ⟨ad, vs, rfl, g, ha, rs⟩ := R0.lstI
      refine ⟨_, hvi, .inl ⟨rfl, vs, .inl (.inl ha)⟩, G, ρ, S, PostS.xs (show PostS X.K B W σ _ (xs (evD (ev Y a ρ)) fun d ρ => (match look ρ i with
        | some (.lst l) => if l.length < LL then some (.next, ρ.set i (some (.lst (l ++ [d])))) else none
        | _ => none)) G H D from P) fun d ρ1 G1 H1 v eeρ1 n1 S1 R1 P1 => ?_⟩
      split at P1
      case h_2 => exact P1.elim
      rename_i l el
      split at P1
      case isFalse => exact P1.elim
      rename_i hlen
      obtain ⟨vi', hvi', Rl⟩ := S1.slot i _ el
      rw [hvi] at hvi'
      have e5 := Option.some.inj (Option.some.inj hvi')
      obtain ⟨ad2, vs2, e8, g2, ha2, rs2⟩ := Rl.lstI
      rw [← e5] at e8
      cases e8
      obtain ⟨S3, n3⟩ := S1.lset el hvi g2 ha2 (rs2.append (.cons R1 .nil))
      exact ⟨ad, vs2, v, rfl, rfl, ha2, LL_lt (by rw [rs2.length]; exact hlen), P1.nxt S3 n3 Sm.refl⟩
    | _ => exact P.elim
end
end Ev
end

section
set_option linter.all false
set_option maxRecDepth 100000
set_option maxHeartbeats 4000000
/-! The language is what the machine does: pairs of names, loops; from the program's statements. -/
namespace Ev
open PySem L2 PySem.Spec PyProof.Rows

section
variable {B : Cls0} {W : WX} {X : Cx} {x y z tg : Expr} {st : Stmt} {sts : List Stmt} {pos p : Pos} {a b c e : E} {Y : Sys} {s : S} {ss : List S}
/-- the names behind a pair of stores -/
def gPar (i j : Nat) (G1 G2 : Gh) : Gh := fun b => match G1 b with
  | .my 0 p => .my (i + 1) p
  | _ => (match G2 b with
    | .my 0 p => .my (j + 1) p
    | .my (q + 1) p => if q = i ∨ q = j then .non else .my (q + 1) p
    | o => o)
theorem gPar_1 {i j : Nat} {G1 G2 : Gh} {b : Addr} {p : List Nat} (h : G1 b = .my 0 p) : gPar i j G1 G2 b = .my (i + 1) p := by unfold gPar; rw [h]; rfl
theorem gPar_2 {i j : Nat} {G1 G2 : Gh} {b : Addr} (h : ∀ p, G1 b ≠ .my 0 p) : gPar i j G1 G2 b = (match G2 b with
    | .my 0 p => .my (j + 1) p
    | .my (q + 1) p => if q = i ∨ q = j then .non else .my (q + 1) p
    | o => o) := by
  unfold gPar
  cases e : G1 b with
  | frz => rfl
  | non => rfl
  | my r p =>
    cases r with
    | zero => exact absurd e (h p)
    | succ r => rfl
def is0 (q : Nat) : Bool := q == 0
theorem ss_par {i j : Nat} {n m : Str} {px py pt pt2 : Pos} {kt k2 : Nat} (hc : X.calm = true) (hN : X.N.Nodup) (hi : X.N[i]? = some n) (hj : X.N[j]? = some m) (hij : i ≠ j) (hx : X.env.scope.names.lookup n = some .local) (hy : X.env.scope.names.lookup m = some .local)
    (ha : SE B W Y X a x) (hb : SE B W Y X b y) (hst : isStar x = false) (hst2 : isStar y = false) (hw : swappedStores [.Tuple [.Name n px, .Name m py] kt pt] (.Tuple [x, y] k2 pt2) X.env = pure (some [n, m]))
    (hs : swapsWithSole [.Tuple [.Name n px, .Name m py] kt pt] (.Tuple [x, y] k2 pt2) pos.line X.env = pure false) :
    SS B W Y X (.par i j a b) (.Assign [.Tuple [.Name n px, .Name m py] kt pt] (.Tuple [x, y] k2 pt2) pos) :=
  ps_mono (ps_par hc hN hi hj hij hx hy (pa_cons ha.e (pa_cons hb.e pa_nil (star_one hst2 _ _)) (star_one hst _ _)) hw hs) fun D σ H ⟨G, ρ, S, P⟩ => by
    unfold exS at P
    refine ⟨G, ρ, S, P.xs fun t1 ρ1 G1 H1 v eeρ1 _ S1 R1 P1 => ?_⟩
    have R1 : RepT X.K B G1 H1 0 [] v t1 := R1
    have S1' : Sta X.K B (gHid is0 G1) ρ1 σ H1 := S1.keep (fun a o e g => ⟨e, gHid_frz g⟩) (fun i a o p _ e g => ⟨e, gHid_ne g rfl⟩) fun a e => gHid_non (S1.fresh a e)
    refine ⟨gHid is0 G1, ρ1, S1', ?_⟩
    cases em : ev Y b ρ1 with
    | none => rw [em] at P1; exact P1.elim
    | some q =>
      obtain ⟨r, ρ2⟩ := q
      rw [em] at P1
      cases r with
      | err c d => exact fun G' H' dx n2 S2 r2 => (show PostS X.K B W σ _ (some (.err c d, ρ2)) G1 H1 D from P1) G' H' σ dx (nx_hid n2) S2 Sm.refl r2
      | ok t2 =>
        intro G2 H2 w n2 S2 R2
        have R2 : RepT X.K B G2 H2 0 [] w t2 := R2
        have P2 : PostS X.K B W σ (asgS (.par i j a b)) (if i ≠ j ∧ i < ρ2.length ∧ j < ρ2.length then some (.next, (ρ2.set i (some t1)).set j (some t2)) else none) G1 H1 D := P1
        split at P2
        case isFalse => exact P2.elim
        rename_i hcnd
        have heap : ∀ a q p, G1 a = .my q p → ∃ o, H1 a = some o := fun a q p g => by
          cases e : H1 a with
          | some o => exact ⟨o, rfl⟩
          | none => rw [S1.fresh a e] at g; cases g
        have held : ∀ a p, G1 a = .my 0 p → ∃ o, H1 a = some o ∧ H2 a = some o ∧ G2 a = .non := fun a p g => by
          obtain ⟨o, e⟩ := heap a 0 p g
          obtain ⟨h1, h2⟩ := (n2 a o e).2 (gHid_at g rfl)
          exact ⟨o, e, h1, h2⟩
        have not0 : ∀ a, G2 a ≠ .non → ∀ p, G1 a ≠ .my 0 p := fun a h p g => by
          obtain ⟨_, _, _, k⟩ := held a p g
          exact h k
        have frzK : ∀ a, G2 a = .frz → gPar i j G1 G2 a = .frz := fun a h => by
          rw [gPar_2 (not0 a (by rw [h]; exact fun z => by cases z)), h]
        have my0 : ∀ a p, G2 a = .my 0 p → gPar i j G1 G2 a = .my (j + 1) p := fun a p h => by
          rw [gPar_2 (not0 a (by rw [h]; exact fun z => by cases z)), h]
        have myS : ∀ (a : Addr) (q : Nat) (p : List Nat), q ≠ i → q ≠ j → G2 a = .my (q + 1) p → gPar i j G1 G2 a = .my (q + 1) p := fun a q p h1 h2 h => by
          rw [gPar_2 (not0 a (by rw [h]; exact fun z => by cases z)), h]
          show (if q = i ∨ q = j then Own.non else .my (q + 1) p) = _
          rw [if_neg (fun z => by rcases z with z | z <;> contradiction)]
        have hl : asgS (.par i j a b) = [i, j] := by conv => lhs; unfold asgS
        rw [hl] at P2
        refine ⟨v, w, rfl, P2 (gPar i j G1 G2) H2 _ ?_ ?_ ?_⟩
        · refine fun a o e => ⟨fun g => ?_, fun g => ?_⟩
          · obtain ⟨h1, h2⟩ := (n2 a o e).1 (gHid_frz g)
            exact ⟨h1, frzK a h2⟩
          · obtain ⟨h1, h2⟩ := (n2 a o e).2 (gHid_non g)
            refine ⟨h1, ?_⟩
            rw [gPar_2 (fun p z => by rw [g] at z; cases z), h2]
        · refine ⟨by rw [List.length_set, List.length_set, List.length_set, List.length_set]; exact S2.len, fun q t e => ?_, fun a e => ?_⟩
          · by_cases hq : j = q
            · subst hq
              have e2 := look_set_some e
              subst e2
              exact ⟨w, by rw [List.getElem?_set_self (by rw [List.length_set, ← S2.len]; exact hcnd.2.2)], R2.stay (fun a o e g => ⟨e, frzK a g⟩) fun a o p e g => ⟨e, my0 a p g⟩⟩
            · rw [look_set_ne hq] at e
              by_cases hq2 : i = q
              · subst hq2
                have e2 := look_set_some e
                subst e2
                refine ⟨v, by rw [List.getElem?_set_ne hq, List.getElem?_set_self (by rw [← S2.len]; exact hcnd.2.1)], R1.stay (fun a o e g => ?_) fun a o p e g => ?_⟩
                · obtain ⟨h1, h2⟩ := (n2 a o e).1 (gHid_frz g)
                  exact ⟨h1, frzK a h2⟩
                · obtain ⟨o', h1, h2, _⟩ := held a p g
                  rw [e] at h1
                  have e3 := Option.some.inj h1
                  subst e3
                  exact ⟨h2, gPar_1 g⟩
              · rw [look_set_ne hq2] at e
                obtain ⟨u, hu, R⟩ := S2.slot q t e
                exact ⟨u, by rw [List.getElem?_set_ne hq, List.getElem?_set_ne hq2]; exact hu, R.stay (fun a o e g => ⟨e, frzK a g⟩) fun a o p e g => ⟨e, myS a q p (fun z => hq2 z.symm) (fun z => hq z.symm) g⟩⟩
          · have h2 := S2.fresh a e
            rw [gPar_2 fun p g => ?_, h2]
            obtain ⟨o, _, h3, _⟩ := held a p g
            rw [e] at h3
            cases h3
        · exact ((Sm.set (i := i)).trans (Sm.set (i := j))).more fun k hk => hk
/-! ### loops -/
theorem ss_while {body : List Stmt} {bb : List S} (hp : PassesOwn (model X.prog X.w) X.A X.env X.xe) (hc : PT X x (tT X.K B W (evT Y a))) (hb : SSs B W Y X bb body) : SS B W Y X (.while_ a bb) (.While x body [] pos) :=
  ps_mono (ps_while hp hc hb) fun D σ H ⟨G, ρ, S, P⟩ => by
    unfold exS at P
    have hl : asgS (.while_ a bb) = asgSs bb := by conv => lhs; unfold asgS
    rw [hl] at P
    refine ⟨fun m σ' H' => ∃ Gi ρi, Sta X.K B Gi ρi σ' H' ∧ PostS X.K B W σ' (asgSs bb) (whileLoop (evT Y a) (exSs Y bb) m ρi) Gi H' D, ⟨Y.W, G, ρ, S, P⟩, ?_⟩
    intro m σ1 H1 ⟨G1, ρ1, S1, P1⟩
    cases m with
    | zero => exact P1.elim
    | succ m =>
      refine ⟨G1, ρ1, S1, PostS.xs (show PostS X.K B W σ1 (asgSs bb) (xs (evT Y a ρ1) fun k ρ => (match k with
        | false => some (.next, ρ)
        | true => (match exSs Y bb ρ with
          | some (.next, ρ') => whileLoop (evT Y a) (exSs Y bb) m ρ'
          | some (.cont, ρ') => whileLoop (evT Y a) (exSs Y bb) m ρ'
          | some (.brk, ρ') => some (.next, ρ')
          | o => o))) G1 H1 D from P1) fun k ρ2 G2 H2 v eeρ2 n2 S2 R P2 => ?_⟩
      have R2 : v = k := R
      subst R2
      cases v with
      | false =>
        rw [if_neg Bool.false_ne_true]
        exact P2.nxt S2 Nx.refl Sm.refl
      | true =>
        rw [if_pos rfl]
        refine ⟨fun σ' H' => ∃ Gi ρi, Sta X.K B Gi ρi σ' H' ∧ PostS X.K B W σ' (asgSs bb) (whileLoop (evT Y a) (exSs Y bb) m ρi) Gi H' D, fun σ' H' h => ⟨m, Nat.lt_succ_self m, h⟩, G2, ρ2, S2, ?_⟩
        cases q : exSs Y bb ρ2 with
        | none => rw [q] at P2; exact P2.elim
        | some r =>
          obtain ⟨f, ρ3⟩ := r
          rw [q] at P2
          cases f with
          | next => exact fun G' H' σ' n S' mm => ⟨G', ρ3, S', P2.mono n mm (fun i h => h) fun i h => h⟩
          | cont => exact fun G' H' σ' n S' mm => ⟨G', ρ3, S', P2.mono n mm (fun i h => h) fun i h => h⟩
          | brk => exact P2
          | ret t => exact P2
          | err c d => exact P2
theorem opS_some {α : Type} {o : Option α} {k : α → SOut} {r : Fl × Env} (h : opS o k = some r) : ∃ a, o = some a ∧ k a = some r := by
  cases o with
  | none => cases h
  | some a => exact ⟨a, rfl, h⟩
theorem ss_for {g : Tg} {it : E} {iter : Expr} {body : List Stmt} {bb : List S} (hp : PassesOwn (model X.prog X.w) X.A X.env X.xe) (hc : X.calm = true) (hi : PI X tg iter (tI X.K B W (evIt Y (fun i => occSs i bb || (tgs g).contains i) it))) (hg : PG X tg (tG X.K B g)) (hb : SSs B W Y X bb body) (hs : ∀ x, foldedSetIterable iter X.env x = pure x) :
    SS B W Y X (.for_ g it bb) (.For tg iter body [] pos) :=
  ps_mono (ps_for hp hc hi hg hb hs) fun D σ H ⟨G, ρ, S, P⟩ => by
    unfold exS at P
    have hl : asgS (.for_ g it bb) = tgs g ++ asgSs bb := by conv => lhs; unfold asgS
    rw [hl] at P
    refine ⟨G, ρ, S, P.xs fun w ρ1 G1 H1 J eeρ1 _ S1 RJ P1 => ?_⟩
    split at P1
    case isFalse => exact P1.elim
    rename_i hcnd
    generalize hstep : (fun (d : Ev.D) (ρ : Env) => opS (asgD g d ρ) fun ρ => exSs Y bb ρ) = step at P1
    cases el : forLoop step w.1 (hide ρ1 w.2) with
    | none => rw [el] at P1; exact P1.elim
    | some q =>
      obtain ⟨f, ρ2⟩ := q
      rw [el] at P1
      have P2 : PostS X.K B W σ (tgs g ++ asgSs bb) (some (f, back ρ1 ρ2 w.2)) G1 H1 D := P1
      obtain ⟨Ga, Yy, wk, hGa, hY⟩ := RJ
      have apart : ∀ i, i ∈ w.2 → i ∉ tgs g ++ asgSs bb := fun i hi hm => by
        have h2 := List.all_eq_true.mp hcnd.2 i hi
        simp only [Bool.and_eq_true, Bool.not_eq_true'] at h2
        rcases List.mem_append.mp hm with z | z
        · have := List.contains_iff_mem.mpr z
          rw [h2.2] at this
          cases this
        · have := List.contains_iff_mem.mpr z
          rw [h2.1] at this
          cases this
      refine for_it wk (fun i σ' H' => ∃ Gi ρi, Sta X.K B Gi ρi σ' H' ∧ Nx (gHid (hidS w.2) G1) H1 Gi H' ∧ Sm (tgs g ++ asgSs bb) σ σ' ∧ forLoop step (w.1.drop i) ρi = some (f, ρ2)) ?_ ?_ ?_ ?_
      · exact ⟨_, _, S1.hid (own := []) (fun i h => by cases h), Nx.refl, Sm.refl, by rw [List.drop_zero]; exact el⟩
      · intro i σ' H' hi ⟨Gi, ρi, Si, n, _⟩
        exact hGa Gi H' n
      · intro i xv σ' H' H'' hi ⟨Gi, ρi, Si, n, m, ee⟩ hy
        obtain ⟨d, G2, hdi, mk⟩ := hY i xv Gi H' H'' n hy
        have edr : w.1.drop i = d :: w.1.drop (i + 1) := by
          rw [List.drop_eq_getElem_cons hi]
          congr 1
          exact (List.getElem?_eq_some_iff.mp hdi).2
        rw [edr] at ee
        have ee' : (match step d ρi with
          | some (.next, ρ') => forLoop step (w.1.drop (i + 1)) ρ'
          | some (.cont, ρ') => forLoop step (w.1.drop (i + 1)) ρ'
          | some (.brk, ρ') => some (.next, ρ')
          | o => o) = some (f, ρ2) := ee
        have hrep : Rep X.K B (Fz G2 H'') xv d := by
          cases mk.rep with
          | val r => exact r
        have n2 : Nx Gi H' G2 H'' := mk.nx
        cases es : step d ρi with
        | none => rw [es] at ee'; cases ee'
        | some q =>
          rw [es] at ee'
          rw [← hstep] at es
          obtain ⟨ρa, ea, es2⟩ := opS_some es
          refine ⟨G2, ρi, d, ρa, mk.sta Si, hrep, ea, fun σ2 S2 m2 => ⟨G2, ρa, S2, ?_⟩⟩
          rw [es2]
          obtain ⟨fl, ρb⟩ := q
          have mm : ∀ {σ3 : L2.St}, Sm (asgSs bb) σ2 σ3 → Sm (tgs g ++ asgSs bb) σ σ3 := fun {σ3} h => (m.trans (m2.trans h)).more fun k hk => by
            rcases List.mem_append.mp hk with z | z
            · exact z
            · exact z
          have hσ : ∀ {σ3 : L2.St}, Sm (asgSs bb) σ2 σ3 → ∀ i, i ∈ w.2 → σ3[i]? = σ[i]? := fun {σ3} h i hi => (mm h).2 i (apart i hi)
          cases fl with
          | next => exact fun G' H3 σ3 n3 S3 m3 => ⟨G', ρb, S3, (n.trans n2).trans n3, mm m3, ee'⟩
          | cont => exact fun G' H3 σ3 n3 S3 m3 => ⟨G', ρb, S3, (n.trans n2).trans n3, mm m3, ee'⟩
          | brk =>
            intro G' H3 σ3 n3 S3 m3
            have e5 := Option.some.inj ee'
            injection e5 with e6 e7
            subst e6 e7
            obtain ⟨u1, u2, u3, u4⟩ := Sta.unhid2 S1 S3 ((n.trans n2).trans n3) (hσ m3)
            exact P2 _ _ _ u1 u2 (mm m3)
          | ret t =>
            intro G' H3 σ3 v n3 S3 m3 r3
            have e5 := Option.some.inj ee'
            injection e5 with e6 e7
            subst e6 e7
            obtain ⟨u1, u2, u3, u4⟩ := Sta.unhid2 S1 S3 ((n.trans n2).trans n3) (hσ m3)
            exact P2 _ _ _ v u1 u2 (mm m3) (u3 r3)
          | err c d' =>
            intro G' H3 σ3 dx n3 S3 m3 ⟨v, r1, r2⟩
            have e5 := Option.some.inj ee'
            injection e5 with e6 e7
            subst e6 e7
            obtain ⟨u1, u2, u3, u4⟩ := Sta.unhid2 S1 S3 ((n.trans n2).trans n3) (hσ m3)
            exact P2 _ _ _ dx u1 u2 (mm m3) ⟨v, r1, r2.mono u4⟩
      · intro σ' H' ⟨Gi, ρi, Si, n, m, ee⟩
        rw [List.drop_length] at ee
        have e5 := Option.some.inj (show some (Fl.next, ρi) = some (f, ρ2) from ee)
        injection e5 with e6 e7
        subst e6 e7
        obtain ⟨u1, u2, u3, u4⟩ := Sta.unhid2 S1 Si n fun i hi => m.2 i (apart i hi)
        exact P2 _ _ _ u1 u2 m
end
end Ev
end

section
set_option linter.all false
set_option maxRecDepth 100000
set_option maxHeartbeats 8000000
/-! From the program's statements to the language's. -/
namespace Ev
open PySem L2 PySem.Spec PyProof.Rows

def never : S := .drop (.range [])
def orN : Option S → S
  | some s => s
  | none => never
def isComp : Expr → Bool
  | .ListComp _ _ _ _ => true
  | .SetComp _ _ _ _ => true
  | .DictComp _ _ _ _ _ => true
  | _ => false
def lcl (sc : Scope) (x : Str) : Bool := match sc.names.lookup x with
  | some .local => true
  | _ => false
theorem lcl_ok {sc : Scope} {x : Str} (h : lcl sc x = true) : sc.names.lookup x = some .local := by
  unfold lcl at h
  split at h
  · assumption
  · cases h
def swB (scope sc : Scope) (t : Str) (p1 p2 : Pos) : Bool := lcl sc t && p1.line == p2.line && !(scope.names.any fun (n, k) => n == t && (k == .local || k == .cell))
section
variable (T : Tab) (f : Scope → Expr → Option E) (sc : Scope)
def cApp (n : Str) (a : Str) (x : Expr) (ap cp : Pos) : Option S := if a = "append" && (nov n && visC sc n) && !isStar x && ap.endLine == cp.line then (ixN n T.N 0).bind fun i => (f sc x).bind fun e => some (.app i e) else none
def cEx (e : Expr) : Option S := match e with
  | .Call (.Attribute (.Name n _) a ap) [x] [] cp => cApp T f sc n a x ap cp
  | e => if isComp e then none else (f sc e).bind fun e => some (.drop e)
def cRt (e : Expr) : Option S := match e with
  | .Name n p => if nov n && visC sc n then (ixN n T.N 0).bind fun i => some (if T.np ≤ i then .retm i else .ret (.v i)) else (f sc (.Name n p)).bind fun e => some (.ret e)
  | e => (f sc e).bind fun e => some (.ret e)
def isLc : Expr → Bool
  | .ListComp _ _ _ _ => true
  | _ => false
theorem isLc_ok {e : Expr} (h : isLc e = true) : ∃ elt gens scope pe, e = .ListComp elt gens scope pe := by
  cases e <;> first | (cases h; done) | exact ⟨_, _, _, _, rfl⟩
def cLcX : Expr → Option E
  | .ListComp elt gens scope _ => cLcE T f sc elt gens scope
  | _ => none
def cNm (n : Str) (e : Expr) : Option S := if locC (fun _ => true) sc n then (ixN n T.N 0).bind fun i => (if isLc e then (cLcX T f sc e).bind fun a => some (.asg (.v i) a) else if isComp e then none else (f sc e).bind fun a => some (.asg (.v i) a)) else none
def cPar (n m : Str) (px py : Pos) (x y : Expr) : Option S := if !(n == m) && lcl sc n && lcl sc m && py.line == px.line && !isStar x && !isStar y && !(foldedForSure 8 x && foldedForSure 8 y) && !(constantsAlone 8 x && constantsAlone 8 y) then
    (ixN n T.N 0).bind fun i => (ixN m T.N 0).bind fun j => if i = j then none else (f sc x).bind fun a => (f sc y).bind fun b => some (.par i j a b) else none
def cTp (es : List Expr) (k : Nat) (pt : Pos) (e : Expr) : Option S := if isTupE e || isComp e then none else (cG T (fun _ => true) sc 5 (.Tuple es k pt)).bind fun g => (match g with
    | .tup l => (f sc e).bind fun a => some (.asg (.tup l) a)
    | _ => none)
def cAsg (tg e : Expr) : Option S := match tg with
  | .Name n _ => cNm T f sc n e
  | .Tuple es k pt => (match es, e with
    | [.Name n px, .Name m py], .Tuple [x, y] _ _ => cPar T f sc n m px py x y
    | es, e => cTp T f sc es k pt e)
  | .Subscript (.Name n _) k _ => if nov n && visC sc n && !isSlc k && !isComp e then (ixN n T.N 0).bind fun i => (f sc k).bind fun k => (f sc e).bind fun a => some (.setI i k a) else none
  | _ => none
def cAug (tg : Expr) (op : Operator) (e : Expr) : Option S := match op with
  | .Add => (match tg with
    | .Name n _ => if locC (fun _ => true) sc n then (ixN n T.N 0).bind fun i => (f sc e).bind fun a => some (.augN i a) else none
    | .Subscript (.Name n _) k _ => if nov n && visC sc n && !isSlc k then (ixN n T.N 0).bind fun i => (f sc k).bind fun k => (f sc e).bind fun a => some (.augI i k a) else none
    | _ => none)
  | _ => none
def cS1 (r : Stmt → S) : Stmt → Option S
  | .Pass _ => some .pass
  | .Expr e _ => cEx T f sc e
  | .Return (some e) _ => cRt T f sc e
  | .If c a b _ => (f sc c).bind fun c => some (.ite c (a.map r) (b.map r))
  | .While c a b _ => (match b with
    | [] => (f sc c).bind fun c => some (.while_ c (a.map r))
    | _ => none)
  | .For tg it a b _ => (match b with
    | [] => if isSetE it then none else (cIt f sc tg it).bind fun it => (cG T (fun _ => true) sc 5 tg).bind fun g => some (.for_ g it (a.map r))
    | _ => none)
  | .Assign tgs e _ => (match tgs with
    | [tg] => cAsg T f sc tg e
    | _ => none)
  | .AugAssign tg op e _ => cAug T f sc tg op e
  | _ => none
end
def cS (T : Tab) (f : Scope → Expr → Option E) (sc : Scope) : Nat → Stmt → S
  | 0, _ => never
  | n + 1, s => orN (cS1 T f sc (cS T f sc n) s)

structure SOk (T : Tab) (B : Cls0) (W : WX) (Y : Sys) (X : Cx) (sc : Scope) : Prop extends XOk T B W Y X sc where
  own : PassesOwn (model X.prog X.w) X.A X.env X.xe
  fn : ∀ x, X.fn x = true
  knd : X.env.scope.kind = .function
theorem SOk.kind {T : Tab} {B : Cls0} {W : WX} {Y : Sys} {X : Cx} {sc : Scope} (o : SOk T B W Y X sc) : sc.kind = .function := by rw [← o.sc]; exact o.knd
section
variable {B : Cls0} {W : WX} {X : Cx} {st : Stmt} {pos : Pos} {Y : Sys} {T : Tab} {f : Scope → Expr → Option E} {sc : Scope} {s : S}
theorem pv_of (o : XOk T B W Y X sc) {n : Str} {i : Nat} {p : Pos} (h1 : nov n = true) (h2 : visC sc n = true) (hi : ixN n T.N 0 = some i) : PE X (.Name n p) (tVar i) := by
  obtain ⟨n1, n2, n3⟩ := nov_ok h1
  exact pe_var (by rw [o.N]; exact ixN_get0 hi) (by rw [o.sc]; exact visC_ok h2) n1 n2
theorem noComp_none {e : Expr} (h : isComp e = false) (l : Nat) (env : PySem.Env) : swapsWith e none l env = pure false := by
  cases e <;> first | (cases h; done) | rfl
theorem noComp_some {e : Expr} (h : isComp e = false) (t : Expr) (l : Nat) (env : PySem.Env) : swapsWith e (some t) l env = pure false := by
  cases e <;> first | (cases h; done) | (cases t <;> rfl)
theorem tupTg {e : Expr} (es : List Expr) (k : Nat) (pt : Pos) (l : Nat) (env : PySem.Env) : swapsWithSole [.Tuple es k pt] e l env = pure false := by
  show swapsWith e (some (.Tuple es k pt)) l env = pure false
  cases e <;> rfl
theorem subTg {e : Expr} (a b : Expr) (pt : Pos) (l : Nat) (env : PySem.Env) : swapsWithSole [.Subscript a b pt] e l env = pure false := by
  show swapsWith e (some (.Subscript a b pt)) l env = pure false
  cases e <;> rfl
theorem noTup {e : Expr} (h : isTupE e = false) (tg : Expr) (env : PySem.Env) : swappedStores [tg] e env = pure none := by
  cases e <;> first | (cases h; done) | (cases tg <;> rfl)
theorem blockKind_of {env : PySem.Env} (h : env.scope.kind = .function) : env.blockKind = .function := by
  unfold Env.blockKind
  rw [h]
  rfl
theorem sw_eq {elt : Expr} {gs : List Comprehension} {scope : Scope} {p1 p2 : Pos} {t : Str} {l : Nat} {env : PySem.Env} (e : env.scope = sc) (hk : sc.kind = .function) : swapsWith (.ListComp elt gs scope p2) (some (.Name t p1)) l env = pure (swB scope sc t p1 p2) := by
  have hb : env.blockKind = .function := blockKind_of (by rw [e]; exact hk)
  have ke : env.kindOf t = sc.names.lookup t := by rw [← e]; rfl
  unfold swapsWith swB lcl
  simp only [hb, ke, Expr.pos]
  cases sc.names.lookup t with
  | none => rfl
  | some k => cases k <;> rfl
theorem sS_eq {n m : Str} {px py pt pt2 : Pos} {kt k2 : Nat} {x y : Expr} {env : PySem.Env} (e : env.scope = sc) (hk : sc.kind = .function) (h : (!(n == m) && lcl sc n && lcl sc m && py.line == px.line && !isStar x && !isStar y && !(foldedForSure 8 x && foldedForSure 8 y) && !(constantsAlone 8 x && constantsAlone 8 y)) = true) :
    swappedStores [.Tuple [.Name n px, .Name m py] kt pt] (.Tuple [x, y] k2 pt2) env = pure (some [n, m]) := by
  have hb : env.blockKind = .function := blockKind_of (by rw [e]; exact hk)
  have ke : ∀ t, env.kindOf t = sc.names.lookup t := fun t => by rw [← e]; rfl
  simp only [Bool.and_eq_true, Bool.not_eq_true', beq_eq_false_iff_ne] at h
  obtain ⟨⟨⟨⟨⟨⟨⟨h1, h2⟩, h3⟩, h4⟩, h5⟩, h6⟩, h7⟩, h8⟩ := h
  have st : ∀ z : Expr, isStar z = false → (match z with | .Starred .. => true | _ => false) = false := fun z hz => by
    cases z <;> first | (cases hz; done) | rfl
  have l2 := lcl_ok h2
  have l3 := lcl_ok h3
  have e7 : ([x, y] : List Expr).all (foldedForSure 8) = false := by
    show (foldedForSure 8 x && (foldedForSure 8 y && true)) = false
    rw [Bool.and_true]; exact h7
  have e8 : ([x, y] : List Expr).all (constantsAlone 8) = false := by
    show (constantsAlone 8 x && (constantsAlone 8 y && true)) = false
    rw [Bool.and_true]; exact h8
  have h4' : py.line = px.line := by simpa using h4
  unfold swappedStores
  have nm : (m == n) = false := by
    rw [beq_eq_false_iff_ne]
    exact fun z => h1 z.symm
  simp only [hb, e7, e8, List.any_cons, List.any_nil, st x h5, st y h6]
  simp [ke, l2, l3, h4', Expr.pos, List.eraseDups_cons, nm, h1, hb]
  intro hh
  exfalso
  rcases hh with hh | hh
  · cases x <;> first | (cases hh; done) | (cases h5; done)
  · cases y <;> first | (cases hh; done) | (cases h6; done)
theorem cEx_ok (o : SOk T B W Y X sc) (hf : FOk T B Y f) {e : Expr} (h : cEx T f sc e = some s) : SS B W Y X s (.Expr e pos) := by
  unfold cEx at h
  split at h
  · unfold cApp at h
    split at h
    case isFalse => cases h
    rename_i hc
    simp only [Bool.and_eq_true, decide_eq_true_eq, Bool.not_eq_true'] at hc
    obtain ⟨⟨⟨h1, h2⟩, h3⟩, h4⟩ := hc
    obtain ⟨i, hi, h⟩ := Option.bind_eq_some_iff.mp h
    obtain ⟨a, ha, h⟩ := Option.bind_eq_some_iff.mp h
    cases h
    subst h1
    exact ss_app (pv_of o.toXOk h2.1 h2.2 hi) (hf _ _ _ _ _ o.toXOk ha).s h3 h4
  · split at h
    · cases h
    rename_i hc
    obtain ⟨a, ha, h⟩ := Option.bind_eq_some_iff.mp h
    cases h
    exact ss_drop (hf _ _ _ _ _ o.toXOk ha).s (noComp_none (by simpa using hc) _ _)
theorem cRt_ok (o : SOk T B W Y X sc) (hf : FOk T B Y f) {e : Expr} (h : cRt T f sc e = some s) : SS B W Y X s (.Return (some e) pos) := by
  unfold cRt at h
  split at h
  · split at h
    · rename_i hc
      simp only [Bool.and_eq_true] at hc
      obtain ⟨i, hi, h⟩ := Option.bind_eq_some_iff.mp h
      cases h
      have q := pv_of (p := ‹Pos›) o.toXOk hc.1 hc.2 hi
      split
      · exact ss_retm q
      · exact ss_ret ⟨se_v q, fun k e => by cases e; exact q⟩
    · obtain ⟨a, ha, h⟩ := Option.bind_eq_some_iff.mp h
      cases h
      exact ss_ret (hf _ _ _ _ _ o.toXOk ha).s
  · obtain ⟨a, ha, h⟩ := Option.bind_eq_some_iff.mp h
    cases h
    exact ss_ret (hf _ _ _ _ _ o.toXOk ha).s
/-- name = [..] -/
theorem cLc_set (o : SOk T B W Y X sc) (hf : FOk T B Y f) {elt tg it : Expr} {ifs : List Expr} {scope : Scope} {e : E} {i : Nat} {n : Str} {p2 pe : Pos} (hi : X.N[i]? = some n) (hl : lcl sc n = true) (hsw : swapsWith (.ListComp elt [⟨tg, it, ifs, 0⟩] scope pe) (some (.Name n p2)) pos.line X.env = pure true) (h : cLc T f sc elt tg it ifs scope = some e) :
    SS B W Y X (.asg (.v i) e) (.Assign [.Name n p2] (.ListComp elt [⟨tg, it, ifs, 0⟩] scope pe) pos) := by
  unfold cLc at h
  split at h
  · cases h
  rename_i hset
  split at h
  case isFalse => cases h
  rename_i hblk
  obtain ⟨it', hit, h⟩ := Option.bind_eq_some_iff.mp h
  obtain ⟨g, hg, h⟩ := Option.bind_eq_some_iff.mp h
  obtain ⟨ifs', hifs, h⟩ := Option.bind_eq_some_iff.mp h
  obtain ⟨a, ha, h⟩ := Option.bind_eq_some_iff.mp h
  split at h
  case isFalse => cases h
  rename_i hall
  cases h
  have hb : BlkOk X.N X.env.scope scope (ownOf T scope) := by
    rw [o.N, o.sc]
    exact blkOk_by hblk
  have ho : ∀ i, i ∈ tgs g → i ∈ (ownOf T scope).map (·.2) := fun i hi => List.contains_iff_mem.mp (List.all_eq_true.mp hall i hi)
  have hy : X.env.scope.names.lookup n = some .local := by rw [o.sc]; exact lcl_ok hl
  have q := ps_setLc (X := X) (spos := pos) (te := tD X.K B WF fun ρ => evD (ev Y a ρ)) (tt := tT X.K B WF (evTs Y ifs')) (g := tG X.K B g) o.calm o.nodup hi hy hsw (cIt_ok (oc := fun i => occ i 100 a || ifs'.any (occ i 100)) o.toXOk hf hit) hb (fun s H C cl fp => (cG_ok (B := B) (X := X.blk s H scope (compEnvC scope cl C X.env) fp) (o.blk (scope := scope) s H C cl fp).calm (o.blk (scope := scope) s H C cl fp).nodup (o.blk (scope := scope) s H C cl fp).N (o.blk (scope := scope) s H C cl fp).sc (fun x h => h) hg))
    (fun s H C cl fp => cIfs_ok (o.blk s H C cl fp) hf hifs) (fun s H C cl fp => (hf _ _ _ _ _ (o.blk s H C cl fp) ha).s.d) (fold_of (by simpa using hset) _)
  exact asg_name asg_nameT q fun σ H Q z => lc_core2 ho σ H Q z
theorem cNm_ok (o : SOk T B W Y X sc) (hf : FOk T B Y f) {n : Str} {p2 : Pos} {e : Expr} (h : cNm T f sc n e = some s) : SS B W Y X s (.Assign [.Name n p2] e pos) := by
  unfold cNm at h
  split at h
  case isFalse => cases h
  rename_i hl
  obtain ⟨l1, l2⟩ := locC_ok hl
  obtain ⟨i, hi, h⟩ := Option.bind_eq_some_iff.mp h
  have hN : X.N[i]? = some n := by rw [o.N]; exact ixN_get0 hi
  have hx : Loc X.env.scope n := by rw [o.sc]; exact l1
  split at h
  · rename_i hlc
    obtain ⟨elt, gens, scope, pe, rfl⟩ := isLc_ok hlc
    obtain ⟨a, ha, h⟩ := Option.bind_eq_some_iff.mp h
    cases h
    have ha : cLcE T f sc elt gens scope = some a := ha
    unfold cLcE at ha
    split at ha
    case h_2 => cases ha
    split at ha
    case isFalse => cases ha
    rename_i hk
    subst hk
    cases hs : swB scope sc n p2 pe with
    | true =>
      have hl2 : lcl sc n = true := by
        unfold swB at hs
        simp only [Bool.and_eq_true] at hs
        exact hs.1.1
      exact cLc_set o hf hN hl2 (sw_eq (p1 := p2) (p2 := pe) (t := n) o.sc o.kind |>.trans (by rw [hs])) ha
    | false => exact ss_set o.nodup hN hx (cLc_ok o.toXOk hf ha) (sw_eq (p1 := p2) (p2 := pe) (t := n) o.sc o.kind |>.trans (by rw [hs])) (.inl (o.fn n))
  · split at h
    · cases h
    rename_i hc
    obtain ⟨a, ha, h⟩ := Option.bind_eq_some_iff.mp h
    cases h
    exact ss_set o.nodup hN hx (hf _ _ _ _ _ o.toXOk ha).s (noComp_some (by simpa using hc) _ _ _) (.inl (o.fn n))
theorem cPar_ok (o : SOk T B W Y X sc) (hf : FOk T B Y f) {n m : Str} {px py pt pt2 : Pos} {kt k2 : Nat} {x y : Expr} (h : cPar T f sc n m px py x y = some s) : SS B W Y X s (.Assign [.Tuple [.Name n px, .Name m py] kt pt] (.Tuple [x, y] k2 pt2) pos) := by
  unfold cPar at h
  split at h
  case isFalse => cases h
  rename_i hc
  obtain ⟨i, hi, h⟩ := Option.bind_eq_some_iff.mp h
  obtain ⟨j, hj, h⟩ := Option.bind_eq_some_iff.mp h
  split at h
  · cases h
  rename_i hij
  obtain ⟨a, ha, h⟩ := Option.bind_eq_some_iff.mp h
  obtain ⟨b, hb, h⟩ := Option.bind_eq_some_iff.mp h
  cases h
  have hw := sS_eq (pt := pt) (pt2 := pt2) (kt := kt) (k2 := k2) o.sc o.kind hc
  simp only [Bool.and_eq_true, Bool.not_eq_true'] at hc
  obtain ⟨⟨⟨⟨⟨⟨⟨h1, h2⟩, h3⟩, h4⟩, h5⟩, h6⟩, h7⟩, h8⟩ := hc
  exact ss_par o.calm o.nodup (by rw [o.N]; exact ixN_get0 hi) (by rw [o.N]; exact ixN_get0 hj) hij (by rw [o.sc]; exact lcl_ok h2) (by rw [o.sc]; exact lcl_ok h3) (hf _ _ _ _ _ o.toXOk ha).s (hf _ _ _ _ _ o.toXOk hb).s h5 h6 hw (tupTg _ _ _ _ _)
theorem cTp_ok (o : SOk T B W Y X sc) (hf : FOk T B Y f) {es : List Expr} {k : Nat} {pt : Pos} {e : Expr} (h : cTp T f sc es k pt e = some s) : SS B W Y X s (.Assign [.Tuple es k pt] e pos) := by
  unfold cTp at h
  split at h
  · cases h
  rename_i hc
  simp only [Bool.or_eq_true, not_or, Bool.not_eq_true] at hc
  obtain ⟨g, hg, h⟩ := Option.bind_eq_some_iff.mp h
  split at h
  case h_2 => cases h
  obtain ⟨a, ha, h⟩ := Option.bind_eq_some_iff.mp h
  cases h
  exact ss_tup (hf _ _ _ _ _ o.toXOk ha).s (cG_ok o.calm o.nodup o.N o.sc (fun x _ => o.fn x) hg) (tupTg _ _ _ _ _) (noTup hc.1 _ _) rfl
theorem cAsg_ok (o : SOk T B W Y X sc) (hf : FOk T B Y f) {tg e : Expr} (h : cAsg T f sc tg e = some s) : SS B W Y X s (.Assign [tg] e pos) := by
  unfold cAsg at h
  split at h
  · exact cNm_ok o hf h
  · split at h
    · exact cPar_ok o hf h
    · exact cTp_ok o hf h
  · split at h
    case isFalse => cases h
    rename_i hc
    simp only [Bool.and_eq_true, Bool.not_eq_true'] at hc
    obtain ⟨⟨⟨h1, h2⟩, h3⟩, h4⟩ := hc
    obtain ⟨i, hi, h⟩ := Option.bind_eq_some_iff.mp h
    obtain ⟨k, hk, h⟩ := Option.bind_eq_some_iff.mp h
    obtain ⟨a, ha, h⟩ := Option.bind_eq_some_iff.mp h
    cases h
    exact ss_setI (pv_of o.toXOk h1 h2 hi) (hf _ _ _ _ _ o.toXOk hk).s (hf _ _ _ _ _ o.toXOk ha).s (subTg _ _ _ _ _) h3
  · cases h
theorem cAug_ok (o : SOk T B W Y X sc) (hf : FOk T B Y f) {tg e : Expr} {op : Operator} (h : cAug T f sc tg op e = some s) : SS B W Y X s (.AugAssign tg op e pos) := by
  unfold cAug at h
  split at h
  case h_2 => cases h
  split at h
  · split at h
    case isFalse => cases h
    rename_i hl
    obtain ⟨l1, l2⟩ := locC_ok hl
    obtain ⟨i, hi, h⟩ := Option.bind_eq_some_iff.mp h
    obtain ⟨a, ha, h⟩ := Option.bind_eq_some_iff.mp h
    cases h
    exact ss_augN o.nodup (by rw [o.N]; exact ixN_get0 hi) (by rw [o.sc]; exact l1) (hf _ _ _ _ _ o.toXOk ha).s (.inl (o.fn _))
  · split at h
    case isFalse => cases h
    rename_i hc
    simp only [Bool.and_eq_true, Bool.not_eq_true'] at hc
    obtain ⟨⟨h1, h2⟩, h3⟩ := hc
    obtain ⟨i, hi, h⟩ := Option.bind_eq_some_iff.mp h
    obtain ⟨k, hk, h⟩ := Option.bind_eq_some_iff.mp h
    obtain ⟨a, ha, h⟩ := Option.bind_eq_some_iff.mp h
    cases h
    exact ss_augI (pv_of o.toXOk h1 h2 hi) (hf _ _ _ _ _ o.toXOk hk).s (hf _ _ _ _ _ o.toXOk ha).s h3
  · cases h
theorem map_ok {r : Stmt → S} (hr : ∀ st, SS B W Y X (r st) st) : ∀ l : List Stmt, SSs B W Y X (l.map r) l
  | [] => sss_nil
  | st :: l => sss_cons (hr st) (map_ok hr l)
theorem cS1_ok (o : SOk T B W Y X sc) (hf : FOk T B Y f) {r : Stmt → S} (hr : ∀ st, SS B W Y X (r st) st) (h : cS1 T f sc r st = some s) : SS B W Y X s st := by
  cases st with
  | Pass p => cases h; exact ss_pass
  | Expr e p => exact cEx_ok o hf h
  | Return e p =>
    cases e with
    | none => cases h
    | some e => exact cRt_ok o hf h
  | If c a b p =>
    obtain ⟨c', hc, h⟩ := Option.bind_eq_some_iff.mp (show ((f sc c).bind fun c => some (.ite c (a.map r) (b.map r))) = some s from h)
    cases h
    exact ss_ite (hf _ _ _ _ _ o.toXOk hc).t (map_ok hr a) (map_ok hr b)
  | While c a b p =>
    cases b with
    | cons _ _ => cases h
    | nil =>
      obtain ⟨c', hc, h⟩ := Option.bind_eq_some_iff.mp (show ((f sc c).bind fun c => some (.while_ c (a.map r))) = some s from h)
      cases h
      exact ss_while o.own (hf _ _ _ _ _ o.toXOk hc).t (map_ok hr a)
  | For tg it a b p =>
    cases b with
    | cons _ _ => cases h
    | nil =>
      have h' : (if isSetE it then none else (cIt f sc tg it).bind fun it => (cG T (fun _ => true) sc 5 tg).bind fun g => some (.for_ g it (a.map r))) = some s := h
      split at h'
      · cases h'
      rename_i hset
      obtain ⟨it', hit, h2⟩ := Option.bind_eq_some_iff.mp h'
      obtain ⟨g, hg, h2⟩ := Option.bind_eq_some_iff.mp h2
      cases h2
      exact ss_for o.own o.calm (cIt_ok o.toXOk hf hit) (cG_ok o.calm o.nodup o.N o.sc (fun x _ => o.fn x) hg) (map_ok hr a) (fold_of (by simpa using hset) _)
  | Assign tgs e p =>
    cases tgs with
    | nil => cases h
    | cons tg r =>
      cases r with
      | nil => exact cAsg_ok o hf h
      | cons _ _ => cases h
  | AugAssign tg op e p => exact cAug_ok o hf h
  | _ => cases h
theorem cS_ok (o : SOk T B W Y X sc) (hf : FOk T B Y f) : ∀ (n : Nat) (st : Stmt), SS B W Y X (cS T f sc n st) st
  | 0, st => ss_never
  | n + 1, st => by
    unfold cS
    cases e : cS1 T f sc (cS T f sc n) st with
    | none => exact ss_never
    | some s => exact cS1_ok o hf (cS_ok o hf n) e
end
end Ev
end

section
set_option linter.all false
set_option maxRecDepth 100000
set_option maxHeartbeats 8000000
/-! A program's defs keep the language's promises. -/
namespace Ev
open PySem L2 PySem.Spec PyProof.Rows

theorem finals_ok {as : List Nat} {ρ : Env} : ∀ {ts : List T} {k : Nat} {ts' : List T}, finals as ρ ts k = some ts' → ∀ (i : Nat) (t' : T), ts'[i]? = some t' → ∃ t, ts[i]? = some t ∧ ((∃ d, t = .val d ∧ t' = .val d) ∨ (k + i ∉ as ∧ look ρ (k + i) = some t'))
  | [], k, ts', h, i, t', hi => by
    unfold finals at h
    have e := Option.some.inj h
    subst e
    simp at hi
  | t :: r, k, ts', h, i, t', hi => by
    have own : (if as.contains k then none else (match look ρ k, finals as ρ r (k + 1) with
        | some t, some ts => some (t :: ts)
        | _, _ => none)) = some ts' → ∃ u, (t :: r)[i]? = some u ∧ ((∃ d, u = .val d ∧ t' = .val d) ∨ (k + i ∉ as ∧ look ρ (k + i) = some t')) := fun h => by
      split at h
      · cases h
      rename_i hc
      split at h
      case h_2 => cases h
      rename_i t2 ts2 e1 e2
      have e := Option.some.inj h
      subst e
      cases i with
      | zero =>
        have e3 := Option.some.inj hi
        subst e3
        refine ⟨t, rfl, .inr ⟨fun z => hc ?_, e1⟩⟩
        exact List.contains_iff_mem.mpr z
      | succ i =>
        obtain ⟨u, h1, h2⟩ := finals_ok e2 i t' hi
        refine ⟨u, h1, ?_⟩
        have ek : k + 1 + i = k + (i + 1) := by omega
        rw [ek] at h2
        exact h2
    cases t with
    | val d =>
      have h' : (finals as ρ r (k + 1)).map (T.val d :: ·) = some ts' := by
        unfold finals at h
        exact h
      cases e : finals as ρ r (k + 1) with
      | none => rw [e] at h'; cases h'
      | some ts2 =>
        rw [e] at h'
        have e2 := Option.some.inj h'
        subst e2
        cases i with
        | zero =>
          have e3 := Option.some.inj hi
          exact ⟨_, rfl, .inl ⟨d, rfl, e3.symm⟩⟩
        | succ i =>
          obtain ⟨u, h1, h2⟩ := finals_ok e i t' hi
          refine ⟨u, h1, ?_⟩
          have ek : k + 1 + i = k + (i + 1) := by omega
          rw [ek] at h2
          exact h2
    | lst l => exact own (by unfold finals at h; exact h)
    | dic a b => exact own (by unfold finals at h; exact h)
    | ins a b => exact own (by unfold finals at h; exact h)
theorem start_get {N : List Str} {vs : List V} {i : Nat} {v : V} (h : vs[i]? = some v) : (L2.start N vs)[i]? = some (some v) := by
  unfold L2.start
  have hl := (List.getElem?_eq_some_iff.mp h).1
  rw [List.getElem?_append_left (by rw [List.length_map]; exact hl), List.getElem?_map, h]
  rfl
theorem args_sta {K : PySem.W.Frag} {B : Cls0} {G : Gh} {H : Hp} {vs : List V} {ts : List T} {N : List Str} {nn : Nat} (hN : nn = N.length) (hl : vs.length = ts.length) (fr : ∀ a, H a = none → G a = .non) (A : Args K B G H vs ts) :
    Sta K B G (ts.map some ++ List.replicate (nn - ts.length) none) (L2.start N vs) H := by
  refine ⟨?_, fun i t e => ?_, fr⟩
  · unfold L2.start
    simp only [List.length_append, List.length_map, List.length_replicate]
    omega
  · have hi : ts[i]? = some t := by
      unfold look at e
      by_cases h : i < ts.length
      · rw [List.getElem?_append_left (by rw [List.length_map]; exact h), List.getElem?_map] at e
        cases q : ts[i]? with
        | none => rw [q] at e; cases e
        | some u => rw [q] at e; exact e
      · rw [List.getElem?_append_right (by rw [List.length_map]; omega)] at e
        rw [List.getElem?_replicate] at e
        split at e <;> first | (cases e; done) | skip
        rename_i q
        split at q <;> cases q
    have hv : i < vs.length := by
      have := (List.getElem?_eq_some_iff.mp hi).1
      omega
    exact ⟨vs[i], start_get (List.getElem?_eq_getElem hv), A i _ t (List.getElem?_eq_getElem hv) hi⟩
theorem args_fin {K : PySem.W.Frag} {B : Cls0} {G G' : Gh} {H H' : Hp} {vs : List V} {ts ts' : List T} {N : List Str} {ρ : Env} {σ' : L2.St} {as : List Nat} (A : Args K B G H vs ts) (n : Nx G H G' H') (S : Sta K B G' ρ σ' H') (m : Sm as (L2.start N vs) σ') (h : finals as ρ ts 0 = some ts') : Args K B G' H' vs ts' := fun j v t hv ht => by
  obtain ⟨u, h1, h2⟩ := finals_ok h j t ht
  rcases h2 with ⟨d, rfl, rfl⟩ | ⟨h2, h3⟩
  · cases A j v _ hv h1 with
    | val r => exact .val (n.rep r)
  · rw [Nat.zero_add] at h2 h3
    obtain ⟨v', hv', R⟩ := S.slot j t h3
    have e := m.2 j h2
    rw [start_get hv, hv'] at e
    have e2 := Option.some.inj (Option.some.inj e)
    subst e2
    exact R
section
variable {P : Program} {w : World} {K : PySem.W.Frag} {mg : Str → Option Value} {base : Heap} {B : Cls0} {pr : Pr}
/-- what a def needs of another -/
def Fct (P : Program) (w : World) (K : PySem.W.Frag) (mg : Str → Option Value) (base : Heap) (B : Cls0) (pr : Pr) (n : Nat) (x : Str) (f m : Nat) : Prop := ∃ (k : Nat) (fA : Addr) (fd : FuncData) (ps : List Str) (dvs : List V) (ds : List Value), FnG P w K mg base (L2.CX P w) (n + 3) fA fd ps (spF K B k (call pr n f)) ∧ mg x = some (.ref fA) ∧ PySem.W.keepIn K (.ref fA) = true ∧
  Binds K fd ps ds ∧ Vals dvs ds ∧ Reps K B (fun _ => none) dvs (pr.dfl f m) ∧ m + dvs.length = k
theorem def_ok {fA : Addr} {fd : FuncData} {x qual : Str} {params : Arguments} {body : List Stmt} {scope : Scope} {dvs : List V} {kws : List (Str × V)} {N ps : List Str} {n f m1 m2 : Nat} {T : Tab} (F : FunD K x qual params body scope dvs kws fA fd) (S : FnScope N ps scope)
    (hd : pr.ds f = ⟨ps.length, N.length, body.map (cS T (cE T m1) scope m2)⟩) (hT : T.N = N) (hblt : ∀ x, x ∈ bltNames → mg x = none) (hcs : ∀ x n, T.c x = some n → ∃ v u, mg x = some u ∧ RelV v u ∧ Rep K B (fun _ => none) v (pr.gl n))
    (hfn : ∀ x m f, T.fn x m = some f → Fct P w K mg base B pr n x f m)
    (her : ∀ x c, T.x x = some c → mg x = some (.ref (B.X c))) (hef : T.ne = true → ErrF P w K mg base B) (his : ∀ x q, T.i x = some q → IsN K mg B x q.1 q.2) : FnG P w K mg base (L2.CX P w) (n + 3 + 1) fA fd ps (spF K B ps.length (call pr (n + 1) f)) := by
  refine g_ok F S (fun vs H Q E h => h.1) fun cdv A outer s H vs Q E hgd hr ⟨hl, G, ts, r, ts', l2, fr, A0, ec, post⟩ => ?_
  generalize hY : (⟨call pr n, WW, pr.gl, pr.dfl⟩ : Sys) = Y
  have o : SOk T B (fun cls d _ H => E cls d H) Y (cxOf (L2.CX P w) P w K mg base N qual scope fA cdv A outer s H E) scope := by
    subst hY
    exact { calm := rfl, nodup := S.nd, N := hT.symm, sc := rfl, room := ⟨n, hr⟩, ers := her, erf := hef, iss := his, gd := hgd, blt := hblt, cs := hcs, fns := fun x m f h => by
              obtain ⟨k, fA, fd, ps, dvs, ds, h1, h2, h3, h4, h5, h6, h7⟩ := hfn x m f h
              exact ⟨n + 3, k, fA, fd, ps, dvs, ds, h1, hr, h2, h3, h4, h5, h6, h7⟩
            takes := takes_of rfl rfl rfl rfl, own := passes_of rfl, fn := fun _ => rfl, knd := S.kind }
  refine ⟨_, map_ok (fun st => cS_ok (B := B) o (cE_ok m1) m2 st) body, G, _, args_sta (nn := N.length) rfl l2 fr A0, ?_⟩
  generalize body.map (cS T (cE T m1) scope m2) = ss at hd ⊢
  have ec' : runDef Y (pr.ds f) ts = some (r, ts') := by rw [← hY]; exact ec
  rw [hd] at ec'
  unfold runDef at ec'
  have hlt : ts.length = ps.length := l2.symm.trans hl
  rw [if_pos (show ts.length = ps.length from hlt)] at ec'
  have ec2 : (match exSs Y ss (ts.map some ++ List.replicate (N.length - ps.length) none) with
    | some (.next, ρ) => (finals (asgSs ss) ρ ts 0).map fun ts' => (Res.ok (Ev.T.val .non), ts')
    | some (.ret t, ρ) => (finals (asgSs ss) ρ ts 0).map fun ts' => (Res.ok t, ts')
    | some (.err c e, ρ) => (finals (asgSs ss) ρ ts 0).map fun ts' => (Res.err c e, ts')
    | _ => none) = some (r, ts') := ec'
  rw [hlt]
  cases q : exSs Y ss (ts.map some ++ List.replicate (N.length - ps.length) none) with
  | none => rw [q] at ec2; cases ec2
  | some z =>
    obtain ⟨fl, ρ⟩ := z
    rw [q] at ec2
    cases fl with
    | brk => cases ec2
    | cont => cases ec2
    | next =>
      obtain ⟨ts2, h1, h2⟩ := Option.map_eq_some_iff.mp ec2
      injection h2 with h3 h4
      subst h3 h4
      exact fun G' H' σ' n' S' m' => post G' H' .non n' S'.fresh (.val .non) (args_fin A0 n' S' m' h1)
    | ret t =>
      obtain ⟨ts2, h1, h2⟩ := Option.map_eq_some_iff.mp ec2
      injection h2 with h3 h4
      subst h3 h4
      exact fun G' H' σ' v n' S' m' R => post G' H' v n' S'.fresh R (args_fin A0 n' S' m' h1)
    | err c d =>
      obtain ⟨ts2, h1, h2⟩ := Option.map_eq_some_iff.mp ec2
      injection h2 with h3 h4
      subst h3 h4
      exact fun G' H' σ' dx n' S' m' X => post G' H' dx n' S'.fresh (args_fin A0 n' S' m' h1) X
end

/-! ### a program -/
structure FD where
  d : He.DefD
  N : List Str
  ps : List Str
def dvD : He.Dv → D
  | .bl b => .bl b
  | .int i => .int i
  | .str x => .str x
  | _ => .non
def dvOk : He.Dv → Bool
  | .non => true
  | .bl _ => true
  | .int _ => true
  | .str _ => true
  | _ => false
/-- how many defaults are skipped where m are given -/
def FD.skip (d : FD) (m : Nat) : Nat := d.d.dfl.length - (d.ps.length - m)
def fnsOf : List FD → Nat → List ((Str × Nat) × Nat)
  | [], _ => []
  | d :: r, i => ((List.range (d.d.dfl.length + 1)).map fun j => ((d.d.name, d.ps.length - j), i)) ++ fnsOf r (i + 1)
def csOf : List (Str × D) → Nat → List (Str × Nat)
  | [], _ => []
  | c :: r, i => (c.1, i) :: csOf r (i + 1)
/-- the errors of a program: their classes by name, the classes that isinstance asks, whether there are any -/
structure Er where
  xs : List (Str × Nat)
  is_ : List (Str × Nat × List Nat)
  ne : Bool
/-- what is known of them -/
structure ErK (P : Program) (w : World) (K : PySem.W.Frag) (mg : Str → Option Value) (base : Heap) (B : Cls0) (es : Er) : Prop where
  er : ∀ p, p ∈ es.xs → mg p.1 = some (.ref (B.X p.2))
  ef : es.ne = true → ErrF P w K mg base B
  is_ : ∀ p, p ∈ es.is_ → IsN K mg B p.1 p.2.1 p.2.2
def er0 : Er := ⟨[], [], false⟩
theorem erK0 {P : Program} {w : World} {K : PySem.W.Frag} {mg : Str → Option Value} {base : Heap} {B : Cls0} : ErK P w K mg base B er0 := ⟨fun _ h => (nomatch h), fun h => (nomatch h), fun _ h => (nomatch h)⟩
def tabOf (fs : List FD) (cs : List (Str × D)) (es : Er) (d : FD) : Tab := ⟨d.N, d.ps.length, fnsOf fs 0, csOf cs 0, es.xs, es.is_, es.ne⟩
def compD (fs : List FD) (cs : List (Str × D)) (es : Er) (d : FD) : Def := ⟨d.ps.length, d.N.length, d.d.body.map (cS (tabOf fs cs es d) (cE (tabOf fs cs es d) 40) d.d.scope 20)⟩
def prOf (irs : List Def) (fs : List FD) (cs : List (Str × D)) : Pr where
  ds := fun i => irs.getD i ⟨0, 0, []⟩
  gl := fun n => (cs.map (·.2)).getD n .non
  dfl := fun i m => match fs[i]? with
    | some d => (d.d.dfl.drop (d.skip m)).map dvD
    | none => []
theorem find_some {α : Type} {p : α → Bool} {β : Type} {g : α → β} {l : List α} {b : β} (h : (l.find? p).map g = some b) : ∃ a, a ∈ l ∧ p a = true ∧ g a = b := by
  cases e : l.find? p with
  | none => rw [e] at h; cases h
  | some a =>
    rw [e] at h
    exact ⟨a, List.mem_of_find?_eq_some e, List.find?_some e, Option.some.inj h⟩
theorem fnsOf_mem : ∀ {fs : List FD} {i : Nat} {x : Str} {m f : Nat}, ((x, m), f) ∈ fnsOf fs i → i ≤ f ∧ ∃ d, fs[f - i]? = some d ∧ d.d.name = x ∧ ∃ j, j ≤ d.d.dfl.length ∧ m = d.ps.length - j
  | [], _, _, _, _, h => by cases h
  | d :: r, i, x, m, f, h => by
    unfold fnsOf at h
    rcases List.mem_append.mp h with h | h
    · obtain ⟨j, hj, e⟩ := List.mem_map.mp h
      have hj := List.mem_range.mp hj
      injection e with e1 e2
      injection e1 with e3 e4
      subst e2
      exact ⟨Nat.le_refl _, d, by rw [Nat.sub_self]; rfl, e3, j, by omega, e4.symm⟩
    · obtain ⟨h1, d', h2, h3⟩ := fnsOf_mem h
      refine ⟨by omega, d', ?_, h3⟩
      have e : f - i = (f - (i + 1)) + 1 := by omega
      rw [e]
      exact h2
theorem csOf_mem : ∀ {cs : List (Str × D)} {i : Nat} {x : Str} {n : Nat}, (x, n) ∈ csOf cs i → i ≤ n ∧ ∃ d, cs[n - i]? = some (x, d)
  | [], _, _, _, h => by cases h
  | c :: r, i, x, n, h => by
    unfold csOf at h
    rcases List.mem_cons.mp h with h | h
    · injection h with h1 h2
      subst h1 h2
      exact ⟨Nat.le_refl _, c.2, by rw [Nat.sub_self]; rfl⟩
    · obtain ⟨h1, d, h2⟩ := csOf_mem h
      refine ⟨by omega, d, ?_⟩
      have e : n - i = (n - (i + 1)) + 1 := by omega
      rw [e]
      exact h2
theorem dv_reps {K : PySem.W.Frag} {B : Cls0} {F : Hp} : ∀ {l : List He.Dv}, l.all dvOk = true → Reps K B F (l.map (He.Dv.v K)) (l.map dvD)
  | [], _ => .nil
  | v :: r, h => by
    simp only [List.all_cons, Bool.and_eq_true] at h
    refine .cons ?_ (dv_reps h.2)
    cases v <;> first | (cases h.1; done) | skip
    · exact .non
    · exact .bl _
    · exact .int _
    · exact .str _
/-- the facts of a program's text -/
structure PrT (fs : List FD) (cs : List (Str × D)) (es : Er) (irs : List Def) : Prop where
  ir : irs = fs.map (compD fs cs es)
  sc : ∀ d, d ∈ fs → FnScope d.N d.ps d.d.scope
  at_ : ∀ d, d ∈ fs → d.d.at_ = (d.d.name, none)
  kw : ∀ d, d ∈ fs → d.d.kwd = []
  dv : ∀ d, d ∈ fs → d.d.dfl.all dvOk = true ∧ d.d.dfl.length ≤ d.ps.length
  bnd : ∀ d, d ∈ fs → ∀ (K : PySem.W.Frag) (fd : FuncData) (j : Nat), j ≤ d.d.dfl.length → FunD K d.d.name d.d.qual d.d.params d.d.body d.d.scope (d.d.dvs K) [] (He.fAd K d.d.at_) fd → ∃ ds, Vals ((d.d.dvs K).drop (d.d.dfl.length - j)) ds ∧ Binds K fd d.ps ds
/-- the facts of its module -/
structure PrK (B : Cls0) (fs : List FD) (cs : List (Str × D)) (K : PySem.W.Frag) (mg : Str → Option Value) : Prop where
  fn : ∀ d, d ∈ fs → ∃ fd, FunD K d.d.name d.d.qual d.d.params d.d.body d.d.scope (d.d.dvs K) (d.d.kws K) (He.fAd K d.d.at_) fd
  glo : ∀ d, d ∈ fs → mg d.d.name = some (.ref (He.ga K d.d.name))
  blt : ∀ x, x ∈ bltNames → mg x = none
  cs : ∀ c, c ∈ cs → ∃ v u, mg c.1 = some u ∧ RelV v u ∧ Rep K B (fun _ => none) v c.2
theorem prog_ok {fs : List FD} {cs : List (Str × D)} {es : Er} {irs : List Def} {P : Program} {w : World} {K : PySem.W.Frag} {mg : Str → Option Value} {base : Heap} {B : Cls0} (t : PrT fs cs es irs) (k : PrK B fs cs K mg) (ek : ErK P w K mg base B es) :
    ∀ (n i : Nat) (d : FD), fs[i]? = some d → ∃ fd, FunD K d.d.name d.d.qual d.d.params d.d.body d.d.scope (d.d.dvs K) (d.d.kws K) (He.fAd K d.d.at_) fd ∧ FnG P w K mg base (L2.CX P w) (n + 3) (He.fAd K d.d.at_) fd d.ps (spF K B d.ps.length (call (prOf irs fs cs) n i)) := by
  intro n
  induction n with
  | zero =>
    intro i d hd
    obtain ⟨fd, F⟩ := k.fn d (List.mem_of_getElem? hd)
    refine ⟨fd, F, fun vs H Q E h => h.1, fun A outer s H args us vs Q E _ hr he hb hv hs => ?_⟩
    obtain ⟨_, G, ts, r, ts', _, _, _, e, _⟩ := hs
    cases e
  | succ n ih =>
    intro i d hd
    have hm := List.mem_of_getElem? hd
    obtain ⟨fd, F⟩ := k.fn d hm
    have her : ∀ x c, (tabOf fs cs es d).x x = some c → mg x = some (.ref (B.X c)) := fun x c h => by
      obtain ⟨p, h1, h2, h3⟩ := find_some h
      have h2 : p.1 = x := of_decide_eq_true h2
      have h3 : p.2 = c := h3
      rw [← h2, ← h3]
      exact ek.er p h1
    have his : ∀ x q, (tabOf fs cs es d).i x = some q → IsN K mg B x q.1 q.2 := fun x q h => by
      obtain ⟨p, h1, h2, h3⟩ := find_some h
      have h2 : p.1 = x := of_decide_eq_true h2
      have h3 : p.2 = q := h3
      rw [← h2, ← h3]
      exact ek.is_ p h1
    refine ⟨fd, F, def_ok (T := tabOf fs cs es d) (m1 := 40) (m2 := 20) F (t.sc d hm) ?_ rfl k.blt (fun x c h => ?_) (fun x m f h => ?_) her ek.ef his⟩
    · show irs.getD i ⟨0, 0, []⟩ = compD fs cs es d
      rw [t.ir, List.getD_eq_getElem?_getD, List.getElem?_map, hd]
      rfl
    · obtain ⟨p, h1, h2, h3⟩ := find_some h
      obtain ⟨y, q⟩ := p
      have h2 : y = x := of_decide_eq_true h2
      have h3 : q = c := h3
      subst h2 h3
      obtain ⟨_, dt, h4⟩ := csOf_mem h1
      rw [Nat.sub_zero] at h4
      obtain ⟨v, u, k1, k2, k3⟩ := k.cs _ (List.mem_of_getElem? h4)
      refine ⟨v, u, k1, k2, ?_⟩
      have e : (prOf irs fs cs).gl q = dt := by
        show (cs.map (·.2)).getD q .non = dt
        rw [List.getD_eq_getElem?_getD, List.getElem?_map, h4]
        rfl
      rw [e]
      exact k3
    · obtain ⟨p, h1, h2, h3⟩ := find_some h
      obtain ⟨⟨y, m'⟩, q⟩ := p
      have h2 : y = x ∧ m' = m := of_decide_eq_true h2
      obtain ⟨h2, h2'⟩ := h2
      have h3 : q = f := h3
      subst h2 h2' h3
      obtain ⟨_, d', h4, h5, j, h6, h7⟩ := fnsOf_mem h1
      rw [Nat.sub_zero] at h4
      have hm' := List.mem_of_getElem? h4
      obtain ⟨fd', F', ok'⟩ := ih q d' h4
      have ekw : d'.d.kws K = [] := by
        show d'.d.kwd.map _ = []
        rw [t.kw d' hm']
        rfl
      obtain ⟨dv1, dv2⟩ := t.dv d' hm'
      have F2 := F'
      rw [ekw] at F2
      obtain ⟨ds, b1, b2⟩ := t.bnd d' hm' K fd' j h6 F2
      have eat : He.fAd K d'.d.at_ = He.ga K d'.d.name := by rw [t.at_ d' hm']; rfl
      refine ⟨_, _, fd', d'.ps, (d'.d.dvs K).drop (d'.d.dfl.length - j), ds, ok', ?_, F'.kp, b2, b1, ?_, ?_⟩
      · rw [← h5, k.glo d' hm', eat]
      · have e1 : (prOf irs fs cs).dfl q m' = (d'.d.dfl.drop (d'.skip m')).map dvD := by
          show (match fs[q]? with
            | some d => (d.d.dfl.drop (d.skip m')).map dvD
            | none => []) = _
          rw [h4]
        have e2 : d'.skip m' = d'.d.dfl.length - j := by
          show d'.d.dfl.length - (d'.ps.length - m') = _
          omega
        rw [e1, e2]
        have e3 : (d'.d.dvs K).drop (d'.d.dfl.length - j) = (d'.d.dfl.drop (d'.d.dfl.length - j)).map (He.Dv.v K) := by
          show (d'.d.dfl.map _).drop _ = _
          rw [List.map_drop]
        rw [e3]
        refine dv_reps ?_
        rw [List.all_eq_true] at dv1 ⊢
        exact fun x hx => dv1 x (List.mem_of_mem_drop hx)
      · have e4 : (d'.d.dvs K).length = d'.d.dfl.length := List.length_map _
        rw [List.length_drop, e4]
        omega
end Ev
end

section
set_option linter.all false
set_option maxRecDepth 100000
set_option maxHeartbeats 8000000
/-! A law's statement from what the language says of it. -/
namespace Ev
open PySem L2 PySem.Spec PyProof.Rows

/-! ### the module's constants -/
def vOf : Value → V
  | .none => .non
  | .bool b => .bl b
  | .int i _ => .int i
  | .str x _ => .str x
  | .ref a => .ref a
  | _ => .non
def all2 {α β : Type} (f : α → β → Bool) : List α → List β → Bool
  | [], [] => true
  | a :: r, b :: s => f a b && all2 f r s
  | _, _ => false
def repB (K : PySem.W.Frag) : Nat → Value → D → Bool
  | 0, _, _ => false
  | n + 1, .ref a, .tup l => (match K.lookup a with
    | some ⟨.type c, none, .seq its _, _⟩ => decide (c = "tuple") && (decide (its.size ≤ sizeLine) && all2 (repB K n) its.toList l)
    | _ => false)
  | _ + 1, .none, .non => true
  | _ + 1, .bool b, .bl c => b == c
  | _ + 1, .int i _, .int j => decide (i = j)
  | _ + 1, .str x _, .str y => decide (x = y)
  | _, _, _ => false
theorem all2_ok {K : PySem.W.Frag} {B : Cls0} {F : Hp} {f : Value → D → Bool} (hf : ∀ u d, f u d = true → RelV (vOf u) u ∧ Rep K B F (vOf u) d) : ∀ {us : List Value} {ds : List D}, all2 f us ds = true → Vals (us.map vOf) us ∧ Reps K B F (us.map vOf) ds
  | [], [], _ => ⟨.nil, .nil⟩
  | [], _ :: _, h => by cases h
  | _ :: _, [], h => by cases h
  | u :: r, d :: s, h => by
    obtain ⟨h1, h2⟩ := He.ba (show (f u d && all2 f r s) = true from h)
    obtain ⟨a, b⟩ := hf u d h1
    obtain ⟨c, e⟩ := all2_ok hf h2
    exact ⟨.cons a c, .cons b e⟩
theorem repB_ok {K : PySem.W.Frag} {B : Cls0} {F : Hp} : ∀ (n : Nat) (u : Value) (d : D), repB K n u d = true → RelV (vOf u) u ∧ Rep K B F (vOf u) d
  | 0, u, d, h => by unfold repB at h; cases h
  | n + 1, u, d, h => by
    cases u with
    | none => cases d <;> first | (unfold repB at h; cases h; done) | exact ⟨rfl, .non⟩
    | bool b =>
      cases d <;> first | (unfold repB at h; cases h; done) | skip
      rename_i c
      have e : b = c := by
        unfold repB at h
        exact eq_of_beq h
      subst e
      exact ⟨rfl, .bl b⟩
    | int i t =>
      cases d <;> first | (unfold repB at h; cases h; done) | skip
      rename_i c
      have e : i = c := by
        unfold repB at h
        exact of_decide_eq_true h
      subst e
      exact ⟨⟨t, rfl⟩, .int i⟩
    | str i t =>
      cases d <;> first | (unfold repB at h; cases h; done) | skip
      rename_i c
      have e : i = c := by
        unfold repB at h
        exact of_decide_eq_true h
      subst e
      exact ⟨⟨t, rfl⟩, .str i⟩
    | ref a =>
      cases d <;> first | (unfold repB at h; cases h; done) | skip
      rename_i l
      have h' : (match K.lookup a with
        | some ⟨.type c, none, .seq its _, _⟩ => decide (c = "tuple") && (decide (its.size ≤ sizeLine) && all2 (repB K n) its.toList l)
        | _ => false) = true := by
        unfold repB at h
        exact h
      cases q : K.lookup a with
      | none => rw [q] at h'; cases h'
      | some o =>
        obtain ⟨oc, od, dt, osl⟩ := o
        rw [q] at h'
        cases od with
        | some dd => cases oc <;> cases dt <;> cases h'
        | none =>
          cases oc with
          | type c =>
            cases dt with
            | seq its m =>
              obtain ⟨h1, h2⟩ := He.ba (show (decide (c = "tuple") && (decide (its.size ≤ sizeLine) && all2 (repB K n) its.toList l)) = true from h')
              obtain ⟨h3, h4⟩ := He.ba h2
              obtain ⟨r1, r2⟩ := all2_ok (repB_ok (F := F) (B := B) n) h4
              exact ⟨rfl, .tup (.inr ⟨_, its, m, q, congrArg Value.type (of_decide_eq_true h1), rfl, rfl, of_decide_eq_true h3, r1⟩) r2⟩
            | _ => cases h'
          | _ => cases dt <;> cases h'
    | _ => cases d <;> (unfold repB at h; cases h)
/-- the constants stand in the module -/
def exB (cs : List (Str × D)) (K : PySem.W.Frag) : Bool := cs.all fun c => match PySem.W.nsIn K mainGlobals c.1 with
  | some (some u) => repB K 9 u c.2
  | _ => false
theorem exB_ok {cs : List (Str × D)} {K : PySem.W.Frag} {h : Heap} {mg : Str → Option Value} {B : Cls0} (X : K.In h) (G : h.Ns mainGlobals mg) (e : exB cs K = true) : ∀ c, c ∈ cs → ∃ v u, mg c.1 = some u ∧ RelV v u ∧ Rep K B (fun _ => none) v c.2 := fun c hc => by
  have e1 := List.all_eq_true.mp e c hc
  cases q : PySem.W.nsIn K mainGlobals c.1 with
  | none => rw [q] at e1; cases e1
  | some o =>
    rw [q] at e1
    cases o with
    | none => cases e1
    | some u =>
      obtain ⟨h1, h2⟩ := repB_ok (F := fun _ => none) (B := B) 9 u c.2 e1
      exact ⟨vOf u, u, PySem.W.mg_of X G q, h1, h2⟩
/-- the facts wanted of the module -/
def faOf (fs : List FD) : List He.Fa := fs.map (fun d => He.Fa.glo d.d.name) ++ bltNames.map He.Fa.free
theorem prK_of {ex : PySem.W.Frag → Bool} {fs : List FD} {cs : List (Str × D)} {es : Er} {irs : List Def} {K : PySem.W.Frag} {h : Heap} {mg : Str → Option Value} {w : World} (B : Cls0) (t : PrT fs cs es irs) (X : K.In h) (G : h.Ns mainGlobals mg) (c : He.SaysX (faOf fs) (fs.map (·.d)) [] [] ex w h K) (hx : exB cs K = true) : PrK B fs cs K mg where
  fn := fun d hd => c.t.d.defs (List.mem_map.mpr ⟨d, hd, rfl⟩)
  glo := fun d hd => He.glo_ok X G (c.t.d.facts (List.mem_append_left _ (List.mem_map.mpr ⟨d, hd, rfl⟩)))
  blt := fun x hx => He.free_ok X G (c.t.d.facts (List.mem_append_right _ (List.mem_map.mpr ⟨x, hx, rfl⟩)))
  cs := exB_ok X G hx
/-- what the law's def promises where the language says True -/
theorem law_sp {K : PySem.W.Frag} {B : Cls0} {Γ : List T → Option (Res T × List T)} {H : Hp} {a : Addr} {ns : List Int} {ts' : List T} (hS : SqL K H a (ns.map V.int)) (e : Γ [.val (.scr ns)] = some (.ok (.val (.bl true)), ts')) : spF K B 1 Γ [.ref a] H (fun v _ => v = .bl true) fun _ _ _ => False := by
  have hz : Fz (fun b => match H b with | none => Own.non | some _ => Own.frz) H = H := by
    funext b
    unfold Fz
    cases q : H b with
    | none => simp only [q]
    | some o => simp only [q]
  refine ⟨rfl, fun b => match H b with | none => Own.non | some _ => Own.frz, [.val (.scr ns)], _, ts', rfl, fun b hb => by simp only [hb], fun j v t hv ht => ?_, e, fun G' H' v _ _ R _ => ?_⟩
  · cases j with
    | zero =>
      have e1 := Option.some.inj hv
      have e2 := Option.some.inj ht
      subst e1 e2
      refine .val ?_
      rw [hz]
      exact .scr hS
    | succ j => simp at hv
  · cases R with
    | val r =>
      cases r
      rfl
theorem funD_one {K : PySem.W.Frag} {x qual x' qual' : Str} {params params' : Arguments} {body body' : List Stmt} {scope scope' : Scope} {dvs dvs' : List V} {kws kws' : List (Str × V)} {f : Addr} {fd fd' : FuncData} (F : FunD K x qual params body scope dvs kws f fd) (F' : FunD K x' qual' params' body' scope' dvs' kws' f fd') : fd = fd' := by
  obtain ⟨_, _, _, _, _, _, _, _, _, _, _, h1, _, _, _⟩ := F.ex
  obtain ⟨_, _, _, _, _, _, _, _, _, _, _, h2, _, _, _⟩ := F'.ex
  rw [h1] at h2
  have e := Option.some.inj h2
  injection e with e1 e2 e3 e4
  injection e3
theorem law_at {ex : PySem.W.Frag → Bool} {l : PySem.W.OpenLaw} {w : World} {fs : List FD} {cs : List (Str × D)} {es : Er} {irs : List Def} {K : PySem.W.Frag} {h : Heap} {mg : Str → Option Value} {fa : Addr} {n i : Nat} {d : FD} {x : Str} (B : Cls0) (t : PrT fs cs es irs) (X : K.In h) (G : h.Ns mainGlobals mg) (c : He.SaysX (faOf fs) (fs.map (·.d)) [] [] ex w h K) (hx : exB cs K = true) (hd : fs[i]? = some d) (hps : d.ps = [x]) (hmg : mg d.d.name = some (.ref fa))
    (hbA : ∀ (K : PySem.W.Frag) (fd : FuncData), FunD K d.d.name d.d.qual d.d.params d.d.body d.d.scope (d.d.dvs K) (d.d.kws K) (He.fAd K d.d.at_) fd → ∀ (s : Shared) (u : Value), BindsTo s fd ⟨[u], []⟩ [(x, u)])
    (hek : ∀ base : Heap, K.In base → base.Ns mainGlobals mg → ErK l.prog w K mg base B es)
    (hm : ∀ ns : List Int, ns.length ≤ 63 → (∀ z ∈ ns, Builtin.Int.intBits z ≤ 1048576) → ∃ ts', call (prOf irs fs cs) n i [.val (.scr ns)] = some (.ok (.val (.bl true)), ts')) : LawG l w K (L2.CX l.prog w) (n + 3) 63 x mg fa h := by
  have k := prK_of B t X G c hx
  have hmem := List.mem_of_getElem? hd
  obtain ⟨fd, F⟩ := k.fn d hmem
  have ef : He.fAd K d.d.at_ = fa := by
    have e1 := k.glo d hmem
    rw [hmg] at e1
    have e2 := Option.some.inj e1
    injection e2 with e3
    rw [t.at_ d hmem, e3]
    rfl
  refine ⟨fd, [], spF K B 1 (call (prOf irs fs cs) n i), ⟨fun p hp => (by cases hp), fun p hp => (by cases hp), fun p hp => (by cases hp)⟩, hbA K fd F, fun H a ns h1 h2 _ hS => ?_, fun base kb nb _ => ?_⟩
  · obtain ⟨ts', e⟩ := hm ns h1 h2
    exact law_sp hS e
  · obtain ⟨fd', F', ok⟩ := prog_ok (P := l.prog) (w := w) (base := base) t k (hek base kb nb) n i d hd
    have e := funD_one F F'
    subst e
    rw [ef, hps] at ok
    exact ok
theorem cx_none {P : PySem.Program} {w : World} (H : Hp) (s : Shared) (e : Value) (s' : Shared) : L2.CX P w [] H s (fun _ _ _ => False) e s' → False := fun ⟨_, _, _, _, _, _, _, _, _, _, _, _, h⟩ => h
end Ev
end

section
set_option linter.all false
set_option maxRecDepth 100000
set_option maxHeartbeats 4000000
/-! The facts of a program's error classes, by the kernel. -/
namespace Ev
open PySem L2 PySem.Spec PyProof.Rows
def bmVE : List Value := [.type "ValueError", .type "Exception", .type "BaseException", .type "object"]
/-- the class object of an error over ValueError -/
def clB (K : PySem.W.Frag) (C : Addr) : Bool := match K.lookup C with
  | some ⟨.type t, _, .cls cd, sl⟩ => decide (t = "type") && (match cd.mro, sl.toList with
    | .ref C' :: bm, [_, _, _, _, some (.builtin n), _] => decide (C' = C) && (decide (n = "ValueError.__new__") && (!cd.hasDel && (cd.hasDict && PySem.HandSPX.refsVE bm)))
    | _, _ => false)
  | _ => false
theorem clB_ok {K : PySem.W.Frag} {C : Addr} (h : clB K C = true) : ∃ nm q N bs bm sn sub ab col dd k0 k1 k2 k3 k5, K.lookup C = some (excClassObj nm q C N bs bm true sn sub ab col dd k0 k1 k2 k3 k5 "ValueError.__new__") ∧ PySem.HandSPX.refsVE bm = true := by
  unfold clB at h
  split at h
  case h_2 => cases h
  rename_i t dd cd sl e
  obtain ⟨h1, g⟩ := Bool.and_eq_true_iff.mp h
  clear h
  have h1 := of_decide_eq_true h1
  subst h1
  split at g
  case h_2 => cases g
  rename_i C' bm k0 k1 k2 k3 n k5 em es
  obtain ⟨a1, g1⟩ := Bool.and_eq_true_iff.mp g
  obtain ⟨a2, g2⟩ := Bool.and_eq_true_iff.mp g1
  obtain ⟨a3, g3⟩ := Bool.and_eq_true_iff.mp g2
  obtain ⟨a4, a5⟩ := Bool.and_eq_true_iff.mp g3
  have a1 := of_decide_eq_true a1
  have a2 := of_decide_eq_true a2
  subst a1 a2
  obtain ⟨nm, bs, mro, ns, qn, hd, sn, sb, ab, col, del⟩ := cd
  simp only [Bool.not_eq_true'] at a3
  dsimp only at em a3 a4
  subst em a3 a4
  obtain ⟨l⟩ := sl
  simp only at es
  subst es
  exact ⟨nm, qn, ns, bs, bm, sn, sb, ab, col, dd, k0, k1, k2, k3, k5, e, a5⟩
def oxB (K : PySem.W.Frag) (C : Addr) : Bool := clB K C && (decide (PySem.W.findIn K (.ref C) "__setattr__" = some (some (.builtin "object.__setattr__"))) && (decide (PySem.W.subIn K (.ref C) (.type "BaseException") = some true) && (decide (PySem.W.typeIn K (.ref C) = some (.type "type")) && PySem.W.keepIn K (.ref C))))
theorem oxB_ok {K : PySem.W.Frag} {C : Addr} (h : oxB K C = true) : OexC K C := by
  obtain ⟨h1, h⟩ := Bool.and_eq_true_iff.mp h
  obtain ⟨h2, h⟩ := Bool.and_eq_true_iff.mp h
  obtain ⟨h3, h⟩ := Bool.and_eq_true_iff.mp h
  obtain ⟨h4, h5⟩ := Bool.and_eq_true_iff.mp h
  exact ⟨clB_ok h1, of_decide_eq_true h2, of_decide_eq_true h3, of_decide_eq_true h4, h5⟩
def askB (K : PySem.W.Frag) (D C : Addr) : Bool := oxB K C && (decide (PySem.W.ks_superIn K C D "__init__" = some (some (.builtin "ValueError.__init__"))) && (decide (PySem.W.subIn K (.ref C) (.type "ValueError") = some true) && (decide (PySem.W.mroIn K C (.ref D) = some true) && (PySem.W.excInitIn K C bmVE "ValueError.__new__" && decide (PySem.W.findIn K (.ref C) "value" = some none)))))
theorem askB_ok {K : PySem.W.Frag} {D C : Addr} (h : askB K D C = true) : AskC K D C := by
  obtain ⟨h1, h⟩ := Bool.and_eq_true_iff.mp h
  obtain ⟨h2, h⟩ := Bool.and_eq_true_iff.mp h
  obtain ⟨h3, h⟩ := Bool.and_eq_true_iff.mp h
  obtain ⟨h4, h⟩ := Bool.and_eq_true_iff.mp h
  obtain ⟨h5, h6⟩ := Bool.and_eq_true_iff.mp h
  exact ⟨oxB_ok h1, of_decide_eq_true h2, of_decide_eq_true h3, of_decide_eq_true h4, h5, of_decide_eq_true h6⟩
def isB (K : PySem.W.Frag) (C : Addr) : Bool := decide (PySem.W.findIn K (.ref C) "__getattribute__" = some (some (.builtin "BaseException.__getattribute__"))) && (decide (PySem.W.findIn K (.ref C) "__getattr__" = some none) && (decide (PySem.W.subIn K (.ref C) (.type "BaseException") = some true) && (PySem.W.hasDictIn K C && (decide (PySem.W.findIn K (.ref C) "__class__" = some (some (.builtin "object.__class__"))) &&
  (decide (PySem.W.specialIn K (.builtin "object.__class__") "__get__" = some (some (.builtin "getset_descriptor.__get__"))) && (decide (PySem.W.takesIn K (.builtin "object.__class__") = some true) && decide (PySem.W.mroIn K C (.type "object") = some true)))))))
theorem isB_ok {K : PySem.W.Frag} {C : Addr} (h : isB K C = true) : ExcC K C := by
  obtain ⟨h1, h⟩ := Bool.and_eq_true_iff.mp h
  obtain ⟨h2, h⟩ := Bool.and_eq_true_iff.mp h
  obtain ⟨h3, h⟩ := Bool.and_eq_true_iff.mp h
  obtain ⟨h4, h⟩ := Bool.and_eq_true_iff.mp h
  obtain ⟨h5, h⟩ := Bool.and_eq_true_iff.mp h
  obtain ⟨h6, h⟩ := Bool.and_eq_true_iff.mp h
  obtain ⟨h7, h8⟩ := Bool.and_eq_true_iff.mp h
  exact ⟨of_decide_eq_true h1, of_decide_eq_true h2, of_decide_eq_true h3, h4, of_decide_eq_true h5, of_decide_eq_true h6, of_decide_eq_true h7, of_decide_eq_true h8⟩
/-- all of one class -/
def xcB (K : PySem.W.Frag) (D f C : Addr) : Bool := askB K D C && (xfB K C && (isB K C && (decide (PySem.W.findIn K (.ref C) "__init__" = some (some (.ref f))) && decide (PySem.W.typeIn K (.ref f) = some (.type "function")))))
theorem xcB_ok {K : PySem.W.Frag} {D f C : Addr} (h : xcB K D f C = true) : XC K D f C := by
  obtain ⟨h1, h⟩ := Bool.and_eq_true_iff.mp h
  obtain ⟨h2, h⟩ := Bool.and_eq_true_iff.mp h
  obtain ⟨h3, h⟩ := Bool.and_eq_true_iff.mp h
  obtain ⟨h4, h5⟩ := Bool.and_eq_true_iff.mp h
  exact ⟨askB_ok h1, xfB_ok h2, isB_ok h3, of_decide_eq_true h4, of_decide_eq_true h5⟩
/-- the addresses of the error classes: the first is AskError's -/
def addrX (K : PySem.W.Frag) (ns : List Str) (c : Nat) : Addr := He.ga K (ns.getD c (ns.headD ""))
theorem xcs_ok {K : PySem.W.Frag} {D f : Addr} {ns : List Str} (h0 : ns ≠ []) (h : ns.all (fun n => xcB K D f (He.ga K n)) = true) (c : Nat) : XC K D f (addrX K ns c) := by
  refine xcB_ok ?_
  have e := List.all_eq_true.mp h
  refine e _ ?_
  by_cases hc : c < ns.length
  · rw [List.getD_eq_getElem?_getD, List.getElem?_eq_getElem hc]
    exact List.getElem_mem _
  · rw [List.getD_eq_getElem?_getD, List.getElem?_eq_none (by omega)]
    cases ns with
    | nil => exact absurd rfl h0
    | cons a r => exact List.mem_cons_self
/-- what isinstance asks of the class cv -/
def isfB (K : PySem.W.Frag) (ns : List Str) (n : Nat) (cs : List Nat) (cv : Value) : Bool := ((List.range n).all fun c => isB K (addrX K ns c) && decide (PySem.W.kitOne K (.ref (addrX K ns c)) cv = some (cs.contains c))) && ((List.range 6).all fun k => decide (PySem.W.kitOne K (.type (tyN k)) cv = some false))
theorem isfB_ok {K : PySem.W.Frag} {B : Cls0} {ns : List Str} {n : Nat} {cs : List Nat} {cv : Value} (hB : B.X = addrX K ns) (h : isfB K ns n cs cv = true) : IsF K B n cs cv := by
  obtain ⟨h1, h2⟩ := Bool.and_eq_true_iff.mp h
  refine ⟨fun c hc => ?_, fun k hk => ?_⟩
  · obtain ⟨a, b⟩ := Bool.and_eq_true_iff.mp (List.all_eq_true.mp h1 c (List.mem_range.mpr hc))
    rw [hB]
    exact ⟨isB_ok a, of_decide_eq_true b⟩
  · exact of_decide_eq_true (List.all_eq_true.mp h2 k (List.mem_range.mpr (by omega)))
def sysB (K : PySem.W.Frag) : Bool := match K.lookup sysModules with
  | some ⟨.type t, _, _, _⟩ => decide (t = "dict")
  | _ => false
theorem sysB_ok {K : PySem.W.Frag} (h : sysB K = true) : SysD K := by
  unfold sysB at h
  split at h
  · rename_i t d dt sl e
    exact ⟨_, e, congrArg Value.type (of_decide_eq_true h)⟩
  · cases h
end Ev
end

section
set_option linter.all false
set_option maxRecDepth 100000
set_option maxHeartbeats 4000000
/-! The error's __init__, as it stands in the written part. -/
namespace Ev
open PySem L2 PySem.Spec PyProof.Rows
def bodyB : FuncBody → Bool
  | .stmts [.Expr (.Call (.Attribute (.Call (.Name s1 _) [] [] _) s2 ap) [.Name s3 _] [] cp) _, .Assign [.Attribute (.Name s4 _) s5 _] (.Name s6 _) _] =>
    (decide (s1 = "super") && (decide (s2 = "__init__") && (decide (s3 = "value") && (decide (s4 = "self") && (decide (s5 = "value") && decide (s6 = "value")))))) && (ap.endLine == cp.line)
  | _ => false
theorem bodyB_ok {b : FuncBody} (h : bodyB b = true) : ∃ p0 p1 ap p2 cp p3 p4 p5 p6 p7, b = .stmts (askBody p0 p1 ap p2 cp p3 p4 p5 p6 p7) ∧ (ap.endLine == cp.line) = true := by
  unfold bodyB at h
  split at h
  case h_2 => cases h
  obtain ⟨h, hl⟩ := Bool.and_eq_true_iff.mp h
  simp only [Bool.and_eq_true, decide_eq_true_eq] at h
  obtain ⟨e1, e2, e3, e4, e5, e6⟩ := h
  subst e1 e2 e3 e4 e5 e6
  exact ⟨_, _, _, _, _, _, _, _, _, _, rfl, hl⟩
/-- the call of super().__init__, unfolded -/
theorem super_call {p0 p1 ap p2 cp : Pos} {env : PySem.Env} (hl : (ap.endLine == cp.line) = true) : eval (.Call (.Attribute (.Call (.Name "super" p0) [] [] p1) "__init__" ap) [.Name "value" p2] [] cp) env = (do
      let ov ← attributeBase (.Call (.Name "super" p0) [] [] p1) "__init__" env (eval (.Call (.Name "super" p0) [] [] p1) env)
      standAt ap.atName
      let (g, first) ← holding [ov] (getMethod ov "__init__" (L2.plainOf (.Call (.Name "super" p0) [] [] p1) env))
      callWith cp g first (backTo cp (starEach [.Name "value" p2] env)) []) := by
  rw [arm_eval_Call]
  congr 1
  funext ov
  congr 1
  funext _
  exact L2.mcall_line (by rfl) hl
def scB (sc : Scope) : Bool := (decide (sc.names.lookup ("super" : Str) = some .globalImplicit) && (decide (sc.names.lookup ("__class__" : Str) = some .free) && (decide (sc.names.lookup ("self" : Str) = some .local) && decide (sc.names.lookup ("value" : Str) = some .local)))) &&
  (sc.names.all (fun x => decide (x.2 ≠ .cell)) && (!sc.isCoroutine && (!sc.isGenerator && decide (sc.kind = .function))))
def parB (a : Arguments) : Bool := match a with
  | ⟨[], [x, y], none, [], [], none, []⟩ => decide (x.arg = "self") && decide (y.arg = "value")
  | _ => false
theorem parB_ok {fd : FuncData} {K : PySem.W.Frag} (h : parB fd.params = true) (hd0 : fd.defaults = .none) (hk0 : fd.kwdefaults = .none) : Binds K fd ["self", "value"] [] ∧ (fd.params.posonlyargs ++ fd.params.args).head?.map (·.arg) = some ("self" : Str) := by
  obtain ⟨n1, n2, pr, n4, n5, n6, n7, n8, n9, n10, n11, n12, n13, n14, n15⟩ := fd
  dsimp only at h hd0 hk0 ⊢
  subst hd0 hk0
  unfold parB at h
  split at h
  case h_2 => cases h
  rename_i x y
  obtain ⟨h1, h2⟩ := Bool.and_eq_true_iff.mp h
  obtain ⟨x1, x2, x3⟩ := x
  obtain ⟨y1, y2, y3⟩ := y
  have h1 := of_decide_eq_true h1
  have h2 := of_decide_eq_true h2
  dsimp only at h1 h2
  subst h1 h2
  exact ⟨Binds.all fun us hl => match us, hl with | [_, _], _ => rfl, rfl⟩
def celB (K : PySem.W.Frag) (D cc : Addr) : Bool := match K.lookup cc with
  | some ⟨_, _, .cell (some (.ref d)), _⟩ => decide (d = D)
  | _ => false
def filB (P : Program) (o : Option Value) : Bool := match o with
  | some (.str file _) => (P.main.file : Str) == file
  | _ => false
def codB (P : Program) (K : PySem.W.Frag) (cda : Addr) : Bool := match K.lookup cda with
  | some ⟨_, _, .fields vs, _⟩ => filB P (vs[2]?)
  | _ => false
def cloB (P : Program) (K : PySem.W.Frag) (D : Addr) (q : Str) (cl : List (Str × Addr)) (code : Value) : Bool := match cl, code with
  | [(x, cc)], .ref cda => decide (x = "__class__") && (PySem.W.codeIn K (.ref cda) q && (celB K D cc && codB P K cda))
  | _, _ => false
theorem cloB_ok {P : Program} {K : PySem.W.Frag} {D : Addr} {q : Str} {cl : List (Str × Addr)} {code : Value} (h : cloB P K D q cl code = true) : ∃ cc cda, cl = [(("__class__" : Str), cc)] ∧ code = .ref cda ∧ PySem.W.codeIn K (.ref cda) q = true ∧ celB K D cc = true ∧ codB P K cda = true := by
  unfold cloB at h
  split at h
  case h_2 => cases h
  rename_i x cc cda
  obtain ⟨c1, c⟩ := Bool.and_eq_true_iff.mp h
  obtain ⟨c2, c'⟩ := Bool.and_eq_true_iff.mp c
  obtain ⟨c3, c4⟩ := Bool.and_eq_true_iff.mp c'
  have q4 := of_decide_eq_true c1
  subst q4
  exact ⟨cc, cda, rfl, rfl, c2, c3, c4⟩
def initB (P : Program) (K : PySem.W.Frag) (D f : Addr) : Bool := (match K.lookup f with
  | some ⟨_, _, .func fd, _⟩ => (decide (fd.name = "__init__") && (parB fd.params && (bodyB fd.body && scB fd.scope))) && (decide (fd.globals = mainGlobals) && (decide (fd.builtins = builtinsNs) && ((decide (fd.defaults = .none) && decide (fd.kwdefaults = .none)) && cloB P K D fd.qualname fd.closure fd.code)))
  | _ => false) && ((PySem.W.clsIn K D).isSome && (decide (PySem.W.nsIn K mainGlobals "super" = some none) && (!(P.main.scope.names.lookup ("super" : Str)).isSome && decide (PySem.W.nsIn K cStatics "thirdparty.any" = some none))))
theorem initB_ok {P : Program} {w : World} {K : PySem.W.Frag} {mg : Str → Option Value} {base : Heap} {CX : CXT} {D f : Addr} (h : initB P K D f = true) : ∃ fd, FnOk P w K mg base CX 1 f fd ["self", "value"] (spAsk K D) ∧ Binds K fd ["self", "value"] [] := by
  obtain ⟨h, g⟩ := Bool.and_eq_true_iff.mp h
  obtain ⟨g1, g⟩ := Bool.and_eq_true_iff.mp g
  obtain ⟨g2, g⟩ := Bool.and_eq_true_iff.mp g
  obtain ⟨g3, g4⟩ := Bool.and_eq_true_iff.mp g
  split at h
  case h_2 => cases h
  rename_i oc od fd osl e
  obtain ⟨a, b⟩ := Bool.and_eq_true_iff.mp h
  obtain ⟨a1, a⟩ := Bool.and_eq_true_iff.mp a
  obtain ⟨a2, a⟩ := Bool.and_eq_true_iff.mp a
  obtain ⟨a3, a4⟩ := Bool.and_eq_true_iff.mp a
  obtain ⟨b1, b⟩ := Bool.and_eq_true_iff.mp b
  obtain ⟨b2, b⟩ := Bool.and_eq_true_iff.mp b
  obtain ⟨b4, b3⟩ := Bool.and_eq_true_iff.mp b
  obtain ⟨b5, b6⟩ := Bool.and_eq_true_iff.mp b4
  obtain ⟨bi, hd⟩ := parB_ok (K := K) a2 (of_decide_eq_true b5) (of_decide_eq_true b6)
  have q1 := of_decide_eq_true a1
  have q2 := of_decide_eq_true b1
  have q3 := of_decide_eq_true b2
  clear h a b a1 b1 b2 b4 b5 b6 a2
  refine ⟨fd, ?_, bi⟩
  obtain ⟨n1, n2, pr, n4, n5, n6, n7, n8, n9, n10, n11, n12, n13, n14, n15⟩ := fd
  dsimp only at q1 q2 q3 a3 a4 b3 hd
  subst q1 q2 q3
  obtain ⟨p0, p1, ap, p2, cp, p3, p4, p5, p6, p7, eb, hl⟩ := bodyB_ok a3
  subst eb
  obtain ⟨cc, cda, r1, r2, c2, c3, c4⟩ := cloB_ok b3
  subst r1 r2
  have cel : ∃ cl cld csl, K.lookup cc = some ⟨cl, cld, .cell (some (.ref D)), csl⟩ := by
    unfold celB at c3
    split at c3
    · rename_i u1 u2 d u3 ek
      have ed := of_decide_eq_true c3
      subst ed
      exact ⟨_, _, _, ek⟩
    · cases c3
  have cod : ∃ ccl cdd vs ccs file tf, K.lookup cda = some ⟨ccl, cdd, .fields vs, ccs⟩ ∧ vs[2]? = some (.str file tf) ∧ ((P.main.file : Str) == file) = true := by
    unfold codB at c4
    split at c4
    · rename_i u1 u2 vs u3 ek
      unfold filB at c4
      split at c4
      · rename_i file tf ef
        exact ⟨_, _, vs, _, file, tf, ek, ef, c4⟩
      · cases c4
    · cases c4
  unfold scB at a4
  simp only [Bool.and_eq_true, decide_eq_true_eq, Bool.not_eq_true', List.all_eq_true] at a4
  obtain ⟨⟨s1, s2, s3, s4⟩, s5, s6, s7, s8⟩ := a4
  exact ask_ok ⟨⟨oc, od, osl, e⟩, c2, hd, cod, cel, g1, of_decide_eq_true g2, by simpa using g3, of_decide_eq_true g4⟩ s1 s2 s3 s4 (fun L => super_call hl) (fun x hx => s5 x hx) s6 s7 s8
end Ev
end

section
set_option linter.all false
set_option maxRecDepth 100000
set_option maxHeartbeats 4000000
/-! A program's errors: all facts. -/
namespace Ev
open PySem L2 PySem.Spec PyProof.Rows
/-- the errors by name, in order; the classes asked -/
def erOf (ns : List Str) (is_ : List (Str × Nat × List Nat)) : Er := ⟨ns.mapIdx fun i n => (n, i), is_, true⟩
def gloB (K : PySem.W.Frag) (x : Str) : Bool := decide (PySem.W.nsIn K mainGlobals x = some (some (.ref (He.ga K x))))
def isnB (K : PySem.W.Frag) (ns : List Str) (p : Str × Nat × List Nat) : Bool := (gloB K p.1 && isfB K ns p.2.1 p.2.2 (.ref (He.ga K p.1))) || (decide (p.1 = "ValueError") && (decide (PySem.W.nsIn K mainGlobals p.1 = some none) && isfB K ns p.2.1 p.2.2 (.type "ValueError")))
def errB (P : Program) (ns : List Str) (is_ : List (Str × Nat × List Nat)) (K : PySem.W.Frag) : Bool := initB P K (He.ga K (ns.headD "")) (He.ma K (He.ga K (ns.headD "")) "__init__") && (ns.all (fun n => xcB K (He.ga K (ns.headD "")) (He.ma K (He.ga K (ns.headD "")) "__init__") (He.ga K n)) && (ns.all (gloB K) && (sysB K && is_.all (isnB K ns))))
theorem boot_VE : bootBuiltins "ValueError" = some (.type "ValueError") := by decide +kernel
theorem erK_of {P : Program} {w : World} {K : PySem.W.Frag} {mg : Str → Option Value} {base : Heap} {B : Cls0} {ns : List Str} {is_ : List (Str × Nat × List Nat)} (X : K.In base) (G : base.Ns mainGlobals mg) (h0 : ns ≠ []) (hB : B.X = addrX K ns) (h : errB P ns is_ K = true) : ErK P w K mg base B (erOf ns is_) := by
  obtain ⟨h1, h⟩ := Bool.and_eq_true_iff.mp h
  obtain ⟨h2, h⟩ := Bool.and_eq_true_iff.mp h
  obtain ⟨h3, h⟩ := Bool.and_eq_true_iff.mp h
  obtain ⟨h4, h5⟩ := Bool.and_eq_true_iff.mp h
  obtain ⟨fd, F, b⟩ := initB_ok (w := w) (mg := mg) (base := base) (CX := L2.CX P w) h1
  refine ⟨fun p hp => ?_, fun _ => ⟨⟨_, _, fd, fun c => ?_, F, b⟩, sysB_ok h4⟩, fun p hp => ?_⟩
  · obtain ⟨i, hi, e⟩ := List.mem_mapIdx.mp hp
    subst e
    have g := of_decide_eq_true (List.all_eq_true.mp h3 _ (List.getElem_mem hi))
    have m := PySem.W.mg_of X G g
    show mg ns[i] = some (.ref (B.X i))
    rw [hB, m]
    unfold addrX
    rw [List.getD_eq_getElem?_getD, List.getElem?_eq_getElem hi]
    rfl
  · rw [hB]
    exact xcs_ok h0 h2 c
  · have g := List.all_eq_true.mp h5 p hp
    rcases Bool.or_eq_true_iff.mp g with g | g
    · obtain ⟨g1, g2⟩ := Bool.and_eq_true_iff.mp g
      exact ⟨.ref (He.ga K p.1), _, .own _, isfB_ok hB g2, rfl, .inl (PySem.W.mg_of X G (of_decide_eq_true g1))⟩
    · obtain ⟨g1, g⟩ := Bool.and_eq_true_iff.mp g
      obtain ⟨g2, g3⟩ := Bool.and_eq_true_iff.mp g
      refine ⟨.ty "ValueError", _, .ty _, isfB_ok hB g3, rfl, .inr ⟨PySem.W.mg_none_of X G (of_decide_eq_true g2), ?_⟩⟩
      rw [of_decide_eq_true g1]
      exact boot_VE
end Ev
end

section
set_option linter.all false
set_option maxRecDepth 100000
set_option maxHeartbeats 4000000
/-! The head's hook over more addresses: what no global leads to. -/
namespace Ev
open PySem L2 PySem.Spec PyProof.Rows
/-- the addresses looked at: two more -/
def asY (g : Addr → Option Obj) (n : Nat) : List Addr := sysModules :: cStatics :: He.asD g n
abbrev frY (g : Addr → Option Obj) (n : Nat) : PySem.W.Frag := He.frT g (asY g n)
def obsY (n : Nat) (fa : List He.Fa) (fn : List He.DefD) (ex : PySem.W.Frag → Bool) (g : Addr → Option Obj) : He.AlX := (He.obsT fa fn [] (frY g n), ex (frY g n))
theorem saysY_of {n : Nat} {fa : List He.Fa} {fn : List He.DefD} {ex : PySem.W.Frag → Bool} {w : World} {h : Heap} (e : obsY n fa fn ex h.get? = He.valX fn [] w) : He.SaysX fa fn [] [] ex w h (frY h.get? n) where
  t := congrArg (fun z : He.AlX => z.1) e
  more := congrArg (fun z : He.AlX => z.2) e
  hd := fun _ h => nomatch h
  out := fun _ h => nomatch h
  empty := fun _ h => nomatch h
def hookY (n : Nat) (fa : List He.Fa) (fn : List He.DefD) (ex : PySem.W.Frag → Bool) : PySem.W.Hook where
  α := He.AlX
  obs := fun s => obsY n fa fn ex s.heap.get?
  val := fun w => He.valX fn [] w
  says := fun w h => ∃ K : PySem.W.Frag, K.In h ∧ He.SaysX fa fn [] [] ex w h K
  of := fun _ _ e => ⟨_, He.frT_in, saysY_of e⟩
  keeps := fun _ _ _ ⟨K, i, c⟩ k => ⟨K, PySem.W.Frag.In.keeps i k, ⟨c.t, c.more, c.hd, c.out, fun p hp => nomatch hp⟩⟩
theorem obsY_eq {n : Nat} {fa : List He.Fa} {fn : List He.DefD} {ex : PySem.W.Frag → Bool} {g : Addr → Option Obj} {s : Shared} (h : ∀ a, g a = s.heap.get? a) : obsY n fa fn ex g = (hookY n fa fn ex).obs s := by
  cases (funext h : g = s.heap.get?)
  rfl
end Ev
end

section
set_option linter.all false
set_option maxRecDepth 100000
set_option maxHeartbeats 4000000
/-! The take of the laws. -/
namespace Ev
open PySem
def takeDef : Def := ⟨2, 5, [.ite (.cmp .gt (.sub (.v 0) (.c (.int 0))) (.c (.int 0))) [.asg (.v 4) (.bin .mod (.blt .int [(.sub (.v 0) (.c (.int 0)))]) (.v 1)),
    .setI 0 (.c (.int 0)) (.bin .fdiv (.sub (.v 0) (.c (.int 0))) (.v 1)),
    .retm 4] [],
    .setI 0 (.c (.int 2)) (.bin .add (.sub (.v 0) (.c (.int 2))) (.c (.int 1))),
    .asg (.v 2) (.sub (.lst [(.c (.int 2147483647)), (.c (.int 2147483629)), (.c (.int 2147483587)), (.c (.int 2147483579)), (.c (.int 2147483563))]) (.bin .mod (.blt .int [(.sub (.v 0) (.c (.int 2)))]) (.c (.int 5)))),
    .asg (.v 3) (.bin .mod (.blt .int [(.bin .pow (.blt .int [(.bin .add (.bin .add (.sub (.v 0) (.c (.int 1))) (.bin .mul (.bin .mul (.c (.int 98809)) (.sub (.v 0) (.c (.int 2)))) (.sub (.v 0) (.c (.int 2))))) (.c (.int 91)))]) (.c (.int 3)))]) (.v 2)),
    .asg (.v 3) (.bin .mod (.blt .int [(.bin .mul (.v 3) (.bin .add (.bin .mod (.blt .int [(.v 3)]) (.c (.int 10513))) (.bin .mul (.c (.int 187)) (.sub (.v 0) (.c (.int 2))))))]) (.c (.int 2305843009213693907))),
    .ret (.bin .mod (.blt .int [(.bin .fdiv (.v 3) (.c (.int 167)))]) (.v 1))]⟩
theorem take_big (Y : Sys) {a b c u : Int} (ha : 0 < a) (hu : 0 < u) (hd : Builtin.divisionGoesByPylong a u = false) : runDef Y takeDef [.lst [.int a, .int b, .int c], .val (.int u)] = some (.ok (.val (.int (a.fmod u))), [.lst [.int (a.fdiv u), .int b, .int c], .val (.int u)]) := by
  have hu' : u ≠ 0 := by omega
  simp [runDef, takeDef, exSs, exS, evT, ev, evPl, evPls, evArg, evD, truT, look, rd, bnd, ret, opt, xs, opS, frz, frzs, subD, L2.atI, L2.ixN, cmpD, ints2, binD, bltD, truD, asgT, setAt, finals, asgSs, asgS, tgs, ha, hu, hd, hu']
open Builtin.Int in
theorem mul_ok {x y : Int} (hx : intBits x ≤ 4000) (hy : intBits y ≤ 4000) : mulOk x y = true := by
  have h : intTooBig ((intBits x : Nat) + (intBits y : Nat) : Int) = false := by
    unfold intTooBig
    refine decide_eq_false ?_
    have e : (8000 : Int) ≤ (bitsLine : Nat) := by decide
    omega
  unfold mulOk
  rw [h]
  simp
open Builtin.Int in
theorem div_ok {x y : Int} (hx : intBits x ≤ 4500) : Builtin.divisionGoesByPylong x y = false := by
  have h : (if x == 0 then 0 else x.natAbs.log2 / 30 + 1) ≤ 151 := by
    unfold intBits at hx
    split
    · omega
    · rename_i hz
      rw [if_neg hz] at hx
      omega
  have e : Builtin.divisionGoesByPylong x y = (decide ((if y == 0 then 0 else y.natAbs.log2 / 30 + 1) > 300) && decide ((if x == 0 then 0 else x.natAbs.log2 / 30 + 1) > (if y == 0 then 0 else y.natAbs.log2 / 30 + 1) + 150)) := rfl
  rw [e]
  generalize (if x == 0 then 0 else x.natAbs.log2 / 30 + 1) = dx at h
  generalize (if y == 0 then 0 else y.natAbs.log2 / 30 + 1) = dy
  by_cases h1 : dy > 300
  · rw [decide_eq_false (show ¬ dx > dy + 150 by omega), Bool.and_false]
  · rw [decide_eq_false h1, Bool.false_and]
theorem bits_of {x : Int} {m : Nat} (h : x.natAbs < 2 ^ m) : Builtin.Int.intBits x ≤ m := PySem.intBits_le_iff.mpr h
theorem fmod_lt {a u : Int} (hu : 0 < u) : 0 ≤ a.fmod u ∧ a.fmod u < u := ⟨Int.fmod_nonneg_of_pos a hu, Int.fmod_lt_of_pos a hu⟩
theorem take_small (Y : Sys) {a b c u : Int} (ha : a ≤ 0) (hb : 0 ≤ b ∧ b < 2 ^ 62) (hc : 0 ≤ c ∧ c < 2 ^ 40) (hu : 0 < u) : ∃ r, runDef Y takeDef [.lst [.int a, .int b, .int c], .val (.int u)] = some (.ok (.val (.int r)), [.lst [.int a, .int b, .int (c + 1)], .val (.int u)]) ∧ 0 ≤ r ∧ r < u := by
  have hu' : u ≠ 0 := by omega
  have na : ¬ 0 < a := by omega
  have hk : 0 ≤ (c + 1).fmod 5 ∧ (c + 1).fmod 5 < 5 := fmod_lt (by decide)
  have bk : Builtin.Int.intBits (c + 1) ≤ 41 := bits_of (by omega)
  have bc : Builtin.Int.intBits 98809 ≤ 17 := by decide
  have b187 : Builtin.Int.intBits 187 ≤ 8 := by decide
  have b1 := PySem.intBits_mul_le bc bk
  have b2 := PySem.intBits_mul_le b1 bk
  have bb : Builtin.Int.intBits b ≤ 62 := bits_of (by omega)
  have b3 := PySem.intBits_add_le bb b2
  have b91 : Builtin.Int.intBits 91 ≤ 7 := by decide
  have b4 := PySem.intBits_add_le b3 b91
  have m1 : mulOk 98809 (c + 1) = true := mul_ok (by omega) (by omega)
  have m2 : mulOk (98809 * (c + 1)) (c + 1) = true := mul_ok (by omega) (by omega)
  have m3 : mulOk 187 (c + 1) = true := mul_ok (by omega) (by omega)
  have hpow : (Builtin.Int.intBits (b + 98809 * (c + 1) * (c + 1) + 91) : Int) * 3 ≤ 134217728 := by
    have e : max (max 62 (17 + 41 + 41) + 1) 7 + 1 = 101 := by decide
    rw [e] at b4
    omega
  generalize hx : b + 98809 * (c + 1) * (c + 1) + 91 = x at hpow
  have b5 := PySem.intBits_mul_le b187 bk
  have key : ∀ p : Int, 0 < p → p < 2 ^ 31 → mulOk ((x ^ 3).fmod p) (((x ^ 3).fmod p).fmod 10513 + 187 * (c + 1)) = true := fun p h1 h2 => by
    have q := fmod_lt (a := x ^ 3) h1
    have q2 := fmod_lt (a := (x ^ 3).fmod p) (u := 10513) (by decide)
    refine mul_ok (Nat.le_trans (bits_of (m := 31) (by omega)) (by decide)) ?_
    have w := PySem.intBits_add_le (bits_of (x := ((x ^ 3).fmod p).fmod 10513) (m := 31) (by omega)) b5
    have e : max 31 (8 + 41) + 1 = 50 := by decide
    rw [e] at w
    omega
  have fin : ∀ p : Int, 0 < p → p < 2 ^ 31 → Builtin.divisionGoesByPylong (((x ^ 3).fmod p * (((x ^ 3).fmod p).fmod 10513 + 187 * (c + 1))).fmod 2305843009213693907) 167 = false := fun p h1 h2 => by
    have q := fmod_lt (a := (x ^ 3).fmod p * (((x ^ 3).fmod p).fmod 10513 + 187 * (c + 1))) (u := 2305843009213693907) (by decide)
    exact div_ok (Nat.le_trans (bits_of (m := 62) (by omega)) (by decide))
  have cs : (c + 1).fmod 5 = 0 ∨ (c + 1).fmod 5 = 1 ∨ (c + 1).fmod 5 = 2 ∨ (c + 1).fmod 5 = 3 ∨ (c + 1).fmod 5 = 4 := by omega
  have go : ∀ (p : Int), 0 < p → p < 2 ^ 31 → subD (.lst [.int 2147483647, .int 2147483629, .int 2147483587, .int 2147483579, .int 2147483563]) (.int ((c + 1).fmod 5)) = some (.int p) → ∃ r, runDef Y takeDef [.lst [.int a, .int b, .int c], .val (.int u)] = some (.ok (.val (.int r)), [.lst [.int a, .int b, .int (c + 1)], .val (.int u)]) ∧ 0 ≤ r ∧ r < u := fun p h1 h2 hs => by
    have hp : p ≠ 0 := by omega
    refine ⟨((((x ^ 3).fmod p * (((x ^ 3).fmod p).fmod 10513 + 187 * (c + 1))).fmod 2305843009213693907).fdiv 167).fmod u, ?_, fmod_lt hu⟩
    have k1 := key p h1 h2
    have k2 := fin p h1 h2
    have s1 : subD (.lst [.int a, .int b, .int c]) (.int 0) = some (.int a) := rfl
    have s2 : subD (.lst [.int a, .int b, .int c]) (.int 2) = some (.int c) := rfl
    have s3 : subD (.lst [.int a, .int b, .int (c + 1)]) (.int 2) = some (.int (c + 1)) := rfl
    have s4 : subD (.lst [.int a, .int b, .int (c + 1)]) (.int 1) = some (.int b) := rfl
    have l5 : (5 : Nat) ≤ LL := by decide
    simp [runDef, takeDef, exSs, exS, evT, ev, evDs, evPl, evPls, evArg, evD, truT, look, rd, bnd, ret, opt, xs, opS, frz, frzs, s1, s2, s3, s4, hs, cmpD, ints2, binD, bltD, truD, asgT, setAt, L2.ixN, finals, asgSs, asgS, tgs, na, hu', hp, m1, m2, m3, hx, hpow, k1, k2, l5]
  rcases cs with e | e | e | e | e
  · exact go 2147483647 (by decide) (by decide) (by rw [e]; rfl)
  · exact go 2147483629 (by decide) (by decide) (by rw [e]; rfl)
  · exact go 2147483587 (by decide) (by decide) (by rw [e]; rfl)
  · exact go 2147483579 (by decide) (by decide) (by rw [e]; rfl)
  · exact go 2147483563 (by decide) (by decide) (by rw [e]; rfl)
/-- the take, whatever the pot -/
theorem take_ok (Y : Sys) {a b c u : Int} (ha : 0 ≤ a ∧ Builtin.Int.intBits a ≤ 1000) (hb : 0 ≤ b ∧ b < 2 ^ 62) (hc : 0 ≤ c ∧ c < 2 ^ 40) (hu : 0 < u) : ∃ r a' c', runDef Y takeDef [.lst [.int a, .int b, .int c], .val (.int u)] = some (.ok (.val (.int r)), [.lst [.int a', .int b, .int c'], .val (.int u)]) ∧ (0 ≤ r ∧ r < u) ∧ (0 ≤ a' ∧ Builtin.Int.intBits a' ≤ 1000) ∧ 0 ≤ c' ∧ c' ≤ c + 1 := by
  by_cases h : 0 < a
  · have hd : Builtin.divisionGoesByPylong a u = false := div_ok (by omega)
    exact ⟨a.fmod u, a.fdiv u, c, take_big Y h hu hd, fmod_lt hu, ⟨Int.fdiv_nonneg ha.1 (by omega), PySem.intBits_fdiv_le ha.2⟩, hc.1, by omega⟩
  · obtain ⟨r, e, q⟩ := take_small Y (a := a) (c := c) (by omega) hb hc hu
    exact ⟨r, a, c + 1, e, q, ha, by omega, by omega⟩
end Ev
end

section
set_option linter.all false
set_option maxRecDepth 100000
set_option maxHeartbeats 4000000
/-! The pot of the laws. -/
namespace Ev
open PySem
def potDef : Def := ⟨2, 5, [.asg (.v 2) (.ite (.cmp .lt (.v 1) (.blt .len [(.v 0)])) (.sub (.v 0) (.v 1)) (.bin .add (.bin .mul (.c (.int 263)) (.v 1)) (.c (.int 109)))),
    .asg (.v 3) (.bin .mul (.bin .mod (.blt .int [(.blt .abs [(.v 2)])]) (.bin .pow (.bin .pow (.c (.int 10)) (.c (.int 60))) (.c (.int 5)))) (.blt .int [(.cmp .ge (.blt .abs [(.v 2)]) (.bin .pow (.c (.int 10)) (.c (.int 18))))])),
    .asg (.v 4) (.bin .mod (.blt .int [(.v 2)]) (.c (.int 2305843009213693951))),
    .ret (.lst [(.v 3), (.bin .mod (.blt .int [(.bin .add (.bin .add (.bin .mul (.v 4) (.c (.int 74357))) (.bin .mul (.bin .mul (.c (.int 7793)) (.v 1)) (.v 1))) (.c (.int 181)))]) (.c (.int 2305843009213693921))), (.c (.int 0))])]⟩
theorem pw1 : binD .pow (.int 10) (.int 60) = some (.val (.int (10 ^ 60))) := by rfl
theorem pw2 : binD .pow (.int (10 ^ 60)) (.int 5) = some (.val (.int (10 ^ 300))) := by rfl
theorem pw3 : binD .pow (.int 10) (.int 18) = some (.val (.int (10 ^ 18))) := by rfl
theorem pot_cell (Y : Sys) {ns : List Int} {k : Nat} : ∃ x : Int, ev Y (.ite (.cmp .lt (.v 1) (.blt .len [(.v 0)])) (.sub (.v 0) (.v 1)) (.bin .add (.bin .mul (.c (.int 263)) (.v 1)) (.c (.int 109)))) [some (.val (.scr ns)), some (.val (.int k)), none, none, none] = some (.ok (.val (.int x)), [some (.val (.scr ns)), some (.val (.int k)), none, none, none]) ∨ ¬ k < 1000 := by
  by_cases hk : k < 1000
  case neg => exact ⟨0, .inr hk⟩
  have m1 : mulOk 263 k = true := mul_ok (by decide) (Nat.le_trans (bits_of (m := 10) (by omega)) (by decide))
  by_cases h : k < ns.length
  · refine ⟨ns[k], .inl ?_⟩
    have hi : L2.atI ns (k : Int) = some ns[k] := by
      unfold L2.atI L2.ixN
      rw [if_pos (by omega), if_pos (by omega)]
      simp [h]
    simp [ev, evT, evPl, evPls, evD, truT, look, rd, bnd, ret, opt, frz, subD, cmpD, ints2, bltD, truD, h, hi]
  · refine ⟨263 * k + 109, .inl ?_⟩
    have h' : ¬ (k : Int) < ns.length := by omega
    simp [ev, evT, evPl, evPls, evD, truT, look, rd, bnd, ret, opt, frz, subD, cmpD, ints2, bltD, truD, binD, h, m1]
theorem abs_nn (x : Int) : 0 ≤ (if x < 0 then -x else x) := by split <;> omega
/-- the pot -/
theorem pot_ok (Y : Sys) {ns : List Int} {k : Nat} (hk : k < 1000) : ∃ a b, runDef Y potDef [.val (.scr ns), .val (.int k)] = some (.ok (.lst [.int a, .int b, .int 0]), [.val (.scr ns), .val (.int k)]) ∧ (0 ≤ a ∧ Builtin.Int.intBits a ≤ 1000) ∧ 0 ≤ b ∧ b < 2 ^ 62 := by
  obtain ⟨x, hx | hx⟩ := pot_cell Y (ns := ns) (k := k)
  case inr => exact absurd hk hx
  have pn : (10 ^ 300 : Int) ≠ 0 := by decide
  have pp : (0 : Int) < 10 ^ 300 := by decide
  generalize hM : (10 ^ 300 : Int) = M at pn pp
  have bM : Builtin.Int.intBits M ≤ 1000 := by rw [← hM]; decide +kernel
  have pw2' : binD .pow (.int (10 ^ 60)) (.int 5) = some (.val (.int M)) := by rw [← hM]; exact pw2
  generalize hN : (10 ^ 18 : Int) = N
  have pw3' : binD .pow (.int 10) (.int 18) = some (.val (.int N)) := by rw [← hN]; exact pw3
  generalize hL : (10 ^ 60 : Int) = L at pw2'
  have pw1' : binD .pow (.int 10) (.int 60) = some (.val (.int L)) := by rw [← hL]; exact pw1
  generalize hA : (if x < 0 then -x else x) = A
  have q := fmod_lt (a := A) pp
  have bq : Builtin.Int.intBits (A.fmod M) ≤ 1000 := PySem.intBits_le_iff.mpr (Nat.lt_of_le_of_lt (show (A.fmod M).natAbs ≤ M.natAbs by omega) (PySem.intBits_le_iff.mp bM))
  have q2 := fmod_lt (a := x) (u := 2305843009213693951) (by decide)
  generalize hs : x.fmod 2305843009213693951 = s at q2
  have m1 : mulOk s 74357 = true := mul_ok (Nat.le_trans (bits_of (m := 62) (by omega)) (by decide)) (by decide)
  have m2 : mulOk 7793 k = true := mul_ok (by decide) (Nat.le_trans (bits_of (m := 10) (by omega)) (by decide))
  have m3 : mulOk (7793 * (k : Int)) k = true := mul_ok (Nat.le_trans (bits_of (m := 30) (by omega)) (by decide)) (Nat.le_trans (bits_of (m := 10) (by omega)) (by decide))
  have go : ∀ w : Int, w = 0 ∨ w = 1 → (decide (N ≤ A) = true ↔ w = 1) → ∃ a b, runDef Y potDef [.val (.scr ns), .val (.int k)] = some (.ok (.lst [.int a, .int b, .int 0]), [.val (.scr ns), .val (.int k)]) ∧ (0 ≤ a ∧ Builtin.Int.intBits a ≤ 1000) ∧ 0 ≤ b ∧ b < 2 ^ 62 := fun w hw hd => by
    have m4 : mulOk (A.fmod M) w = true := mul_ok (by omega) (by rcases hw with e | e <;> rw [e] <;> decide)
    have ew : (if N ≤ A then (1 : Int) else 0) = w := by
      rcases hw with e | e
      · rw [if_neg, e]
        intro z
        have := hd.mp (decide_eq_true z)
        omega
      · rw [if_pos, e]
        exact of_decide_eq_true (hd.mpr e)
    refine ⟨A.fmod M * w, (s * 74357 + 7793 * k * k + 181).fmod 2305843009213693921, ?_, ⟨?_, ?_⟩, ?_⟩
    · unfold runDef
      have l3 : 3 ≤ LL := by decide
      rw [if_pos (by rfl)]
      have e0 : exS Y (.asg (.v 2) (.ite (.cmp .lt (.v 1) (.blt .len [(.v 0)])) (.sub (.v 0) (.v 1)) (.bin .add (.bin .mul (.c (.int 263)) (.v 1)) (.c (.int 109))))) [some (.val (.scr ns)), some (.val (.int k)), none, none, none] = some (.next, [some (.val (.scr ns)), some (.val (.int k)), some (.val (.int x)), none, none]) := by
        unfold exS
        rw [hx]
        rfl
      have e1 : exS Y (.asg (.v 3) (.bin .mul (.bin .mod (.blt .int [(.blt .abs [(.v 2)])]) (.bin .pow (.bin .pow (.c (.int 10)) (.c (.int 60))) (.c (.int 5)))) (.blt .int [(.cmp .ge (.blt .abs [(.v 2)]) (.bin .pow (.c (.int 10)) (.c (.int 18))))]))) [some (.val (.scr ns)), some (.val (.int k)), some (.val (.int x)), none, none] = some (.next, [some (.val (.scr ns)), some (.val (.int k)), some (.val (.int x)), some (.val (.int (A.fmod M * w))), none]) := by
        have a1 : binD .mod (.int A) (.int M) = some (.val (.int (A.fmod M))) := by simp [binD, pn]
        have a2 : binD .mul (.int (A.fmod M)) (.int w) = some (.val (.int (A.fmod M * w))) := by simp [binD, m4]
        have a3 : bltD .int [.bl (decide (N ≤ A))] = some (.val (.int w)) := by
          rw [← ew]
          simp [bltD]
        have a4 : bltD .abs [.int x] = some (.val (.int A)) := by rw [← hA]; rfl
        have a5 : ∀ z, bltD .int [.int z] = some (.val (.int z)) := fun _ => rfl
        have a6 : cmpD .ge (.int A) (.int N) = some (decide (N ≤ A)) := rfl
        simp [exS, ev, evPl, evPls, evD, look, rd, bnd, ret, opt, xs, opS, frz, asgT, a1, a2, a3, a4, a5, a6, pw1', pw2', pw3']
      have e2 : exS Y (.asg (.v 4) (.bin .mod (.blt .int [(.v 2)]) (.c (.int 2305843009213693951)))) [some (.val (.scr ns)), some (.val (.int k)), some (.val (.int x)), some (.val (.int (A.fmod M * w))), none] = some (.next, [some (.val (.scr ns)), some (.val (.int k)), some (.val (.int x)), some (.val (.int (A.fmod M * w))), some (.val (.int s))]) := by
        simp [exS, ev, evPl, evPls, evD, look, rd, bnd, ret, opt, xs, opS, frz, asgT, binD, bltD, hs]
      have e3 : exS Y (.ret (.lst [(.v 3), (.bin .mod (.blt .int [(.bin .add (.bin .add (.bin .mul (.v 4) (.c (.int 74357))) (.bin .mul (.bin .mul (.c (.int 7793)) (.v 1)) (.v 1))) (.c (.int 181)))]) (.c (.int 2305843009213693921))), (.c (.int 0))])) [some (.val (.scr ns)), some (.val (.int k)), some (.val (.int x)), some (.val (.int (A.fmod M * w))), some (.val (.int s))] = some (.ret (.lst [.int (A.fmod M * w), .int ((s * 74357 + 7793 * k * k + 181).fmod 2305843009213693921), .int 0]), [some (.val (.scr ns)), some (.val (.int k)), some (.val (.int x)), some (.val (.int (A.fmod M * w))), some (.val (.int s))]) := by
        simp [exS, ev, evDs, evPl, evPls, evD, look, rd, bnd, ret, opt, xs, opS, frz, binD, bltD, m1, m2, m3, l3]
      have es : exSs Y potDef.body ([T.val (.scr ns), .val (.int k)].map some ++ List.replicate (potDef.nn - potDef.np) none) = some (.ret (.lst [.int (A.fmod M * w), .int ((s * 74357 + 7793 * k * k + 181).fmod 2305843009213693921), .int 0]), [some (.val (.scr ns)), some (.val (.int k)), some (.val (.int x)), some (.val (.int (A.fmod M * w))), some (.val (.int s))]) := by
        show exSs Y potDef.body [some (.val (.scr ns)), some (.val (.int k)), none, none, none] = _
        simp only [potDef, exSs, e0, e1, e2, e3]
      rw [es]
      rfl
    · rcases hw with e | e <;> rw [e] <;> omega
    · rcases hw with e | e <;> rw [e]
      · rw [Int.mul_zero]; decide
      · rw [Int.mul_one]; exact bq
    · have := fmod_lt (a := s * 74357 + 7793 * k * k + 181) (u := 2305843009213693921) (by decide)
      omega
  by_cases h : N ≤ A
  · exact go 1 (.inr rfl) ⟨fun _ => rfl, fun _ => decide_eq_true h⟩
  · exact go 0 (.inl rfl) ⟨fun z => absurd (of_decide_eq_true z) h, fun z => absurd z (by decide)⟩
end Ev
end

section
set_option linter.all false
set_option maxRecDepth 100000
set_option maxHeartbeats 4000000
/-! Tools for the language: loops, sizes. -/
namespace Ev
open PySem
/-! ### sizes -/
def Bd (k : Nat) (x : Int) : Prop := x.natAbs < 2 ^ k
theorem Bd.mono {k m : Nat} {x : Int} (h : Bd k x) (l : k ≤ m) : Bd m x := Nat.lt_of_lt_of_le h (Nat.pow_le_pow_right (by decide) l)
theorem Bd.neg {k : Nat} {x : Int} (h : Bd k x) : Bd k (-x) := by unfold Bd at *; rw [Int.natAbs_neg]; exact h
theorem Bd.mul {k m : Nat} {x y : Int} (h : Bd k x) (h' : Bd m y) : Bd (k + m) (x * y) := by
  unfold Bd at *
  rw [Int.natAbs_mul, Nat.pow_add]
  exact Nat.mul_lt_mul'' h h'
theorem Bd.add {k : Nat} {x y : Int} (h : Bd k x) (h' : Bd k y) : Bd (k + 1) (x + y) := by
  unfold Bd at *
  rw [Nat.pow_succ]
  have := Int.natAbs_add_le x y
  omega
theorem Bd.sub {k : Nat} {x y : Int} (h : Bd k x) (h' : Bd k y) : Bd (k + 1) (x - y) := by
  have := h.add h'.neg
  rw [← Int.sub_eq_add_neg] at this
  exact this
theorem Bd.mulOk {x y : Int} (h : Bd 4000 x) (h' : Bd 4000 y) : mulOk x y = true := mul_ok (bits_of h) (bits_of h')
theorem Bd.divOk {x y : Int} (h : Bd 4500 x) : Builtin.divisionGoesByPylong x y = false := div_ok (bits_of h)
theorem Bd.fdiv {k : Nat} {x y : Int} (h : Bd k x) : Bd k (x.fdiv y) := PySem.intBits_le_iff.mp (PySem.intBits_fdiv_le (PySem.intBits_le_iff.mpr h))
theorem bd_of {k : Nat} {x : Int} (h0 : 0 ≤ x) (h : x < 2 ^ k) : Bd k x := by
  unfold Bd
  have e : ((2 ^ k : Nat) : Int) = 2 ^ k := by simp
  omega
/-! ### while -/
theorem while_mono {c : Env → Out Bool} {b : Env → SOut} : ∀ {n m : Nat} {ρ : Env} {r : Fl × Env}, whileLoop c b n ρ = some r → n ≤ m → whileLoop c b m ρ = some r
  | 0, _, _, _, h, _ => by cases h
  | n + 1, 0, _, _, _, l => absurd l (Nat.not_succ_le_zero _)
  | n + 1, m + 1, ρ, r, h, l => by
    have l' := Nat.le_of_succ_le_succ l
    unfold whileLoop at h ⊢
    cases e : c ρ with
    | none => rw [e] at h; cases h
    | some q =>
      obtain ⟨k, ρ1⟩ := q
      rw [e] at h
      cases k with
      | err _ _ => exact h
      | ok k =>
        cases k with
        | false => exact h
        | true =>
          simp only [xs] at h ⊢
          cases e2 : b ρ1 with
          | none => rw [e2] at h; cases h
          | some q2 =>
            obtain ⟨f, ρ2⟩ := q2
            rw [e2] at h
            cases f with
            | next => exact while_mono (n := n) h l'
            | cont => exact while_mono (n := n) h l'
            | brk => exact h
            | ret t => exact h
            | err _ _ => exact h
theorem while_done {c : Env → Out Bool} {b : Env → SOut} {n : Nat} {ρ : Env} (h : c ρ = some (.ok false, ρ)) : whileLoop c b (n + 1) ρ = some (.next, ρ) := by
  unfold whileLoop
  rw [h]
  rfl
theorem while_step {c : Env → Out Bool} {b : Env → SOut} {n : Nat} {ρ ρ1 : Env} (h : c ρ = some (.ok true, ρ)) (h1 : b ρ = some (.next, ρ1)) : whileLoop c b (n + 1) ρ = whileLoop c b n ρ1 := by
  conv => lhs; unfold whileLoop
  rw [h]
  simp only [xs]
  rw [h1]
theorem gcd_loop {c : Env → Out Bool} {bd : Env → SOut} (st : Nat → Nat → Env) (hc : ∀ a b, c (st a b) = some (.ok (decide (0 < b)), st a b)) (hb : ∀ a b, 0 < b → bd (st a b) = some (.next, st b (a % b))) :
    ∀ (k a b : Nat), b ≤ a → a * b < 2 ^ k → whileLoop c bd (k + 1) (st a b) = some (.next, st (Nat.gcd a b) 0)
  | k, a, 0, _, _ => by
    rw [Nat.gcd_zero_right]
    exact while_done (hc a 0)
  | 0, a, b + 1, h, l => by
    have : 1 ≤ a * (b + 1) := Nat.mul_pos (by omega) (by omega)
    omega
  | k + 1, a, b + 1, h, l => by
    rw [while_step (hc a (b + 1)) (hb a (b + 1) (Nat.succ_pos b))]
    have hm : a % (b + 1) < b + 1 := Nat.mod_lt _ (Nat.succ_pos b)
    have e : (b + 1) * (a / (b + 1)) + a % (b + 1) = a := Nat.div_add_mod a (b + 1)
    have q1 : 1 ≤ a / (b + 1) := Nat.div_pos h (Nat.succ_pos b)
    have q2 : (b + 1) * 1 ≤ (b + 1) * (a / (b + 1)) := Nat.mul_le_mul_left _ q1
    have q3 : 2 * (a % (b + 1)) ≤ a := by omega
    have q4 : (b + 1) * (2 * (a % (b + 1))) ≤ (b + 1) * a := Nat.mul_le_mul_left _ q3
    have l2 : (b + 1) * (a % (b + 1)) < 2 ^ k := by
      have e1 : (b + 1) * (2 * (a % (b + 1))) = 2 * ((b + 1) * (a % (b + 1))) := by rw [Nat.mul_left_comm]
      have e2 : (b + 1) * a = a * (b + 1) := Nat.mul_comm _ _
      have e3 : 2 ^ (k + 1) = 2 * 2 ^ k := by rw [Nat.pow_succ, Nat.mul_comm]
      omega
    rw [gcd_loop st hc hb k (b + 1) (a % (b + 1)) (Nat.le_of_lt hm) l2]
    rw [Nat.gcd_comm a (b + 1), Nat.gcd_rec (b + 1) a, Nat.gcd_comm]
theorem gcd_loop2 {c : Env → Out Bool} {bd : Env → SOut} (st : Nat → Nat → Env) (hc : ∀ a b, c (st a b) = some (.ok (decide (0 < b)), st a b)) (hb : ∀ a b, 0 < b → bd (st a b) = some (.next, st b (a % b)))
    {a b k : Nat} (l : a * b < 2 ^ k) {n : Nat} (hn : k + 2 ≤ n) : whileLoop c bd n (st a b) = some (.next, st (Nat.gcd a b) 0) := by
  by_cases h : b ≤ a
  · exact while_mono (gcd_loop st hc hb k a b h l) (by omega)
  · have h2 : a < b := by omega
    refine while_mono (n := k + 1 + 1) ?_ hn
    rw [while_step (by rw [hc a b, decide_eq_true (by omega)]) (hb a b (by omega)), Nat.mod_eq_of_lt h2, gcd_loop st hc hb k b a (by omega) (by rw [Nat.mul_comm]; exact l), Nat.gcd_comm]
/-! ### comprehensions, for -/
/-- P: turn, what is made so far, slots -/
theorem lc_rule {step : D → Env → Out (Option D)} (P : Nat → List D → Env → Prop) : ∀ (l : List D) (i : Nat) (acc : List D) (ρ : Env), P i acc ρ →
    (∀ j d acc ρ, l[j]? = some d → P (i + j) acc ρ → ∃ o ρ', step d ρ = some (.ok o, ρ') ∧ P (i + j + 1) (acc ++ o.toList) ρ') →
    ∃ ds ρ', lcLoop step l ρ = some (.ok ds, ρ') ∧ P (i + l.length) (acc ++ ds) ρ'
  | [], i, acc, ρ, h, _ => ⟨[], ρ, rfl, by simpa using h⟩
  | d :: r, i, acc, ρ, h, s => by
    obtain ⟨o, ρ1, e1, h1⟩ := s 0 d acc ρ rfl h
    obtain ⟨ds, ρ2, e2, h2⟩ := lc_rule P r (i + 1) _ ρ1 h1 fun j d acc ρ q p => by
      have e : i + 1 + j = i + (j + 1) := by omega
      rw [e] at p ⊢
      exact s (j + 1) d acc ρ q p
    refine ⟨o.toList ++ ds, ρ2, ?_, ?_⟩
    · unfold lcLoop
      rw [e1]
      simp only [bnd]
      rw [e2]
      cases o <;> rfl
    · have e : i + (d :: r).length = i + 1 + r.length := by rw [List.length_cons]; omega
      rw [e, ← List.append_assoc]
      exact h2
/-- a comprehension without effect -/
theorem lc_map {step : D → Env → Out (Option D)} {ρ : Env} (f : D → Option D) : ∀ (l : List D), (∀ d, d ∈ l → step d ρ = some (.ok (f d), ρ)) → lcLoop step l ρ = some (.ok (l.filterMap f), ρ)
  | [], _ => rfl
  | d :: r, h => by
    unfold lcLoop
    rw [h d List.mem_cons_self]
    simp only [bnd]
    rw [lc_map f r fun d hd => h d (List.mem_cons_of_mem _ hd)]
    simp only [ret]
    cases e : f d with
    | none => rw [List.filterMap_cons_none e]
    | some x => rw [List.filterMap_cons_some e]
/-- P: turn, slots; R: what leaves -/
theorem for_rule {step : D → Env → SOut} (P : Nat → Env → Prop) (R : Fl → Env → Prop) : ∀ (l : List D) (i : Nat) (ρ : Env), P i ρ →
    (∀ j d ρ, l[j]? = some d → P (i + j) ρ → ∃ f ρ', step d ρ = some (f, ρ') ∧ match f with
      | .next => P (i + j + 1) ρ'
      | .cont => P (i + j + 1) ρ'
      | .brk => R .next ρ'
      | f => R f ρ') → (∀ ρ, P (i + l.length) ρ → R .next ρ) → ∃ f ρ', forLoop step l ρ = some (f, ρ') ∧ R f ρ'
  | [], i, ρ, h, _, d => ⟨.next, ρ, rfl, d ρ (by simpa using h)⟩
  | d :: r, i, ρ, h, s, dn => by
    obtain ⟨f, ρ1, e1, h1⟩ := s 0 d ρ rfl h
    have go : P (i + 1) ρ1 → ∃ f ρ', forLoop step r ρ1 = some (f, ρ') ∧ R f ρ' := fun h1 =>
      for_rule P R r (i + 1) ρ1 h1 (fun j d ρ q p => by
        have e : i + 1 + j = i + (j + 1) := by omega
        rw [e] at p ⊢
        exact s (j + 1) d ρ q p) fun ρ p => dn ρ (by
        have e : i + (d :: r).length = i + 1 + r.length := by rw [List.length_cons]; omega
        rw [e]
        exact p)
    unfold forLoop
    rw [e1]
    cases f with
    | next => exact go h1
    | cont => exact go h1
    | brk => exact ⟨_, _, rfl, h1⟩
    | ret t => exact ⟨_, _, rfl, h1⟩
    | err _ _ => exact ⟨_, _, rfl, h1⟩
/-- a for whose turns only go on, its state a function's fold -/
theorem for_fold {α : Type} {step : D → Env → SOut} (st : α → Env) (f : α → D → α) : ∀ (l : List D) (a : α), (∀ d a, d ∈ l → step d (st a) = some (.next, st (f a d))) → forLoop step l (st a) = some (.next, st (l.foldl f a))
  | [], _, _ => rfl
  | d :: r, a, h => by
    unfold forLoop
    rw [h d a List.mem_cons_self]
    simp only []
    exact for_fold st f r _ fun d a hd => h d a (List.mem_cons_of_mem _ hd)
theorem pairs_eq : ∀ (l : List D) (k : Nat), pairs l k = l.mapIdx fun i d => .tup [.int (k + i : Nat), d]
  | [], _ => rfl
  | d :: r, k => by
    unfold pairs
    rw [pairs_eq r (k + 1), List.mapIdx_cons]
    congr 1
    congr 1
    funext i d
    have e : k + 1 + i = k + (i + 1) := by omega
    rw [e]
theorem intsD_map : ∀ l : List Int, intsD (l.map .int) = some l
  | [] => rfl
  | i :: r => by
    show (intsD (r.map .int)).map (i :: ·) = _
    rw [intsD_map r]
    rfl
theorem blsD_map : ∀ l : List Bool, blsD (l.map .bl) = some l
  | [] => rfl
  | i :: r => by
    show (blsD (r.map .bl)).map (i :: ·) = _
    rw [blsD_map r]
    rfl
end Ev
end

section
set_option linter.all false
set_option maxRecDepth 100000
set_option maxHeartbeats 4000000
/-! The language, step by step: equations whose rests are closed terms. -/
namespace Ev
open PySem
variable {α β : Type} {Y : Sys} {ρ : Env}
@[simp] theorem k_bnd {a : α} {k : α → Env → Out β} : bnd (some (.ok a, ρ)) k = k a ρ := by rfl
@[simp] theorem k_bndE {c : Nat} {d : D} {k : α → Env → Out β} : bnd (some (.err c d, ρ)) k = some (.err c d, ρ) := by rfl
@[simp] theorem k_ret {a : α} : ret a ρ = some (.ok a, ρ) := by rfl
@[simp] theorem k_opt {a : α} {k : α → Out β} : opt (some a) k = k a := by rfl
@[simp] theorem k_opS {a : α} {k : α → SOut} : opS (some a) k = k a := by rfl
@[simp] theorem k_xs {a : α} {k : α → Env → SOut} : xs (some (.ok a, ρ)) k = k a ρ := by rfl
@[simp] theorem k_xsE {c : Nat} {d : D} {k : α → Env → SOut} : xs (some (.err c d, ρ)) k = some (.err c d, ρ) := by rfl
@[simp] theorem k_look {i : Nat} : look ρ i = (ρ[i]?).join := by
  unfold look
  cases ρ[i]? with
  | none => rfl
  | some o => cases o <;> rfl
@[simp] theorem k_frzV {d : D} : frz (.val d) = d := by unfold frz; rfl
@[simp] theorem k_frzL {l : List D} : frz (.lst l) = .lst l := by unfold frz; rfl
@[simp] theorem k_frzK {ks : List Key} {l : List T} : frz (.dic ks l) = .dic ks (frzs l) := by unfold frz; rfl
@[simp] theorem k_frzI {c : Nat} {l : List T} : frz (.ins c l) = .ins c (frzs l) := by unfold frz; rfl
@[simp] theorem k_frz0 : frzs [] = [] := by unfold frzs; rfl
@[simp] theorem k_frz1 {t : T} {r : List T} : frzs (t :: r) = frz t :: frzs r := by conv => lhs; unfold frzs
theorem k_LL' : 1000000 = LL := rfl
@[simp] theorem k_LL : LL = 1000000 := k_LL'.symm
/-! a name read -/
def vK (i : Nat) (ρ : Env) : Option T → Out T
  | none => none
  | some (.val d) => some (.ok (.val d), ρ)
  | some t => some (.ok (.val (frz t)), ρ.set i (some (.val (frz t))))
@[simp] theorem k_v {i : Nat} : ev Y (.v i) ρ = vK i ρ ((ρ[i]?).join) := by
  rw [← k_look]
  unfold ev vK
  cases look ρ i with
  | none => rfl
  | some t => cases t <;> rfl
@[simp] theorem k_vV {i : Nat} {d : D} : vK i ρ (some (.val d)) = some (.ok (.val d), ρ) := by rfl
@[simp] theorem k_vL {i : Nat} {l : List D} : vK i ρ (some (.lst l)) = some (.ok (.val (.lst l)), ρ.set i (some (.val (.lst l)))) := by
  show some (Res.ok (T.val (frz (.lst l))), ρ.set i (some (T.val (frz (.lst l))))) = _
  rw [k_frzL]
@[simp] theorem k_vK {i : Nat} {ks : List Key} {l : List T} : vK i ρ (some (.dic ks l)) = some (.ok (.val (.dic ks (frzs l))), ρ.set i (some (.val (.dic ks (frzs l))))) := by
  show some (Res.ok (T.val (frz (.dic ks l))), ρ.set i (some (T.val (frz (.dic ks l))))) = _
  rw [k_frzK]
@[simp] theorem k_vI {i : Nat} {c : Nat} {l : List T} : vK i ρ (some (.ins c l)) = some (.ok (.val (.ins c (frzs l))), ρ.set i (some (.val (.ins c (frzs l))))) := by
  show some (Res.ok (T.val (frz (.ins c l))), ρ.set i (some (T.val (frz (.ins c l))))) = _
  rw [k_frzI]
@[simp] theorem k_c {d : D} : ev Y (.c d) ρ = some (.ok (.val d), ρ) := by unfold ev; rfl
@[simp] theorem k_g {n : Nat} : ev Y (.g n) ρ = some (.ok (.val (Y.gl n)), ρ) := by unfold ev; rfl
def dK (t : T) (ρ : Env) : Out D := some (.ok (frz t), ρ)
@[simp] theorem k_dK {t : T} : dK t ρ = some (.ok (frz t), ρ) := by rfl
@[simp] theorem k_D {m : Out T} : evD m = bnd m dK := by rfl
/-! places -/
def plK (i : Nat) (ρ : Env) : Option T → Out Pl
  | none => none
  | some (.val d) => some (.ok (.tmp d), ρ)
  | some _ => some (.ok (.sl i), ρ)
@[simp] theorem k_plV {i : Nat} {d : D} : plK i ρ (some (.val d)) = some (.ok (.tmp d), ρ) := by rfl
@[simp] theorem k_plL {i : Nat} {l : List D} : plK i ρ (some (.lst l)) = some (.ok (.sl i), ρ) := by rfl
@[simp] theorem k_plK {i : Nat} {ks : List Key} {l : List T} : plK i ρ (some (.dic ks l)) = some (.ok (.sl i), ρ) := by rfl
@[simp] theorem k_plI {i c : Nat} {l : List T} : plK i ρ (some (.ins c l)) = some (.ok (.sl i), ρ) := by rfl
@[simp] theorem k_pl_v {i : Nat} {f : Env → Out T} : evPl (.v i) f ρ = plK i ρ ((ρ[i]?).join) := by
  have e : evPl (.v i) f ρ = (match look ρ i with | none => none | some (.val d) => ret (.tmp d) ρ | some _ => ret (.sl i) ρ) := rfl
  rw [e, ← k_look]
  cases look ρ i with
  | none => rfl
  | some t => cases t <;> rfl
def tmK (t : T) (ρ : Env) : Out Pl := some (.ok (.tmp (frz t)), ρ)
@[simp] theorem k_tmK {t : T} : tmK t ρ = some (.ok (.tmp (frz t)), ρ) := by rfl
def noV : E → Bool
  | .v _ => false
  | _ => true
@[simp] theorem kp_c {f : Env → Out T} {d} : evPl (.c d) f ρ = bnd (f ρ) tmK := by rfl
@[simp] theorem kp_g {f : Env → Out T} {d} : evPl (.g d) f ρ = bnd (f ρ) tmK := by rfl
@[simp] theorem kp_bin {f : Env → Out T} {o a b} : evPl (.bin o a b) f ρ = bnd (f ρ) tmK := by rfl
@[simp] theorem kp_neg {f : Env → Out T} {a} : evPl (.neg a) f ρ = bnd (f ρ) tmK := by rfl
@[simp] theorem kp_cmp {f : Env → Out T} {o a b} : evPl (.cmp o a b) f ρ = bnd (f ρ) tmK := by rfl
@[simp] theorem kp_chn {f : Env → Out T} {o o' a b c} : evPl (.chn o o' a b c) f ρ = bnd (f ρ) tmK := by rfl
@[simp] theorem kp_and {f : Env → Out T} {a b} : evPl (.and a b) f ρ = bnd (f ρ) tmK := by rfl
@[simp] theorem kp_or {f : Env → Out T} {a b} : evPl (.or a b) f ρ = bnd (f ρ) tmK := by rfl
@[simp] theorem kp_not {f : Env → Out T} {a} : evPl (.not a) f ρ = bnd (f ρ) tmK := by rfl
@[simp] theorem kp_ite {f : Env → Out T} {a b c} : evPl (.ite a b c) f ρ = bnd (f ρ) tmK := by rfl
@[simp] theorem kp_tup {f : Env → Out T} {a} : evPl (.tup a) f ρ = bnd (f ρ) tmK := by rfl
@[simp] theorem kp_lst {f : Env → Out T} {a} : evPl (.lst a) f ρ = bnd (f ρ) tmK := by rfl
@[simp] theorem kp_sub {f : Env → Out T} {a b} : evPl (.sub a b) f ρ = bnd (f ρ) tmK := by rfl
@[simp] theorem kp_slc {f : Env → Out T} {a b c} : evPl (.slc a b c) f ρ = bnd (f ρ) tmK := by rfl
@[simp] theorem kp_call {f : Env → Out T} {a b} : evPl (.call a b) f ρ = bnd (f ρ) tmK := by rfl
@[simp] theorem kp_call1 {f : Env → Out T} {a b} : evPl (.call1 a b) f ρ = bnd (f ρ) tmK := by rfl
@[simp] theorem kp_blt {f : Env → Out T} {a b} : evPl (.blt a b) f ρ = bnd (f ρ) tmK := by rfl
@[simp] theorem kp_mth {f : Env → Out T} {m a b} : evPl (.mth m a b) f ρ = bnd (f ρ) tmK := by rfl
@[simp] theorem kp_exn {f : Env → Out T} {c a} : evPl (.exn c a) f ρ = bnd (f ρ) tmK := by rfl
@[simp] theorem kp_un {f : Env → Out T} {o a} : evPl (.un o a) f ρ = bnd (f ρ) tmK := by rfl
@[simp] theorem kp_lc {f : Env → Out T} {a b c d e} : evPl (.lc a b c d e) f ρ = bnd (f ρ) tmK := by rfl
@[simp] theorem kp_lran {f : Env → Out T} {a} : evPl (.lran a) f ρ = bnd (f ρ) tmK := by rfl
@[simp] theorem k_rdT {d : D} : rd ρ (.tmp d) = some d := by rfl
@[simp] theorem k_rdS {i : Nat} : rd ρ (.sl i) = ((ρ[i]?).join).map frz := by
  show (look ρ i).map frz = _
  rw [k_look]
/-! arguments -/
def arK (i : Nat) (ρ : Env) : Option T → Out Arg
  | none => none
  | some (.val d) => some (.ok (.vl d), ρ)
  | some _ => some (.ok (.ln i), ρ)
@[simp] theorem k_arV {i : Nat} {d : D} : arK i ρ (some (.val d)) = some (.ok (.vl d), ρ) := by rfl
@[simp] theorem k_arL {i : Nat} {l : List D} : arK i ρ (some (.lst l)) = some (.ok (.ln i), ρ) := by rfl
@[simp] theorem k_arK {i : Nat} {ks : List Key} {l : List T} : arK i ρ (some (.dic ks l)) = some (.ok (.ln i), ρ) := by rfl
@[simp] theorem k_arI {i c : Nat} {l : List T} : arK i ρ (some (.ins c l)) = some (.ok (.ln i), ρ) := by rfl
@[simp] theorem k_ar_v {i : Nat} {f : Env → Out T} : evArg (.v i) f ρ = arK i ρ ((ρ[i]?).join) := by
  have e : evArg (.v i) f ρ = (match look ρ i with | none => none | some (.val d) => ret (.vl d) ρ | some _ => ret (.ln i) ρ) := rfl
  rw [e, ← k_look]
  cases look ρ i with
  | none => rfl
  | some t => cases t <;> rfl
def vlK (t : T) (ρ : Env) : Out Arg := some (.ok (.vl (frz t)), ρ)
@[simp] theorem k_vlK {t : T} : vlK t ρ = some (.ok (.vl (frz t)), ρ) := by rfl
@[simp] theorem ka_c {f : Env → Out T} {d} : evArg (.c d) f ρ = bnd (f ρ) vlK := by rfl
@[simp] theorem ka_g {f : Env → Out T} {d} : evArg (.g d) f ρ = bnd (f ρ) vlK := by rfl
@[simp] theorem ka_bin {f : Env → Out T} {o a b} : evArg (.bin o a b) f ρ = bnd (f ρ) vlK := by rfl
@[simp] theorem ka_neg {f : Env → Out T} {a} : evArg (.neg a) f ρ = bnd (f ρ) vlK := by rfl
@[simp] theorem ka_cmp {f : Env → Out T} {o a b} : evArg (.cmp o a b) f ρ = bnd (f ρ) vlK := by rfl
@[simp] theorem ka_chn {f : Env → Out T} {o o' a b c} : evArg (.chn o o' a b c) f ρ = bnd (f ρ) vlK := by rfl
@[simp] theorem ka_and {f : Env → Out T} {a b} : evArg (.and a b) f ρ = bnd (f ρ) vlK := by rfl
@[simp] theorem ka_or {f : Env → Out T} {a b} : evArg (.or a b) f ρ = bnd (f ρ) vlK := by rfl
@[simp] theorem ka_not {f : Env → Out T} {a} : evArg (.not a) f ρ = bnd (f ρ) vlK := by rfl
@[simp] theorem ka_ite {f : Env → Out T} {a b c} : evArg (.ite a b c) f ρ = bnd (f ρ) vlK := by rfl
@[simp] theorem ka_tup {f : Env → Out T} {a} : evArg (.tup a) f ρ = bnd (f ρ) vlK := by rfl
@[simp] theorem ka_lst {f : Env → Out T} {a} : evArg (.lst a) f ρ = bnd (f ρ) vlK := by rfl
@[simp] theorem ka_sub {f : Env → Out T} {a b} : evArg (.sub a b) f ρ = bnd (f ρ) vlK := by rfl
@[simp] theorem ka_slc {f : Env → Out T} {a b c} : evArg (.slc a b c) f ρ = bnd (f ρ) vlK := by rfl
@[simp] theorem ka_call {f : Env → Out T} {a b} : evArg (.call a b) f ρ = bnd (f ρ) vlK := by rfl
@[simp] theorem ka_call1 {f : Env → Out T} {a b} : evArg (.call1 a b) f ρ = bnd (f ρ) vlK := by rfl
@[simp] theorem ka_blt {f : Env → Out T} {a b} : evArg (.blt a b) f ρ = bnd (f ρ) vlK := by rfl
@[simp] theorem ka_mth {f : Env → Out T} {m a b} : evArg (.mth m a b) f ρ = bnd (f ρ) vlK := by rfl
@[simp] theorem ka_exn {f : Env → Out T} {c a} : evArg (.exn c a) f ρ = bnd (f ρ) vlK := by rfl
@[simp] theorem ka_un {f : Env → Out T} {o a} : evArg (.un o a) f ρ = bnd (f ρ) vlK := by rfl
@[simp] theorem ka_lc {f : Env → Out T} {a b c d e} : evArg (.lc a b c d e) f ρ = bnd (f ρ) vlK := by rfl
@[simp] theorem ka_lran {f : Env → Out T} {a} : evArg (.lran a) f ρ = bnd (f ρ) vlK := by rfl
@[simp] theorem n_c {d} : noV (.c d) = true := by rfl
@[simp] theorem n_g {d} : noV (.g d) = true := by rfl
@[simp] theorem n_bin {o a b} : noV (.bin o a b) = true := by rfl
@[simp] theorem n_neg {a} : noV (.neg a) = true := by rfl
@[simp] theorem n_cmp {o a b} : noV (.cmp o a b) = true := by rfl
@[simp] theorem n_chn {o o' a b c} : noV (.chn o o' a b c) = true := by rfl
@[simp] theorem n_and {a b} : noV (.and a b) = true := by rfl
@[simp] theorem n_or {a b} : noV (.or a b) = true := by rfl
@[simp] theorem n_not {a} : noV (.not a) = true := by rfl
@[simp] theorem n_ite {a b c} : noV (.ite a b c) = true := by rfl
@[simp] theorem n_tup {a} : noV (.tup a) = true := by rfl
@[simp] theorem n_lst {a} : noV (.lst a) = true := by rfl
@[simp] theorem n_sub {a b} : noV (.sub a b) = true := by rfl
@[simp] theorem n_slc {a b c} : noV (.slc a b c) = true := by rfl
@[simp] theorem n_call {a b} : noV (.call a b) = true := by rfl
@[simp] theorem n_call1 {a b} : noV (.call1 a b) = true := by rfl
@[simp] theorem n_blt {a b} : noV (.blt a b) = true := by rfl
@[simp] theorem n_mth {m a b} : noV (.mth m a b) = true := by rfl
@[simp] theorem n_exn {c a} : noV (.exn c a) = true := by rfl
@[simp] theorem n_un {o a} : noV (.un o a) = true := by rfl
@[simp] theorem n_lc {a b c d e} : noV (.lc a b c d e) = true := by rfl
@[simp] theorem n_lran {a} : noV (.lran a) = true := by rfl
/-! operators -/
def opK (ρ : Env) : Option T → Out T
  | some t => some (.ok t, ρ)
  | none => none
@[simp] theorem k_op {t : T} : opK ρ (some t) = some (.ok t, ρ) := by rfl
def oplK (ρ : Env) : Option D → Option D → (D → D → Option T) → Out T
  | some x, some y, f => opK ρ (f x y)
  | _, _, _ => none
@[simp] theorem k_opl {x y : D} {f : D → D → Option T} : oplK ρ (some x) (some y) f = opK ρ (f x y) := by rfl
def bi2 (f : D → D → Option T) (p q : Pl) (ρ : Env) : Out T := oplK ρ (rd ρ p) (rd ρ q) f
@[simp] theorem k_bi2 {f : D → D → Option T} {p q : Pl} : bi2 f p q ρ = oplK ρ (rd ρ p) (rd ρ q) f := by rfl
def bi1 (f : D → D → Option T) (m : Env → Out Pl) (p : Pl) (ρ : Env) : Out T := bnd (m ρ) (bi2 f p)
@[simp] theorem k_bi1 {f : D → D → Option T} {m : Env → Out Pl} {p : Pl} : bi1 f m p ρ = bnd (m ρ) (bi2 f p) := by rfl
@[simp] theorem k_bin {o : BinO} {a b : E} : ev Y (.bin o a b) ρ = bnd (evPl a (ev Y a) ρ) (bi1 (binD o) (evPl b (ev Y b))) := by
  conv => lhs; unfold ev
  congr 1
  funext p ρ
  unfold bi1
  congr 1
  funext q ρ
  unfold bi2
  cases rd ρ p <;> cases rd ρ q <;> try rfl
  rename_i x y
  show opt (binD o x y) _ = opK ρ (binD o x y)
  cases binD o x y <;> rfl
def cmT (o : CmpO) (x y : D) : Option T := (cmpD o x y).map fun t => T.val (.bl t)
@[simp] theorem k_cmT {o : CmpO} {x y : D} : cmT o x y = (cmpD o x y).map fun t => T.val (.bl t) := by rfl
@[simp] theorem k_cmp {o : CmpO} {a b : E} : ev Y (.cmp o a b) ρ = bnd (evPl a (ev Y a) ρ) (bi1 (cmT o) (evPl b (ev Y b))) := by
  conv => lhs; unfold ev
  congr 1
  funext p ρ
  unfold bi1
  congr 1
  funext q ρ
  unfold bi2
  cases rd ρ p <;> cases rd ρ q <;> try rfl
  rename_i x y
  show opt ((cmpD o x y).map _) _ = opK ρ (cmT o x y)
  unfold cmT
  cases cmpD o x y <;> rfl
def ngK (d : D) (ρ : Env) : Out T := match d with | .int i => ret (.val (.int (-i))) ρ | _ => none
@[simp] theorem k_ng {i : Int} : ngK (.int i) ρ = some (.ok (.val (.int (-i))), ρ) := by rfl
@[simp] theorem k_neg {a : E} : ev Y (.neg a) ρ = bnd (evD (ev Y a ρ)) ngK := by
  conv => lhs; unfold ev
  all_goals rfl
def ch4 (ρ : Env) : Option Bool → Out T
  | some t => some (.ok (.val (.bl t)), ρ)
  | none => none
@[simp] theorem k_ch4 {t : Bool} : ch4 ρ (some t) = some (.ok (.val (.bl t)), ρ) := by rfl
def ch3 (o : CmpO) (y z : D) (ρ : Env) : Out T := ch4 ρ (cmpD o y z)
@[simp] theorem k_ch3 {o : CmpO} {y z : D} : ch3 o y z ρ = ch4 ρ (cmpD o y z) := by rfl
def ch2 (o' : CmpO) (m : Env → Out T) (y : D) (ρ : Env) : Option Bool → Out T
  | some false => some (.ok (.val (.bl false)), ρ)
  | some true => bnd (evD (m ρ)) (ch3 o' y)
  | none => none
@[simp] theorem k_ch2f {o' : CmpO} {m : Env → Out T} {y : D} : ch2 o' m y ρ (some false) = some (.ok (.val (.bl false)), ρ) := by rfl
@[simp] theorem k_ch2t {o' : CmpO} {m : Env → Out T} {y : D} : ch2 o' m y ρ (some true) = bnd (evD (m ρ)) (ch3 o' y) := by rfl
def ch1 (o o' : CmpO) (m : Env → Out T) (x y : D) (ρ : Env) : Out T := ch2 o' m y ρ (cmpD o x y)
@[simp] theorem k_ch1 {o o' : CmpO} {m : Env → Out T} {x y : D} : ch1 o o' m x y ρ = ch2 o' m y ρ (cmpD o x y) := by rfl
def ch0 (o o' : CmpO) (b m : Env → Out T) (x : D) (ρ : Env) : Out T := bnd (evD (b ρ)) (ch1 o o' m x)
@[simp] theorem k_ch0 {o o' : CmpO} {b m : Env → Out T} {x : D} : ch0 o o' b m x ρ = bnd (evD (b ρ)) (ch1 o o' m x) := by rfl
@[simp] theorem k_chn {o o' : CmpO} {a b c : E} : ev Y (.chn o o' a b c) ρ = bnd (evD (ev Y a ρ)) (ch0 o o' (ev Y b) (ev Y c)) := by
  conv => lhs; unfold ev
  congr 1
  funext x ρ
  unfold ch0
  congr 1
  funext y ρ
  unfold ch1
  cases cmpD o x y with
  | none => rfl
  | some t =>
    cases t with
    | false => rfl
    | true =>
      show bnd (evD (ev Y c ρ)) _ = bnd (evD (ev Y c ρ)) _
      congr 1
      funext z ρ
      unfold ch3
      cases cmpD o' y z <;> rfl
def anK (m : Env → Out T) (d : D) (ρ : Env) : Out T := match d with
  | .bl true => m ρ
  | .bl false => some (.ok (.val (.bl false)), ρ)
  | _ => none
@[simp] theorem k_anT {m : Env → Out T} : anK m (.bl true) ρ = m ρ := by rfl
@[simp] theorem k_anF {m : Env → Out T} : anK m (.bl false) ρ = some (.ok (.val (.bl false)), ρ) := by rfl
@[simp] theorem k_and {a b : E} : ev Y (.and a b) ρ = bnd (evD (ev Y a ρ)) (anK (ev Y b)) := by
  conv => lhs; unfold ev
  all_goals rfl
def orK (m : Env → Out T) (d : D) (ρ : Env) : Out T := match d with
  | .bl true => some (.ok (.val (.bl true)), ρ)
  | .bl false => m ρ
  | _ => none
@[simp] theorem k_orT {m : Env → Out T} : orK m (.bl true) ρ = some (.ok (.val (.bl true)), ρ) := by rfl
@[simp] theorem k_orF {m : Env → Out T} : orK m (.bl false) ρ = m ρ := by rfl
@[simp] theorem k_or {a b : E} : ev Y (.or a b) ρ = bnd (evD (ev Y a ρ)) (orK (ev Y b)) := by
  conv => lhs; unfold ev
  all_goals rfl
def ntK (d : D) (ρ : Env) : Out T := match d with
  | .bl b => some (.ok (.val (.bl (!b))), ρ)
  | _ => none
@[simp] theorem k_nt {b : Bool} : ntK (.bl b) ρ = some (.ok (.val (.bl (!b))), ρ) := by rfl
@[simp] theorem k_not {a : E} : ev Y (.not a) ρ = bnd (evD (ev Y a ρ)) ntK := by
  conv => lhs; unfold ev
  all_goals rfl
def itK {γ : Type} (f g : Env → γ) (b : Bool) (ρ : Env) : γ := match b with | true => f ρ | false => g ρ
@[simp] theorem k_itT {γ : Type} {f g : Env → γ} : itK f g true ρ = f ρ := by rfl
@[simp] theorem k_itF {γ : Type} {f g : Env → γ} : itK f g false ρ = g ρ := by rfl
@[simp] theorem k_ite {c a b : E} : ev Y (.ite c a b) ρ = bnd (evT Y c ρ) (itK (ev Y a) (ev Y b)) := by
  conv => lhs; unfold ev
  congr 1
  all_goals
    funext k ρ
    cases k <;> rfl
def tpK (ds : List D) (ρ : Env) : Out T := if ds.length ≤ LL then some (.ok (.val (.tup ds)), ρ) else none
theorem tpK_ok {ds : List D} (h : ds.length ≤ LL) : tpK ds ρ = some (.ok (.val (.tup ds)), ρ) := if_pos h
@[simp] theorem k_tp0 : tpK [] ρ = some (.ok (.val (.tup [])), ρ) := by rfl
@[simp] theorem k_tp1 {a : D} : tpK [a] ρ = some (.ok (.val (.tup [a])), ρ) := by rfl
@[simp] theorem k_tp2 {a b : D} : tpK [a, b] ρ = some (.ok (.val (.tup [a, b])), ρ) := by rfl
@[simp] theorem k_tp3 {a b c : D} : tpK [a, b, c] ρ = some (.ok (.val (.tup [a, b, c])), ρ) := by rfl
@[simp] theorem k_tp {a b c d : D} {r : List D} : tpK (a :: b :: c :: d :: r) ρ = if r.length ≤ 999996 then some (.ok (.val (.tup (a :: b :: c :: d :: r))), ρ) else none := by
  have e : (a :: b :: c :: d :: r).length ≤ LL ↔ r.length ≤ 999996 := by simp
  unfold tpK
  by_cases h : r.length ≤ 999996
  · rw [if_pos h, if_pos (e.mpr h)]
  · rw [if_neg h, if_neg fun z => h (e.mp z)]
def lsK (ds : List D) (ρ : Env) : Out T := if ds.length ≤ LL then some (.ok (.lst ds), ρ) else none
theorem lsK_ok {ds : List D} (h : ds.length ≤ LL) : lsK ds ρ = some (.ok (.lst ds), ρ) := if_pos h
@[simp] theorem k_ls0 : lsK [] ρ = some (.ok (.lst []), ρ) := by rfl
@[simp] theorem k_ls1 {a : D} : lsK [a] ρ = some (.ok (.lst [a]), ρ) := by rfl
@[simp] theorem k_ls2 {a b : D} : lsK [a, b] ρ = some (.ok (.lst [a, b]), ρ) := by rfl
@[simp] theorem k_ls3 {a b c : D} : lsK [a, b, c] ρ = some (.ok (.lst [a, b, c]), ρ) := by rfl
@[simp] theorem k_ls {a b c d : D} {r : List D} : lsK (a :: b :: c :: d :: r) ρ = if r.length ≤ 999996 then some (.ok (.lst (a :: b :: c :: d :: r)), ρ) else none := by
  have e : (a :: b :: c :: d :: r).length ≤ LL ↔ r.length ≤ 999996 := by simp
  unfold lsK
  by_cases h : r.length ≤ 999996
  · rw [if_pos h, if_pos (e.mpr h)]
  · rw [if_neg h, if_neg fun z => h (e.mp z)]
@[simp] theorem k_tup {l : List E} : ev Y (.tup l) ρ = bnd (evDs Y l ρ) tpK := by
  conv => lhs; unfold ev
  all_goals rfl
@[simp] theorem k_lst {l : List E} : ev Y (.lst l) ρ = bnd (evDs Y l ρ) lsK := by
  conv => lhs; unfold ev
  all_goals rfl
def cnK {γ : Type} (d : γ) (ds : List γ) (ρ : Env) : Out (List γ) := some (.ok (d :: ds), ρ)
@[simp] theorem k_cn {γ : Type} {d : γ} {ds : List γ} : cnK d ds ρ = some (.ok (d :: ds), ρ) := by rfl
def cnsK {γ : Type} (m : Env → Out (List γ)) (d : γ) (ρ : Env) : Out (List γ) := bnd (m ρ) (cnK d)
@[simp] theorem k_cns {γ : Type} {m : Env → Out (List γ)} {d : γ} : cnsK m d ρ = bnd (m ρ) (cnK d) := by rfl
@[simp] theorem k_Ds0 : evDs Y [] ρ = some (.ok [], ρ) := by unfold evDs; rfl
@[simp] theorem k_Ds {e : E} {r : List E} : evDs Y (e :: r) ρ = bnd (evD (ev Y e ρ)) (cnsK (evDs Y r)) := by
  conv => lhs; unfold evDs
  all_goals rfl
@[simp] theorem k_As0 : evAs Y [] ρ = some (.ok [], ρ) := by unfold evAs; rfl
@[simp] theorem k_As {e : E} {r : List E} : evAs Y (e :: r) ρ = bnd (evArg e (ev Y e) ρ) (cnsK (evAs Y r)) := by
  conv => lhs; unfold evAs
  all_goals rfl
@[simp] theorem k_Pls0 : evPls Y [] ρ = some (.ok [], ρ) := by unfold evPls; rfl
@[simp] theorem k_Pls {e : E} {r : List E} : evPls Y (e :: r) ρ = bnd (evPl e (ev Y e) ρ) (cnsK (evPls Y r)) := by
  conv => lhs; unfold evPls
  all_goals rfl
def su3 (ρ : Env) : Option D → Out T
  | some d => some (.ok (.val d), ρ)
  | none => none
@[simp] theorem k_su3 {d : D} : su3 ρ (some d) = some (.ok (.val d), ρ) := by rfl
def su2 (ρ : Env) (k : D) : Option D → Out T
  | some x => su3 ρ (subD x k)
  | none => none
@[simp] theorem k_su2 {k x : D} : su2 ρ k (some x) = su3 ρ (subD x k) := by rfl
def su1 (p : Pl) (k : D) (ρ : Env) : Out T := su2 ρ k (rd ρ p)
@[simp] theorem k_su1 {p : Pl} {k : D} : su1 p k ρ = su2 ρ k (rd ρ p) := by rfl
def su0 (m : Env → Out T) (p : Pl) (ρ : Env) : Out T := bnd (evD (m ρ)) (su1 p)
@[simp] theorem k_su0 {m : Env → Out T} {p : Pl} : su0 m p ρ = bnd (evD (m ρ)) (su1 p) := by rfl
@[simp] theorem k_sub {a i : E} : ev Y (.sub a i) ρ = bnd (evPl a (ev Y a) ρ) (su0 (ev Y i)) := by
  conv => lhs; unfold ev
  congr 1
  funext p ρ
  unfold su0
  congr 1
  funext k ρ
  unfold su1
  cases rd ρ p with
  | none => rfl
  | some x =>
    show opt (subD x k) _ = su3 ρ (subD x k)
    cases subD x k <;> rfl
def sl3 (ρ : Env) (l h : Option Int) : Option D → Out T
  | some x => opK ρ (slcD x l h)
  | none => none
@[simp] theorem k_sl3 {l h : Option Int} {x : D} : sl3 ρ l h (some x) = opK ρ (slcD x l h) := by rfl
def sl2 (p : Pl) (l h : Option Int) (ρ : Env) : Out T := sl3 ρ l h (rd ρ p)
@[simp] theorem k_sl2 {p : Pl} {l h : Option Int} : sl2 p l h ρ = sl3 ρ l h (rd ρ p) := by rfl
def sl1 (m : Env → Out (Option Int)) (p : Pl) (l : Option Int) (ρ : Env) : Out T := bnd (m ρ) (sl2 p l)
@[simp] theorem k_sl1 {m : Env → Out (Option Int)} {p : Pl} {l : Option Int} : sl1 m p l ρ = bnd (m ρ) (sl2 p l) := by rfl
def sl0 (m m' : Env → Out (Option Int)) (p : Pl) (ρ : Env) : Out T := bnd (m ρ) (sl1 m' p)
@[simp] theorem k_sl0 {m m' : Env → Out (Option Int)} {p : Pl} : sl0 m m' p ρ = bnd (m ρ) (sl1 m' p) := by rfl
@[simp] theorem k_slc {a lo hi : E} : ev Y (.slc a lo hi) ρ = bnd (evPl a (ev Y a) ρ) (sl0 (evBd lo (ev Y lo)) (evBd hi (ev Y hi))) := by
  conv => lhs; unfold ev
  congr 1
  funext p ρ
  unfold sl0
  congr 1
  funext l ρ
  unfold sl1
  congr 1
  funext h ρ
  unfold sl2
  cases rd ρ p with
  | none => rfl
  | some x =>
    show opt (slcD x l h) _ = opK ρ (slcD x l h)
    cases slcD x l h <;> rfl
def bdK (t : T) (ρ : Env) : Out (Option Int) := match frz t with
  | .int k => some (.ok (some k), ρ)
  | _ => none
@[simp] theorem k_bd {k : Int} : bdK (.val (.int k)) ρ = some (.ok (some k), ρ) := by
  show (match frz (.val (.int k)) with | .int k => some (Res.ok (some k), ρ) | _ => none) = _
  rw [k_frzV]
@[simp] theorem k_bdN {m : Env → Out T} : evBd (.c .non) m ρ = some (.ok none, ρ) := by rfl
def noN : E → Bool
  | .c .non => false
  | _ => true
@[simp] theorem kd_int {i : Int} {f : Env → Out T} : evBd (.c (.int i)) f ρ = bnd (f ρ) bdK := by rfl
@[simp] theorem kd_v {i : Nat} {f : Env → Out T} : evBd (.v i) f ρ = bnd (f ρ) bdK := by rfl
@[simp] theorem kd_g {f : Env → Out T} {d} : evBd (.g d) f ρ = bnd (f ρ) bdK := by rfl
@[simp] theorem kd_bin {f : Env → Out T} {o a b} : evBd (.bin o a b) f ρ = bnd (f ρ) bdK := by rfl
@[simp] theorem kd_neg {f : Env → Out T} {a} : evBd (.neg a) f ρ = bnd (f ρ) bdK := by rfl
@[simp] theorem kd_cmp {f : Env → Out T} {o a b} : evBd (.cmp o a b) f ρ = bnd (f ρ) bdK := by rfl
@[simp] theorem kd_chn {f : Env → Out T} {o o' a b c} : evBd (.chn o o' a b c) f ρ = bnd (f ρ) bdK := by rfl
@[simp] theorem kd_and {f : Env → Out T} {a b} : evBd (.and a b) f ρ = bnd (f ρ) bdK := by rfl
@[simp] theorem kd_or {f : Env → Out T} {a b} : evBd (.or a b) f ρ = bnd (f ρ) bdK := by rfl
@[simp] theorem kd_not {f : Env → Out T} {a} : evBd (.not a) f ρ = bnd (f ρ) bdK := by rfl
@[simp] theorem kd_ite {f : Env → Out T} {a b c} : evBd (.ite a b c) f ρ = bnd (f ρ) bdK := by rfl
@[simp] theorem kd_tup {f : Env → Out T} {a} : evBd (.tup a) f ρ = bnd (f ρ) bdK := by rfl
@[simp] theorem kd_lst {f : Env → Out T} {a} : evBd (.lst a) f ρ = bnd (f ρ) bdK := by rfl
@[simp] theorem kd_sub {f : Env → Out T} {a b} : evBd (.sub a b) f ρ = bnd (f ρ) bdK := by rfl
@[simp] theorem kd_slc {f : Env → Out T} {a b c} : evBd (.slc a b c) f ρ = bnd (f ρ) bdK := by rfl
@[simp] theorem kd_call {f : Env → Out T} {a b} : evBd (.call a b) f ρ = bnd (f ρ) bdK := by rfl
@[simp] theorem kd_call1 {f : Env → Out T} {a b} : evBd (.call1 a b) f ρ = bnd (f ρ) bdK := by rfl
@[simp] theorem kd_blt {f : Env → Out T} {a b} : evBd (.blt a b) f ρ = bnd (f ρ) bdK := by rfl
@[simp] theorem kd_mth {f : Env → Out T} {m a b} : evBd (.mth m a b) f ρ = bnd (f ρ) bdK := by rfl
@[simp] theorem kd_lc {f : Env → Out T} {a b c d e} : evBd (.lc a b c d e) f ρ = bnd (f ρ) bdK := by rfl
@[simp] theorem kd_lran {f : Env → Out T} {a} : evBd (.lran a) f ρ = bnd (f ρ) bdK := by rfl
/-! calls -/
def ca2 (ρ : Env) (as : List Arg) (k : Nat) : Option (Res T × List T) → Out T
  | some (r, ts') => if ts'.length = k then some (r, putArgs ρ as ts') else none
  | none => none
@[simp] theorem k_ca2 {as : List Arg} {k : Nat} {r : Res T} {ts' : List T} : ca2 ρ as k (some (r, ts')) = if ts'.length = k then some (r, putArgs ρ as ts') else none := by rfl
def ca1 (Y : Sys) (f : Nat) (as : List Arg) (ρ : Env) (ds : List D) : Option (List T) → Out T
  | some ts => ca2 ρ as (ts.length + ds.length) (Y.Γ f (ts ++ ds.map .val))
  | none => none
@[simp] theorem k_ca1 {f : Nat} {as : List Arg} {ds : List D} {ts : List T} : ca1 Y f as ρ ds (some ts) = ca2 ρ as (ts.length + ds.length) (Y.Γ f (ts ++ ds.map .val)) := by rfl
@[simp] theorem k_callT {f : Nat} {as : List Arg} : callT Y f as ρ = if (lns as).Nodup then ca1 Y f as ρ (Y.dfl f as.length) (argTs ρ as) else none := by
  have len : ∀ (as : List Arg) (ts : List T), argTs ρ as = some ts → ts.length = as.length := fun as => by
    induction as with
    | nil => intro ts h; cases h; rfl
    | cons a r ih =>
      intro ts h
      unfold argTs at h
      split at h
      · rename_i e1 e2
        cases h
        rw [List.length_cons, List.length_cons, ih _ e2]
      · cases h
  unfold callT
  by_cases h : (lns as).Nodup
  · rw [if_pos h, if_pos h]
    cases e : argTs ρ as with
    | none => rfl
    | some ts =>
      simp only [opt, ca1]
      rw [len as ts e]
      cases Y.Γ f (ts ++ (Y.dfl f as.length).map T.val) with
      | none => rfl
      | some q => rfl
  · rw [if_neg h, if_neg h]
@[simp] theorem k_ln0 : lns [] = [] := by unfold lns; rfl
@[simp] theorem k_lnV {d : D} {r : List Arg} : lns (.vl d :: r) = lns r := by conv => lhs; unfold lns
@[simp] theorem k_lnL {i : Nat} {r : List Arg} : lns (.ln i :: r) = i :: lns r := by conv => lhs; unfold lns
@[simp] theorem k_at0 : argTs ρ [] = some [] := by unfold argTs; rfl
def atK : Option T → Option (List T) → Option (List T)
  | some t, some ts => some (t :: ts)
  | _, _ => none
@[simp] theorem k_atK {t : T} {ts : List T} : atK (some t) (some ts) = some (t :: ts) := by rfl
@[simp] theorem k_atV {d : D} {r : List Arg} : argTs ρ (.vl d :: r) = atK (some (.val d)) (argTs ρ r) := by
  conv => lhs; unfold argTs
  unfold argT
  cases argTs ρ r <;> rfl
@[simp] theorem k_atL {i : Nat} {r : List Arg} : argTs ρ (.ln i :: r) = atK ((ρ[i]?).join) (argTs ρ r) := by
  conv => lhs; unfold argTs
  show (match look ρ i, argTs ρ r with | some t, some ts => some (t :: ts) | _, _ => none) = _
  rw [k_look]
  cases (ρ[i]?).join <;> cases argTs ρ r <;> rfl
@[simp] theorem k_pu0 {ts : List T} : putArgs ρ [] ts = ρ := by unfold putArgs; rfl
@[simp] theorem k_puV {d : D} {r : List Arg} {t : T} {ts : List T} : putArgs ρ (.vl d :: r) (t :: ts) = putArgs ρ r ts := by conv => lhs; unfold putArgs
@[simp] theorem k_puL {i : Nat} {r : List Arg} {t : T} {ts : List T} : putArgs ρ (.ln i :: r) (t :: ts) = (putArgs ρ r ts).set i (some t) := by conv => lhs; unfold putArgs
@[simp] theorem k_call {f : Nat} {l : List E} : ev Y (.call f l) ρ = bnd (evAs Y l ρ) (callT Y f) := by
  conv => lhs; unfold ev
  all_goals rfl
def c1K (Y : Sys) (f : Nat) (t : T) (ρ : Env) : Out T := call1T Y f t ρ
def c1R (ρ : Env) (k : Nat) : Option (Res T × List T) → Out T
  | some (r, ts') => if ts'.length = k then some (r, ρ) else none
  | none => none
@[simp] theorem k_c1R {k : Nat} {r : Res T} {ts' : List T} : c1R ρ k (some (r, ts')) = if ts'.length = k then some (r, ρ) else none := by rfl
@[simp] theorem k_c1K {f : Nat} {t : T} : c1K Y f t ρ = c1R ρ (1 + (Y.dfl f 1).length) (Y.Γ f (t :: (Y.dfl f 1).map .val)) := by
  unfold c1K call1T
  cases Y.Γ f (t :: (Y.dfl f 1).map .val) <;> rfl
@[simp] theorem k_call1 {f : Nat} {a : E} : ev Y (.call1 f a) ρ = bnd (ev Y a ρ) (c1K Y f) := by
  conv => lhs; unfold ev
  all_goals rfl
/-! built-ins -/
def rds (ρ : Env) : List Pl → Option (List D)
  | [] => some []
  | p :: r => match rd ρ p, rds ρ r with
    | some d, some ds => some (d :: ds)
    | _, _ => none
def rdK : Option D → Option (List D) → Option (List D)
  | some d, some ds => some (d :: ds)
  | _, _ => none
@[simp] theorem k_rdK {d : D} {ds : List D} : rdK (some d) (some ds) = some (d :: ds) := by rfl
@[simp] theorem k_rds0 : rds ρ [] = some [] := by rfl
@[simp] theorem k_rds {p : Pl} {r : List Pl} : rds ρ (p :: r) = rdK (rd ρ p) (rds ρ r) := by
  conv => lhs; unfold rds
  cases rd ρ p <;> cases rds ρ r <;> rfl
theorem mapM_rds : ∀ ps : List Pl, ps.mapM (rd ρ) = rds ρ ps
  | [] => rfl
  | p :: r => by
    rw [List.mapM_cons, mapM_rds r]
    unfold rds
    cases rd ρ p with
    | none => rfl
    | some d => cases e : rds ρ r <;> (unfold rds at e; rw [e]; rfl)
def bl2 (b : Blt) (ρ : Env) : Option (List D) → Out T
  | some ds => opK ρ (bltD b ds)
  | none => none
@[simp] theorem k_bl2 {b : Blt} {ds : List D} : bl2 b ρ (some ds) = opK ρ (bltD b ds) := by rfl
def bl1 (b : Blt) (ps : List Pl) (ρ : Env) : Out T := bl2 b ρ (rds ρ ps)
@[simp] theorem k_bl1 {b : Blt} {ps : List Pl} : bl1 b ps ρ = bl2 b ρ (rds ρ ps) := by rfl
@[simp] theorem k_blt {b : Blt} {l : List E} : ev Y (.blt b l) ρ = bnd (evPls Y l ρ) (bl1 b) := by
  conv => lhs; unfold ev
  congr 1
  funext ps ρ
  rw [mapM_rds]
  unfold bl1
  cases rds ρ ps with
  | none => rfl
  | some ds =>
    show opt (bltD b ds) _ = opK ρ (bltD b ds)
    cases bltD b ds <;> rfl
def mt2 (m : Env → Out Pl) (p : Pl) (ρ : Env) : Option Nat → Out T
  | some k => bnd (m ρ) (bi2 (mthD k) p)
  | none => none
@[simp] theorem k_mt2 {m : Env → Out Pl} {p : Pl} {k : Nat} : mt2 m p ρ (some k) = bnd (m ρ) (bi2 (mthD k) p) := by rfl
def mt1 (k : Mth) (m : Env → Out Pl) (p : Pl) (ρ : Env) : Option D → Out T
  | some x => mt2 m p ρ (mthK k x)
  | none => none
@[simp] theorem k_mt1 {k : Mth} {m : Env → Out Pl} {p : Pl} {x : D} : mt1 k m p ρ (some x) = mt2 m p ρ (mthK k x) := by rfl
def mt0 (k : Mth) (m : Env → Out Pl) (p : Pl) (ρ : Env) : Out T := mt1 k m p ρ (rd ρ p)
@[simp] theorem k_mt0 {k : Mth} {m : Env → Out Pl} {p : Pl} : mt0 k m p ρ = mt1 k m p ρ (rd ρ p) := by rfl
@[simp] theorem k_mth {k : Mth} {a b : E} : ev Y (.mth k a b) ρ = bnd (evPl a (ev Y a) ρ) (mt0 k (evPl b (ev Y b))) := by
  conv => lhs; unfold ev
  congr 1
  funext p ρ
  unfold mt0
  cases e0 : rd ρ p with
  | none => rfl
  | some x0 =>
    show opt (mthK k x0) _ = mt2 (evPl b (ev Y b)) p ρ (mthK k x0)
    cases mthK k x0 with
    | none => rfl
    | some j =>
      show bnd _ _ = bnd _ _
      congr 1
      funext q ρ
      unfold bi2
      cases rd ρ p <;> cases rd ρ q <;> try rfl
      rename_i x y
      show opt (mthD j x y) _ = opK ρ (mthD j x y)
      cases mthD j x y <;> rfl
@[simp] theorem k_moT {l : List D} : mthK .count (.tup l) = some 0 := by rfl
@[simp] theorem k_moL {l : List D} : mthK .count (.lst l) = some 1 := by rfl
@[simp] theorem k_mcT {l : List D} {y : D} : mthD 0 (.tup l) y = cntD l y := by rfl
@[simp] theorem k_mcL {l : List D} {y : D} : mthD 1 (.lst l) y = cntD l y := by rfl
def exK (c : Nat) (d : D) (ρ : Env) : Out T := some (.ok (.val (.exc c d)), ρ)
@[simp] theorem k_ex {c : Nat} {d : D} : exK c d ρ = some (.ok (.val (.exc c d)), ρ) := by rfl
@[simp] theorem k_exn {c : Nat} {a : E} : ev Y (.exn c a) ρ = bnd (evD (ev Y a ρ)) (exK c) := by
  conv => lhs; unfold ev
  all_goals rfl
def un1 (o : Op1) (ρ : Env) : Option D → Out T
  | some x => opK ρ (unD o x)
  | none => none
@[simp] theorem k_un1 {o : Op1} {x : D} : un1 o ρ (some x) = opK ρ (unD o x) := by rfl
def un0 (o : Op1) (p : Pl) (ρ : Env) : Out T := un1 o ρ (rd ρ p)
@[simp] theorem k_un0 {o : Op1} {p : Pl} : un0 o p ρ = un1 o ρ (rd ρ p) := by rfl
@[simp] theorem k_un {o : Op1} {a : E} : ev Y (.un o a) ρ = bnd (evPl a (ev Y a) ρ) (un0 o) := by
  conv => lhs; unfold ev
  congr 1
  funext p ρ
  unfold un0
  cases rd ρ p with
  | none => rfl
  | some x =>
    show opt (unD o x) _ = opK ρ (unD o x)
    cases unD o x <;> rfl
@[simp] theorem u_fld {n : Str} {x : D} : unD (.fld n) x = (fldD n x).map .val := by rfl
@[simp] theorem u_isx {n : Nat} {cs : List Nat} {x : D} : unD (.isx n cs) x = (isxD n cs x).map fun b => .val (.bl b) := by rfl
@[simp] theorem u_rev {l : List D} : unD .rev (.tup l) = some (.val (.tup l.reverse)) := by rfl
@[simp] theorem u_rpr {x : D} : unD .rpr x = rprD x := by rfl
@[simp] theorem u_val {c : Nat} {d : D} : fldD "value" (.exc c d) = some d := by rfl
def rgK (ds : List D) (ρ : Env) : Out T := opt (rangeD ds) fun l => ret (.lst l) ρ
@[simp] theorem k_lran {l : List E} : ev Y (.lran l) ρ = bnd (evDs Y l ρ) rgK := by
  conv => lhs; unfold ev
  all_goals rfl
/-! comprehensions -/
def lc3 (own : List Nat) (y : D) (ρ : Env) : Out (Option D) := some (.ok (some y), hide ρ own)
@[simp] theorem k_lc3 {own : List Nat} {y : D} : lc3 own y ρ = some (.ok (some y), hide ρ own) := by rfl
def lc2 (Y : Sys) (x : E) (own : List Nat) (b : Bool) (ρ : Env) : Out (Option D) := match b with
  | true => bnd (evD (ev Y x ρ)) (lc3 own)
  | false => some (.ok none, hide ρ own)
@[simp] theorem k_lc2t {x : E} {own : List Nat} : lc2 Y x own true ρ = bnd (evD (ev Y x ρ)) (lc3 own) := by rfl
@[simp] theorem k_lc2f {x : E} {own : List Nat} : lc2 Y x own false ρ = some (.ok none, hide ρ own) := by rfl
def lc1 (Y : Sys) (x : E) (ifs : List E) (own : List Nat) (ρ : Env) : Out (Option D) := bnd (evTs Y ifs ρ) (lc2 Y x own)
@[simp] theorem k_lc1 {x : E} {ifs : List E} {own : List Nat} : lc1 Y x ifs own ρ = bnd (evTs Y ifs ρ) (lc2 Y x own) := by rfl
/-- one turn of a comprehension -/
def lcS (Y : Sys) (x : E) (g : Tg) (ifs : List E) (own : List Nat) (d : D) (ρ : Env) : Out (Option D) := opt (asgD g d ρ) (lc1 Y x ifs own)
theorem lcS_eq {x : E} {g : Tg} {ifs : List E} {own : List Nat} {d : D} : lcS Y x g ifs own d ρ = opt (asgD g d ρ) (lc1 Y x ifs own) := rfl
def lcE (ρ1 : Env) (hs : List Nat) (ds : List D) (ρ2 : Env) : Out T := some (.ok (.lst ds), back ρ1 ρ2 hs)
@[simp] theorem k_lcE {ρ1 : Env} {hs : List Nat} {ds : List D} : lcE ρ1 hs ds ρ = some (.ok (.lst ds), back ρ1 ρ hs) := by rfl
def lcA (Y : Sys) (x : E) (g : Tg) (ifs : List E) (own : List Nat) (w : List D × List Nat) (ρ1 : Env) : Out T :=
  if w.1.length ≤ LL then bnd (noE (lcLoop (lcS Y x g ifs own) w.1 (hide ρ1 (own ++ w.2)))) (lcE ρ1 (own ++ w.2)) else none
@[simp] theorem k_lcA {x : E} {g : Tg} {ifs : List E} {own : List Nat} {l : List D} {hs : List Nat} (h : l.length ≤ LL) : lcA Y x g ifs own (l, hs) ρ = bnd (noE (lcLoop (lcS Y x g ifs own) l (hide ρ (own ++ hs)))) (lcE ρ (own ++ hs)) := if_pos h
@[simp] theorem k_noE {a : α} : noE (some (.ok a, ρ)) = some (.ok a, ρ) := by rfl
@[simp] theorem k_lc {x : E} {g : Tg} {it : E} {ifs : List E} {own : List Nat} : ev Y (.lc x g it ifs own) ρ = bnd (evIt Y (fun i => occ i 100 x || ifs.any (occ i 100)) it ρ) (lcA Y x g ifs own) := by
  conv => lhs; unfold ev
  congr 1
  all_goals
    funext w ρ
    unfold lcA
    have e : (fun (d : D) (ρ : Env) => opt (asgD g d ρ) fun ρ => bnd (evTs Y ifs ρ) fun b ρ => (match b with
          | true => bnd (evD (ev Y x ρ)) fun y ρ => ret (some y) (hide ρ own)
          | false => ret none (hide ρ own))) = lcS Y x g ifs own := by
      funext d ρ
      unfold lcS
      congr 1
      funext ρ
      unfold lc1
      congr 1
      funext b ρ
      cases b <;> rfl
    rw [e]
    rfl
@[simp] theorem k_hd0 : hide ρ [] = ρ := by unfold hide; rfl
@[simp] theorem k_hd {i : Nat} {r : List Nat} : hide ρ (i :: r) = (hide ρ r).set i none := by conv => lhs; unfold hide
@[simp] theorem k_bk0 {ρ0 : Env} : back ρ0 ρ [] = ρ := by unfold back; rfl
@[simp] theorem k_bk {ρ0 : Env} {i : Nat} {r : List Nat} : back ρ0 ρ (i :: r) = (back ρ0 ρ r).set i (ρ0.getD i none) := by conv => lhs; unfold back
@[simp] theorem k_asV {i : Nat} {d : D} : asgD (.v i) d ρ = if i < ρ.length then some (ρ.set i (some (.val d))) else none := by unfold asgD; rfl
@[simp] theorem k_asT {gs : List Tg} {ds : List D} : asgD (.tup gs) (.tup ds) ρ = asgDs gs ds ρ := by conv => lhs; unfold asgD
@[simp] theorem k_asL {gs : List Tg} {ds : List D} : asgD (.tup gs) (.lst ds) ρ = asgDs gs ds ρ := by conv => lhs; unfold asgD
@[simp] theorem k_ass0 : asgDs [] [] ρ = some ρ := by unfold asgDs; rfl
@[simp] theorem k_ass {g : Tg} {gs : List Tg} {d : D} {ds : List D} : asgDs (g :: gs) (d :: ds) ρ = (asgD g d ρ).bind (asgDs gs ds) := by
  conv => lhs; unfold asgDs
  cases asgD g d ρ <;> rfl
@[simp] theorem k_atTV {i : Nat} {t : T} : asgT (.v i) t ρ = if i < ρ.length then some (ρ.set i (some t)) else none := by rfl
@[simp] theorem k_atTT {gs : List Tg} {t : T} : asgT (.tup gs) t ρ = asgD (.tup gs) (frz t) ρ := by rfl
/-! what is walked -/
def wkK (oc : Nat → Bool) (i : Nat) (ρ : Env) : Option T → Out (D × List Nat)
  | none => none
  | some (.val d) => some (.ok (d, []), ρ)
  | some t => if oc i then some (.ok (frz t, []), ρ.set i (some (.val (frz t)))) else some (.ok (frz t, [i]), ρ)
@[simp] theorem k_wkV {oc : Nat → Bool} {i : Nat} {d : D} : wkK oc i ρ (some (.val d)) = some (.ok (d, []), ρ) := by rfl
@[simp] theorem k_wkL {oc : Nat → Bool} {i : Nat} {l : List D} : wkK oc i ρ (some (.lst l)) = if oc i then some (.ok (.lst l, []), ρ.set i (some (.val (.lst l)))) else some (.ok (.lst l, [i]), ρ) := by
  show (if oc i then some (Res.ok (frz (.lst l), []), ρ.set i (some (.val (frz (.lst l))))) else some (.ok (frz (.lst l), [i]), ρ)) = _
  rw [k_frzL]
@[simp] theorem k_wk_v {oc : Nat → Bool} {i : Nat} {f : Env → Out T} : evWk oc (.v i) f ρ = wkK oc i ρ ((ρ[i]?).join) := by
  have e : evWk oc (.v i) f ρ = (match look ρ i with | none => none | some (.val d) => ret (d, []) ρ | some t => if oc i then ret (frz t, []) (ρ.set i (some (.val (frz t)))) else ret (frz t, [i]) ρ) := rfl
  rw [e, ← k_look]
  cases look ρ i with
  | none => rfl
  | some t => cases t <;> rfl
def wtK (t : T) (ρ : Env) : Out (D × List Nat) := some (.ok (frz t, []), ρ)
@[simp] theorem k_wt {t : T} : wtK t ρ = some (.ok (frz t, []), ρ) := by rfl
@[simp] theorem kw_c {oc : Nat → Bool} {f : Env → Out T} {d} : evWk oc (.c d) f ρ = bnd (f ρ) wtK := by rfl
@[simp] theorem kw_g {oc : Nat → Bool} {f : Env → Out T} {d} : evWk oc (.g d) f ρ = bnd (f ρ) wtK := by rfl
@[simp] theorem kw_bin {oc : Nat → Bool} {f : Env → Out T} {o a b} : evWk oc (.bin o a b) f ρ = bnd (f ρ) wtK := by rfl
@[simp] theorem kw_neg {oc : Nat → Bool} {f : Env → Out T} {a} : evWk oc (.neg a) f ρ = bnd (f ρ) wtK := by rfl
@[simp] theorem kw_cmp {oc : Nat → Bool} {f : Env → Out T} {o a b} : evWk oc (.cmp o a b) f ρ = bnd (f ρ) wtK := by rfl
@[simp] theorem kw_chn {oc : Nat → Bool} {f : Env → Out T} {o o' a b c} : evWk oc (.chn o o' a b c) f ρ = bnd (f ρ) wtK := by rfl
@[simp] theorem kw_and {oc : Nat → Bool} {f : Env → Out T} {a b} : evWk oc (.and a b) f ρ = bnd (f ρ) wtK := by rfl
@[simp] theorem kw_or {oc : Nat → Bool} {f : Env → Out T} {a b} : evWk oc (.or a b) f ρ = bnd (f ρ) wtK := by rfl
@[simp] theorem kw_not {oc : Nat → Bool} {f : Env → Out T} {a} : evWk oc (.not a) f ρ = bnd (f ρ) wtK := by rfl
@[simp] theorem kw_ite {oc : Nat → Bool} {f : Env → Out T} {a b c} : evWk oc (.ite a b c) f ρ = bnd (f ρ) wtK := by rfl
@[simp] theorem kw_tup {oc : Nat → Bool} {f : Env → Out T} {a} : evWk oc (.tup a) f ρ = bnd (f ρ) wtK := by rfl
@[simp] theorem kw_lst {oc : Nat → Bool} {f : Env → Out T} {a} : evWk oc (.lst a) f ρ = bnd (f ρ) wtK := by rfl
@[simp] theorem kw_sub {oc : Nat → Bool} {f : Env → Out T} {a b} : evWk oc (.sub a b) f ρ = bnd (f ρ) wtK := by rfl
@[simp] theorem kw_slc {oc : Nat → Bool} {f : Env → Out T} {a b c} : evWk oc (.slc a b c) f ρ = bnd (f ρ) wtK := by rfl
@[simp] theorem kw_call {oc : Nat → Bool} {f : Env → Out T} {a b} : evWk oc (.call a b) f ρ = bnd (f ρ) wtK := by rfl
@[simp] theorem kw_call1 {oc : Nat → Bool} {f : Env → Out T} {a b} : evWk oc (.call1 a b) f ρ = bnd (f ρ) wtK := by rfl
@[simp] theorem kw_blt {oc : Nat → Bool} {f : Env → Out T} {a b} : evWk oc (.blt a b) f ρ = bnd (f ρ) wtK := by rfl
@[simp] theorem kw_mth {oc : Nat → Bool} {f : Env → Out T} {m a b} : evWk oc (.mth m a b) f ρ = bnd (f ρ) wtK := by rfl
@[simp] theorem kw_un {oc : Nat → Bool} {f : Env → Out T} {o a} : evWk oc (.un o a) f ρ = bnd (f ρ) wtK := by rfl
@[simp] theorem kw_lc {oc : Nat → Bool} {f : Env → Out T} {a b c d e} : evWk oc (.lc a b c d e) f ρ = bnd (f ρ) wtK := by rfl
@[simp] theorem kw_lran {oc : Nat → Bool} {f : Env → Out T} {a} : evWk oc (.lran a) f ρ = bnd (f ρ) wtK := by rfl
def itmK (g : D → Option (List D)) (w : D × List Nat) (ρ : Env) : Out (List D × List Nat) := opt (g w.1) fun l => some (.ok (l, w.2), ρ)
@[simp] theorem k_itm {g : D → Option (List D)} {d : D} {hs : List Nat} : itmK g (d, hs) ρ = opt (g d) fun l => some (.ok (l, hs), ρ) := by rfl
def rnK (ds : List D) (ρ : Env) : Out (List D × List Nat) := opt (rangeD ds) fun l => some (.ok (l, []), ρ)
@[simp] theorem k_rn {ds : List D} : rnK ds ρ = opt (rangeD ds) fun l => some (.ok (l, []), ρ) := by rfl
@[simp] theorem k_itR {oc : Nat → Bool} {l : List E} : evIt Y oc (.range l) ρ = bnd (evDs Y l ρ) rnK := by
  conv => lhs; unfold evIt
  all_goals rfl
def enI (d : D) : Option (List D) := (seqD d).map fun l => pairs l 0
@[simp] theorem k_enI {d : D} : enI d = (seqD d).map fun l => pairs l 0 := by rfl
@[simp] theorem k_itE {oc : Nat → Bool} {a : E} : evIt Y oc (.enum a) ρ = bnd (evWk oc a (ev Y a) ρ) (itmK enI) := by
  conv => lhs; unfold evIt
  congr 1
  funext w ρ
  unfold itmK enI
  cases seqD w.1 <;> rfl
def seqE' : E → Bool
  | .range _ => false
  | .enum _ => false
  | .zip _ _ => false
  | _ => true
theorem k_itS {oc : Nat → Bool} {a : E} (h : seqE' a = true) : evIt Y oc a ρ = bnd (evWk oc a (ev Y a) ρ) (itmK itemsD) := by
  cases a <;> first | (cases h; done) | (conv => lhs; unfold evIt) <;> rfl
@[simp] theorem k_itv {oc : Nat → Bool} {i} : evIt Y oc (.v i) ρ = bnd (evWk oc (.v i) (ev Y (.v i)) ρ) (itmK itemsD) := k_itS rfl
@[simp] theorem k_itc {oc : Nat → Bool} {d} : evIt Y oc (.c d) ρ = bnd (evWk oc (.c d) (ev Y (.c d)) ρ) (itmK itemsD) := k_itS rfl
@[simp] theorem k_itg {oc : Nat → Bool} {d} : evIt Y oc (.g d) ρ = bnd (evWk oc (.g d) (ev Y (.g d)) ρ) (itmK itemsD) := k_itS rfl
@[simp] theorem k_itb {oc : Nat → Bool} {o a b} : evIt Y oc (.bin o a b) ρ = bnd (evWk oc (.bin o a b) (ev Y (.bin o a b)) ρ) (itmK itemsD) := k_itS rfl
@[simp] theorem k_itt {oc : Nat → Bool} {a} : evIt Y oc (.tup a) ρ = bnd (evWk oc (.tup a) (ev Y (.tup a)) ρ) (itmK itemsD) := k_itS rfl
@[simp] theorem k_itl {oc : Nat → Bool} {a} : evIt Y oc (.lst a) ρ = bnd (evWk oc (.lst a) (ev Y (.lst a)) ρ) (itmK itemsD) := k_itS rfl
@[simp] theorem k_itsu {oc : Nat → Bool} {a b} : evIt Y oc (.sub a b) ρ = bnd (evWk oc (.sub a b) (ev Y (.sub a b)) ρ) (itmK itemsD) := k_itS rfl
@[simp] theorem k_itsl {oc : Nat → Bool} {a b c} : evIt Y oc (.slc a b c) ρ = bnd (evWk oc (.slc a b c) (ev Y (.slc a b c)) ρ) (itmK itemsD) := k_itS rfl
@[simp] theorem k_itca {oc : Nat → Bool} {a b} : evIt Y oc (.call a b) ρ = bnd (evWk oc (.call a b) (ev Y (.call a b)) ρ) (itmK itemsD) := k_itS rfl
@[simp] theorem k_itc1 {oc : Nat → Bool} {a b} : evIt Y oc (.call1 a b) ρ = bnd (evWk oc (.call1 a b) (ev Y (.call1 a b)) ρ) (itmK itemsD) := k_itS rfl
@[simp] theorem k_itbl {oc : Nat → Bool} {a b} : evIt Y oc (.blt a b) ρ = bnd (evWk oc (.blt a b) (ev Y (.blt a b)) ρ) (itmK itemsD) := k_itS rfl
@[simp] theorem k_itlc {oc : Nat → Bool} {a b c d e} : evIt Y oc (.lc a b c d e) ρ = bnd (evWk oc (.lc a b c d e) (ev Y (.lc a b c d e)) ρ) (itmK itemsD) := k_itS rfl
@[simp] theorem k_itlr {oc : Nat → Bool} {a} : evIt Y oc (.lran a) ρ = bnd (evWk oc (.lran a) (ev Y (.lran a)) ρ) (itmK itemsD) := k_itS rfl
@[simp] theorem k_iDl {l : List D} : itemsD (.lst l) = some l := by rfl
@[simp] theorem k_iDt {l : List D} : itemsD (.tup l) = some l := by rfl
@[simp] theorem k_sDl {l : List D} : seqD (.lst l) = some l := by rfl
@[simp] theorem k_sDt {l : List D} : seqD (.tup l) = some l := by rfl
def zp2 (w w' : D × List Nat) (ρ : Env) : Out (List D × List Nat) := opt (zipD w.1 w'.1) fun l => some (.ok (l, w.2 ++ w'.2), ρ)
@[simp] theorem k_zp2 {d d' : D} {hs hs' : List Nat} : zp2 (d, hs) (d', hs') ρ = opt (zipD d d') fun l => some (.ok (l, hs ++ hs'), ρ) := by rfl
def zp1 (m : Env → Out (D × List Nat)) (w : D × List Nat) (ρ : Env) : Out (List D × List Nat) := bnd (m ρ) (zp2 w)
@[simp] theorem k_zp1 {m : Env → Out (D × List Nat)} {w : D × List Nat} : zp1 m w ρ = bnd (m ρ) (zp2 w) := by rfl
@[simp] theorem k_itZv {oc : Nat → Bool} {i j : Nat} : evIt Y oc (.zip (.v i) (.v j)) ρ = bnd (wkK oc i ρ ((ρ[i]?).join)) (zp1 (evWk oc (.v j) (ev Y (.v j)))) := by
  conv => lhs; unfold evIt
  rw [k_wk_v]
  congr 1
  all_goals
    funext w ρ
    unfold zp1
    rw [k_wk_v, k_wk_v]
    rfl
def zd2 (x y : D) (ρ : Env) : Out (List D × List Nat) := opt (zipD x y) fun l => some (.ok (l, []), ρ)
@[simp] theorem k_zd2 {x y : D} : zd2 x y ρ = opt (zipD x y) fun l => some (.ok (l, []), ρ) := by rfl
def zd1 (m : Env → Out T) (x : D) (ρ : Env) : Out (List D × List Nat) := bnd (evD (m ρ)) (zd2 x)
@[simp] theorem k_zd1 {m : Env → Out T} {x : D} : zd1 m x ρ = bnd (evD (m ρ)) (zd2 x) := by rfl
@[simp] theorem kz_c {oc : Nat → Bool} {x0} {z : E} : evIt Y oc (.zip (.c x0) z) ρ = bnd (evD (ev Y (.c x0) ρ)) (zd1 (ev Y z)) := by
  (conv => lhs; unfold evIt) <;> rfl
@[simp] theorem kzv_c {oc : Nat → Bool} {x0} {z : Nat} : evIt Y oc (.zip (.v z) (.c x0)) ρ = bnd (evD (ev Y (.v z) ρ)) (zd1 (ev Y (.c x0))) := by
  (conv => lhs; unfold evIt) <;> rfl
@[simp] theorem kz_g {oc : Nat → Bool} {x0} {z : E} : evIt Y oc (.zip (.g x0) z) ρ = bnd (evD (ev Y (.g x0) ρ)) (zd1 (ev Y z)) := by
  (conv => lhs; unfold evIt) <;> rfl
@[simp] theorem kzv_g {oc : Nat → Bool} {x0} {z : Nat} : evIt Y oc (.zip (.v z) (.g x0)) ρ = bnd (evD (ev Y (.v z) ρ)) (zd1 (ev Y (.g x0))) := by
  (conv => lhs; unfold evIt) <;> rfl
@[simp] theorem kz_bin {oc : Nat → Bool} {x0 x1 x2} {z : E} : evIt Y oc (.zip (.bin x0 x1 x2) z) ρ = bnd (evD (ev Y (.bin x0 x1 x2) ρ)) (zd1 (ev Y z)) := by
  (conv => lhs; unfold evIt) <;> rfl
@[simp] theorem kzv_bin {oc : Nat → Bool} {x0 x1 x2} {z : Nat} : evIt Y oc (.zip (.v z) (.bin x0 x1 x2)) ρ = bnd (evD (ev Y (.v z) ρ)) (zd1 (ev Y (.bin x0 x1 x2))) := by
  (conv => lhs; unfold evIt) <;> rfl
@[simp] theorem kz_neg {oc : Nat → Bool} {x0} {z : E} : evIt Y oc (.zip (.neg x0) z) ρ = bnd (evD (ev Y (.neg x0) ρ)) (zd1 (ev Y z)) := by
  (conv => lhs; unfold evIt) <;> rfl
@[simp] theorem kzv_neg {oc : Nat → Bool} {x0} {z : Nat} : evIt Y oc (.zip (.v z) (.neg x0)) ρ = bnd (evD (ev Y (.v z) ρ)) (zd1 (ev Y (.neg x0))) := by
  (conv => lhs; unfold evIt) <;> rfl
@[simp] theorem kz_cmp {oc : Nat → Bool} {x0 x1 x2} {z : E} : evIt Y oc (.zip (.cmp x0 x1 x2) z) ρ = bnd (evD (ev Y (.cmp x0 x1 x2) ρ)) (zd1 (ev Y z)) := by
  (conv => lhs; unfold evIt) <;> rfl
@[simp] theorem kzv_cmp {oc : Nat → Bool} {x0 x1 x2} {z : Nat} : evIt Y oc (.zip (.v z) (.cmp x0 x1 x2)) ρ = bnd (evD (ev Y (.v z) ρ)) (zd1 (ev Y (.cmp x0 x1 x2))) := by
  (conv => lhs; unfold evIt) <;> rfl
@[simp] theorem kz_chn {oc : Nat → Bool} {x0 x1 x2 x3 x4} {z : E} : evIt Y oc (.zip (.chn x0 x1 x2 x3 x4) z) ρ = bnd (evD (ev Y (.chn x0 x1 x2 x3 x4) ρ)) (zd1 (ev Y z)) := by
  (conv => lhs; unfold evIt) <;> rfl
@[simp] theorem kzv_chn {oc : Nat → Bool} {x0 x1 x2 x3 x4} {z : Nat} : evIt Y oc (.zip (.v z) (.chn x0 x1 x2 x3 x4)) ρ = bnd (evD (ev Y (.v z) ρ)) (zd1 (ev Y (.chn x0 x1 x2 x3 x4))) := by
  (conv => lhs; unfold evIt) <;> rfl
@[simp] theorem kz_and {oc : Nat → Bool} {x0 x1} {z : E} : evIt Y oc (.zip (.and x0 x1) z) ρ = bnd (evD (ev Y (.and x0 x1) ρ)) (zd1 (ev Y z)) := by
  (conv => lhs; unfold evIt) <;> rfl
@[simp] theorem kzv_and {oc : Nat → Bool} {x0 x1} {z : Nat} : evIt Y oc (.zip (.v z) (.and x0 x1)) ρ = bnd (evD (ev Y (.v z) ρ)) (zd1 (ev Y (.and x0 x1))) := by
  (conv => lhs; unfold evIt) <;> rfl
@[simp] theorem kz_or {oc : Nat → Bool} {x0 x1} {z : E} : evIt Y oc (.zip (.or x0 x1) z) ρ = bnd (evD (ev Y (.or x0 x1) ρ)) (zd1 (ev Y z)) := by
  (conv => lhs; unfold evIt) <;> rfl
@[simp] theorem kzv_or {oc : Nat → Bool} {x0 x1} {z : Nat} : evIt Y oc (.zip (.v z) (.or x0 x1)) ρ = bnd (evD (ev Y (.v z) ρ)) (zd1 (ev Y (.or x0 x1))) := by
  (conv => lhs; unfold evIt) <;> rfl
@[simp] theorem kz_not {oc : Nat → Bool} {x0} {z : E} : evIt Y oc (.zip (.not x0) z) ρ = bnd (evD (ev Y (.not x0) ρ)) (zd1 (ev Y z)) := by
  (conv => lhs; unfold evIt) <;> rfl
@[simp] theorem kzv_not {oc : Nat → Bool} {x0} {z : Nat} : evIt Y oc (.zip (.v z) (.not x0)) ρ = bnd (evD (ev Y (.v z) ρ)) (zd1 (ev Y (.not x0))) := by
  (conv => lhs; unfold evIt) <;> rfl
@[simp] theorem kz_ite {oc : Nat → Bool} {x0 x1 x2} {z : E} : evIt Y oc (.zip (.ite x0 x1 x2) z) ρ = bnd (evD (ev Y (.ite x0 x1 x2) ρ)) (zd1 (ev Y z)) := by
  (conv => lhs; unfold evIt) <;> rfl
@[simp] theorem kzv_ite {oc : Nat → Bool} {x0 x1 x2} {z : Nat} : evIt Y oc (.zip (.v z) (.ite x0 x1 x2)) ρ = bnd (evD (ev Y (.v z) ρ)) (zd1 (ev Y (.ite x0 x1 x2))) := by
  (conv => lhs; unfold evIt) <;> rfl
@[simp] theorem kz_tup {oc : Nat → Bool} {x0} {z : E} : evIt Y oc (.zip (.tup x0) z) ρ = bnd (evD (ev Y (.tup x0) ρ)) (zd1 (ev Y z)) := by
  (conv => lhs; unfold evIt) <;> rfl
@[simp] theorem kzv_tup {oc : Nat → Bool} {x0} {z : Nat} : evIt Y oc (.zip (.v z) (.tup x0)) ρ = bnd (evD (ev Y (.v z) ρ)) (zd1 (ev Y (.tup x0))) := by
  (conv => lhs; unfold evIt) <;> rfl
@[simp] theorem kz_lst {oc : Nat → Bool} {x0} {z : E} : evIt Y oc (.zip (.lst x0) z) ρ = bnd (evD (ev Y (.lst x0) ρ)) (zd1 (ev Y z)) := by
  (conv => lhs; unfold evIt) <;> rfl
@[simp] theorem kzv_lst {oc : Nat → Bool} {x0} {z : Nat} : evIt Y oc (.zip (.v z) (.lst x0)) ρ = bnd (evD (ev Y (.v z) ρ)) (zd1 (ev Y (.lst x0))) := by
  (conv => lhs; unfold evIt) <;> rfl
@[simp] theorem kz_sub {oc : Nat → Bool} {x0 x1} {z : E} : evIt Y oc (.zip (.sub x0 x1) z) ρ = bnd (evD (ev Y (.sub x0 x1) ρ)) (zd1 (ev Y z)) := by
  (conv => lhs; unfold evIt) <;> rfl
@[simp] theorem kzv_sub {oc : Nat → Bool} {x0 x1} {z : Nat} : evIt Y oc (.zip (.v z) (.sub x0 x1)) ρ = bnd (evD (ev Y (.v z) ρ)) (zd1 (ev Y (.sub x0 x1))) := by
  (conv => lhs; unfold evIt) <;> rfl
@[simp] theorem kz_slc {oc : Nat → Bool} {x0 x1 x2} {z : E} : evIt Y oc (.zip (.slc x0 x1 x2) z) ρ = bnd (evD (ev Y (.slc x0 x1 x2) ρ)) (zd1 (ev Y z)) := by
  (conv => lhs; unfold evIt) <;> rfl
@[simp] theorem kzv_slc {oc : Nat → Bool} {x0 x1 x2} {z : Nat} : evIt Y oc (.zip (.v z) (.slc x0 x1 x2)) ρ = bnd (evD (ev Y (.v z) ρ)) (zd1 (ev Y (.slc x0 x1 x2))) := by
  (conv => lhs; unfold evIt) <;> rfl
@[simp] theorem kz_call {oc : Nat → Bool} {x0 x1} {z : E} : evIt Y oc (.zip (.call x0 x1) z) ρ = bnd (evD (ev Y (.call x0 x1) ρ)) (zd1 (ev Y z)) := by
  (conv => lhs; unfold evIt) <;> rfl
@[simp] theorem kzv_call {oc : Nat → Bool} {x0 x1} {z : Nat} : evIt Y oc (.zip (.v z) (.call x0 x1)) ρ = bnd (evD (ev Y (.v z) ρ)) (zd1 (ev Y (.call x0 x1))) := by
  (conv => lhs; unfold evIt) <;> rfl
@[simp] theorem kz_call1 {oc : Nat → Bool} {x0 x1} {z : E} : evIt Y oc (.zip (.call1 x0 x1) z) ρ = bnd (evD (ev Y (.call1 x0 x1) ρ)) (zd1 (ev Y z)) := by
  (conv => lhs; unfold evIt) <;> rfl
@[simp] theorem kzv_call1 {oc : Nat → Bool} {x0 x1} {z : Nat} : evIt Y oc (.zip (.v z) (.call1 x0 x1)) ρ = bnd (evD (ev Y (.v z) ρ)) (zd1 (ev Y (.call1 x0 x1))) := by
  (conv => lhs; unfold evIt) <;> rfl
@[simp] theorem kz_blt {oc : Nat → Bool} {x0 x1} {z : E} : evIt Y oc (.zip (.blt x0 x1) z) ρ = bnd (evD (ev Y (.blt x0 x1) ρ)) (zd1 (ev Y z)) := by
  (conv => lhs; unfold evIt) <;> rfl
@[simp] theorem kzv_blt {oc : Nat → Bool} {x0 x1} {z : Nat} : evIt Y oc (.zip (.v z) (.blt x0 x1)) ρ = bnd (evD (ev Y (.v z) ρ)) (zd1 (ev Y (.blt x0 x1))) := by
  (conv => lhs; unfold evIt) <;> rfl
@[simp] theorem kz_lc {oc : Nat → Bool} {x0 x1 x2 x3 x4} {z : E} : evIt Y oc (.zip (.lc x0 x1 x2 x3 x4) z) ρ = bnd (evD (ev Y (.lc x0 x1 x2 x3 x4) ρ)) (zd1 (ev Y z)) := by
  (conv => lhs; unfold evIt) <;> rfl
@[simp] theorem kzv_lc {oc : Nat → Bool} {x0 x1 x2 x3 x4} {z : Nat} : evIt Y oc (.zip (.v z) (.lc x0 x1 x2 x3 x4)) ρ = bnd (evD (ev Y (.v z) ρ)) (zd1 (ev Y (.lc x0 x1 x2 x3 x4))) := by
  (conv => lhs; unfold evIt) <;> rfl
@[simp] theorem kz_lran {oc : Nat → Bool} {x0} {z : E} : evIt Y oc (.zip (.lran x0) z) ρ = bnd (evD (ev Y (.lran x0) ρ)) (zd1 (ev Y z)) := by
  (conv => lhs; unfold evIt) <;> rfl
@[simp] theorem kzv_lran {oc : Nat → Bool} {x0} {z : Nat} : evIt Y oc (.zip (.v z) (.lran x0)) ρ = bnd (evD (ev Y (.v z) ρ)) (zd1 (ev Y (.lran x0))) := by
  (conv => lhs; unfold evIt) <;> rfl
@[simp] theorem k_zl {l m : List D} : zipD (.lst l) (.lst m) = some (zips l m) := by rfl
@[simp] theorem k_zlt {l m : List D} : zipD (.lst l) (.tup m) = some (zips l m) := by rfl
@[simp] theorem k_ztl {l m : List D} : zipD (.tup l) (.lst m) = some (zips l m) := by rfl
@[simp] theorem k_zt {l m : List D} : zipD (.tup l) (.tup m) = some (zips l m) := by rfl
/-! tests -/
def trK (t : T) (ρ : Env) : Out Bool := opt (truD (frz t)) fun b => some (.ok b, ρ)
@[simp] theorem k_tr {t : T} : trK t ρ = opt (truD (frz t)) fun b => some (.ok b, ρ) := by rfl
@[simp] theorem k_truT {m : Out T} : truT m = bnd m trK := by rfl
@[simp] theorem k_tb {b : Bool} : truD (.bl b) = some b := by rfl
@[simp] theorem k_ti {i : Int} : truD (.int i) = some (i != 0) := by rfl
@[simp] theorem k_tn : truD .non = some false := by rfl
@[simp] theorem k_tt {l : List D} : truD (.tup l) = some (!l.isEmpty) := by rfl
@[simp] theorem k_tl {l : List D} : truD (.lst l) = some (!l.isEmpty) := by rfl
def ntT (b : Bool) (ρ : Env) : Out Bool := some (.ok (!b), ρ)
@[simp] theorem k_ntT {b : Bool} : ntT b ρ = some (.ok (!b), ρ) := by rfl
@[simp] theorem k_Tnot {a : E} : evT Y (.not a) ρ = bnd (evT Y a ρ) ntT := by
  conv => lhs; unfold evT
  all_goals rfl
def okF (ρ : Env) : Out Bool := some (.ok false, ρ)
def okT (ρ : Env) : Out Bool := some (.ok true, ρ)
@[simp] theorem k_okF : okF ρ = some (.ok false, ρ) := by rfl
@[simp] theorem k_okT : okT ρ = some (.ok true, ρ) := by rfl
@[simp] theorem k_Tand {a b : E} : evT Y (.and a b) ρ = bnd (evT Y a ρ) (itK (evT Y b) okF) := by
  conv => lhs; unfold evT
  congr 1
  all_goals
    funext k ρ
    cases k <;> rfl
@[simp] theorem k_Tor {a b : E} : evT Y (.or a b) ρ = bnd (evT Y a ρ) (itK okT (evT Y b)) := by
  conv => lhs; unfold evT
  congr 1
  all_goals
    funext k ρ
    cases k <;> rfl
@[simp] theorem k_Tite {c a b : E} : evT Y (.ite c a b) ρ = bnd (evT Y c ρ) (itK (evT Y a) (evT Y b)) := by
  conv => lhs; unfold evT
  congr 1
  all_goals
    funext k ρ
    cases k <;> rfl
def tv1 (p : Pl) (ρ : Env) : Out Bool := opt (rd ρ p) fun d => opt (truD d) fun b => some (.ok b, ρ)
@[simp] theorem k_tv1 {p : Pl} : tv1 p ρ = opt (rd ρ p) fun d => opt (truD d) fun b => some (.ok b, ρ) := by rfl
@[simp] theorem k_Tv {i : Nat} : evT Y (.v i) ρ = bnd (plK i ρ ((ρ[i]?).join)) tv1 := by
  conv => lhs; unfold evT
  rw [k_pl_v]
  rfl
theorem T_of {e : E} (h : evT Y e = fun ρ => truT (ev Y e ρ)) : evT Y e ρ = bnd (ev Y e ρ) trK := by rw [h]; rfl
@[simp] theorem k_Tc {d} : evT Y (.c d) ρ = bnd (ev Y (.c d) ρ) trK := T_of (by funext ρ; (conv => lhs; unfold evT); rw [k_c]; rfl)
@[simp] theorem k_Tg {d} : evT Y (.g d) ρ = bnd (ev Y (.g d) ρ) trK := T_of (by funext ρ; (conv => lhs; unfold evT); rw [k_g]; rfl)
@[simp] theorem k_Tbin {o a b} : evT Y (.bin o a b) ρ = bnd (ev Y (.bin o a b) ρ) trK := T_of (by funext ρ; conv => lhs; unfold evT)
@[simp] theorem k_Tneg {a} : evT Y (.neg a) ρ = bnd (ev Y (.neg a) ρ) trK := T_of (by funext ρ; conv => lhs; unfold evT)
@[simp] theorem k_Tcmp {o a b} : evT Y (.cmp o a b) ρ = bnd (ev Y (.cmp o a b) ρ) trK := T_of (by funext ρ; conv => lhs; unfold evT)
@[simp] theorem k_Tchn {o o' a b c} : evT Y (.chn o o' a b c) ρ = bnd (ev Y (.chn o o' a b c) ρ) trK := T_of (by funext ρ; conv => lhs; unfold evT)
@[simp] theorem k_Ttup {a} : evT Y (.tup a) ρ = bnd (ev Y (.tup a) ρ) trK := T_of (by funext ρ; conv => lhs; unfold evT)
@[simp] theorem k_Tlst {a} : evT Y (.lst a) ρ = bnd (ev Y (.lst a) ρ) trK := T_of (by funext ρ; conv => lhs; unfold evT)
@[simp] theorem k_Tsub {a b} : evT Y (.sub a b) ρ = bnd (ev Y (.sub a b) ρ) trK := T_of (by funext ρ; conv => lhs; unfold evT)
@[simp] theorem k_Tslc {a b c} : evT Y (.slc a b c) ρ = bnd (ev Y (.slc a b c) ρ) trK := T_of (by funext ρ; conv => lhs; unfold evT)
@[simp] theorem k_Tcall {a b} : evT Y (.call a b) ρ = bnd (ev Y (.call a b) ρ) trK := T_of (by funext ρ; conv => lhs; unfold evT)
@[simp] theorem k_Tcall1 {a b} : evT Y (.call1 a b) ρ = bnd (ev Y (.call1 a b) ρ) trK := T_of (by funext ρ; conv => lhs; unfold evT)
@[simp] theorem k_Tblt {a b} : evT Y (.blt a b) ρ = bnd (ev Y (.blt a b) ρ) trK := T_of (by funext ρ; conv => lhs; unfold evT)
@[simp] theorem k_Tmth {m a b} : evT Y (.mth m a b) ρ = bnd (ev Y (.mth m a b) ρ) trK := T_of (by funext ρ; conv => lhs; unfold evT)
@[simp] theorem k_Tun {o a} : evT Y (.un o a) ρ = bnd (ev Y (.un o a) ρ) trK := T_of (by funext ρ; conv => lhs; unfold evT)
@[simp] theorem k_Tlc {a b c d e} : evT Y (.lc a b c d e) ρ = bnd (ev Y (.lc a b c d e) ρ) trK := T_of (by funext ρ; conv => lhs; unfold evT)
@[simp] theorem k_Tlran {a} : evT Y (.lran a) ρ = bnd (ev Y (.lran a) ρ) trK := T_of (by funext ρ; conv => lhs; unfold evT)
@[simp] theorem k_Ts0 : evTs Y [] ρ = some (.ok true, ρ) := by unfold evTs; rfl
@[simp] theorem k_Ts {e : E} {r : List E} : evTs Y (e :: r) ρ = bnd (evT Y e ρ) (itK (evTs Y r) okF) := by
  conv => lhs; unfold evTs
  congr 1
  all_goals
    funext k ρ
    cases k <;> rfl
/-! statements -/
def sqK (k : Env → SOut) : SOut → SOut
  | some (.next, ρ) => k ρ
  | o => o
@[simp] theorem k_sqN {k : Env → SOut} : sqK k (some (.next, ρ)) = k ρ := by rfl
@[simp] theorem k_sqR {k : Env → SOut} {t : T} : sqK k (some (.ret t, ρ)) = some (.ret t, ρ) := by rfl
@[simp] theorem k_sqE {k : Env → SOut} {c : Nat} {d : D} : sqK k (some (.err c d, ρ)) = some (.err c d, ρ) := by rfl
@[simp] theorem k_sqB {k : Env → SOut} : sqK k (some (.brk, ρ)) = some (.brk, ρ) := by rfl
@[simp] theorem k_sqC {k : Env → SOut} : sqK k (some (.cont, ρ)) = some (.cont, ρ) := by rfl
@[simp] theorem k_ss0 : exSs Y [] ρ = some (.next, ρ) := by unfold exSs; rfl
@[simp] theorem k_ss {s : S} {r : List S} : exSs Y (s :: r) ρ = sqK (exSs Y r) (exS Y s ρ) := by
  conv => lhs; unfold exSs
  cases exS Y s ρ with
  | none => rfl
  | some q =>
    obtain ⟨f, ρ1⟩ := q
    cases f <;> rfl
def nxK (t : T) (ρ : Env) : SOut := some (.next, ρ)
@[simp] theorem k_nx {t : T} : nxK t ρ = some (.next, ρ) := by rfl
@[simp] theorem k_pass : exS Y .pass ρ = some (.next, ρ) := by unfold exS; rfl
@[simp] theorem k_drop {e : E} : exS Y (.drop e) ρ = xs (ev Y e ρ) nxK := by
  conv => lhs; unfold exS
  all_goals rfl
def asK (g : Tg) (t : T) (ρ : Env) : SOut := opS (asgT g t ρ) fun ρ => some (.next, ρ)
@[simp] theorem k_as {g : Tg} {t : T} : asK g t ρ = opS (asgT g t ρ) fun ρ => some (.next, ρ) := by rfl
@[simp] theorem k_asg {g : Tg} {e : E} : exS Y (.asg g e) ρ = xs (ev Y e ρ) (asK g) := by
  conv => lhs; unfold exS
  all_goals rfl
def pa2 (i j : Nat) (s t : T) (ρ : Env) : SOut := if i ≠ j ∧ i < ρ.length ∧ j < ρ.length then some (.next, (ρ.set i (some s)).set j (some t)) else none
@[simp] theorem k_pa2 {i j : Nat} {s t : T} : pa2 i j s t ρ = if i ≠ j ∧ i < ρ.length ∧ j < ρ.length then some (.next, (ρ.set i (some s)).set j (some t)) else none := by rfl
def pa1 (i j : Nat) (m : Env → Out T) (s : T) (ρ : Env) : SOut := xs (m ρ) (pa2 i j s)
@[simp] theorem k_pa1 {i j : Nat} {m : Env → Out T} {s : T} : pa1 i j m s ρ = xs (m ρ) (pa2 i j s) := by rfl
@[simp] theorem k_par {i j : Nat} {a b : E} : exS Y (.par i j a b) ρ = xs (ev Y a ρ) (pa1 i j (ev Y b)) := by
  conv => lhs; unfold exS
  all_goals rfl
def rtK (t : T) (ρ : Env) : SOut := some (.ret t, ρ)
@[simp] theorem k_rt {t : T} : rtK t ρ = some (.ret t, ρ) := by rfl
@[simp] theorem k_ret_ {e : E} : exS Y (.ret e) ρ = xs (ev Y e ρ) rtK := by
  conv => lhs; unfold exS
  all_goals rfl
@[simp] theorem k_retm {i : Nat} : exS Y (.retm i) ρ = opS ((ρ[i]?).join) fun t => some (.ret t, ρ.set i none) := by
  conv => lhs; unfold exS
  rw [k_look]
@[simp] theorem k_iteS {c : E} {a b : List S} : exS Y (.ite c a b) ρ = xs (evT Y c ρ) (itK (exSs Y a) (exSs Y b)) := by
  conv => lhs; unfold exS
  congr 1
  all_goals
    funext k ρ
    cases k <;> rfl
def raK (c : Nat) (d : D) (ρ : Env) : SOut := some (.err c d, ρ)
@[simp] theorem k_ra {c : Nat} {d : D} : raK c d ρ = some (.err c d, ρ) := by rfl
@[simp] theorem k_raise {c : Nat} {e : E} : exS Y (.raise c e) ρ = xs (evD (ev Y e ρ)) (raK c) := by
  conv => lhs; unfold exS
  all_goals rfl
@[simp] theorem k_while {c : E} {b : List S} : exS Y (.while_ c b) ρ = whileLoop (evT Y c) (exSs Y b) Y.W ρ := by
  conv => lhs; unfold exS
def ap2 (i : Nat) (d : D) (ρ : Env) : Option T → SOut
  | some (.lst l) => if l.length < LL then some (.next, ρ.set i (some (.lst (l ++ [d])))) else none
  | _ => none
@[simp] theorem k_ap2 {i : Nat} {d : D} {l : List D} : ap2 i d ρ (some (.lst l)) = if l.length < LL then some (.next, ρ.set i (some (.lst (l ++ [d])))) else none := by rfl
def ap1 (i : Nat) (d : D) (ρ : Env) : SOut := ap2 i d ρ ((ρ[i]?).join)
@[simp] theorem k_ap1 {i : Nat} {d : D} : ap1 i d ρ = ap2 i d ρ ((ρ[i]?).join) := by rfl
def ap0 (i : Nat) (m : Env → Out T) (ρ : Env) : Option T → SOut
  | some (.lst _) => xs (evD (m ρ)) (ap1 i)
  | _ => none
@[simp] theorem k_ap0 {i : Nat} {m : Env → Out T} {l : List D} : ap0 i m ρ (some (.lst l)) = xs (evD (m ρ)) (ap1 i) := by rfl
@[simp] theorem k_app {i : Nat} {e : E} : exS Y (.app i e) ρ = ap0 i (ev Y e) ρ ((ρ[i]?).join) := by
  rw [← k_look]
  conv => lhs; unfold exS
  unfold ap0
  cases look ρ i with
  | none => rfl
  | some t =>
    cases t <;> try rfl
    show xs _ _ = xs _ _
    congr 1
    all_goals
      funext d ρ
      unfold ap1 ap2
      all_goals
        rw [← k_look]
        all_goals
          cases look ρ i with
          | none => rfl
          | some t => cases t <;> rfl
def stK (ρ : Env) (i : Nat) (k d : D) : Option T → SOut
  | some (.lst l) => (match k with
    | .int k => (match L2.ixN l.length k with
      | some j => some (.next, ρ.set i (some (.lst (l.set j d))))
      | none => none)
    | _ => none)
  | _ => none
def stJ (ρ : Env) (i : Nat) (l : List D) (d : D) : Option Nat → SOut
  | some j => some (.next, ρ.set i (some (.lst (l.set j d))))
  | none => none
@[simp] theorem k_stJ {i j : Nat} {l : List D} {d : D} : stJ ρ i l d (some j) = some (.next, ρ.set i (some (.lst (l.set j d)))) := by rfl
@[simp] theorem k_st {i : Nat} {k : Int} {d : D} {l : List D} : stK ρ i (.int k) d (some (.lst l)) = stJ ρ i l d (L2.ixN l.length k) := by
  unfold stK stJ
  rfl
theorem setAt_eq {i : Nat} {k d : D} : (opS (setAt ρ i k d) fun ρ => some (Fl.next, ρ)) = stK ρ i k d ((ρ[i]?).join) := by
  rw [← k_look]
  unfold setAt stK
  cases look ρ i with
  | none => rfl
  | some t =>
    cases t with
    | lst l =>
      cases k <;> try rfl
      rename_i k
      show opS (match L2.ixN l.length k with | some j => _ | none => none) _ = (match L2.ixN l.length k with | some j => _ | none => none)
      cases L2.ixN l.length k <;> rfl
    | _ => rfl
def se2 (i : Nat) (d k : D) (ρ : Env) : SOut := stK ρ i k d ((ρ[i]?).join)
@[simp] theorem k_se2 {i : Nat} {d k : D} : se2 i d k ρ = stK ρ i k d ((ρ[i]?).join) := by rfl
def se1 (i : Nat) (m : Env → Out T) (d : D) (ρ : Env) : Option T → SOut
  | some (.lst _) => xs (evD (m ρ)) (se2 i d)
  | _ => none
@[simp] theorem k_se1 {i : Nat} {m : Env → Out T} {d : D} {l : List D} : se1 i m d ρ (some (.lst l)) = xs (evD (m ρ)) (se2 i d) := by rfl
def se0 (i : Nat) (m : Env → Out T) (d : D) (ρ : Env) : SOut := se1 i m d ρ ((ρ[i]?).join)
@[simp] theorem k_se0 {i : Nat} {m : Env → Out T} {d : D} : se0 i m d ρ = se1 i m d ρ ((ρ[i]?).join) := by rfl
@[simp] theorem k_setI {i : Nat} {k e : E} : exS Y (.setI i k e) ρ = xs (evD (ev Y e ρ)) (se0 i (ev Y k)) := by
  conv => lhs; unfold exS
  congr 1
  funext d ρ
  unfold se0
  rw [← k_look]
  unfold se1
  cases look ρ i with
  | none => rfl
  | some t =>
    cases t <;> try rfl
    show xs _ _ = xs _ _
    congr 1
    funext k ρ
    exact setAt_eq
def au4 (i : Nat) (k : Int) (x y : D) (ρ : Env) : SOut := match x, y with
  | .int x, .int y => stK ρ i (.int k) (.int (x + y)) ((ρ[i]?).join)
  | _, _ => none
@[simp] theorem k_au4 {i : Nat} {k x y : Int} : au4 i k (.int x) (.int y) ρ = stK ρ i (.int k) (.int (x + y)) ((ρ[i]?).join) := by rfl
def au3 (i : Nat) (k : Int) (m : Env → Out T) (ρ : Env) : Option D → SOut
  | some x => xs (evD (m ρ)) (au4 i k x)
  | _ => none
@[simp] theorem k_au3 {i : Nat} {k : Int} {x : D} {m : Env → Out T} : au3 i k m ρ (some x) = xs (evD (m ρ)) (au4 i k x) := by rfl
theorem augI_ok {i : Nat} {k e : E} {l l' : List D} {ρ1 ρ2 : Env} {j : Int} {x y : Int} (h : (ρ[i]?).join = some (.lst l)) (hk : evD (ev Y k ρ) = some (.ok (.int j), ρ1)) (h1 : (ρ1[i]?).join = some (.lst l')) (hx : L2.atI l' j = some (.int x)) (hy : evD (ev Y e ρ1) = some (.ok (.int y), ρ2)) :
    exS Y (.augI i k e) ρ = stK ρ2 i (.int j) (.int (x + y)) ((ρ2[i]?).join) := by
  rw [← k_look] at h h1
  conv => lhs; unfold exS
  rw [h]
  show xs (evD (ev Y k ρ)) _ = _
  rw [hk]
  show (match look ρ1 i, D.int j with
      | some (.lst l), .int k => opS (L2.atI l k) fun x => xs (evD (ev Y e ρ1)) fun y ρ => (match x, y with
        | .int x, .int y => opS (setAt ρ i (.int k) (.int (x + y))) fun ρ => some (.next, ρ)
        | _, _ => none)
      | _, _ => none) = _
  rw [h1]
  show opS (L2.atI l' j) _ = _
  rw [hx]
  show xs (evD (ev Y e ρ1)) _ = _
  rw [hy]
  exact setAt_eq
def ai2 (i : Nat) (m : Env → Out T) (k : D) (ρ : Env) : Option T → SOut
  | some (.lst l) => (match k with
    | .int k => au3 i k m ρ (L2.atI l k)
    | _ => none)
  | _ => none
@[simp] theorem k_ai2 {i : Nat} {m : Env → Out T} {k : Int} {l : List D} : ai2 i m (.int k) ρ (some (.lst l)) = au3 i k m ρ (L2.atI l k) := by rfl
def ai1 (i : Nat) (m : Env → Out T) (k : D) (ρ : Env) : SOut := ai2 i m k ρ ((ρ[i]?).join)
@[simp] theorem k_ai1 {i : Nat} {m : Env → Out T} {k : D} : ai1 i m k ρ = ai2 i m k ρ ((ρ[i]?).join) := by rfl
def ai0 (i : Nat) (mk m : Env → Out T) (ρ : Env) : Option T → SOut
  | some (.lst _) => xs (evD (mk ρ)) (ai1 i m)
  | _ => none
@[simp] theorem k_ai0 {i : Nat} {mk m : Env → Out T} {l : List D} : ai0 i mk m ρ (some (.lst l)) = xs (evD (mk ρ)) (ai1 i m) := by rfl
@[simp] theorem k_augI {i : Nat} {k e : E} : exS Y (.augI i k e) ρ = ai0 i (ev Y k) (ev Y e) ρ ((ρ[i]?).join) := by
  rw [← k_look]
  conv => lhs; unfold exS
  unfold ai0
  cases look ρ i with
  | none => rfl
  | some t =>
    cases t <;> try rfl
    show xs _ _ = xs _ _
    congr 1
    funext k ρ
    unfold ai1 ai2
    rw [← k_look]
    cases look ρ i with
    | none => rfl
    | some t =>
      cases t <;> try rfl
      cases k <;> try rfl
      rename_i l k
      show opS (L2.atI l k) _ = au3 i k (ev Y e) ρ (L2.atI l k)
      cases L2.atI l k with
      | none => rfl
      | some x =>
        show xs _ _ = xs _ _
        congr 1
        funext y ρ
        unfold au4
        cases x <;> cases y <;> first | exact setAt_eq | rfl
def an2 (i : Nat) (x : Int) (y : D) (ρ : Env) : SOut := match y with
  | .int y => if i < ρ.length then some (.next, ρ.set i (some (.val (.int (x + y))))) else none
  | _ => none
@[simp] theorem k_an2 {i : Nat} {x y : Int} : an2 i x (.int y) ρ = if i < ρ.length then some (.next, ρ.set i (some (.val (.int (x + y))))) else none := by rfl
def an1 (i : Nat) (m : Env → Out T) (ρ : Env) : Option T → SOut
  | some (.val (.int x)) => xs (evD (m ρ)) (an2 i x)
  | _ => none
@[simp] theorem k_an1 {i : Nat} {m : Env → Out T} {x : Int} : an1 i m ρ (some (.val (.int x))) = xs (evD (m ρ)) (an2 i x) := by rfl
@[simp] theorem k_augN {i : Nat} {e : E} : exS Y (.augN i e) ρ = an1 i (ev Y e) ρ ((ρ[i]?).join) := by
  rw [← k_look]
  conv => lhs; unfold exS
  unfold an1
  cases look ρ i with
  | none => rfl
  | some t =>
    cases t with
    | val d =>
      cases d <;> try rfl
      all_goals
        show xs _ _ = xs _ _
        congr 1
        funext y ρ
        cases y <;> rfl
    | _ => rfl
/-- one turn of a for -/
def fS (Y : Sys) (g : Tg) (b : List S) (d : D) (ρ : Env) : SOut := opS (asgD g d ρ) (exSs Y b)
theorem fS_eq {g : Tg} {b : List S} {d : D} : fS Y g b d ρ = opS (asgD g d ρ) (exSs Y b) := rfl
def fE (ρ1 : Env) (hs : List Nat) : SOut → SOut
  | some (f, ρ2) => some (f, back ρ1 ρ2 hs)
  | none => none
@[simp] theorem k_fE {ρ1 : Env} {hs : List Nat} {f : Fl} : fE ρ1 hs (some (f, ρ)) = some (f, back ρ1 ρ hs) := by rfl
def fA (Y : Sys) (g : Tg) (b : List S) (w : List D × List Nat) (ρ1 : Env) : SOut :=
  if w.1.length ≤ LL ∧ w.2.all (fun i => !(asgSs b).contains i && !(tgs g).contains i) then fE ρ1 w.2 (forLoop (fS Y g b) w.1 (hide ρ1 w.2)) else none
@[simp] theorem k_fA {g : Tg} {b : List S} {l : List D} (h : l.length ≤ LL) : fA Y g b (l, []) ρ = fE ρ [] (forLoop (fS Y g b) l ρ) := by
  unfold fA
  rw [if_pos ⟨h, rfl⟩]
  rfl
theorem k_fA1 {g : Tg} {b : List S} {l : List D} {i : Nat} (h : l.length ≤ LL) (h2 : (!(asgSs b).contains i && !(tgs g).contains i) = true) : fA Y g b (l, [i]) ρ = fE ρ [i] (forLoop (fS Y g b) l (ρ.set i none)) := by
  unfold fA
  rw [if_pos ⟨h, by simp only [List.all_cons, List.all_nil, Bool.and_true]; exact h2⟩]
  simp only [k_hd, k_hd0]
@[simp] theorem k_for {g : Tg} {it : E} {b : List S} : exS Y (.for_ g it b) ρ = xs (evIt Y (fun i => occSs i b || (tgs g).contains i) it ρ) (fA Y g b) := by
  conv => lhs; unfold exS
  congr 1
  all_goals
    funext w ρ
    unfold fA fE
    rfl
/-! defs -/
def fiK (as : List Nat) (ρ : Env) (ts : List T) : SOut → Option (Res T × List T)
  | some (.next, ρ) => (finals as ρ ts 0).map fun ts' => (.ok (.val .non), ts')
  | some (.ret t, ρ) => (finals as ρ ts 0).map fun ts' => (.ok t, ts')
  | some (.err c e, ρ) => (finals as ρ ts 0).map fun ts' => (.err c e, ts')
  | _ => none
theorem run_eq {np nn : Nat} {b : List S} {ts : List T} (h : ts.length = np) : runDef Y ⟨np, nn, b⟩ ts = fiK (asgSs b) ρ ts (exSs Y b (ts.map some ++ List.replicate (nn - np) none)) := by
  unfold runDef
  rw [if_pos h]
  unfold fiK
  rfl
def fin (as : List Nat) (ts : List T) : SOut → Option (Res T × List T)
  | some (.next, ρ) => (finals as ρ ts 0).map fun ts' => (.ok (.val .non), ts')
  | some (.ret t, ρ) => (finals as ρ ts 0).map fun ts' => (.ok t, ts')
  | some (.err c e, ρ) => (finals as ρ ts 0).map fun ts' => (.err c e, ts')
  | _ => none
@[simp] theorem k_run {np nn : Nat} {b : List S} {ts : List T} : runDef Y ⟨np, nn, b⟩ ts = if ts.length = np then fin (asgSs b) ts (exSs Y b (ts.map some ++ List.replicate (nn - np) none)) else none := by rfl
@[simp] theorem k_finN {as : List Nat} {ts : List T} : fin as ts (some (.next, ρ)) = (finals as ρ ts 0).map fun ts' => (.ok (.val .non), ts') := by rfl
@[simp] theorem k_finR {as : List Nat} {ts : List T} {t : T} : fin as ts (some (.ret t, ρ)) = (finals as ρ ts 0).map fun ts' => (.ok t, ts') := by rfl
@[simp] theorem k_finE {as : List Nat} {ts : List T} {c : Nat} {d : D} : fin as ts (some (.err c d, ρ)) = (finals as ρ ts 0).map fun ts' => (.err c d, ts') := by rfl
@[simp] theorem k_fi0 {as : List Nat} {k : Nat} : finals as ρ [] k = some [] := by unfold finals; rfl
@[simp] theorem k_fiV {as : List Nat} {k : Nat} {d : D} {r : List T} : finals as ρ (.val d :: r) k = (finals as ρ r (k + 1)).map (.val d :: ·) := by
  conv => lhs; unfold finals
@[simp] theorem k_fiL {as : List Nat} {k : Nat} {l : List D} {r : List T} : finals as ρ (.lst l :: r) k = if as.contains k then none else atK ((ρ[k]?).join) (finals as ρ r (k + 1)) := by
  conv => lhs; unfold finals
  rw [k_look]
  cases (ρ[k]?).join <;> cases finals as ρ r (k + 1) <;> rfl
@[simp] theorem k_fiI {as : List Nat} {k c : Nat} {l : List T} {r : List T} : finals as ρ (.ins c l :: r) k = if as.contains k then none else atK ((ρ[k]?).join) (finals as ρ r (k + 1)) := by
  conv => lhs; unfold finals
  rw [k_look]
  cases (ρ[k]?).join <;> cases finals as ρ r (k + 1) <;> rfl
@[simp] theorem k_fiK {as : List Nat} {k : Nat} {ks : List Key} {l : List T} {r : List T} : finals as ρ (.dic ks l :: r) k = if as.contains k then none else atK ((ρ[k]?).join) (finals as ρ r (k + 1)) := by
  conv => lhs; unfold finals
  rw [k_look]
  cases (ρ[k]?).join <;> cases finals as ρ r (k + 1) <;> rfl
/-! operations -/
@[simp] theorem b_add {i j : Int} : binD .add (.int i) (.int j) = some (.val (.int (i + j))) := by rfl
@[simp] theorem b_sub {i j : Int} : binD .sub (.int i) (.int j) = some (.val (.int (i - j))) := by rfl
@[simp] theorem b_mul {i j : Int} : binD .mul (.int i) (.int j) = if mulOk i j then some (.val (.int (i * j))) else none := by rfl
@[simp] theorem b_fdiv {i j : Int} : binD .fdiv (.int i) (.int j) = if j ≠ 0 ∧ Builtin.divisionGoesByPylong i j = false then some (.val (.int (i.fdiv j))) else none := by
  show (if decide (j ≠ 0 ∧ Builtin.divisionGoesByPylong i j = false) = true then _ else _) = _
  by_cases h : j ≠ 0 ∧ Builtin.divisionGoesByPylong i j = false
  · rw [if_pos h, if_pos (decide_eq_true h)]
  · rw [if_neg h, if_neg (by rw [decide_eq_false h]; exact Bool.false_ne_true)]
@[simp] theorem b_mod {i j : Int} : binD .mod (.int i) (.int j) = if j ≠ 0 then some (.val (.int (i.fmod j))) else none := by
  show (if decide (j ≠ 0) = true then _ else _) = _
  by_cases h : j ≠ 0
  · rw [if_pos h, if_pos (decide_eq_true h)]
  · rw [if_neg h, if_neg (by rw [decide_eq_false h]; exact Bool.false_ne_true)]
@[simp] theorem b_pow {i j : Int} : binD .pow (.int i) (.int j) = if 0 ≤ j ∧ (Builtin.Int.intBits i : Int) * j ≤ 2 ^ 27 then some (.val (.int (i ^ j.toNat))) else none := by
  show (if decide (0 ≤ j ∧ (Builtin.Int.intBits i : Int) * j ≤ 2 ^ 27) = true then _ else _) = _
  by_cases h : 0 ≤ j ∧ (Builtin.Int.intBits i : Int) * j ≤ 2 ^ 27
  · rw [if_pos h, if_pos (decide_eq_true h)]
  · rw [if_neg h, if_neg (by rw [decide_eq_false h]; exact Bool.false_ne_true)]
@[simp] theorem b_addL {a b : List D} : binD .add (.lst a) (.lst b) = if a.length + b.length ≤ LL then some (.lst (a ++ b)) else none := by rfl
@[simp] theorem b_addT {a b : List D} : binD .add (.tup a) (.tup b) = if a.length + b.length ≤ LL then some (.val (.tup (a ++ b))) else none := by rfl
@[simp] theorem b_mulL {a : List D} {k : Int} : binD .mul (.lst a) (.int k) = if (I63 k && decide (a.length * k.toNat ≤ LL)) = true then some (.lst (List.replicate k.toNat a).flatten) else none := by rfl
@[simp] theorem b_mulT {a : List D} {k : Int} : binD .mul (.tup a) (.int k) = if a ≠ [] ∧ 2 ≤ k ∧ k ≤ 1000 ∧ a.length ≤ 1000 then some (.val (.tup (List.replicate k.toNat a).flatten)) else none := by
  show (if decide (a ≠ [] ∧ 2 ≤ k ∧ k ≤ 1000 ∧ a.length ≤ 1000) = true then _ else _) = _
  by_cases h : a ≠ [] ∧ 2 ≤ k ∧ k ≤ 1000 ∧ a.length ≤ 1000
  · rw [if_pos h, if_pos (decide_eq_true h)]
  · rw [if_neg h, if_neg (by rw [decide_eq_false h]; exact Bool.false_ne_true)]
@[simp] theorem q_lt {i j : Int} : cmpD .lt (.int i) (.int j) = some (decide (i < j)) := by rfl
@[simp] theorem q_le {i j : Int} : cmpD .le (.int i) (.int j) = some (decide (i ≤ j)) := by rfl
@[simp] theorem q_gt {i j : Int} : cmpD .gt (.int i) (.int j) = some (decide (j < i)) := by rfl
@[simp] theorem q_ge {i j : Int} : cmpD .ge (.int i) (.int j) = some (decide (j ≤ i)) := by rfl
@[simp] theorem q_eq {a b : D} : cmpD .eq a b = (eqD a b).or (eqE a b) := by rfl
@[simp] theorem q_ne {a b : D} : cmpD .ne a b = ((eqD a b).or (eqE a b)).map (!·) := by rfl
@[simp] theorem q_is {d : D} : cmpD .is d .non = some (isNon d) := by rfl
@[simp] theorem q_isn {d : D} : cmpD .isnot d .non = some (!isNon d) := by rfl
@[simp] theorem q_in {a b : D} : cmpD .isin a b = inD a b := by rfl
@[simp] theorem q_nin {a b : D} : cmpD .notin a b = (inD a b).map (!·) := by rfl
@[simp] theorem i_n : isNon .non = true := by rfl
@[simp] theorem i_i {i : Int} : isNon (.int i) = false := by rfl
@[simp] theorem i_b {i : Bool} : isNon (.bl i) = false := by rfl
@[simp] theorem i_s {i : Str} : isNon (.str i) = false := by rfl
@[simp] theorem i_t {i : List D} : isNon (.tup i) = false := by rfl
@[simp] theorem i_l {i : List D} : isNon (.lst i) = false := by rfl
@[simp] theorem eqD_int {i j : Int} : eqD (.int i) (.int j) = some (decide (i = j)) := by
  show (if plain (.int i) && plain (.int j) && decide (min (depth (.int i)) (depth (.int j)) ≤ 64) then some (eqv (.int i) (.int j)) else none) = _
  simp [plain, depth, eqv]
  rfl
@[simp] theorem s_t0 {a : D} {r : List D} : subD (.tup (a :: r)) (.int 0) = some a := by
  show L2.atI (a :: r) 0 = some a
  simp [L2.atI, L2.ixN]
@[simp] theorem s_t1 {a b : D} {r : List D} : subD (.tup (a :: b :: r)) (.int 1) = some b := by
  show L2.atI (a :: b :: r) 1 = some b
  have h : (1 : Int) < r.length + 1 + 1 := by omega
  simp [L2.atI, L2.ixN, h]
@[simp] theorem s_t2 {a b c : D} {r : List D} : subD (.tup (a :: b :: c :: r)) (.int 2) = some c := by
  show L2.atI (a :: b :: c :: r) 2 = some c
  have h : (2 : Int) < r.length + 1 + 1 + 1 := by omega
  simp [L2.atI, L2.ixN, h]
@[simp] theorem s_l0 {a : D} {r : List D} : subD (.lst (a :: r)) (.int 0) = some a := s_t0
@[simp] theorem s_l1 {a b : D} {r : List D} : subD (.lst (a :: b :: r)) (.int 1) = some b := s_t1
@[simp] theorem s_l2 {a b c : D} {r : List D} : subD (.lst (a :: b :: c :: r)) (.int 2) = some c := s_t2
theorem atI_nat' {l : List α} {k : Nat} : L2.atI l (k : Int) = l[k]? := by
  by_cases h : k < l.length
  · simp [L2.atI, L2.ixN, h]
  · have h2 : ¬ (k : Int) < l.length := by omega
    simp [L2.atI, L2.ixN, h]
theorem ixN_nat {n k : Nat} (h : k < n) : L2.ixN n (k : Int) = some k := by simp [L2.ixN, h]
theorem s_tk {l : List D} {k : Nat} : subD (.tup l) (.int (k : Int)) = l[k]? := atI_nat'
theorem s_lk {l : List D} {k : Nat} : subD (.lst l) (.int (k : Int)) = l[k]? := atI_nat'
@[simp] theorem t_lenL {l : List D} : bltD .len [.lst l] = some (.val (.int l.length)) := by rfl
@[simp] theorem t_lenT {l : List D} : bltD .len [.tup l] = some (.val (.int l.length)) := by rfl
@[simp] theorem t_lenS {l : List Int} : bltD .len [.scr l] = some (.val (.int l.length)) := by rfl
@[simp] theorem t_abs {i : Int} : bltD .abs [.int i] = some (.val (.int (if i < 0 then -i else i))) := by rfl
@[simp] theorem t_int {i : Int} : bltD .int [.int i] = some (.val (.int i)) := by rfl
@[simp] theorem t_intB {k : Bool} : bltD .int [.bl k] = some (.val (.int (if k then 1 else 0))) := by rfl
@[simp] theorem t_max {i j : Int} : bltD .max [.int i, .int j] = some (.val (.int (if j > i then j else i))) := by rfl
@[simp] theorem t_min {i j : Int} : bltD .min [.int i, .int j] = some (.val (.int (if j < i then j else i))) := by rfl
@[simp] theorem t_sum {l : List Int} : bltD .sum [.lst (l.map .int)] = some (.val (.int l.sum)) := by
  show (intsD (l.map .int)).map (fun ns => T.val (.int ns.sum)) = _
  rw [intsD_map]
  rfl
@[simp] theorem t_all {l : List Bool} : bltD .all [.lst (l.map .bl)] = some (.val (.bl (l.all id))) := by
  show (blsD (l.map .bl)).map (fun ns => T.val (.bl (ns.all id))) = _
  rw [blsD_map]
  rfl
@[simp] theorem t_any {l : List Bool} : bltD .any [.lst (l.map .bl)] = some (.val (.bl (l.any id))) := by
  show (blsD (l.map .bl)).map (fun ns => T.val (.bl (ns.any id))) = _
  rw [blsD_map]
  rfl
@[simp] theorem t_sumC {l : List α} {f : α → Int} : bltD .sum [.lst (l.map (D.int ∘ f))] = some (.val (.int (l.map f).sum)) := by rw [← List.map_map]; exact t_sum
@[simp] theorem t_allC {l : List α} {f : α → Bool} : bltD .all [.lst (l.map (D.bl ∘ f))] = some (.val (.bl (l.all f))) := by
  rw [← List.map_map, t_all, List.all_map]
  rfl
@[simp] theorem t_anyC {l : List α} {f : α → Bool} : bltD .any [.lst (l.map (D.bl ∘ f))] = some (.val (.bl (l.any f))) := by
  rw [← List.map_map, t_any, List.any_map]
  rfl
@[simp] theorem t_sumF {l : List α} {f : α → Int} : bltD .sum [.lst (l.map fun x => D.int (f x))] = some (.val (.int (l.map f).sum)) := t_sumC
@[simp] theorem t_allF {l : List α} {f : α → Bool} : bltD .all [.lst (l.map fun x => D.bl (f x))] = some (.val (.bl (l.all f))) := t_allC
@[simp] theorem t_anyF {l : List α} {f : α → Bool} : bltD .any [.lst (l.map fun x => D.bl (f x))] = some (.val (.bl (l.any f))) := t_anyC
@[simp] theorem t_tupL {l : List D} : bltD .tuple [.lst l] = some (.val (.tup l)) := by rfl
@[simp] theorem t_tupT {l : List D} : bltD .tuple [.tup l] = some (.val (.tup l)) := by rfl
@[simp] theorem t_lstL {l : List D} : bltD .list [.lst l] = some (.lst l) := by rfl
@[simp] theorem t_lstT {l : List D} : bltD .list [.tup l] = some (.lst l) := by rfl
@[simp] theorem t_isi {d : D} : bltD .isint [d] = (tyD d).map fun n => .val (.bl (n == 1 || n == 2)) := by rfl
@[simp] theorem t_isb {d : D} : bltD .isbool [d] = (tyD d).map fun n => .val (.bl (n == 1)) := by rfl
@[simp] theorem t_ist {d : D} : bltD .istuple [d] = (tyD d).map fun n => .val (.bl (n == 4)) := by rfl
@[simp] theorem t_iss {d : D} : bltD .isstr [d] = (tyD d).map fun n => .val (.bl (n == 3)) := by rfl
@[simp] theorem y_n : tyD .non = some 0 := by rfl
@[simp] theorem y_b {b : Bool} : tyD (.bl b) = some 1 := by rfl
@[simp] theorem y_i {b : Int} : tyD (.int b) = some 2 := by rfl
@[simp] theorem y_s {b : Str} : tyD (.str b) = some 3 := by rfl
@[simp] theorem y_t {b : List D} : tyD (.tup b) = some 4 := by rfl
@[simp] theorem y_l {b : List D} : tyD (.lst b) = some 5 := by rfl
@[simp] theorem y_d {k : List Key} {b : List D} : tyD (.dic k b) = some 6 := by rfl
@[simp] theorem sl_t {l : List D} {lo hi : Option Int} : slcD (.tup l) lo hi = some (.val (.tup (cut l lo hi))) := by rfl
@[simp] theorem sl_s {z : Str} {lo hi : Option Int} : slcD (.str z) lo hi = if z.length ≤ LL then some (.val (.str (L2.cutS z lo hi))) else none := by rfl
@[simp] theorem sl_l {l : List D} {lo hi : Option Int} : slcD (.lst l) lo hi = some (.lst (cut l lo hi)) := by rfl
end Ev
end

section
set_option linter.all false
set_option maxRecDepth 100000
set_option maxHeartbeats 4000000
set_option exponentiation.threshold 100000
/-! Fractions in least terms. -/
namespace Ev
open PySem
/-- the fraction of two integers in least terms -/
def red (n u : Int) : Int × Int := (n.fdiv (if 0 < u then (Int.gcd n u : Int) else -(Int.gcd n u : Int)), u.fdiv (if 0 < u then (Int.gcd n u : Int) else -(Int.gcd n u : Int)))
def fr (p : Int × Int) : D := .tup [.int p.1, .int p.2]
theorem fr_inj {p q : Int × Int} (h : fr p = fr q) : p = q := by
  cases p; cases q
  unfold fr at h
  injection h with h
  injection h with h1 h
  injection h with h2 _
  injection h1 with h1
  injection h2 with h2
  exact Prod.ext h1 h2
theorem red_bd {k m : Nat} {n u : Int} (h : Bd k n) (h' : Bd m u) : Bd k (red n u).1 ∧ Bd m (red n u).2 := ⟨h.fdiv, h'.fdiv⟩
theorem fdiv_mul {a g : Int} (h : g ∣ a) : a.fdiv g * g = a := Int.fdiv_mul_cancel h
theorem red_mul {n u : Int} (h : 0 < u) : (red n u).1 * Int.gcd n u = n ∧ (red n u).2 * Int.gcd n u = u := by
  unfold red
  simp only [if_pos h]
  exact ⟨fdiv_mul (Int.gcd_dvd_left ..), fdiv_mul (Int.gcd_dvd_right ..)⟩
theorem gcd_pos {n u : Int} (h : 0 < u) : 0 < (Int.gcd n u : Int) := by
  have : Int.gcd n u ≠ 0 := fun z => by
    have := (Int.gcd_eq_zero_iff.mp z).2
    omega
  omega
theorem red_pos {n u : Int} (h : 0 < u) : 0 < (red n u).2 := by
  have e := (red_mul (n := n) h).2
  have g := gcd_pos (n := n) h
  rcases Int.lt_trichotomy (red n u).2 0 with q | q | q
  · have := Int.mul_neg_of_neg_of_pos q g
    omega
  · rw [q] at e
    omega
  · exact q
/-- in least terms -/
def Fr (p : Int × Int) : Prop := 0 < p.2 ∧ Int.gcd p.1 p.2 = 1
theorem red_fr {n u : Int} (h : 0 < u) : Fr (red n u) := by
  refine ⟨red_pos h, ?_⟩
  obtain ⟨e1, e2⟩ := red_mul (n := n) h
  have g := gcd_pos (n := n) h
  have e : Int.gcd ((red n u).1 * (Int.gcd n u : Int)) ((red n u).2 * (Int.gcd n u : Int)) = Int.gcd (red n u).1 (red n u).2 * Int.gcd n u := by
    rw [Int.gcd_mul_right]
    rfl
  rw [e1, e2] at e
  have g2 : 0 < Int.gcd n u := by omega
  have e3 : 1 * Int.gcd n u = Int.gcd (red n u).1 (red n u).2 * Int.gcd n u := by omega
  exact (Nat.eq_of_mul_eq_mul_right g2 e3).symm
/-- the same value -/
def Sv (a b c d : Int) : Prop := a * d = c * b
theorem red_sv {n u : Int} (h : 0 < u) : (red n u).1 * u = n * (red n u).2 := by
  obtain ⟨e1, e2⟩ := red_mul (n := n) h
  generalize (Int.gcd n u : Int) = g at e1 e2
  generalize red n u = p at e1 e2 ⊢
  rw [← e1, ← e2]
  grind
theorem dvd_of_fr {p : Int × Int} (h : Fr p) {x y : Int} (e : p.1 * y = x * p.2) : p.2 ∣ y := by
  have c : Int.gcd p.2 p.1 = 1 := by rw [Int.gcd_comm]; exact h.2
  have d : p.2 ∣ p.1 * y := ⟨x, by rw [e, Int.mul_comm]⟩
  have d' : p.2.natAbs ∣ p.1.natAbs * y.natAbs := by
    rw [← Int.natAbs_mul]
    exact Int.natAbs_dvd_natAbs.mpr d
  exact Int.natAbs_dvd_natAbs.mp (Nat.Coprime.dvd_of_dvd_mul_left (show Nat.Coprime p.2.natAbs p.1.natAbs from c) d')
theorem fr_eq {p q : Int × Int} (hp : Fr p) (hq : Fr q) (e : p.1 * q.2 = q.1 * p.2) : p = q := by
  have d1 : p.2 ∣ q.2 := dvd_of_fr hp e
  have d2 : q.2 ∣ p.2 := dvd_of_fr hq e.symm
  have e2 : p.2 = q.2 := Int.dvd_antisymm (Int.le_of_lt hp.1) (Int.le_of_lt hq.1) d1 d2
  have e1 : p.1 = q.1 := by
    rw [e2] at e
    exact Int.eq_of_mul_eq_mul_right (by have := hq.1; omega) e
  exact Prod.ext e1 e2
theorem red_eq {n u : Int} {p : Int × Int} (h : 0 < u) (hp : Fr p) (e : p.1 * u = n * p.2) : red n u = p := by
  refine fr_eq (red_fr h) hp ?_
  have e2 := red_sv (n := n) h
  have hu : u ≠ 0 := by omega
  refine Int.eq_of_mul_eq_mul_right hu ?_
  generalize red n u = r at e2 ⊢
  grind
def addF (a b : Int × Int) : Int × Int := red (a.1 * b.2 + b.1 * a.2) (a.2 * b.2)
def totF (l : List (Int × Int)) : Int × Int := l.foldl addF (0, 1)
theorem add_fr {a b : Int × Int} (h : 0 < a.2) (h' : 0 < b.2) : Fr (addF a b) := red_fr (Int.mul_pos h h')
theorem foldl_take {α β : Type} (f : β → α → β) (b : β) (l : List α) {j : Nat} {x : α} (h : l[j]? = some x) : (l.take (j + 1)).foldl f b = f ((l.take j).foldl f b) x := by
  rw [List.take_add_one, h, List.foldl_append]
  rfl
theorem tot_fr {l : List (Int × Int)} (h : ∀ c, c ∈ l → 0 < c.2) : ∀ a, Fr a → Fr (l.foldl addF a) := by
  induction l with
  | nil => exact fun a ha => ha
  | cons c r ih => exact fun a ha => ih (fun d hd => h d (List.mem_cons_of_mem _ hd)) _ (add_fr ha.1 (h c List.mem_cons_self))
theorem fr_0 : Fr (0, 1) := ⟨by decide, rfl⟩
theorem fr_1 : Fr (1, 1) := ⟨by decide, rfl⟩
theorem tot_bd {k : Nat} : ∀ {l : List (Int × Int)} {m : Nat} {a : Int × Int}, (∀ c, c ∈ l → 0 < c.2 ∧ Bd k c.1 ∧ Bd k c.2) → 0 < a.2 → Bd (k * (m + 1) + m) a.1 → Bd (k * (m + 1)) a.2 →
    Bd (k * (m + l.length + 1) + (m + l.length)) (l.foldl addF a).1 ∧ Bd (k * (m + l.length + 1)) (l.foldl addF a).2
  | [], _, _, _, _, h1, h2 => ⟨h1, h2⟩
  | c :: r, m, a, h, h0, h1, h2 => by
    obtain ⟨q0, q1, q2⟩ := h c List.mem_cons_self
    have e : k * (m + 1 + 1) = k * (m + 1) + k := by rw [Nat.mul_succ]
    have b1 : Bd (k * (m + 1 + 1) + (m + 1)) (a.1 * c.2 + c.1 * a.2) := by
      have x1 : Bd (k * (m + 1) + m + k) (a.1 * c.2) := h1.mul q2
      have x2 : Bd (k * (m + 1) + m + k) (c.1 * a.2) := (q1.mul h2).mono (by omega)
      exact (x1.add x2).mono (by omega)
    have b2 : Bd (k * (m + 1 + 1)) (a.2 * c.2) := (h2.mul q2).mono (by omega)
    have b := red_bd b1 b2
    have i := tot_bd (l := r) (m := m + 1) (a := addF a c) (fun d hd => h d (List.mem_cons_of_mem _ hd)) (red_pos (Int.mul_pos h0 q0)) b.1 b.2
    have el : m + (c :: r).length = m + 1 + r.length := by rw [List.length_cons]; omega
    rw [el]
    exact i
/-- the sum over one under -/
theorem tot_sum {S : Int} (hS : 0 < S) : ∀ {l : List (Int × Int)} {xs : List Int} {a : Int × Int} {s : Int}, l.length = xs.length → (∀ (i : Nat) (c : Int × Int) (x : Int), l[i]? = some c → xs[i]? = some x → 0 < c.2 ∧ c.1 * S = x * c.2) → 0 < a.2 → a.1 * S = s * a.2 →
    (l.foldl addF a).1 * S = (s + xs.sum) * (l.foldl addF a).2
  | [], [], a, s, _, _, _, h => by simpa using h
  | c :: r, x :: t, a, s, hl, h, h0, h1 => by
    obtain ⟨q1, q2⟩ := h 0 c x rfl rfl
    have i := tot_sum hS (l := r) (xs := t) (a := addF a c) (s := s + x) (by simpa using hl) (fun i c x u v => h (i + 1) c x u v) (red_pos (Int.mul_pos h0 q1)) (by
      have e := red_sv (n := a.1 * c.2 + c.1 * a.2) (Int.mul_pos h0 q1)
      have e' : (addF a c).1 * (a.2 * c.2) = (a.1 * c.2 + c.1 * a.2) * (addF a c).2 := e
      generalize addF a c = r at e' ⊢
      have hn : a.2 * c.2 ≠ 0 := Int.ne_of_gt (Int.mul_pos h0 q1)
      refine Int.eq_of_mul_eq_mul_right hn ?_
      have : r.1 * S * (a.2 * c.2) = (r.1 * (a.2 * c.2)) * S := by grind
      rw [this, e']
      have e3 : (a.1 * c.2 + c.1 * a.2) * S = (s + x) * (a.2 * c.2) := by grind
      grind)
    rw [List.sum_cons, List.foldl_cons, ← Int.add_assoc]
    exact i
  | [], _ :: _, _, _, h, _, _, _ => by cases h
  | _ :: _, [], _, _, h, _, _, _ => by cases h
theorem eqD_fr {p q : Int × Int} : eqD (fr p) (fr q) = some (decide (p = q)) := by
  have e : eqD (fr p) (fr q) = some (eqv (fr p) (fr q)) := by
    unfold eqD fr
    simp [plain, plains, depth, depths]
  rw [e]
  have e2 : eqv (fr p) (fr q) = (decide (p.1 = q.1) && decide (p.2 = q.2)) := by
    unfold fr
    simp only [eqv, eqvs, Bool.and_true]
    rfl
  rw [e2]
  congr 1
  by_cases h1 : p.1 = q.1 <;> by_cases h2 : p.2 = q.2 <;> simp [h1, h2, Prod.ext_iff]
theorem plains_ints : ∀ l : List Int, plains (l.map D.int) = true
  | [] => by rw [List.map_nil]; unfold plains; rfl
  | i :: r => by
    rw [List.map_cons]
    unfold plains plain
    rw [plains_ints r]
    rfl
theorem depths_ints : ∀ l : List Int, depths (l.map D.int) = 0
  | [] => by rw [List.map_nil]; unfold depths; rfl
  | i :: r => by
    rw [List.map_cons]
    unfold depths depth
    rw [depths_ints r]
    rfl
theorem eqvs_ints : ∀ l m : List Int, eqvs (l.map D.int) (m.map D.int) = decide (l = m)
  | [], [] => by simp [eqvs]
  | [], _ :: _ => by simp [eqvs]
  | _ :: _, [] => by simp [eqvs]
  | i :: r, j :: s => by
    rw [List.map_cons, List.map_cons]
    unfold eqvs eqv
    rw [eqvs_ints r s]
    have e : (i == j) = decide (i = j) := rfl
    rw [e]
    by_cases h1 : i = j <;> by_cases h2 : r = s <;> simp [h1, h2]
theorem eqD_ints {l m : List Int} : eqD (.tup (l.map D.int)) (.tup (m.map D.int)) = some (decide (l = m)) := by
  unfold eqD
  have e1 : plain (.tup (l.map D.int)) = true := by unfold plain; exact plains_ints l
  have e2 : plain (.tup (m.map D.int)) = true := by unfold plain; exact plains_ints m
  have e3 : depth (.tup (l.map D.int)) = 1 := by unfold depth; rw [depths_ints]
  have e4 : eqv (.tup (l.map D.int)) (.tup (m.map D.int)) = decide (l = m) := by unfold eqv; exact eqvs_ints l m
  have e5 : depth (.tup (m.map D.int)) = 1 := by unfold depth; rw [depths_ints]
  rw [e1, e2, e3, e4, e5]
  rfl
/-- naturals as data -/
def ctD (cs : List Nat) : List D := cs.map fun c => .int (c : Nat)
theorem ctD_len {cs : List Nat} : (ctD cs).length = cs.length := List.length_map ..
theorem eqD_ct {l m : List Nat} : eqD (.tup (ctD l)) (.tup (ctD m)) = some (decide (l = m)) := by
  have e : ∀ l : List Nat, ctD l = (l.map fun c : Nat => (c : Int)).map D.int := fun l => by unfold ctD; rw [List.map_map]; rfl
  rw [e, e, eqD_ints]
  congr 1
  have inj : ((l.map fun c : Nat => (c : Int)) = m.map fun c : Nat => (c : Int)) ↔ l = m := by
    constructor
    · intro h
      exact (List.map_inj_right (f := fun c : Nat => (c : Int)) (fun a b h => by have h : (a : Int) = (b : Int) := h; omega)).mp h
    · intro h
      rw [h]
  by_cases h : l = m <;> simp [h]
  intro z
  exact h (inj.mp z)
mutual
/-- data of any kind, its ints of a size -/
def okD (k : Nat) : D → Prop
  | .non => True
  | .bl _ => True
  | .str _ => True
  | .int i => Bd k i
  | .tup l => okDs k l
  | .lst l => okDs k l
  | .dic _ l => okDs k l
  | _ => False
def okDs (k : Nat) : List D → Prop
  | [] => True
  | d :: r => okD k d ∧ okDs k r
end
theorem okDs_mem {k : Nat} : ∀ {l : List D}, okDs k l → ∀ d, d ∈ l → okD k d
  | [], _, _, h => by cases h
  | e :: r, o, d, h => by
    unfold okDs at o
    rcases List.mem_cons.mp h with rfl | h
    · exact o.1
    · exact okDs_mem o.2 d h
theorem okDs_of {k : Nat} : ∀ {l : List D}, (∀ d, d ∈ l → okD k d) → okDs k l
  | [], _ => by unfold okDs; trivial
  | e :: r, h => by
    unfold okDs
    exact ⟨h e List.mem_cons_self, okDs_of fun d hd => h d (List.mem_cons_of_mem _ hd)⟩
mutual
theorem okD_mono' {k m : Nat} (h : k ≤ m) : ∀ {d : D}, okD k d → okD m d
  | .non, o => by unfold okD; trivial
  | .bl _, o => by unfold okD; trivial
  | .str _, o => by unfold okD; trivial
  | .int i, o => by unfold okD at o ⊢; exact o.mono h
  | .tup l, o => by unfold okD at o ⊢; exact okDs_mono h o
  | .lst l, o => by unfold okD at o ⊢; exact okDs_mono h o
  | .dic _ l, o => by unfold okD at o ⊢; exact okDs_mono h o
  | .ins _ _, o => by unfold okD at o; exact o.elim
  | .scr _, o => by unfold okD at o; exact o.elim
theorem okDs_mono {k m : Nat} (h : k ≤ m) : ∀ {l : List D}, okDs k l → okDs m l
  | [], _ => by unfold okDs; trivial
  | d :: r, o => by
    unfold okDs at o ⊢
    exact ⟨okD_mono' h o.1, okDs_mono h o.2⟩
end
theorem okD_mono {k m : Nat} {d : D} (o : okD k d) (h : k ≤ m) : okD m d := okD_mono' h o
theorem filterMap_some {α β : Type} {f : α → β} : ∀ {l : List α}, l.filterMap (fun x => some (f x)) = l.map f
  | [] => rfl
  | x :: r => by
    rw [List.filterMap_cons_some (f := fun x => some (f x)) (b := f x) rfl, filterMap_some]
    rfl
theorem okD_ty {k : Nat} {d : D} (h : okD k d) : (tyD d).isSome = true := by
  cases d <;> first | rfl | (unfold okD at h; exact h.elim)
theorem okD_tup {k : Nat} {l : List D} (h : okD k (.tup l)) : okDs k l := by unfold okD at h; exact h
theorem okD_int {k : Nat} {i : Int} (h : okD k (.int i)) : Bd k i := by unfold okD at h; exact h
def isIntD : D → Option Int
  | .int i => some i
  | _ => none
def isTupD : D → Option (List D)
  | .tup l => some l
  | _ => none
/-- a fraction in least terms -/
def isFrD : D → Option (Int × Int)
  | .tup [.int a, .int b] => if 1 ≤ b ∧ Int.gcd a b = 1 then some (a, b) else none
  | _ => none
theorem isFrD_ok {d : D} {p : Int × Int} (h : isFrD d = some p) : d = fr p ∧ Fr p := by
  unfold isFrD at h
  split at h
  · split at h
    · rename_i q
      cases h
      exact ⟨rfl, by unfold Fr; constructor <;> (simp only []; omega)⟩
    · cases h
  · cases h
theorem isFrD_fr {p : Int × Int} (h : Fr p) : isFrD (fr p) = some p := by
  have h1 := h.1
  show (if 1 ≤ p.2 ∧ Int.gcd p.1 p.2 = 1 then some (p.1, p.2) else none) = some p
  rw [if_pos ⟨by omega, h.2⟩]
/-- .. from an integer on -/
def isFrL (low : Int) (d : D) : Bool := match isFrD d with
  | some p => decide (low * p.2 ≤ p.1)
  | none => false
def isFr0 (d : D) : Option (Int × Int) := match isFrD d with
  | some p => if 0 ≤ p.1 then some p else none
  | none => none
/-- parts of so many -/
def partsD (d : D) (many : Int) : Option (List (Int × Int)) := match isTupD d with
  | some l => if (l.length : Int) = many then (match l.mapM isFr0 with
    | some ps => if totF ps = (1, 1) then some ps else none
    | none => none) else none
  | none => none
end Ev
end

section
set_option linter.all false
set_option maxRecDepth 100000
set_option maxHeartbeats 0

namespace Lw
open PySem PySem.Spec PyProof.Rows L2 Ev

def top (i : Nat) : Stmt := PySem.Challenge.pw_evenasks_k00_errors_keep_their_value.main.body.getD i (.Pass ⟨0, 0, 0, 0⟩)
/-- _law_pot -/
def f0 : FD := ⟨⟨("_law_pot", none), "_law_pot", "_law_pot", defArgs (top 30), defBody (top 30), defScope (top 30), [], []⟩, ["_law_script", "_law_place", "_law_cell", "_law_own", "_law_small"], ["_law_script", "_law_place"]⟩
/-- _law_take -/
def f1 : FD := ⟨⟨("_law_take", none), "_law_take", "_law_take", defArgs (top 31), defBody (top 31), defScope (top 31), [], []⟩, ["_law_pot_here", "_law_upto", "_law_prime", "_law_mix", "_law_digit"], ["_law_pot_here", "_law_upto"]⟩
/-- _law_of -/
def f2 : FD := ⟨⟨("_law_of", none), "_law_of", "_law_of", defArgs (top 32), defBody (top 32), defScope (top 32), [], []⟩, ["_law_pot_here", "_law_some"], ["_law_pot_here", "_law_some"]⟩
/-- _law_cells -/
def f3 : FD := ⟨⟨("_law_cells", none), "_law_cells", "_law_cells", defArgs (top 33), defBody (top 33), defScope (top 33), [], []⟩, ["_law_script", "_law_limit"], ["_law_script", "_law_limit"]⟩
/-- _law_odd -/
def f4 : FD := ⟨⟨("_law_odd", none), "_law_odd", "_law_odd", defArgs (top 34), defBody (top 34), defScope (top 34), [], []⟩, ["_law_pot_here", "_law_some"], ["_law_pot_here"]⟩
/-- _law_bent -/
def f5 : FD := ⟨⟨("_law_bent", none), "_law_bent", "_law_bent", defArgs (top 35), defBody (top 35), defScope (top 35), [], []⟩, ["_law_pot_here", "_law_value", "_law_at"], ["_law_pot_here", "_law_value"]⟩
/-- _law_made -/
def f6 : FD := ⟨⟨("_law_made", none), "_law_made", "_law_made", defArgs (top 36), defBody (top 36), defScope (top 36), [], []⟩, ["_law_value", "_law_found"], ["_law_value"]⟩
/-- _law_marks -/
def f7 : FD := ⟨⟨("_law_marks", none), "_law_marks", "_law_marks", defArgs (top 37), defBody (top 37), defScope (top 37), [], []⟩, ["_law_error", "_law_found"], ["_law_error"]⟩
/-- _law_right -/
def f8 : FD := ⟨⟨("_law_right", none), "_law_right", "_law_right", defArgs (top 38), defBody (top 38), defScope (top 38), [], []⟩, ["_law_pot_here", "_law_value", "_law_plain", "_law_at", "_law_error", "_law_place"], ["_law_pot_here"]⟩
/-- law -/
def f9 : FD := ⟨⟨("law", none), "law", "law", defArgs (top 39), defBody (top 39), defScope (top 39), [], []⟩, ["_law_script", "_law_place", "_law_pot_here", "_law_lap"], ["_law_script"]⟩
def fs : List FD := [f0, f1, f2, f3, f4, f5, f6, f7, f8, f9]
def cs : List (Str × D) := []
abbrev Fn.law_pot : Nat := 0
abbrev Fn.law_take : Nat := 1
abbrev Fn.law_of : Nat := 2
abbrev Fn.law_cells : Nat := 3
abbrev Fn.law_odd : Nat := 4
abbrev Fn.law_bent : Nat := 5
abbrev Fn.law_made : Nat := 6
abbrev Fn.law_marks : Nat := 7
abbrev Fn.law_right : Nat := 8
abbrev Fn.law : Nat := 9
/-- slots: _law_script=0 _law_place=1 _law_cell=2 _law_own=3 _law_small=4 -/
def d_law_pot : Def := ⟨2, 5, [.asg (.v 2) (.ite (.cmp .lt (.v 1) (.blt .len [(.v 0)])) (.sub (.v 0) (.v 1)) (.bin .add (.bin .mul (.c (.int 263)) (.v 1)) (.c (.int 109)))),
    .asg (.v 3) (.bin .mul (.bin .mod (.blt .int [(.blt .abs [(.v 2)])]) (.bin .pow (.bin .pow (.c (.int 10)) (.c (.int 60))) (.c (.int 5)))) (.blt .int [(.cmp .ge (.blt .abs [(.v 2)]) (.bin .pow (.c (.int 10)) (.c (.int 18))))])),
    .asg (.v 4) (.bin .mod (.blt .int [(.v 2)]) (.c (.int 2305843009213693951))),
    .ret (.lst [(.v 3), (.bin .mod (.blt .int [(.bin .add (.bin .add (.bin .mul (.v 4) (.c (.int 74357))) (.bin .mul (.bin .mul (.c (.int 7793)) (.v 1)) (.v 1))) (.c (.int 181)))]) (.c (.int 2305843009213693921))), (.c (.int 0))])]⟩
/-- slots: _law_pot_here=0 _law_upto=1 _law_prime=2 _law_mix=3 _law_digit=4 -/
def d_law_take : Def := ⟨2, 5, [.ite (.cmp .gt (.sub (.v 0) (.c (.int 0))) (.c (.int 0))) [.asg (.v 4) (.bin .mod (.blt .int [(.sub (.v 0) (.c (.int 0)))]) (.v 1)),
    .setI 0 (.c (.int 0)) (.bin .fdiv (.sub (.v 0) (.c (.int 0))) (.v 1)),
    .retm 4] [],
    .setI 0 (.c (.int 2)) (.bin .add (.sub (.v 0) (.c (.int 2))) (.c (.int 1))),
    .asg (.v 2) (.sub (.lst [(.c (.int 2147483647)), (.c (.int 2147483629)), (.c (.int 2147483587)), (.c (.int 2147483579)), (.c (.int 2147483563))]) (.bin .mod (.blt .int [(.sub (.v 0) (.c (.int 2)))]) (.c (.int 5)))),
    .asg (.v 3) (.bin .mod (.blt .int [(.bin .pow (.blt .int [(.bin .add (.bin .add (.sub (.v 0) (.c (.int 1))) (.bin .mul (.bin .mul (.c (.int 98809)) (.sub (.v 0) (.c (.int 2)))) (.sub (.v 0) (.c (.int 2))))) (.c (.int 91)))]) (.c (.int 3)))]) (.v 2)),
    .asg (.v 3) (.bin .mod (.blt .int [(.bin .mul (.v 3) (.bin .add (.bin .mod (.blt .int [(.v 3)]) (.c (.int 10513))) (.bin .mul (.c (.int 187)) (.sub (.v 0) (.c (.int 2))))))]) (.c (.int 2305843009213693907))),
    .ret (.bin .mod (.blt .int [(.bin .fdiv (.v 3) (.c (.int 167)))]) (.v 1))]⟩
/-- slots: _law_pot_here=0 _law_some=1 -/
def d_law_of : Def := ⟨2, 2, [.ret (.sub (.v 1) (.call Fn.law_take [(.v 0), (.blt .len [(.v 1)])]))]⟩
/-- slots: _law_script=0 _law_limit=1 -/
def d_law_cells : Def := ⟨2, 2, [.ret (.lran [(.blt .max [(.c (.int 1)), (.blt .min [(.v 1), (.blt .len [(.v 0)])])])])]⟩
/-- slots: _law_pot_here=0 _law_some=1 -/
def d_law_odd : Def := ⟨1, 2, [.asg (.v 1) (.lst [(.c .non), (.c (.bl true)), (.c (.bl false)), (.c (.int 0)), (.c (.int 1)), (.neg (.c (.int 1))), (.c (.int 2)), (.c (.int 7)), (.c (.str "")), (.c (.str "a")), (.c (.str "read")), (.c (.str "write")), (.c (.str "dead")), (.tup []), (.lst []), (.c (.dic [] [])), (.tup [(.c (.int 0))]), (.tup [(.tup [])]), (.lst [(.c (.int 0))]), (.c (.str "A"))]),
    .asg (.v 1) (.bin .add (.v 1) (.lst [(.tup [(.c (.int 0)), (.c (.int 1))]), (.tup [(.c (.int 1)), (.c (.int 1))]), (.tup [(.c (.int 1)), (.c (.int 2))]), (.tup [(.c (.int 2)), (.c (.int 4))]), (.tup [(.c (.int 1)), (.c (.int 0))]), (.tup [(.c (.bl true)), (.c (.int 1))]), (.tup [(.c (.str "a"))]), (.tup [(.c (.str "a")), (.c (.str "b"))]), (.tup [(.tup [(.c (.int 1)), (.c (.int 1))])]), (.tup [(.c .non)]), (.bin .pow (.c (.int 10)) (.c (.int 8)))])),
    .ret (.call Fn.law_of [(.v 0), (.v 1)])]⟩
/-- slots: _law_pot_here=0 _law_value=1 _law_at=2 -/
def d_law_bent : Def := ⟨2, 3, [.ite (.and (.blt .istuple [(.v 1)]) (.and (.cmp .ne (.v 1) (.tup [])) (.cmp .gt (.call Fn.law_take [(.v 0), (.c (.int 7))]) (.c (.int 0))))) [.asg (.v 2) (.call Fn.law_take [(.v 0), (.blt .len [(.v 1)])]),
    .ret (.bin .add (.bin .add (.slc (.v 1) (.c .non) (.v 2)) (.tup [(.call Fn.law_bent [(.v 0), (.sub (.v 1) (.v 2))])])) (.slc (.v 1) (.bin .add (.v 2) (.c (.int 1))) (.c .non)))] [],
    .ite (.blt .istuple [(.v 1)]) [.ret (.call Fn.law_of [(.v 0), (.lst [(.blt .list [(.v 1)]), (.slc (.v 1) (.c (.int 1)) (.c .non)), (.slc (.v 1) (.c .non) (.neg (.c (.int 1)))), (.bin .add (.v 1) (.slc (.v 1) (.neg (.c (.int 1))) (.c .non))), (.un .rev (.v 1)), (.tup []), (.c .non)])])] [],
    .ite (.and (.blt .isint [(.v 1)]) (.not (.blt .isbool [(.v 1)]))) [.ret (.call Fn.law_of [(.v 0), (.lst [(.bin .add (.v 1) (.c (.int 1))), (.bin .sub (.v 1) (.c (.int 1))), (.cmp .eq (.v 1) (.c (.int 1))), (.c (.str "1")), (.c .non), (.c (.int 0)), (.neg (.v 1)), (.bin .mul (.c (.int 2)) (.v 1))])])] [],
    .ite (.blt .isstr [(.v 1)]) [.ret (.call Fn.law_of [(.v 0), (.lst [(.bin .add (.v 1) (.c (.str "a"))), (.slc (.v 1) (.c .non) (.neg (.c (.int 1)))), (.c (.str "never")), (.c (.str "read")), (.c (.str "load")), (.c (.str "a")), (.c (.str "b")), (.c .non), (.c (.int 0)), (.lst [(.v 1)])])])] [],
    .ret (.call Fn.law_odd [(.v 0)])]⟩
/-- slots: _law_value=0 _law_found=1 -/
def d_law_made : Def := ⟨1, 2, [.asg (.v 1) (.lst [(.exn 1 (.v 0)), (.exn 20 (.v 0)), (.exn 17 (.v 0)), (.exn 16 (.v 0)), (.exn 26 (.v 0)), (.exn 2 (.v 0))]),
    .asg (.v 1) (.bin .add (.v 1) (.lst [(.exn 27 (.v 0)), (.exn 5 (.v 0)), (.exn 18 (.v 0)), (.exn 14 (.v 0)), (.exn 19 (.v 0)), (.exn 9 (.v 0))])),
    .asg (.v 1) (.bin .add (.v 1) (.lst [(.exn 4 (.v 0)), (.exn 12 (.v 0)), (.exn 10 (.v 0)), (.exn 11 (.v 0)), (.exn 15 (.v 0)), (.exn 21 (.v 0))])),
    .asg (.v 1) (.bin .add (.v 1) (.lst [(.exn 6 (.v 0)), (.exn 8 (.v 0)), (.exn 3 (.v 0)), (.exn 7 (.v 0)), (.exn 24 (.v 0)), (.exn 23 (.v 0))])),
    .ret (.bin .add (.v 1) (.lst [(.exn 25 (.v 0)), (.exn 13 (.v 0)), (.exn 22 (.v 0))]))]⟩
/-- slots: _law_error=0 _law_found=1 -/
def d_law_marks : Def := ⟨1, 2, [.asg (.v 1) (.lst [(.un (.isx 28 [1]) (.v 0)), (.un (.isx 28 [20]) (.v 0)), (.un (.isx 28 [17]) (.v 0))]),
    .asg (.v 1) (.bin .add (.v 1) (.lst [(.un (.isx 28 [16]) (.v 0)), (.un (.isx 28 [26]) (.v 0)), (.un (.isx 28 [2]) (.v 0))])),
    .asg (.v 1) (.bin .add (.v 1) (.lst [(.un (.isx 28 [27]) (.v 0)), (.un (.isx 28 [5]) (.v 0)), (.un (.isx 28 [18]) (.v 0))])),
    .asg (.v 1) (.bin .add (.v 1) (.lst [(.un (.isx 28 [14]) (.v 0)), (.un (.isx 28 [19]) (.v 0)), (.un (.isx 28 [9]) (.v 0))])),
    .asg (.v 1) (.bin .add (.v 1) (.lst [(.un (.isx 28 [4]) (.v 0)), (.un (.isx 28 [12]) (.v 0)), (.un (.isx 28 [10]) (.v 0))])),
    .asg (.v 1) (.bin .add (.v 1) (.lst [(.un (.isx 28 [11]) (.v 0)), (.un (.isx 28 [15]) (.v 0)), (.un (.isx 28 [21]) (.v 0))])),
    .asg (.v 1) (.bin .add (.v 1) (.lst [(.un (.isx 28 [6]) (.v 0)), (.un (.isx 28 [8]) (.v 0)), (.un (.isx 28 [3]) (.v 0))])),
    .asg (.v 1) (.bin .add (.v 1) (.lst [(.un (.isx 28 [7]) (.v 0)), (.un (.isx 28 [24]) (.v 0)), (.un (.isx 28 [23]) (.v 0))])),
    .ret (.bin .add (.v 1) (.lst [(.un (.isx 28 [25]) (.v 0)), (.un (.isx 28 [13]) (.v 0)), (.un (.isx 28 [22]) (.v 0))]))]⟩
/-- slots: _law_pot_here=0 _law_value=1 _law_plain=2 _law_at=3 _law_error=4 _law_place=5 -/
def d_law_right : Def := ⟨1, 6, [.asg (.v 1) (.call Fn.law_bent [(.v 0), (.tup [(.call Fn.law_odd [(.v 0)]), (.tup [(.call Fn.law_odd [(.v 0)]), (.c (.str "a"))]), (.call Fn.law_take [(.v 0), (.c (.int 9))])])]),
    .for_ (.tup [(.v 3), (.v 4)]) (.enum (.call Fn.law_made [(.v 1)])) [.ite (.or (.not (.un (.isx 28 [0, 1, 2, 3, 4, 5, 6, 7, 8, 9, 10, 11, 12, 13, 14, 15, 16, 17, 18, 19, 20, 21, 22, 23, 24, 25, 26, 27]) (.v 4))) (.or (.not (.un (.isx 28 [0, 1, 2, 3, 4, 5, 6, 7, 8, 9, 10, 11, 12, 13, 14, 15, 16, 17, 18, 19, 20, 21, 22, 23, 24, 25, 26, 27]) (.v 4))) (.cmp .ne (.un .rpr (.un (.fld "value") (.v 4))) (.un .rpr (.v 1))))) [.ret (.c (.bl false))] [],
    .ite (.cmp .ne (.call Fn.law_marks [(.v 4)]) (.lc (.cmp .eq (.v 5) (.v 3)) (.v 5) (.range [(.c (.int 27))]) [] [5])) [.ret (.c (.bl false))] []],
    .asg (.v 2) (.exn 0 (.v 1)),
    .ret (.and (.cmp .eq (.un .rpr (.un (.fld "value") (.v 2))) (.un .rpr (.v 1))) (.and (.un (.isx 28 [0, 1, 2, 3, 4, 5, 6, 7, 8, 9, 10, 11, 12, 13, 14, 15, 16, 17, 18, 19, 20, 21, 22, 23, 24, 25, 26, 27]) (.v 2)) (.cmp .notin (.c (.bl true)) (.call Fn.law_marks [(.v 2)]))))]⟩
/-- slots: _law_script=0 _law_place=1 _law_pot_here=2 _law_lap=3 -/
def d_law : Def := ⟨1, 4, [.for_ (.v 1) (.call Fn.law_cells [(.v 0), (.c (.int 4))]) [.asg (.v 2) (.call Fn.law_pot [(.v 0), (.v 1)]),
    .ite (.not (.blt .all [(.lc (.call Fn.law_right [(.v 2)]) (.v 3) (.range [(.c (.int 2))]) [] [3])])) [.ret (.c (.bl false))] []],
    .ret (.c (.bl true))]⟩
def ens : List Str := (["AskError", "BadBook", "BadKind", "NoHouse", "BadStrength", "BadLot", "Full", "NoLot", "Last", "BadShare", "BadWay", "BadWeights", "BadStretch", "OtherHouses", "BadNumber", "Dead", "BadHouses", "BadDelays", "BadMost", "BadOffers"] : List Str) ++ (["BadChances", "Down", "Up", "NothingToUndo", "NothingToRedo", "NoTrial", "BadJournal", "BadLine"] : List Str)
def eis : List (Str × Nat × List Nat) := [("AskError", 28, [0, 1, 2, 3, 4, 5, 6, 7, 8, 9, 10, 11, 12, 13, 14, 15, 16, 17, 18, 19, 20, 21, 22, 23, 24, 25, 26, 27]), ("BadBook", 28, [1]), ("BadChances", 28, [20]), ("BadDelays", 28, [17]), ("BadHouses", 28, [16]), ("BadJournal", 28, [26]), ("BadKind", 28, [2]), ("BadLine", 28, [27]), ("BadLot", 28, [5]), ("BadMost", 28, [18]), ("BadNumber", 28, [14]), ("BadOffers", 28, [19]), ("BadShare", 28, [9]), ("BadStrength", 28, [4]), ("BadStretch", 28, [12]), ("BadWay", 28, [10]), ("BadWeights", 28, [11]), ("Dead", 28, [15]), ("Down", 28, [21]), ("Full", 28, [6]), ("Last", 28, [8]), ("NoHouse", 28, [3]), ("NoLot", 28, [7]), ("NoTrial", 28, [25]), ("NothingToRedo", 28, [24]), ("NothingToUndo", 28, [23]), ("OtherHouses", 28, [13]), ("Up", 28, [22]), ("ValueError", 28, [0, 1, 2, 3, 4, 5, 6, 7, 8, 9, 10, 11, 12, 13, 14, 15, 16, 17, 18, 19, 20, 21, 22, 23, 24, 25, 26, 27])]
abbrev ers : Er := erOf ens eis
def exL (K : PySem.W.Frag) : Bool := exB cs K && errB PySem.Challenge.pw_evenasks_k00_errors_keep_their_value ens eis K
def irs : List Def := [d_law_pot, d_law_take, d_law_of, d_law_cells, d_law_odd, d_law_bent, d_law_made, d_law_marks, d_law_right, d_law]
theorem ir_ok : irs = fs.map (compD fs cs ers) := by kernel_rfl
theorem sc0 : FnScope f0.N f0.ps f0.d.scope := ⟨rfl, rfl, rfl, by decide +kernel, rfl, by decide +kernel, by decide +kernel⟩
theorem sc1 : FnScope f1.N f1.ps f1.d.scope := ⟨rfl, rfl, rfl, by decide +kernel, rfl, by decide +kernel, by decide +kernel⟩
theorem sc2 : FnScope f2.N f2.ps f2.d.scope := ⟨rfl, rfl, rfl, by decide +kernel, rfl, by decide +kernel, by decide +kernel⟩
theorem sc3 : FnScope f3.N f3.ps f3.d.scope := ⟨rfl, rfl, rfl, by decide +kernel, rfl, by decide +kernel, by decide +kernel⟩
theorem sc4 : FnScope f4.N f4.ps f4.d.scope := ⟨rfl, rfl, rfl, by decide +kernel, rfl, by decide +kernel, by decide +kernel⟩
theorem sc5 : FnScope f5.N f5.ps f5.d.scope := ⟨rfl, rfl, rfl, by decide +kernel, rfl, by decide +kernel, by decide +kernel⟩
theorem sc6 : FnScope f6.N f6.ps f6.d.scope := ⟨rfl, rfl, rfl, by decide +kernel, rfl, by decide +kernel, by decide +kernel⟩
theorem sc7 : FnScope f7.N f7.ps f7.d.scope := ⟨rfl, rfl, rfl, by decide +kernel, rfl, by decide +kernel, by decide +kernel⟩
theorem sc8 : FnScope f8.N f8.ps f8.d.scope := ⟨rfl, rfl, rfl, by decide +kernel, rfl, by decide +kernel, by decide +kernel⟩
theorem sc9 : FnScope f9.N f9.ps f9.d.scope := ⟨rfl, rfl, rfl, by decide +kernel, rfl, by decide +kernel, by decide +kernel⟩
theorem all_fs {p : FD → Prop} (h0 : p f0) (h1 : p f1) (h2 : p f2) (h3 : p f3) (h4 : p f4) (h5 : p f5) (h6 : p f6) (h7 : p f7) (h8 : p f8) (h9 : p f9) : ∀ d, d ∈ fs → p d := fun d hd => by
  unfold fs at hd
  simp only [List.mem_cons, List.not_mem_nil, or_false] at hd
  rcases hd with rfl | rfl | rfl | rfl | rfl | rfl | rfl | rfl | rfl | rfl <;> assumption
theorem bn0 (K : PySem.W.Frag) (fd : FuncData) (j : Nat) (hj : j ≤ f0.d.dfl.length) (F : FunD K f0.d.name f0.d.qual f0.d.params f0.d.body f0.d.scope (f0.d.dvs K) [] (He.fAd K f0.d.at_) fd) : ∃ ds, Vals ((f0.d.dvs K).drop (f0.d.dfl.length - j)) ds ∧ Binds K fd f0.ps ds := by
  cases (Nat.le_zero.mp hj)
  exact ⟨[], .nil, FunD.bindsN F fun _ _ _ _ _ _ us hl => match us, hl with | [_, _], _ => rfl⟩
theorem bn1 (K : PySem.W.Frag) (fd : FuncData) (j : Nat) (hj : j ≤ f1.d.dfl.length) (F : FunD K f1.d.name f1.d.qual f1.d.params f1.d.body f1.d.scope (f1.d.dvs K) [] (He.fAd K f1.d.at_) fd) : ∃ ds, Vals ((f1.d.dvs K).drop (f1.d.dfl.length - j)) ds ∧ Binds K fd f1.ps ds := by
  cases (Nat.le_zero.mp hj)
  exact ⟨[], .nil, FunD.bindsN F fun _ _ _ _ _ _ us hl => match us, hl with | [_, _], _ => rfl⟩
theorem bn2 (K : PySem.W.Frag) (fd : FuncData) (j : Nat) (hj : j ≤ f2.d.dfl.length) (F : FunD K f2.d.name f2.d.qual f2.d.params f2.d.body f2.d.scope (f2.d.dvs K) [] (He.fAd K f2.d.at_) fd) : ∃ ds, Vals ((f2.d.dvs K).drop (f2.d.dfl.length - j)) ds ∧ Binds K fd f2.ps ds := by
  cases (Nat.le_zero.mp hj)
  exact ⟨[], .nil, FunD.bindsN F fun _ _ _ _ _ _ us hl => match us, hl with | [_, _], _ => rfl⟩
theorem bn3 (K : PySem.W.Frag) (fd : FuncData) (j : Nat) (hj : j ≤ f3.d.dfl.length) (F : FunD K f3.d.name f3.d.qual f3.d.params f3.d.body f3.d.scope (f3.d.dvs K) [] (He.fAd K f3.d.at_) fd) : ∃ ds, Vals ((f3.d.dvs K).drop (f3.d.dfl.length - j)) ds ∧ Binds K fd f3.ps ds := by
  cases (Nat.le_zero.mp hj)
  exact ⟨[], .nil, FunD.bindsN F fun _ _ _ _ _ _ us hl => match us, hl with | [_, _], _ => rfl⟩
theorem bn4 (K : PySem.W.Frag) (fd : FuncData) (j : Nat) (hj : j ≤ f4.d.dfl.length) (F : FunD K f4.d.name f4.d.qual f4.d.params f4.d.body f4.d.scope (f4.d.dvs K) [] (He.fAd K f4.d.at_) fd) : ∃ ds, Vals ((f4.d.dvs K).drop (f4.d.dfl.length - j)) ds ∧ Binds K fd f4.ps ds := by
  cases (Nat.le_zero.mp hj)
  exact ⟨[], .nil, FunD.bindsN F fun _ _ _ _ _ _ us hl => match us, hl with | [_], _ => rfl⟩
theorem bn5 (K : PySem.W.Frag) (fd : FuncData) (j : Nat) (hj : j ≤ f5.d.dfl.length) (F : FunD K f5.d.name f5.d.qual f5.d.params f5.d.body f5.d.scope (f5.d.dvs K) [] (He.fAd K f5.d.at_) fd) : ∃ ds, Vals ((f5.d.dvs K).drop (f5.d.dfl.length - j)) ds ∧ Binds K fd f5.ps ds := by
  cases (Nat.le_zero.mp hj)
  exact ⟨[], .nil, FunD.bindsN F fun _ _ _ _ _ _ us hl => match us, hl with | [_, _], _ => rfl⟩
theorem bn6 (K : PySem.W.Frag) (fd : FuncData) (j : Nat) (hj : j ≤ f6.d.dfl.length) (F : FunD K f6.d.name f6.d.qual f6.d.params f6.d.body f6.d.scope (f6.d.dvs K) [] (He.fAd K f6.d.at_) fd) : ∃ ds, Vals ((f6.d.dvs K).drop (f6.d.dfl.length - j)) ds ∧ Binds K fd f6.ps ds := by
  cases (Nat.le_zero.mp hj)
  exact ⟨[], .nil, FunD.bindsN F fun _ _ _ _ _ _ us hl => match us, hl with | [_], _ => rfl⟩
theorem bn7 (K : PySem.W.Frag) (fd : FuncData) (j : Nat) (hj : j ≤ f7.d.dfl.length) (F : FunD K f7.d.name f7.d.qual f7.d.params f7.d.body f7.d.scope (f7.d.dvs K) [] (He.fAd K f7.d.at_) fd) : ∃ ds, Vals ((f7.d.dvs K).drop (f7.d.dfl.length - j)) ds ∧ Binds K fd f7.ps ds := by
  cases (Nat.le_zero.mp hj)
  exact ⟨[], .nil, FunD.bindsN F fun _ _ _ _ _ _ us hl => match us, hl with | [_], _ => rfl⟩
theorem bn8 (K : PySem.W.Frag) (fd : FuncData) (j : Nat) (hj : j ≤ f8.d.dfl.length) (F : FunD K f8.d.name f8.d.qual f8.d.params f8.d.body f8.d.scope (f8.d.dvs K) [] (He.fAd K f8.d.at_) fd) : ∃ ds, Vals ((f8.d.dvs K).drop (f8.d.dfl.length - j)) ds ∧ Binds K fd f8.ps ds := by
  cases (Nat.le_zero.mp hj)
  exact ⟨[], .nil, FunD.bindsN F fun _ _ _ _ _ _ us hl => match us, hl with | [_], _ => rfl⟩
theorem bn9 (K : PySem.W.Frag) (fd : FuncData) (j : Nat) (hj : j ≤ f9.d.dfl.length) (F : FunD K f9.d.name f9.d.qual f9.d.params f9.d.body f9.d.scope (f9.d.dvs K) [] (He.fAd K f9.d.at_) fd) : ∃ ds, Vals ((f9.d.dvs K).drop (f9.d.dfl.length - j)) ds ∧ Binds K fd f9.ps ds := by
  cases (Nat.le_zero.mp hj)
  exact ⟨[], .nil, FunD.bindsN F fun _ _ _ _ _ _ us hl => match us, hl with | [_], _ => rfl⟩
theorem prT : PrT fs cs ers irs where
  ir := ir_ok
  sc := all_fs sc0 sc1 sc2 sc3 sc4 sc5 sc6 sc7 sc8 sc9
  at_ := all_fs rfl rfl rfl rfl rfl rfl rfl rfl rfl rfl
  kw := all_fs rfl rfl rfl rfl rfl rfl rfl rfl rfl rfl
  dv := all_fs ⟨rfl, by decide⟩ ⟨rfl, by decide⟩ ⟨rfl, by decide⟩ ⟨rfl, by decide⟩ ⟨rfl, by decide⟩ ⟨rfl, by decide⟩ ⟨rfl, by decide⟩ ⟨rfl, by decide⟩ ⟨rfl, by decide⟩ ⟨rfl, by decide⟩
  bnd := all_fs bn0 bn1 bn2 bn3 bn4 bn5 bn6 bn7 bn8 bn9
abbrev R : PySem.W.OpenRow := PySem.W.OpenLaw.row PySem.Challenge.rw_evenasks_k00_errors_keep_their_value
abbrev hk : PySem.W.Hook := Ev.hookY 4 (faOf fs) (fs.map (·.d)) exL
def ob (s : PySem.W.SharedT) : He.AlX := Ev.obsY 4 (faOf fs) (fs.map (·.d)) exL (HandSHeadRun.getT s)
theorem ob_eq (s : PySem.W.SharedT) : ob s = hk.obs s.abs := Ev.obsY_eq (HandSHeadRun.getT_eq s)
def names : List Str := (["AskError", "BadBook", "BadKind", "NoHouse", "BadStrength", "BadLot", "Full", "NoLot", "Last", "BadShare", "BadWay", "BadWeights", "BadStretch", "OtherHouses", "BadNumber", "Dead", "BadHouses", "BadDelays", "BadMost", "BadOffers"] : List Str) ++ (["BadChances", "Down", "Up", "NothingToUndo", "NothingToRedo", "NoTrial", "BadJournal", "BadLine", "_law_pot", "_law_take", "_law_of", "_law_cells", "_law_odd", "_law_bent", "_law_made", "_law_marks", "_law_right"] : List Str)
theorem run (w : World) : HandSHeadRun.RunEq R (PySem.W.view R.prog [39]) hk ob 8000 names w := by
  intro os
  kernel_rfl
abbrev pr : Pr := prOf irs fs cs
abbrev Ys (n : Nat) : Sys := ⟨Ev.call pr n, WW, pr.gl, pr.dfl⟩
theorem c_law_pot {n : Nat} {ts : List T} : Ev.call pr (n + 1) Fn.law_pot ts = runDef (Ys n) d_law_pot ts := rfl
@[simp] theorem df_law_pot : pr.dfl Fn.law_pot 2 = [] := by rfl
theorem c_law_take {n : Nat} {ts : List T} : Ev.call pr (n + 1) Fn.law_take ts = runDef (Ys n) d_law_take ts := rfl
@[simp] theorem df_law_take : pr.dfl Fn.law_take 2 = [] := by rfl
theorem c_law_of {n : Nat} {ts : List T} : Ev.call pr (n + 1) Fn.law_of ts = runDef (Ys n) d_law_of ts := rfl
@[simp] theorem df_law_of : pr.dfl Fn.law_of 2 = [] := by rfl
theorem c_law_cells {n : Nat} {ts : List T} : Ev.call pr (n + 1) Fn.law_cells ts = runDef (Ys n) d_law_cells ts := rfl
@[simp] theorem df_law_cells : pr.dfl Fn.law_cells 2 = [] := by rfl
theorem c_law_odd {n : Nat} {ts : List T} : Ev.call pr (n + 1) Fn.law_odd ts = runDef (Ys n) d_law_odd ts := rfl
@[simp] theorem df_law_odd : pr.dfl Fn.law_odd 1 = [] := by rfl
theorem c_law_bent {n : Nat} {ts : List T} : Ev.call pr (n + 1) Fn.law_bent ts = runDef (Ys n) d_law_bent ts := rfl
@[simp] theorem df_law_bent : pr.dfl Fn.law_bent 2 = [] := by rfl
theorem c_law_made {n : Nat} {ts : List T} : Ev.call pr (n + 1) Fn.law_made ts = runDef (Ys n) d_law_made ts := rfl
@[simp] theorem df_law_made : pr.dfl Fn.law_made 1 = [] := by rfl
theorem c_law_marks {n : Nat} {ts : List T} : Ev.call pr (n + 1) Fn.law_marks ts = runDef (Ys n) d_law_marks ts := rfl
@[simp] theorem df_law_marks : pr.dfl Fn.law_marks 1 = [] := by rfl
theorem c_law_right {n : Nat} {ts : List T} : Ev.call pr (n + 1) Fn.law_right ts = runDef (Ys n) d_law_right ts := rfl
@[simp] theorem df_law_right : pr.dfl Fn.law_right 1 = [] := by rfl
theorem c_law {n : Nat} {ts : List T} : Ev.call pr (n + 1) Fn.law ts = runDef (Ys n) d_law ts := rfl
@[simp] theorem df_law : pr.dfl Fn.law 1 = [] := by rfl
end Lw
open PySem PySem.W PySem.Calls PyProof.Rows
theorem law_of {n : Nat} (hn : n ≤ 57) (hm : ∀ ns : List Int, ns.length ≤ 63 → (∀ z ∈ ns, PySem.Builtin.Int.intBits z ≤ 1048576) → ∃ ts', Ev.call Lw.pr n 9 [.val (.scr ns)] = some (.ok (.val (.bl true)), ts')) : PySem.Challenge.rw_evenasks_k00_errors_keep_their_value.Holds := by
  w_on; o_law
  refine HandSHeadRun.head_any (r := Lw.R) (q := view Lw.R.prog [39]) (H := Lw.hk) (ob := Lw.ob) (M := 8000) (loose := Lw.names) (d := HandSHeadRun.topDef Lw.R.prog 39) (kwd := []) Lw.ob_eq
    (by kernel_rfl) (fun s => by kernel_rfl) Lw.run (by kernel_rfl) (by kernel_rfl) (by kernel_rfl) (by rfl) (by first | assumption | decide +kernel) (by decide +kernel) ⟨rfl, rfl, rfl, rfl, rfl, by decide +kernel⟩ ?hw ?hc
  case hw => w_witness2
  case hc =>
    refine Ev.walk_G (l := PySem.Challenge.rw_evenasks_k00_errors_keep_their_value) (n := 63) (k := n + 3) (x := "_law_script") (CX := fun w => L2.CX Lw.R.prog w) rfl (by decide) (by kernel_rfl) (L2.Room.mono (k := 60) ⟨rfl, by decide, by decide⟩ (by omega)) ?F (fun w => Ev.cx_none)
    intro w mg fa h Y G hmg0
    obtain ⟨K, KX, c⟩ := Y
    have hmg : mg ("law" : PySem.Str) = some (.ref fa) := by
      have e : (HandSHeadRun.topDef Lw.R.prog 39).name = ("law" : PySem.Str) := by kernel_rfl
      rw [← e]
      exact hmg0
    exact ⟨K, KX, Ev.law_at (d := Lw.f9) (n := n) (i := 9) ⟨fun _ => 0, fun _ => [], Ev.addrX K Lw.ens⟩ Lw.prT KX G c (He.ba c.more).1 rfl rfl hmg (fun K fd F s u => L2.FunD.bindsA (ps := [("_law_script" : PySem.Str)]) F (fun _ _ _ _ _ _ us hl => match us, hl with | [_], _ => rfl) s [u] rfl) (fun base kb nb => Ev.erK_of kb nb (by decide) rfl (He.ba c.more).2) hm⟩
end

section
set_option linter.all false
set_option maxRecDepth 100000
set_option maxHeartbeats 4000000
/-! the laws' own helpers. -/
namespace Lw
open PySem L2 Ev
theorem succ_of' {n : Nat} (h : 1 ≤ n) : ∃ m, n = m + 1 := ⟨n - 1, by omega⟩
/-- a pot from which so many can be taken -/
def PotOk (k : Nat) (l : List D) : Prop := ∃ a b c : Int, l = [.int a, .int b, .int c] ∧ (0 ≤ a ∧ Builtin.Int.intBits a ≤ 1000) ∧ (0 ≤ b ∧ b < 2 ^ 62) ∧ 0 ≤ c ∧ c + k ≤ 2 ^ 39
theorem PotOk.mono {k m : Nat} {l : List D} (h : PotOk k l) (le : m ≤ k) : PotOk m l := by
  obtain ⟨a, b, c, h1, h2, h3, h4, h5⟩ := h
  exact ⟨a, b, c, h1, h2, h3, h4, by omega⟩
theorem take_spec {n : Nat} (hn : 1 ≤ n) {k : Nat} {l : List D} (h : PotOk (k + 1) l) {u : Int} (hu : 0 < u) :
    ∃ (r : Nat) (l' : List D), Ev.call pr n Fn.law_take [.lst l, .val (.int u)] = some (.ok (.val (.int (r : Nat))), [.lst l', .val (.int u)]) ∧ (r : Int) < u ∧ PotOk k l' := by
  obtain ⟨m, rfl⟩ := succ_of' hn
  obtain ⟨a, b, c, rfl, h1, h2, h3, h4⟩ := h
  obtain ⟨r, a', c', e, q1, q2, q3, q4⟩ := take_ok (Ys m) (a := a) (b := b) (c := c) (u := u) h1 h2 ⟨h3, by omega⟩ hu
  obtain ⟨r', rfl⟩ : ∃ r' : Nat, r = r' := ⟨r.toNat, by omega⟩
  exact ⟨r', _, e, q1.2, a', b, c', rfl, q2, h2, q3, by omega⟩
theorem of_spec {n : Nat} (hn : 2 ≤ n) {k : Nat} {l : List D} (h : PotOk (k + 1) l) {d : D} {ds : List D} (hd : d = .lst ds ∨ d = .tup ds) (hs : ds ≠ []) :
    ∃ (i : Nat) (x : D) (l' : List D), Ev.call pr n Fn.law_of [.lst l, .val d] = some (.ok (.val x), [.lst l', .val d]) ∧ ds[i]? = some x ∧ PotOk k l' := by
  obtain ⟨m, rfl⟩ := succ_of' (show 1 ≤ n by omega)
  have pos : 0 < ds.length := List.length_pos_iff.mpr hs
  obtain ⟨r, l', e, q1, q2⟩ := take_spec (n := m) (by omega) h (u := ds.length) (by omega)
  have hr : r < ds.length := by omega
  refine ⟨r, ds[r], l', ?_, List.getElem?_eq_getElem hr, q2⟩
  rw [c_law_of]
  have g : ds[r]? = some ds[r] := List.getElem?_eq_getElem hr
  rcases hd with rfl | rfl
  · simp [d_law_of, asgSs, asgS, e, s_lk, g]
  · simp [d_law_of, asgSs, asgS, e, s_tk, g]
theorem pot_spec {n : Nat} (hn : 1 ≤ n) {ns : List Int} {k : Nat} (hk : k < 1000) :
    ∃ l, Ev.call pr n Fn.law_pot [.val (.scr ns), .val (.int (k : Nat))] = some (.ok (.lst l), [.val (.scr ns), .val (.int (k : Nat))]) ∧ PotOk (2 ^ 39) l := by
  obtain ⟨m, rfl⟩ := succ_of' hn
  obtain ⟨a, b, e, q1, q2⟩ := pot_ok (Ys m) (ns := ns) hk
  exact ⟨_, e, a, b, 0, rfl, q1, q2, by decide, by decide⟩
theorem cells_spec {n : Nat} (hn : 1 ≤ n) {ns : List Int} {k : Nat} (h1 : 1 ≤ k) (hk : k ≤ 100) :
    ∃ j : Nat, 1 ≤ j ∧ j ≤ k ∧ Ev.call pr n Fn.law_cells [.val (.scr ns), .val (.int (k : Nat))] = some (.ok (.lst ((List.range j).map fun i => .int (i : Nat))), [.val (.scr ns), .val (.int (k : Nat))]) := by
  obtain ⟨m, rfl⟩ := succ_of' hn
  have go : ∀ j : Nat, 1 ≤ j → j ≤ k → (if (if (ns.length : Int) < k then (ns.length : Int) else k) > 1 then (if (ns.length : Int) < k then (ns.length : Int) else k) else 1) = (j : Int) → ∃ j : Nat, 1 ≤ j ∧ j ≤ k ∧ Ev.call pr (m + 1) Fn.law_cells [.val (.scr ns), .val (.int (k : Nat))] = some (.ok (.lst ((List.range j).map fun i => .int (i : Nat))), [.val (.scr ns), .val (.int (k : Nat))]) := fun j j1 j2 e => by
    refine ⟨j, j1, j2, ?_⟩
    rw [c_law_cells]
    have rg : rangeD [.int (j : Int)] = some ((List.range j).map fun i => .int (i : Nat)) := by
      show (if decide (-(2 ^ 62) ≤ (j : Int) ∧ (j : Int) ≤ LL) = true then some ((List.range (j : Int).toNat).map fun k => D.int (k : Nat)) else none) = _
      have l : (LL : Int) = 1000000 := by decide
      rw [if_pos (decide_eq_true ⟨by omega, by omega⟩)]
      rfl
    simp only [gt_iff_lt, Int.ofNat_lt] at e
    simp [d_law_cells, asgSs, asgS, e, rgK, rg]
  by_cases q : (ns.length : Int) < k
  · by_cases q2 : (ns.length : Int) > 1
    · exact go ns.length (by omega) (by omega) (by rw [if_pos q, if_pos q2])
    · exact go 1 (by omega) (by omega) (by rw [if_pos q, if_neg q2]; rfl)
  · by_cases q3 : (k : Int) > 1
    · exact go k h1 (by omega) (by rw [if_neg q, if_pos q3])
    · exact go 1 (by omega) (by omega) (by rw [if_neg q, if_neg q3]; rfl)
end Lw
end

section
set_option linter.all false
set_option maxRecDepth 100000
set_option maxHeartbeats 4000000
/-! Small data: their leaves, weight, depth; they are shown. -/
namespace Ev
open PySem L2
mutual
/-- leaves within b -/
def lfB (b : Nat) : D → Bool
  | .non | .bl _ => true
  | .int i => decide (i.natAbs ≤ b)
  | .str x => x.cps.toList.all fun c => decide (c < 16 ^ 8)
  | .tup l | .lst l => lfBs b l
  | .dic [] [] => true
  | _ => false
def lfBs (b : Nat) : List D → Bool
  | [] => true
  | d :: r => lfB b d && lfBs b r
end
theorem lfBs_iff {b : Nat} : ∀ {l : List D}, lfBs b l = true ↔ ∀ d ∈ l, lfB b d = true
  | [] => by simp [lfBs]
  | d :: r => by
    unfold lfBs
    rw [Bool.and_eq_true, lfBs_iff (l := r)]
    simp
theorem toQs_eq : ∀ (l : List D), toQs l = l.map toQ
  | [] => rfl
  | d :: r => by
    unfold toQs
    rw [toQs_eq r]
    rfl
theorem wAll_eq : ∀ (l : List PyData), PyData.weightAll l = (l.map fun d => d.weight + 1).sum
  | [] => rfl
  | d :: r => by
    unfold PyData.weightAll
    rw [wAll_eq r]
    simp
theorem dAll_le {n : Nat} : ∀ {l : List PyData}, PyData.depthAll l ≤ n ↔ ∀ d ∈ l, d.depth ≤ n
  | [] => by simp [PyData.depthAll]
  | d :: r => by
    unfold PyData.depthAll
    have ih := dAll_le (n := n) (l := r)
    simp only [List.mem_cons, forall_eq_or_imp]
    rw [← ih]
    omega
/-- small: leaves within b, weight w, depth n -/
structure Small (b w n : Nat) (d : D) : Prop where
  lf : lfB b d = true
  wt : (toQ d).weight ≤ w
  dp : (toQ d).depth ≤ n
theorem wT (l : List D) : (toQ (.tup l)).weight = (l.map fun d => (toQ d).weight + 1).sum := by
  show PyData.weightAll (toQs l) = _
  rw [wAll_eq, toQs_eq, List.map_map]
  rfl
theorem wL (l : List D) : (toQ (.lst l)).weight = (l.map fun d => (toQ d).weight + 1).sum := wT l
theorem dT {l : List D} {n : Nat} : (toQ (.tup l)).depth ≤ n ↔ 1 ≤ n ∧ ∀ d ∈ l, (toQ d).depth ≤ n - 1 := by
  have e : (toQ (.tup l)).depth = PyData.depthAll (toQs l) + 1 := rfl
  have k := dAll_le (n := n - 1) (l := toQs l)
  rw [toQs_eq] at k
  simp only [List.mem_map, forall_exists_index, and_imp, forall_apply_eq_imp_iff₂] at k
  rw [e, toQs_eq, ← k]
  omega
theorem dL {l : List D} {n : Nat} : (toQ (.lst l)).depth ≤ n ↔ 1 ≤ n ∧ ∀ d ∈ l, (toQ d).depth ≤ n - 1 := dT
/-- of the items -/
def Smalls (b w n : Nat) (l : List D) : Prop := (∀ d ∈ l, lfB b d = true ∧ (toQ d).depth ≤ n) ∧ (l.map fun d => (toQ d).weight + 1).sum ≤ w
theorem sm_tup {b w n : Nat} {l : List D} : Small b w (n + 1) (.tup l) ↔ Smalls b w n l := by
  constructor
  · intro h
    refine ⟨fun d hd => ⟨lfBs_iff.mp (show lfBs b l = true from h.lf) d hd, (dT.mp h.dp).2 d hd⟩, ?_⟩
    have := h.wt
    rwa [wT] at this
  · intro h
    exact ⟨lfBs_iff.mpr fun d hd => (h.1 d hd).1, by rw [wT]; exact h.2, dT.mpr ⟨by omega, fun d hd => (h.1 d hd).2⟩⟩
theorem sm_lst {b w n : Nat} {l : List D} : Small b w (n + 1) (.lst l) ↔ Smalls b w n l := (show Small b w (n + 1) (.lst l) ↔ Small b w (n + 1) (.tup l) from ⟨fun h => ⟨h.lf, h.wt, h.dp⟩, fun h => ⟨h.lf, h.wt, h.dp⟩⟩).trans sm_tup
theorem lfB_mono {b c : Nat} (h : b ≤ c) : ∀ {d : D}, lfB b d = true → lfB c d = true := by
  suffices H : ∀ (n : Nat) {d : D}, sizeOf d ≤ n → lfB b d = true → lfB c d = true from fun {d} => H _ (Nat.le_refl _)
  intro n
  induction n with
  | zero => intro d hd; cases d <;> simp at hd <;> omega
  | succ n ih =>
    intro d hd e
    have it : ∀ l : List D, sizeOf l ≤ n → lfBs b l = true → lfBs c l = true := fun l hl e => lfBs_iff.mpr fun x hx => ih (by have := List.sizeOf_lt_of_mem hx; omega) (lfBs_iff.mp e x hx)
    cases d with
    | int i =>
      have e1 : decide (i.natAbs ≤ b) = true := e
      exact decide_eq_true (Nat.le_trans (of_decide_eq_true e1) h)
    | tup l => exact it l (by simp at hd; omega) e
    | lst l => exact it l (by simp at hd; omega) e
    | dic ks l =>
      cases ks with
      | nil =>
        cases l with
        | nil => rfl
        | cons _ _ => cases e
      | cons _ _ => cases e
    | non => rfl
    | bl _ => rfl
    | str _ => exact e
    | _ => cases e
theorem Small.mono {b w n b' w' n' : Nat} {d : D} (h : Small b w n d) (hb : b ≤ b') (hw : w ≤ w') (hn : n ≤ n') : Small b' w' n' d := ⟨lfB_mono hb h.lf, Nat.le_trans h.wt hw, Nat.le_trans h.dp hn⟩
theorem Smalls.mono {b w n b' w' n' : Nat} {l : List D} (h : Smalls b w n l) (hb : b ≤ b') (hw : w ≤ w') (hn : n ≤ n') : Smalls b' w' n' l := ⟨fun d hd => ⟨lfB_mono hb (h.1 d hd).1, Nat.le_trans (h.1 d hd).2 hn⟩, Nat.le_trans h.2 hw⟩
theorem Smalls.nil {b w n : Nat} : Smalls b w n [] := ⟨fun d hd => (nomatch hd), Nat.zero_le _⟩
theorem Smalls.app {b w v n : Nat} {l m : List D} (h : Smalls b w n l) (k : Smalls b v n m) : Smalls b (w + v) n (l ++ m) := by
  refine ⟨fun d hd => (List.mem_append.mp hd).elim (h.1 d) (k.1 d), ?_⟩
  rw [List.map_append, List.sum_append]
  exact Nat.add_le_add h.2 k.2
theorem Smalls.take {b w n : Nat} {l : List D} (h : Smalls b w n l) (i : Nat) : Smalls b w n (l.take i) := by
  refine ⟨fun d hd => h.1 d (List.mem_of_mem_take hd), Nat.le_trans ?_ h.2⟩
  conv => rhs; rw [← List.take_append_drop i l, List.map_append, List.sum_append]
  exact Nat.le_add_right _ _
theorem Smalls.drop {b w n : Nat} {l : List D} (h : Smalls b w n l) (i : Nat) : Smalls b w n (l.drop i) := by
  refine ⟨fun d hd => h.1 d (List.mem_of_mem_drop hd), Nat.le_trans ?_ h.2⟩
  conv => rhs; rw [← List.take_append_drop i l, List.map_append, List.sum_append]
  exact Nat.le_add_left _ _
theorem Smalls.cut {b w n : Nat} {l : List D} (h : Smalls b w n l) (x y : Option Int) : Smalls b w n (cut l x y) := (h.drop _).take _
theorem Smalls.rev {b w n : Nat} {l : List D} (h : Smalls b w n l) : Smalls b w n l.reverse := by
  refine ⟨fun d hd => h.1 d (List.mem_reverse.mp hd), ?_⟩
  rw [List.map_reverse, List.sum_reverse]
  exact h.2
theorem Smalls.one {b w n : Nat} {d : D} (h : Small b w n d) : Smalls b (w + 1) n [d] := by
  refine ⟨fun x hx => ?_, ?_⟩
  · rw [List.mem_singleton.mp hx]
    exact ⟨h.lf, h.dp⟩
  · have := h.wt
    simp
    exact this
theorem Smalls.get {b w n : Nat} {l : List D} (h : Smalls b w n l) {d : D} (hd : d ∈ l) : Small b w n d := by
  refine ⟨(h.1 d hd).1, Nat.le_trans ?_ h.2, (h.1 d hd).2⟩
  clear h
  induction l with
  | nil => cases hd
  | cons a r ih =>
    simp only [List.map_cons, List.sum_cons]
    rcases List.mem_cons.mp hd with e | e
    · rw [e]; omega
    · have := ih e
      omega
/-- one item otherwise: what it weighs more -/
theorem Smalls.set {b w n v : Nat} {l : List D} (h : Smalls b w n l) {i : Nat} {d x : D} (hi : l[i]? = some d) (hx : Small b v n x) (hv : v ≤ 2 * (toQ d).weight + 100) : Smalls b (2 * w + 100) n (l.take i ++ [x] ++ l.drop (i + 1)) := by
  have e : l = l.take i ++ d :: l.drop (i + 1) := by
    have hl := (List.getElem?_eq_some_iff.mp hi).1
    have he := (List.getElem?_eq_some_iff.mp hi).2
    rw [← he, List.getElem_cons_drop, List.take_append_drop]
  refine ⟨fun y hy => ?_, ?_⟩
  · simp only [List.mem_append, List.mem_singleton] at hy
    rcases hy with (hy | hy) | hy
    · exact h.1 y (List.mem_of_mem_take hy)
    · rw [hy]; exact ⟨hx.lf, hx.dp⟩
    · exact h.1 y (List.mem_of_mem_drop hy)
  · have q := h.2
    rw [e] at q
    simp only [List.map_append, List.sum_append, List.map_cons, List.sum_cons, List.map_nil, List.sum_nil] at q ⊢
    have := hx.wt
    omega
theorem Smalls.len {b w n : Nat} {l : List D} (h : Smalls b w n l) : l.length ≤ w := by
  refine Nat.le_trans ?_ h.2
  clear h
  induction l with
  | nil => simp
  | cons a r ih => simp; omega
theorem Small.int {b w n : Nat} {i : Int} (h : i.natAbs ≤ b) (hw : 60 ≤ w) (hb : b < 10 ^ 12) : Small b w n (.int i) := by
  refine ⟨decide_eq_true h, ?_, by show PyData.depth (.int i) ≤ n; unfold PyData.depth; exact Nat.zero_le _⟩
  show PyData.weight (.int i) ≤ w
  unfold PyData.weight
  split
  · exact Nat.zero_le _
  · rename_i hi
    have h0 : i.natAbs ≠ 0 := by
      intro z
      have : i = 0 := by omega
      subst this
      simp at hi
    have : i.natAbs.log2 < 41 := (Nat.log2_lt h0).mpr (by omega)
    omega
theorem Small.showD {b w n : Nat} {d : D} (h : Small b w n d) (hb : b < 10 ^ 12) : showD d = true := by
  have key : ∀ (n : Nat) {d : D}, sizeOf d ≤ n → lfB b d = true → Ev.showD d = true := by
    intro n
    induction n with
    | zero => intro d hd; cases d <;> simp at hd <;> omega
    | succ n ih =>
      intro d hd e
      have it : ∀ l : List D, sizeOf l ≤ n → lfBs b l = true → showDs l = true := by
        intro l
        induction l with
        | nil => intro _ _; rfl
        | cons a r ih2 =>
          intro hl e
          obtain ⟨e1, e2⟩ := Bool.and_eq_true_iff.mp (show (lfB b a && lfBs b r) = true from e)
          simp at hl
          unfold showDs
          rw [ih (by omega) e1, ih2 (by omega) e2]
          rfl
      cases d with
      | int i =>
        have e1 : i.natAbs ≤ b := of_decide_eq_true (show decide (i.natAbs ≤ b) = true from e)
        refine decide_eq_true ?_
        by_cases h0 : i.natAbs = 0
        · rw [h0]; decide
        · exact (Nat.log2_lt h0).mpr (Nat.lt_of_le_of_lt e1 (Nat.lt_trans hb (by decide +kernel)))
      | tup l => exact it l (by simp at hd; omega) e
      | lst l => exact it l (by simp at hd; omega) e
      | dic ks l =>
        cases ks with
        | nil =>
          cases l with
          | nil => rfl
          | cons _ _ => cases e
        | cons _ _ => cases e
      | non => rfl
      | bl _ => rfl
      | str _ => rfl
      | _ => cases e
  exact key _ (Nat.le_refl _) h.lf
theorem lfB_short {b : Nat} (hb : b < 10 ^ 12) : ∀ (n : Nat) {d : D}, sizeOf d ≤ n → lfB b d = true → (toQ d).leavesShort 13 = true := by
  intro n
  induction n with
  | zero => intro d hd; cases d <;> simp at hd <;> omega
  | succ n ih =>
    intro d hd e
    have it : ∀ l : List D, sizeOf l ≤ n → lfBs b l = true → PyData.leavesShortAll 13 (toQs l) = true := by
      intro l
      induction l with
      | nil => intro _ _; rfl
      | cons a r ih2 =>
        intro hl e
        obtain ⟨e1, e2⟩ := Bool.and_eq_true_iff.mp (show (lfB b a && lfBs b r) = true from e)
        simp at hl
        unfold toQs PyData.leavesShortAll
        rw [ih (by omega) e1, ih2 (by omega) e2]
        rfl
    cases d with
    | int i =>
      have e1 : i.natAbs ≤ b := of_decide_eq_true (show decide (i.natAbs ≤ b) = true from e)
      show PyData.leavesShort 13 (.int i) = true
      unfold PyData.leavesShort
      exact decide_eq_true (PyData.shown_int_le (by omega))
    | tup l => exact it l (by simp at hd; omega) e
    | lst l => exact it l (by simp at hd; omega) e
    | dic ks l =>
      cases ks with
      | nil =>
        cases l with
        | nil => rfl
        | cons _ _ => cases e
      | cons _ _ => cases e
    | non => rfl
    | bl _ => rfl
    | str x => exact e
    | _ => cases e
/-- its repr -/
theorem Small.rpr {b w n : Nat} {d : D} (h : Small b w n d) (hb : b < 10 ^ 12) (hw : w ≤ 60000) (hn : n ≤ 64) : rprD d = some (.val (.str (toQ d).shown)) := by
  have e1 := h.showD hb
  have e2 := PyData.shown_le 13 (by decide) (toQ d) (lfB_short hb _ (Nat.le_refl _) h.lf)
  have e3 := h.wt
  have e4 := h.dp
  have e5 : LL = 1000000 := rfl
  unfold rprD
  rw [e1, decide_eq_true (show (toQ d).depth ≤ 64 by omega), decide_eq_true (show (toQ d).shown.length ≤ LL by omega)]
  rfl
/-- the values of any kind -/
def odds : List D := [.non, .bl true, .bl false, .int 0, .int 1, .int (-1), .int 2, .int 7, .str "", .str "a", .str "read", .str "write", .str "dead", .tup [], .lst [], .dic [] [], .tup [.int 0], .tup [.tup []], .lst [.int 0], .str "A",
  .tup [.int 0, .int 1], .tup [.int 1, .int 1], .tup [.int 1, .int 2], .tup [.int 2, .int 4], .tup [.int 1, .int 0], .tup [.bl true, .int 1], .tup [.str "a"], .tup [.str "a", .str "b"], .tup [.tup [.int 1, .int 1]], .tup [.non], .int 100000000]
theorem odds_sm : ∀ d ∈ odds, Small 100000000 60 2 d := by
  have h : odds.all (fun d => lfB 100000000 d && (decide ((toQ d).weight ≤ 60) && decide ((toQ d).depth ≤ 2))) = true := by decide +kernel
  intro d hd
  have h1 := List.all_eq_true.mp h d hd
  simp only [Bool.and_eq_true, decide_eq_true_eq] at h1
  exact ⟨h1.1, h1.2.1, h1.2.2⟩
end Ev
end

section
set_option linter.all false
set_option maxRecDepth 100000
set_option maxHeartbeats 4000000
/-! the laws' values of any kind, bent ones. -/
namespace Lw
open PySem L2 Ev
theorem of_specL {n : Nat} (hn : 2 ≤ n) {k : Nat} {l : List D} (h : PotOk (k + 1) l) {ds : List D} (hs : ds ≠ []) :
    ∃ (i : Nat) (x : D) (l' : List D), Ev.call pr n Fn.law_of [.lst l, .lst ds] = some (.ok (.val x), [.lst l', .lst ds]) ∧ ds[i]? = some x ∧ PotOk k l' := by
  obtain ⟨m, rfl⟩ := succ_of' (show 1 ≤ n by omega)
  have pos : 0 < ds.length := List.length_pos_iff.mpr hs
  obtain ⟨r, l', e, q1, q2⟩ := take_spec (n := m) (by omega) h (u := ds.length) (by omega)
  have hr : r < ds.length := by omega
  refine ⟨r, ds[r], l', ?_, List.getElem?_eq_getElem hr, q2⟩
  rw [c_law_of]
  have g : ds[r]? = some ds[r] := List.getElem?_eq_getElem hr
  simp [d_law_of, asgSs, asgS, e, s_lk, g]
theorem odd_spec {n : Nat} (hn : 3 ≤ n) {k : Nat} {l : List D} (h : PotOk (k + 1) l) : ∃ (x : D) (l' : List D), Ev.call pr n Fn.law_odd [.lst l] = some (.ok (.val x), [.lst l']) ∧ x ∈ odds ∧ PotOk k l' := by
  obtain ⟨m, rfl⟩ := succ_of' (show 1 ≤ n by omega)
  obtain ⟨i, x, l', e, g, q⟩ := of_specL (n := m) (by omega) h (ds := odds) (by decide)
  refine ⟨x, l', ?_, List.mem_of_getElem? g, q⟩
  rw [c_law_odd]
  unfold odds at e
  have hb : Builtin.Int.intBits 10 = 4 := by decide +kernel
  simp [d_law_odd, asgSs, asgS, tgs, hb, e]
theorem bent_odd {m k b w N : Nat} {l : List D} {d : D} (hm : 3 ≤ m) (hb : 100000000 ≤ b) (hp : PotOk (k + 1) l) (hd : tyD d = some 0 ∨ tyD d = some 1 ∨ tyD d = some 5 ∨ tyD d = some 6) :
    ∃ (x : D) (l' : List D), Ev.call pr (m + 1) Fn.law_bent [.lst l, .val d] = some (.ok (.val x), [.lst l', .val d]) ∧ Small (2 * b + 2) (2 * w + 100) (N + 2) x ∧ PotOk k l' := by
  obtain ⟨x, l', e, hx, q⟩ := odd_spec (n := m) hm hp
  refine ⟨x, l', ?_, (odds_sm x hx).mono (by omega) (by omega) (by omega), q⟩
  rw [c_law_bent]
  rcases hd with h | h | h | h <;> simp [d_law_bent, asgSs, asgS, tgs, h, e]
theorem bent_int {m k b w N : Nat} {l : List D} {i : Int} (hm : 3 ≤ m) (hi : i.natAbs ≤ b) (hb : 100000000 ≤ b) (hb2 : b < 10 ^ 11) (hp : PotOk (k + 1) l) :
    ∃ (x : D) (l' : List D), Ev.call pr (m + 1) Fn.law_bent [.lst l, .val (.int i)] = some (.ok (.val x), [.lst l', .val (.int i)]) ∧ Small (2 * b + 2) (2 * w + 100) (N + 2) x ∧ PotOk k l' := by
  obtain ⟨j, x, l', e, g, q⟩ := of_spec (n := m) (by omega) hp (d := .lst [.int (i + 1), .int (i - 1), .bl (decide (i = 1)), .str "1", .non, .int 0, .int (-i), .int (2 * i)]) (.inl rfl) (by simp)
  have mo : mulOk 2 i = true := Bd.mulOk (Bd.mono (k := 2) (by unfold Bd; decide) (by decide)) (Bd.mono (k := 40) (by unfold Bd; exact Nat.lt_of_le_of_lt hi (Nat.lt_trans hb2 (by decide +kernel))) (by decide))
  refine ⟨x, l', ?_, ?_, q⟩
  · rw [c_law_bent]
    simp [d_law_bent, asgSs, asgS, tgs, mo, e]
  · have hx := List.mem_of_getElem? g
    have I : ∀ j : Int, j.natAbs ≤ 2 * b + 2 → Small (2 * b + 2) (2 * w + 100) (N + 2) (.int j) := fun j hj => Small.int hj (by omega) (by omega)
    have O : ∀ y ∈ odds, Small (2 * b + 2) (2 * w + 100) (N + 2) y := fun y hy => (odds_sm y hy).mono (by omega) (by omega) (by omega)
    simp only [List.mem_cons, List.not_mem_nil, or_false] at hx
    rcases hx with rfl | rfl | rfl | rfl | rfl | rfl | rfl | rfl
    · exact I _ (by omega)
    · exact I _ (by omega)
    · cases decide (i = 1)
      · exact O _ (by simp [odds])
      · exact O _ (by simp [odds])
    · exact ⟨rfl, by show (1 : Nat) ≤ _; omega, Nat.zero_le _⟩
    · exact O _ (by simp [odds])
    · exact I _ (by omega)
    · exact I _ (by omega)
    · exact I _ (by omega)
theorem bent_str {m k b w N : Nat} {l : List D} {z : Str} (hm : 3 ≤ m) (hz : Small b w N (.str z)) (hw : w ≤ 100000) (hb : 100000000 ≤ b) (hb2 : b < 10 ^ 11) (hp : PotOk (k + 1) l) :
    ∃ (x : D) (l' : List D), Ev.call pr (m + 1) Fn.law_bent [.lst l, .val (.str z)] = some (.ok (.val x), [.lst l', .val (.str z)]) ∧ Small (2 * b + 2) (2 * (toQ (.str z)).weight + 100) (N + 2) x ∧ PotOk k l' := by
  have zl : z.length ≤ w := hz.wt
  have wz : (toQ (.str z)).weight = z.length := rfl
  have eL : LL = 1000000 := rfl
  have z1 : z.length + 1 ≤ LL := by omega
  have z2 : z.length ≤ 1000000 := by omega
  obtain ⟨j, x, l', e, g, q⟩ := of_spec (n := m) (by omega) hp (d := .lst [.str (z ++ "a"), .str (L2.cutS z none (some (-1))), .str "never", .str "read", .str "load", .str "a", .str "b", .non, .int 0, .lst [.str z]]) (.inl rfl) (by simp)
  have ba : binD .add (.str z) (.str (Str.ofString "a")) = some (.val (.str (z ++ Str.ofString "a"))) := if_pos z1
  refine ⟨x, l', ?_, ?_, q⟩
  · rw [c_law_bent]
    simp [d_law_bent, asgSs, asgS, tgs, ba, z2, e]
  · have hx := List.mem_of_getElem? g
    have cz : ∀ c ∈ z.cps.toList, c < 16 ^ 8 := by
      have := hz.lf
      exact fun c hc => of_decide_eq_true (List.all_eq_true.mp (show (z.cps.toList.all fun c => decide (c < 16 ^ 8)) = true from this) c hc)
    have St : ∀ y : Str, (∀ c ∈ y.cps.toList, c < 16 ^ 8) → y.length ≤ z.length + 10 → Small (2 * b + 2) (2 * z.length + 100) (N + 2) (.str y) := fun y hy hl => ⟨List.all_eq_true.mpr fun c hc => decide_eq_true (hy c hc), by show y.length ≤ _; omega, Nat.zero_le _⟩
    rw [wz]
    simp only [List.mem_cons, List.not_mem_nil, or_false] at hx
    rcases hx with rfl | rfl | rfl | rfl | rfl | rfl | rfl | rfl | rfl | rfl
    · refine St _ ?_ ?_
      · intro c hc
        rcases List.mem_append.mp (show c ∈ z.cps.toList ++ [97] by
          have e : (z ++ Str.ofString "a").cps = z.cps ++ #[97] := rfl
          rw [e] at hc
          simpa using hc) with h | h
        · exact cz c h
        · rw [List.mem_singleton.mp h]; decide
      · have e : (z ++ Str.ofString "a").length = z.length + 1 := PySem.strLen_append ..
        omega
    · refine St _ ?_ (Nat.le_trans (L2.cutS_length z _ _) (by omega))
      · intro c hc
        exact cz c (List.mem_of_mem_drop (List.mem_of_mem_take (by simpa [L2.cutS] using hc)))
    · exact St _ (by decide) (by show (5 : Nat) ≤ _; omega)
    · exact St _ (by decide) (by show (4 : Nat) ≤ _; omega)
    · exact St _ (by decide) (by show (4 : Nat) ≤ _; omega)
    · exact St _ (by decide) (by show (1 : Nat) ≤ _; omega)
    · exact St _ (by decide) (by show (1 : Nat) ≤ _; omega)
    · exact ⟨rfl, Nat.zero_le _, Nat.zero_le _⟩
    · exact Small.int (Nat.zero_le _) (by omega) (by omega)
    · exact sm_lst.mpr ((Smalls.one (show Small (2 * b + 2) z.length (N + 1) (.str z) from ⟨(St z cz (by omega)).lf, Nat.le_refl _, Nat.zero_le _⟩)).mono (Nat.le_refl _) (by omega) (Nat.le_refl _))
theorem cut_to {ds : List D} {i : Nat} : cut ds none (some (i : Int)) = ds.take i := by
  have h : ¬ ((i : Int) < 0) := by omega
  unfold cut HT.sIx
  simp only [h, if_false, Int.toNat_natCast, List.drop_zero, Nat.sub_zero]
  by_cases q : i ≤ ds.length
  · rw [Nat.min_eq_left q]
  · rw [Nat.min_eq_right (by omega), List.take_length, List.take_of_length_le (by omega)]
theorem cut_from {ds : List D} {i : Nat} : cut ds (some (i : Int)) none = ds.drop i := by
  have h : ¬ ((i : Int) < 0) := by omega
  unfold cut HT.sIx
  simp only [h, if_false, Int.toNat_natCast]
  by_cases q : i ≤ ds.length
  · rw [Nat.min_eq_left q, List.take_of_length_le (by rw [List.length_drop]; exact Nat.le_refl _)]
  · rw [Nat.min_eq_right (by omega), List.drop_length, List.drop_of_length_le (by omega), List.take_nil]
theorem ne0 (ds : List D) : cmpD .ne (.tup ds) (.tup []) = some (!ds.isEmpty) := by
  show ((eqD (.tup ds) (.tup [])).or (some ds.isEmpty)).map (!·) = _
  cases ds with
  | nil => rfl
  | cons a r =>
    unfold eqD
    split
    · simp [eqv, eqvs]
    · simp
theorem bent_tup0 {m k b w N : Nat} {l l0 : List D} {ds : List D} (hm : 3 ≤ m) (hz : Small b w (N + 1) (.tup ds)) (hw : w ≤ 100000) (hp : PotOk (k + 1) l)
    (h0 : (ds = [] ∧ l0 = l) ∨ (ds ≠ [] ∧ Ev.call pr m Fn.law_take [.lst l0, .val (.int 7)] = some (.ok (.val (.int 0)), [.lst l, .val (.int 7)]))) :
    ∃ (x : D) (l' : List D), Ev.call pr (m + 1) Fn.law_bent [.lst l0, .val (.tup ds)] = some (.ok (.val x), [.lst l', .val (.tup ds)]) ∧ Small (2 * b + 2) (2 * (toQ (.tup ds)).weight + 100) (N + 3) x ∧ PotOk k l' := by
  have S0 : Smalls b w N ds := sm_tup.mp hz
  have wz : (ds.map fun d => (toQ d).weight + 1).sum = (toQ (.tup ds)).weight := (wT ds).symm
  have S : Smalls b (toQ (.tup ds)).weight N ds := ⟨S0.1, by rw [wz]; exact Nat.le_refl _⟩
  have hl := S0.len
  have eL : LL = 1000000 := rfl
  have hc : (cut ds (some (-1)) none).length ≤ ds.length := by unfold cut; rw [List.length_take, List.length_drop]; omega
  have ba : binD .add (.tup ds) (.tup (cut ds (some (-1)) none)) = some (.val (.tup (ds ++ cut ds (some (-1)) none))) := if_pos (by omega)
  obtain ⟨j, x, l', e, g, q⟩ := of_spec (n := m) (by omega) hp (d := .lst [.lst ds, .tup (cut ds (some 1) none), .tup (cut ds none (some (-1))), .tup (ds ++ cut ds (some (-1)) none), .tup ds.reverse, .tup [], .non]) (.inl rfl) (by simp)
  refine ⟨x, l', ?_, ?_, q⟩
  · rw [c_law_bent]
    rcases h0 with ⟨rfl, rfl⟩ | ⟨hne, et⟩
    · simp only [List.reverse_nil, List.nil_append] at e
      simp [d_law_bent, asgSs, asgS, tgs, -q_ne, ne0, ba, e]
    · have hi : ds.isEmpty = false := by simpa using hne
      simp [d_law_bent, asgSs, asgS, tgs, -q_ne, ne0, hi, et, ba, e]
  · have hx := List.mem_of_getElem? g
    simp only [List.mem_cons, List.not_mem_nil, or_false] at hx
    have T : ∀ {m : List D} {v : Nat}, Smalls b v N m → v ≤ 2 * (toQ (.tup ds)).weight → Small (2 * b + 2) (2 * (toQ (.tup ds)).weight + 100) (N + 3) (.tup m) := fun s h => (sm_tup.mpr s).mono (by omega) (by omega) (by omega)
    rcases hx with rfl | rfl | rfl | rfl | rfl | rfl | rfl
    · exact (sm_lst.mpr S).mono (by omega) (by omega) (by omega)
    · exact T (S.cut _ _) (by omega)
    · exact T (S.cut _ _) (by omega)
    · exact T (S.app (S.cut _ _)) (by omega)
    · exact T S.rev (by omega)
    · exact T (v := 0) .nil (by omega)
    · exact ⟨rfl, Nat.zero_le _, Nat.zero_le _⟩
theorem bent_spec : ∀ (N : Nat) {n k b w : Nat} {l : List D} {d : D}, Small b w N d → 100000000 ≤ b → b < 10 ^ 11 → w ≤ 100000 → N + 4 ≤ n → PotOk (k + 2 * N + 4) l →
    ∃ (x : D) (l' : List D), Ev.call pr n Fn.law_bent [.lst l, .val d] = some (.ok (.val x), [.lst l', .val d]) ∧ Small (2 * b + 2) (2 * (toQ d).weight + 100) (N + 2) x ∧ PotOk k l' := by
  intro N
  induction N with
  | zero =>
    intro n k b w l d hd hb hb2 hw hn hp
    obtain ⟨m, rfl⟩ := succ_of' (show 1 ≤ n by omega)
    have hp1 : PotOk (k + 1) l := hp.mono (by omega)
    have od : (tyD d = some 0 ∨ tyD d = some 1 ∨ tyD d = some 5 ∨ tyD d = some 6) → _ := fun h => bent_odd (m := m) (w := (toQ d).weight) (N := 0) (by omega) hb hp1 h
    cases d with
    | non => exact od (.inl rfl)
    | bl _ => exact od (.inr (.inl rfl))
    | lst _ => exact od (.inr (.inr (.inl rfl)))
    | dic _ _ => exact od (.inr (.inr (.inr rfl)))
    | int i => exact bent_int (by omega) (of_decide_eq_true (show decide (i.natAbs ≤ b) = true from hd.lf)) hb hb2 hp1
    | str z => exact bent_str (by omega) hd hw hb hb2 hp1
    | tup l => exact absurd (dT.mp hd.dp).1 (by omega)
    | _ => exact nomatch hd.lf
  | succ N ih =>
    intro n k b w l d hd hb hb2 hw hn hp
    obtain ⟨m, rfl⟩ := succ_of' (show 1 ≤ n by omega)
    have hp1 : PotOk (k + 1) l := hp.mono (by omega)
    have od : (tyD d = some 0 ∨ tyD d = some 1 ∨ tyD d = some 5 ∨ tyD d = some 6) → _ := fun h => bent_odd (m := m) (w := (toQ d).weight) (N := N + 1) (by omega) hb hp1 h
    cases d with
    | non => exact od (.inl rfl)
    | bl _ => exact od (.inr (.inl rfl))
    | lst _ => exact od (.inr (.inr (.inl rfl)))
    | dic _ _ => exact od (.inr (.inr (.inr rfl)))
    | int i => exact bent_int (by omega) (of_decide_eq_true (show decide (i.natAbs ≤ b) = true from hd.lf)) hb hb2 hp1
    | str z => exact bent_str (by omega) hd hw hb hb2 hp1
    | tup ds =>
      by_cases hne : ds = []
      · exact bent_tup0 (by omega) hd hw hp1 (.inl ⟨hne, rfl⟩)
      obtain ⟨r, l1, e1, q1, p1⟩ := take_spec (n := m) (by omega) (k := k + 2 * N + 5) (hp.mono (by omega)) (u := 7) (by decide)
      by_cases hr : r = 0
      · subst hr
        exact bent_tup0 (by omega) hd hw (p1.mono (by omega)) (.inr ⟨hne, e1⟩)
      have pos : 0 < ds.length := List.length_pos_iff.mpr hne
      obtain ⟨i, l2, e2, q2, p2⟩ := take_spec (n := m) (by omega) (k := k + 2 * N + 4) p1 (u := ds.length) (by omega)
      have hi : i < ds.length := by omega
      have S0 : Smalls b w N ds := sm_tup.mp hd
      have wz : (ds.map fun d => (toQ d).weight + 1).sum = (toQ (.tup ds)).weight := (wT ds).symm
      have S : Smalls b (toQ (.tup ds)).weight N ds := ⟨S0.1, by rw [wz]; exact Nat.le_refl _⟩
      obtain ⟨y, l3, e3, sy, p3⟩ := ih (n := m) (S0.get (List.getElem_mem hi)) hb hb2 hw (by omega) p2
      have g : ds[i]? = some ds[i] := List.getElem?_eq_getElem hi
      have hl := S0.len
      have eL : LL = 1000000 := rfl
      have z1 : (ds.take i).length ≤ ds.length := by rw [List.length_take]; omega
      have z2 : (ds.drop (i + 1)).length ≤ ds.length := by rw [List.length_drop]; omega
      have b1 : binD .add (.tup (ds.take i)) (.tup [y]) = some (.val (.tup (ds.take i ++ [y]))) := if_pos (by simp only [List.length_singleton]; omega)
      have b2 : binD .add (.tup (ds.take i ++ [y])) (.tup (ds.drop (i + 1))) = some (.val (.tup (ds.take i ++ [y] ++ ds.drop (i + 1)))) := if_pos (by simp only [List.length_append, List.length_singleton]; omega)
      refine ⟨.tup (ds.take i ++ [y] ++ ds.drop (i + 1)), l3, ?_, ?_, p3⟩
      · rw [c_law_bent]
        have hie : ds.isEmpty = false := by simpa using hne
        have hr0 : 0 < r := by omega
        have cf : cut ds (some ((i : Int) + 1)) none = ds.drop (i + 1) := cut_from (i := i + 1)
        simp [d_law_bent, asgSs, asgS, tgs, -q_ne, ne0, hie, e1, e2, e3, hr0, s_tk, g, cut_to, cf, b1, b2]
      · have S' : Smalls (2 * b + 2) (toQ (.tup ds)).weight (N + 2) ds := S.mono (by omega) (Nat.le_refl _) (by omega)
        exact sm_tup.mpr (S'.set g sy (Nat.le_refl _))
    | _ => exact nomatch hd.lf
end Lw
end

section
set_option linter.all false
set_option maxRecDepth 100000
set_option maxHeartbeats 4000000
/-! k00: errors keep their value. -/
namespace Lw
open PySem L2 Ev
/-- the classes as the law names them -/
def Os : List Nat := [1, 20, 17, 16, 26, 2, 27, 5, 18, 14, 19, 9, 4, 12, 10, 11, 15, 21, 6, 8, 3, 7, 24, 23, 25, 13, 22]
theorem made_spec {n : Nat} (hn : 1 ≤ n) (x : D) : Ev.call pr n Fn.law_made [.val x] = some (.ok (.lst (Os.map fun c => .exc c x)), [.val x]) := by
  obtain ⟨m, rfl⟩ := succ_of' hn
  rw [c_law_made]
  simp [d_law_made, asgSs, asgS, tgs, Os]
theorem marks_spec {n : Nat} (hn : 1 ≤ n) {c : Nat} (hc : c < 28) (x : D) : Ev.call pr n Fn.law_marks [.val (.exc c x)] = some (.ok (.lst (Os.map fun j => .bl (decide (c = j)))), [.val (.exc c x)]) := by
  obtain ⟨m, rfl⟩ := succ_of' hn
  rw [c_law_marks]
  simp [d_law_marks, asgSs, asgS, tgs, Os, isxD, hc]
theorem rng {k : Nat} (h : k ≤ 1000000) : rangeD [.int (k : Nat)] = some ((List.range k).map fun i => .int (i : Nat)) := by
  show (if decide (-(2 ^ 62) ≤ (k : Int) ∧ (k : Int) ≤ LL) = true then some ((List.range (k : Int).toNat).map fun k => D.int (k : Nat)) else none) = _
  have l : (LL : Int) = 1000000 := by decide
  rw [if_pos (decide_eq_true ⟨by omega, by omega⟩)]
  rfl
theorem eqD_self_str {z : Str} : eqD (.str z) (.str z) = some true := by
  have h : eqv (.str z) (.str z) = true := by simp [eqv]
  unfold eqD
  rw [h]
  rfl
theorem bls_plain : ∀ (l : List Bool), plains (l.map D.bl) = true ∧ depths (l.map D.bl) = 0 ∧ eqvs (l.map D.bl) (l.map D.bl) = true
  | [] => ⟨rfl, rfl, rfl⟩
  | b :: r => by
    obtain ⟨h1, h2, h3⟩ := bls_plain r
    refine ⟨?_, ?_, ?_⟩
    · simp [plains, Ev.plain, h1]
    · simp [depths, depth, h2]
    · simp [eqvs, eqv, h3]
theorem eqD_bls (l : List Bool) : eqD (.lst (l.map D.bl)) (.lst (l.map D.bl)) = some true := by
  obtain ⟨h1, h2, h3⟩ := bls_plain l
  simp [eqD, Ev.plain, depth, eqv, h1, h2, h3]
theorem marks_at : ∀ j, j < 27 → (Os.map fun i => decide (Os.getD j 0 = i)) = (List.range 27).map fun k => decide (k = j) := by decide
theorem isx_all {c : Nat} (h : c < 28) (x : D) : isxD 28 [0, 1, 2, 3, 4, 5, 6, 7, 8, 9, 10, 11, 12, 13, 14, 15, 16, 17, 18, 19, 20, 21, 22, 23, 24, 25, 26, 27] (.exc c x) = some true := by
  have e : ∀ c, c < 28 → [0, 1, 2, 3, 4, 5, 6, 7, 8, 9, 10, 11, 12, 13, 14, 15, 16, 17, 18, 19, 20, 21, 22, 23, 24, 25, 26, 27].contains c = true := by decide
  show (if c < 28 then some _ else none) = _
  rw [if_pos h, e c h]
def rightFor : List S := [.ite (.or (.not (.un (.isx 28 [0, 1, 2, 3, 4, 5, 6, 7, 8, 9, 10, 11, 12, 13, 14, 15, 16, 17, 18, 19, 20, 21, 22, 23, 24, 25, 26, 27]) (.v 4))) (.or (.not (.un (.isx 28 [0, 1, 2, 3, 4, 5, 6, 7, 8, 9, 10, 11, 12, 13, 14, 15, 16, 17, 18, 19, 20, 21, 22, 23, 24, 25, 26, 27]) (.v 4))) (.cmp .ne (.un .rpr (.un (.fld "value") (.v 4))) (.un .rpr (.v 1))))) [.ret (.c (.bl false))] [],
    .ite (.cmp .ne (.call Fn.law_marks [(.v 4)]) (.lc (.cmp .eq (.v 5) (.v 3)) (.v 5) (.range [(.c (.int 27))]) [] [5])) [.ret (.c (.bl false))] []]
theorem turn {m : Nat} (hm : 1 ≤ m) {l : List D} {x : D} {z : Str} (hz : rprD x = some (.val (.str z))) {j : Nat} (hj : j < 27) {o3 o4 : Option T} :
    fS (Ys m) (.tup [.v 3, .v 4]) rightFor (.tup [.int (j : Nat), .exc (Os.getD j 0) x]) [some (.lst l), some (.val x), none, o3, o4, none] = some (.next, [some (.lst l), some (.val x), none, some (.val (.int (j : Nat))), some (.val (.exc (Os.getD j 0) x)), none]) := by
  have hc : Os.getD j 0 < 28 := by
    have e : ∀ j, j < 27 → Os.getD j 0 < 28 := by decide
    exact e j hj
  have mk := marks_spec (n := m) hm hc x
  have ia := isx_all hc x
  have eb : (Os.map fun i => D.bl (decide (Os.getD j 0 = i))) = ((List.range 27).map fun k => decide (k = j)).map D.bl := by
    rw [← marks_at j hj, List.map_map]
    rfl
  rw [eb] at mk
  generalize hcc : Os.getD j 0 = c at *
  have e2 : lcLoop (lcS (Ys m) (.cmp .eq (.v 5) (.v 3)) (.v 5) [] [5]) ((List.range 27).map fun i => .int (i : Nat)) [some (.lst l), some (.val x), none, some (.val (.int (j : Nat))), some (.val (.exc c x)), none] = some (.ok (((List.range 27).map fun k => decide (k = j)).map D.bl), [some (.lst l), some (.val x), none, some (.val (.int (j : Nat))), some (.val (.exc c x)), none]) := by
    have q := lc_map (step := lcS (Ys m) (.cmp .eq (.v 5) (.v 3)) (.v 5) [] [5]) (ρ := [some (.lst l), some (.val x), none, some (.val (.int (j : Nat))), some (.val (.exc c x)), none])
      (fun d => match d with | .int i => some (.bl (decide (i = (j : Int)))) | _ => none) ((List.range 27).map fun i => .int (i : Nat)) (fun d hd => by
        obtain ⟨k, _, rfl⟩ := List.mem_map.mp hd
        simp [lcS_eq])
    rw [q]
    congr 2
    simp only [List.filterMap_map, List.map_map]
    have e : (List.range 27).filterMap ((fun d => match d with | D.int i => some (D.bl (decide (i = (j : Int)))) | _ => none) ∘ fun i : Nat => D.int (i : Int)) = (List.range 27).filterMap (some ∘ (D.bl ∘ fun k => decide (k = j))) := by
      congr 1
      funext k
      show some (D.bl (decide ((k : Int) = (j : Int)))) = some (D.bl (decide (k = j)))
      congr 3
      exact propext ⟨fun h => by omega, fun h => by omega⟩
    rw [e]
    exact congrArg Res.ok (by rw [List.filterMap_eq_map])
  have rg : rangeD [.int 27] = some ((List.range 27).map fun i => .int (i : Nat)) := rng (k := 27) (by decide)
  have ll : ((List.range 27).map fun i => D.int (i : Nat)).length ≤ 1000000 := by decide
  have be := eqD_bls ((List.range 27).map fun k => decide (k = j))
  have se := eqD_self_str (z := z)
  generalize (List.range 27).map (fun i => D.int (i : Nat)) = R at e2 rg ll
  generalize ((List.range 27).map fun k => decide (k = j)).map D.bl = M at mk e2 be
  simp [fS_eq, rightFor, ia, fldD, hz, se, mk, rg, ll, e2, be]
theorem right_spec {n : Nat} (hn : 12 ≤ n) {k : Nat} {l : List D} (h : PotOk (k + 40) l) : ∃ l', Ev.call pr n Fn.law_right [.lst l] = some (.ok (.val (.bl true)), [.lst l']) ∧ PotOk k l' := by
  obtain ⟨m, rfl⟩ := succ_of' (show 1 ≤ n by omega)
  obtain ⟨a, l1, e1, ha, p1⟩ := odd_spec (n := m) (by omega) (k := k + 39) (h.mono (by omega))
  obtain ⟨b, l2, e2, hb, p2⟩ := odd_spec (n := m) (by omega) (k := k + 38) (p1.mono (by omega))
  obtain ⟨r, l3, e3, hr, p3⟩ := take_spec (n := m) (by omega) (k := k + 37) (p2.mono (by omega)) (u := 9) (by decide)
  have sa := odds_sm a ha
  have sb := odds_sm b hb
  have sv : Small 100000000 400 4 (.tup [a, .tup [b, .str "a"], .int (r : Nat)]) := by
    have s1 : Small 100000000 60 3 (.str "a") := ⟨by decide, by decide, Nat.zero_le _⟩
    have s2 : Small 100000000 60 3 (.int (r : Nat)) := Small.int (by omega) (by omega) (by decide)
    have i1 : Smalls 100000000 122 2 [b, .str "a"] := (Smalls.one (sb.mono (Nat.le_refl _) (Nat.le_refl _) (by omega))).app (Smalls.one ⟨s1.lf, s1.wt, Nat.zero_le _⟩)
    have i2 : Small 100000000 122 3 (.tup [b, .str "a"]) := sm_tup.mpr i1
    have i3 : Smalls 100000000 245 3 ([a] ++ ([.tup [b, .str "a"]] ++ [.int (r : Nat)])) := ((Smalls.one (sa.mono (Nat.le_refl _) (Nat.le_refl _) (by omega))).app ((Smalls.one i2).app (Smalls.one s2))).mono (Nat.le_refl _) (by omega) (Nat.le_refl _)
    exact (sm_tup.mpr i3).mono (Nat.le_refl _) (by omega) (by omega)
  obtain ⟨x, l4, e4, hx, p4⟩ := bent_spec 4 (n := m) (k := k) sv (by decide) (by decide) (by decide) (by omega) (p3.mono (by omega))
  have hx : Small 200000002 900 6 x := hx.mono (by decide) (by have := sv.wt; omega) (by omega)
  have rx := hx.rpr (by decide) (by decide) (by decide)
  generalize (toQ x).shown = z at rx
  have mk0 := marks_spec (n := m) (by omega) (c := 0) (by decide) x
  have md := made_spec (n := m) (by omega) x
  have lp := for_fold (step := fS (Ys m) (.tup [.v 3, .v 4]) rightFor) (fun a : Option T × Option T => [some (.lst l4), some (.val x), none, a.1, a.2, none])
    (fun a d => match d with | .tup [i, e] => (some (.val i), some (.val e)) | _ => a) (pairs (Os.map fun c => .exc c x) 0) (none, none) (fun d a hd => by
      obtain ⟨j, hj⟩ := List.mem_iff_getElem?.mp hd
      rw [pairs_eq, List.getElem?_mapIdx, List.getElem?_map] at hj
      have hj' : j < 27 := by
        by_cases q : j < 27
        · exact q
        · rw [List.getElem?_eq_none (show Os.length ≤ j by show 27 ≤ j; omega)] at hj
          cases hj
      have g : Os[j]? = some (Os.getD j 0) := by
        rw [List.getD_eq_getElem?_getD, List.getElem?_eq_getElem (show j < Os.length from hj')]
        rfl
      rw [g] at hj
      have e := Option.some.inj hj
      rw [Nat.zero_add] at e
      subst e
      exact turn (m := m) (by omega) rx hj')
  have ia := isx_all (c := 0) (by decide) x
  have se := eqD_self_str (z := z)
  have ni : inD (.bl true) (.lst (Os.map fun j => .bl (decide (0 = j)))) = some false := by rfl
  have pl : (pairs (Os.map fun c => D.exc c x) 0).length ≤ 1000000 := by
    rw [pairs_eq]
    simp [Os]
  refine ⟨l4, ?_, p4⟩
  rw [c_law_right]
  generalize (Os.map fun c => D.exc c x) = MS at md lp pl
  generalize ((pairs MS 0).foldl (fun (a : Option T × Option T) d => match d with | .tup [i, e] => (some (.val i), some (.val e)) | _ => a) (none, none)) = fin_ at lp
  unfold rightFor at lp
  simp [d_law_right, asgSs, asgS, tgs, tgss, e1, e2, e3, e4, md, pl, lp, rx, ia, fldD, se, mk0, ni]
def lapBody : List S := [.asg (.v 2) (.call Fn.law_pot [(.v 0), (.v 1)]),
    .ite (.not (.blt .all [(.lc (.call Fn.law_right [(.v 2)]) (.v 3) (.range [(.c (.int 2))]) [] [3])])) [.ret (.c (.bl false))] []]
theorem law_ok (ns : List Int) : ∃ ts', Ev.call pr 20 Fn.law [.val (.scr ns)] = some (.ok (.val (.bl true)), ts') := by
  obtain ⟨j, _, j2, hc⟩ := cells_spec (n := 19) (by omega) (ns := ns) (k := 4) (by omega) (by omega)
  have hc : Ev.call pr 19 Fn.law_cells [.val (.scr ns), .val (.int 4)] = some (.ok (.lst ((List.range j).map fun i => .int (i : Nat))), [.val (.scr ns), .val (.int 4)]) := hc
  obtain ⟨f, ρ', e, o1, o2, q⟩ := for_rule (step := fS (Ys 19) (.v 1) lapBody)
    (fun i ρ => ∃ o1 o2, ρ = [some (.val (.scr ns)), o1, o2, none]) (fun f ρ => ∃ o1 o2, (f, ρ) = (Fl.next, [some (.val (.scr ns)), o1, o2, none]))
    ((List.range j).map fun i => .int (i : Nat)) 0 [some (.val (.scr ns)), none, none, none] ⟨_, _, rfl⟩ (fun i d ρ hi ⟨o1, o2, e⟩ => by
      have hij : i < j := by
        have := (List.getElem?_eq_some_iff.mp hi).1
        simpa using this
      rw [List.getElem?_map, List.getElem?_range hij] at hi
      cases hi
      subst e
      obtain ⟨l, e1, q⟩ := pot_spec (n := 19) (by omega) (ns := ns) (k := i) (by omega)
      obtain ⟨ds, ρ2, e2, l2, q1, q2, q3⟩ := lc_rule (step := lcS (Ys 19) (.call Fn.law_right [(.v 2)]) (.v 3) [] [3])
        (fun t acc ρ => ∃ l2, PotOk (1000 - 100 * t) l2 ∧ acc = List.replicate t (.bl true) ∧ ρ = [some (.val (.scr ns)), some (.val (.int (i : Nat))), some (.lst l2), none])
        ((List.range 2).map fun i => .int (i : Nat)) 0 [] [some (.val (.scr ns)), some (.val (.int (i : Nat))), some (.lst l), none] ⟨l, q.mono (by decide), rfl, rfl⟩ fun t d acc ρ ht ⟨l2, h1, h2, h3⟩ => by
          have ht3 : t < 2 := by
            have := (List.getElem?_eq_some_iff.mp ht).1
            simpa using this
          rw [Nat.zero_add] at *
          subst h3
          obtain ⟨l3, w1, w2⟩ := right_spec (n := 19) (by omega) (k := 1000 - 100 * (t + 1)) (h1.mono (by omega))
          refine ⟨some (.bl true), [some (.val (.scr ns)), some (.val (.int (i : Nat))), some (.lst l3), none], ?_, l3, w2, ?_, rfl⟩
          · simp [lcS_eq, w1]
          · rw [h2, List.replicate_succ']
            rfl
      have q2 : ds = [.bl true, .bl true] := by simpa using q2
      subst q2 q3
      have al : bltD .all [.lst [.bl true, .bl true]] = some (.val (.bl true)) := by rfl
      have rg : rangeD [.int 2] = some ((List.range 2).map fun i => .int (i : Nat)) := rng (k := 2) (by decide)
      have ll : ((List.range 2).map fun i => D.int (i : Nat)).length ≤ 1000000 := by decide
      generalize (List.range 2).map (fun i => D.int (i : Nat)) = R at e2 rg ll
      refine ⟨.next, [some (.val (.scr ns)), some (.val (.int (i : Nat))), some (.lst l2), none], ?_, _, _, rfl⟩
      simp [fS_eq, lapBody, e1, rg, ll, e2, al]) (fun ρ ⟨o1, o2, e⟩ => ⟨o1, o2, by rw [e]⟩)
  injection q with q1 q2
  subst q1 q2
  have hLL : j ≤ 1000000 := by omega
  unfold lapBody at e
  refine ⟨[.val (.scr ns)], ?_⟩
  rw [c_law]
  simp [d_law, asgSs, asgS, tgs, hc, hLL, e]
end Lw
theorem PySem.Challenge.cw_evenasks_k00_errors_keep_their_value_holds : PySem.Challenge.rw_evenasks_k00_errors_keep_their_value.Holds :=
  law_of (n := 20) (by decide) fun ns _ _ => Lw.law_ok ns
end
