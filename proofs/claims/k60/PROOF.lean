import PyProof.Rows.All
import Wide.All
import OpenK.AllK
import Wide.FinOn
import PySem.Challenge.RW_onceapiece_k60_least_turns_told
import HandS.ForMost
import HandS.ForExc
import HandS.IsInst
import HandS.Deep
import HandS.TupAny
import HandS.TupMul
import HandS.SortInts
import HandS.SortRule
import HandS.Wide
import HandS.Style
import HandS.Zip
import HandS.RaiseMore
import HandS.Flow
set_option Elab.async false
set_option linter.all false
set_option maxRecDepth 100000
/-! Z0: a small machine over plain data. Nothing here speaks of the model. -/
namespace Z
open PySem PySem.Spec PyProof.Rows L2

abbrev D := PyData
/-- what an own slot may hold -/
inductive M where
  | l (ds : List D)
def M.toD : M → D
  | .l ds => .list ds
inductive Val where
  | v (d : D)
  | m (c : M)
def Val.toD : Val → D
  | .v d => d
  | .m c => c.toD
inductive Sl where
  | no
  | im (d : D)
  | ow (c : M)
  | bo (c : M)
  | sc (ds : List D)
abbrev Sg := List Sl
structure Exc where
  cls : Nat
  fs : List D
inductive Out (α : Type) where
  | ok (a : α)
  | ex (x : Exc)
abbrev R (α : Type) := Option (Out α × Sg)
def bnd {α β : Type} (r : R α) (k : α → Sg → R β) : R β :=
  match r with
  | none => none
  | some (.ok a, g) => k a g
  | some (.ex x, g) => some (.ex x, g)
def ret {α : Type} (a : α) (g : Sg) : R α := some (.ok a, g)
def opt {α : Type} (o : Option α) (g : Sg) : R α :=
  match o with
  | none => none
  | some a => ret a g

inductive Arg where
  | v (d : D)
  | m (c : M)
  | s (ds : List D)
abbrev Call := Nat → List Arg → Option (Out Val × List (Option M))

inductive BOp where
  | add | sub | mul | div | mod | pow
inductive COp where
  | lt | le | gt | ge | eq | ne | isN | notN | inn | nin
inductive Ty where
  | int | bool | tuple | list | str | dict
inductive B1 where
  | len | sum | max | min | all | any | int | str | repr | tuple | list | bool | abs
  | sorted
inductive B2 where
  | max | min

mutual
inductive C where
  | int (i : Int)
  | bl (b : Bool)
  | non
  | str (x : Str)
  | var (i : Nat)
  | glb (k : Nat)
  | bin (o : BOp) (a b : C)
  | neg (a : C)
  | cmp (o : COp) (a b : C)
  | chain (o p : COp) (a b c : C)
  | and (a b : C)
  | or (a b : C)
  | not (a : C)
  | ite (c a b : C)
  | tup (es : Cs)
  | lst (es : Cs)
  | idx (a b : C)
  | idxv (i : Nat) (b : C)
  | lenv (i : Nat)
  | slc (a : C) (lo hi : Co)
  | call (f n : Nat) (as : As)
  | b1 (o : B1) (a : C)
  | b2 (o : B2) (a b : C)
  | isi (a : C) (t : Ty)
  | comp (e : C) (t : Tg) (s : Sr) (q : Co) (own : List Nat)
inductive Co where
  | non
  | som (a : C)
inductive Cs where
  | nil
  | cons (e : C) (es : Cs)
inductive As where
  | nil
  | val (e : C) (r : As)
  | bor (i : Nat) (r : As)
inductive Sr where
  | seq (a : C)
  | rng1 (a : C)
  | rng2 (a b : C)
inductive Tg where
  | n (i : Nat)
  | t (ts : Tgs)
inductive Tgs where
  | nil
  | cons (t : Tg) (ts : Tgs)
end

mutual
inductive S where
  | set (i : Nat) (own : Bool) (e : C)
  | par (i j : Nat) (p q : Bool) (a b : C)
  | asg (t : Tg) (e : C)
  | put (i : Nat) (k e : C)
  | app (i : Nat) (e : C)
  | exp (e : C)
  | ret (e : C)
  | retN
  | ite (c : C) (a b : Ss)
  | whl (c : C) (b : Ss)
  | for (t : Tg) (s : Sr) (b : Ss)
  | raise (k : Nat) (msg : Str)
  | pass
  | brk
  | cont
inductive Ss where
  | nil
  | cons (s : S) (r : Ss)
end

/-- a program's table -/
structure FnI where
  name : Str
  ps : List Str
  N : List Str
  body : Ss
structure Tab where
  fns : List FnI
  cons : List (Str × D)
  excs : List Str

/-! ### data -/
def mulOk (i j : Int) : Bool :=
  (decide (-(2 ^ 64) < i) && decide (i < 2 ^ 64)) || (decide (-(2 ^ 64) < j) && decide (j < 2 ^ 64)) || decide (i.natAbs.log2 + j.natAbs.log2 < 1000000)
def divOk (j : Int) : Bool := decide (0 < j) && (decide (j < 2 ^ 62) || decide (j.natAbs.log2 < 9000))
def powOk (i j : Int) : Bool := decide (0 ≤ j) && decide (j ≤ 1000000) && decide (i.natAbs < 2 ^ 64)
def repOk (n : Nat) (k : Int) : Bool := decide (-(2 ^ 63) ≤ k) && decide (k < 2 ^ 63) && decide (n * k.toNat ≤ sizeLine)
def binD : BOp → D → D → Option Val
  | .add, .int i, .int j => some (.v (.int (i + j)))
  | .add, .str x, .str y => if x.length + y.length ≤ sizeLine then some (.v (.str (x ++ y))) else none
  | .add, .list xs, .list ys => if xs.length + ys.length ≤ sizeLine then some (.m (.l (xs ++ ys))) else none
  | .add, .tuple xs, .tuple ys => if xs.length + ys.length ≤ sizeLine then some (.v (.tuple (xs ++ ys))) else none
  | .sub, .int i, .int j => some (.v (.int (i - j)))
  | .mul, .int i, .int j => if mulOk i j then some (.v (.int (i * j))) else none
  | .mul, .list xs, .int k => if repOk xs.length k then some (.m (.l (List.replicate k.toNat xs).flatten)) else none
  | .div, .int i, .int j => if divOk j then some (.v (.int (i / j))) else none
  | .mod, .int i, .int j => if 0 < j then some (.v (.int (i % j))) else none
  | .pow, .int i, .int j => if powOk i j then some (.v (.int (i ^ j.toNat))) else none
  | _, _, _ => none
def isNone : D → Bool
  | .none => true
  | _ => false
def flatD : D → Bool
  | .none => true
  | .bool _ => true
  | .int _ => true
  | .str _ => true
  | _ => false
def isIn (x : D) : D → Option Bool
  | .list ds => if SeqAt.shaped x && SeqAt.shaped (.list ds) then some (ds.any fun z => PyData.eqv z x) else none
  | .tuple ds => if flatD x && ds.all flatD then some (ds.any fun z => PyData.eqv z x) else none
  | .str z => match x with
    | .str y => some (!(Builtin.Str.occurrences z y 0 z.length 1).isEmpty)
    | _ => none
  | _ => none
def cmpD : COp → D → D → Option Bool
  | .lt, .int i, .int j => some (decide (i < j))
  | .le, .int i, .int j => some (decide (i ≤ j))
  | .gt, .int i, .int j => some (decide (j < i))
  | .ge, .int i, .int j => some (decide (j ≤ i))
  | .eq, .int i, .int j => some (decide (i = j))
  | .ne, .int i, .int j => some (!decide (i = j))
  | .eq, .str x, .str y => some (decide (x = y))
  | .ne, .str x, .str y => some (!decide (x = y))
  | .eq, x, y => if SeqAt.shaped x && SeqAt.shaped y then some (PyData.eqv x y) else none
  | .ne, x, y => if SeqAt.shaped x && SeqAt.shaped y then some (!PyData.eqv x y) else none
  | .isN, x, .none => some (isNone x)
  | .notN, x, .none => some (!isNone x)
  | .inn, x, y => isIn x y
  | .nin, x, y => (isIn x y).map (!·)
  | _, _, _ => none
def truth : D → Option Bool
  | .none => some false
  | .bool b => some b
  | .int i => some (i != 0)
  | .str x => if x.length ≤ sizeLine then some ((x.length : Int) != 0) else none
  | .list xs => some (!xs.isEmpty)
  | .tuple xs => some (!xs.isEmpty)
  | .dict _ => none
def idxD : D → D → Option D
  | .list xs, .int i => atI xs i
  | .tuple xs, .int i => atI xs i
  | .str z, .int i => if z.length ≤ sizeLine then (atI z.cps.toList i).map fun c => .str ⟨#[c]⟩ else none
  | _, _ => none
def cutD (xs : List D) (lo hi : Option Int) : List D :=
  (xs.drop (HT.sIx xs.length 0 lo)).take (HT.sIx xs.length xs.length hi - HT.sIx xs.length 0 lo)
def slcD : D → Option Int → Option Int → Option Val
  | .list xs, lo, hi => some (.m (.l (cutD xs lo hi)))
  | .tuple xs, lo, hi => some (.v (.tuple (cutD xs lo hi)))
  | .str z, lo, hi => if z.length ≤ sizeLine then some (.v (.str (cutS z lo hi))) else none
  | _, _, _ => none
def lenD : D → Option D
  | .list xs => some (.int xs.length)
  | .tuple xs => some (.int xs.length)
  | .str z => if z.length ≤ sizeLine then some (.int z.length) else none
  | _ => none
def intsD : List D → Option (List Int)
  | [] => some []
  | .int i :: r => (intsD r).map (i :: ·)
  | _ :: _ => none
def boolsD : List D → Option (List Bool)
  | [] => some []
  | .bool b :: r => (boolsD r).map (b :: ·)
  | _ :: _ => none
def maxL : List Int → Option Int
  | [] => none
  | x :: r => some (r.foldl max x)
def minL : List Int → Option Int
  | [] => none
  | x :: r => some (r.foldl min x)
/-- ascending, by insertion: ints -/
def insI (x : Int) : List Int → List Int
  | [] => [x]
  | y :: r => if x ≤ y then x :: y :: r else y :: insI x r
def sortI : List Int → List Int
  | [] => []
  | x :: r => insI x (sortI r)
def showOk (d : D) : Bool := d.showable && !d.hasDict && decide (d.depth ≤ 60) && decide (d.shown.length ≤ sizeLine)
def b1D : B1 → D → Option Val
  | .len, d => (lenD d).map .v
  | .sum, .list xs => (intsD xs).map fun ns => .v (.int ns.sum)
  | .max, .list xs => ((intsD xs).bind maxL).map fun m => .v (.int m)
  | .min, .list xs => ((intsD xs).bind minL).map fun m => .v (.int m)
  | .all, .list xs => (boolsD xs).map fun bs => .v (.bool (bs.all id))
  | .any, .list xs => (boolsD xs).map fun bs => .v (.bool (bs.any id))
  | .int, .int i => some (.v (.int i))
  | .int, .bool b => some (.v (.int (if b then 1 else 0)))
  | .repr, .int i => if i.natAbs.log2 < 1920 then some (.v (.str (toString i))) else none
  | .repr, .list xs => if showOk (.list xs) then some (.v (.str (PyData.shown (.list xs)))) else none
  | .repr, .tuple xs => if showOk (.tuple xs) then some (.v (.str (PyData.shown (.tuple xs)))) else none
  | .str, .int i => if i.natAbs.log2 < 1920 then some (.v (.str (toString i))) else none
  | .tuple, .list xs => some (.v (.tuple xs))
  | .tuple, .tuple xs => some (.v (.tuple xs))
  | .list, .list xs => some (.m (.l xs))
  | .list, .tuple xs => some (.m (.l xs))
  | .sorted, .list xs => (intsD xs).map fun ns => .m (.l ((sortI ns).map .int))
  | _, _ => none
def b2D : B2 → D → D → Option D
  | .max, .int i, .int j => some (.int (if j > i then j else i))
  | .min, .int i, .int j => some (.int (if j < i then j else i))
  | _, _, _ => none
def tyD : D → Option Ty
  | .none => none
  | .bool _ => some .bool
  | .int _ => some .int
  | .str _ => some .str
  | .list _ => some .list
  | .tuple _ => some .tuple
  | .dict _ => some .dict
/-- isinstance: a bool is an int -/
def isiD (d : D) (t : Ty) : Bool :=
  match d, t with
  | .bool _, .bool => true
  | .bool _, .int => true
  | .int _, .int => true
  | .str _, .str => true
  | .list _, .list => true
  | .tuple _, .tuple => true
  | .dict _, .dict => true
  | _, _ => false

/-! ### slots -/
def rdM : Option Sl → Option D
  | some (.im d) => some d
  | some (.ow c) => some c.toD
  | some (.bo c) => some c.toD
  | some (.sc ds) => some (.list ds)
  | _ => none
/-- the slot at i stands for something -/
def slotIn (g : Sg) (i : Nat) : Bool :=
  match g[i]? with
  | some .no => false
  | none => false
  | _ => true
def isBo : Option Sl → Bool
  | some (.bo _) => true
  | _ => false
def plainSl : Sl → Bool
  | .no => true
  | .im _ => true
  | _ => false
def wipeG (g : Sg) : List Nat → Sg
  | [] => g
  | i :: r => (wipeG g r).set i .no
def restG (g0 g : Sg) : List Nat → Sg
  | [] => g
  | i :: r => (restG g0 g r).set i (g0.getD i .no)
def setG (g : Sg) (i : Nat) (x : Sl) : Option Sg := if i < g.length ∧ isBo g[i]? = false then some (g.set i x) else none
mutual
def asg : Tg → D → Sg → Option Sg
  | .n i, d, g => setG g i (.im d)
  | .t ts, .tuple ds, g => asgs ts ds g
  | .t _, _, _ => none
def asgs : Tgs → List D → Sg → Option Sg
  | .nil, [], g => some g
  | .cons t ts, d :: ds, g => (asg t d g).bind fun g => asgs ts ds g
  | _, _, _ => none
end
def slOf (own : Bool) (x : Val) : Sl :=
  match x with
  | .v d => .im d
  | .m c => if own then .ow c else .im c.toD
inductive Ar where
  | v (d : D)
  | b (i : Nat)
def argOf (g : Sg) : Ar → Option Arg
  | .v d => some (.v d)
  | .b i => match g[i]? with
    | some (.ow c) => some (.m c)
    | some (.bo c) => some (.m c)
    | some (.sc ds) => some (.s ds)
    | _ => none
def argsOf (g : Sg) : List Ar → Option (List Arg)
  | [] => some []
  | a :: r => (argOf g a).bind fun x => (argsOf g r).map (x :: ·)
/-- what a callee left of the borrowed ones -/
def backG : List Ar → List (Option M) → Sg → Option Sg
  | [], [], g => some g
  | .v _ :: r, _ :: ms, g => backG r ms g
  | .b i :: r, m :: ms, g => match g[i]?, m with
    | some (.ow _), some c => backG r ms (g.set i (.ow c))
    | some (.bo _), some c => backG r ms (g.set i (.bo c))
    | some (.sc _), none => backG r ms g
    | _, _ => none
  | _, _, _ => none
def borrowed : List Ar → List Nat
  | [] => []
  | .v _ :: r => borrowed r
  | .b i :: r => i :: borrowed r
def noDup : List Nat → Bool
  | [] => true
  | x :: r => !r.contains x && noDup r
def callR (Γ : Call) (f : Nat) (rs : List Ar) (g : Sg) : R Val :=
  if noDup (borrowed rs) then
    (argsOf g rs).bind fun xs => (Γ f xs).bind fun (o, ms) => (backG rs ms g).map fun g => (o, g)
  else none
/-- the turns of a comprehension -/
def compGo (own : List Nat) (f : D → Sg → R (Option D)) : List D → List D → Sg → R (List D)
  | acc, [], g => ret acc g
  | acc, x :: xs, g => match f x (wipeG g own) with
    | some (.ok r, g) => if acc.length < sizeLine then compGo own f (match r with | some d => acc ++ [d] | none => acc) xs g else none
    | _ => none
def intArg (x : Val) : Option Int :=
  match x with
  | .v (.int i) => some i
  | _ => none
def rngOk (i : Int) : Bool := decide (-(2 ^ 62) ≤ i) && decide (i < 2 ^ 62)
def rngL (lo : Int) (n : Nat) : List D := (List.range n).map fun k => .int (lo + (k : Nat))
def seqD : D → Option (List D)
  | .list xs => some xs
  | .tuple xs => some xs
  | _ => none

/-! ### the machine -/
section
variable (Γ : Call) (cons : List (Str × D))
mutual
def ev : C → Sg → R Val
  | .int i, g => ret (.v (.int i)) g
  | .bl b, g => ret (.v (.bool b)) g
  | .non, g => ret (.v .none) g
  | .str x, g => ret (.v (.str x)) g
  | .var i, g => match g[i]? with
    | some (.im d) => ret (.v d) g
    | some (.ow c) => ret (.v c.toD) (g.set i (.im c.toD))
    | _ => none
  | .glb k, g => match cons[k]? with
    | some p => ret (.v p.2) g
    | none => none
  | .bin o a b, g => bnd (ev a g) fun x g => bnd (ev b g) fun y g => opt (binD o x.toD y.toD) g
  | .neg a, g => bnd (ev a g) fun x g => match x with
    | .v (.int i) => ret (.v (.int (-i))) g
    | _ => none
  | .cmp o a b, g => bnd (ev a g) fun x g => bnd (ev b g) fun y g => opt ((cmpD o x.toD y.toD).map fun b => .v (.bool b)) g
  | .chain o p a b c, g => bnd (ev a g) fun x g => bnd (ev b g) fun y g => match cmpD o x.toD y.toD with
    | some true => bnd (ev c g) fun z g => opt ((cmpD p y.toD z.toD).map fun b => .v (.bool b)) g
    | some false => ret (.v (.bool false)) g
    | none => none
  | .and a b, g => bnd (ev a g) fun x g => match x with
    | .v (.bool true) => ev b g
    | .v (.bool false) => ret (.v (.bool false)) g
    | _ => none
  | .or a b, g => bnd (ev a g) fun x g => match x with
    | .v (.bool true) => ret (.v (.bool true)) g
    | .v (.bool false) => ev b g
    | _ => none
  | .not a, g => bnd (ev a g) fun x g => opt ((truth x.toD).map fun b => .v (.bool (!b))) g
  | .ite c a b, g => bnd (ev c g) fun x g => match truth x.toD with
    | some true => ev a g
    | some false => ev b g
    | none => none
  | .tup es, g => bnd (evs es g) fun ds g => if ds.length ≤ sizeLine then ret (.v (.tuple ds)) g else none
  | .lst es, g => bnd (evs es g) fun ds g => if ds.length ≤ sizeLine then ret (.m (.l ds)) g else none
  | .idx a b, g => bnd (ev a g) fun x g => bnd (ev b g) fun y g => opt ((idxD x.toD y.toD).map .v) g
  | .idxv i b, g => if slotIn g i then bnd (ev b g) fun y g => match rdM g[i]? with
      | some d => opt ((idxD d y.toD).map .v) g
      | none => none
    else none
  | .lenv i, g => match rdM g[i]? with
    | some d => opt ((lenD d).map .v) g
    | none => none
  | .slc a lo hi, g => bnd (ev a g) fun x g => bnd (evo lo g) fun l g => bnd (evo hi g) fun h g => opt (slcD x.toD l h) g
  | .call f n as, g => bnd (evas as g) fun rs g => if rs.length = n then callR Γ f rs g else none
  | .b1 o a, g => bnd (ev a g) fun x g => opt (b1D o x.toD) g
  | .b2 o a b, g => bnd (ev a g) fun x g => bnd (ev b g) fun y g => opt ((b2D o x.toD y.toD).map .v) g
  | .isi a t, g => bnd (ev a g) fun x g => ret (.v (.bool (isiD x.toD t))) g
  | .comp e t s q own, g => bnd (evr s g) fun xs g =>
    if own.all fun i => plainSl (g.getD i .no) then
      match compGo own (fun d g => (asg t d g).bind fun g => bnd (evq q g) fun b g =>
          if b then bnd (ev e g) fun y g => ret (some y.toD) g else ret none g) [] xs g with
      | some (.ok ds, g') => ret (.m (.l ds)) (restG g g' own)
      | _ => none
    else none
def evo : Co → Sg → R (Option Int)
  | .non, g => ret none g
  | .som a, g => bnd (ev a g) fun x g => match x with
    | .v (.int i) => ret (some i) g
    | _ => none
def evq : Co → Sg → R Bool
  | .non, g => ret true g
  | .som a, g => bnd (ev a g) fun x g => opt (truth x.toD) g
def evs : Cs → Sg → R (List D)
  | .nil, g => ret [] g
  | .cons e es, g => bnd (ev e g) fun x g => bnd (evs es g) fun xs g => ret (x.toD :: xs) g
def evas : As → Sg → R (List Ar)
  | .nil, g => ret [] g
  | .val e r, g => bnd (ev e g) fun x g => bnd (evas r g) fun xs g => ret (.v x.toD :: xs) g
  | .bor i r, g => if slotIn g i then bnd (evas r g) fun xs g => ret (.b i :: xs) g else none
def evr : Sr → Sg → R (List D)
  | .seq a, g => bnd (ev a g) fun x g => opt (seqD x.toD) g
  | .rng1 a, g => bnd (ev a g) fun x g => match x with
    | .v (.int j) => if rngOk j then ret (rngL 0 j.toNat) g else none
    | _ => none
  | .rng2 a b, g => bnd (ev a g) fun x g => bnd (ev b g) fun y g => match x, y with
    | .v (.int i), .v (.int j) => if rngOk i && rngOk j then ret (rngL i (j - i).toNat) g else none
    | _, _ => none
end

inductive Fl where
  | nx
  | bk
  | ct
  | rt (v : Val)
  | ex (x : Exc)
abbrev RS := Option (Fl × Sg)
def sbnd {α : Type} (r : R α) (k : α → Sg → RS) : RS :=
  match r with
  | none => none
  | some (.ok a, g) => k a g
  | some (.ex x, g) => some (.ex x, g)
def seq (r : RS) (k : Sg → RS) : RS :=
  match r with
  | some (.nx, g) => k g
  | r => r
def sopt (o : Option Sg) : RS := o.map fun g => (.nx, g)
def whlGo (c : Sg → R Bool) (b : Sg → RS) : Nat → Sg → RS
  | 0, _ => none
  | n + 1, g => sbnd (c g) fun t g =>
    if t then
      match b g with
      | some (.nx, g) => whlGo c b n g
      | some (.ct, g) => whlGo c b n g
      | some (.bk, g) => some (.nx, g)
      | r => r
    else some (.nx, g)
def forGo (t : Tg) (b : Sg → RS) : List D → Sg → RS
  | [], g => some (.nx, g)
  | d :: ds, g => (asg t d g).bind fun g =>
    match b g with
    | some (.nx, g) => forGo t b ds g
    | some (.ct, g) => forGo t b ds g
    | some (.bk, g) => some (.nx, g)
    | r => r
def putM : M → D → D → Option M
  | .l ds, .int k, d => (ixN ds.length k).map fun j => .l (ds.set j d)
  | _, _, _ => none
def appM : M → D → Option M
  | .l ds, d => if ds.length < sizeLine then some (.l (ds ++ [d])) else none
def upM (g : Sg) (i : Nat) (f : M → Option M) : RS :=
  match g[i]? with
  | some (.ow c) => (f c).map fun c => (.nx, g.set i (.ow c))
  | some (.bo c) => (f c).map fun c => (.nx, g.set i (.bo c))
  | _ => none
def isM (g : Sg) (i : Nat) : Bool :=
  match g[i]? with
  | some (.ow _) => true
  | some (.bo _) => true
  | _ => false
variable (fuel : Nat)
mutual
def evS : S → Sg → RS
  | .set i own e, g => sbnd (ev Γ cons e g) fun x g => sopt (setG g i (slOf own x))
  | .par i j p q a b, g => sbnd (ev Γ cons a g) fun x g => sbnd (ev Γ cons b g) fun y g =>
    sopt ((setG g i (slOf p x)).bind fun g => setG g j (slOf q y))
  | .asg t e, g => sbnd (ev Γ cons e g) fun x g => sopt (asg t x.toD g)
  | .put i k e, g => sbnd (ev Γ cons e g) fun y g => if isM g i then sbnd (ev Γ cons k g) fun x g => upM g i fun c => putM c x.toD y.toD else none
  | .app i e, g => if isM g i then sbnd (ev Γ cons e g) fun y g => upM g i fun c => appM c y.toD else none
  | .exp e, g => sbnd (ev Γ cons e g) fun _ g => some (.nx, g)
  | .ret e, g => sbnd (ev Γ cons e g) fun x g => some (.rt x, g)
  | .retN, g => some (.rt (.v .none), g)
  | .ite c a b, g => sbnd (ev Γ cons c g) fun x g => match truth x.toD with
    | some true => evSs a g
    | some false => evSs b g
    | none => none
  | .whl c b, g => whlGo (fun g => bnd (ev Γ cons c g) fun x g => opt (truth x.toD) g) (fun g => evSs b g) fuel g
  | .for t s b, g => sbnd (evr Γ cons s g) fun xs g => forGo t (fun g => evSs b g) xs g
  | .raise _ _, _ => none
  | .pass, g => some (.nx, g)
  | .brk, g => some (.bk, g)
  | .cont, g => some (.ct, g)
def evSs : Ss → Sg → RS
  | .nil, g => some (.nx, g)
  | .cons s r, g => seq (evS s g) fun g => evSs r g
end
end

def envOf : Arg → Sl
  | .v d => .im d
  | .m c => .bo c
  | .s ds => .sc ds
/-- the borrowed ones at a def's end -/
def outM : List Arg → Sg → Option (List (Option M))
  | [], _ => some []
  | .v _ :: r, _ :: g => (outM r g).map (none :: ·)
  | .s _ :: r, _ :: g => (outM r g).map (none :: ·)
  | .m _ :: r, .bo c :: g => (outM r g).map (some c :: ·)
  | _, _ => none
def runFn (Γ : Call) (cons : List (Str × D)) (fuel : Nat) (f : FnI) (as : List Arg) : Option (Out Val × List (Option M)) :=
  if as.length = f.ps.length then
    match evSs Γ cons fuel f.body (as.map envOf ++ List.replicate (f.N.length - as.length) .no) with
    | some (.nx, g) => (outM as g).map fun ms => (.ok (.v .none), ms)
    | some (.rt v, g) => (outM as g).map fun ms => (.ok v, ms)
    | some (.ex x, g) => (outM as g).map fun ms => (.ex x, ms)
    | _ => none
  else none
/-- the whole program, to a depth of calls -/
def run (T : Tab) (fuel : Nat) : Nat → Call
  | 0 => fun _ _ => none
  | n + 1 => fun f as => match T.fns[f]? with
    | some i => runFn (run T fuel n) T.cons fuel i as
    | none => none
end Z

/-! Z1: how the machine's data lie in the model: tags, slots, weakest readings. -/
namespace Z
open PySem PySem.Spec PyProof.Rows L2

inductive Tag where
  | un
  | st
  | fr
  | sl (i : Nat)
  deriving DecidableEq
abbrev Gh := Addr → Tag
def Bh (G : Gh) (H : Hp) : Hp := fun a => if G a = .st then H a else none
def Tagd (G : Gh) (H : Hp) : Prop := ∀ a, G a ≠ .un → H a ≠ none
structure Ext (G : Gh) (H : Hp) (G' : Gh) (H' : Hp) : Prop where
  st : ∀ a, G a = .st → G' a = .st ∧ H' a = H a
  fr : ∀ a, G a = .fr → G' a = .fr ∧ H' a = H a
  nf : ∀ a, G' a = .fr → G a = .fr
theorem Ext.refl (G : Gh) (H : Hp) : Ext G H G H := ⟨fun _ h => ⟨h, rfl⟩, fun _ h => ⟨h, rfl⟩, fun _ h => h⟩
theorem Ext.trans {G H G1 H1 G2 H2} (a : Ext G H G1 H1) (b : Ext G1 H1 G2 H2) : Ext G H G2 H2 :=
  ⟨fun x h => ⟨(b.st x (a.st x h).1).1, (b.st x (a.st x h).1).2.trans (a.st x h).2⟩,
   fun x h => ⟨(b.fr x (a.fr x h).1).1, (b.fr x (a.fr x h).1).2.trans (a.fr x h).2⟩, fun x h => a.nf x (b.nf x h)⟩
theorem Ext.same {G H G' H'} (e : Ext G H G' H') : Same (Bh G H) (Bh G' H') := fun a o h => by
  unfold Bh at h ⊢
  by_cases q : G a = .st
  · rw [if_pos q] at h
    rw [if_pos (e.st a q).1, (e.st a q).2]
    exact h
  · rw [if_neg q] at h
    cases h
theorem Bh.same {G : Gh} {H : Hp} : Same (Bh G H) H := fun a o h => by
  unfold Bh at h
  by_cases q : G a = .st
  · rw [if_pos q] at h
    exact h
  · rw [if_neg q] at h
    cases h

/-! ### data in a heap that stands still -/
mutual
inductive Rp (K : PySem.W.Frag) (B : Hp) : V → D → Prop
  | non : Rp K B .non .none
  | bl (b : Bool) : Rp K B (.bl b) (.bool b)
  | int (i : Int) : Rp K B (.int i) (.int i)
  | str (x : Str) : Rp K B (.str x) (.str x)
  | lst {a : Addr} {xs : List V} {ds : List D} : B a = some (.lst xs) → RpAll K B xs ds → Rp K B (.ref a) (.list ds)
  | tup {a : Addr} {xs : List V} {ds : List D} : SqT K B a xs → RpAll K B xs ds → Rp K B (.ref a) (.tuple ds)
inductive RpAll (K : PySem.W.Frag) (B : Hp) : List V → List D → Prop
  | nil : RpAll K B [] []
  | cons {v : V} {vs : List V} {d : D} {ds : List D} : Rp K B v d → RpAll K B vs ds → RpAll K B (v :: vs) (d :: ds)
end
theorem sqt_mono {K : PySem.W.Frag} {B B' : Hp} (e : Same B B') {a : Addr} {xs : List V} (h : SqT K B a xs) : SqT K B' a xs := by
  rcases h with (h | ⟨o, h⟩) | h
  · exact .inl (.inl (e _ _ h))
  · exact .inl (.inr ⟨o, e _ _ h⟩)
  · exact .inr h
section
variable {K : PySem.W.Frag} {B B' : Hp}
mutual
theorem Rp.mono (e : Same B B') : ∀ {v : V} {d : D}, Rp K B v d → Rp K B' v d
  | _, _, .non => .non
  | _, _, .bl b => .bl b
  | _, _, .int i => .int i
  | _, _, .str x => .str x
  | _, _, .lst h r => .lst (e _ _ h) (RpAll.mono e r)
  | _, _, .tup h r => .tup (sqt_mono e h) (RpAll.mono e r)
theorem RpAll.mono (e : Same B B') : ∀ {vs : List V} {ds : List D}, RpAll K B vs ds → RpAll K B' vs ds
  | _, _, .nil => .nil
  | _, _, .cons h r => .cons (Rp.mono e h) (RpAll.mono e r)
end
mutual
theorem Rp.dp : ∀ {v : V} {d : D}, Rp K B v d → Dp K B v d
  | _, _, .non => .non
  | _, _, .bl b => .bl b
  | _, _, .int i => .int i
  | _, _, .str x => .str x
  | _, _, .lst h r => .lst (SqL.of h) (RpAll.dp r)
  | _, _, .tup h r => .tup h (RpAll.dp r)
theorem RpAll.dp : ∀ {vs : List V} {ds : List D}, RpAll K B vs ds → DpAll K B vs ds
  | _, _, .nil => .nil
  | _, _, .cons h r => .cons (Rp.dp h) (RpAll.dp r)
end
theorem RpAll.length : ∀ {vs : List V} {ds : List D}, RpAll K B vs ds → vs.length = ds.length
  | _, _, .nil => rfl
  | _, _, .cons _ r => congrArg (· + 1) (RpAll.length r)
theorem RpAll.get : ∀ {vs : List V} {ds : List D}, RpAll K B vs ds → ∀ {i : Nat} {d : D}, ds[i]? = some d → ∃ v, vs[i]? = some v ∧ Rp K B v d
  | _, _, .nil, i, d, h => by simp at h
  | _, _, .cons h r, 0, d, e => by
    simp at e
    subst e
    exact ⟨_, rfl, h⟩
  | _, _, .cons h r, i + 1, d, e => by
    obtain ⟨v, q, z⟩ := RpAll.get r (i := i) (d := d) (by simpa using e)
    exact ⟨v, by simpa using q, z⟩
theorem RpAll.app : ∀ {vs ws : List V} {ds es : List D}, RpAll K B vs ds → RpAll K B ws es → RpAll K B (vs ++ ws) (ds ++ es)
  | _, _, _, _, .nil, s => s
  | _, _, _, _, .cons h r, s => .cons h (RpAll.app r s)
theorem RpAll.take : ∀ {vs : List V} {ds : List D} (n : Nat), RpAll K B vs ds → RpAll K B (vs.take n) (ds.take n)
  | _, _, 0, _ => .nil
  | _, _, _ + 1, .nil => .nil
  | _, _, n + 1, .cons h r => .cons h (RpAll.take n r)
theorem RpAll.drop : ∀ {vs : List V} {ds : List D} (n : Nat), RpAll K B vs ds → RpAll K B (vs.drop n) (ds.drop n)
  | _, _, 0, r => r
  | _, _, _ + 1, .nil => .nil
  | _, _, n + 1, .cons _ r => RpAll.drop n r
theorem RpAll.set {v : V} {d : D} (h : Rp K B v d) : ∀ {vs : List V} {ds : List D} (n : Nat), RpAll K B vs ds → RpAll K B (vs.set n v) (ds.set n d)
  | _, _, _, .nil => .nil
  | _, _, 0, .cons _ r => .cons h r
  | _, _, n + 1, .cons q r => .cons q (RpAll.set h n r)
theorem RpAll.erase : ∀ {vs : List V} {ds : List D} (n : Nat), RpAll K B vs ds → RpAll K B (vs.eraseIdx n) (ds.eraseIdx n)
  | _, _, _, .nil => .nil
  | _, _, 0, .cons _ r => r
  | _, _, n + 1, .cons q r => .cons q (RpAll.erase n r)
theorem RpAll.rep {vs : List V} {ds : List D} (h : RpAll K B vs ds) : ∀ n : Nat, RpAll K B (List.replicate n vs).flatten (List.replicate n ds).flatten
  | 0 => .nil
  | n + 1 => by
    rw [List.replicate_succ, List.replicate_succ, List.flatten_cons, List.flatten_cons]
    exact h.app (RpAll.rep h n)
theorem RpAll.ints : ∀ {vs : List V} {ds : List D} {ns : List Int}, RpAll K B vs ds → intsD ds = some ns → vs = ns.map V.int
  | _, _, ns, .nil, e => by
    simp [intsD] at e
    subst e
    rfl
  | _, d :: ds, ns, .cons h r, e => by
    cases d with
    | int i =>
      cases h
      simp only [intsD, Option.map_eq_some_iff] at e
      obtain ⟨ms, q, rfl⟩ := e
      rw [RpAll.ints r q]
      rfl
    | none => simp [intsD] at e
    | bool _ => simp [intsD] at e
    | str _ => simp [intsD] at e
    | list _ => simp [intsD] at e
    | tuple _ => simp [intsD] at e
    | dict _ => simp [intsD] at e
theorem RpAll.bools : ∀ {vs : List V} {ds : List D} {ns : List Bool}, RpAll K B vs ds → boolsD ds = some ns → vs = ns.map V.bl
  | _, _, ns, .nil, e => by
    simp [boolsD] at e
    subst e
    rfl
  | _, d :: ds, ns, .cons h r, e => by
    cases d with
    | bool i =>
      cases h
      simp only [boolsD, Option.map_eq_some_iff] at e
      obtain ⟨ms, q, rfl⟩ := e
      rw [RpAll.bools r q]
      rfl
    | none => simp [boolsD] at e
    | int _ => simp [boolsD] at e
    | str _ => simp [boolsD] at e
    | list _ => simp [boolsD] at e
    | tuple _ => simp [boolsD] at e
    | dict _ => simp [boolsD] at e
theorem RpAll.of_ints : ∀ ns : List Int, RpAll K B (ns.map V.int) (ns.map PyData.int)
  | [] => .nil
  | n :: r => .cons (.int n) (RpAll.of_ints r)
end

/-! ### slots -/
def MOk (K : PySem.W.Frag) (G : Gh) (H : Hp) (i : Nat) : M → Addr → Prop
  | .l ds, a => G a = .sl i ∧ ∃ vs, H a = some (.lst vs) ∧ RpAll K (Bh G H) vs ds
/-- a new one, nobody's yet -/
def FOk (K : PySem.W.Frag) (G : Gh) (H : Hp) : M → Addr → Prop
  | .l ds, a => G a = .un ∧ ∃ vs, H a = some (.lst vs) ∧ RpAll K (Bh G H) vs ds
def SlOk (K : PySem.W.Frag) (β : Nat → Option Addr) (G : Gh) (H : Hp) (i : Nat) : Sl → Option V → Prop
  | .no, _ => True
  | .im d, x => ∃ v, x = some v ∧ Rp K (Bh G H) v d
  | .ow c, x => ∃ a, x = some (.ref a) ∧ MOk K G H i c a
  | .bo c, x => ∃ a, x = some (.ref a) ∧ MOk K G H i c a ∧ β i = some a
  | .sc ds, x => ∃ a vs, x = some (.ref a) ∧ SqL K (Bh G H) a vs ∧ RpAll K (Bh G H) vs ds
structure SR (K : PySem.W.Frag) (β : Nat → Option Addr) (G : Gh) (H : Hp) (g : Sg) (σ : L2.St) : Prop where
  len : g.length = σ.length
  ok : ∀ i s, g[i]? = some s → SlOk K β G H i s (σ.getD i none)
  tag : Tagd G H
def ValOk (K : PySem.W.Frag) (G : Gh) (H : Hp) : Val → V → Prop
  | .v d, v => Rp K (Bh G H) v d
  | .m c, v => ∃ a, v = .ref a ∧ FOk K G H c a
/-- an exception's class stands at its place -/
structure Grow (G : Gh) (H : Hp) (G' : Gh) (H' : Hp) : Prop extends Ext G H G' H' where
  sl : ∀ a i, G a = .sl i → G' a = .sl i ∧ H' a = H a
  tag : Tagd G' H'
theorem Grow.refl {G : Gh} {H : Hp} (t : Tagd G H) : Grow G H G H := ⟨Ext.refl _ _, fun _ _ h => ⟨h, rfl⟩, t⟩
theorem Grow.trans {G H G1 H1 G2 H2} (a : Grow G H G1 H1) (b : Grow G1 H1 G2 H2) : Grow G H G2 H2 :=
  ⟨a.toExt.trans b.toExt, fun x i h => ⟨(b.sl x i (a.sl x i h).1).1, (b.sl x i (a.sl x i h).1).2.trans (a.sl x i h).2⟩, b.tag⟩
section
variable {K : PySem.W.Frag} {G G' : Gh} {H H' : Hp} {g : Sg} {σ : L2.St}
theorem MOk.keep {i : Nat} {c : M} {a : Addr} (h : MOk K G H i c a) (s : Same (Bh G H) (Bh G' H')) (e : ∀ a, G a = .sl i → G' a = .sl i ∧ H' a = H a) : MOk K G' H' i c a := by
  cases c with
  | l ds =>
    obtain ⟨t, vs, q, r⟩ := h
    exact ⟨(e a t).1, vs, (e a t).2.trans q, r.mono s⟩
theorem SlOk.keep {β : Nat → Option Addr} {i : Nat} {s : Sl} {x : Option V} (h : SlOk K β G H i s x) (sm : Same (Bh G H) (Bh G' H')) (e : ∀ a, G a = .sl i → G' a = .sl i ∧ H' a = H a) : SlOk K β G' H' i s x := by
  cases s with
  | no => trivial
  | im d =>
    obtain ⟨v, q, r⟩ := h
    exact ⟨v, q, r.mono sm⟩
  | ow c =>
    obtain ⟨a, q, r⟩ := h
    exact ⟨a, q, r.keep sm e⟩
  | bo c =>
    obtain ⟨a, q, r, z⟩ := h
    exact ⟨a, q, r.keep sm e, z⟩
  | sc ds =>
    obtain ⟨a, vs, q, r, z⟩ := h
    exact ⟨a, vs, q, sm.seq r, z.mono sm⟩
theorem SR.grow {β : Nat → Option Addr} (h : SR K β G H g σ) (w : Grow G H G' H') : SR K β G' H' g σ :=
  ⟨h.len, fun i s e => (h.ok i s e).keep w.same fun a q => w.sl a i q, w.tag⟩
theorem SR.un {β : Nat → Option Addr} (h : SR K β G H g σ) {p : Addr} (hp : H p = none) : G p = .un := by
  cases e : G p with
  | un => rfl
  | st => exact absurd hp (h.tag p (by rw [e]; exact fun z => nomatch z))
  | fr => exact absurd hp (h.tag p (by rw [e]; exact fun z => nomatch z))
  | sl i => exact absurd hp (h.tag p (by rw [e]; exact fun z => nomatch z))
theorem Tagd.un (h : Tagd G H) {p : Addr} (hp : H p = none) : G p = .un := by
  cases e : G p with
  | un => rfl
  | st => exact absurd hp (h p (by rw [e]; exact fun z => nomatch z))
  | fr => exact absurd hp (h p (by rw [e]; exact fun z => nomatch z))
  | sl i => exact absurd hp (h p (by rw [e]; exact fun z => nomatch z))
/-- a new object -/
theorem Grow.new (t : Tagd G H) {p : Addr} (hp : H p = none) (o : HO) : Grow G H G (upd H p o) := by
  have u := t.un hp
  have ne : ∀ a, G a ≠ .un → a ≠ p := fun a h z => h (z ▸ u)
  refine ⟨⟨fun a h => ⟨h, upd_ne (ne a (by rw [h]; exact fun z => nomatch z))⟩, fun a h => ⟨h, upd_ne (ne a (by rw [h]; exact fun z => nomatch z))⟩, fun _ h => h⟩,
    fun a i h => ⟨h, upd_ne (ne a (by rw [h]; exact fun z => nomatch z))⟩, fun a h => ?_⟩
  rw [upd_ne (ne a h)]
  exact t a h
def tagAt (G : Gh) (p : Addr) (t : Tag) : Gh := fun a => if a = p then t else G a
theorem tagAt_same {G : Gh} {p : Addr} {t : Tag} : tagAt G p t p = t := if_pos rfl
theorem tagAt_ne {G : Gh} {p a : Addr} {t : Tag} (h : a ≠ p) : tagAt G p t a = G a := if_neg h
/-- nobody's object stands still from here on -/
theorem Grow.hold (t : Tagd G H) {p : Addr} (hp : G p = .un) (ho : H p ≠ none) : Grow G H (tagAt G p .st) H := by
  have ne : ∀ a, G a ≠ .un → a ≠ p := fun a h z => h (z ▸ hp)
  refine ⟨⟨fun a h => ?_, fun a h => ?_, fun a h => ?_⟩, fun a i h => ?_, fun a h => ?_⟩
  · exact ⟨(tagAt_ne (ne a (by rw [h]; exact fun z => nomatch z))).trans h, rfl⟩
  · exact ⟨(tagAt_ne (ne a (by rw [h]; exact fun z => nomatch z))).trans h, rfl⟩
  · by_cases e : a = p
    · rw [e, tagAt_same] at h
      cases h
    · rw [tagAt_ne e] at h
      exact h
  · exact ⟨(tagAt_ne (ne a (by rw [h]; exact fun z => nomatch z))).trans h, rfl⟩
  · by_cases e : a = p
    · rw [e]
      exact ho
    · rw [tagAt_ne e] at h
      exact t a h
theorem FOk.rp {c : M} {a : Addr} (h : FOk K G H c a) (t : Tagd G H) : Rp K (Bh (tagAt G a .st) H) (.ref a) c.toD ∧ Grow G H (tagAt G a .st) H := by
  cases c with
  | l ds =>
    obtain ⟨u, vs, e, r⟩ := h
    have w := Grow.hold t u (by rw [e]; exact fun z => nomatch z)
    refine ⟨.lst ?_ (r.mono w.same), w⟩
    unfold Bh
    rw [if_pos tagAt_same]
    exact e
/-- any value may be taken for its datum -/
theorem ValOk.rp {x : Val} {v : V} (h : ValOk K G H x v) (t : Tagd G H) : ∃ G', Rp K (Bh G' H) v x.toD ∧ Grow G H G' H := by
  cases x with
  | v d => exact ⟨G, h, Grow.refl t⟩
  | m c =>
    obtain ⟨a, rfl, q⟩ := h
    exact ⟨_, q.rp t⟩
end

/-! ### weakest readings -/
section
variable (X : Cx)
def WE (e : Expr) : TE := fun σ H Q => ∀ (pins : List (Addr × Obj)) (s : Shared), Inv X pins σ H s → wpAny (model X.prog X.w) X.A (eval e X.env) (EP X pins σ Q) X.xe s
def WT (e : Expr) : TT := fun σ H Q => ∀ (pins : List (Addr × Obj)) (s : Shared), Inv X pins σ H s → wpAny (model X.prog X.w) X.A (isTrue e X.env (eval e X.env)) (TP X pins σ Q) X.xe s
def WW (e : Expr) : TT := fun σ H Q => ∀ (whole : Sem Value) (pins : List (Addr × Obj)) (s : Shared), Inv X pins σ H s → wpAny (model X.prog X.w) X.A (isTrue e X.env whole) (TP X pins σ Q) X.xe s
def WA (es : List Expr) : TA := fun σ H Q => ∀ (pos : Pos) (pins : List (Addr × Obj)) (s : Shared), Inv X pins σ H s → wpAny (model X.prog X.w) X.A (spliced (backTo pos (starEach es X.env))) (AP X pins σ Q) X.xe s
def WS (st : Stmt) : TS := fun Dn σ H => ∀ (pins : List (Addr × Obj)) (s : Shared), Inv X pins σ H s → wpAny (model X.prog X.w) X.A (exec st X.env) (SP X pins Dn) X.xe s
def WSs (st : List Stmt) : TS := fun Dn σ H => ∀ (pins : List (Addr × Obj)) (s : Shared), Inv X pins σ H s → wpAny (model X.prog X.w) X.A (execs st X.env) (SP X pins Dn) X.xe s
end
section
variable {X : Cx}
theorem we_max {e : Expr} : PE X e (WE X e) := ⟨fun pins s _ _ _ I h => h pins s I⟩
theorem wt_max {e : Expr} : PT X e (WT X e) := ⟨fun pins s _ _ _ I h => h pins s I⟩
theorem ww_max {e : Expr} : PW X e (WW X e) := ⟨fun whole pins s _ _ _ I h => h whole pins s I⟩
theorem wa_max {es : List Expr} : PA X es (WA X es) := ⟨fun pos pins s _ _ _ I h => h pos pins s I⟩
theorem ws_max {st : Stmt} : PS X st (WS X st) := ⟨fun pins s _ _ _ I h => h pins s I⟩
theorem wss_max {st : List Stmt} : PSs X st (WSs X st) := ⟨fun pins s _ _ _ I h => h pins s I⟩
theorem we_of {e : Expr} {t : TE} (h : PE X e t) {σ : L2.St} {H : Hp} {Q : VK} (q : t σ H Q) : WE X e σ H Q := fun pins s I => h.run pins s σ H Q I q
theorem wt_of {e : Expr} {t : TT} (h : PT X e t) {σ : L2.St} {H : Hp} {Q : Bool → Hp → Prop} (q : t σ H Q) : WT X e σ H Q := fun pins s I => h.run pins s σ H Q I q
theorem ww_of {e : Expr} {t : TT} (h : PW X e t) {σ : L2.St} {H : Hp} {Q : Bool → Hp → Prop} (q : t σ H Q) : WW X e σ H Q := fun wh pins s I => h.run wh pins s σ H Q I q
theorem wa_of {e : List Expr} {t : TA} (h : PA X e t) {σ : L2.St} {H : Hp} {Q : List V → Hp → Prop} (q : t σ H Q) : WA X e σ H Q := fun p pins s I => h.run p pins s σ H Q I q
theorem ws_of {st : Stmt} {t : TS} (h : PS X st t) {σ : L2.St} {H : Hp} {Dn : Ends} (q : t Dn σ H) : WS X st Dn σ H := fun pins s I => h.run pins s σ H Dn I q
theorem wss_of {st : List Stmt} {t : TS} (h : PSs X st t) {σ : L2.St} {H : Hp} {Dn : Ends} (q : t Dn σ H) : WSs X st Dn σ H := fun pins s I => h.run pins s σ H Dn I q
theorem WE.imp {e : Expr} {σ : L2.St} {H : Hp} {Q Q' : VK} (h : WE X e σ H Q) (q : ∀ v H', Q v H' → Q' v H') : WE X e σ H Q' := fun pins s I =>
  thn (h pins s I) fun _ _ ⟨v, H', J, r, z⟩ => ⟨v, H', J, r, q v H' z⟩
end
end Z

/-! Z2: operators, comparisons, subscripts, built-ins, by values. -/
namespace Z
open PySem PySem.Spec PyProof.Rows L2

def Give (K : PySem.W.Frag) (G : Gh) (H : Hp) (r : Val) (Q : VK) : Prop := ∀ v H' G', Grow G H G' H' → ValOk K G' H' r v → Q v H'
section
variable {K : PySem.W.Frag} {G : Gh} {H : Hp} {Q : VK} {vs : List V} {ds : List D}
theorem Give.at {d : D} {v : V} (h : Give K G H (.v d) Q) (t : Tagd G H) (r : Rp K (Bh G H) v d) : Q v H := h v H G (Grow.refl t) r
theorem Give.lst (h : Give K G H (.m (.l ds)) Q) (t : Tagd G H) (r : RpAll K (Bh G H) vs ds) : ∀ p, H p = none → Q (.ref p) (upd H p (.lst vs)) := fun p hp => by
  have w := Grow.new t hp (.lst vs)
  exact h _ _ G w ⟨p, rfl, t.un hp, vs, upd_same, r.mono w.same⟩
theorem new_st (t : Tagd G H) {p : Addr} (hp : H p = none) (o : HO) : Grow G H (tagAt G p .st) (upd H p o) ∧ Bh (tagAt G p .st) (upd H p o) p = some o := by
  have w := Grow.new t hp o
  refine ⟨w.trans (Grow.hold w.tag (t.un hp) (by rw [upd_same]; exact fun z => nomatch z)), ?_⟩
  unfold Bh
  rw [if_pos tagAt_same, upd_same]
theorem Give.tup (h : Give K G H (.v (.tuple ds)) Q) (t : Tagd G H) (r : RpAll K (Bh G H) vs ds) : ∀ p, H p = none → Q (.ref p) (upd H p (.tup vs)) := fun p hp => by
  obtain ⟨w, e⟩ := new_st t hp (.tup vs)
  exact h _ _ _ w (.tup (SqT.of e) (r.mono w.same))
theorem rp_int {B : Hp} {v : V} {i : Int} (h : Rp K B v (.int i)) : v = .int i := by cases h; rfl
theorem rp_bl {B : Hp} {v : V} {i : Bool} (h : Rp K B v (.bool i)) : v = .bl i := by cases h; rfl
theorem rp_str {B : Hp} {v : V} {i : Str} (h : Rp K B v (.str i)) : v = .str i := by cases h; rfl
theorem rp_none {B : Hp} {v : V} (h : Rp K B v .none) : v = .non := by cases h; rfl
theorem rp_lst {v : V} (h : Rp K (Bh G H) v (.list ds)) : ∃ a xs, v = .ref a ∧ H a = some (.lst xs) ∧ RpAll K (Bh G H) xs ds := by
  cases h with
  | lst e r => exact ⟨_, _, rfl, Bh.same _ _ e, r⟩
theorem rp_tup {v : V} (h : Rp K (Bh G H) v (.tuple ds)) : ∃ a xs, v = .ref a ∧ SqT K H a xs ∧ RpAll K (Bh G H) xs ds := by
  cases h with
  | tup e r => exact ⟨_, _, rfl, sqt_mono Bh.same e, r⟩
end

def opOf : BOp → Operator
  | .add => .Add
  | .sub => .Sub
  | .mul => .Mult
  | .div => .FloorDiv
  | .mod => .Mod
  | .pow => .Pow
def rBin (K : PySem.W.Frag) (o : BOp) : R2 := fun x y H Q => ∃ G d e r, Tagd G H ∧ Rp K (Bh G H) x d ∧ Rp K (Bh G H) y e ∧ binD o d e = some r ∧ Give K G H r Q
theorem mulOk_int {M : Model} {A : Around} {E : Value → Shared → Prop} {s : Shared} {Q : Value → Shared → Prop} {i j : Int} {t u : Tok} (h : mulOk i j = true) : CMul i j ∨ CMulW i j := by
  unfold mulOk at h
  simp only [Bool.or_eq_true, Bool.and_eq_true, decide_eq_true_eq] at h
  rcases h with (h | h) | h
  · exact .inl (.inl h)
  · exact .inl (.inr h)
  · exact .inr h
theorem divOk_w {i j : Int} (h : divOk j = true) : CDivW i j := by
  unfold divOk at h
  simp only [Bool.or_eq_true, Bool.and_eq_true, decide_eq_true_eq] at h
  refine ⟨h.1, ?_⟩
  rcases h.2 with q | q
  · have a : j.natAbs < 2 ^ 62 := by omega
    by_cases z : j.natAbs = 0
    · rw [z]
      decide
    · have := (Nat.log2_lt z).mpr a
      omega
  · exact q
theorem op_bin {X : Cx} (o : BOp) : OpR X (binaryOp (opOf o)) (rBin X.K o) := by
  intro pins s σ H x y v u Q I rx ry ⟨G, d, e, r, t, rd, re, hb, q⟩
  unfold binD at hb
  split at hb
  · cases hb
    exact op_add pins s σ H x y v u Q I rx ry ⟨_, _, rp_int rd, rp_int re, q.at t (.int _)⟩
  · split at hb
    · cases hb
      exact op_add_str pins s σ H x y v u Q I rx ry ⟨_, _, rp_str rd, rp_str re, by assumption, q.at t (.str _)⟩
    · cases hb
  · split at hb
    · rename_i hz
      cases hb
      obtain ⟨a, xs, rfl, ha, ra⟩ := rp_lst rd
      obtain ⟨b, ys, rfl, hb, rb⟩ := rp_lst re
      exact op_cat pins s σ H _ _ v u Q I rx ry ⟨a, b, xs, ys, rfl, rfl, ha, hb, by rw [ra.length, rb.length]; exact hz, q.lst t (ra.app rb)⟩
    · cases hb
  · split at hb
    · rename_i hz
      cases hb
      obtain ⟨a, xs, rfl, ha, ra⟩ := rp_tup rd
      obtain ⟨b, ys, rfl, hb, rb⟩ := rp_tup re
      refine op_catA pins s σ H _ _ v u Q I rx ry ⟨a, b, xs, ys, rfl, rfl, ha, hb, by rw [ra.length, rb.length]; exact hz, fun e => ?_, fun _ e => ?_, fun _ _ => q.tup t (ra.app rb)⟩
      · subst e
        cases ra
        exact q.at t re
      · subst e
        cases rb
        rw [List.append_nil] at q
        exact q.at t rd
    · cases hb
  · cases hb
    exact op_sub pins s σ H x y v u Q I rx ry ⟨_, _, rp_int rd, rp_int re, q.at t (.int _)⟩
  · split at hb
    · rename_i hm
      cases hb
      rcases mulOk_int (M := model X.prog X.w) (A := X.A) (E := X.xe) (s := s) (Q := fun _ _ => True) (t := 0) (u := 0) hm with h | h
      · exact op_mul pins s σ H x y v u Q I rx ry ⟨_, _, rp_int rd, rp_int re, h, q.at t (.int _)⟩
      · exact op_mulW pins s σ H x y v u Q I rx ry ⟨_, _, rp_int rd, rp_int re, h, q.at t (.int _)⟩
    · cases hb
  · split at hb
    · rename_i hm
      cases hb
      unfold repOk at hm
      simp only [Bool.and_eq_true, decide_eq_true_eq] at hm
      obtain ⟨a, xs, rfl, ha, ra⟩ := rp_lst rd
      exact op_rep pins s σ H _ _ v u Q I rx ry ⟨a, _, xs, rfl, rp_int re, ha, hm.1.1, hm.1.2, by rw [ra.length]; exact hm.2, q.lst t (ra.rep _)⟩
    · cases hb
  · split at hb
    · rename_i hm
      cases hb
      exact op_fdivW pins s σ H x y v u Q I rx ry ⟨_, _, rp_int rd, rp_int re, divOk_w hm, q.at t (.int _)⟩
    · cases hb
  · split at hb
    · rename_i hm
      cases hb
      exact op_mod pins s σ H x y v u Q I rx ry ⟨_, _, rp_int rd, rp_int re, hm, q.at t (.int _)⟩
    · cases hb
  · split at hb
    · rename_i hm
      cases hb
      unfold powOk at hm
      simp only [Bool.and_eq_true, decide_eq_true_eq] at hm
      exact op_pow pins s σ H x y v u Q I rx ry ⟨_, _, rp_int rd, rp_int re, ⟨hm.1.1, hm.1.2, hm.2⟩, q.at t (.int _)⟩
    · cases hb
  · cases hb

def copOf : COp → CmpOp
  | .lt => .Lt
  | .le => .LtE
  | .gt => .Gt
  | .ge => .GtE
  | .eq => .Eq
  | .ne => .NotEq
  | .isN => .Is
  | .notN => .IsNot
  | .inn => .In
  | .nin => .NotIn
def rCmp (K : PySem.W.Frag) (o : COp) : R2 := fun x y H Q => ∃ G d e b, Tagd G H ∧ Rp K (Bh G H) x d ∧ Rp K (Bh G H) y e ∧ cmpD o d e = some b ∧ Q (.bl b) H
theorem rp_isN {K : PySem.W.Frag} {B : Hp} {v : V} {d : D} (h : Rp K B v d) : decide (v = .non) = isNone d := by
  cases h <;> rfl
theorem rp_flat {K : PySem.W.Frag} {B : Hp} {v : V} {d : D} (h : Rp K B v d) (f : flatD d = true) : flatV v = true := by
  cases h <;> first | rfl | (simp [flatD] at f)
theorem rp_eqv {K : PySem.W.Frag} {B : Hp} {v w : V} {d e : D} (h : Rp K B v d) (h2 : Rp K B w e) (f : flatD d = true) (f2 : flatD e = true) : eqV v w = PyData.eqv d e := by
  cases h <;> cases h2 <;> simp_all [flatD, eqV, PyData.eqv]
theorem rpAll_flat {K : PySem.W.Frag} {B : Hp} : ∀ {vs : List V} {ds : List D}, RpAll K B vs ds → ds.all flatD = true → vs.all flatV = true
  | _, _, .nil, _ => rfl
  | _, _, .cons h r, f => by
    rw [List.all_cons, Bool.and_eq_true] at f ⊢
    exact ⟨rp_flat h f.1, rpAll_flat r f.2⟩
theorem rpAll_in {K : PySem.W.Frag} {B : Hp} {x : V} {d : D} (hx : Rp K B x d) (fx : flatD d = true) : ∀ {vs : List V} {ds : List D}, RpAll K B vs ds → ds.all flatD = true → inV x vs = ds.any fun z => PyData.eqv z d
  | _, _, .nil, _ => rfl
  | _, _, .cons h r, f => by
    rw [List.all_cons, Bool.and_eq_true] at f
    show (eqV _ x || inV x _) = _
    rw [List.any_cons, rp_eqv h hx f.1 fx, rpAll_in hx fx r f.2]
section
variable {X : Cx}
theorem op_isIn (hu : X.A.units + 65 < cLine) (neg : Bool) : OpR X (compareOp (if neg then .NotIn else .In)) (fun x y H Q => ∃ G d e b, Tagd G H ∧ Rp X.K (Bh G H) x d ∧ Rp X.K (Bh G H) y e ∧ isIn d e = some b ∧ Q (.bl (if neg then !b else b)) H) := by
  intro pins s σ H x y v u Q I rx ry ⟨G, d, e, b, t, rd, re, hb, q⟩
  unfold isIn at hb
  split at hb
  · split at hb
    · rename_i hs
      cases hb
      rw [Bool.and_eq_true] at hs
      cases neg with
      | true => exact op_notInD hu pins s σ H x y v u Q I rx ry ⟨_, _, rd.mono Bh.same |>.dp, re.mono Bh.same |>.dp, hs.1, hs.2, q⟩
      | false => exact op_inD hu pins s σ H x y v u Q I rx ry ⟨_, _, rd.mono Bh.same |>.dp, re.mono Bh.same |>.dp, hs.1, hs.2, q⟩
    · cases hb
  · split at hb
    · rename_i hs
      cases hb
      rw [Bool.and_eq_true] at hs
      obtain ⟨a, xs, rfl, ha, ra⟩ := rp_tup re
      have f := rp_flat rd hs.1
      have fa := rpAll_flat ra hs.2
      have ei := rpAll_in rd hs.1 ra hs.2
      cases neg with
      | true => exact op_notIn_seq pins s σ H x _ v u Q I rx ry ⟨a, xs, rfl, .inr ha, f, fa, by rw [ei]; exact q⟩
      | false => exact op_in_seq pins s σ H x _ v u Q I rx ry ⟨a, xs, rfl, .inr ha, f, fa, by rw [ei]; exact q⟩
    · cases hb
  · split at hb
    · cases hb
      cases neg with
      | true => exact op_notIn_str pins s σ H x y v u Q I rx ry ⟨_, _, rp_str rd, rp_str re, q⟩
      | false => exact op_in_str pins s σ H x y v u Q I rx ry ⟨_, _, rp_str rd, rp_str re, q⟩
    · cases hb
  · cases hb
theorem op_cmp (hu : X.A.units + 65 < cLine) (o : COp) : OpR X (compareOp (copOf o)) (rCmp X.K o) := by
  intro pins s σ H x y v u Q I rx ry ⟨G, d, e, b, t, rd, re, hb, q⟩
  unfold cmpD at hb
  split at hb
  · cases hb
    exact op_lt pins s σ H x y v u Q I rx ry ⟨_, _, rp_int rd, rp_int re, q⟩
  · cases hb
    exact op_le pins s σ H x y v u Q I rx ry ⟨_, _, rp_int rd, rp_int re, q⟩
  · cases hb
    exact op_gt pins s σ H x y v u Q I rx ry ⟨_, _, rp_int rd, rp_int re, q⟩
  · cases hb
    exact op_ge pins s σ H x y v u Q I rx ry ⟨_, _, rp_int rd, rp_int re, q⟩
  · cases hb
    obtain rfl := rp_int rd
    obtain rfl := rp_int re
    refine op_eq pins s σ H _ _ v u Q I rx ry ⟨rfl, ?_⟩
    simpa only [V.int.injEq] using q
  · cases hb
    obtain rfl := rp_int rd
    obtain rfl := rp_int re
    refine op_ne pins s σ H _ _ v u Q I rx ry ⟨rfl, ?_⟩
    simpa only [V.int.injEq] using q
  · cases hb
    obtain rfl := rp_str rd
    obtain rfl := rp_str re
    refine op_eq pins s σ H _ _ v u Q I rx ry ⟨rfl, ?_⟩
    simpa only [V.str.injEq] using q
  · cases hb
    obtain rfl := rp_str rd
    obtain rfl := rp_str re
    refine op_ne pins s σ H _ _ v u Q I rx ry ⟨rfl, ?_⟩
    simpa only [V.str.injEq] using q
  · split at hb
    · rename_i hs
      cases hb
      rw [Bool.and_eq_true] at hs
      exact op_eqD (by omega) pins s σ H x y v u Q I rx ry ⟨_, _, (rd.mono Bh.same).dp, (re.mono Bh.same).dp, hs.1, hs.2, q⟩
    · cases hb
  · split at hb
    · rename_i hs
      cases hb
      rw [Bool.and_eq_true] at hs
      exact op_neD (by omega) pins s σ H x y v u Q I rx ry ⟨_, _, (rd.mono Bh.same).dp, (re.mono Bh.same).dp, hs.1, hs.2, q⟩
    · cases hb
  · cases hb
    exact op_isN pins s σ H x y v u Q I rx ry ⟨rp_none re, by rw [rp_isN rd]; exact q⟩
  · cases hb
    exact op_notN pins s σ H x y v u Q I rx ry ⟨rp_none re, by rw [rp_isN rd]; exact q⟩
  · exact op_isIn hu false pins s σ H x y v u Q I rx ry ⟨G, _, _, b, t, rd, re, hb, q⟩
  · obtain ⟨c, hc, rfl⟩ := Option.map_eq_some_iff.mp hb
    exact op_isIn hu true pins s σ H x y v u Q I rx ry ⟨G, _, _, c, t, rd, re, hc, q⟩
  · cases hb
end
theorem truth_ok {K : PySem.W.Frag} {G : Gh} {H : Hp} {v : V} {d : D} {k : Bool} (r : Rp K (Bh G H) v d) (h : truth d = some k) : TruV K v H k := by
  cases d with
  | none =>
    cases r
    exact (Option.some.inj h).symm
  | bool b =>
    cases r
    exact (Option.some.inj h).symm
  | int i =>
    cases r
    exact (Option.some.inj h).symm
  | str x =>
    cases r
    simp only [truth] at h
    split at h
    · exact ⟨by assumption, (Option.some.inj h).symm⟩
    · cases h
  | list ds =>
    obtain ⟨a, xs, rfl, ha, ra⟩ := rp_lst r
    refine .inl ⟨xs, SqL.of ha, ?_⟩
    have e := Option.some.inj h
    rw [← e]
    cases ra <;> rfl
  | tuple ds =>
    obtain ⟨a, xs, rfl, ha, ra⟩ := rp_tup r
    refine .inr (.inl ⟨xs, ha, ?_⟩)
    have e := Option.some.inj h
    rw [← e]
    cases ra <;> rfl
  | dict _ => cases h

/-! ### subscripts, slices -/
theorem atI_rp {K : PySem.W.Frag} {B : Hp} {vs : List V} {ds : List D} {i : Int} {d : D} (r : RpAll K B vs ds) (h : atI ds i = some d) : ∃ v, atI vs i = some v ∧ Rp K B v d := by
  unfold atI at h ⊢
  rw [r.length]
  obtain ⟨j, hj, e⟩ := Option.bind_eq_some_iff.mp h
  obtain ⟨v, q, z⟩ := r.get e
  exact ⟨v, by rw [hj]; exact q, z⟩
def rIdx (K : PySem.W.Frag) : R2 := fun x y H Q => ∃ G d e r, Tagd G H ∧ Rp K (Bh G H) x d ∧ Rp K (Bh G H) y e ∧ idxD d e = some r ∧ ∀ v, Rp K (Bh G H) v r → Q v H
theorem ix_data {X : Cx} : IxR X (rIdx X.K) := by
  intro value slice pins s σ H x y v u Q I rx ry ⟨G, d, e, r, t, rd, re, hb, q⟩ hs
  unfold idxD at hb
  split at hb
  · obtain ⟨a, xs, rfl, ha, ra⟩ := rp_lst rd
    obtain ⟨w, h1, h2⟩ := atI_rp ra hb
    exact ix_list value slice pins s σ H _ y v u Q I rx ry ⟨a, xs, _, w, rfl, rp_int re, SqL.of ha, h1, q _ h2⟩ hs
  · obtain ⟨a, xs, rfl, ha, ra⟩ := rp_tup rd
    obtain ⟨w, h1, h2⟩ := atI_rp ra hb
    exact ix_tup value slice pins s σ H _ y v u Q I rx ry ⟨a, xs, _, w, rfl, rp_int re, ha, h1, q _ h2⟩ hs
  · split at hb
    · obtain ⟨c, hc, rfl⟩ := Option.map_eq_some_iff.mp hb
      exact ix_str value slice pins s σ H x y v u Q I rx ry ⟨_, _, c, rp_str rd, rp_int re, by assumption, hc, q _ (.str _)⟩ hs
    · cases hb
  · cases hb
/-- a list read where it stands -/
def rIdxL (K : PySem.W.Frag) : R2 := fun x y H Q => ∃ a xs i v, x = .ref a ∧ y = .int i ∧ SqL K H a xs ∧ atI xs i = some v ∧ Q v H
theorem RpAll.cut {K : PySem.W.Frag} {B : Hp} {vs : List V} {ds : List D} (r : RpAll K B vs ds) (lo hi : Option Int) : RpAll K B (cutV vs lo hi) (cutD ds lo hi) := by
  unfold cutV cutD
  rw [r.length]
  exact (r.drop _).take _
def rSlc (K : PySem.W.Frag) : V → Option Int → Option Int → Hp → VK → Prop := fun x lo hi H Q => ∃ G d r, Tagd G H ∧ Rp K (Bh G H) x d ∧ slcD d lo hi = some r ∧ Give K G H r Q
theorem cut_whole {α : Type} (xs : List α) {a b : Nat} (h1 : a = 0) (h2 : b = xs.length) : (xs.drop a).take (b - a) = xs := by
  subst h1
  subst h2
  rw [List.drop_zero, Nat.sub_zero, List.take_length]
theorem sl_data {X : Cx} : SlR X (rSlc X.K) := by
  intro pins s σ H x v vl vu lo hi sl Q I rx hs pl pu ⟨G, d, r, t, rd, hb, q⟩
  unfold slcD at hb
  split at hb
  · cases hb
    obtain ⟨a, xs, rfl, ha, ra⟩ := rp_lst rd
    exact sl_list pins s σ H _ v vl vu _ _ sl Q I rx hs pl pu ⟨a, xs, rfl, SqL.of ha, q.lst t (ra.cut _ _)⟩
  · cases hb
    obtain ⟨a, xs, rfl, ha, ra⟩ := rp_tup rd
    refine sl_tupA pins s σ H _ v vl vu _ _ sl Q I rx hs pl pu ⟨a, xs, rfl, ha, fun hw => ?_, fun _ => q.tup t (ra.cut _ _)⟩
    have e : cutD _ lo hi = _ := cut_whole _ (by rw [← ra.length]; exact hw.1) (by rw [← ra.length]; exact hw.2)
    rw [e] at q
    exact q.at t rd
  · split at hb
    · cases hb
      exact sl_str pins s σ H _ v vl vu _ _ sl Q I rx hs pl pu ⟨_, rp_str rd, by assumption, q.at t (.str _)⟩
    · cases hb
  · cases hb
/-! ### built-ins of one argument -/
def rB1 (K : PySem.W.Frag) (o : B1) : List V → Hp → VK → Prop := fun xs H Q => ∃ x G d r, xs = [x] ∧ Tagd G H ∧ Rp K (Bh G H) x d ∧ b1D o d = some r ∧ Give K G H r Q
def b1F : B1 → Value
  | .len => .builtin "len"
  | .sum => .builtin "sum"
  | .max => .builtin "max"
  | .min => .builtin "min"
  | .all => .builtin "all"
  | .any => .builtin "any"
  | .int => .type "int"
  | .str => .type "str"
  | .repr => .builtin "repr"
  | .tuple => .type "tuple"
  | .list => .type "list"
  | .bool => .type "bool"
  | .abs => .builtin "abs"
  | .sorted => .builtin "sorted"
theorem maxL_is : ∀ {ns : List Int} {m : Int}, maxL ns = some m → 0 < ns.length ∧ ∀ k, k ∈ ns → (∀ y ∈ ns, y ≤ k) → k = m
  | [], _, h => by cases h
  | x :: r, m, h => by
    have e : r.foldl max x = m := Option.some.inj h
    refine ⟨Nat.succ_pos _, fun k hk hb => ?_⟩
    have up : ∀ (l : List Int) (a : Int), a ≤ l.foldl max a ∧ (∀ y ∈ l, y ≤ l.foldl max a) ∧ (l.foldl max a = a ∨ l.foldl max a ∈ l) := by
      intro l
      induction l with
      | nil => exact fun a => ⟨Int.le_refl _, (fun _ h => nomatch h), .inl rfl⟩
      | cons b l ih =>
        intro a
        obtain ⟨h1, h2, h3⟩ := ih (max a b)
        refine ⟨by rw [List.foldl_cons]; omega, fun y hy => ?_, ?_⟩
        · rw [List.foldl_cons]
          rcases List.mem_cons.mp hy with z | z
          · subst z
            omega
          · exact h2 y z
        · rw [List.foldl_cons]
          rcases h3 with z | z
          · rcases Int.le_total a b with w | w
            · right
              rw [z, Int.max_eq_right w]
              exact List.mem_cons_self
            · left
              rw [z, Int.max_eq_left w]
          · exact .inr (List.mem_cons_of_mem _ z)
    obtain ⟨h1, h2, h3⟩ := up r x
    have a1 : k ≤ m := by
      rw [← e]
      rcases List.mem_cons.mp hk with z | z
      · rw [z]; exact h1
      · exact h2 k z
    have a2 : m ≤ k := by
      rw [← e]
      rcases h3 with z | z
      · rw [z]; exact hb x List.mem_cons_self
      · exact hb _ (List.mem_cons_of_mem _ z)
    omega
theorem minL_is : ∀ {ns : List Int} {m : Int}, minL ns = some m → 0 < ns.length ∧ ∀ k, k ∈ ns → (∀ y ∈ ns, k ≤ y) → k = m
  | [], _, h => by cases h
  | x :: r, m, h => by
    have e : r.foldl min x = m := Option.some.inj h
    refine ⟨Nat.succ_pos _, fun k hk hb => ?_⟩
    have up : ∀ (l : List Int) (a : Int), l.foldl min a ≤ a ∧ (∀ y ∈ l, l.foldl min a ≤ y) ∧ (l.foldl min a = a ∨ l.foldl min a ∈ l) := by
      intro l
      induction l with
      | nil => exact fun a => ⟨Int.le_refl _, (fun _ h => nomatch h), .inl rfl⟩
      | cons b l ih =>
        intro a
        obtain ⟨h1, h2, h3⟩ := ih (min a b)
        refine ⟨by rw [List.foldl_cons]; omega, fun y hy => ?_, ?_⟩
        · rw [List.foldl_cons]
          rcases List.mem_cons.mp hy with z | z
          · subst z
            omega
          · exact h2 y z
        · rw [List.foldl_cons]
          rcases h3 with z | z
          · rcases Int.le_total a b with w | w
            · left
              rw [z, Int.min_eq_left w]
            · right
              rw [z, Int.min_eq_right w]
              exact List.mem_cons_self
          · exact .inr (List.mem_cons_of_mem _ z)
    obtain ⟨h1, h2, h3⟩ := up r x
    have a1 : m ≤ k := by
      rw [← e]
      rcases List.mem_cons.mp hk with z | z
      · rw [z]; exact h1
      · exact h2 k z
    have a2 : k ≤ m := by
      rw [← e]
      rcases h3 with z | z
      · rw [z]; exact hb x List.mem_cons_self
      · exact hb _ (List.mem_cons_of_mem _ z)
    omega
theorem insI_perm (x : Int) : ∀ l : List Int, (insI x l).Perm (x :: l)
  | [] => .refl _
  | y :: r => by
    unfold insI
    split
    · exact .refl _
    · exact ((insI_perm x r).cons y).trans (.swap x y r)
theorem insI_pair (x : Int) : ∀ {l : List Int}, l.Pairwise (· ≤ ·) → (insI x l).Pairwise (· ≤ ·)
  | [], _ => List.pairwise_singleton _ _
  | y :: r, h => by
    unfold insI
    split
    · rename_i q
      refine List.pairwise_cons.mpr ⟨fun z hz => ?_, h⟩
      rcases List.mem_cons.mp hz with e | e
      · rw [e]; exact q
      · exact Int.le_trans q ((List.pairwise_cons.mp h).1 z e)
    · rename_i q
      refine List.pairwise_cons.mpr ⟨fun z hz => ?_, insI_pair x (List.pairwise_cons.mp h).2⟩
      rcases List.mem_cons.mp ((insI_perm x r).mem_iff.mp hz) with e | e
      · rw [e]; omega
      · exact (List.pairwise_cons.mp h).1 z e
theorem sortI_perm : ∀ l : List Int, (sortI l).Perm l
  | [] => .refl _
  | x :: r => (insI_perm x _).trans ((sortI_perm r).cons x)
theorem sortI_pair : ∀ l : List Int, (sortI l).Pairwise (· ≤ ·)
  | [] => .nil
  | x :: r => insI_pair x (sortI_pair r)
theorem sorted_one {a b : List Int} (p : a.Perm b) (ha : a.Pairwise (· ≤ ·)) (hb : b.Pairwise (· ≤ ·)) : a = b :=
  List.Perm.eq_of_pairwise (fun _ _ _ _ h1 h2 => Int.le_antisymm h1 h2) ha hb p

theorem reads_ref {X : Cx} {pins : List (Addr × Obj)} {σ : L2.St} {H : Hp} {s : Shared} {G : Gh} {v : V} {u : Value} {d : D} (I : Inv X pins σ H s) (r : Rp X.K (Bh G H) v d) (ru : RelV v u) : ∃ as, Reads s.heap u d as :=
  Dp.reads I d v u (r.mono Bh.same).dp ru
theorem repr_data {X : Cx} (hg : X.A.guards = some []) (hu : X.A.units + 64 < cLine) {pins : List (Addr × Obj)} {σ : L2.St} {H : Hp} {s : Shared} {G : Gh} {a : Addr} {u : Value} {d : D} {Q : VK} (I : Inv X pins σ H s) (r : Rp X.K (Bh G H) (.ref a) d) (ru : RelV (.ref a) u)
    (ok : showOk d = true) (q : Q (.str d.shown) H) : wpAny (model X.prog X.w) X.A (call (.builtin "repr") [u]) (EP X pins σ Q) X.xe s := by
  obtain ⟨as, rd⟩ := reads_ref I r ru
  cases ru
  unfold showOk at ok
  simp only [Bool.and_eq_true, decide_eq_true_eq, Bool.not_eq_true'] at ok
  obtain ⟨⟨⟨h1, h2⟩, h3⟩, h4⟩ := ok
  refine repr_of_reads' (h₀ := s.heap) rd h1 (fun h => absurd h (by rw [h2]; exact Bool.false_ne_true)) hg (by omega) (fun _ _ e => e) (fun h' w tk hk => ?_) h4
  exact ⟨.str _, H, I.kept hk, ⟨_, rfl⟩, q⟩
theorem cr_b1 {X : Cx} (hc : X.calm = true) (hg : X.A.guards = some []) (hu : X.A.units + 64 < cLine) (o : B1) : CallR X (b1F o) (rB1 X.K o) := by
  intro pins s σ H xs us Q I rx ⟨x, G, d, r, e, t, rd, hb, q⟩
  subst e
  unfold b1D at hb
  split at hb
  · -- len
    obtain ⟨n, hn, rfl⟩ := Option.map_eq_some_iff.mp hb
    unfold lenD at hn
    split at hn
    · cases hn
      obtain ⟨a, xs, rfl, ha, ra⟩ := rp_lst rd
      rw [← ra.length] at q
      exact call_len_seq pins s σ H _ us Q I rx ⟨a, xs, rfl, .inl (SqL.of ha), q.at t (.int _)⟩
    · cases hn
      obtain ⟨a, xs, rfl, ha, ra⟩ := rp_tup rd
      rw [← ra.length] at q
      exact call_len_seq pins s σ H _ us Q I rx ⟨a, xs, rfl, .inr ha, q.at t (.int _)⟩
    · split at hn
      · cases hn
        obtain rfl := rp_str rd
        exact call_len_str pins s σ H _ us Q I rx ⟨_, rfl, by assumption, q.at t (.int _)⟩
      · cases hn
    · cases hn
  · obtain ⟨ns, hn, rfl⟩ := Option.map_eq_some_iff.mp hb
    obtain ⟨a, xs, rfl, ha, ra⟩ := rp_lst rd
    exact cr_sum hc pins s σ H _ us Q I rx ⟨a, ns, rfl, by rw [← ra.ints hn]; exact SqL.of ha, q.at t (.int _)⟩
  · obtain ⟨m, hm, rfl⟩ := Option.map_eq_some_iff.mp hb
    obtain ⟨ns, hn, hx⟩ := Option.bind_eq_some_iff.mp hm
    obtain ⟨a, xs, rfl, ha, ra⟩ := rp_lst rd
    obtain ⟨h0, h1⟩ := maxL_is hx
    refine cr_max hc pins s σ H _ us Q I rx ⟨a, ns, rfl, by rw [← ra.ints hn]; exact SqL.of ha, h0, fun k hk hb => ?_⟩
    rw [h1 k hk hb]
    exact q.at t (.int _)
  · obtain ⟨m, hm, rfl⟩ := Option.map_eq_some_iff.mp hb
    obtain ⟨ns, hn, hx⟩ := Option.bind_eq_some_iff.mp hm
    obtain ⟨a, xs, rfl, ha, ra⟩ := rp_lst rd
    obtain ⟨h0, h1⟩ := minL_is hx
    refine cr_min hc pins s σ H _ us Q I rx ⟨a, ns, rfl, by rw [← ra.ints hn]; exact SqL.of ha, h0, fun k hk hb => ?_⟩
    rw [h1 k hk hb]
    exact q.at t (.int _)
  · obtain ⟨ns, hn, rfl⟩ := Option.map_eq_some_iff.mp hb
    obtain ⟨a, xs, rfl, ha, ra⟩ := rp_lst rd
    exact cr_all hc pins s σ H _ us Q I rx ⟨a, ns, rfl, by rw [← ra.bools hn]; exact SqL.of ha, q.at t (.bl _)⟩
  · obtain ⟨ns, hn, rfl⟩ := Option.map_eq_some_iff.mp hb
    obtain ⟨a, xs, rfl, ha, ra⟩ := rp_lst rd
    exact cr_any hc pins s σ H _ us Q I rx ⟨a, ns, rfl, by rw [← ra.bools hn]; exact SqL.of ha, q.at t (.bl _)⟩
  · cases hb
    exact call_int1 pins s σ H _ us Q I rx (.inl ⟨_, by rw [rp_int rd], q.at t (.int _)⟩)
  · cases hb
    exact call_int1 pins s σ H _ us Q I rx (.inr ⟨_, by rw [rp_bl rd], q.at t (.int _)⟩)
  · split at hb
    · cases hb
      exact SkE.call_repr_int pins s σ H _ us Q I rx ⟨_, by rw [rp_int rd], by assumption, q.at t (.str _)⟩
    · cases hb
  · split at hb
    · cases hb
      obtain ⟨a, xs, rfl, ha, ra⟩ := rp_lst rd
      obtain ⟨u, rfl, ru⟩ := vals1 rx
      exact repr_data hg hu I rd ru (by assumption) (q.at t (.str _))
    · cases hb
  · split at hb
    · cases hb
      obtain ⟨a, xs, rfl, ha, ra⟩ := rp_tup rd
      obtain ⟨u, rfl, ru⟩ := vals1 rx
      exact repr_data hg hu I rd ru (by assumption) (q.at t (.str _))
    · cases hb
  · split at hb
    · cases hb
      exact call_str_int pins s σ H _ us Q I rx ⟨_, by rw [rp_int rd], by assumption, q.at t (.str _)⟩
    · cases hb
  · cases hb
    obtain ⟨a, xs, rfl, ha, ra⟩ := rp_lst rd
    exact call_tuple_of pins s σ H _ us Q I rx ⟨a, xs, rfl, .inl ⟨SqL.of ha, q.tup t ra⟩⟩
  · cases hb
    obtain ⟨a, xs, rfl, ha, ra⟩ := rp_tup rd
    exact call_tuple_of pins s σ H _ us Q I rx ⟨a, xs, rfl, .inr ⟨ha, q.at t rd⟩⟩
  · cases hb
    obtain ⟨a, xs, rfl, ha, ra⟩ := rp_lst rd
    exact call_list_of pins s σ H _ us Q I rx ⟨a, xs, rfl, .inl (SqL.of ha), q.lst t ra⟩
  · cases hb
    obtain ⟨a, xs, rfl, ha, ra⟩ := rp_tup rd
    exact call_list_of pins s σ H _ us Q I rx ⟨a, xs, rfl, .inr ha, q.lst t ra⟩
  · obtain ⟨ns, hn, rfl⟩ := Option.map_eq_some_iff.mp hb
    obtain ⟨a, xs, rfl, ha, ra⟩ := rp_lst rd
    refine cr_sortedI pins s σ H _ us Q I rx ⟨a, ns, rfl, by rw [← ra.ints hn]; exact SqL.of ha, fun ns' p pm pw hp => ?_⟩
    have e : ns' = sortI ns := sorted_one (pm.trans (sortI_perm ns).symm) pw (sortI_pair ns)
    rw [e]
    exact q.lst t (.of_ints _) p hp
  · cases hb
def rB2 (K : PySem.W.Frag) (o : B2) : List V → Hp → VK → Prop := fun xs H Q => ∃ x y B d e r, xs = [x, y] ∧ Rp K B x d ∧ Rp K B y e ∧ b2D o d e = some r ∧ ∀ v, Rp K B v r → Q v H
def b2F : B2 → Value
  | .max => .builtin "max"
  | .min => .builtin "min"
theorem cr_b2 {X : Cx} (hc : X.calm = true) (o : B2) : CallR X (b2F o) (rB2 X.K o) := by
  intro pins s σ H xs us Q I rx ⟨x, y, B, d, e, r, ex, rd, re, hb, q⟩
  subst ex
  unfold b2D at hb
  split at hb
  · cases hb
    exact call_max2 hc pins s σ H _ us Q I rx ⟨_, _, by rw [rp_int rd, rp_int re], q _ (.int _)⟩
  · cases hb
    exact call_min2 hc pins s σ H _ us Q I rx ⟨_, _, by rw [rp_int rd, rp_int re], q _ (.int _)⟩
  · cases hb

/-! ### isinstance -/
inductive Kd where
  | non | bool | int | str | list | tuple | dict
def kdOf : D → Kd
  | .none => .non
  | .bool _ => .bool
  | .int _ => .int
  | .str _ => .str
  | .list _ => .list
  | .tuple _ => .tuple
  | .dict _ => .dict
def kdName : Kd → String
  | .non => "NoneType"
  | .bool => "bool"
  | .int => "int"
  | .str => "str"
  | .list => "list"
  | .tuple => "tuple"
  | .dict => "dict"
def tyName : Ty → String
  | .int => "int"
  | .bool => "bool"
  | .tuple => "tuple"
  | .list => "list"
  | .str => "str"
  | .dict => "dict"
def isiK : Kd → Ty → Bool
  | .bool, .bool => true
  | .bool, .int => true
  | .int, .int => true
  | .str, .str => true
  | .list, .list => true
  | .tuple, .tuple => true
  | .dict, .dict => true
  | _, _ => false
theorem isiD_kd (d : D) (t : Ty) : isiD d t = isiK (kdOf d) t := by
  cases d <;> cases t <;> rfl
theorem kit_all (k : Kd) (t : Ty) : kitB (kdName k) (tyName t) = some (isiK k t) := by
  cases k <;> cases t <;> decide +kernel
theorem tyx_of {K : PySem.W.Frag} {G : Gh} {H : Hp} {v : V} {d : D} (r : Rp K (Bh G H) v d) : TyX K H v (.type (kdName (kdOf d))) := by
  cases d with
  | none => cases r; exact .base .non
  | bool b => cases r; exact .base (.bl b)
  | int i => cases r; exact .base (.int i)
  | str x => cases r; exact .base (.str x)
  | list ds =>
    obtain ⟨a, xs, rfl, ha, ra⟩ := rp_lst r
    exact .base (.lst ha)
  | tuple ds =>
    obtain ⟨a, xs, rfl, ha, ra⟩ := rp_tup r
    rcases ha with (ha | ⟨o, ha⟩) | ⟨o, its, n, ha, hc, _⟩
    · exact .base (.tup ha)
    · exact .fTuple ha
    · exact .kTuple ha hc
  | dict _ => cases r
def rIsi1 (K : PySem.W.Frag) (t : Ty) : List V → Hp → VK → Prop := fun xs H Q => ∃ x c G d, xs = [x, c] ∧ c = V.ty (tyName t) ∧ Rp K (Bh G H) x d ∧ Q (.bl (isiD d t)) H
theorem cr_isi {X : Cx} (t : Ty) : CallR X (.builtin "isinstance") (rIsi1 X.K t) := by
  intro pins s σ H xs us Q I rx ⟨x, c, G, d, e, hc, r, q⟩
  subst e
  subst hc
  exact call_isi pins s σ H _ us Q I rx ⟨x, _, _, _, _, rfl, .ty _, tyx_of r, kit_ty (kit_all _ _), by rw [← isiD_kd]; exact q⟩
end Z

/-! Z3: expressions: what the machine answers holds of the model. -/
namespace Z
open PySem PySem.Spec PyProof.Rows L2

def ExR (exs : Nat → Option Addr) (x : Exc) (cls : Value) (dd : Option Addr) (H : Hp) : Prop := ∃ C, exs x.cls = some C ∧ cls = .ref C ∧ x.fs = []
def ArgOk (K : PySem.W.Frag) (G : Gh) (H : Hp) (i : Nat) : Arg → V → Prop
  | .v d, x => Rp K (Bh G H) x d
  | .m c, x => ∃ a, x = .ref a ∧ MOk K G H i c a
  | .s ds, x => ∃ a vs, x = .ref a ∧ SqL K (Bh G H) a vs ∧ RpAll K (Bh G H) vs ds
def ArgsOk (K : PySem.W.Frag) (G : Gh) (H : Hp) : Nat → List Arg → List V → Prop
  | _, [], [] => True
  | i, a :: as, x :: xs => ArgOk K G H i a x ∧ ArgsOk K G H (i + 1) as xs
  | _, _, _ => False
def OutsOk (K : PySem.W.Frag) (G : Gh) (H : Hp) : Nat → List (Option M) → List V → Prop
  | _, [], [] => True
  | i, o :: os, x :: xs => (∀ c, o = some c → ∃ a, x = .ref a ∧ MOk K G H i c a) ∧ OutsOk K G H (i + 1) os xs
  | _, _, _ => False
/-- a def's promise: what the machine answers -/
def spF (K : PySem.W.Frag) (exs : Nat → Option Addr) (ar : Nat) (F : List Arg → Option (Out Val × List (Option M))) : Sp := fun vs H Q E =>
  ∃ G args o ms, vs.length = ar ∧ Tagd G H ∧ ArgsOk K G H 0 args vs ∧ F args = some (o, ms) ∧
    ∀ H' G', Ext G H G' H' → Tagd G' H' → OutsOk K G' H' 0 ms vs →
      match o with
      | .ok r => ∀ v, ValOk K G' H' r v → Q v H'
      | .ex x => ∀ cls dd, ExR exs x cls dd H' → E cls dd H'
/-- FnOk, with no repr running around -/
structure FnG (P : Program) (w : World) (K : PySem.W.Frag) (mg : Str → Option Value) (base : Heap) (k : Nat) (f : Addr) (fd : FuncData) (ps : List Str) (sp : Sp) : Prop where
  len : ∀ vs H Q E, sp vs H Q E → vs.length = ps.length
  run : ∀ (A : Around) (outer : List Env) (s : Shared) (H : Hp) (args : Args) (us : List Value) (vs : List V) (Q : VK) (E : XK), A.guards = some [] → Room k A → Env0 P w K mg base A outer s H →
    BindsTo s fd args (ps.zip us) → Vals vs us → sp vs H Q E → codeAny (model P w) A (.call (.ref f) args) (CR (L2.CX P w) outer P w H s Q E) s
def biNames : List Str := ["len", "sum", "max", "min", "all", "any", "int", "str", "repr", "tuple", "list", "bool", "abs", "sorted", "isinstance", "dict", "range", "enumerate", "zip", "set"]
structure FnAt (X : Cx) (Γ : Call) (exs : Nat → Option Addr) (f : Nat) (i : FnI) : Prop where
  ex : ∃ a fd k, X.mg i.name = some (.ref a) ∧ PySem.W.keepIn X.K (.ref a) = true ∧ Binds X.K fd i.ps [] ∧ Room k X.A ∧ FnG X.prog X.w X.K X.mg X.base k a fd i.ps (spF X.K exs i.ps.length (Γ f))
structure Wf (X : Cx) (Γ : Call) (cons : List (Str × D)) (fns : List FnI) (exs : Nat → Option Addr) (sc : Scope) (asn : Str → Bool) : Prop where
  scp : X.env.scope = sc
  calm : X.calm = true
  nd : X.N.Nodup
  gd : X.A.guards = some []
  un : X.A.units + 65 < cLine
  glb : ∀ (k : Nat) (x : Str) (d : D), cons[k]? = some (x, d) → ∃ u v, X.mg x = some u ∧ RelV v u ∧ ∀ B, Rp X.K B v d
  bi : ∀ x ∈ biNames, X.mg x = none
  fn : ∀ (f : Nat) (i : FnI), fns[f]? = some i → FnAt X Γ exs f i
  asn : ∀ x, asn x = true → L2.Loc sc x ∧ (X.fn x = true ∨ sc.names.lookup x = some .local)

section
variable (X : Cx) (exs : Nat → Option Addr)
def PX (β : Nat → Option Addr) (σ : L2.St) (G : Gh) (H : Hp) (W : WX) (x : Exc) (g' : Sg) : Prop :=
  Takes X W ∧ ∀ cls dd H' G', Ext G H G' H' → SR X.K β G' H' g' σ → ExR exs x cls dd H' → W cls dd σ H'
def Pv (β : Nat → Option Addr) (σ : L2.St) (G : Gh) (H : Hp) (Q : VK) (W : WX) : Out Val × Sg → Prop
  | (.ok r, g') => ∀ v H' G', Ext G H G' H' → SR X.K β G' H' g' σ → ValOk X.K G' H' r v → Q v H'
  | (.ex x, g') => PX X exs β σ G H W x g'
def Pt (β : Nat → Option Addr) (σ : L2.St) (G : Gh) (H : Hp) (Q : Bool → Hp → Prop) (W : WX) : Out Bool × Sg → Prop
  | (.ok b, g') => ∀ H' G', Ext G H G' H' → SR X.K β G' H' g' σ → Q b H'
  | (.ex x, g') => PX X exs β σ G H W x g'
def Snd (e : Expr) (f : Sg → R Val) : Prop := ∀ β g r, f g = some r → ∀ σ H G Q W, SR X.K β G H g σ → Pv X exs β σ G H Q W r → WE X e σ H Q
def SndT (e : Expr) (f : Sg → R Bool) : Prop := ∀ β g r, f g = some r → ∀ σ H G Q W, SR X.K β G H g σ → Pt X exs β σ G H Q W r → WT X e σ H Q
end
section
variable {X : Cx} {exs : Nat → Option Addr} {β : Nat → Option Addr} {σ : L2.St} {G G1 : Gh} {H H1 : Hp} {Q : VK} {W : WX} {e : Expr} {f : Sg → R Val} {g g1 : Sg}
theorem PX.next {x : Exc} (h : PX X exs β σ G H W x g) (e : Ext G H G1 H1) : PX X exs β σ G1 H1 W x g := ⟨h.1, fun c d H' G' w => h.2 c d H' G' (e.trans w)⟩
theorem Pv.ex {r : Out Val × Sg} (h : Pv X exs β σ G H Q W r) : ∀ x g', r = (.ex x, g') → PX X exs β σ G H W x g' := fun x g' e => by
  subst e
  exact h
theorem Pt.ex {Q : Bool → Hp → Prop} {r : Out Bool × Sg} (h : Pt X exs β σ G H Q W r) : ∀ x g', r = (.ex x, g') → PX X exs β σ G H W x g' := fun x g' e => by
  subst e
  exact h
theorem exNext {γ : Type} {r : Out γ × Sg} (h : ∀ x g', r = (.ex x, g') → PX X exs β σ G H W x g') (e : Ext G H G1 H1) : ∀ x g', r = (.ex x, g') → PX X exs β σ G1 H1 W x g' := fun x g' q => (h x g' q).next e
theorem Snd.use {γ : Type} {k : Val → Sg → R γ} {r : Out γ × Sg} (h : Snd X exs e f) (hr : bnd (f g) k = some r) (sr : SR X.K β G H g σ) (hx : ∀ x g', r = (.ex x, g') → PX X exs β σ G H W x g')
    (ok : ∀ x g1, k x g1 = some r → ∀ v H1 G1, Ext G H G1 H1 → SR X.K β G1 H1 g1 σ → ValOk X.K G1 H1 x v → Q v H1) : WE X e σ H Q := by
  cases q : f g with
  | none =>
    rw [q] at hr
    cases hr
  | some z =>
    obtain ⟨o, g1⟩ := z
    rw [q] at hr
    cases o with
    | ok x => exact h β g _ q σ H G Q W sr fun v H1 G1 e1 s1 r1 => ok x g1 hr v H1 G1 e1 s1 r1
    | ex x =>
      cases hr
      exact h β g _ q σ H G Q W sr (hx x g1 rfl)
theorem Snd.useD {γ : Type} {k : Val → Sg → R γ} {r : Out γ × Sg} (h : Snd X exs e f) (hr : bnd (f g) k = some r) (sr : SR X.K β G H g σ) (hx : ∀ x g', r = (.ex x, g') → PX X exs β σ G H W x g')
    (ok : ∀ x g1, k x g1 = some r → ∀ v H1 G1, Ext G H G1 H1 → SR X.K β G1 H1 g1 σ → Rp X.K (Bh G1 H1) v x.toD → Q v H1) : WE X e σ H Q :=
  h.use hr sr hx fun x g1 hk v H1 G1 e1 s1 r1 => by
    obtain ⟨G2, r2, w⟩ := r1.rp s1.tag
    exact ok x g1 hk v H1 G2 (e1.trans w.toExt) (s1.grow w) r2
theorem SndT.use {γ : Type} {ft : Sg → R Bool} {k : Bool → Sg → R γ} {r : Out γ × Sg} {Q : Bool → Hp → Prop} (h : SndT X exs e ft) (hr : bnd (ft g) k = some r) (sr : SR X.K β G H g σ) (hx : ∀ x g', r = (.ex x, g') → PX X exs β σ G H W x g')
    (ok : ∀ x g1, k x g1 = some r → ∀ H1 G1, Ext G H G1 H1 → SR X.K β G1 H1 g1 σ → Q x H1) : WT X e σ H Q := by
  cases q : ft g with
  | none =>
    rw [q] at hr
    cases hr
  | some z =>
    obtain ⟨o, g1⟩ := z
    rw [q] at hr
    cases o with
    | ok x => exact h β g _ q σ H G Q W sr fun H1 G1 e1 s1 => ok x g1 hr H1 G1 e1 s1
    | ex x =>
      cases hr
      exact h β g _ q σ H G Q W sr (hx x g1 rfl)
theorem opt_some {α : Type} {o : Option α} {g : Sg} {r : Out α × Sg} (h : opt o g = some r) : ∃ a, o = some a ∧ r = (.ok a, g) := by
  cases o with
  | none => cases h
  | some a =>
    cases h
    exact ⟨a, rfl, rfl⟩
theorem ret_some {α : Type} {a : α} {g : Sg} {r : Out α × Sg} (h : ret a g = some r) : r = (.ok a, g) := by
  cases h
  rfl
theorem SR.at {i : Nat} {s : Sl} {K : PySem.W.Frag} (h : SR K β G H g σ) (e : g[i]? = some s) : ∃ x, σ[i]? = some x ∧ SlOk K β G H i s x := by
  have hl : i < g.length := by
    rcases Nat.lt_or_ge i g.length with q | q
    · exact q
    · rw [List.getElem?_eq_none q] at e
      cases e
  have h2 : i < σ.length := by rw [← h.len]; exact hl
  refine ⟨σ[i], List.getElem?_eq_getElem h2, ?_⟩
  have q := h.ok i s e
  rw [List.getD_eq_getElem?_getD, List.getElem?_eq_getElem h2] at q
  exact q
theorem SR.hold {i : Nat} {c : M} {K : PySem.W.Frag} (h : SR K β G H g σ) (e : g[i]? = some (.ow c)) : ∃ v G', σ[i]? = some (some v) ∧ Ext G H G' H ∧ SR K β G' H (g.set i (.im c.toD)) σ ∧ Rp K (Bh G' H) v c.toD := by
  obtain ⟨x, hx, a, rfl, hm⟩ := h.at e
  cases c with
  | l ds =>
    obtain ⟨t, vs, q, r⟩ := hm
    have ne : ∀ b, G b ≠ .sl i → b ≠ a := fun b z w => z (w ▸ t)
    have ex : Ext G H (tagAt G a .st) H := by
      refine ⟨fun b z => ⟨(tagAt_ne (ne b (by rw [z]; exact fun w => nomatch w))).trans z, rfl⟩, fun b z => ⟨(tagAt_ne (ne b (by rw [z]; exact fun w => nomatch w))).trans z, rfl⟩, fun b z => ?_⟩
      by_cases w : b = a
      · rw [w, tagAt_same] at z
        cases z
      · rw [tagAt_ne w] at z
        exact z
    have rp : Rp K (Bh (tagAt G a .st) H) (.ref a) (M.toD (.l ds)) := by
      refine .lst ?_ (r.mono ex.same)
      unfold Bh
      rw [if_pos tagAt_same]
      exact q
    refine ⟨.ref a, tagAt G a .st, hx, ex, ⟨by rw [List.length_set]; exact h.len, fun j s ej => ?_, fun b z => ?_⟩, rp⟩
    · by_cases hj : i = j
      · subst hj
        have hl : i < g.length := by
          rcases Nat.lt_or_ge i g.length with q | q
          · exact q
          · rw [List.getElem?_eq_none q] at e
            cases e
        rw [List.getElem?_set_self hl] at ej
        cases ej
        refine ⟨.ref a, ?_, rp⟩
        rw [List.getD_eq_getElem?_getD, hx]
        rfl
      · rw [List.getElem?_set_ne hj] at ej
        refine (h.ok j s ej).keep ex.same fun b z => ⟨(tagAt_ne fun w => hj ?_).trans z, rfl⟩
        rw [w, t] at z
        exact Tag.sl.inj z
    · by_cases w : b = a
      · rw [w, q]
        exact fun z => nomatch z
      · rw [tagAt_ne w] at z
        exact h.tag b z

/-! ### leaves -/
variable {pos : Pos} {j : Nat}
theorem snd_int (i : Int) : Snd X exs (.Constant (.int i) j pos) fun g => ret (.v (.int i)) g := fun β g r hr σ H G Q W sr post => by
  rw [ret_some hr] at post
  exact we_of pe_int (post _ H G (.refl _ _) sr (.int i))
theorem snd_bl (i : Bool) : Snd X exs (.Constant (.bool i) j pos) fun g => ret (.v (.bool i)) g := fun β g r hr σ H G Q W sr post => by
  rw [ret_some hr] at post
  exact we_of pe_bl (post _ H G (.refl _ _) sr (.bl i))
theorem snd_non : Snd X exs (.Constant .none j pos) fun g => ret (.v .none) g := fun β g r hr σ H G Q W sr post => by
  rw [ret_some hr] at post
  exact we_of pe_non (post _ H G (.refl _ _) sr .non)
theorem snd_str (x : Str) : Snd X exs (.Constant (.str x) j pos) fun g => ret (.v (.str x)) g := fun β g r hr σ H G Q W sr post => by
  rw [ret_some hr] at post
  exact we_of pe_str (post _ H G (.refl _ _) sr (.str x))
theorem snd_var {i : Nat} {x : Str} (hN : X.N[i]? = some x) (hv : Vis X.env.scope x) (hd : (x == ("__debug__" : Str)) = false) (hcd : (x == ("__classdict__" : Str)) = false) :
    Snd X exs (.Name x pos) fun g => match g[i]? with
      | some (.im d) => ret (.v d) g
      | some (.ow c) => ret (.v c.toD) (g.set i (.im c.toD))
      | _ => none := fun β g r hr σ H G Q W sr post => by
  refine we_of (pe_var hN hv hd hcd) ?_
  dsimp only at hr
  split at hr
  · rename_i d e
    rw [ret_some hr] at post
    obtain ⟨y, hy, v, rfl, rv⟩ := sr.at e
    exact ⟨v, hy, post v H G (.refl _ _) sr rv⟩
  · rename_i c e
    rw [ret_some hr] at post
    obtain ⟨v, G', hy, ex, s', rv⟩ := sr.hold e
    exact ⟨v, hy, post v H G' ex s' rv⟩
  · cases hr
theorem snd_glb {cons : List (Str × D)} {k : Nat} {x : Str} {d : D} (hk : cons[k]? = some (x, d)) (hg : Gl X x) (hm : ∃ u v, X.mg x = some u ∧ RelV v u ∧ ∀ B, Rp X.K B v d) (hd : (x == ("__debug__" : Str)) = false) :
    Snd X exs (.Name x pos) fun g => match cons[k]? with
      | some p => ret (.v p.2) g
      | none => none := fun β g r hr σ H G Q W sr post => by
  obtain ⟨u, v, e, rv, rd⟩ := hm
  dsimp only at hr
  rw [hk] at hr
  rw [ret_some hr] at post
  exact we_of (pe_glob hg e rv hd) (post v H G (.refl _ _) sr (rd _))

/-! ### operators -/
variable {a b c : Expr} {fa fb fc : Sg → R Val}
theorem snd_bin (o : BOp) (ha : Snd X exs a fa) (hb : Snd X exs b fb) : Snd X exs (.BinOp a (opOf o) b pos) fun g => bnd (fa g) fun x g => bnd (fb g) fun y g => opt (binD o x.toD y.toD) g :=
  fun β g r hr σ H G Q W sr post => by
  refine we_of (pe_op (op_bin o) we_max we_max) ?_
  refine ha.useD hr sr post.ex fun x g1 h1 v H1 G1 e1 s1 r1 => ?_
  refine hb.useD h1 s1 (exNext post.ex e1) fun y g2 h2 w H2 G2 e2 s2 r2 => ?_
  obtain ⟨z, hz, rfl⟩ := opt_some h2
  exact ⟨G2, _, _, z, s2.tag, r1.mono e2.same, r2, hz, fun u H' G' gr rv => post u H' G' (e1.trans (e2.trans gr.toExt)) (s2.grow gr) rv⟩
theorem snd_neg (ha : Snd X exs a fa) : Snd X exs (.UnaryOp .USub a pos) fun g => bnd (fa g) fun x g => match x with
    | .v (.int i) => ret (.v (.int (-i))) g
    | _ => none := fun β g r hr σ H G Q W sr post => by
  refine we_of (pe_un un_neg we_max) ?_
  refine ha.useD hr sr post.ex fun x g1 h1 v H1 G1 e1 s1 r1 => ?_
  split at h1
  · rw [ret_some h1] at post
    exact ⟨_, rp_int r1, post _ H1 G1 e1 s1 (.int _)⟩
  · cases h1
theorem snd_cmp (hu : X.A.units + 65 < cLine) (o : COp) (ha : Snd X exs a fa) (hb : Snd X exs b fb) (hm : behindInMarks (copOf o) b = false) :
    Snd X exs (.Compare a [copOf o] [b] pos) fun g => bnd (fa g) fun x g => bnd (fb g) fun y g => opt ((cmpD o x.toD y.toD).map fun b => .v (.bool b)) g := fun β g r hr σ H G Q W sr post => by
  refine we_of (pe_cmpR (op_cmp hu o) we_max we_max hm) ?_
  refine ha.useD hr sr post.ex fun x g1 h1 v H1 G1 e1 s1 r1 => ?_
  refine hb.useD h1 s1 (exNext post.ex e1) fun y g2 h2 w H2 G2 e2 s2 r2 => ?_
  obtain ⟨z, hz, rfl⟩ := opt_some h2
  obtain ⟨k, hk, rfl⟩ := Option.map_eq_some_iff.mp hz
  exact ⟨G2, _, _, k, s2.tag, r1.mono e2.same, r2, hk, post _ H2 G2 (e1.trans e2) s2 (.bl _)⟩
theorem sndT_cmp (hu : X.A.units + 65 < cLine) (o : COp) (ha : Snd X exs a fa) (hb : Snd X exs b fb) (hm : behindInMarks (copOf o) b = false) :
    SndT X exs (.Compare a [copOf o] [b] pos) fun g => bnd (fa g) fun x g => bnd (fb g) fun y g => opt (cmpD o x.toD y.toD) g := fun β g r hr σ H G Q W sr post => by
  refine wt_of (pt_cmpR (op_cmp hu o) we_max we_max hm) ?_
  refine ha.useD hr sr post.ex fun x g1 h1 v H1 G1 e1 s1 r1 => ?_
  refine hb.useD h1 s1 (exNext post.ex e1) fun y g2 h2 w H2 G2 e2 s2 r2 => ?_
  obtain ⟨k, hk, rfl⟩ := opt_some h2
  exact ⟨G2, _, _, k, s2.tag, r1.mono e2.same, r2, hk, k, rfl, post H2 G2 (e1.trans e2) s2⟩
theorem snd_chain (hu : X.A.units + 65 < cLine) (o p : COp) (ha : Snd X exs a fa) (hb : Snd X exs b fb) (hc : Snd X exs c fc) (hm : behindInMarks (copOf p) c = false) :
    Snd X exs (.Compare a [copOf o, copOf p] [b, c] pos) fun g => bnd (fa g) fun x g => bnd (fb g) fun y g => match cmpD o x.toD y.toD with
      | some true => bnd (fc g) fun z g => opt ((cmpD p y.toD z.toD).map fun b => .v (.bool b)) g
      | some false => ret (.v (.bool false)) g
      | none => none := fun β g r hr σ H G Q W sr post => by
  refine we_of (pe_chain (op_cmp hu o) (op_cmp hu p) we_max we_max we_max hm) ?_
  refine ha.useD hr sr post.ex fun x g1 h1 v H1 G1 e1 s1 r1 => ?_
  refine hb.useD h1 s1 (exNext post.ex e1) fun y g2 h2 w H2 G2 e2 s2 r2 => ?_
  split at h2
  · rename_i hk
    refine ⟨G2, _, _, true, s2.tag, r1.mono e2.same, r2, hk, true, rfl, ?_⟩
    rw [if_pos rfl]
    refine hc.useD h2 s2 (exNext post.ex (e1.trans e2)) fun z g3 h3 w' H3 G3 e3 s3 r3 => ?_
    obtain ⟨q, hq, rfl⟩ := opt_some h3
    obtain ⟨k, hk, rfl⟩ := Option.map_eq_some_iff.mp hq
    exact ⟨G3, _, _, k, s3.tag, r2.mono e3.same, r3, hk, post _ H3 G3 (e1.trans (e2.trans e3)) s3 (.bl _)⟩
  · rename_i hk
    rw [ret_some h2] at post
    refine ⟨G2, _, _, false, s2.tag, r1.mono e2.same, r2, hk, false, rfl, ?_⟩
    rw [if_neg Bool.false_ne_true]
    exact post _ H2 G2 (e1.trans e2) s2 (.bl _)
  · cases h2
theorem sndT_chain (hu : X.A.units + 65 < cLine) (o p : COp) (ha : Snd X exs a fa) (hb : Snd X exs b fb) (hc : Snd X exs c fc) (hm : behindInMarks (copOf p) c = false) :
    SndT X exs (.Compare a [copOf o, copOf p] [b, c] pos) fun g => bnd (fa g) fun x g => bnd (fb g) fun y g => match cmpD o x.toD y.toD with
      | some true => bnd (fc g) fun z g => opt (cmpD p y.toD z.toD) g
      | some false => ret false g
      | none => none := fun β g r hr σ H G Q W sr post => by
  refine wt_of (pt_chain (op_cmp hu o) (op_cmp hu p) we_max we_max we_max hm) ?_
  refine ha.useD hr sr post.ex fun x g1 h1 v H1 G1 e1 s1 r1 => ?_
  refine hb.useD h1 s1 (exNext post.ex e1) fun y g2 h2 w H2 G2 e2 s2 r2 => ?_
  split at h2
  · rename_i hk
    refine ⟨G2, _, _, true, s2.tag, r1.mono e2.same, r2, hk, true, rfl, ?_⟩
    rw [if_pos rfl]
    refine hc.useD h2 s2 (exNext post.ex (e1.trans e2)) fun z g3 h3 w' H3 G3 e3 s3 r3 => ?_
    obtain ⟨k, hk, rfl⟩ := opt_some h3
    exact ⟨G3, _, _, k, s3.tag, r2.mono e3.same, r3, hk, k, rfl, post H3 G3 (e1.trans (e2.trans e3)) s3⟩
  · rename_i hk
    rw [ret_some h2] at post
    refine ⟨G2, _, _, false, s2.tag, r1.mono e2.same, r2, hk, false, rfl, ?_⟩
    rw [if_neg Bool.false_ne_true]
    exact ⟨false, rfl, post H2 G2 (e1.trans e2) s2⟩
  · cases h2

/-! ### tests -/
def tr (f : Sg → R Val) : Sg → R Bool := fun g => bnd (f g) fun x g => opt (truth x.toD) g
theorem SndT.congr {f f' : Sg → R Bool} (h : SndT X exs e f) (q : ∀ g, f' g = f g) : SndT X exs e f' := fun β g r hr => h β g r ((q g).symm.trans hr)
/-- where no other road is laid for a test -/
def plainTest : Expr → Bool
  | .UnaryOp .Not _ _ => false
  | .BoolOp _ _ _ => false
  | .IfExp _ _ _ _ => false
  | .Compare _ _ _ _ => false
  | _ => true
theorem isTrue_of {e : Expr} (h : plainTest e = true) (env : Env) (whole : Sem Value) : isTrue e env whole = (do let v ← whole; standAt e.pos; holding [v] (truthy v)) := by
  cases e <;> first
    | rfl
    | (simp [plainTest] at h; done)
    | (rename_i op _ _; cases op <;> first | rfl | (simp [plainTest] at h; done))
theorem sndT_plain (h : plainTest e = true) (ha : Snd X exs e f) : SndT X exs e (tr f) := fun β g r hr σ H G Q W sr post => by
  refine wt_of (pt_truth we_max (fun whole => isTrue_of h _ _)) ?_
  refine ha.useD hr sr post.ex fun x g1 h1 v H1 G1 e1 s1 r1 => ?_
  obtain ⟨k, hk, rfl⟩ := opt_some h1
  exact ⟨k, truth_ok r1 hk, post H1 G1 e1 s1⟩
theorem sndT_cmp' (hu : X.A.units + 65 < cLine) (o : COp) (ha : Snd X exs a fa) (hb : Snd X exs b fb) (hm : behindInMarks (copOf o) b = false) :
    SndT X exs (.Compare a [copOf o] [b] pos) (tr fun g => bnd (fa g) fun x g => bnd (fb g) fun y g => opt ((cmpD o x.toD y.toD).map fun b => .v (.bool b)) g) :=
  (sndT_cmp hu o ha hb hm).congr fun g => by
    simp only [tr, bnd]
    rcases fa g with _ | ⟨x | x, g1⟩
    · rfl
    · dsimp only
      rcases fb g1 with _ | ⟨y | y, g2⟩
      · rfl
      · dsimp only
        cases cmpD o x.toD y.toD <;> rfl
      · rfl
    · rfl
theorem sndT_chain' (hu : X.A.units + 65 < cLine) (o p : COp) (ha : Snd X exs a fa) (hb : Snd X exs b fb) (hc : Snd X exs c fc) (hm : behindInMarks (copOf p) c = false) :
    SndT X exs (.Compare a [copOf o, copOf p] [b, c] pos) (tr fun g => bnd (fa g) fun x g => bnd (fb g) fun y g => match cmpD o x.toD y.toD with
      | some true => bnd (fc g) fun z g => opt ((cmpD p y.toD z.toD).map fun b => .v (.bool b)) g
      | some false => ret (.v (.bool false)) g
      | none => none) :=
  (sndT_chain hu o p ha hb hc hm).congr fun g => by
    simp only [tr, bnd]
    rcases fa g with _ | ⟨x | x, g1⟩
    · rfl
    · dsimp only
      rcases fb g1 with _ | ⟨y | y, g2⟩
      · rfl
      · dsimp only
        rcases cmpD o x.toD y.toD with _ | _ | _
        · rfl
        · rfl
        · dsimp only
          rcases fc g2 with _ | ⟨z | z, g3⟩
          · rfl
          · dsimp only
            cases cmpD p y.toD z.toD <;> rfl
          · rfl
      · rfl
    · rfl
theorem snd_not (ha : Snd X exs a fa) : Snd X exs (.UnaryOp .Not a pos) fun g => bnd (fa g) fun x g => opt ((truth x.toD).map fun b => .v (.bool (!b))) g := fun β g r hr σ H G Q W sr post => by
  refine we_of (pe_notT we_max) ?_
  refine ha.useD hr sr post.ex fun x g1 h1 v H1 G1 e1 s1 r1 => ?_
  obtain ⟨z, hz, rfl⟩ := opt_some h1
  obtain ⟨k, hk, rfl⟩ := Option.map_eq_some_iff.mp hz
  exact ⟨k, truth_ok r1 hk, post _ H1 G1 e1 s1 (.bl _)⟩
theorem sndT_not (ha : SndT X exs a (tr fa)) : SndT X exs (.UnaryOp .Not a pos) (tr fun g => bnd (fa g) fun x g => opt ((truth x.toD).map fun b => .v (.bool (!b))) g) := by
  have h : SndT X exs (.UnaryOp .Not a pos) fun g => bnd (tr fa g) fun k g => ret (!k) g := fun β g r hr σ H G Q W sr post => by
    refine wt_of (pt_not wt_max) ?_
    refine ha.use hr sr post.ex fun k g1 h1 H1 G1 e1 s1 => ?_
    rw [ret_some h1] at post
    exact post H1 G1 e1 s1
  refine h.congr fun g => ?_
  simp only [tr, bnd]
  rcases fa g with _ | ⟨x | x, g1⟩
  · rfl
  · dsimp only
    cases truth x.toD <;> rfl
  · rfl
/-- a chain of and, or from its second part on: one part alone, or a chain again -/
def Rest (X : Cx) (op : BoolOp) (es : List Expr) (pos : Pos) (b : Expr) : Prop := es = [b] ∨ b = .BoolOp op es pos
theorem rest_pe {op : BoolOp} {es : List Expr} {b : Expr} (h : Rest X op es pos b) : PE X (.BoolOp op es pos) (WE X b) := by
  rcases h with rfl | rfl
  · exact pe_one we_max
  · exact we_max
theorem rest_pw {op : BoolOp} {es : List Expr} {b : Expr} (h : Rest X op es pos b) : PW X (.BoolOp op es pos) (WT X b) := by
  rcases h with rfl | rfl
  · cases op with
    | And => exact pw_and1 wt_max
    | Or => exact pw_or1 wt_max
  · exact ⟨fun whole pins s σ H Q I h => h pins s I⟩
theorem snd_and {e2 : Expr} {r : List Expr} (hR : Rest X .And (e2 :: r) pos b) (ha : Snd X exs a fa) (hb : Snd X exs b fb) :
    Snd X exs (.BoolOp .And (a :: e2 :: r) pos) fun g => bnd (fa g) fun x g => match x with
      | .v (.bool true) => fb g
      | .v (.bool false) => ret (.v (.bool false)) g
      | _ => none := fun β g r hr σ H G Q W sr post => by
  refine we_of (pe_and we_max (rest_pe hR)) ?_
  refine ha.useD hr sr post.ex fun x g1 h1 v H1 G1 e1 s1 r1 => ?_
  split at h1
  · refine ⟨true, rp_bl r1, ?_⟩
    rw [if_pos rfl]
    refine hb β g1 _ h1 σ H1 G1 Q W s1 ?_
    obtain ⟨o, g2⟩ := r
    cases o with
    | ok y => exact fun v H2 G2 e2 => post v H2 G2 (e1.trans e2)
    | ex y => exact PX.next post e1
  · rw [ret_some h1] at post
    refine ⟨false, rp_bl r1, ?_⟩
    rw [if_neg Bool.false_ne_true]
    exact post _ H1 G1 e1 s1 (.bl _)
  · cases h1
theorem snd_or {e2 : Expr} {r : List Expr} (hR : Rest X .Or (e2 :: r) pos b) (ha : Snd X exs a fa) (hb : Snd X exs b fb) :
    Snd X exs (.BoolOp .Or (a :: e2 :: r) pos) fun g => bnd (fa g) fun x g => match x with
      | .v (.bool true) => ret (.v (.bool true)) g
      | .v (.bool false) => fb g
      | _ => none := fun β g r hr σ H G Q W sr post => by
  refine we_of (pe_or we_max (rest_pe hR)) ?_
  refine ha.useD hr sr post.ex fun x g1 h1 v H1 G1 e1 s1 r1 => ?_
  split at h1
  · rw [ret_some h1] at post
    refine ⟨true, rp_bl r1, ?_⟩
    rw [if_pos rfl]
    exact post _ H1 G1 e1 s1 (.bl _)
  · refine ⟨false, rp_bl r1, ?_⟩
    rw [if_neg Bool.false_ne_true]
    refine hb β g1 _ h1 σ H1 G1 Q W s1 ?_
    obtain ⟨o, g2⟩ := r
    cases o with
    | ok y => exact fun v H2 G2 e2 => post v H2 G2 (e1.trans e2)
    | ex y => exact PX.next post e1
  · cases h1
theorem sndT_and {e2 : Expr} {r : List Expr} (hR : Rest X .And (e2 :: r) pos b) (ha : SndT X exs a (tr fa)) (hb : SndT X exs b (tr fb)) :
    SndT X exs (.BoolOp .And (a :: e2 :: r) pos) (tr fun g => bnd (fa g) fun x g => match x with
      | .v (.bool true) => fb g
      | .v (.bool false) => ret (.v (.bool false)) g
      | _ => none) := fun β g r hr σ H G Q W sr post => by
  refine wt_of (PW.pt (pw_and wt_max (rest_pw hR))) ?_
  have hr2 : bnd (tr fa g) (fun k g => if k = true then tr fb g else ret false g) = some r := by
    simp only [tr, bnd] at hr ⊢
    revert hr
    rcases fa g with _ | ⟨x | x, g1⟩
    · exact fun h => h
    · intro h
      cases x with
      | m c => cases h
      | v d =>
        cases d with
        | bool k => cases k <;> exact h
        | none => cases h
        | int _ => cases h
        | str _ => cases h
        | list _ => cases h
        | tuple _ => cases h
        | dict _ => cases h
    · exact fun h => h
  refine ha.use hr2 sr post.ex fun k g1 h1 H1 G1 e1 s1 => ?_
  cases k with
  | true =>
    rw [if_pos rfl] at h1 ⊢
    refine hb β g1 _ h1 σ H1 G1 Q W s1 ?_
    obtain ⟨o, g2⟩ := r
    cases o with
    | ok y => exact fun H2 G2 e2 => post H2 G2 (e1.trans e2)
    | ex y => exact PX.next post e1
  | false =>
    rw [if_neg Bool.false_ne_true] at h1 ⊢
    rw [ret_some h1] at post
    exact post H1 G1 e1 s1
theorem sndT_or {e2 : Expr} {r : List Expr} (hR : Rest X .Or (e2 :: r) pos b) (ha : SndT X exs a (tr fa)) (hb : SndT X exs b (tr fb)) :
    SndT X exs (.BoolOp .Or (a :: e2 :: r) pos) (tr fun g => bnd (fa g) fun x g => match x with
      | .v (.bool true) => ret (.v (.bool true)) g
      | .v (.bool false) => fb g
      | _ => none) := fun β g r hr σ H G Q W sr post => by
  refine wt_of (PW.pt (pw_or wt_max (rest_pw hR))) ?_
  have hr2 : bnd (tr fa g) (fun k g => if k = true then ret true g else tr fb g) = some r := by
    simp only [tr, bnd] at hr ⊢
    revert hr
    rcases fa g with _ | ⟨x | x, g1⟩
    · exact fun h => h
    · intro h
      cases x with
      | m c => cases h
      | v d =>
        cases d with
        | bool k => cases k <;> exact h
        | none => cases h
        | int _ => cases h
        | str _ => cases h
        | list _ => cases h
        | tuple _ => cases h
        | dict _ => cases h
    · exact fun h => h
  refine ha.use hr2 sr post.ex fun k g1 h1 H1 G1 e1 s1 => ?_
  cases k with
  | true =>
    rw [if_pos rfl] at h1 ⊢
    rw [ret_some h1] at post
    exact post H1 G1 e1 s1
  | false =>
    rw [if_neg Bool.false_ne_true] at h1 ⊢
    refine hb β g1 _ h1 σ H1 G1 Q W s1 ?_
    obtain ⟨o, g2⟩ := r
    cases o with
    | ok y => exact fun H2 G2 e2 => post H2 G2 (e1.trans e2)
    | ex y => exact PX.next post e1
theorem snd_ite (hc : SndT X exs c (tr fc)) (ha : Snd X exs a fa) (hb : Snd X exs b fb) : Snd X exs (.IfExp c a b pos) fun g => bnd (fc g) fun x g => match truth x.toD with
    | some true => fa g
    | some false => fb g
    | none => none := fun β g r hr σ H G Q W sr post => by
  refine we_of (pe_ifExp wt_max we_max we_max) ?_
  have hr2 : bnd (tr fc g) (fun k g => if k = true then fa g else fb g) = some r := by
    simp only [tr, bnd] at hr ⊢
    revert hr
    rcases fc g with _ | ⟨x | x, g1⟩
    · exact fun h => h
    · dsimp only
      intro h
      cases ht : truth x.toD with
      | none =>
        rw [ht] at h
        cases h
      | some k =>
        rw [ht] at h
        cases k <;> exact h
    · exact fun h => h
  refine hc.use hr2 sr post.ex fun k g1 h1 H1 G1 e1 s1 => ?_
  have go : ∀ {d : Expr} {fd : Sg → R Val}, Snd X exs d fd → fd g1 = some r → WE X d σ H1 Q := fun {d fd} hd h1 => by
    refine hd β g1 _ h1 σ H1 G1 Q W s1 ?_
    obtain ⟨o, g2⟩ := r
    cases o with
    | ok y => exact fun v H2 G2 e2 => post v H2 G2 (e1.trans e2)
    | ex y => exact PX.next post e1
  cases k with
  | true =>
    rw [if_pos rfl] at h1 ⊢
    exact go ha h1
  | false =>
    rw [if_neg Bool.false_ne_true] at h1 ⊢
    exact go hb h1
end
end Z

/-! Z4: argument lists, subscripts, built-ins, calls. -/
namespace Z
open PySem PySem.Spec PyProof.Rows L2

section
variable (X : Cx) (exs : Nat → Option Addr)
/-- a list of data -/
def Pds (β : Nat → Option Addr) (σ : L2.St) (G : Gh) (H : Hp) (Q : List V → Hp → Prop) (W : WX) : Out (List D) × Sg → Prop
  | (.ok ds, g') => ∀ vs H' G', Ext G H G' H' → SR X.K β G' H' g' σ → RpAll X.K (Bh G' H') vs ds → Q vs H'
  | (.ex x, g') => PX X exs β σ G H W x g'
def SndA (es : List Expr) (f : Sg → R (List D)) : Prop := ∀ β g r, f g = some r → ∀ σ H G Q W, SR X.K β G H g σ → Pds X exs β σ G H Q W r → WA X es σ H Q
/-- arguments: data, or the value of a slot -/
def ArOk (K : PySem.W.Frag) (B : Hp) (σ : L2.St) : Ar → V → Prop
  | .v d, x => Rp K B x d
  | .b i, x => σ[i]? = some (some x)
def ArsOk (K : PySem.W.Frag) (B : Hp) (σ : L2.St) : List Ar → List V → Prop
  | [], [] => True
  | a :: as, x :: xs => ArOk K B σ a x ∧ ArsOk K B σ as xs
  | _, _ => False
def Pars (β : Nat → Option Addr) (σ : L2.St) (G : Gh) (H : Hp) (Q : List V → Hp → Prop) (W : WX) : Out (List Ar) × Sg → Prop
  | (.ok rs, g') => ∀ vs H' G', Ext G H G' H' → SR X.K β G' H' g' σ → ArsOk X.K (Bh G' H') σ rs vs → Q vs H'
  | (.ex x, g') => PX X exs β σ G H W x g'
def SndR (es : List Expr) (f : Sg → R (List Ar)) : Prop := ∀ β g r, f g = some r → ∀ σ H G Q W, SR X.K β G H g σ → Pars X exs β σ G H Q W r → WA X es σ H Q
end
theorem ArsOk.mono {K : PySem.W.Frag} {B B' : Hp} {σ : L2.St} (e : Same B B') : ∀ {rs : List Ar} {vs : List V}, ArsOk K B σ rs vs → ArsOk K B' σ rs vs
  | [], [], _ => trivial
  | [], _ :: _, h => h
  | _ :: _, [], h => h
  | .v _ :: _, _ :: _, h => ⟨h.1.mono e, ArsOk.mono e h.2⟩
  | .b _ :: _, _ :: _, h => ⟨h.1, ArsOk.mono e h.2⟩
def notStar : Expr → Bool
  | .Starred _ _ => false
  | _ => true
theorem star_of {e : Expr} {es : List Expr} {env : Env} (h : notStar e = true) : starEach (e :: es) env = (false, eval e env) :: starEach es env := by
  cases e <;> first | rfl | (simp [notStar] at h)
theorem noStars : ∀ {es : List Expr} {env : Env} {pos : Pos}, es.all notStar = true → (backTo pos (starEach es env)).any (·.1) = false
  | [], _, _, _ => rfl
  | e :: es, env, pos, h => by
    rw [List.all_cons, Bool.and_eq_true] at h
    rw [star_of h.1]
    show (false || (backTo pos (starEach es env)).any (·.1)) = false
    rw [noStars h.2]
    rfl
section
variable {X : Cx} {exs : Nat → Option Addr} {β : Nat → Option Addr} {σ : L2.St} {G G1 : Gh} {H H1 : Hp} {Q : VK} {W : WX} {e : Expr} {f : Sg → R Val} {g g1 : Sg} {pos : Pos} {es : List Expr}
theorem sndA_nil : SndA X exs [] fun g => ret [] g := fun β g r hr σ H G Q W sr post => by
  rw [ret_some hr] at post
  exact wa_of pa_nil (post [] H G (.refl _ _) sr .nil)
theorem SndA.use {γ : Type} {fs : Sg → R (List D)} {k : List D → Sg → R γ} {r : Out γ × Sg} {Q : List V → Hp → Prop} (h : SndA X exs es fs) (hr : bnd (fs g) k = some r) (sr : SR X.K β G H g σ) (hx : ∀ x g', r = (.ex x, g') → PX X exs β σ G H W x g')
    (ok : ∀ ds g1, k ds g1 = some r → ∀ vs H1 G1, Ext G H G1 H1 → SR X.K β G1 H1 g1 σ → RpAll X.K (Bh G1 H1) vs ds → Q vs H1) : WA X es σ H Q := by
  cases q : fs g with
  | none =>
    rw [q] at hr
    cases hr
  | some z =>
    obtain ⟨o, g1⟩ := z
    rw [q] at hr
    cases o with
    | ok x => exact h β g _ q σ H G Q W sr fun v H1 G1 e1 s1 r1 => ok x g1 hr v H1 G1 e1 s1 r1
    | ex x =>
      cases hr
      exact h β g _ q σ H G Q W sr (hx x g1 rfl)
theorem SndR.use {γ : Type} {fs : Sg → R (List Ar)} {k : List Ar → Sg → R γ} {r : Out γ × Sg} {Q : List V → Hp → Prop} (h : SndR X exs es fs) (hr : bnd (fs g) k = some r) (sr : SR X.K β G H g σ) (hx : ∀ x g', r = (.ex x, g') → PX X exs β σ G H W x g')
    (ok : ∀ ds g1, k ds g1 = some r → ∀ vs H1 G1, Ext G H G1 H1 → SR X.K β G1 H1 g1 σ → ArsOk X.K (Bh G1 H1) σ ds vs → Q vs H1) : WA X es σ H Q := by
  cases q : fs g with
  | none =>
    rw [q] at hr
    cases hr
  | some z =>
    obtain ⟨o, g1⟩ := z
    rw [q] at hr
    cases o with
    | ok x => exact h β g _ q σ H G Q W sr fun v H1 G1 e1 s1 r1 => ok x g1 hr v H1 G1 e1 s1 r1
    | ex x =>
      cases hr
      exact h β g _ q σ H G Q W sr (hx x g1 rfl)
theorem sndA_cons {fs : Sg → R (List D)} (hn : notStar e = true) (ha : Snd X exs e f) (hs : SndA X exs es fs) : SndA X exs (e :: es) fun g => bnd (f g) fun x g => bnd (fs g) fun xs g => ret (x.toD :: xs) g :=
  fun β g r hr σ H G Q W sr post => by
  refine wa_of (pa_cons we_max wa_max (star_of hn)) ?_
  have px : ∀ x g', r = (.ex x, g') → PX X exs β σ G H W x g' := fun x g' e => by
    subst e
    exact post
  refine ha.useD hr sr px fun x g1 h1 v H1 G1 e1 s1 r1 => ?_
  refine hs.use h1 s1 (exNext px e1) fun xs g2 h2 vs H2 G2 e2 s2 r2 => ?_
  rw [ret_some h2] at post
  exact post (v :: vs) H2 G2 (e1.trans e2) s2 (.cons (r1.mono e2.same) r2)
theorem sndR_nil : SndR X exs [] fun g => ret [] g := fun β g r hr σ H G Q W sr post => by
  rw [ret_some hr] at post
  exact wa_of pa_nil (post [] H G (.refl _ _) sr trivial)
theorem sndR_val {fs : Sg → R (List Ar)} (hn : notStar e = true) (ha : Snd X exs e f) (hs : SndR X exs es fs) : SndR X exs (e :: es) fun g => bnd (f g) fun x g => bnd (fs g) fun xs g => ret (.v x.toD :: xs) g :=
  fun β g r hr σ H G Q W sr post => by
  refine wa_of (pa_cons we_max wa_max (star_of hn)) ?_
  have px : ∀ x g', r = (.ex x, g') → PX X exs β σ G H W x g' := fun x g' e => by
    subst e
    exact post
  refine ha.useD hr sr px fun x g1 h1 v H1 G1 e1 s1 r1 => ?_
  refine hs.use h1 s1 (exNext px e1) fun xs g2 h2 vs H2 G2 e2 s2 r2 => ?_
  rw [ret_some h2] at post
  exact post (v :: vs) H2 G2 (e1.trans e2) s2 ⟨r1.mono e2.same, r2⟩
theorem sndR_bor {fs : Sg → R (List Ar)} {i : Nat} {x : Str} (hN : X.N[i]? = some x) (hv : Vis X.env.scope x) (hd : (x == ("__debug__" : Str)) = false) (hcd : (x == ("__classdict__" : Str)) = false) (hs : SndR X exs es fs) :
    SndR X exs (.Name x pos :: es) fun g => if slotIn g i then bnd (fs g) fun xs g => ret (.b i :: xs) g else none :=
  fun β g r hr σ H G Q W sr post => by
  refine wa_of (pa_cons (pe_var hN hv hd hcd) wa_max rfl) ?_
  have px : ∀ x g', r = (.ex x, g') → PX X exs β σ G H W x g' := fun x g' e => by
    subst e
    exact post
  dsimp only at hr
  split at hr
  · rename_i hi
    unfold slotIn at hi
    obtain ⟨v, hv⟩ : ∃ v, σ[i]? = some (some v) := by
      split at hi
      · cases hi
      · cases hi
      · rename_i h1 h2
        cases q : g[i]? with
        | none => exact absurd q h2
        | some s =>
          obtain ⟨y, hy, ok⟩ := sr.at q
          cases s with
          | no => exact absurd q h1
          | im d =>
            obtain ⟨v, rfl, _⟩ := ok
            exact ⟨v, hy⟩
          | ow c =>
            obtain ⟨v, rfl, _⟩ := ok
            exact ⟨_, hy⟩
          | bo c =>
            obtain ⟨v, rfl, _⟩ := ok
            exact ⟨_, hy⟩
          | sc ds =>
            obtain ⟨v, _, rfl, _⟩ := ok
            exact ⟨_, hy⟩
    refine ⟨v, hv, ?_⟩
    refine hs.use hr sr px fun xs g2 h2 vs H2 G2 e2 s2 r2 => ?_
    rw [ret_some h2] at post
    exact post (v :: vs) H2 G2 e2 s2 ⟨hv, r2⟩
  · cases hr

/-! ### displays -/
theorem snd_tup {k : Nat} {fs : Sg → R (List D)} (ha : SndA X exs es fs) : Snd X exs (.Tuple es k pos) fun g => bnd (fs g) fun ds g => if ds.length ≤ sizeLine then ret (.v (.tuple ds)) g else none :=
  fun β g r hr σ H G Q W sr post => by
  refine we_of (pe_tup wa_max) ?_
  refine ha.use hr sr post.ex fun ds g1 h1 vs H1 G1 e1 s1 r1 => ?_
  split at h1
  · rename_i hz
    rw [ret_some h1] at post
    refine ⟨by rw [r1.length]; exact hz, fun p hp => ?_⟩
    obtain ⟨w, ep⟩ := new_st s1.tag hp (.tup vs)
    exact post _ _ _ (e1.trans w.toExt) (s1.grow w) (.tup (SqT.of ep) (r1.mono w.same))
  · cases h1
theorem snd_lst {fs : Sg → R (List D)} (ha : SndA X exs es fs) : Snd X exs (.List es pos) fun g => bnd (fs g) fun ds g => if ds.length ≤ sizeLine then ret (.m (.l ds)) g else none :=
  fun β g r hr σ H G Q W sr post => by
  refine we_of (pe_lst wa_max) ?_
  refine ha.use hr sr post.ex fun ds g1 h1 vs H1 G1 e1 s1 r1 => ?_
  split at h1
  · rename_i hz
    rw [ret_some h1] at post
    refine ⟨by rw [r1.length]; exact hz, fun p hp => ?_⟩
    have w := Grow.new s1.tag hp (.lst vs)
    exact post _ _ G1 (e1.trans w.toExt) (s1.grow w) ⟨p, rfl, s1.tag.un hp, vs, upd_same, r1.mono w.same⟩
  · cases h1

/-! ### subscripts -/
def notSlice : Expr → Bool
  | .Slice _ _ _ _ => false
  | _ => true
theorem plainIx_of {b : Expr} (h : notSlice b = true) : PlainIx b := fun o i => by
  cases b <;> first | rfl | (simp [notSlice] at h)
variable {a b c : Expr} {fa fb fc : Sg → R Val}
theorem snd_idx (hp : notSlice b = true) (ha : Snd X exs a fa) (hb : Snd X exs b fb) : Snd X exs (.Subscript a b pos) fun g => bnd (fa g) fun x g => bnd (fb g) fun y g => opt ((idxD x.toD y.toD).map .v) g :=
  fun β g r hr σ H G Q W sr post => by
  refine we_of (pe_ix ix_data we_max we_max (plainIx_of hp)) ?_
  refine ha.useD hr sr post.ex fun x g1 h1 v H1 G1 e1 s1 r1 => ?_
  refine hb.useD h1 s1 (exNext post.ex e1) fun y g2 h2 w H2 G2 e2 s2 r2 => ?_
  obtain ⟨z, hz, rfl⟩ := opt_some h2
  obtain ⟨k, hk, rfl⟩ := Option.map_eq_some_iff.mp hz
  exact ⟨G2, _, _, k, s2.tag, r1.mono e2.same, r2, hk, fun v rv => post v H2 G2 (e1.trans e2) s2 rv⟩
/-- what a slot shows -/
theorem SR.peek {i : Nat} {d : D} {K : PySem.W.Frag} (h : SR K β G H g σ) (e : rdM g[i]? = some d) : ∃ v, σ[i]? = some (some v) ∧ (Rp K (Bh G H) v d ∨ ∃ a xs ds, v = .ref a ∧ d = .list ds ∧ SqL K H a xs ∧ RpAll K (Bh G H) xs ds) := by
  unfold rdM at e
  split at e
  · rename_i q
    cases e
    obtain ⟨y, hy, v, rfl, rv⟩ := h.at q
    exact ⟨v, hy, .inl rv⟩
  · rename_i c q
    cases e
    obtain ⟨y, hy, a, rfl, m⟩ := h.at q
    cases c with
    | l ds =>
      obtain ⟨_, vs, ha, r⟩ := m
      exact ⟨_, hy, .inr ⟨a, vs, ds, rfl, rfl, SqL.of ha, r⟩⟩
  · rename_i c q
    cases e
    obtain ⟨y, hy, a, rfl, m, _⟩ := h.at q
    cases c with
    | l ds =>
      obtain ⟨_, vs, ha, r⟩ := m
      exact ⟨_, hy, .inr ⟨a, vs, ds, rfl, rfl, SqL.of ha, r⟩⟩
  · rename_i ds q
    cases e
    obtain ⟨y, hy, a, vs, rfl, ha, r⟩ := h.at q
    exact ⟨_, hy, .inr ⟨a, vs, ds, rfl, rfl, Bh.same.seq ha, r⟩⟩
  · cases e
theorem snd_idxv {i : Nat} {x : Str} {p2 : Pos} (hN : X.N[i]? = some x) (hv : Vis X.env.scope x) (hd : (x == ("__debug__" : Str)) = false) (hcd : (x == ("__classdict__" : Str)) = false) (hp : notSlice b = true) (hb : Snd X exs b fb) :
    Snd X exs (.Subscript (.Name x p2) b pos) fun g => if slotIn g i then bnd (fb g) fun y g => match rdM g[i]? with
      | some d => opt ((idxD d y.toD).map .v) g
      | none => none
      else none :=
  fun β g r hr σ H G Q W sr post => by
  dsimp only at hr
  split at hr
  · rename_i hi
    have hv0 : ∃ v, σ[i]? = some (some v) := by
      unfold slotIn at hi
      split at hi
      · cases hi
      · cases hi
      · rename_i h1 h2
        cases q : g[i]? with
        | none => exact absurd q h2
        | some s =>
          obtain ⟨y, hy, ok⟩ := sr.at q
          cases s with
          | no => exact absurd q h1
          | im d =>
            obtain ⟨v, rfl, _⟩ := ok
            exact ⟨v, hy⟩
          | ow c =>
            obtain ⟨v, rfl, _⟩ := ok
            exact ⟨_, hy⟩
          | bo c =>
            obtain ⟨v, rfl, _⟩ := ok
            exact ⟨_, hy⟩
          | sc ds =>
            obtain ⟨v, _, rfl, _⟩ := ok
            exact ⟨_, hy⟩
    obtain ⟨v, hv1⟩ := hv0
    refine we_of (pe_ix (ix_data.or ix_list) (pe_var hN hv hd hcd) we_max (plainIx_of hp)) ?_
    refine ⟨v, hv1, ?_⟩
    refine hb.useD hr sr post.ex fun y g1 h1 w H1 G1 e1 s1 r1 => ?_
    split at h1
    · rename_i d hd
      obtain ⟨z, hz, rfl⟩ := opt_some h1
      obtain ⟨k, hk, rfl⟩ := Option.map_eq_some_iff.mp hz
      obtain ⟨v', hv', q⟩ := s1.peek hd
      rw [hv1] at hv'
      cases hv'
      rcases q with q | ⟨ad, xs, ds, rfl, rfl, q, ra⟩
      · exact .inl ⟨G1, _, _, k, s1.tag, q, r1, hk, fun v rv => post v H1 G1 e1 s1 rv⟩
      · unfold idxD at hk
        split at hk
        · rename_i e' i' hl he
          cases hl
          obtain ⟨u, h1, h2⟩ := atI_rp ra hk
          refine .inr ⟨ad, xs, _, u, rfl, rp_int (he ▸ r1), q, h1, post _ H1 G1 e1 s1 h2⟩
        · rename_i hl _
          cases hl
        · rename_i hl _
          cases hl
        · cases hk
    · cases h1
  · cases hr
theorem snd_lenv {i : Nat} {x : Str} {p2 p3 : Pos} (hN : X.N[i]? = some x) (hv : Vis X.env.scope x) (hd : (x == ("__debug__" : Str)) = false) (hcd : (x == ("__classdict__" : Str)) = false) (hg : Gl X "len") (hm : X.mg "len" = none) (hu : X.A.units + 64 < cLine) (hc : X.calm = true) (hgd : X.A.guards = some []) :
    Snd X exs (.Call (.Name "len" p3) [.Name x p2] [] pos) fun g => match rdM g[i]? with
      | some d => opt ((lenD d).map .v) g
      | none => none :=
  fun β g r hr σ H G Q W sr post => by
  refine we_of (pe_callB ((cr_b1 hc hgd hu .len).or call_len_seq) hg hm boot_len (pa_cons (pe_var hN hv hd hcd) pa_nil)) ?_
  dsimp only at hr
  split at hr
  · rename_i d hd
    obtain ⟨z, hz, rfl⟩ := opt_some hr
    obtain ⟨k, hk, rfl⟩ := Option.map_eq_some_iff.mp hz
    obtain ⟨v, hv1, q⟩ := sr.peek hd
    refine ⟨v, hv1, ?_⟩
    rcases q with q | ⟨ad, xs, ds, rfl, rfl, q, ra⟩
    · exact .inl ⟨v, G, d, .v k, rfl, sr.tag, q, (by show (lenD d).map Val.v = _; rw [hk]; rfl), fun v H' G' gr rv => post v H' G' gr.toExt (sr.grow gr) rv⟩
    · cases hk
      refine .inr ⟨ad, xs, rfl, .inl q, ?_⟩
      rw [ra.length]
      exact post _ H G (.refl _ _) sr (.int _)
  · cases hr
def Po (X : Cx) (exs : Nat → Option Addr) (β : Nat → Option Addr) (σ : L2.St) (G : Gh) (H : Hp) (Q : Option Int → Hp → Prop) (W : WX) : Out (Option Int) × Sg → Prop
  | (.ok i, g') => ∀ H' G', Ext G H G' H' → SR X.K β G' H' g' σ → Q i H'
  | (.ex x, g') => PX X exs β σ G H W x g'
/-- an end of a slice -/
def SndO (X : Cx) (exs : Nat → Option Addr) (o : Option Expr) (fo : Sg → R (Option Int)) : Prop :=
  ∃ to, PO X o to ∧ ∀ β g r, fo g = some r → ∀ σ H G Q W, SR X.K β G H g σ → Po X exs β σ G H Q W r → to σ H Q
theorem sndO_non : SndO X exs none fun g => ret none g := ⟨_, po_none, fun β g r hr σ H G Q W sr post => by
  rw [ret_some hr] at post
  exact post H G (.refl _ _) sr⟩
theorem sndO_som (ha : Snd X exs a fa) : SndO X exs (some a) fun g => bnd (fa g) fun x g => match x with
    | .v (.int i) => ret (some i) g
    | _ => none := ⟨_, po_some we_max, fun β g r hr σ H G Q W sr post => by
  have px : ∀ x g', r = (.ex x, g') → PX X exs β σ G H W x g' := fun x g' e => by
    subst e
    exact post
  refine ha.useD hr sr px fun x g1 h1 v H1 G1 e1 s1 r1 => ?_
  split at h1
  · rw [ret_some h1] at post
    exact ⟨_, rp_int r1, post H1 G1 e1 s1⟩
  · cases h1⟩
theorem useO {γ : Type} {fo : Sg → R (Option Int)} {k : Option Int → Sg → R γ} {r : Out γ × Sg} {to : L2.St → Hp → (Option Int → Hp → Prop) → Prop} {Q : Option Int → Hp → Prop}
    (h : ∀ β g r, fo g = some r → ∀ σ H G Q W, SR X.K β G H g σ → Po X exs β σ G H Q W r → to σ H Q) (hr : bnd (fo g) k = some r) (sr : SR X.K β G H g σ) (hx : ∀ x g', r = (.ex x, g') → PX X exs β σ G H W x g')
    (ok : ∀ i g1, k i g1 = some r → ∀ H1 G1, Ext G H G1 H1 → SR X.K β G1 H1 g1 σ → Q i H1) : to σ H Q := by
  cases q : fo g with
  | none =>
    rw [q] at hr
    cases hr
  | some z =>
    obtain ⟨o, g1⟩ := z
    rw [q] at hr
    cases o with
    | ok x => exact h β g _ q σ H G Q W sr fun H1 G1 e1 s1 => ok x g1 hr H1 G1 e1 s1
    | ex x =>
      cases hr
      exact h β g _ q σ H G Q W sr (hx x g1 rfl)
theorem snd_slc {lo hi : Option Expr} {fl fh : Sg → R (Option Int)} {p2 : Pos} (ha : Snd X exs a fa) (hl : SndO X exs lo fl) (hh : SndO X exs hi fh) :
    Snd X exs (.Subscript a (.Slice lo hi none p2) pos) fun g => bnd (fa g) fun x g => bnd (fl g) fun l g => bnd (fh g) fun h g => opt (slcD x.toD l h) g :=
  fun β g r hr σ H G Q W sr post => by
  obtain ⟨tl, pl, ql⟩ := hl
  obtain ⟨th, ph, qh⟩ := hh
  refine we_of (pe_slice sl_data we_max pl ph) ?_
  refine ha.useD hr sr post.ex fun x g1 h1 v H1 G1 e1 s1 r1 => ?_
  refine useO ql h1 s1 (exNext post.ex e1) fun l g2 h2 H2 G2 e2 s2 => ?_
  refine useO qh h2 s2 (exNext post.ex (e1.trans e2)) fun h g3 h3 H3 G3 e3 s3 => ?_
  obtain ⟨z, hz, rfl⟩ := opt_some h3
  exact ⟨G3, _, z, s3.tag, r1.mono (e2.trans e3).same, hz, fun v H' G' gr rv => post v H' G' (e1.trans (e2.trans (e3.trans gr.toExt))) (s3.grow gr) rv⟩
end
end Z

/-! Z5: calls of defs and of built-ins. -/
namespace Z
open PySem PySem.Spec PyProof.Rows L2

section
variable {X : Cx} {exs : Nat → Option Addr} {β : Nat → Option Addr} {σ : L2.St} {G G1 : Gh} {H H1 : Hp} {Q : VK} {W : WX} {e : Expr} {f : Sg → R Val} {g g1 : Sg} {pos : Pos} {es : List Expr}
theorem run_G {k : Nat} {a : Addr} {fd : FuncData} {ps : List Str} {sp : Sp} {pins : List (Addr × Obj)} {s : Shared} {us : List Value} {vs : List V} {E : XK} (F : FnG X.prog X.w X.K X.mg X.base k a fd ps sp) (hr : Room k X.A) (gd : X.A.guards = some [])
    (hb : Binds X.K fd ps []) (I : Inv X pins σ H s) (r : Vals vs us) (h : sp vs H Q E) (hx : ∀ e s', L2.CX X.prog X.w X.stack H s E e s' → X.xe e s') : wpAny (model X.prog X.w) X.A (call (.ref a) us) (EP X pins σ Q) X.xe s := by
  have hl : (us ++ []).length = ps.length := by
    rw [List.append_nil, ← r.length]
    exact F.len _ _ _ _ h
  have bt := hb s us I.kIn hl
  rw [List.append_nil] at bt
  have go := F.run X.A X.stack s H ⟨us, []⟩ us vs Q E gd hr I.env0 bt r h
  refine wpAny_call (codeAny_mono go fun res s' hq => ?_)
  cases res with
  | error x => exact hx x s' hq
  | ok fl =>
    cases fl with
    | ret u => exact I.after hq
    | next => exact hq.elim
    | brk => exact hq.elim
    | cont => exact hq.elim
theorem we_call0 {k : Nat} {a : Addr} {fd : FuncData} {ps : List Str} {sp : Sp} {x : Str} {p : Pos} (F : FnG X.prog X.w X.K X.mg X.base k a fd ps sp) (hr : Room k X.A) (gd : X.A.guards = some []) (hb : Binds X.K fd ps [])
    (hg : Gl X x) (hm : X.mg x = some (.ref a)) (hk : PySem.W.keepIn X.K (.ref a) = true) (hd : (x == ("__debug__" : Str)) = false)
    (h : ∃ E, sp [] H Q E ∧ ∀ (pins : List (Addr × Obj)) (s : Shared) (e : Value) (s' : Shared), Inv X pins σ H s → L2.CX X.prog X.w X.stack H s E e s' → X.xe e s') : WE X (.Call (.Name x p) [] [] pos) σ H Q := by
  intro pins s I
  obtain ⟨E, q, hx⟩ := h
  exact wpAny_Call_Name_kw (ld_glob I hg hm (PySem.W.callWith_K0 I.kIn hk (run_G (us := []) F hr gd hb I .nil q fun e s' c => hx pins s e s' I c)) hd)
theorem we_call {k : Nat} {a : Addr} {fd : FuncData} {ps : List Str} {sp : Sp} {x : Str} {p : Pos} (F : FnG X.prog X.w X.K X.mg X.base k a fd ps sp) (hr : Room k X.A) (gd : X.A.guards = some []) (hb : Binds X.K fd ps [])
    (hg : Gl X x) (hm : X.mg x = some (.ref a)) (hk : PySem.W.keepIn X.K (.ref a) = true) (hd : (x == ("__debug__" : Str)) = false) (h1 : notStar e = true) (hn : es.all notStar = true)
    (h : WA X (e :: es) σ H fun vs H1 => ∃ E, sp vs H1 Q E ∧ ∀ (pins : List (Addr × Obj)) (s : Shared) (e : Value) (s' : Shared), Inv X pins σ H1 s → L2.CX X.prog X.w X.stack H1 s E e s' → X.xe e s') : WE X (.Call (.Name x p) (e :: es) [] pos) σ H Q := by
  intro pins s I
  refine wpAny_Call_Name_kw (ld_glob I hg hm ?_ hd)
  refine PySem.W.callWith_K (h₀ := X.base) I.ok.mod.kin hk (thn (h pos pins s I) fun us s1 ⟨vs, H1, I1, r, E, q, hx⟩ => ⟨I1.kIn, ?_⟩) (star_of h1) (noStars hn)
  exact run_G F hr gd hb I1 r q fun e s' c => hx pins s1 e s' I1 c

/-! ### a call's arguments: the caller's slots as the callee sees them -/
def posOf : Nat → List Ar → Nat → Option Nat
  | _, [], _ => none
  | k, .v _ :: r, j => posOf (k + 1) r j
  | k, .b i :: r, j => if i = j then some k else posOf (k + 1) r j
def callee (rs : List Ar) (G : Gh) : Gh := fun a =>
  match G a with
  | .sl j => (match posOf 0 rs j with
    | some k => .sl k
    | none => .fr)
  | t => t
theorem callee_st {rs : List Ar} {G : Gh} {a : Addr} : callee rs G a = .st ↔ G a = .st := by
  unfold callee
  cases G a with
  | sl j =>
    dsimp only
    cases posOf 0 rs j <;> simp
  | un => simp
  | st => simp
  | fr => simp
theorem callee_un {rs : List Ar} {G : Gh} {a : Addr} : callee rs G a = .un ↔ G a = .un := by
  unfold callee
  cases G a with
  | sl j =>
    dsimp only
    cases posOf 0 rs j <;> simp
  | un => simp
  | st => simp
  | fr => simp
theorem bh_callee {rs : List Ar} {G : Gh} {H : Hp} : Bh (callee rs G) H = Bh G H := by
  funext a
  unfold Bh
  by_cases h : G a = .st
  · rw [if_pos h, if_pos (callee_st.mpr h)]
  · rw [if_neg h, if_neg (fun z => h (callee_st.mp z))]
theorem posOf_app : ∀ {pre : List Ar} {suf : List Ar} {i k : Nat}, i ∉ borrowed pre → posOf k (pre ++ .b i :: suf) i = some (k + pre.length)
  | [], suf, i, k, _ => by
    show (if i = i then some k else _) = _
    rw [if_pos rfl]
    rfl
  | .v d :: pre, suf, i, k, h => by
    show posOf (k + 1) (pre ++ .b i :: suf) i = _
    rw [posOf_app (pre := pre) h, List.length_cons]
    congr 1
    omega
  | .b j :: pre, suf, i, k, h => by
    have hj : j ≠ i := fun z => h (by rw [z]; exact List.mem_cons_self)
    show (if j = i then some k else posOf (k + 1) (pre ++ .b i :: suf) i) = _
    rw [if_neg hj, posOf_app (pre := pre) fun z => h (List.mem_cons_of_mem _ z), List.length_cons]
    congr 1
    omega
theorem posOf_none : ∀ {rs : List Ar} {i k : Nat}, i ∉ borrowed rs → posOf k rs i = none
  | [], _, _, _ => rfl
  | .v _ :: r, i, k, h => posOf_none (rs := r) h
  | .b j :: r, i, k, h => by
    show (if j = i then some k else posOf (k + 1) r i) = _
    rw [if_neg (show ¬ j = i from fun z => h (by rw [z]; exact List.mem_cons_self))]
    exact posOf_none fun z => h (List.mem_cons_of_mem _ z)
theorem borrowed_app : ∀ {pre suf : List Ar}, borrowed (pre ++ suf) = borrowed pre ++ borrowed suf
  | [], _ => rfl
  | .v _ :: r, suf => borrowed_app (pre := r)
  | .b i :: r, suf => congrArg (i :: ·) (borrowed_app (pre := r))
theorem noDup_mid : ∀ {l : List Nat} {i : Nat} {r : List Nat}, noDup (l ++ i :: r) = true → i ∉ l ∧ i ∉ r
  | [], i, r, h => by
    simp only [List.nil_append, noDup, Bool.and_eq_true, Bool.not_eq_true', List.contains_eq_mem, decide_eq_false_iff_not] at h
    exact ⟨(fun z => nomatch z), h.1⟩
  | x :: l, i, r, h => by
    simp only [List.cons_append, noDup, Bool.and_eq_true, Bool.not_eq_true', List.contains_eq_mem, decide_eq_false_iff_not] at h
    obtain ⟨h1, h2⟩ := noDup_mid h.2
    refine ⟨fun z => ?_, h2⟩
    rcases List.mem_cons.mp z with e | e
    · subst e
      exact h.1 (List.mem_append_right _ List.mem_cons_self)
    · exact h1 e
theorem args_ok {K : PySem.W.Frag} (sr : SR K β G H g σ) {rs : List Ar} (nd : noDup (borrowed rs) = true) : ∀ {suf : List Ar} {pre : List Ar} {vs : List V} {xs : List Arg}, rs = pre ++ suf →
    ArsOk K (Bh G H) σ suf vs → argsOf g suf = some xs → ArgsOk K (callee rs G) H pre.length xs vs
  | [], pre, [], xs, _, _, h => by
    cases h
    trivial
  | [], pre, _ :: _, xs, _, h, _ => h.elim
  | _ :: _, pre, [], xs, _, h, _ => h.elim
  | a :: suf, pre, v :: vs, xs, e, h, hx => by
    unfold argsOf at hx
    obtain ⟨y, hy, hx⟩ := Option.bind_eq_some_iff.mp hx
    obtain ⟨ys, hys, rfl⟩ := Option.map_eq_some_iff.mp hx
    have ih := args_ok sr nd (suf := suf) (pre := pre ++ [a]) (vs := vs) (xs := ys) (by rw [e, List.append_assoc]; rfl) h.2 hys
    rw [List.length_append] at ih
    refine ⟨?_, ih⟩
    cases a with
    | v d =>
      cases hy
      show Rp K (Bh (callee rs G) H) v d
      rw [bh_callee]
      exact h.1
    | b i =>
      have hp : posOf 0 rs i = some pre.length := by
        rw [e, borrowed_app] at nd
        have := posOf_app (suf := suf) (k := 0) (noDup_mid nd).1
        rw [e, this, Nat.zero_add]
      have ct : ∀ a, G a = .sl i → callee rs G a = .sl pre.length := fun a ha => by
        unfold callee
        rw [ha]
        dsimp only
        rw [hp]
      have hv : σ[i]? = some (some v) := h.1
      simp only [argOf] at hy
      have mk : ∀ {c : M} {a : Addr}, MOk K G H i c a → MOk K (callee rs G) H pre.length c a := fun {c a} hm => by
        cases c with
        | l ds =>
          obtain ⟨t, vs, q, r⟩ := hm
          exact ⟨ct a t, vs, q, by rw [bh_callee]; exact r⟩
      split at hy
      · rename_i c hc
        cases hy
        obtain ⟨z, hz, a, rfl, hm⟩ := sr.at hc
        rw [hv] at hz
        cases hz
        exact ⟨a, rfl, mk hm⟩
      · rename_i c hc
        cases hy
        obtain ⟨z, hz, a, rfl, hm, _⟩ := sr.at hc
        rw [hv] at hz
        cases hz
        exact ⟨a, rfl, mk hm⟩
      · rename_i c hc
        cases hy
        obtain ⟨z, hz, a, ws, rfl, q, r⟩ := sr.at hc
        rw [hv] at hz
        cases hz
        exact ⟨a, ws, rfl, by rw [bh_callee]; exact q, by rw [bh_callee]; exact r⟩
      · cases hy
/-! ### behind a call -/
def caller (G G' : Gh) : Gh := fun a =>
  match G' a with
  | .un => .un
  | .st => .st
  | .fr => G a
  | .sl _ => (match G a with
    | .sl j => .sl j
    | _ => .un)
theorem callee_fr {rs : List Ar} {G : Gh} {a : Addr} (h : callee rs G a = .fr) : G a = .fr ∨ ∃ j, G a = .sl j := by
  unfold callee at h
  cases q : G a with
  | sl j => exact .inr ⟨j, rfl⟩
  | fr => exact .inl rfl
  | un =>
    rw [q] at h
    cases h
  | st =>
    rw [q] at h
    cases h
theorem caller_ext {rs : List Ar} {G G' : Gh} {H H' : Hp} (e : Ext (callee rs G) H G' H') : Ext G H (caller G G') H' := by
  refine ⟨fun a h => ?_, fun a h => ?_, fun a h => ?_⟩
  · obtain ⟨q, z⟩ := e.st a (callee_st.mpr h)
    refine ⟨?_, z⟩
    unfold caller
    rw [q]
  · obtain ⟨q, z⟩ := e.fr a (by unfold callee; rw [h])
    refine ⟨?_, z⟩
    unfold caller
    rw [q]
    exact h
  · unfold caller at h
    cases q : G' a with
    | un =>
      rw [q] at h
      cases h
    | st =>
      rw [q] at h
      cases h
    | fr =>
      rw [q] at h
      exact h
    | sl k =>
      rw [q] at h
      dsimp only at h
      split at h <;> cases h
theorem caller_tag {G G' : Gh} {H' : Hp} (t : Tagd G' H') : Tagd (caller G G') H' := fun a h => t a fun z => h (by unfold caller; rw [z])
theorem caller_same {rs : List Ar} {G G' : Gh} {H H' : Hp} (e : Ext (callee rs G) H G' H') : Same (Bh G' H') (Bh (caller G G') H') := fun a o h => by
  unfold Bh at h ⊢
  by_cases q : G' a = .st
  · rw [if_pos q] at h
    rw [if_pos (by unfold caller; rw [q])]
    exact h
  · rw [if_neg q] at h
    cases h
theorem caller_val {K : PySem.W.Frag} {rs : List Ar} {G G' : Gh} {H H' : Hp} (e : Ext (callee rs G) H G' H') {x : Val} {v : V} (h : ValOk K G' H' x v) : ValOk K (caller G G') H' x v := by
  cases x with
  | v d => exact Rp.mono (caller_same e) h
  | m c =>
    obtain ⟨a, rfl, q⟩ := h
    refine ⟨a, rfl, ?_⟩
    cases c with
    | l ds =>
      obtain ⟨u, vs, hv, r⟩ := q
      exact ⟨by unfold caller; rw [u], vs, hv, r.mono (caller_same e)⟩
theorem slot_new {K : PySem.W.Frag} {rs : List Ar} {G G' : Gh} {H H' : Hp} (e : Ext (callee rs G) H G' H') {j : Nat} {s : Sl} {x : Option V} (hj : j ∉ borrowed rs ∨ ∃ ds, s = .sc ds) (h : SlOk K β G H j s x) : SlOk K β (caller G G') H' j s x := by
  rcases hj with hj | ⟨ds, rfl⟩
  · refine h.keep (caller_ext e).same fun a ha => ?_
    have hf : callee rs G a = .fr := by
      unfold callee
      rw [ha]
      dsimp only
      rw [posOf_none hj]
    obtain ⟨q, z⟩ := e.fr a hf
    refine ⟨?_, z⟩
    unfold caller
    rw [q]
    exact ha
  · obtain ⟨a, vs, q, r, z⟩ := h
    exact ⟨a, vs, q, (caller_ext e).same.seq r, z.mono (caller_ext e).same⟩
theorem back_ok {K : PySem.W.Frag} {rs : List Ar} {G G' : Gh} {H H' : Hp} {g0 : Sg} (sr : SR K β G H g0 σ) (e : Ext (callee rs G) H G' H') (nd : noDup (borrowed rs) = true) :
    ∀ {suf pre : List Ar} {vs : List V} {ms : List (Option M)} {g g2 : Sg}, rs = pre ++ suf → ArsOk K (Bh G H) σ suf vs → OutsOk K G' H' pre.length ms vs → backG suf ms g = some g2 → g.length = g0.length →
    (∀ j s, g[j]? = some s → (j ∉ borrowed suf → SlOk K β (caller G G') H' j s (σ.getD j none)) ∧ (j ∈ borrowed suf → g0[j]? = some s)) →
    g2.length = g0.length ∧ ∀ j s, g2[j]? = some s → SlOk K β (caller G G') H' j s (σ.getD j none)
  | [], pre, vs, ms, g, g2, _, ha, ho, hb, hl, hP => by
    cases vs with
    | cons _ _ => exact ha.elim
    | nil =>
      cases ms with
      | cons _ _ => exact ho.elim
      | nil =>
        cases hb
        exact ⟨hl, fun j s q => (hP j s q).1 fun z => nomatch z⟩
  | a :: suf, pre, [], ms, g, g2, _, ha, _, _, _, _ => ha.elim
  | a :: suf, pre, v :: vs, [], g, g2, _, _, ho, _, _, _ => ho.elim
  | .v d :: suf, pre, v :: vs, m :: ms, g, g2, er, ha, ho, hb, hl, hP => by
    have ho2 := ho.2
    rw [show pre.length + 1 = (pre ++ [Ar.v d]).length from by rw [List.length_append]; rfl] at ho2
    exact back_ok sr e nd (suf := suf) (pre := pre ++ [.v d]) (by rw [er, List.append_assoc]; rfl) ha.2 ho2 hb hl hP
  | .b i :: suf, pre, v :: vs, m :: ms, g, g2, er, ha, ho, hb, hl, hP => by
    have ho2 := ho.2
    rw [show pre.length + 1 = (pre ++ [Ar.b i]).length from by rw [List.length_append]; rfl] at ho2
    have nd2 := nd
    rw [er, borrowed_app] at nd2
    have hi : i ∉ borrowed suf := (noDup_mid nd2).2
    have hv : σ[i]? = some (some v) := ha.1
    have hvD : σ.getD i none = some v := by rw [List.getD_eq_getElem?_getD, hv]; rfl
    unfold backG at hb
    have step : ∀ {c : M} {s' : Sl}, g[i]? = some s' → m = some c → (∀ a, G a = .sl i → True) → ∃ a, v = .ref a ∧ (G a = .sl i → MOk K (caller G G') H' i c a) := fun {c s'} _ hm _ => by
      obtain ⟨a, rfl, hk⟩ := ho.1 c hm
      refine ⟨a, rfl, fun hG => ?_⟩
      cases c with
      | l ds =>
        obtain ⟨t, ws, q, r⟩ := hk
        refine ⟨?_, ws, q, r.mono (caller_same e)⟩
        unfold caller
        rw [t]
        dsimp only
        rw [hG]
    have rec' : ∀ {s' : Sl}, i < g.length → SlOk K β (caller G G') H' i s' (some v) → backG suf ms (g.set i s') = some g2 → g2.length = g0.length ∧ ∀ j s, g2[j]? = some s → SlOk K β (caller G G') H' j s (σ.getD j none) := fun {s'} hlt ok hb => by
      refine back_ok sr e nd (suf := suf) (pre := pre ++ [.b i]) (by rw [er, List.append_assoc]; rfl) ha.2 ho2 hb (by rw [List.length_set]; exact hl) fun j s q => ?_
      by_cases hj : i = j
      · subst hj
        rw [List.getElem?_set_self hlt] at q
        cases q
        refine ⟨fun _ => ?_, fun z => absurd z hi⟩
        rw [hvD]
        exact ok
      · rw [List.getElem?_set_ne hj] at q
        obtain ⟨p1, p2⟩ := hP j s q
        exact ⟨fun z => p1 fun w => by
          rcases List.mem_cons.mp w with w | w
          · exact hj w.symm
          · exact z w, fun z => p2 (List.mem_cons_of_mem _ z)⟩
    have lt_of : ∀ {s : Sl}, g[i]? = some s → i < g.length := fun {s} q => by
      rcases Nat.lt_or_ge i g.length with z | z
      · exact z
      · rw [List.getElem?_eq_none z] at q
        cases q
    split at hb
    · rename_i c c2 hg
      obtain ⟨y, hy, a, rfl, hk⟩ := sr.at ((hP i _ hg).2 List.mem_cons_self)
      rw [hv] at hy
      cases hy
      obtain ⟨a', ea, q⟩ := step hg rfl fun _ _ => trivial
      cases ea
      have hG : G a = .sl i := by
        cases c with
        | l ds => exact hk.1
      exact rec' (s' := .ow c2) (lt_of hg) ⟨a, rfl, q hG⟩ hb
    · rename_i c c2 hg
      obtain ⟨y, hy, a, rfl, hk, hβ⟩ := sr.at ((hP i _ hg).2 List.mem_cons_self)
      rw [hv] at hy
      cases hy
      obtain ⟨a', ea, q⟩ := step hg rfl fun _ _ => trivial
      cases ea
      have hG : G a = .sl i := by
        cases c with
        | l ds => exact hk.1
      exact rec' (s' := .bo c2) (lt_of hg) ⟨a, rfl, q hG, hβ⟩ hb
    · rename_i ds hg
      have old := sr.ok i _ ((hP i _ hg).2 List.mem_cons_self)
      have ok := slot_new e (.inr ⟨ds, rfl⟩) old
      rw [hvD] at ok
      have same : g.set i (.sc ds) = g := by
        have hlt := lt_of hg
        rw [List.getElem?_eq_getElem hlt] at hg
        rw [← Option.some.inj hg]
        exact List.set_getElem_self hlt
      exact rec' (lt_of hg) ok (by rw [same]; exact hb)
    · cases hb

/-- what a call of a def wants, from the machine's answer -/
theorem call_post {Γ : Call} {fno : Nat} {ar : Nat} {rs : List Ar} {r : Out Val × Sg} {vs : List V} (sr : SR X.K β G H g σ) (ha : ArsOk X.K (Bh G H) σ rs vs) (hc : callR Γ fno rs g = some r) (har : vs.length = ar) (post : Pv X exs β σ G H Q W r) :
    ∃ E, spF X.K exs ar (Γ fno) vs H Q E ∧ ∀ (pins : List (Addr × Obj)) (s : Shared) (e : Value) (s' : Shared), Inv X pins σ H s → L2.CX X.prog X.w X.stack H s E e s' → X.xe e s' := by
  unfold callR at hc
  split at hc
  · rename_i nd
    obtain ⟨xs, hxs, hc⟩ := Option.bind_eq_some_iff.mp hc
    obtain ⟨⟨o, ms⟩, ho, hc⟩ := Option.bind_eq_some_iff.mp hc
    obtain ⟨g2, hg2, rfl⟩ := Option.map_eq_some_iff.mp hc
    have ao : ArgsOk X.K (callee rs G) H 0 xs vs := args_ok sr nd (pre := []) rfl ha hxs
    have tg : Tagd (callee rs G) H := fun a h => sr.tag a fun z => h (callee_un.mpr z)
    have back : ∀ H' G', Ext (callee rs G) H G' H' → Tagd G' H' → OutsOk X.K G' H' 0 ms vs → SR X.K β (caller G G') H' g2 σ := fun H' G' e t oo => by
      obtain ⟨h1, h2⟩ := back_ok sr e nd (suf := rs) (pre := []) rfl ha oo hg2 rfl fun j s q => ⟨fun hj => slot_new e (.inl hj) (sr.ok j s q), fun _ => q⟩
      exact ⟨h1.trans sr.len, h2, caller_tag t⟩
    cases o with
    | ok x =>
      refine ⟨fun _ _ _ => False, ⟨_, xs, .ok x, ms, har, tg, ao, ho, fun H' G' e t oo v hv => ?_⟩, fun pins s e s' I c => ?_⟩
      · exact post v H' _ (caller_ext e) (back H' G' e t oo) (caller_val e hv)
      · exact passL (X := X) pins σ H s e s' I c
    | ex x =>
      obtain ⟨tk, q⟩ := post
      refine ⟨fun cls dd H' => W cls dd σ H', ⟨_, xs, .ex x, ms, har, tg, ao, ho, fun H' G' e t oo cls dd hx => ?_⟩, fun pins s e s' I c => ?_⟩
      · exact q cls dd H' _ (caller_ext e) (back H' G' e t oo) hx
      · exact tk e s' (XE.of_call I (fun _ _ _ h => h) c)
  · cases hc
theorem ArsOk.length {K : PySem.W.Frag} {B : Hp} : ∀ {rs : List Ar} {vs : List V}, ArsOk K B σ rs vs → vs.length = rs.length
  | [], [], _ => rfl
  | [], _ :: _, h => h.elim
  | _ :: _, [], h => h.elim
  | _ :: _, _ :: _, h => congrArg (· + 1) (ArsOk.length h.2)
theorem snd_call {Γ : Call} {fno : Nat} {i : FnI} {fs : Sg → R (List Ar)} {p : Pos} (F : FnAt X Γ exs fno i) (gd : X.A.guards = some []) (hg : Gl X i.name) (hd : (i.name == ("__debug__" : Str)) = false)
    (h1 : notStar e = true) (hn : es.all notStar = true) (hs : SndR X exs (e :: es) fs) : Snd X exs (.Call (.Name i.name p) (e :: es) [] pos) fun g => bnd (fs g) fun rs g => if rs.length = i.ps.length then callR Γ fno rs g else none :=
  fun β g r hr σ H G Q W sr post => by
  obtain ⟨a, fd, k, hm, hk, hb, hrm, hf⟩ := F.ex
  refine we_call hf hrm gd hb hg hm hk hd h1 hn ?_
  refine hs.use hr sr post.ex fun rs g1 h1 vs H1 G1 e1 s1 r1 => ?_
  split at h1
  · rename_i hl
    refine call_post (W := W) s1 r1 h1 (r1.length.trans hl) ?_
    obtain ⟨o, g2⟩ := r
    cases o with
    | ok y => exact fun v H2 G2 e2 => post v H2 G2 (e1.trans e2)
    | ex y => exact PX.next post e1
  · cases h1
theorem snd_call0 {Γ : Call} {fno : Nat} {i : FnI} {p : Pos} (F : FnAt X Γ exs fno i) (gd : X.A.guards = some []) (hg : Gl X i.name) (hd : (i.name == ("__debug__" : Str)) = false) :
    Snd X exs (.Call (.Name i.name p) [] [] pos) fun g => if 0 = i.ps.length then callR Γ fno [] g else none :=
  fun β g r hr σ H G Q W sr post => by
  obtain ⟨a, fd, k, hm, hk, hb, hrm, hf⟩ := F.ex
  dsimp only at hr
  split at hr
  · rename_i hl
    refine we_call0 hf hrm gd hb hg hm hk hd ?_
    exact call_post sr (rs := []) (vs := []) trivial hr hl post
  · cases hr

/-! ### built-ins -/
def b1N : B1 → Str
  | .len => "len"
  | .sum => "sum"
  | .max => "max"
  | .min => "min"
  | .all => "all"
  | .any => "any"
  | .int => "int"
  | .str => "str"
  | .repr => "repr"
  | .tuple => "tuple"
  | .list => "list"
  | .bool => "bool"
  | .abs => "abs"
  | .sorted => "sorted"
theorem boot_b1 (o : B1) : bootBuiltins (b1N o) = some (b1F o) := by
  cases o <;> decide +kernel
theorem snd_b1 {a : Expr} {fa : Sg → R Val} {p : Pos} (hc : X.calm = true) (hgd : X.A.guards = some []) (hu : X.A.units + 64 < cLine) (o : B1) (hg : Gl X (b1N o)) (hm : X.mg (b1N o) = none) (h1 : notStar a = true) (ha : Snd X exs a fa) :
    Snd X exs (.Call (.Name (b1N o) p) [a] [] pos) fun g => bnd (fa g) fun x g => opt (b1D o x.toD) g :=
  fun β g r hr σ H G Q W sr post => by
  have rd : tCB (rB1 X.K o) (tCons (WE X a) tNil) σ H Q := by
    refine ha.useD hr sr post.ex fun x g1 h1 v H1 G1 e1 s1 r1 => ?_
    obtain ⟨z, hz, rfl⟩ := opt_some h1
    exact ⟨v, G1, _, z, rfl, s1.tag, r1, hz, fun u H' G' gr rv => post u H' G' (e1.trans gr.toExt) (s1.grow gr) rv⟩
  have n1 : b1N o ≠ "__name__" := by cases o <;> decide +kernel
  have n2 : (b1N o == ("__debug__" : Str)) = false := by cases o <;> decide +kernel
  have st : starEach [a] X.env = (false, eval a X.env) :: starEach [] X.env := star_of h1
  have cr := cr_b1 hc hgd hu o
  have bo := boot_b1 o
  cases o
  all_goals first
    | exact we_of (pe_callB cr hg hm bo (pa_cons we_max pa_nil st) n1 n2 st rfl) rd
    | exact we_of (pe_callTy cr hg hm bo (pa_cons we_max pa_nil st) n1 n2 st rfl) rd
def b2N : B2 → Str
  | .max => "max"
  | .min => "min"
theorem boot_b2 (o : B2) : bootBuiltins (b2N o) = some (b2F o) := by
  cases o <;> decide +kernel
theorem snd_b2 {a b : Expr} {fa fb : Sg → R Val} {p : Pos} (hc : X.calm = true) (o : B2) (hg : Gl X (b2N o)) (hm : X.mg (b2N o) = none) (h1 : notStar a = true) (h2 : notStar b = true) (ha : Snd X exs a fa) (hb : Snd X exs b fb) :
    Snd X exs (.Call (.Name (b2N o) p) [a, b] [] pos) fun g => bnd (fa g) fun x g => bnd (fb g) fun y g => opt ((b2D o x.toD y.toD).map .v) g :=
  fun β g r hr σ H G Q W sr post => by
  have rd : tCB (rB2 X.K o) (tCons (WE X a) (tCons (WE X b) tNil)) σ H Q := by
    refine ha.useD hr sr post.ex fun x g1 h1 v H1 G1 e1 s1 r1 => ?_
    refine hb.useD h1 s1 (exNext post.ex e1) fun y g2 h2 w H2 G2 e2 s2 r2 => ?_
    obtain ⟨z, hz, rfl⟩ := opt_some h2
    obtain ⟨k, hk, rfl⟩ := Option.map_eq_some_iff.mp hz
    exact ⟨v, w, _, _, _, k, rfl, r1.mono e2.same, r2, hk, fun u ru => post u H2 G2 (e1.trans e2) s2 (ru.mono (by
      exact fun _ _ h => h))⟩
  have st2 : starEach [b] X.env = (false, eval b X.env) :: starEach [] X.env := star_of h2
  have st : starEach [a, b] X.env = (false, eval a X.env) :: starEach [b] X.env := star_of h1
  have cr := cr_b2 hc o
  have bo := boot_b2 o
  have n1 : b2N o ≠ "__name__" := by cases o <;> decide +kernel
  have n2 : (b2N o == ("__debug__" : Str)) = false := by cases o <;> decide +kernel
  have ns : (backTo pos (starEach [b] X.env)).any (·.1) = false := by
    rw [st2]
    rfl
  cases o
  all_goals exact we_of (pe_callB cr hg hm bo (pa_cons we_max (pa_cons we_max pa_nil st2) st) n1 n2 st ns) rd
def tyN : Ty → Str
  | .int => "int"
  | .bool => "bool"
  | .tuple => "tuple"
  | .list => "list"
  | .str => "str"
  | .dict => "dict"
theorem boot_ty (t : Ty) : bootBuiltins (tyN t) = some (.type (tyName t)) := by
  cases t <;> decide +kernel
theorem snd_isi {a : Expr} {fa : Sg → R Val} {p p2 : Pos} (t : Ty) (hg : Gl X "isinstance") (hm : X.mg "isinstance" = none) (hg2 : Gl X (tyN t)) (hm2 : X.mg (tyN t) = none) (h1 : notStar a = true) (ha : Snd X exs a fa) :
    Snd X exs (.Call (.Name "isinstance" p) [a, .Name (tyN t) p2] [] pos) fun g => bnd (fa g) fun x g => ret (.v (.bool (isiD x.toD t))) g :=
  fun β g r hr σ H G Q W sr post => by
  have st : starEach [a, .Name (tyN t) p2] X.env = (false, eval a X.env) :: starEach [.Name (tyN t) p2] X.env := star_of h1
  have n1 : tyN t ≠ "__name__" := by cases t <;> decide +kernel
  have n2 : (tyN t == ("__debug__" : Str)) = false := by cases t <;> decide +kernel
  refine we_of (pe_callB (cr_isi t) hg hm (by decide +kernel) (pa_cons we_max (pa_cons (pe_bltn (v := .ty (tyName t)) hg2 hm2 (boot_ty t) rfl n1 n2) pa_nil) st) (by decide +kernel) (by decide +kernel) st rfl) ?_
  refine ha.useD hr sr post.ex fun x g1 h1 v H1 G1 e1 s1 r1 => ?_
  rw [ret_some h1] at post
  exact ⟨v, _, G1, _, rfl, rfl, r1, post _ H1 G1 e1 s1 (.bl _)⟩
end
end Z

/-! Z6: targets, what is walked, comprehensions. -/
namespace Z
open PySem PySem.Spec PyProof.Rows L2

/-! ### targets -/
def tgsLen : Tgs → Nat
  | .nil => 0
  | .cons _ ts => tgsLen ts + 1
mutual
def tgRd (K : PySem.W.Frag) : Tg → TG
  | .n i => gName i
  | .t ts => gTup K (tgsLen ts) (tgsRd K ts)
def tgsRd (K : PySem.W.Frag) : Tgs → TGs
  | .nil => gNil
  | .cons t ts => gCons (tgRd K t) (tgsRd K ts)
end
mutual
def tgIx : Tg → List Nat
  | .n i => [i]
  | .t ts => tgsIx ts
def tgsIx : Tgs → List Nat
  | .nil => []
  | .cons t ts => tgIx t ++ tgsIx ts
end
mutual
def chkTg (asn : Str → Bool) (N : List Str) : Tg → Expr → Bool
  | .n i, e => match e with
    | .Name x _ => decide (N[i]? = some x) && asn x
    | _ => false
  | .t ts, e => match e with
    | .Tuple es _ _ => chkTgs asn N ts es
    | _ => false
def chkTgs (asn : Str → Bool) (N : List Str) : Tgs → List Expr → Bool
  | .nil, es => es.isEmpty
  | .cons t ts, es => match es with
    | e :: es => chkTg asn N t e && chkTgs asn N ts es
    | [] => false
end
section
variable {X : Cx} {asn : Str → Bool}
theorem each_cons {e : Expr} {es : List Expr} {env : Env} (h : notStar e = true) : assignEach (e :: es) env = (false, assign e env) :: assignEach es env := by
  cases e <;> first | rfl | (simp [notStar] at h)
theorem tg_notStar {N : List Str} {t : Tg} {e : Expr} (h : chkTg asn N t e = true) : notStar e = true := by
  cases t <;> cases e <;> first | rfl | (simp [chkTg] at h)
mutual
theorem pg_of (hc : X.calm = true) (nd : X.N.Nodup) (ha : ∀ x, asn x = true → L2.Loc X.env.scope x ∧ (X.fn x = true ∨ X.env.scope.names.lookup x = some .local)) : ∀ (t : Tg) (e : Expr), chkTg asn X.N t e = true → PG X e (tgRd X.K t)
  | .n i, e, h => by
    cases e <;> simp only [chkTg, Bool.and_eq_true, decide_eq_true_eq] at h <;> first | cases h | skip
    rename_i x p h1 h2
    obtain ⟨q1, q2⟩ := ha x h2
    exact pg_name nd h1 q1 q2
  | .t ts, e, h => by
    cases e <;> simp only [chkTg] at h <;> first | cases h | skip
    rename_i es k p
    obtain ⟨p1, p2, p3⟩ := pgs_of hc nd ha ts es h
    exact pg_tup hc p1 p2 p3
theorem pgs_of (hc : X.calm = true) (nd : X.N.Nodup) (ha : ∀ x, asn x = true → L2.Loc X.env.scope x ∧ (X.fn x = true ∨ X.env.scope.names.lookup x = some .local)) : ∀ (ts : Tgs) (es : List Expr), chkTgs asn X.N ts es = true →
    PGs X es (tgsRd X.K ts) ∧ (assignEach es X.env).length = tgsLen ts ∧ (assignEach es X.env).findIdx? (·.1) = none
  | .nil, es, h => by
    simp only [chkTgs, List.isEmpty_iff] at h
    subst h
    exact ⟨pgs_nil, rfl, rfl⟩
  | .cons t ts, [], h => by cases h
  | .cons t ts, e :: es, h => by
    simp only [chkTgs, Bool.and_eq_true] at h
    have h1 := pg_of hc nd ha t e h.1
    obtain ⟨p1, p2, p3⟩ := pgs_of hc nd ha ts es h.2
    have q := each_cons (es := es) (env := X.env) (tg_notStar h.1)
    refine ⟨pgs_cons h1 p1 (by rw [q]; rfl), ?_, ?_⟩
    · rw [q, List.length_cons, p2]
      rfl
    · rw [q, List.findIdx?_cons]
      simp [p3]
end
end
section
variable {K : PySem.W.Frag} {β : Nat → Option Addr} {G : Gh} {H : Hp}
theorem setG_some {g g' : Sg} {i : Nat} {x : Sl} (h : setG g i x = some g') : i < g.length ∧ isBo g[i]? = false ∧ g' = g.set i x := by
  unfold setG at h
  split at h
  · rename_i q
    cases h
    exact ⟨q.1, q.2, rfl⟩
  · cases h
theorem SR.put {g : Sg} {σ : L2.St} {i : Nat} {s : Sl} {v : V} (sr : SR K β G H g σ) (ok : SlOk K β G H i s (some v)) : SR K β G H (g.set i s) (σ.set i (some v)) := by
  refine ⟨by rw [List.length_set, List.length_set]; exact sr.len, fun j t q => ?_, sr.tag⟩
  by_cases hj : i = j
  · subst hj
    by_cases hl : i < g.length
    · rw [List.getElem?_set_self hl] at q
      cases q
      rw [List.getD_eq_getElem?_getD, List.getElem?_set_self (by rw [← sr.len]; exact hl)]
      exact ok
    · rw [List.getElem?_eq_none (by rw [List.length_set]; omega)] at q
      cases q
  · rw [List.getElem?_set_ne hj] at q
    have := sr.ok j t q
    rw [List.getD_eq_getElem?_getD, List.getElem?_set_ne hj, ← List.getD_eq_getElem?_getD]
    exact this
mutual
theorem asg_ok : ∀ (t : Tg) {d : D} {g g' : Sg} {σ : L2.St} {v : V}, asg t d g = some g' → SR K β G H g σ → Rp K (Bh G H) v d →
    tgRd K t v σ H fun σ' H' => H' = H ∧ SR K β G H g' σ' ∧ ∀ j, j ∉ tgIx t → σ'[j]? = σ[j]?
  | .n i, d, g, g', σ, v, h, sr, r => by
    obtain ⟨_, _, rfl⟩ := setG_some h
    exact ⟨rfl, sr.put ⟨v, rfl, r⟩, fun j hj => List.getElem?_set_ne fun z => hj (by rw [← z]; exact List.mem_singleton.mpr rfl)⟩
  | .t ts, d, g, g', σ, v, h, sr, r => by
    cases d with
    | tuple ds =>
      obtain ⟨a, xs, rfl, ha, ra⟩ := rp_tup r
      obtain ⟨hl, q⟩ := asgs_ok ts (ds := ds) (g' := g') (σ := σ) (vs := xs) h sr ra
      exact ⟨a, xs, rfl, ha, ra.length.trans hl, q⟩
    | none => cases h
    | bool _ => cases h
    | int _ => cases h
    | str _ => cases h
    | list _ => cases h
    | dict _ => cases h
theorem asgs_ok : ∀ (ts : Tgs) {ds : List D} {g g' : Sg} {σ : L2.St} {vs : List V}, asgs ts ds g = some g' → SR K β G H g σ → RpAll K (Bh G H) vs ds →
    ds.length = tgsLen ts ∧ tgsRd K ts vs σ H fun σ' H' => H' = H ∧ SR K β G H g' σ' ∧ ∀ j, j ∉ tgsIx ts → σ'[j]? = σ[j]?
  | .nil, [], g, g', σ, vs, h, sr, r => by
    cases r
    cases h
    exact ⟨rfl, rfl, rfl, sr, fun _ _ => rfl⟩
  | .nil, _ :: _, g, g', σ, vs, h, sr, r => by cases h
  | .cons t ts, [], g, g', σ, vs, h, sr, r => by cases h
  | .cons t ts, d :: ds, g, g', σ, vs, h, sr, r => by
    cases r with
    | cons r1 r2 =>
      rename_i v vs
      obtain ⟨g1, h1, h2⟩ := Option.bind_eq_some_iff.mp h
      have q1 := asg_ok t h1 sr r1
      have len : ds.length = tgsLen ts := asgs_len ts h2
      refine ⟨by rw [List.length_cons, len]; rfl, v, vs, rfl, ?_⟩
      refine tg_imp t (fun σ' H' q => ?_) q1
      obtain ⟨e1, s1, u1⟩ := q
      obtain ⟨_, q2⟩ := asgs_ok ts h2 s1 r2
      rw [e1]
      refine tgs_imp ts (fun σ2 H2 q => ?_) q2
      obtain ⟨e2, s2, u2⟩ := q
      exact ⟨e2, s2, fun j hj => (u2 j fun z => hj (List.mem_append_right _ z)).trans (u1 j fun z => hj (List.mem_append_left _ z))⟩
theorem asgs_len : ∀ (ts : Tgs) {ds : List D} {g g' : Sg}, asgs ts ds g = some g' → ds.length = tgsLen ts
  | .nil, [], g, g', h => rfl
  | .nil, _ :: _, g, g', h => by cases h
  | .cons t ts, [], g, g', h => by cases h
  | .cons t ts, d :: ds, g, g', h => by
    obtain ⟨g1, h1, h2⟩ := Option.bind_eq_some_iff.mp h
    exact congrArg (· + 1) (asgs_len ts h2)
theorem tg_imp : ∀ (t : Tg) {v : V} {σ : L2.St} {H : Hp} {Q Q' : L2.St → Hp → Prop}, (∀ σ H, Q σ H → Q' σ H) → tgRd K t v σ H Q → tgRd K t v σ H Q'
  | .n i, v, σ, H, Q, Q', h, q => h _ _ q
  | .t ts, v, σ, H, Q, Q', h, q => by
    obtain ⟨a, xs, e, ha, hl, q⟩ := q
    exact ⟨a, xs, e, ha, hl, tgs_imp ts h q⟩
theorem tgs_imp : ∀ (ts : Tgs) {vs : List V} {σ : L2.St} {H : Hp} {Q Q' : L2.St → Hp → Prop}, (∀ σ H, Q σ H → Q' σ H) → tgsRd K ts vs σ H Q → tgsRd K ts vs σ H Q'
  | .nil, vs, σ, H, Q, Q', h, q => ⟨q.1, h _ _ q.2⟩
  | .cons t ts, vs, σ, H, Q, Q', h, q => by
    obtain ⟨v, r, e, q⟩ := q
    exact ⟨v, r, e, tg_imp t (fun σ' H' q => tgs_imp ts h q) q⟩
end
end

/-! ### what is walked -/
/-- the items come one by one, whatever else is done meanwhile -/
def ItOk (K : PySem.W.Frag) (B1 : Hp) (J : It) (ds : List D) : Prop := ∀ i G H, Same B1 (Bh G H) → Tagd G H →
  (∀ d, ds[i]? = some d → J.go i H ∧ ∀ x H', J.yld i H x H' → ∃ G', Grow G H G' H' ∧ Rp K (Bh G' H') x d) ∧ (ds.length ≤ i → J.stop i H)
theorem it_list {K : PySem.W.Frag} {B : Hp} {a : Addr} {vs : List V} {ds : List D} (h : B a = some (.lst vs)) (r : RpAll K B vs ds) : ItOk K B (Itl K a) ds := fun i G H s t => by
  have hq : SqL K H a vs := SqL.of (Bh.same _ _ (s _ _ h))
  refine ⟨fun d e => ?_, fun hl => ⟨vs, hq, by rw [r.length]; exact hl⟩⟩
  obtain ⟨v, hv, rv⟩ := r.get e
  refine ⟨⟨vs, v, hq, hv⟩, fun x H' y => ?_⟩
  obtain ⟨rfl, f⟩ := y
  have e2 := f vs hq
  rw [hv] at e2
  cases e2
  exact ⟨G, Grow.refl t, rv.mono s⟩
theorem it_tup {K : PySem.W.Frag} {B : Hp} {a : Addr} {vs : List V} {ds : List D} (h : SqT K B a vs) (r : RpAll K B vs ds) : ItOk K B (Itt K a) ds := fun i G H s t => by
  have hq : SqT K H a vs := sqt_mono Bh.same (sqt_mono s h)
  refine ⟨fun d e => ?_, fun hl => ⟨vs, hq, by rw [r.length]; exact hl⟩⟩
  obtain ⟨v, hv, rv⟩ := r.get e
  refine ⟨⟨vs, v, hq, hv⟩, fun x H' y => ?_⟩
  obtain ⟨rfl, f⟩ := y
  have e2 := f vs hq
  rw [hv] at e2
  cases e2
  exact ⟨G, Grow.refl t, rv.mono s⟩
theorem rngL_length (lo : Int) (n : Nat) : (rngL lo n).length = n := by
  unfold rngL
  rw [List.length_map, List.length_range]
theorem it_rng {K : PySem.W.Frag} {B : Hp} {lo : Int} {n : Nat} : ItOk K B (Itr lo n) (rngL lo n) := fun i G H s t => by
  refine ⟨fun d e => ?_, fun hl => by rw [rngL_length] at hl; exact hl⟩
  unfold rngL at e
  rw [List.getElem?_map] at e
  obtain ⟨k, hk, rfl⟩ := Option.map_eq_some_iff.mp e
  have hl : i < n := by
    rcases Nat.lt_or_ge i n with z | z
    · exact z
    · rw [List.getElem?_eq_none (by rw [List.length_range]; exact z)] at hk
      cases hk
  rw [List.getElem?_range hl] at hk
  cases hk
  refine ⟨hl, fun x H' y => ?_⟩
  obtain ⟨rfl, rfl⟩ := y
  exact ⟨G, Grow.refl t, .int _⟩
section
variable (X : Cx) (exs : Nat → Option Addr)
def WI (tg iter : Expr) : TI := fun σ H Rr => ∃ wi, PI X tg iter wi ∧ wi σ H Rr
def Pi (β : Nat → Option Addr) (σ : L2.St) (G : Gh) (H : Hp) (Q : It → Hp → Prop) (W : WX) : Out (List D) × Sg → Prop
  | (.ok ds, g') => ∀ J H' G', Ext G H G' H' → SR X.K β G' H' g' σ → ItOk X.K (Bh G' H') J ds → Q J H'
  | (.ex x, g') => PX X exs β σ G H W x g'
def SndI (tg iter : Expr) (f : Sg → R (List D)) : Prop := ∀ β g r, f g = some r → ∀ σ H G Q W, SR X.K β G H g σ → Pi X exs β σ G H Q W r → WI X tg iter σ H Q
end
section
variable {X : Cx} {exs : Nat → Option Addr} {β : Nat → Option Addr} {σ : L2.St} {G G1 : Gh} {H H1 : Hp} {W : WX} {e tg : Expr} {f : Sg → R Val} {g g1 : Sg} {pos : Pos} {es : List Expr}
theorem wi_max {iter : Expr} : PI X tg iter (WI X tg iter) := ⟨fun pins s σ H Rr I ⟨wi, h, q⟩ => h.run pins s σ H Rr I q⟩
theorem Pi.ex {Q : It → Hp → Prop} {r : Out (List D) × Sg} (h : Pi X exs β σ G H Q W r) : ∀ x g', r = (.ex x, g') → PX X exs β σ G H W x g' := fun x g' e => by
  subst e
  exact h
theorem sndI_seq (ha : Snd X exs e f) : SndI X exs tg e fun g => bnd (f g) fun x g => opt (seqD x.toD) g := fun β g r hr σ H G Q W sr post => by
  have hr' : bnd (f g) (fun x g => opt (seqD x.toD) g) = some r := hr
  cases q : f g with
  | none =>
    rw [q] at hr'
    cases hr'
  | some z =>
    obtain ⟨o, g1⟩ := z
    cases o with
    | ex x =>
      rw [q] at hr'
      cases hr'
      exact ⟨_, pi_list we_max, ha β g _ q σ H G _ W sr post⟩
    | ok x =>
      have hx : opt (seqD x.toD) g1 = some r := by
        rw [q] at hr'
        exact hr'
      obtain ⟨ds, hd, rfl⟩ := opt_some hx
      have go : ∀ {Q' : VK}, (∀ v H1 G1, Ext G H G1 H1 → SR X.K β G1 H1 g1 σ → Rp X.K (Bh G1 H1) v x.toD → Q' v H1) → WE X e σ H Q' := fun {Q'} hq =>
        ha β g _ q σ H G Q' W sr fun v H1 G1 e1 s1 r1 => by
          obtain ⟨G2, r2, w⟩ := r1.rp s1.tag
          exact hq v H1 G2 (e1.trans w.toExt) (s1.grow w) r2
      unfold seqD at hd
      split at hd
      · rename_i xs ex
        cases hd
        refine ⟨_, pi_list we_max, go fun v H1 G1 e1 s1 r1 => ?_⟩
        rw [ex] at r1
        cases r1 with
        | lst h2 r2 => exact ⟨_, rfl, ⟨_, SqL.of (Bh.same _ _ h2)⟩, post _ H1 G1 e1 s1 (it_list h2 r2)⟩
      · rename_i xs ex
        cases hd
        refine ⟨_, pi_tup we_max, go fun v H1 G1 e1 s1 r1 => ?_⟩
        rw [ex] at r1
        cases r1 with
        | tup h2 r2 => exact ⟨_, rfl, ⟨_, sqt_mono Bh.same h2⟩, post _ H1 G1 e1 s1 (it_tup h2 r2)⟩
      · cases hd
theorem sndI_rng1 {p : Pos} (hg : Gl X "range") (hm : X.mg "range" = none) (hn : notStar e = true) (ha : Snd X exs e f) : SndI X exs tg (.Call (.Name "range" p) [e] [] pos) fun g => bnd (f g) fun x g => match x with
    | .v (.int j) => if rngOk j then ret (rngL 0 j.toNat) g else none
    | _ => none := fun β g r hr σ H G Q W sr post => by
  have st : starEach [e] X.env = [(false, eval e X.env)] := star_of hn
  refine ⟨_, pi_range1 hg hm (pa_cons we_max pa_nil st) st, ?_⟩
  refine ha.useD hr sr post.ex fun x g1 h1 v H1 G1 e1 s1 r1 => ?_
  split at h1
  · split at h1
    · rename_i hk
      rw [ret_some h1] at post
      unfold rngOk at hk
      simp only [Bool.and_eq_true, decide_eq_true_eq] at hk
      exact ⟨_, by rw [rp_int r1], hk.1, hk.2, post _ H1 G1 e1 s1 it_rng⟩
    · cases h1
  · cases h1
theorem sndI_rng2 {e2 : Expr} {f2 : Sg → R Val} {p : Pos} (hg : Gl X "range") (hm : X.mg "range" = none) (hn : notStar e = true) (hn2 : notStar e2 = true) (ha : Snd X exs e f) (hb : Snd X exs e2 f2) :
    SndI X exs tg (.Call (.Name "range" p) [e, e2] [] pos) fun g => bnd (f g) fun x g => bnd (f2 g) fun y g => match x, y with
      | .v (.int i), .v (.int j) => if rngOk i && rngOk j then ret (rngL i (j - i).toNat) g else none
      | _, _ => none := fun β g r hr σ H G Q W sr post => by
  have st2 : starEach [e2] X.env = [(false, eval e2 X.env)] := star_of hn2
  have st : starEach [e, e2] X.env = [(false, eval e X.env), (false, eval e2 X.env)] := by rw [star_of hn, st2]
  refine ⟨_, pi_range2 hg hm (pa_cons we_max (pa_cons we_max pa_nil st2) (by rw [st, st2])) st st2, ?_⟩
  refine ha.useD hr sr post.ex fun x g1 h1 v H1 G1 e1 s1 r1 => ?_
  refine hb.useD h1 s1 (exNext post.ex e1) fun y g2 h2 w H2 G2 e2 s2 r2 => ?_
  split at h2
  · split at h2
    · rename_i hk
      rw [ret_some h2] at post
      unfold rngOk at hk
      simp only [Bool.and_eq_true, decide_eq_true_eq] at hk
      exact ⟨_, _, by rw [rp_int r1, rp_int r2], ⟨hk.1.1, hk.1.2, hk.2.1, hk.2.2⟩, post _ H2 G2 (e1.trans e2) s2 it_rng⟩
    · cases h2
  · cases h2

/-! ### comprehensions -/
theorem wipe_in {i : Nat} : ∀ {vs : List Nat} {σ : L2.St}, i ∈ vs → i < σ.length → (wipe σ vs)[i]? = some none
  | [], σ, h, _ => nomatch h
  | v :: vs, σ, h, hl => by
    unfold wipe
    by_cases e : v = i
    · subst e
      rw [List.getElem?_set_self (by rw [wipe_length]; exact hl)]
    · rw [List.getElem?_set_ne e]
      rcases List.mem_cons.mp h with z | z
      · exact absurd z.symm e
      · exact wipe_in z hl
theorem wipe_eq {σ σ2 : L2.St} {vs : List Nat} (hl : σ2.length = σ.length) (h : ∀ j, j ∉ vs → σ2[j]? = σ[j]?) : wipe σ2 vs = wipe σ vs := by
  apply List.ext_getElem?
  intro j
  by_cases hj : j ∈ vs
  · by_cases q : j < σ.length
    · rw [wipe_in hj q, wipe_in hj (by rw [hl]; exact q)]
    · rw [List.getElem?_eq_none (by rw [wipe_length]; omega), List.getElem?_eq_none (by rw [wipe_length]; omega)]
  · rw [wipe_out hj, wipe_out hj, h j hj]
theorem wipe_idem {σ : L2.St} {vs : List Nat} : wipe (wipe σ vs) vs = wipe σ vs := wipe_eq (wipe_length _ _) fun j hj => wipe_out hj
theorem wipeG_length (g : Sg) : ∀ own : List Nat, (wipeG g own).length = g.length
  | [] => rfl
  | i :: r => by
    unfold wipeG
    rw [List.length_set, wipeG_length g r]
theorem wipeG_out {g : Sg} {i : Nat} : ∀ {own : List Nat}, i ∉ own → (wipeG g own)[i]? = g[i]?
  | [], _ => rfl
  | v :: vs, h => by
    unfold wipeG
    rw [List.getElem?_set_ne (fun e => h (by rw [e]; exact List.mem_cons_self)), wipeG_out fun m => h (List.mem_cons_of_mem _ m)]
theorem wipeG_in {g : Sg} {i : Nat} : ∀ {own : List Nat}, i ∈ own → i < g.length → (wipeG g own)[i]? = some .no
  | [], h, _ => nomatch h
  | v :: vs, h, hl => by
    unfold wipeG
    by_cases e : v = i
    · subst e
      rw [List.getElem?_set_self (by rw [wipeG_length]; exact hl)]
    · rw [List.getElem?_set_ne e]
      rcases List.mem_cons.mp h with z | z
      · exact absurd z.symm e
      · exact wipeG_in z hl
theorem restG_length (g0 g : Sg) : ∀ own : List Nat, (restG g0 g own).length = g.length
  | [] => rfl
  | i :: r => by
    unfold restG
    rw [List.length_set, restG_length g0 g r]
theorem restG_out {g0 g : Sg} {i : Nat} : ∀ {own : List Nat}, i ∉ own → (restG g0 g own)[i]? = g[i]?
  | [], _ => rfl
  | v :: vs, h => by
    unfold restG
    rw [List.getElem?_set_ne (fun e => h (by rw [e]; exact List.mem_cons_self)), restG_out fun m => h (List.mem_cons_of_mem _ m)]
theorem restG_in {g0 g : Sg} {i : Nat} : ∀ {own : List Nat}, i ∈ own → i < g.length → (restG g0 g own)[i]? = some (g0.getD i .no)
  | [], h, _ => nomatch h
  | v :: vs, h, hl => by
    unfold restG
    by_cases e : v = i
    · subst e
      rw [List.getElem?_set_self (by rw [restG_length]; exact hl)]
    · rw [List.getElem?_set_ne e]
      rcases List.mem_cons.mp h with z | z
      · exact absurd z.symm e
      · exact restG_in z hl
theorem get_lt {α : Type} {l : List α} {i : Nat} {x : α} (h : l[i]? = some x) : i < l.length := by
  rcases Nat.lt_or_ge i l.length with z | z
  · exact z
  · rw [List.getElem?_eq_none z] at h
    cases h
theorem SR.wipe {K : PySem.W.Frag} {own : List Nat} (sr : SR K β G H g σ) : SR K β G H (wipeG g own) (wipe σ own) := by
  refine ⟨by rw [wipeG_length, wipe_length]; exact sr.len, fun j s q => ?_, sr.tag⟩
  by_cases hj : j ∈ own
  · rw [wipeG_in hj (by have := get_lt q; rw [wipeG_length] at this; exact this)] at q
    cases q
    trivial
  · rw [wipeG_out hj] at q
    rw [List.getD_eq_getElem?_getD, wipe_out hj, ← List.getD_eq_getElem?_getD]
    exact sr.ok j s q
/-- a new list under construction stands at D: nobody else may touch it -/
theorem SR.with_fr {K : PySem.W.Frag} {Da : Addr} {o : HO} (sr : SR K β G H g σ) (hD : G Da = .fr) : SR K β G (upd H Da o) g σ ∧ Same (Bh G H) (Bh G (upd H Da o)) := by
  have ne : ∀ a, G a ≠ .fr → a ≠ Da := fun a h e => h (e ▸ hD)
  have sm : Same (Bh G H) (Bh G (upd H Da o)) := fun a u h => by
    unfold Bh at h ⊢
    by_cases q : G a = .st
    · rw [if_pos q] at h ⊢
      rw [upd_ne (ne a (by rw [q]; exact fun z => nomatch z))]
      exact h
    · rw [if_neg q] at h
      cases h
  refine ⟨⟨sr.len, fun j s q => (sr.ok j s q).keep sm fun a z => ⟨z, upd_ne (ne a (by rw [z]; exact fun w => nomatch w))⟩, fun a h => ?_⟩, sm⟩
  by_cases e : a = Da
  · rw [e, upd_same]
    exact fun z => nomatch z
  · rw [upd_ne e]
    exact sr.tag a h
/-- from (G, H) on, the list at D set aside -/
structure Aside (Da : Addr) (G1 : Gh) (H1 : Hp) (G : Gh) (H : Hp) : Prop where
  ext : Ext G1 H1 (tagAt G Da .un) H
  fr : G Da = .fr
theorem Aside.start (t : Tagd G H) {Da : Addr} (hD : H Da = none) (o : HO) : Aside Da G H (tagAt G Da .fr) (upd H Da o) := by
  have u := t.un hD
  have ne : ∀ a, G a ≠ .un → a ≠ Da := fun a h e => h (e ▸ u)
  refine ⟨⟨fun a h => ?_, fun a h => ?_, fun a h => ?_⟩, tagAt_same⟩
  · have q := ne a (by rw [h]; exact fun z => nomatch z)
    exact ⟨by rw [tagAt_ne q, tagAt_ne q]; exact h, upd_ne q⟩
  · have q := ne a (by rw [h]; exact fun z => nomatch z)
    exact ⟨by rw [tagAt_ne q, tagAt_ne q]; exact h, upd_ne q⟩
  · by_cases e : a = Da
    · rw [e, tagAt_same] at h
      cases h
    · rw [tagAt_ne e, tagAt_ne e] at h
      exact h
theorem Aside.next {Da : Addr} {G2 : Gh} {H2 H3 : Hp} (a : Aside Da G1 H1 G H) (e : Ext G H G2 H2) (h : ∀ b, b ≠ Da → H3 b = H2 b) : Aside Da G1 H1 G2 H3 := by
  have f := (e.fr Da a.fr).1
  refine ⟨⟨fun b z => ?_, fun b z => ?_, fun b z => ?_⟩, f⟩
  · obtain ⟨q, w⟩ := a.ext.st b z
    have ne : b ≠ Da := fun e => by
      rw [e, tagAt_same] at q
      cases q
    rw [tagAt_ne ne] at q
    obtain ⟨q2, w2⟩ := e.st b q
    exact ⟨by rw [tagAt_ne ne]; exact q2, by rw [h b ne, w2, w]⟩
  · obtain ⟨q, w⟩ := a.ext.fr b z
    have ne : b ≠ Da := fun e => by
      rw [e, tagAt_same] at q
      cases q
    rw [tagAt_ne ne] at q
    obtain ⟨q2, w2⟩ := e.fr b q
    exact ⟨by rw [tagAt_ne ne]; exact q2, by rw [h b ne, w2, w]⟩
  · by_cases ne : b = Da
    · rw [ne, tagAt_same] at z
      cases z
    · rw [tagAt_ne ne] at z
      exact a.ext.nf b (by rw [tagAt_ne ne]; exact e.nf b z)
theorem Aside.same {Da : Addr} (a : Aside Da G1 H1 G H) : Same (Bh G1 H1) (Bh G H) := fun b o h => by
  have q := a.ext.same b o h
  unfold Bh at q ⊢
  by_cases e : b = Da
  · rw [e, tagAt_same] at q
    rw [if_neg (fun z => nomatch z)] at q
    cases q
  · rw [tagAt_ne e] at q
    exact q
/-- the tests of a clause -/
def WQ (X : Cx) (ifs : List Expr) : TT := fun σ H Q => ∃ tt, PTs X ifs tt ∧ tt σ H Q
theorem wq_max {ifs : List Expr} : PTs X ifs (WQ X ifs) := ⟨fun pins s σ H Q I ⟨tt, h, q⟩ => h.run pins s σ H Q I q⟩
def SndQ (X : Cx) (exs : Nat → Option Addr) (ifs : List Expr) (fq : Sg → R Bool) : Prop :=
  ∀ β g r, fq g = some r → ∀ σ H G Q W, SR X.K β G H g σ → Pt X exs β σ G H Q W r → WQ X ifs σ H Q
theorem sndQ_non : SndQ X exs [] fun g => ret true g := fun β g r hr σ H G Q W sr post => by
  rw [ret_some hr] at post
  exact ⟨_, pts_nil, post H G (.refl _ _) sr⟩
theorem sndQ_som (ha : SndT X exs e (tr f)) : SndQ X exs [e] (tr f) := fun β g r hr σ H G Q W sr post => ⟨_, pts_one wt_max, ha β g r hr σ H G Q W sr post⟩
theorem SndQ.use {γ : Type} {ifs : List Expr} {fq : Sg → R Bool} {k : Bool → Sg → R γ} {r : Out γ × Sg} {Q : Bool → Hp → Prop} (h : SndQ X exs ifs fq) (hr : bnd (fq g) k = some r) (sr : SR X.K β G H g σ) (hx : ∀ x g', r = (.ex x, g') → PX X exs β σ G H W x g')
    (ok : ∀ x g1, k x g1 = some r → ∀ H1 G1, Ext G H G1 H1 → SR X.K β G1 H1 g1 σ → Q x H1) : WQ X ifs σ H Q := by
  cases q : fq g with
  | none =>
    rw [q] at hr
    cases hr
  | some z =>
    obtain ⟨o, g1⟩ := z
    rw [q] at hr
    cases o with
    | ok x => exact h β g _ q σ H G Q W sr fun H1 G1 e1 s1 => ok x g1 hr H1 G1 e1 s1
    | ex x =>
      cases hr
      exact h β g _ q σ H G Q W sr (hx x g1 rfl)
theorem SndI.use {γ : Type} {iter : Expr} {fs : Sg → R (List D)} {k : List D → Sg → R γ} {r : Out γ × Sg} {Q : It → Hp → Prop} (h : SndI X exs tg iter fs) (hr : bnd (fs g) k = some r) (sr : SR X.K β G H g σ) (hx : ∀ x g', r = (.ex x, g') → PX X exs β σ G H W x g')
    (ok : ∀ ds g1, k ds g1 = some r → ∀ J H1 G1, Ext G H G1 H1 → SR X.K β G1 H1 g1 σ → ItOk X.K (Bh G1 H1) J ds → Q J H1) : WI X tg iter σ H Q := by
  cases q : fs g with
  | none =>
    rw [q] at hr
    cases hr
  | some z =>
    obtain ⟨o, g1⟩ := z
    rw [q] at hr
    cases o with
    | ok x => exact h β g _ q σ H G Q W sr fun J H1 G1 e1 s1 r1 => ok x g1 hr J H1 G1 e1 s1 r1
    | ex x =>
      cases hr
      exact h β g _ q σ H G Q W sr (hx x g1 rfl)
mutual
theorem asg_length : ∀ (t : Tg) {d : D} {g g' : Sg}, asg t d g = some g' → g'.length = g.length
  | .n i, d, g, g', h => by
    obtain ⟨_, _, rfl⟩ := setG_some h
    exact List.length_set
  | .t ts, d, g, g', h => by
    cases d with
    | tuple ds => exact asgs_length ts (ds := ds) h
    | none => cases h
    | bool _ => cases h
    | int _ => cases h
    | str _ => cases h
    | list _ => cases h
    | dict _ => cases h
theorem asgs_length : ∀ (ts : Tgs) {ds : List D} {g g' : Sg}, asgs ts ds g = some g' → g'.length = g.length
  | .nil, [], g, g', h => by
    cases h
    rfl
  | .nil, _ :: _, g, g', h => by cases h
  | .cons t ts, [], g, g', h => by cases h
  | .cons t ts, d :: ds, g, g', h => by
    obtain ⟨g1, h1, h2⟩ := Option.bind_eq_some_iff.mp h
    exact (asgs_length ts h2).trans (asg_length t h1)
end
theorem SR.aside {K : PySem.W.Frag} {Da : Addr} {o : HO} (sr : SR K β G H g σ) (hD : H Da = none) : SR K β (tagAt G Da .fr) (upd H Da o) g σ := by
  have u := sr.tag.un hD
  have ne : ∀ a, G a ≠ .un → a ≠ Da := fun a h e => h (e ▸ u)
  refine ⟨sr.len, fun j s q => (sr.ok j s q).keep (fun a x h => ?_) fun a z => ?_, fun a h => ?_⟩
  · unfold Bh at h ⊢
    by_cases q : G a = .st
    · have w := ne a (by rw [q]; exact fun z => nomatch z)
      rw [if_pos q] at h
      rw [tagAt_ne w, if_pos q, upd_ne w]
      exact h
    · rw [if_neg q] at h
      cases h
  · have w := ne a (by rw [z]; exact fun z => nomatch z)
    exact ⟨(tagAt_ne w).trans z, upd_ne w⟩
  · by_cases e : a = Da
    · rw [e, upd_same]
      exact fun z => nomatch z
    · rw [upd_ne e]
      rw [tagAt_ne e] at h
      exact sr.tag a h
/-- a comprehension's block -/
abbrev blkX (X : Cx) (scope : Scope) (s : Shared) (H : Hp) (Ca : Addr) (cl : List (Str × Addr)) (fp : List Addr) : Cx := X.blk s H scope (compEnvC scope cl Ca X.env) fp
/-- the readings of a block's tests and element, at every block that may come -/
def teB (X : Cx) (scope : Scope) (elt : Expr) : TE := fun σ H Q => ∀ s H0 Ca cl fp, WE (blkX X scope s H0 Ca cl fp) elt σ H Q
def ttB (X : Cx) (scope : Scope) (ifs : List Expr) : TT := fun σ H Q => ∀ s H0 Ca cl fp, WQ (blkX X scope s H0 Ca cl fp) ifs σ H Q
theorem teB_pe {scope : Scope} {elt : Expr} : ∀ (s : Shared) (H0 : Hp) (Ca : Addr) (cl : List (Str × Addr)) (fp : List Addr), PE (blkX X scope s H0 Ca cl fp) elt (teB X scope elt) :=
  fun s H0 Ca cl fp => ⟨fun pins s' σ' H' Q' I h => h s H0 Ca cl fp pins s' I⟩
theorem ttB_pt {scope : Scope} {ifs : List Expr} : ∀ (s : Shared) (H0 : Hp) (Ca : Addr) (cl : List (Str × Addr)) (fp : List Addr), PTs (blkX X scope s H0 Ca cl fp) ifs (ttB X scope ifs) :=
  fun s H0 Ca cl fp => ⟨fun pins s' σ' H' Q' I h => wq_max.run pins s' σ' H' Q' I (h s H0 Ca cl fp)⟩
def compF (t : Tg) (own : List Nat) (fs : Sg → R (List D)) (fq : Sg → R Bool) (fe : Sg → R Val) : Sg → R Val := fun g => bnd (fs g) fun xs g =>
      if own.all fun i => plainSl (g.getD i .no) then
        match compGo own (fun d g => (asg t d g).bind fun g => bnd (fq g) fun b g => if b then bnd (fe g) fun y g => ret (some y.toD) g else ret none g) [] xs g with
        | some (.ok ds, g') => ret (.m (.l ds)) (restG g g' own)
        | _ => none
      else none
theorem comp_rd {t : Tg} {ownp : List (Str × Nat)} {own : List Nat} {scope : Scope} {elt iter : Expr} {ifs : List Expr} {fs : Sg → R (List D)} {fq : Sg → R Bool} {fe : Sg → R Val} (hown : ownp.map (·.2) = own) (tin : ∀ j, j ∈ tgIx t → j ∈ own) (hi : SndI X exs tg iter fs) (hq : ∀ s H Ca cl fp, SndQ (blkX X scope s H Ca cl fp) exs ifs fq) (he : ∀ s H Ca cl fp, Snd (blkX X scope s H Ca cl fp) exs elt fe)
    {r : Out Val × Sg} {Q : VK} (hr : compF t own fs fq fe g = some r) (sr : SR X.K β G H g σ) (post : Pv X exs β σ G H Q W r) :
    tLc (WI X tg iter) (tgRd X.K t) (ttB X scope ifs) (teB X scope elt) (ownp.map (·.2)) σ H Q := by
  rw [hown]
  refine hi.use hr sr post.ex fun xs g1 hk J H1 G1 e1 s1 itok => ?_
  split at hk
  · rename_i hpl
    generalize hF : (fun (d : D) (g : Sg) => (asg t d g).bind fun g => bnd (fq g) fun b g => if b then bnd (fe g) fun y g => ret (some y.toD) g else ret none g) = F at hk
    split at hk
    · rename_i ds gz hfin
      rw [ret_some hk] at post
      intro Da hD
      refine ⟨fun i m H => m = xs.length - i ∧ i ≤ xs.length ∧ ∃ G g vs acc, Aside Da G1 H1 G H ∧ SR X.K β G H (wipeG g own) (wipe σ own) ∧ H Da = some (.lst vs) ∧ RpAll X.K (Bh G H) vs acc ∧
          compGo own F acc (xs.drop i) g = some (.ok ds, gz) ∧ g.length = g1.length,
        ⟨xs.length, rfl, Nat.zero_le _, _, g1, [], [], Aside.start s1.tag hD _, (s1.aside hD).wipe, upd_same, .nil, by rw [List.drop_zero]; exact hfin, rfl⟩, ?_⟩
      rintro i m H ⟨rfl, hle, G, g, vs, acc, as, s, eD, ra, hgo, hgl⟩
      have sm := as.same
      have it := itok i G H sm s.tag
      by_cases hlt : i < xs.length
      · right
        have hd : xs[i]? = some xs[i] := List.getElem?_eq_getElem hlt
        obtain ⟨go, yl⟩ := it.1 _ hd
        refine ⟨go, fun H' => ∃ G g vs acc, Aside Da G1 H1 G H' ∧ SR X.K β G H' (wipeG g own) (wipe σ own) ∧ H' Da = some (.lst vs) ∧ RpAll X.K (Bh G H') vs acc ∧
          compGo own F acc (xs.drop (i + 1)) g = some (.ok ds, gz) ∧ g.length = g1.length, fun H' h => ⟨xs.length - (i + 1), by omega, rfl, hlt, h⟩, fun x H' hy => ?_⟩
        obtain ⟨G', gr, rx⟩ := yl x H' hy
        have hdrop : xs.drop i = xs[i] :: xs.drop (i + 1) := List.drop_eq_getElem_cons hlt
        rw [hdrop] at hgo
        unfold compGo at hgo
        split at hgo
        · rename_i rr g3 hf
          split at hgo
          · rename_i hsz
            rw [← hF] at hf
            obtain ⟨ga, hga, hf⟩ := Option.bind_eq_some_iff.mp hf
            have s2 := s.grow gr
            refine @tg_imp X.K β G' H' t _ _ _ _ _ (fun σ2 H2 q => ?_) (asg_ok t hga s2 rx)
            obtain ⟨e2, s3, un⟩ := q
            subst e2
            have hl2 : σ2.length = (wipe σ own).length := by rw [← s3.len, asg_length t hga, s2.len]
            have hw : wipe σ2 own = wipe σ own := (wipe_eq hl2 fun j hj => un j fun z => hj (tin j z)).trans wipe_idem
            refine ⟨hw, fun s0 H0 Ca cl fp => ?_⟩
            have nx : ∀ {γ : Type} {a : γ} {gg : Sg} {σ' : L2.St} {G' : Gh} {H' : Hp} {x : Exc} {g' : Sg}, ((.ok a, gg) : Out γ × Sg) = (.ex x, g') → PX (blkX X scope s0 H0 Ca cl fp) exs β σ' G' H' (fun _ _ _ _ => False) x g' := fun h => by cases h
            refine (hq s0 H0 Ca cl fp).use hf s3 (fun x g' h => nx h) fun b gb hb H3 G3 e3 s4 => ?_
            have fr3 := e3.fr Da (gr.fr Da as.fr).1
            have eD3 : H3 Da = some (.lst vs) := fr3.2.trans ((gr.fr Da as.fr).2.trans eD)
            have ra3 : RpAll X.K (Bh G3 H3) vs acc := (ra.mono gr.same).mono e3.same
            cases b with
            | true =>
              rw [if_pos rfl] at hb ⊢
              intro s0 H0 Ca cl fp
              have nx : ∀ {γ : Type} {a : γ} {gg : Sg} {σ' : L2.St} {G' : Gh} {H' : Hp} {x : Exc} {g' : Sg}, ((.ok a, gg) : Out γ × Sg) = (.ex x, g') → PX (blkX X scope s0 H0 Ca cl fp) exs β σ' G' H' (fun _ _ _ _ => False) x g' := fun h => by cases h
              refine (he s0 H0 Ca cl fp).useD hb s4 (fun x g' h => nx h) fun y gy hy2 v H4 G4 e4 s5 rv => ?_
              cases ret_some hy2
              have fr4 := e4.fr Da fr3.1
              obtain ⟨s6, sm6⟩ := s5.with_fr (o := .lst (vs ++ [v])) fr4.1
              refine ⟨vs, fr4.2.trans eD3, by rw [ra3.length]; exact hsz, G4, g3, vs ++ [v], acc ++ [y.toD], (as.next gr.toExt fun _ _ => rfl).next (e3.trans e4) fun b hb => upd_ne hb, ?_, upd_same, ((ra3.mono e4.same).app (.cons rv .nil)).mono sm6, hgo, ?_⟩
              · have := s6.wipe (own := own)
                rw [hw] at this
                exact this
              · rw [s5.len, hl2, wipe_length, ← s1.len]
            | false =>
              rw [if_neg Bool.false_ne_true] at hb ⊢
              cases ret_some hb
              refine ⟨G3, g3, vs, acc, (as.next gr.toExt fun _ _ => rfl).next e3 fun _ _ => rfl, ?_, eD3, ra3, hgo, ?_⟩
              · have := s4.wipe (own := own)
                rw [hw] at this
                exact this
              · rw [s4.len, hl2, wipe_length, ← s1.len]
          · cases hgo
        · cases hgo
      · left
        have ei : i = xs.length := by omega
        refine ⟨it.2 (by omega), ?_⟩
        rw [ei, List.drop_length] at hgo
        cases ret_some hgo
        have sm2 : Same (Bh G H) (Bh (tagAt G Da .un) H) := fun b o h => by
          unfold Bh at h ⊢
          by_cases q : G b = .st
          · rw [if_pos q] at h
            rw [tagAt_ne (fun e => by rw [e, as.fr] at q; cases q), if_pos q]
            exact h
          · rw [if_neg q] at h
            cases h
        refine post _ H (tagAt G Da .un) (e1.trans as.ext) ⟨?_, fun j sl q => ?_, fun a h => ?_⟩ ⟨Da, rfl, tagAt_same, vs, eD, ra.mono sm2⟩
        · rw [restG_length, hgl]
          exact s1.len
        · by_cases hj : j ∈ own
          · rw [restG_in hj (by have := get_lt q; rw [restG_length] at this; exact this)] at q
            have pl := List.all_eq_true.mp hpl j hj
            rw [Option.some.inj q] at pl
            cases sl with
            | no => trivial
            | im d =>
              have hj1 : j < g1.length := by
                rcases Nat.lt_or_ge j g1.length with z | z
                · exact z
                · have h0 := Option.some.inj q
                  rw [List.getD_eq_getElem?_getD, List.getElem?_eq_none z] at h0
                  cases h0
              have h0 : g1[j]? = some (.im d) := by
                have h0 := Option.some.inj q
                rw [List.getD_eq_getElem?_getD, List.getElem?_eq_getElem hj1] at h0
                rw [List.getElem?_eq_getElem hj1]
                exact congrArg some h0
              obtain ⟨v, hv, rv⟩ := s1.ok j _ h0
              exact ⟨v, hv, rv.mono as.ext.same⟩
            | ow c => cases pl
            | bo c => cases pl
            | sc c => cases pl
          · rw [restG_out hj] at q
            have h0 := s.ok j sl (by rw [wipeG_out hj]; exact q)
            rw [List.getD_eq_getElem?_getD, wipe_out hj, ← List.getD_eq_getElem?_getD] at h0
            exact h0.keep sm2 fun a z => ⟨by rw [tagAt_ne (fun e => by rw [e, as.fr] at z; cases z)]; exact z, rfl⟩
        · by_cases e : a = Da
          · rw [e, tagAt_same] at h
            exact absurd rfl h
          · rw [tagAt_ne e] at h
            exact s.tag a h
    · cases hk
  · cases hk
theorem snd_comp {t : Tg} {ownp : List (Str × Nat)} {own : List Nat} {scope : Scope} {elt iter : Expr} {ifs : List Expr} {fs : Sg → R (List D)} {fq : Sg → R Bool} {fe : Sg → R Val} (hc : X.calm = true) (nd : X.N.Nodup)
    (okB : BlkOk X.N X.env.scope scope ownp) (hown : ownp.map (·.2) = own) (tin : ∀ j, j ∈ tgIx t → j ∈ own) (hg : ∀ s H Ca cl fp, PG (blkX X scope s H Ca cl fp) tg (tgRd X.K t))
    (hi : SndI X exs tg iter fs) (hq : ∀ s H Ca cl fp, SndQ (blkX X scope s H Ca cl fp) exs ifs fq) (he : ∀ s H Ca cl fp, Snd (blkX X scope s H Ca cl fp) exs elt fe) (hs : ∀ x, foldedSetIterable iter X.env x = pure x) :
    Snd X exs (.ListComp elt [⟨tg, iter, ifs, 0⟩] scope pos) (compF t own fs fq fe) := fun β g r hr σ H G Q W sr post =>
  we_of (pe_lc hc nd wi_max okB hg ttB_pt teB_pe hs) (comp_rd hown tin hi hq he hr sr post)
end
end Z

/-! Z7: statements. -/
namespace Z
open PySem PySem.Spec PyProof.Rows L2

section
variable (X : Cx) (exs : Nat → Option Addr)
def Ps (β : Nat → Option Addr) (G : Gh) (H : Hp) (Dn : Ends) (W : WX) : Fl × Sg → Prop
  | (.nx, g') => ∀ σ' H' G', Ext G H G' H' → SR X.K β G' H' g' σ' → Dn.nx σ' H'
  | (.bk, g') => ∀ σ' H' G', Ext G H G' H' → SR X.K β G' H' g' σ' → Dn.bk σ' H'
  | (.ct, g') => ∀ σ' H' G', Ext G H G' H' → SR X.K β G' H' g' σ' → Dn.ct σ' H'
  | (.rt x, g') => ∀ v σ' H' G', Ext G H G' H' → SR X.K β G' H' g' σ' → ValOk X.K G' H' x v → Dn.rt v H'
  | (.ex x, g') => Takes X W ∧ ∀ cls dd σ' H' G', Ext G H G' H' → SR X.K β G' H' g' σ' → ExR exs x cls dd H' → W cls dd σ' H'
def SndS (st : Stmt) (f : Sg → RS) : Prop := ∀ β g r, f g = some r → ∀ σ H G Dn W, SR X.K β G H g σ → Ps X exs β G H Dn W r → WS X st Dn σ H
def SndSs (st : List Stmt) (f : Sg → RS) : Prop := ∀ β g r, f g = some r → ∀ σ H G Dn W, SR X.K β G H g σ → Ps X exs β G H Dn W r → WSs X st Dn σ H
end
section
variable {X : Cx} {exs : Nat → Option Addr} {β : Nat → Option Addr} {σ : L2.St} {G G1 : Gh} {H H1 : Hp} {W : WX} {Dn : Ends} {e : Expr} {f : Sg → R Val} {g g1 : Sg} {pos : Pos}
theorem Ps.ex {r : Fl × Sg} (h : Ps X exs β G H Dn W r) : ∀ x g', r = (.ex x, g') → PX X exs β σ G H W x g' := fun x g' e => by
  subst e
  exact ⟨h.1, fun c d H' G' => h.2 c d σ H' G'⟩
theorem Ps.next {r : Fl × Sg} (h : Ps X exs β G H Dn W r) (e : Ext G H G1 H1) : Ps X exs β G1 H1 Dn W r := by
  obtain ⟨fl, g'⟩ := r
  cases fl with
  | nx => exact fun σ' H' G' w => h σ' H' G' (e.trans w)
  | bk => exact fun σ' H' G' w => h σ' H' G' (e.trans w)
  | ct => exact fun σ' H' G' w => h σ' H' G' (e.trans w)
  | rt x => exact fun v σ' H' G' w => h v σ' H' G' (e.trans w)
  | ex x => exact ⟨h.1, fun c d σ' H' G' w => h.2 c d σ' H' G' (e.trans w)⟩
theorem Snd.useS {k : Val → Sg → RS} {r : Fl × Sg} {Q : VK} (h : Snd X exs e f) (hr : sbnd (f g) k = some r) (sr : SR X.K β G H g σ) (post : Ps X exs β G H Dn W r)
    (ok : ∀ x g1, k x g1 = some r → ∀ v H1 G1, Ext G H G1 H1 → SR X.K β G1 H1 g1 σ → ValOk X.K G1 H1 x v → Q v H1) : WE X e σ H Q := by
  cases q : f g with
  | none =>
    rw [q] at hr
    cases hr
  | some z =>
    obtain ⟨o, g1⟩ := z
    rw [q] at hr
    cases o with
    | ok x => exact h β g _ q σ H G Q W sr fun v H1 G1 e1 s1 r1 => ok x g1 hr v H1 G1 e1 s1 r1
    | ex x =>
      cases hr
      exact h β g _ q σ H G Q W sr (Ps.ex post x g1 rfl)
theorem Snd.useSD {k : Val → Sg → RS} {r : Fl × Sg} {Q : VK} (h : Snd X exs e f) (hr : sbnd (f g) k = some r) (sr : SR X.K β G H g σ) (post : Ps X exs β G H Dn W r)
    (ok : ∀ x g1, k x g1 = some r → ∀ v H1 G1, Ext G H G1 H1 → SR X.K β G1 H1 g1 σ → Rp X.K (Bh G1 H1) v x.toD → Q v H1) : WE X e σ H Q :=
  h.useS hr sr post fun x g1 hk v H1 G1 e1 s1 r1 => by
    obtain ⟨G2, r2, w⟩ := r1.rp s1.tag
    exact ok x g1 hk v H1 G2 (e1.trans w.toExt) (s1.grow w) r2
theorem SndT.useS {ft : Sg → R Bool} {k : Bool → Sg → RS} {r : Fl × Sg} {Q : Bool → Hp → Prop} (h : SndT X exs e ft) (hr : sbnd (ft g) k = some r) (sr : SR X.K β G H g σ) (post : Ps X exs β G H Dn W r)
    (ok : ∀ x g1, k x g1 = some r → ∀ H1 G1, Ext G H G1 H1 → SR X.K β G1 H1 g1 σ → Q x H1) : WT X e σ H Q := by
  cases q : ft g with
  | none =>
    rw [q] at hr
    cases hr
  | some z =>
    obtain ⟨o, g1⟩ := z
    rw [q] at hr
    cases o with
    | ok x => exact h β g _ q σ H G Q W sr fun H1 G1 e1 s1 => ok x g1 hr H1 G1 e1 s1
    | ex x =>
      cases hr
      exact h β g _ q σ H G Q W sr (Ps.ex post x g1 rfl)
theorem SndI.useS {tg iter : Expr} {fs : Sg → R (List D)} {k : List D → Sg → RS} {r : Fl × Sg} {Q : It → Hp → Prop} (h : SndI X exs tg iter fs) (hr : sbnd (fs g) k = some r) (sr : SR X.K β G H g σ) (post : Ps X exs β G H Dn W r)
    (ok : ∀ ds g1, k ds g1 = some r → ∀ J H1 G1, Ext G H G1 H1 → SR X.K β G1 H1 g1 σ → ItOk X.K (Bh G1 H1) J ds → Q J H1) : WI X tg iter σ H Q := by
  cases q : fs g with
  | none =>
    rw [q] at hr
    cases hr
  | some z =>
    obtain ⟨o, g1⟩ := z
    rw [q] at hr
    cases o with
    | ok x => exact h β g _ q σ H G Q W sr fun J H1 G1 e1 s1 r1 => ok x g1 hr J H1 G1 e1 s1 r1
    | ex x =>
      cases hr
      exact h β g _ q σ H G Q W sr (Ps.ex post x g1 rfl)
theorem sopt_some {o : Option Sg} {r : Fl × Sg} (h : sopt o = some r) : ∃ g, o = some g ∧ r = (.nx, g) := by
  cases o with
  | none => cases h
  | some g =>
    cases h
    exact ⟨g, rfl, rfl⟩

/-! ### blocks -/
theorem sndSs_nil : SndSs X exs [] fun g => some (.nx, g) := fun β g r hr σ H G Dn W sr post => by
  cases hr
  exact wss_of pss_nil (post σ H G (.refl _ _) sr)
theorem sndSs_cons {st : Stmt} {rest : List Stmt} {fs fr : Sg → RS} (h1 : SndS X exs st fs) (h2 : SndSs X exs rest fr) : SndSs X exs (st :: rest) fun g => seq (fs g) fun g => fr g := fun β g r hr σ H G Dn W sr post => by
  refine wss_of (pss_cons ws_max wss_max) ?_
  cases q : fs g with
  | none =>
    dsimp only at hr
    rw [q] at hr
    cases hr
  | some z =>
    obtain ⟨fl, g1⟩ := z
    dsimp only at hr
    rw [q] at hr
    refine h1 β g _ q σ H G _ W sr ?_
    cases fl with
    | nx => exact fun σ' H' G' e1 s1 => h2 β g1 r hr σ' H' G' Dn W s1 (post.next e1)
    | bk =>
      cases hr
      exact post
    | ct =>
      cases hr
      exact post
    | rt x =>
      cases hr
      exact post
    | ex x =>
      cases hr
      exact post

/-! ### simple statements -/
theorem sndS_pass : SndS X exs (.Pass pos) fun g => some (.nx, g) := fun β g r hr σ H G Dn W sr post => by
  cases hr
  exact ws_of ps_pass (post σ H G (.refl _ _) sr)
theorem sndS_brk : SndS X exs (.Break pos) fun g => some (.bk, g) := fun β g r hr σ H G Dn W sr post => by
  cases hr
  exact ws_of ps_break (post σ H G (.refl _ _) sr)
theorem sndS_cont : SndS X exs (.Continue pos) fun g => some (.ct, g) := fun β g r hr σ H G Dn W sr post => by
  cases hr
  exact ws_of ps_continue (post σ H G (.refl _ _) sr)
theorem sndS_retN : SndS X exs (.Return none pos) fun g => some (.rt (.v .none), g) := fun β g r hr σ H G Dn W sr post => by
  cases hr
  exact ws_of ps_retN (post .non σ H G (.refl _ _) sr .non)
theorem sndS_ret (ha : Snd X exs e f) : SndS X exs (.Return (some e) pos) fun g => sbnd (f g) fun x g => some (.rt x, g) := fun β g r hr σ H G Dn W sr post => by
  refine ws_of (ps_ret we_max) ?_
  refine ha.useS hr sr post fun x g1 h1 v H1 G1 e1 s1 r1 => ?_
  cases h1
  exact post v σ H1 G1 e1 s1 r1
def isCompr : Expr → Bool
  | .ListComp _ _ _ _ => true
  | .SetComp _ _ _ _ => true
  | .DictComp _ _ _ _ _ => true
  | _ => false
theorem swaps_not {e : Expr} (h : isCompr e = false) (t : Option Expr) (l : Nat) (env : Env) : swapsWith e t l env = pure false := by
  cases e <;> first | rfl | (simp [isCompr] at h)
theorem sndS_exp (hn : isCompr e = false) (ha : Snd X exs e f) : SndS X exs (.Expr e pos) fun g => sbnd (f g) fun _ g => some (.nx, g) := fun β g r hr σ H G Dn W sr post => by
  refine ws_of (ps_expr we_max (swaps_not hn _ _ _)) ?_
  refine ha.useS hr sr post fun x g1 h1 v H1 G1 e1 s1 r1 => ?_
  cases h1
  exact post σ H1 G1 e1 s1
/-- what a slot takes in -/
theorem SR.take {i : Nat} {own : Bool} {x : Val} {v : V} {g' : Sg} {K : PySem.W.Frag} (sr : SR K β G H g σ) (r : ValOk K G H x v) (h : setG g i (slOf own x) = some g') : ∃ G', Ext G H G' H ∧ SR K β G' H g' (σ.set i (some v)) := by
  obtain ⟨_, _, rfl⟩ := setG_some h
  cases x with
  | v d => exact ⟨G, .refl _ _, sr.put ⟨v, rfl, r⟩⟩
  | m c =>
    cases own with
    | false =>
      obtain ⟨G', r2, w⟩ := r.rp sr.tag
      exact ⟨G', w.toExt, (sr.grow w).put ⟨v, rfl, r2⟩⟩
    | true =>
      obtain ⟨a, rfl, q⟩ := r
      cases c with
      | l ds =>
        obtain ⟨u, vs, hv, ra⟩ := q
        have ne : ∀ b, G b ≠ .un → b ≠ a := fun b z w => z (w ▸ u)
        have ex : Ext G H (tagAt G a (.sl i)) H := by
          refine ⟨fun b z => ⟨(tagAt_ne (ne b (by rw [z]; exact fun w => nomatch w))).trans z, rfl⟩, fun b z => ⟨(tagAt_ne (ne b (by rw [z]; exact fun w => nomatch w))).trans z, rfl⟩, fun b z => ?_⟩
          by_cases w : b = a
          · rw [w, tagAt_same] at z
            cases z
          · rw [tagAt_ne w] at z
            exact z
        have s2 : SR K β (tagAt G a (.sl i)) H g σ := by
          refine ⟨sr.len, fun j s q => (sr.ok j s q).keep ex.same fun b z => ⟨(tagAt_ne (ne b (by rw [z]; exact fun w => nomatch w))).trans z, rfl⟩, fun b z => ?_⟩
          by_cases w : b = a
          · rw [w, hv]
            exact fun z => nomatch z
          · rw [tagAt_ne w] at z
            exact sr.tag b z
        exact ⟨_, ex, s2.put (s := .ow (.l ds)) ⟨a, rfl, tagAt_same, vs, hv, ra.mono ex.same⟩⟩
theorem sndS_set {i : Nat} {own : Bool} {x : Str} {p : Pos} (nd : X.N.Nodup) (hi : X.N[i]? = some x) (hx : L2.Loc X.env.scope x) (hf : X.fn x = true ∨ X.env.scope.names.lookup x = some .local) (hn : isCompr e = false) (ha : Snd X exs e f) :
    SndS X exs (.Assign [.Name x p] e pos) fun g => sbnd (f g) fun y g => sopt (setG g i (slOf own y)) := fun β g r hr σ H G Dn W sr post => by
  refine ws_of (ps_set nd hi hx we_max (swaps_not hn _ _ _) hf) ?_
  refine ha.useS hr sr post fun y g1 h1 v H1 G1 e1 s1 r1 => ?_
  obtain ⟨g2, h2, rfl⟩ := sopt_some h1
  obtain ⟨G2, e2, s2⟩ := s1.take r1 h2
  exact post _ H1 G2 (e1.trans e2) s2
/-- name = [..], by whichever road the interpreter takes -/
theorem sndS_setLc {i : Nat} {own : Bool} {x : Str} {p cpos : Pos} {t : Tg} {tg : Expr} {ownp : List (Str × Nat)} {ow : List Nat} {scope : Scope} {elt iter : Expr} {ifs : List Expr} {fs : Sg → R (List D)} {fq : Sg → R Bool} {fe : Sg → R Val}
    (nd : X.N.Nodup) (hi : X.N[i]? = some x) (hx : L2.Loc X.env.scope x) (hf : X.fn x = true ∨ X.env.scope.names.lookup x = some .local) (hk : X.env.blockKind = .function) (hc : X.calm = true)
    (okB : BlkOk X.N X.env.scope scope ownp) (hown : ownp.map (·.2) = ow) (tin : ∀ j, j ∈ tgIx t → j ∈ ow) (hg : ∀ s H Ca cl fp, PG (blkX X scope s H Ca cl fp) tg (tgRd X.K t))
    (hi2 : SndI X exs tg iter fs) (hq : ∀ s H Ca cl fp, SndQ (blkX X scope s H Ca cl fp) exs ifs fq) (he : ∀ s H Ca cl fp, Snd (blkX X scope s H Ca cl fp) exs elt fe) (hs : ∀ x, foldedSetIterable iter X.env x = pure x) :
    SndS X exs (.Assign [.Name x p] (.ListComp elt [⟨tg, iter, ifs, 0⟩] scope cpos) pos) fun g => sbnd (compF t ow fs fq fe g) fun y g => sopt (setG g i (slOf own y)) := fun β g r hr σ H G Dn W sr post => by
  have rd : tAsg (tLc (WI X tg iter) (tgRd X.K t) (ttB X scope ifs) (teB X scope elt) (ownp.map (·.2))) (gName i) Dn σ H := by
    cases q : compF t ow fs fq fe g with
    | none =>
      dsimp only at hr
      rw [q] at hr
      cases hr
    | some z =>
      obtain ⟨o, g1⟩ := z
      dsimp only at hr
      rw [q] at hr
      cases o with
      | ok y =>
        obtain ⟨g2, h2, rfl⟩ := sopt_some hr
        refine comp_rd (W := W) hown tin hi2 hq he q sr fun v H1 G1 e1 s1 r1 => ?_
        obtain ⟨G2, e2, s2⟩ := s1.take r1 h2
        exact post _ H1 G2 (e1.trans e2) s2
      | ex y =>
        cases hr
        exact comp_rd (W := W) hown tin hi2 hq he q sr (Ps.ex post y g1 rfl)
  have sw : ∃ b : Bool, swapsWith (.ListComp elt [⟨tg, iter, ifs, 0⟩] scope cpos) (some (.Name x p)) pos.line X.env = pure b ∧ (b = true → X.env.scope.names.lookup x = some .local) := by
    refine ⟨_, rfl, fun h => ?_⟩
    simp only [Bool.and_eq_true] at h
    exact eq_of_beq h.1.1.2
  obtain ⟨b, hb, hl⟩ := sw
  cases b with
  | true => exact ws_of (ps_setLc hc nd hi (hl rfl) hb wi_max okB hg ttB_pt teB_pe hs) rd
  | false => exact ws_of (ps_set nd hi hx (pe_lc hc nd wi_max okB hg ttB_pt teB_pe hs) hb hf) rd

/-! ### two at once, targets, places -/
theorem SR.park {K : PySem.W.Frag} {x : Val} {v : V} (sr : SR K β G H g σ) (r : ValOk K G H x v) : ∃ G', SR K β G' H g σ ∧ Ext G' H G' H ∧
    ∀ G2 H2 g2 σ2, Ext G' H G2 H2 → SR K β G2 H2 g2 σ2 → ∃ G3, Ext G H G3 H2 ∧ SR K β G3 H2 g2 σ2 ∧ ValOk K G3 H2 x v := by
  cases x with
  | v d => exact ⟨G, sr, .refl _ _, fun G2 H2 g2 σ2 e s => ⟨G2, e, s, Rp.mono e.same r⟩⟩
  | m c =>
    obtain ⟨a, rfl, q⟩ := r
    cases c with
    | l ds =>
      obtain ⟨u, vs, hv, ra⟩ := q
      have ne : ∀ b, G b ≠ .un → b ≠ a := fun b z w => z (w ▸ u)
      have sm : Same (Bh G H) (Bh (tagAt G a .fr) H) := fun b o h => by
        unfold Bh at h ⊢
        by_cases q : G b = .st
        · rw [if_pos q] at h
          rw [tagAt_ne (ne b (by rw [q]; exact fun w => nomatch w)), if_pos q]
          exact h
        · rw [if_neg q] at h
          cases h
      have s2 : SR K β (tagAt G a .fr) H g σ := by
        refine ⟨sr.len, fun j s q => (sr.ok j s q).keep sm fun b z => ⟨(tagAt_ne (ne b (by rw [z]; exact fun w => nomatch w))).trans z, rfl⟩, fun b z => ?_⟩
        by_cases w : b = a
        · rw [w, hv]
          exact fun z => nomatch z
        · rw [tagAt_ne w] at z
          exact sr.tag b z
      refine ⟨_, s2, .refl _ _, fun G2 H2 g2 σ2 e s => ?_⟩
      obtain ⟨f1, f2⟩ := e.fr a tagAt_same
      have ne2 : ∀ b, G2 b ≠ .fr → b ≠ a := fun b z w => z (w ▸ f1)
      have sm2 : Same (Bh G2 H2) (Bh (tagAt G2 a .un) H2) := fun b o h => by
        unfold Bh at h ⊢
        by_cases q : G2 b = .st
        · rw [if_pos q] at h
          rw [tagAt_ne (ne2 b (by rw [q]; exact fun w => nomatch w)), if_pos q]
          exact h
        · rw [if_neg q] at h
          cases h
      refine ⟨tagAt G2 a .un, ⟨fun b z => ?_, fun b z => ?_, fun b z => ?_⟩, ⟨s.len, fun j t q => (s.ok j t q).keep sm2 fun b z => ⟨(tagAt_ne (ne2 b (by rw [z]; exact fun w => nomatch w))).trans z, rfl⟩, fun b z => ?_⟩,
        a, rfl, tagAt_same, vs, f2.trans hv, (ra.mono sm).mono e.same |>.mono sm2⟩
      · have w := ne b (by rw [z]; exact fun w => nomatch w)
        obtain ⟨q1, q2⟩ := e.st b ((tagAt_ne w).trans z)
        exact ⟨(tagAt_ne w).trans q1, q2⟩
      · have w := ne b (by rw [z]; exact fun w => nomatch w)
        obtain ⟨q1, q2⟩ := e.fr b ((tagAt_ne w).trans z)
        exact ⟨(tagAt_ne w).trans q1, q2⟩
      · by_cases w : b = a
        · rw [w, tagAt_same] at z
          cases z
        · rw [tagAt_ne w] at z
          have := e.nf b z
          rw [tagAt_ne w] at this
          exact this
      · by_cases w : b = a
        · rw [w, tagAt_same] at z
          exact absurd rfl z
        · rw [tagAt_ne w] at z
          exact s.tag b z
theorem isBo_set {g : Sg} {i j : Nat} {x : Sl} (h : i ≠ j) : isBo (g.set i x)[j]? = isBo g[j]? := by
  rw [List.getElem?_set_ne h]
theorem sndS_par {i j : Nat} {p q : Bool} {x y : Str} {a b : Expr} {fa fb : Sg → R Val} {px py pt pt2 : Pos} {kt k2 : Nat} (hc : X.calm = true) (nd : X.N.Nodup) (hi : X.N[i]? = some x) (hj : X.N[j]? = some y) (hij : i ≠ j)
    (hx : X.env.scope.names.lookup x = some .local) (hy : X.env.scope.names.lookup y = some .local) (na : notStar a = true) (nb : notStar b = true) (hw : swappedStores [.Tuple [.Name x px, .Name y py] kt pt] (.Tuple [a, b] k2 pt2) X.env = pure (some [x, y]))
    (ha : Snd X exs a fa) (hb : Snd X exs b fb) :
    SndS X exs (.Assign [.Tuple [.Name x px, .Name y py] kt pt] (.Tuple [a, b] k2 pt2) pos) fun g => sbnd (fa g) fun x g => sbnd (fb g) fun y g =>
      sopt ((setG g i (slOf p x)).bind fun g => setG g j (slOf q y)) := fun β g r hr σ H G Dn W sr post => by
  refine ws_of (ps_par hc nd hi hj hij hx hy (pa_cons we_max (pa_cons we_max pa_nil (star_of nb)) (star_of na)) hw rfl) ?_
  refine ha.useS hr sr post fun z g1 h1 v H1 G1 e1 s1 r1 => ?_
  obtain ⟨G1', s1', _, un⟩ := s1.park r1
  have e1' : ∀ {G2 H2}, Ext G1' H1 G2 H2 → SR X.K β G2 H2 g1 σ → True := fun _ _ => trivial
  cases hfb : fb g1 with
  | none =>
    rw [hfb] at h1
    cases h1
  | some w =>
    obtain ⟨o, g2⟩ := w
    rw [hfb] at h1
    cases o with
    | ok w =>
      refine hb β g1 _ hfb σ H1 G1' _ W s1' fun u H2 G2 e2 s2 r2 => ?_
      refine ⟨v, u, rfl, ?_⟩
      obtain ⟨g3, h3, rfl⟩ := sopt_some h1
      obtain ⟨g4, h4, h5⟩ := Option.bind_eq_some_iff.mp h3
      obtain ⟨l4, b4, rfl⟩ := setG_some h4
      obtain ⟨l5, b5, rfl⟩ := setG_some h5
      rw [isBo_set hij] at b5
      rw [List.length_set] at l5
      obtain ⟨G3, e3, s3⟩ := s2.take (own := q) r2 (show setG g2 j (slOf q w) = some (g2.set j (slOf q w)) from if_pos ⟨l5, b5⟩)
      obtain ⟨G4, e4, s4, r4⟩ := un G3 H2 _ _ (e2.trans e3) s3
      obtain ⟨G5, e5, s5⟩ := s4.take (own := p) r4 (show setG (g2.set j (slOf q w)) i (slOf p z) = some ((g2.set j (slOf q w)).set i (slOf p z)) from if_pos ⟨by rw [List.length_set]; exact l4, by rw [isBo_set (Ne.symm hij)]; exact b4⟩)
      rw [List.set_comm _ _ (Ne.symm hij), List.set_comm (l := σ) _ _ (Ne.symm hij)] at s5
      exact post _ H2 G5 (e1.trans (e4.trans e5)) s5
    | ex w =>
      cases h1
      refine hb β g1 _ hfb σ H1 G1' _ W s1' ?_
      obtain ⟨tk, h⟩ := post
      refine ⟨tk, fun cls dd H' G' e s hx => ?_⟩
      obtain ⟨G3, e3, s3, _⟩ := un G' H' _ _ e s
      exact h cls dd σ H' G3 (e1.trans e3) s3 hx
theorem sndS_asg {t : Tg} {tg : Expr} (hg : PG X tg (tgRd X.K t)) (ht : notStar tg = true) (hn : isCompr e = false) (hw : swappedStores [tg] e X.env = pure none) (ha : Snd X exs e f) :
    SndS X exs (.Assign [tg] e pos) fun g => sbnd (f g) fun x g => sopt (asg t x.toD g) := fun β g r hr σ H G Dn W sr post => by
  refine ws_of (ps_asg we_max hg (swaps_not hn _ _ _) hw (by rw [each_cons ht]; rfl)) ?_
  refine ha.useSD hr sr post fun x g1 h1 v H1 G1 e1 s1 r1 => ?_
  obtain ⟨g2, h2, rfl⟩ := sopt_some h1
  refine @tg_imp X.K β G1 H1 t _ _ _ _ _ (fun σ2 H2 q => ?_) (asg_ok t h2 s1 r1)
  obtain ⟨rfl, s3, _⟩ := q
  exact post σ2 _ G1 e1 s3
theorem sub_assign {o k : Expr} {p : Pos} {env : Env} (h : notSlice k = true) (v : Value) : assign (.Subscript o k p) env v = (do
    let ov ← holding [v] (eval o env)
    let iv ← holding [v, ov] (eval k env)
    standAt p
    holding [v, ov, iv] (setItem ov iv v)
    release [v, ov, iv] []) := by
  cases k <;> first | rfl | (simp [notSlice] at h)
theorem SR.mut {i : Nat} {K : PySem.W.Frag} (sr : SR K β G H g σ) (h : isM g i = true) : ∃ a ds vs, σ[i]? = some (some (.ref a)) ∧ G a = .sl i ∧ H a = some (.lst vs) ∧ RpAll K (Bh G H) vs ds ∧ (g[i]? = some (.ow (.l ds)) ∨ (g[i]? = some (.bo (.l ds)) ∧ β i = some a)) := by
  unfold isM at h
  split at h
  · rename_i c hc
    obtain ⟨y, hy, a, rfl, hm⟩ := sr.at hc
    cases c with
    | l ds =>
      obtain ⟨t, vs, q, r⟩ := hm
      exact ⟨a, ds, vs, hy, t, q, r, .inl hc⟩
  · rename_i c hc
    obtain ⟨y, hy, a, rfl, hm, hb⟩ := sr.at hc
    cases c with
    | l ds =>
      obtain ⟨t, vs, q, r⟩ := hm
      exact ⟨a, ds, vs, hy, t, q, r, .inr ⟨hc, hb⟩⟩
  · cases h
/-- the list of a slot is changed -/
theorem SR.change {i : Nat} {K : PySem.W.Frag} {a : Addr} {ds : List D} {vs : List V} {s' : Sl} (sr : SR K β G H g σ) (hσ : σ[i]? = some (some (.ref a))) (hG : G a = .sl i) (ra : RpAll K (Bh G H) vs ds)
    (hs : s' = .ow (.l ds) ∨ (s' = .bo (.l ds) ∧ β i = some a)) : Ext G H G (upd H a (.lst vs)) ∧ SR K β G (upd H a (.lst vs)) (g.set i s') σ := by
  have ne : ∀ b, G b ≠ .sl i → b ≠ a := fun b z w => z (w ▸ hG)
  have ex : Ext G H G (upd H a (.lst vs)) := ⟨fun b z => ⟨z, upd_ne (ne b (by rw [z]; exact fun w => nomatch w))⟩, fun b z => ⟨z, upd_ne (ne b (by rw [z]; exact fun w => nomatch w))⟩, fun _ z => z⟩
  refine ⟨ex, by rw [List.length_set]; exact sr.len, fun j t q => ?_, fun b z => ?_⟩
  · by_cases hj : i = j
    · subst hj
      rw [List.getElem?_set_self (by have := get_lt q; rw [List.length_set] at this; exact this)] at q
      cases q
      have hD : σ.getD i none = some (.ref a) := by rw [List.getD_eq_getElem?_getD, hσ]; rfl
      rw [hD]
      have mk : MOk K G (upd H a (.lst vs)) i (.l ds) a := ⟨hG, vs, upd_same, ra.mono ex.same⟩
      rcases hs with rfl | ⟨rfl, hb⟩
      · exact ⟨a, rfl, mk⟩
      · exact ⟨a, rfl, mk, hb⟩
    · rw [List.getElem?_set_ne hj] at q
      exact (sr.ok j t q).keep ex.same fun b z => ⟨z, upd_ne (ne b (by rw [z]; exact fun w => hj (Tag.sl.inj w).symm))⟩
  · by_cases w : b = a
    · rw [w, upd_same]
      exact fun z => nomatch z
    · rw [upd_ne w]
      exact sr.tag b z
/-- a change of a slot's list, as the machine does it -/
theorem upM_some {i : Nat} {F : M → Option M} {r : Fl × Sg} (h : upM g i F = some r) : ∃ c c', F c = some c' ∧ ((g[i]? = some (.ow c) ∧ r = (.nx, g.set i (.ow c'))) ∨ (g[i]? = some (.bo c) ∧ r = (.nx, g.set i (.bo c')))) := by
  unfold upM at h
  split at h
  · rename_i c hc
    obtain ⟨c', h1, rfl⟩ := Option.map_eq_some_iff.mp h
    exact ⟨c, c', h1, .inl ⟨hc, rfl⟩⟩
  · rename_i c hc
    obtain ⟨c', h1, rfl⟩ := Option.map_eq_some_iff.mp h
    exact ⟨c, c', h1, .inr ⟨hc, rfl⟩⟩
  · cases h
/-- .. and as the heap sees it -/
theorem SR.up {i : Nat} {K : PySem.W.Frag} {F : M → Option M} {r : Fl × Sg} (sr : SR K β G H g σ) (h : upM g i F = some r) : ∃ a ds ds' vs g', σ[i]? = some (some (.ref a)) ∧ H a = some (.lst vs) ∧ RpAll K (Bh G H) vs ds ∧ F (.l ds) = some (.l ds') ∧ r = (.nx, g') ∧
    ∀ vs', RpAll K (Bh G H) vs' ds' → Ext G H G (upd H a (.lst vs')) ∧ SR K β G (upd H a (.lst vs')) g' σ := by
  obtain ⟨c, c', hF, hg⟩ := upM_some h
  cases c with
  | l ds =>
  cases c' with
  | l ds' =>
  have hm : isM g i = true := by
    unfold isM
    rcases hg with ⟨q, _⟩ | ⟨q, _⟩ <;> rw [q]
  obtain ⟨a, ds2, vs, h1, h2, h3, h4, h5⟩ := sr.mut hm
  rcases hg with ⟨q, rfl⟩ | ⟨q, rfl⟩
  · rcases h5 with h5 | ⟨h5, _⟩
    · rw [q] at h5
      cases h5
      exact ⟨a, ds, ds', vs, _, h1, h3, h4, hF, rfl, fun vs' r => sr.change h1 h2 r (.inl rfl)⟩
    · rw [q] at h5
      cases h5
  · rcases h5 with h5 | ⟨h5, hb⟩
    · rw [q] at h5
      cases h5
    · rw [q] at h5
      cases h5
      exact ⟨a, ds, ds', vs, _, h1, h3, h4, hF, rfl, fun vs' r => sr.change h1 h2 r (.inr ⟨rfl, hb⟩)⟩
theorem sndS_put {i : Nat} {x : Str} {k : Expr} {fk : Sg → R Val} {p p2 : Pos} (hN : X.N[i]? = some x) (hv : Vis X.env.scope x) (hd : (x == ("__debug__" : Str)) = false) (hcd : (x == ("__classdict__" : Str)) = false) (hk : notSlice k = true) (hn : isCompr e = false)
    (ha : Snd X exs e f) (hb : Snd X exs k fk) : SndS X exs (.Assign [.Subscript (.Name x p) k p2] e pos) fun g => sbnd (f g) fun y g => if isM g i then sbnd (fk g) fun z g => upM g i fun c => putM c z.toD y.toD else none := fun β g r hr σ H G Dn W sr post => by
  refine ws_of (ps_asg we_max (pg_sub (pe_var hN hv hd hcd) we_max set_list (sub_assign hk)) (show swapsWithSole [.Subscript (.Name x p) k p2] e pos.line X.env = pure false from swaps_not hn (some (.Subscript (.Name x p) k p2)) pos.line X.env) rfl rfl) ?_
  refine ha.useSD hr sr post fun y g1 h1 v H1 G1 e1 s1 r1 => ?_
  split at h1
  · rename_i hm
    obtain ⟨a, _, _, hσ, _⟩ := s1.mut hm
    refine ⟨_, hσ, ?_⟩
    refine hb.useSD h1 s1 (post.next e1) fun z g2 h2 w H2 G2 e2 s2 r2 => ?_
    obtain ⟨a', ds, ds', vs, g', hσ', hH, ra, hF, rfl, nx⟩ := s2.up h2
    rw [hσ] at hσ'
    cases hσ'
    generalize z.toD = zd at hF r2
    cases zd with
    | int ki =>
      obtain ⟨j, hj, ej⟩ := Option.map_eq_some_iff.mp hF
      cases ej
      obtain ⟨ex, s3⟩ := nx _ (ra.set (r1.mono e2.same) j)
      exact ⟨a, vs, ki, j, rfl, rp_int r2, hH, by rw [ra.length]; exact hj, post _ _ G2 (e1.trans (e2.trans ex)) s3⟩
    | none => cases hF
    | bool _ => cases hF
    | str _ => cases hF
    | list _ => cases hF
    | tuple _ => cases hF
    | dict _ => cases hF
  · cases h1
theorem sndS_app {i : Nat} {x : Str} {p p2 p3 : Pos} (hN : X.N[i]? = some x) (hv : Vis X.env.scope x) (hd : (x == ("__debug__" : Str)) = false) (hcd : (x == ("__classdict__" : Str)) = false) (hn : notStar e = true) (hl : (p2.endLine == p3.line) = true)
    (ha : Snd X exs e f) : SndS X exs (.Expr (.Call (.Attribute (.Name x p) "append" p2) [e] [] p3) pos) fun g => if isM g i then sbnd (f g) fun y g => upM g i fun c => appM c y.toD else none := fun β g r hr σ H G Dn W sr post => by
  refine ws_of (ps_expr (pe_bm PySem.F.plainAttrs_list PySem.F.slot_list_append PySem.F.type_list_append mt_append (pe_var hN hv hd hcd) (pa_cons we_max pa_nil (star_of hn)) rfl (by rw [star_of hn]; rfl) hl (star_of hn) rfl) rfl) ?_
  dsimp only at hr
  split at hr
  · rename_i hm
    obtain ⟨a, ds0, vs0, hσ, _, h0, _⟩ := sr.mut hm
    refine ⟨_, hσ, .inl ⟨rfl, _, SqL.of h0⟩, ?_⟩
    refine ha.useSD hr sr post fun y g1 h1 v H1 G1 e1 s1 r1 => ?_
    obtain ⟨a', ds, ds', vs, g', hσ', hH, ra, hF, rfl, nx⟩ := s1.up h1
    rw [hσ] at hσ'
    cases hσ'
    simp only [appM] at hF
    split at hF
    · rename_i hsz
      cases hF
      obtain ⟨ex, s3⟩ := nx _ (ra.app (.cons r1 .nil))
      exact ⟨a, vs, v, rfl, rfl, hH, by rw [ra.length]; exact hsz, post _ _ G1 (e1.trans ex) s3⟩
    · cases hF
  · cases hr

/-! ### if, while, for -/
theorem sndS_ite {c : Expr} {a b : List Stmt} {fc : Sg → R Val} {fa fb : Sg → RS} (hc : SndT X exs c (tr fc)) (ha : SndSs X exs a fa) (hb : SndSs X exs b fb) :
    SndS X exs (.If c a b pos) fun g => sbnd (fc g) fun x g => match truth x.toD with
      | some true => fa g
      | some false => fb g
      | none => none := fun β g r hr σ H G Dn W sr post => by
  refine ws_of (ps_if wt_max wss_max wss_max) ?_
  have hr2 : sbnd (tr fc g) (fun k g => if k = true then fa g else fb g) = some r := by
    simp only [tr, bnd, sbnd] at hr ⊢
    revert hr
    rcases fc g with _ | ⟨x | x, g1⟩
    · exact fun h => h
    · dsimp only
      intro h
      cases ht : truth x.toD with
      | none =>
        rw [ht] at h
        cases h
      | some k =>
        rw [ht] at h
        cases k <;> exact h
    · exact fun h => h
  refine hc.useS hr2 sr post fun k g1 h1 H1 G1 e1 s1 => ?_
  cases k with
  | true =>
    rw [if_pos rfl] at h1 ⊢
    exact ha β g1 r h1 σ H1 G1 Dn W s1 (post.next e1)
  | false =>
    rw [if_neg Bool.false_ne_true] at h1 ⊢
    exact hb β g1 r h1 σ H1 G1 Dn W s1 (post.next e1)
theorem sndS_whl {c : Expr} {b : List Stmt} {fc : Sg → R Val} {fb : Sg → RS} (fuel : Nat) (po : PassesOwn (model X.prog X.w) X.A X.env X.xe) (hc : SndT X exs c (tr fc)) (hb : SndSs X exs b fb) :
    SndS X exs (.While c b [] pos) fun g => whlGo (tr fc) (fun g => fb g) fuel g := fun β g r hr σ H G Dn W sr post => by
  refine ws_of (ps_while po wt_max wss_max) ?_
  refine ⟨fun n σ H => ∃ G' g', Ext G' H G' H ∧ SR X.K β G' H g' σ ∧ whlGo (tr fc) fb n g' = some r ∧ Ps X exs β G' H Dn W r, ⟨fuel, G, g, .refl _ _, sr, hr, post⟩, ?_⟩
  rintro n σ H ⟨G, g, _, sr, hr, post⟩
  cases n with
  | zero => cases hr
  | succ n =>
    unfold whlGo at hr
    refine hc.useS hr sr post fun k g1 h1 H1 G1 e1 s1 => ?_
    have post1 := post.next e1
    cases k with
    | false =>
      rw [if_neg Bool.false_ne_true] at h1 ⊢
      cases h1
      exact post1 σ H1 G1 (.refl _ _) s1
    | true =>
      rw [if_pos rfl] at h1 ⊢
      refine ⟨fun σ' H' => ∃ G' g', Ext G' H' G' H' ∧ SR X.K β G' H' g' σ' ∧ whlGo (tr fc) fb n g' = some r ∧ Ps X exs β G' H' Dn W r, fun σ' H' h => ⟨n, Nat.lt_succ_self n, h⟩, ?_⟩
      cases hq : fb g1 with
      | none =>
        rw [hq] at h1
        cases h1
      | some z =>
        obtain ⟨fl, g2⟩ := z
        rw [hq] at h1
        refine hb β g1 _ hq σ H1 G1 _ W s1 ?_
        cases fl with
        | nx => exact fun σ' H' G' e s => ⟨G', g2, .refl _ _, s, h1, post1.next e⟩
        | ct => exact fun σ' H' G' e s => ⟨G', g2, .refl _ _, s, h1, post1.next e⟩
        | bk =>
          cases h1
          exact post1
        | rt x =>
          cases h1
          exact post1
        | ex x =>
          cases h1
          exact post1
theorem sndS_for {t : Tg} {tg iter : Expr} {b : List Stmt} {fs : Sg → R (List D)} {fb : Sg → RS} (po : PassesOwn (model X.prog X.w) X.A X.env X.xe) (hc : X.calm = true) (hg : PG X tg (tgRd X.K t)) (hs : ∀ x, foldedSetIterable iter X.env x = pure x)
    (hi : SndI X exs tg iter fs) (hb : SndSs X exs b fb) : SndS X exs (.For tg iter b [] pos) fun g => sbnd (fs g) fun xs g => forGo t (fun g => fb g) xs g := fun β g r hr σ H G Dn W sr post => by
  refine ws_of (ps_for po hc wi_max hg wss_max hs) ?_
  refine hi.useS hr sr post fun xs g1 h1 J H1 G1 e1 s1 it => ?_
  refine ⟨fun i m σ H => m = xs.length - i ∧ i ≤ xs.length ∧ ∃ G g, Same (Bh G1 H1) (Bh G H) ∧ SR X.K β G H g σ ∧ forGo t fb (xs.drop i) g = some r ∧ Ps X exs β G H Dn W r,
    ⟨xs.length, rfl, Nat.zero_le _, G1, g1, (fun _ _ h => h), s1, by rw [List.drop_zero]; exact h1, post.next e1⟩, ?_⟩
  rintro i m σ H ⟨rfl, hle, G, g, sm, sr, hgo, post⟩
  have it := it i G H sm sr.tag
  by_cases hlt : i < xs.length
  · right
    obtain ⟨go, yl⟩ := it.1 _ (List.getElem?_eq_getElem hlt)
    refine ⟨go, fun σ' H' => ∃ G g, Same (Bh G1 H1) (Bh G H') ∧ SR X.K β G H' g σ' ∧ forGo t fb (xs.drop (i + 1)) g = some r ∧ Ps X exs β G H' Dn W r, fun σ' H' h => ⟨xs.length - (i + 1), by omega, rfl, hlt, h⟩, fun x H' hy => ?_⟩
    obtain ⟨G', gr, rx⟩ := yl x H' hy
    rw [List.drop_eq_getElem_cons hlt] at hgo
    unfold forGo at hgo
    obtain ⟨ga, hga, hgo⟩ := Option.bind_eq_some_iff.mp hgo
    have s2 := sr.grow gr
    have post1 := post.next gr.toExt
    have sm1 := sm.trans gr.same
    refine @tg_imp X.K β G' H' t _ _ _ _ _ (fun σ2 H2 q => ?_) (asg_ok t hga s2 rx)
    obtain ⟨e2, s3, _⟩ := q
    subst e2
    cases hq : fb ga with
    | none =>
      rw [hq] at hgo
      cases hgo
    | some z =>
      obtain ⟨fl, g2⟩ := z
      rw [hq] at hgo
      refine hb β ga _ hq σ2 H2 G' _ W s3 ?_
      cases fl with
      | nx => exact fun σ' H' G'' e s => ⟨G'', g2, sm1.trans e.same, s, hgo, post1.next e⟩
      | ct => exact fun σ' H' G'' e s => ⟨G'', g2, sm1.trans e.same, s, hgo, post1.next e⟩
      | bk =>
        cases hgo
        exact post1
      | rt x =>
        cases hgo
        exact post1
      | ex x =>
        cases hgo
        exact post1
  · left
    have ei : i = xs.length := by omega
    refine ⟨it.2 (by omega), ?_⟩
    rw [ei, List.drop_length] at hgo
    cases hgo
    exact post σ H G (.refl _ _) sr
end
end Z

/-! Z8: a code renders a text: the checker, and that it suffices. -/
namespace Z
open PySem PySem.Spec PyProof.Rows L2

def vis (sc : Scope) (x : Str) : Bool :=
  match sc.names.lookup x with
  | some .local => true
  | some .cell => true
  | some .free => true
  | _ => false
def gl (sc : Scope) (x : Str) : Bool :=
  match sc.names.lookup x with
  | some .globalImplicit => true
  | _ => false
def isLoc (sc : Scope) (x : Str) : Bool :=
  match sc.names.lookup x with
  | some .local => true
  | some .cell => true
  | _ => false
def okNm (x : Str) : Bool := !(x == ("__debug__" : Str)) && !(x == ("__classdict__" : Str))
def noIf : Expr → Bool
  | .IfExp _ _ _ _ => false
  | _ => true
def notSet : Expr → Bool
  | .Set _ _ _ => false
  | _ => true
def isTupE : Expr → Bool
  | .Tuple _ _ _ => true
  | _ => false
theorem notSet_marks {e : Expr} (h : notSet e = true) (op : CmpOp) : behindInMarks op e = false := by
  cases e <;> first | rfl | (simp [notSet] at h)
theorem notSet_fold {e : Expr} (h : notSet e = true) (env : Env) (x : Value) : foldedSetIterable e env x = pure x := by
  cases e <;> first | rfl | (simp [notSet] at h)
def copEq (o : COp) (p : CmpOp) : Bool := decide (copOf o = p)
def bopEq (o : BOp) (p : Operator) : Bool := decide (opOf o = p)

section
variable (fns : List FnI) (cons : List (Str × D)) (N : List Str)
mutual
def chkE (sc asn : Scope) : C → Expr → Bool
  | .int i, e => match e with
    | .Constant (.int j) _ _ => decide (i = j)
    | _ => false
  | .bl b, e => match e with
    | .Constant (.bool c) _ _ => b == c
    | _ => false
  | .non, e => match e with
    | .Constant .none _ _ => true
    | _ => false
  | .str x, e => match e with
    | .Constant (.str y) _ _ => decide (x = y)
    | _ => false
  | .var i, e => match e with
    | .Name x _ => decide (N[i]? = some x) && vis sc x && okNm x
    | _ => false
  | .glb k, e => match e with
    | .Name x _ => decide ((cons[k]?).map (·.1) = some x) && gl sc x && okNm x
    | _ => false
  | .bin o a b, e => match e with
    | .BinOp x op y _ => bopEq o op && chkE sc asn a x && chkE sc asn b y
    | _ => false
  | .neg a, e => match e with
    | .UnaryOp .USub x _ => chkE sc asn a x
    | _ => false
  | .cmp o a b, e => match e with
    | .Compare x [op] [y] _ => copEq o op && notSet y && chkE sc asn a x && chkE sc asn b y
    | _ => false
  | .chain o p a b c, e => match e with
    | .Compare x [op, op2] [y, z] _ => copEq o op && copEq p op2 && notSet z && chkE sc asn a x && chkE sc asn b y && chkE sc asn c z
    | _ => false
  | .and a b, e => match e with
    | .BoolOp .And (x :: y :: r) pos => noIf x && chkE sc asn a x && (if r.isEmpty then noIf y && chkE sc asn b y else chkE sc asn b (.BoolOp .And (y :: r) pos))
    | _ => false
  | .or a b, e => match e with
    | .BoolOp .Or (x :: y :: r) pos => noIf x && chkE sc asn a x && (if r.isEmpty then noIf y && chkE sc asn b y else chkE sc asn b (.BoolOp .Or (y :: r) pos))
    | _ => false
  | .not a, e => match e with
    | .UnaryOp .Not x _ => noIf x && chkE sc asn a x
    | _ => false
  | .ite c a b, e => match e with
    | .IfExp z x y _ => noIf z && chkE sc asn c z && chkE sc asn a x && chkE sc asn b y
    | _ => false
  | .tup es, e => match e with
    | .Tuple xs _ _ => chkEs sc asn es xs
    | _ => false
  | .lst es, e => match e with
    | .List xs _ => chkEs sc asn es xs
    | _ => false
  | .idx a b, e => match e with
    | .Subscript x y _ => notSlice y && chkE sc asn a x && chkE sc asn b y
    | _ => false
  | .idxv i b, e => match e with
    | .Subscript (.Name x _) y _ => decide (N[i]? = some x) && vis sc x && okNm x && notSlice y && chkE sc asn b y
    | _ => false
  | .lenv i, e => match e with
    | .Call (.Name f _) [.Name x _] [] _ => decide (f = ("len" : Str)) && gl sc f && decide (N[i]? = some x) && vis sc x && okNm x
    | _ => false
  | .slc a lo hi, e => match e with
    | .Subscript x (.Slice l h none _) _ => chkE sc asn a x && chkO sc asn lo l && chkO sc asn hi h
    | _ => false
  | .call f n as, e => match e with
    | .Call (.Name x _) es [] _ => (match fns[f]? with
      | some i => decide (i.name = x) && decide (n = i.ps.length)
      | none => false) && gl sc x && okNm x && es.all notStar && chkAs sc asn as es
    | _ => false
  | .b1 o a, e => match e with
    | .Call (.Name f _) [x] [] _ => decide (f = b1N o) && gl sc f && notStar x && chkE sc asn a x
    | _ => false
  | .b2 o a b, e => match e with
    | .Call (.Name f _) [x, y] [] _ => decide (f = b2N o) && gl sc f && notStar x && notStar y && chkE sc asn a x && chkE sc asn b y
    | _ => false
  | .isi a t, e => match e with
    | .Call (.Name f _) [x, .Name ty _] [] _ => decide (f = ("isinstance" : Str)) && gl sc f && decide (ty = tyN t) && gl sc ty && notStar x && chkE sc asn a x
    | _ => false
  | .comp e t s q own, x => match x with
    | .ListComp elt [⟨tg, iter, ifs, a⟩] scope _ => decide (a = 0) && blkC N sc scope (own.map fun i => (N.getD i "", i)) && (tgIx t).all own.contains && chkTg (isLoc scope) N t tg && chkR sc asn s iter && notSet iter &&
      chkQ (relS scope sc) scope q ifs && chkE (relS scope sc) scope e elt
    | _ => false
def chkO (sc asn : Scope) : Co → Option Expr → Bool
  | .non, o => match o with
    | none => true
    | some _ => false
  | .som a, o => match o with
    | none => false
    | some e => chkE sc asn a e
def chkQ (sc asn : Scope) : Co → List Expr → Bool
  | .non, es => es.isEmpty
  | .som a, es => match es with
    | [e] => noIf e && chkE sc asn a e
    | _ => false
def chkEs (sc asn : Scope) : Cs → List Expr → Bool
  | .nil, es => es.isEmpty
  | .cons c cs, es => match es with
    | e :: es => notStar e && chkE sc asn c e && chkEs sc asn cs es
    | [] => false
def chkAs (sc asn : Scope) : As → List Expr → Bool
  | .nil, es => es.isEmpty
  | .val c cs, es => match es with
    | e :: es => notStar e && chkE sc asn c e && chkAs sc asn cs es
    | [] => false
  | .bor i cs, es => match es with
    | .Name x _ :: es => decide (N[i]? = some x) && vis sc x && okNm x && chkAs sc asn cs es
    | _ => false
def chkR (sc asn : Scope) : Sr → Expr → Bool
  | .seq a, e => chkE sc asn a e
  | .rng1 a, e => match e with
    | .Call (.Name f _) [x] [] _ => decide (f = ("range" : Str)) && gl sc f && notStar x && chkE sc asn a x
    | _ => false
  | .rng2 a b, e => match e with
    | .Call (.Name f _) [x, y] [] _ => decide (f = ("range" : Str)) && gl sc f && notStar x && notStar y && chkE sc asn a x && chkE sc asn b y
    | _ => false
end
end

/-! ### it suffices -/
theorem vis_ok {sc : Scope} {x : Str} (h : vis sc x = true) : Vis sc x := by
  unfold vis at h
  split at h
  · rename_i q
    exact .inl q
  · rename_i q
    exact .inr (.inl q)
  · rename_i q
    exact .inr (.inr q)
  · cases h
theorem gl_ok {X : Cx} {sc : Scope} {x : Str} (hs : X.env.scope = sc) (h : gl sc x = true) : Gl X x := by
  unfold gl at h
  split at h
  · rename_i q
    show X.env.scope.names.lookup x = _
    rw [hs]
    exact q
  · cases h
theorem okNm_ok {x : Str} (h : okNm x = true) : (x == ("__debug__" : Str)) = false ∧ (x == ("__classdict__" : Str)) = false := by
  unfold okNm at h
  rw [Bool.and_eq_true, Bool.not_eq_true', Bool.not_eq_true'] at h
  exact h
theorem loc_ok {sc : Scope} {x : Str} (h : isLoc sc x = true) : sc.names.lookup x = some .local ∨ sc.names.lookup x = some .cell := by
  unfold isLoc at h
  split at h
  · rename_i q
    exact .inl q
  · rename_i q
    exact .inr q
  · cases h
theorem bi_b1 (o : B1) : b1N o ∈ biNames := by cases o <;> decide +kernel
theorem bi_b2 (o : B2) : b2N o ∈ biNames := by cases o <;> decide +kernel
theorem bi_ty (o : Ty) : tyN o ∈ biNames := by cases o <;> decide +kernel
theorem bi_len : ("len" : Str) ∈ biNames := by decide +kernel
theorem bi_isi : ("isinstance" : Str) ∈ biNames := by decide +kernel
theorem bi_rng : ("range" : Str) ∈ biNames := by decide +kernel
section
variable {Γ : Call} {cons : List (Str × D)} {fns : List FnI} {exs : Nat → Option Addr}
theorem Wf.blk {X : Cx} {sc asn : Scope} (w : Wf X Γ cons fns exs sc (isLoc asn)) (scope : Scope) (s : Shared) (H : Hp) (Ca : Addr) (cl : List (Str × Addr)) (fp : List Addr) :
    Wf (blkX X scope s H Ca cl fp) Γ cons fns exs (relS scope sc) (isLoc scope) where
  scp := by
    show relS scope X.env.scope = _
    rw [w.scp]
  calm := w.calm
  nd := w.nd
  gd := w.gd
  un := w.un
  glb := w.glb
  bi := w.bi
  fn := fun f i h => ⟨(w.fn f i h).ex⟩
  asn := fun x h => by
    rcases loc_ok h with q | q
    · have z : (relS scope sc).names.lookup x = some .local := lookup_relS_keep (by decide) q
      exact ⟨.inl z, .inr z⟩
    · have z : (relS scope sc).names.lookup x = some .cell := lookup_relS_keep (by decide) q
      exact ⟨.inr z, .inl (by show (scope.names.lookup x == some .cell) = true; rw [q]; rfl)⟩
theorem map_fst {cons : List (Str × D)} {k : Nat} {x : Str} (h : (cons[k]?).map (·.1) = some x) : ∃ d, cons[k]? = some (x, d) := by
  obtain ⟨⟨y, d⟩, h1, h2⟩ := Option.map_eq_some_iff.mp h
  cases h2
  exact ⟨d, h1⟩
/-- both readings of an expression -/
def Both (X : Cx) (exs : Nat → Option Addr) (e : Expr) (f : Sg → R Val) : Prop := Snd X exs e f ∧ (noIf e = true → SndT X exs e (tr f))
theorem both_plain {X : Cx} {e : Expr} {f : Sg → R Val} (h : Snd X exs e f) (p : plainTest e = true) : Both X exs e f := ⟨h, fun _ => sndT_plain p h⟩
structure CompParts (X : Cx) (Γ : Call) (cons : List (Str × D)) (exs : Nat → Option Addr) (tg iter : Expr) (ifs : List Expr) (elt : Expr) (scope : Scope) (e : C) (t : Tg) (s : Sr) (q : Co) (own : List Nat) : Prop where
  okB : BlkOk X.N X.env.scope scope (own.map fun i => (X.N.getD i "", i))
  hown : (own.map fun i => (X.N.getD i ("" : Str), i)).map (·.2) = own
  tin : ∀ j, j ∈ tgIx t → j ∈ own
  hg : ∀ s H Ca cl fp, PG (blkX X scope s H Ca cl fp) tg (tgRd X.K t)
  hi : SndI X exs tg iter (evr Γ cons s)
  hq : ∀ s H Ca cl fp, SndQ (blkX X scope s H Ca cl fp) exs ifs (evq Γ cons q)
  he : ∀ s H Ca cl fp, Snd (blkX X scope s H Ca cl fp) exs elt (ev Γ cons e)
  hs : ∀ x, foldedSetIterable iter X.env x = pure x
theorem map_own {N : List Str} (own : List Nat) : (own.map fun i => (N.getD i ("" : Str), i)).map (·.2) = own := by
  induction own with
  | nil => rfl
  | cons a r ih =>
    rw [List.map_cons, List.map_cons, ih]
mutual
theorem snd_all : ∀ (c : C) (sc asn : Scope) (X : Cx) (e : Expr), Wf X Γ cons fns exs sc (isLoc asn) → chkE fns cons X.N sc asn c e = true → Both X exs e (ev Γ cons c)
  | .int i, sc, asn, X, e, w, h => by
    simp only [chkE] at h
    split at h
    · rw [← of_decide_eq_true h]
      exact both_plain (snd_int i) rfl
    · cases h
  | .bl b, sc, asn, X, e, w, h => by
    simp only [chkE] at h
    split at h
    · rw [← eq_of_beq h]
      exact both_plain (snd_bl b) rfl
    · cases h
  | .non, sc, asn, X, e, w, h => by
    simp only [chkE] at h
    split at h
    · exact both_plain snd_non rfl
    · cases h
  | .str x, sc, asn, X, e, w, h => by
    simp only [chkE] at h
    split at h
    · rw [← of_decide_eq_true h]
      exact both_plain (snd_str x) rfl
    · cases h
  | .var i, sc, asn, X, e, w, h => by
    simp only [chkE] at h
    split at h
    · simp only [Bool.and_eq_true, decide_eq_true_eq] at h
      obtain ⟨n1, n2⟩ := okNm_ok h.2
      exact both_plain (snd_var h.1.1 (w.scp ▸ vis_ok h.1.2) n1 n2) rfl
    · cases h
  | .glb k, sc, asn, X, e, w, h => by
    simp only [chkE] at h
    split at h
    · simp only [Bool.and_eq_true, decide_eq_true_eq] at h
      obtain ⟨d, hd⟩ := map_fst h.1.1
      exact both_plain (snd_glb hd (gl_ok w.scp h.1.2) (w.glb k _ d hd) (okNm_ok h.2).1) rfl
    · cases h
  | .bin o a b, sc, asn, X, e, w, h => by
    simp only [chkE] at h
    split at h
    · simp only [Bool.and_eq_true] at h
      have ha := (snd_all a sc asn X _ w h.1.2).1
      have hb := (snd_all b sc asn X _ w h.2).1
      rw [← of_decide_eq_true (show decide (opOf o = _) = true from h.1.1)]
      exact both_plain (snd_bin o ha hb) rfl
    · cases h
  | .neg a, sc, asn, X, e, w, h => by
    simp only [chkE] at h
    split at h
    · exact both_plain (snd_neg (snd_all a sc asn X _ w h).1) rfl
    · cases h
  | .cmp o a b, sc, asn, X, e, w, h => by
    simp only [chkE] at h
    split at h
    · simp only [Bool.and_eq_true] at h
      have ha := (snd_all a sc asn X _ w h.1.2).1
      have hb := (snd_all b sc asn X _ w h.2).1
      rw [← of_decide_eq_true (show decide (copOf o = _) = true from h.1.1.1)]
      exact ⟨snd_cmp w.un o ha hb (notSet_marks h.1.1.2 _), fun _ => sndT_cmp' w.un o ha hb (notSet_marks h.1.1.2 _)⟩
    · cases h
  | .chain o p a b c, sc, asn, X, e, w, h => by
    simp only [chkE] at h
    split at h
    · simp only [Bool.and_eq_true] at h
      have ha := (snd_all a sc asn X _ w h.1.1.2).1
      have hb := (snd_all b sc asn X _ w h.1.2).1
      have hc := (snd_all c sc asn X _ w h.2).1
      rw [← of_decide_eq_true (show decide (copOf o = _) = true from h.1.1.1.1.1), ← of_decide_eq_true (show decide (copOf p = _) = true from h.1.1.1.1.2)]
      exact ⟨snd_chain w.un o p ha hb hc (notSet_marks h.1.1.1.2 _), fun _ => sndT_chain' w.un o p ha hb hc (notSet_marks h.1.1.1.2 _)⟩
    · cases h
  | .and a b, sc, asn, X, e, w, h => by
    simp only [chkE] at h
    split at h
    · rename_i x y r pos
      simp only [Bool.and_eq_true] at h
      have ha := snd_all a sc asn X _ w h.1.2
      obtain ⟨z, hz, hb, hn⟩ : ∃ z, Rest X .And (y :: r) pos z ∧ Both X exs z (ev Γ cons b) ∧ noIf z = true := by
        have h2 := h.2
        split at h2
        · rename_i he
          rw [Bool.and_eq_true] at h2
          rw [List.isEmpty_iff] at he
          subst he
          exact ⟨y, .inl rfl, snd_all b sc asn X _ w h2.2, h2.1⟩
        · exact ⟨_, .inr rfl, snd_all b sc asn X _ w h2, rfl⟩
      exact ⟨snd_and hz ha.1 hb.1, fun _ => sndT_and hz (ha.2 h.1.1) (hb.2 hn)⟩
    · cases h
  | .or a b, sc, asn, X, e, w, h => by
    simp only [chkE] at h
    split at h
    · rename_i x y r pos
      simp only [Bool.and_eq_true] at h
      have ha := snd_all a sc asn X _ w h.1.2
      obtain ⟨z, hz, hb, hn⟩ : ∃ z, Rest X .Or (y :: r) pos z ∧ Both X exs z (ev Γ cons b) ∧ noIf z = true := by
        have h2 := h.2
        split at h2
        · rename_i he
          rw [Bool.and_eq_true] at h2
          rw [List.isEmpty_iff] at he
          subst he
          exact ⟨y, .inl rfl, snd_all b sc asn X _ w h2.2, h2.1⟩
        · exact ⟨_, .inr rfl, snd_all b sc asn X _ w h2, rfl⟩
      exact ⟨snd_or hz ha.1 hb.1, fun _ => sndT_or hz (ha.2 h.1.1) (hb.2 hn)⟩
    · cases h
  | .not a, sc, asn, X, e, w, h => by
    simp only [chkE] at h
    split at h
    · rw [Bool.and_eq_true] at h
      have ha := snd_all a sc asn X _ w h.2
      exact ⟨snd_not ha.1, fun _ => sndT_not (ha.2 h.1)⟩
    · cases h
  | .ite c a b, sc, asn, X, e, w, h => by
    simp only [chkE] at h
    split at h
    · simp only [Bool.and_eq_true] at h
      have hc := (snd_all c sc asn X _ w h.1.1.2).2 h.1.1.1
      have ha := (snd_all a sc asn X _ w h.1.2).1
      have hb := (snd_all b sc asn X _ w h.2).1
      exact ⟨snd_ite hc ha hb, fun q => by cases q⟩
    · cases h
  | .tup es, sc, asn, X, e, w, h => by
    simp only [chkE] at h
    split at h
    · exact both_plain (snd_tup (snd_es es sc asn X _ w h)) rfl
    · cases h
  | .lst es, sc, asn, X, e, w, h => by
    simp only [chkE] at h
    split at h
    · exact both_plain (snd_lst (snd_es es sc asn X _ w h)) rfl
    · cases h
  | .idx a b, sc, asn, X, e, w, h => by
    simp only [chkE] at h
    split at h
    · simp only [Bool.and_eq_true] at h
      exact both_plain (snd_idx h.1.1 (snd_all a sc asn X _ w h.1.2).1 (snd_all b sc asn X _ w h.2).1) rfl
    · cases h
  | .idxv i b, sc, asn, X, e, w, h => by
    simp only [chkE] at h
    split at h
    · simp only [Bool.and_eq_true, decide_eq_true_eq] at h
      obtain ⟨n1, n2⟩ := okNm_ok h.1.1.2
      exact both_plain (snd_idxv h.1.1.1.1 (w.scp ▸ vis_ok h.1.1.1.2) n1 n2 h.1.2 (snd_all b sc asn X _ w h.2).1) rfl
    · cases h
  | .lenv i, sc, asn, X, e, w, h => by
    simp only [chkE] at h
    split at h
    · simp only [Bool.and_eq_true, decide_eq_true_eq] at h
      obtain ⟨⟨⟨⟨rfl, h2⟩, h3⟩, h4⟩, h5⟩ := h
      obtain ⟨n1, n2⟩ := okNm_ok h5
      exact both_plain (snd_lenv h3 (w.scp ▸ vis_ok h4) n1 n2 (gl_ok w.scp h2) (w.bi _ bi_len) (by have := w.un; omega) w.calm w.gd) rfl
    · cases h
  | .slc a lo hi, sc, asn, X, e, w, h => by
    simp only [chkE] at h
    split at h
    · simp only [Bool.and_eq_true] at h
      exact both_plain (snd_slc (snd_all a sc asn X _ w h.1.1).1 (snd_o lo sc asn X _ w h.1.2) (snd_o hi sc asn X _ w h.2)) rfl
    · cases h
  | .call f n as, sc, asn, X, e, w, h => by
    simp only [chkE] at h
    split at h
    · rename_i x p es pos
      simp only [Bool.and_eq_true] at h
      obtain ⟨⟨⟨⟨h1, h2⟩, h3⟩, h4⟩, h5⟩ := h
      split at h1
      · rename_i i hf
        rw [Bool.and_eq_true, decide_eq_true_eq, decide_eq_true_eq] at h1
        obtain ⟨rfl, rfl⟩ := h1
        have F := w.fn f i hf
        have hs := snd_as as sc asn X es w h5
        cases es with
        | nil =>
          cases as with
          | nil => exact both_plain (snd_call0 F w.gd (gl_ok w.scp h2) (okNm_ok h3).1) rfl
          | val _ _ => cases h5
          | bor _ _ => cases h5
        | cons e es =>
          rw [List.all_cons, Bool.and_eq_true] at h4
          exact both_plain (snd_call F w.gd (gl_ok w.scp h2) (okNm_ok h3).1 h4.1 h4.2 hs) rfl
      · cases h1
    · cases h
  | .b1 o a, sc, asn, X, e, w, h => by
    simp only [chkE] at h
    split at h
    · simp only [Bool.and_eq_true, decide_eq_true_eq] at h
      obtain ⟨⟨⟨rfl, h2⟩, h3⟩, h4⟩ := h
      exact both_plain (snd_b1 w.calm w.gd (by have := w.un; omega) o (gl_ok w.scp h2) (w.bi _ (bi_b1 o)) h3 (snd_all a sc asn X _ w h4).1) rfl
    · cases h
  | .b2 o a b, sc, asn, X, e, w, h => by
    simp only [chkE] at h
    split at h
    · simp only [Bool.and_eq_true, decide_eq_true_eq] at h
      obtain ⟨⟨⟨⟨⟨rfl, h2⟩, h3⟩, h4⟩, h5⟩, h6⟩ := h
      exact both_plain (snd_b2 w.calm o (gl_ok w.scp h2) (w.bi _ (bi_b2 o)) h3 h4 (snd_all a sc asn X _ w h5).1 (snd_all b sc asn X _ w h6).1) rfl
    · cases h
  | .isi a t, sc, asn, X, e, w, h => by
    simp only [chkE] at h
    split at h
    · simp only [Bool.and_eq_true, decide_eq_true_eq] at h
      obtain ⟨⟨⟨⟨⟨rfl, h2⟩, rfl⟩, h4⟩, h5⟩, h6⟩ := h
      exact both_plain (snd_isi t (gl_ok w.scp h2) (w.bi _ bi_isi) (gl_ok w.scp h4) (w.bi _ (bi_ty t)) h5 (snd_all a sc asn X _ w h6).1) rfl
    · cases h
  | .comp e t s q own, sc, asn, X, x, w, h => by
    simp only [chkE] at h
    split at h
    · rename_i elt tg iter ifs a scope pos
      simp only [Bool.and_eq_true, decide_eq_true_eq] at h
      obtain ⟨⟨⟨⟨⟨⟨⟨rfl, h2⟩, h3⟩, h4⟩, h5⟩, h6⟩, h7⟩, h8⟩ := h
      have wb := fun s H Ca cl fp => w.blk scope s H Ca cl fp
      have okB : BlkOk X.N X.env.scope scope (own.map fun i => (X.N.getD i "", i)) := w.scp ▸ blkOk_by h2
      exact both_plain (snd_comp w.calm w.nd okB (map_own own) (fun j hj => by simpa using List.all_eq_true.mp h3 j hj)
        (fun s H Ca cl fp => pg_of (wb s H Ca cl fp).calm (wb s H Ca cl fp).nd (fun x hx => by rw [(wb s H Ca cl fp).scp]; exact (wb s H Ca cl fp).asn x hx) t tg h4)
        (snd_r s sc asn X tg iter w h5) (fun s H Ca cl fp => snd_q q (relS scope sc) scope _ ifs (wb s H Ca cl fp) h7) (fun s H Ca cl fp => (snd_all e (relS scope sc) scope _ elt (wb s H Ca cl fp) h8).1)
        (notSet_fold h6 X.env)) rfl
    · cases h
theorem snd_o : ∀ (c : Co) (sc asn : Scope) (X : Cx) (o : Option Expr), Wf X Γ cons fns exs sc (isLoc asn) → chkO fns cons X.N sc asn c o = true → SndO X exs o (evo Γ cons c)
  | .non, sc, asn, X, o, w, h => by
    simp only [chkO] at h
    split at h
    · exact sndO_non
    · cases h
  | .som a, sc, asn, X, o, w, h => by
    simp only [chkO] at h
    split at h
    · cases h
    · exact sndO_som (snd_all a sc asn X _ w h).1
theorem snd_q : ∀ (c : Co) (sc asn : Scope) (X : Cx) (es : List Expr), Wf X Γ cons fns exs sc (isLoc asn) → chkQ fns cons X.N sc asn c es = true → SndQ X exs es (evq Γ cons c)
  | .non, sc, asn, X, es, w, h => by
    simp only [chkQ, List.isEmpty_iff] at h
    subst h
    exact sndQ_non
  | .som a, sc, asn, X, es, w, h => by
    simp only [chkQ] at h
    split at h
    · rw [Bool.and_eq_true] at h
      exact sndQ_som ((snd_all a sc asn X _ w h.2).2 h.1)
    · cases h
theorem snd_es : ∀ (c : Cs) (sc asn : Scope) (X : Cx) (es : List Expr), Wf X Γ cons fns exs sc (isLoc asn) → chkEs fns cons X.N sc asn c es = true → SndA X exs es (evs Γ cons c)
  | .nil, sc, asn, X, es, w, h => by
    simp only [chkEs, List.isEmpty_iff] at h
    subst h
    exact sndA_nil
  | .cons c cs, sc, asn, X, es, w, h => by
    simp only [chkEs] at h
    split at h
    · simp only [Bool.and_eq_true] at h
      exact sndA_cons h.1.1 (snd_all c sc asn X _ w h.1.2).1 (snd_es cs sc asn X _ w h.2)
    · cases h
theorem snd_as : ∀ (c : As) (sc asn : Scope) (X : Cx) (es : List Expr), Wf X Γ cons fns exs sc (isLoc asn) → chkAs fns cons X.N sc asn c es = true → SndR X exs es (evas Γ cons c)
  | .nil, sc, asn, X, es, w, h => by
    simp only [chkAs, List.isEmpty_iff] at h
    subst h
    exact sndR_nil
  | .val c cs, sc, asn, X, es, w, h => by
    simp only [chkAs] at h
    split at h
    · simp only [Bool.and_eq_true] at h
      exact sndR_val h.1.1 (snd_all c sc asn X _ w h.1.2).1 (snd_as cs sc asn X _ w h.2)
    · cases h
  | .bor i cs, sc, asn, X, es, w, h => by
    simp only [chkAs] at h
    split at h
    · simp only [Bool.and_eq_true, decide_eq_true_eq] at h
      obtain ⟨n1, n2⟩ := okNm_ok h.1.2
      exact sndR_bor h.1.1.1 (w.scp ▸ vis_ok h.1.1.2) n1 n2 (snd_as cs sc asn X _ w h.2)
    · cases h
theorem snd_r : ∀ (c : Sr) (sc asn : Scope) (X : Cx) (tg e : Expr), Wf X Γ cons fns exs sc (isLoc asn) → chkR fns cons X.N sc asn c e = true → SndI X exs tg e (evr Γ cons c)
  | .seq a, sc, asn, X, tg, e, w, h => sndI_seq (snd_all a sc asn X e w h).1
  | .rng1 a, sc, asn, X, tg, e, w, h => by
    simp only [chkR] at h
    split at h
    · simp only [Bool.and_eq_true, decide_eq_true_eq] at h
      obtain ⟨⟨⟨rfl, h2⟩, h3⟩, h4⟩ := h
      exact sndI_rng1 (gl_ok w.scp h2) (w.bi _ bi_rng) h3 (snd_all a sc asn X _ w h4).1
    · cases h
  | .rng2 a b, sc, asn, X, tg, e, w, h => by
    simp only [chkR] at h
    split at h
    · simp only [Bool.and_eq_true, decide_eq_true_eq] at h
      obtain ⟨⟨⟨⟨⟨rfl, h2⟩, h3⟩, h4⟩, h5⟩, h6⟩ := h
      exact sndI_rng2 (gl_ok w.scp h2) (w.bi _ bi_rng) h3 h4 (snd_all a sc asn X _ w h5).1 (snd_all b sc asn X _ w h6).1
    · cases h
end
end
end Z

/-! Z9: the checker for statements; a def keeps what the machine answers. -/
namespace Z
open PySem PySem.Spec PyProof.Rows L2

def swapOff (v : Expr) : Bool :=
  match v with
  | .Tuple vs _ _ => vs.all (foldedForSure 8)
  | _ => true
def isL (sc : Scope) (x : Str) : Bool :=
  match sc.names.lookup x with
  | some .local => true
  | _ => false
theorem isL_ok {sc : Scope} {x : Str} (h : isL sc x = true) : sc.names.lookup x = some .local := by
  unfold isL at h
  split at h
  · assumption
  · cases h
theorem swap_off {ts : List Expr} {v : Expr} (h : swapOff v = true) (env : Env) : swappedStores ts v env = pure none := by
  unfold swappedStores
  split
  · rename_i ts' vs' hm
    have hf : vs'.all (foldedForSure 8) = true := by
      split at hm
      · cases hm
        exact h
      · cases hm
        exact h
      · cases hm
    simp only [hf, if_true]
    split
    · rfl
    · split
      · rfl
      · split <;> rfl
  · rfl
theorem swap_two {x y : Str} {px py pt pt2 : Pos} {kt k2 : Nat} {a b : Expr} {env : Env} (hk : env.scope.kind = .function) (hx : env.scope.names.lookup x = some .local) (hy : env.scope.names.lookup y = some .local) (hl : py.line = px.line) (hxy : x ≠ y)
    (na : notStar a = true) (nb : notStar b = true) (hf : (foldedForSure 8 a && foldedForSure 8 b) = false) (hc : (constantsAlone 8 a && constantsAlone 8 b) = false) :
    swappedStores [.Tuple [.Name x px, .Name y py] kt pt] (.Tuple [a, b] k2 pt2) env = pure (some [x, y]) := by
  have k1 : env.kindOf x = some .local := hx
  have k2' : env.kindOf y = some .local := hy
  have bk : env.blockKind = .function := by
    unfold Env.blockKind
    rw [hk]
    rfl
  have hxy' : (x == y) = false := by simpa using hxy
  have ed : [x, y].eraseDups = [x, y] := by
    rw [List.eraseDups_cons]
    simp [Ne.symm hxy, List.eraseDups_cons]
  have al : [a, b].all (foldedForSure 8) = false := by
    simp only [List.all_cons, List.all_nil, Bool.and_true]
    exact hf
  have al2 : [a, b].all (constantsAlone 8) = false := by
    simp only [List.all_cons, List.all_nil, Bool.and_true]
    exact hc
  unfold swappedStores
  simp only [bk]
  simp [k1, k2', hl, ed, hf, hc, Expr.pos]
  intro h
  exfalso
  rcases h with h | h
  · cases a <;> first | (cases h; done) | (simp [notStar] at na; done)
  · cases b <;> first | (cases h; done) | (simp [notStar] at nb; done)

section
variable (fns : List FnI) (cons : List (Str × D)) (N : List Str)
mutual
def chkS (sc asn : Scope) : S → Stmt → Bool
  | .set i _ e, st => match st with
    | .Assign [.Name x _] v _ => decide (N[i]? = some x) && isLoc asn x && chkE fns cons N sc asn e v && (!isCompr v || decide (sc.kind = .function))
    | _ => false
  | .par i j _ _ a b, st => match st with
    | .Assign [.Tuple [.Name x px, .Name y py] _ _] (.Tuple [u, v] _ _) _ => decide (N[i]? = some x) && decide (N[j]? = some y) && decide (i ≠ j) && decide (x ≠ y) && isL sc x && isL sc y && decide (sc.kind = .function) && decide (py.line = px.line) &&
      notStar u && notStar v && !(foldedForSure 8 u && foldedForSure 8 v) && !(constantsAlone 8 u && constantsAlone 8 v) && chkE fns cons N sc asn a u && chkE fns cons N sc asn b v
    | _ => false
  | .asg t e, st => match st with
    | .Assign [tg] v _ => chkTg (isLoc asn) N t tg && !isCompr v && swapOff v && chkE fns cons N sc asn e v
    | _ => false
  | .put i k e, st => match st with
    | .Assign [.Subscript (.Name x _) u _] v _ => decide (N[i]? = some x) && vis sc x && okNm x && notSlice u && !isCompr v && chkE fns cons N sc asn e v && chkE fns cons N sc asn k u
    | _ => false
  | .app i e, st => match st with
    | .Expr (.Call (.Attribute (.Name x _) m p2) [v] [] p3) _ => decide (m = ("append" : Str)) && decide (N[i]? = some x) && vis sc x && okNm x && notStar v && (p2.endLine == p3.line) && chkE fns cons N sc asn e v
    | _ => false
  | .exp e, st => match st with
    | .Expr v _ => !isCompr v && chkE fns cons N sc asn e v
    | _ => false
  | .ret e, st => match st with
    | .Return (some v) _ => chkE fns cons N sc asn e v
    | _ => false
  | .retN, st => match st with
    | .Return none _ => true
    | _ => false
  | .ite c a b, st => match st with
    | .If x u v _ => noIf x && chkE fns cons N sc asn c x && chkSs sc asn a u && chkSs sc asn b v
    | _ => false
  | .whl c b, st => match st with
    | .While x u [] _ => noIf x && chkE fns cons N sc asn c x && chkSs sc asn b u
    | _ => false
  | .for t s b, st => match st with
    | .For tg it u [] _ => chkTg (isLoc asn) N t tg && notSet it && chkR fns cons N sc asn s it && chkSs sc asn b u
    | _ => false
  | .raise _ _, _ => true
  | .pass, st => match st with
    | .Pass _ => true
    | _ => false
  | .brk, st => match st with
    | .Break _ => true
    | _ => false
  | .cont, st => match st with
    | .Continue _ => true
    | _ => false
def chkSs (sc asn : Scope) : Ss → List Stmt → Bool
  | .nil, st => st.isEmpty
  | .cons s r, st => match st with
    | x :: xs => chkS sc asn s x && chkSs sc asn r xs
    | [] => false
end
end
section
variable {Γ : Call} {cons : List (Str × D)} {fns : List FnI} {exs : Nat → Option Addr}
/-- the parts of a comprehension -/
theorem comp_parts {e : C} {t : Tg} {s : Sr} {q : Co} {own : List Nat} {sc asn scope : Scope} {X : Cx} {elt tg iter : Expr} {ifs : List Expr} {a : Int} {pos : Pos} (w : Wf X Γ cons fns exs sc (isLoc asn))
    (h : chkE fns cons X.N sc asn (.comp e t s q own) (.ListComp elt [⟨tg, iter, ifs, a⟩] scope pos) = true) : a = 0 ∧ CompParts X Γ cons exs tg iter ifs elt scope e t s q own := by
  simp only [chkE, Bool.and_eq_true, decide_eq_true_eq] at h
  obtain ⟨⟨⟨⟨⟨⟨⟨rfl, h2⟩, h3⟩, h4⟩, h5⟩, h6⟩, h7⟩, h8⟩ := h
  have wb := fun s H Ca cl fp => w.blk scope s H Ca cl fp
  exact ⟨rfl, w.scp ▸ blkOk_by h2, map_own own, fun j hj => by simpa using List.all_eq_true.mp h3 j hj,
    fun s H Ca cl fp => pg_of (wb s H Ca cl fp).calm (wb s H Ca cl fp).nd (fun x hx => by rw [(wb s H Ca cl fp).scp]; exact (wb s H Ca cl fp).asn x hx) t tg h4,
    snd_r s sc asn X tg iter w h5, fun s H Ca cl fp => snd_q q (relS scope sc) scope _ ifs (wb s H Ca cl fp) h7, fun s H Ca cl fp => (snd_all e (relS scope sc) scope _ elt (wb s H Ca cl fp) h8).1, notSet_fold h6 X.env⟩
theorem compr_is {e : C} {v : Expr} {sc asn : Scope} {N : List Str} (h : chkE fns cons N sc asn e v = true) (hc : isCompr v = true) : ∃ c t s q own elt tg iter ifs a scope pos, e = .comp c t s q own ∧ v = .ListComp elt [⟨tg, iter, ifs, a⟩] scope pos := by
  cases e <;> simp only [chkE] at h <;> (split at h) <;> first
    | (cases h; done)
    | (simp [isCompr] at hc; done)
    | exact ⟨_, _, _, _, _, _, _, _, _, _, _, _, rfl, rfl⟩
variable {X : Cx} (po : PassesOwn (model X.prog X.w) X.A X.env X.xe) (fuel : Nat)
include po
mutual
theorem snd_st (sc asn : Scope) (w : Wf X Γ cons fns exs sc (isLoc asn)) : ∀ (s : S) (st : Stmt), chkS fns cons X.N sc asn s st = true → SndS X exs st (evS Γ cons fuel s)
  | .set i own e, st, h => by
    simp only [chkS] at h
    split at h
    · rename_i x p v pos
      simp only [Bool.and_eq_true, decide_eq_true_eq, Bool.or_eq_true, Bool.not_eq_true'] at h
      obtain ⟨⟨⟨h1, h2⟩, h3⟩, h4⟩ := h
      obtain ⟨l1, l2⟩ := w.asn x h2
      rw [← w.scp] at l1 l2
      cases hc : isCompr v with
      | false => exact sndS_set w.nd h1 l1 l2 hc (snd_all e sc asn X v w h3).1
      | true =>
        obtain ⟨c, t, s, q, ow, elt, tg, iter, ifs, a, scope, pos2, rfl, rfl⟩ := compr_is h3 hc
        obtain ⟨rfl, P⟩ := comp_parts w h3
        have kd : X.env.blockKind = .function := by
          rcases h4 with h4 | h4
          · rw [hc] at h4
            cases h4
          · unfold Env.blockKind
            rw [w.scp, h4]
            rfl
        exact sndS_setLc w.nd h1 l1 l2 kd w.calm P.okB P.hown P.tin P.hg P.hi P.hq P.he P.hs
    · cases h
  | .par i j p q a b, st, h => by
    simp only [chkS] at h
    split at h
    · simp only [Bool.and_eq_true, decide_eq_true_eq, Bool.not_eq_true'] at h
      obtain ⟨⟨⟨⟨⟨⟨⟨⟨⟨⟨⟨⟨⟨h1, h2⟩, h3⟩, h4⟩, h5⟩, h6⟩, h7⟩, h8⟩, h9⟩, h10⟩, h11⟩, h12⟩, h13⟩, h14⟩ := h
      have e5 := isL_ok h5
      have e6 := isL_ok h6
      rw [← w.scp] at e5 e6 h7
      exact sndS_par w.calm w.nd h1 h2 h3 e5 e6 h9 h10 (swap_two h7 e5 e6 h8 h4 h9 h10 h11 h12) (snd_all a sc asn X _ w h13).1 (snd_all b sc asn X _ w h14).1
    · cases h
  | .asg t e, st, h => by
    simp only [chkS] at h
    split at h
    · simp only [Bool.and_eq_true, Bool.not_eq_true'] at h
      obtain ⟨⟨⟨h1, h2⟩, h3⟩, h4⟩ := h
      exact sndS_asg (pg_of w.calm w.nd (fun x hx => by rw [w.scp]; exact w.asn x hx) t _ h1) (tg_notStar h1) h2 (swap_off h3 _) (snd_all e sc asn X _ w h4).1
    · cases h
  | .put i k e, st, h => by
    simp only [chkS] at h
    split at h
    · simp only [Bool.and_eq_true, decide_eq_true_eq, Bool.not_eq_true'] at h
      obtain ⟨⟨⟨⟨⟨⟨h1, h2⟩, h3⟩, h4⟩, h5⟩, h6⟩, h7⟩ := h
      obtain ⟨n1, n2⟩ := okNm_ok h3
      exact sndS_put h1 (w.scp ▸ vis_ok h2) n1 n2 h4 h5 (snd_all e sc asn X _ w h6).1 (snd_all k sc asn X _ w h7).1
    · cases h
  | .app i e, st, h => by
    simp only [chkS] at h
    split at h
    · simp only [Bool.and_eq_true, decide_eq_true_eq] at h
      obtain ⟨⟨⟨⟨⟨⟨rfl, h2⟩, h3⟩, h4⟩, h5⟩, h6⟩, h7⟩ := h
      obtain ⟨n1, n2⟩ := okNm_ok h4
      exact sndS_app h2 (w.scp ▸ vis_ok h3) n1 n2 h5 h6 (snd_all e sc asn X _ w h7).1
    · cases h
  | .exp e, st, h => by
    simp only [chkS] at h
    split at h
    · simp only [Bool.and_eq_true, Bool.not_eq_true'] at h
      exact sndS_exp h.1 (snd_all e sc asn X _ w h.2).1
    · cases h
  | .ret e, st, h => by
    simp only [chkS] at h
    split at h
    · exact sndS_ret (snd_all e sc asn X _ w h).1
    · cases h
  | .retN, st, h => by
    simp only [chkS] at h
    split at h
    · exact sndS_retN
    · cases h
  | .ite c a b, st, h => by
    simp only [chkS] at h
    split at h
    · simp only [Bool.and_eq_true] at h
      exact sndS_ite ((snd_all c sc asn X _ w h.1.1.2).2 h.1.1.1) (snd_sts sc asn w a _ h.1.2) (snd_sts sc asn w b _ h.2)
    · cases h
  | .whl c b, st, h => by
    simp only [chkS] at h
    split at h
    · simp only [Bool.and_eq_true] at h
      exact sndS_whl fuel po ((snd_all c sc asn X _ w h.1.2).2 h.1.1) (snd_sts sc asn w b _ h.2)
    · cases h
  | .for t s b, st, h => by
    simp only [chkS] at h
    split at h
    · simp only [Bool.and_eq_true] at h
      exact sndS_for po w.calm (pg_of w.calm w.nd (fun x hx => by rw [w.scp]; exact w.asn x hx) t _ h.1.1.1) (notSet_fold h.1.1.2 X.env) (snd_r s sc asn X _ _ w h.1.2) (snd_sts sc asn w b _ h.2)
    · cases h
  | .raise _ _, st, h => fun β g r hr => by cases hr
  | .pass, st, h => by
    simp only [chkS] at h
    split at h
    · exact sndS_pass
    · cases h
  | .brk, st, h => by
    simp only [chkS] at h
    split at h
    · exact sndS_brk
    · cases h
  | .cont, st, h => by
    simp only [chkS] at h
    split at h
    · exact sndS_cont
    · cases h
theorem snd_sts (sc asn : Scope) (w : Wf X Γ cons fns exs sc (isLoc asn)) : ∀ (s : Ss) (st : List Stmt), chkSs fns cons X.N sc asn s st = true → SndSs X exs st (evSs Γ cons fuel s)
  | .nil, st, h => by
    simp only [chkSs, List.isEmpty_iff] at h
    subst h
    exact sndSs_nil
  | .cons s r, st, h => by
    simp only [chkSs] at h
    split at h
    · simp only [Bool.and_eq_true] at h
      exact sndSs_cons (snd_st sc asn w s _ h.1) (snd_sts sc asn w r _ h.2)
    · cases h
end
end
end Z

/-! Z10: defs, by their bodies; all of a table, to any depth. -/
namespace Z
open PySem PySem.Spec PyProof.Rows L2

/-- a def of the text, where no repr runs around it -/
theorem fn_ofG {P : Program} {w : World} {K : PySem.W.Frag} {mg : Str → Option Value} {base : Heap} {k : Nat} {a : Addr} {name qual : Str} {params : Arguments} {body : List Stmt} {scope : Scope} {dV kV doc pm cdv ct oc : Value} {an od : Option Addr}
    {osl : Array (Option Value)} {N ps : List Str} {sp : Sp} (lk : K.lookup a = some ⟨oc, od, .func (PySem.W.fnOf name qual params body scope dV kV doc pm an cdv ct), osl⟩) (hcd : PySem.W.codeIn K cdv qual = true) (sc : FnScope N ps scope)
    (len : ∀ vs H Q E, sp vs H Q E → vs.length = ps.length)
    (hb : ∀ (A : Around) (outer : List Env) (s : Shared) (H : Hp) (vs : List V) (Q : VK) (E : XK), A.guards = some [] → Room k (A.deeper (envOfC qual scope s.heap.objs.size a cdv)) → sp vs H Q E →
      WSs (cxOf (L2.CX P w) P w K mg base N qual scope a cdv A outer s H E) body { nx := fun _ H' => Q .non H', rt := Q } (L2.start N vs) H) :
    FnG P w K mg base (k + 1) a (PySem.W.fnOf name qual params body scope dV kV doc pm an cdv ct) ps sp where
  len := len
  run := by
    intro A outer s H args us vs Q E gd room e0 bnds rel hsp
    have same : ∀ b o, base.get? b = some o → s.heap.get? b = some o := fun b o z => (e0.bs b o z).1
    have kin : K.In s.heap := e0.mod.kin.keeps same
    have names : ∀ y ∈ ps.zip us, scope.names.lookup y.1 = some .local ∨ (scope.names.lookup y.1 = some .cell ∧ ((cellsFrom (s.heap.objs.size + 1) scope.names []).lookup y.1).isSome = true) := by
      rintro ⟨n, v⟩ hy
      rcases sc.par n (List.of_mem_zip hy).1 with z | z
      · exact Or.inl z
      · exact Or.inr ⟨z, PySem.W.cellsFrom_some _ _ _ (Or.inl z)⟩
    refine codeAny_call_function room.depth (kin _ _ lk) rfl sc.co sc.gen rfl (PySem.W.codeRec_of kin hcd) (bnds _ _ _ _ (wpAny_newFunctionEnv_cells sc.kind names ?_))
    intro env he s1 x
    subst he
    have start := inv_start (CX := L2.CX P w) (cd := cdv) (E := E) sc room.hd e0 (len vs H Q E hsp) rel x
    refine ⟨(e0.mod.nolimit.keeps same).keeps x.toInCall.keep, codeAny_func (wpAny_mono (hb A outer s H vs Q E gd (room.deeper _) hsp [] s1 start) ?_ (fun _ _ z => z))⟩
    intro fl s' h
    match fl, h with
    | .next, ⟨σ', H', J, q⟩ => exact ⟨V.non, H', J.os, J.bare, J.base, J.hok, rfl, q⟩
    | .ret u, ⟨v, σ', H', J, r, q⟩ => exact ⟨v, H', J.os, J.bare, J.base, J.hok, r, q⟩
    | .brk, ⟨_, _, _, q⟩ => exact q.elim
    | .cont, ⟨_, _, _, q⟩ => exact q.elim

section
variable {K : PySem.W.Frag} {G : Gh} {H : Hp}
/-- where the borrowed parameters stand -/
def parAt (vs : List V) : Nat → Option Addr := fun i =>
  match vs[i]? with
  | some (.ref a) => some a
  | _ => none
theorem ArgsOk.length : ∀ {as : List Arg} {k : Nat} {vs : List V}, ArgsOk K G H k as vs → vs.length = as.length
  | [], _, [], _ => rfl
  | [], _, _ :: _, h => h.elim
  | _ :: _, _, [], h => h.elim
  | _ :: _, _, _ :: _, h => congrArg (· + 1) (ArgsOk.length h.2)
theorem ArgsOk.at : ∀ {as : List Arg} {k : Nat} {vs : List V}, ArgsOk K G H k as vs → ∀ {i : Nat} {a : Arg}, as[i]? = some a → ∃ v, vs[i]? = some v ∧ ArgOk K G H (k + i) a v
  | [], _, _, _, i, a, e => by simp at e
  | _ :: _, _, [], h, _, _, _ => h.elim
  | b :: as, k, v :: vs, h, 0, a, e => by
    cases e
    exact ⟨v, rfl, h.1⟩
  | b :: as, k, v :: vs, h, i + 1, a, e => by
    obtain ⟨u, h1, h2⟩ := ArgsOk.at h.2 (i := i) (a := a) (by simpa using e)
    exact ⟨u, by simpa using h1, by rw [show k + (i + 1) = k + 1 + i from by omega]; exact h2⟩
theorem start_at {N : List Str} {vs : List V} {i : Nat} {v : V} (h : vs[i]? = some v) : (L2.start N vs).getD i none = some v := by
  unfold L2.start
  have hl := get_lt h
  rw [List.getD_eq_getElem?_getD, List.getElem?_append_left (by rw [List.length_map]; exact hl), List.getElem?_map, h]
  rfl
theorem sr_start {N : List Str} {as : List Arg} {vs : List V} (ha : ArgsOk K G H 0 as vs) (t : Tagd G H) : SR K (parAt vs) G H (as.map envOf ++ List.replicate (N.length - as.length) .no) (L2.start N vs) := by
  refine ⟨?_, fun i s e => ?_, t⟩
  · unfold L2.start
    rw [List.length_append, List.length_append, List.length_map, List.length_map, List.length_replicate, List.length_replicate, ha.length]
  · by_cases hi : i < as.length
    · rw [List.getElem?_append_left (by rw [List.length_map]; exact hi), List.getElem?_map] at e
      obtain ⟨a, h1, rfl⟩ := Option.map_eq_some_iff.mp e
      obtain ⟨v, h2, h3⟩ := ha.at h1
      rw [start_at h2]
      rw [Nat.zero_add] at h3
      cases a with
      | v d => exact ⟨v, rfl, h3⟩
      | m c =>
        obtain ⟨b, rfl, q⟩ := h3
        exact ⟨b, rfl, q, by unfold parAt; rw [h2]⟩
      | s ds =>
        obtain ⟨b, ws, rfl, q1, q2⟩ := h3
        exact ⟨b, ws, rfl, q1, q2⟩
    · rw [List.getElem?_append_right (by rw [List.length_map]; omega)] at e
      have hm := List.mem_of_getElem? e
      rw [(List.mem_replicate.mp hm).2]
      trivial
theorem outs_ok {vs : List V} {g : Sg} {σ : L2.St} (sr : SR K (parAt vs) G H g σ) : ∀ {as : List Arg} {k : Nat} {ms : List (Option M)} {ws : List V}, outM as (g.drop k) = some ms → ws = vs.drop k → ws.length = as.length → OutsOk K G H k ms ws
  | [], k, ms, ws, h, hw, hl => by
    cases h
    cases ws with
    | nil => trivial
    | cons _ _ => cases hl
  | a :: as, k, ms, [], h, hw, hl => by cases hl
  | a :: as, k, ms, v :: ws, h, hw, hl => by
    have hk : vs[k]? = some v := by
      have : (vs.drop k)[0]? = some v := by rw [← hw]; rfl
      rw [List.getElem?_drop] at this
      exact this
    have hw2 : ws = vs.drop (k + 1) := by
      have := congrArg List.tail hw
      rw [List.tail_drop] at this
      exact this
    have go : ∀ {s : Sl} {gs : Sg} {o : Option M} {ms' : List (Option M)}, g.drop k = s :: gs → outM as gs = some ms' → (∀ c, o = some c → ∃ a, v = .ref a ∧ MOk K G H k c a) → OutsOk K G H k (o :: ms') (v :: ws) := fun {s gs o ms'} hg h ho => by
      refine ⟨ho, outs_ok sr (as := as) (by rw [show g.drop (k + 1) = gs from by rw [← List.tail_drop, hg]; rfl]; exact h) hw2 (Nat.succ.inj hl)⟩
    cases hg : g.drop k with
    | nil =>
      rw [hg] at h
      cases a <;> cases h
    | cons s gs =>
      rw [hg] at h
      cases a with
      | v d =>
        obtain ⟨ms', h1, rfl⟩ := Option.map_eq_some_iff.mp (show (outM as gs).map (none :: ·) = some ms from by cases s <;> exact h)
        exact go hg h1 fun c z => nomatch z
      | s ds =>
        obtain ⟨ms', h1, rfl⟩ := Option.map_eq_some_iff.mp (show (outM as gs).map (none :: ·) = some ms from by cases s <;> exact h)
        exact go hg h1 fun c z => nomatch z
      | m c0 =>
        cases s with
        | bo c =>
          obtain ⟨ms', h1, rfl⟩ := Option.map_eq_some_iff.mp (show (outM as gs).map (some c :: ·) = some ms from h)
          refine go hg h1 fun c' z => ?_
          cases z
          have e : g[k]? = some (.bo c) := by
            have : (g.drop k)[0]? = some (.bo c) := by rw [hg]; rfl
            rw [List.getElem?_drop] at this
            exact this
          obtain ⟨y, hy, b, rfl, q, hb⟩ := sr.at e
          refine ⟨b, ?_, q⟩
          unfold parAt at hb
          rw [hk] at hb
          cases v with
          | ref b' =>
            cases hb
            rfl
          | non => cases hb
          | bl _ => cases hb
          | int _ => cases hb
          | str _ => cases hb
          | byt _ => cases hb
          | flt _ => cases hb
          | ty _ => cases hb
        | no => cases h
        | im _ => cases h
        | ow _ => cases h
        | sc _ => cases h
end

/-- a def of the table, as it stands behind the top -/
structure DefAt (K : PySem.W.Frag) (mg : Str → Option Value) (fns : List FnI) (cons : List (Str × D)) (i : FnI) : Prop where
  ex : ∃ (st : Stmt) (a : Addr) (fd : FuncData), Fun K i.name i.name st a fd ∧ mg i.name = some (.ref a) ∧ Binds K fd i.ps [] ∧ FnScope i.N i.ps (defScope st) ∧ chkSs fns cons i.N (defScope st) (defScope st) i.body (defBody st) = true
/-- what the top leaves -/
structure TopOk (K : PySem.W.Frag) (mg : Str → Option Value) (fns : List FnI) (cons : List (Str × D)) (exs : Nat → Option Addr) : Prop where
  glb : ∀ (k : Nat) (x : Str) (d : D), cons[k]? = some (x, d) → ∃ u v, mg x = some u ∧ RelV v u ∧ ∀ B, Rp K B v d
  bi : ∀ x ∈ biNames, mg x = none
  fn : ∀ (f : Nat) (i : FnI), fns[f]? = some i → DefAt K mg fns cons i
section
variable {P : Program} {w : World} {K : PySem.W.Frag} {mg : Str → Option Value} {base : Heap} {T : Tab} {exs : Nat → Option Addr} {fuel : Nat}
theorem all_G (top : TopOk K mg T.fns T.cons exs) : ∀ (n : Nat) (f : Nat) (i : FnI), T.fns[f]? = some i → ∀ {st : Stmt} {a : Addr} {fd : FuncData}, Fun K i.name i.name st a fd → mg i.name = some (.ref a) → FnScope i.N i.ps (defScope st) →
    chkSs T.fns T.cons i.N (defScope st) (defScope st) i.body (defBody st) = true → FnG P w K mg base n a fd i.ps (spF K exs i.ps.length (run T fuel n f))
  | 0, f, i, hf, st, a, fd, F, hm, sc, hc => ⟨fun vs H Q E ⟨_, _, _, _, h, _⟩ => h, fun A outer s H args us vs Q E _ _ _ _ _ ⟨_, _, _, _, _, _, _, h, _⟩ => nomatch h⟩
  | n + 1, f, i, hf, st, a, fd, F, hm, sc, hc => by
    obtain ⟨oc, od, kV, doc, pm, an, cdv, ct, osl, rfl, lk, hcd⟩ := F.ex
    refine fn_ofG lk hcd sc (fun vs H Q E ⟨_, _, _, _, h, _⟩ => h) fun A outer s H vs Q E gd room ⟨G, as, o, ms, hl, t, ha, hrun, post⟩ => ?_
    generalize hX : cxOf (L2.CX P w) P w K mg base i.N i.name (defScope st) a cdv A outer s H E = X
    have eK : X.K = K := by rw [← hX]; rfl
    have eN : X.N = i.N := by rw [← hX]; rfl
    have po : PassesOwn (model X.prog X.w) X.A X.env X.xe := by
      rw [← hX]
      exact passes_of (X := cxOf (L2.CX P w) P w K mg base i.N i.name (defScope st) a cdv A outer s H E) rfl
    have tk : Takes X fun cls d _ H => E cls d H := by
      rw [← hX]
      exact takes_of (X := cxOf (L2.CX P w) P w K mg base i.N i.name (defScope st) a cdv A outer s H E) rfl rfl rfl rfl
    have wf : Wf X (run T fuel n) T.cons T.fns exs (defScope st) (isLoc (defScope st)) := by
      rw [← hX]
      refine ⟨rfl, rfl, sc.nd, gd, by have := room.un; show (A.deeper _).units + 65 < _; omega, top.glb, top.bi, fun f' i' hf' => ?_, fun x hx => ?_⟩
      · obtain ⟨st', a', fd', F', hm', hb', sc', hc'⟩ := (top.fn f' i' hf').ex
        exact ⟨a', fd', n, hm', F'.kp, hb', room, all_G top n f' i' hf' F' hm' sc' hc'⟩
      · exact ⟨loc_ok hx, .inl rfl⟩
    have hrun' : runFn (run T fuel n) T.cons fuel i as = some (o, ms) := by
      unfold run at hrun
      rw [hf] at hrun
      exact hrun
    unfold runFn at hrun'
    split at hrun'
    · rename_i hla
      have body := snd_sts po fuel (defScope st) (defScope st) wf i.body (defBody st) (by rw [eN]; exact hc)
      have sr := sr_start (N := i.N) ha t
      have outs : ∀ {G' H' g' σ'}, SR K (parAt vs) G' H' g' σ' → outM as g' = some ms → OutsOk K G' H' 0 ms vs := fun s h => outs_ok s (as := as) (k := 0) (by rw [List.drop_zero]; exact h) (List.drop_zero ..).symm ha.length
      have sr' : SR X.K (parAt vs) G H (as.map envOf ++ List.replicate (i.N.length - as.length) .no) (L2.start i.N vs) := by rw [eK]; exact sr
      cases he : evSs (run T fuel n) T.cons fuel i.body (as.map envOf ++ List.replicate (i.N.length - as.length) .no) with
      | none =>
        rw [he] at hrun'
        cases hrun'
      | some z =>
        obtain ⟨fl, g'⟩ := z
        rw [he] at hrun'
        refine body (parAt vs) _ _ he _ H G _ (fun cls d _ H => E cls d H) sr' ?_
        cases fl with
        | nx =>
          obtain ⟨ms', h1, h2⟩ := Option.map_eq_some_iff.mp hrun'
          cases h2
          intro σ' H' G' e s
          rw [eK] at s
          exact post H' G' e s.tag (outs s h1) .non .non
        | rt x =>
          obtain ⟨ms', h1, h2⟩ := Option.map_eq_some_iff.mp hrun'
          cases h2
          intro v σ' H' G' e s r
          rw [eK] at s r
          exact post H' G' e s.tag (outs s h1) v r
        | ex x =>
          obtain ⟨ms', h1, h2⟩ := Option.map_eq_some_iff.mp hrun'
          cases h2
          refine ⟨tk, fun cls dd σ' H' G' e s hx => ?_⟩
          rw [eK] at s
          exact post H' G' e s.tag (outs s h1) cls dd hx
        | bk => cases hrun'
        | ct => cases hrun'
    · cases hrun'
end
end Z

/-! Z11: the law's call, from the script on. -/
namespace Z
open PySem PySem.Spec PyProof.Rows L2

section
variable {P : Program} {w : World} {K : PySem.W.Frag} {mg mb : Str → Option Value} {k : Nat} {fa sa : Addr} {fd : FuncData} {x : Str} {sp : Sp} {s : Shared} {us : List Value} {ns : List Int}
/-- the abstract heap at the law's entry: the script alone, or nothing -/
theorem entry_heap (kin : K.In s.heap) (ho : s.heap.get? sa = some { cls := .type "list", data := .seq us.toArray }) (hi : IntsAre us ns) (hl : ns.length ≤ sizeLine) :
    ∃ H : Hp, Only H ∧ SqL K H sa (ns.map V.int) ∧ HOk P w H s.heap ∧ (∀ b, H b ≠ none → b = sa ∧ K.lookup sa = none) := by
  have rv := vals_ints hi
  cases hk : K.lookup sa with
  | some u =>
    have e := kin sa u hk
    rw [ho] at e
    cases e
    have sz : us.toArray.size ≤ sizeLine := by
      rw [List.size_toArray, hi.length]
      exact hl
    exact ⟨fun _ => none, fun _ => Or.inl rfl, Or.inr ⟨_, us.toArray, _, hk, rfl, rfl, rfl, sz, by simpa using rv⟩, (fun b u z => nomatch z), fun b z => absurd rfl z⟩
  | none =>
    generalize hob : ({ cls := .type "list", data := .seq us.toArray } : Obj) = ob at ho
    have at1 : ∀ b, (if b = sa then some (HO.frz ob (.lst (ns.map V.int))) else none) ≠ none → b = sa := fun b z => by
      by_cases q : b = sa
      · exact q
      · exact absurd (if_neg q) z
    refine ⟨fun b => if b = sa then some (.frz ob (.lst (ns.map V.int))) else none, fun b => ?_, Or.inl (Or.inr ⟨ob, if_pos rfl⟩), fun b u z => ?_, fun b z => ⟨at1 b z, rfl⟩⟩
    · by_cases q : b = sa
      · exact Or.inr ⟨_, _, if_pos q⟩
      · exact Or.inl (if_neg q)
    · dsimp only at z
      have q : b = sa := at1 b (by rw [z]; exact fun y => nomatch y)
      subst q
      rw [if_pos rfl] at z
      cases z
      exact ⟨ho, by rw [List.length_map]; exact hl, us, _, rv, by rw [ho, ← hob]⟩
theorem law_runs (kin : K.In s.heap) (hg : s.heap.Ns mainGlobals mg) (hb : s.heap.Ns builtinsNs mb) (hbb : ∀ x : Str, x ≠ "__name__" → mb x = bootBuiltins x) (lim : s.heap.NoLimit) (gens : s.gens = #[])
    (ho : s.heap.get? sa = some { cls := .type "list", data := .seq us.toArray }) (hi : IntsAre us ns) (hl : ns.length ≤ sizeLine) (room : Room k callerA)
    (F : ∀ base : Heap, K.In base → base.Ns mainGlobals mg → FnG P w K mg base k fa fd [x] sp) (bnd1 : ∀ (s : Shared) (u : Value), BindsTo s fd ⟨[u], []⟩ [(x, u)])
    (hsp : ∀ H : Hp, Only H → SqL K H sa (ns.map V.int) → sp [.ref sa] H (fun v _ => v = .bl true) fun _ _ _ => False) :
    codeAny (model P w) callerA (.call (.ref fa) ⟨[.ref sa], []⟩) (fun r s' => r = .ok (.ret (.bool true)) ∧ OldK s.heap s'.heap ∧ s'.os = s.os ∧ AllBare s'.gens) s := by
  obtain ⟨H, only, sq, hok, one⟩ := entry_heap (P := P) (w := w) kin ho hi hl
  -- what is no list is not tracked
  have dictFree : ∀ {b : Addr} {o : Obj} {es : Array DictEntry} {ep : Nat}, s.heap.get? b = some o → o.data = .dict es ep → H b = none := by
    intro b o es ep h1 h2
    rcases hq : H b with _ | u
    · rfl
    · obtain ⟨rfl, _⟩ := one b (by rw [hq]; exact fun z => nomatch z)
      rw [ho] at h1
      cases h1
      cases h2
  have ns1 : ∀ {b : Addr} {m : Str → Option Value}, s.heap.Ns b m → (hidT s.heap H).Ns b m := by
    rintro b m ⟨o, es, ep, h1, h2, r⟩
    exact ⟨o, es, ep, hidT_get h1 (dictFree h1 h2), h2, r⟩
  have kin1 : K.In (hidT s.heap H) := by
    intro b o h
    refine hidT_get (kin b o h) ?_
    rcases hq : H b with _ | u
    · rfl
    · obtain ⟨rfl, z⟩ := one b (by rw [hq]; exact fun z => nomatch z)
      rw [z] at h
      cases h
  have m1 : Mod K mg (hidT s.heap H) := by
    obtain ⟨mc, q1, q2⟩ := lim
    exact ⟨kin1, ns1 hg, ⟨mb, ns1 hb, hbb⟩, ⟨mc, ns1 q1, q2⟩⟩
  have e0 : Env0 P w K mg (hidT s.heap H) callerA [] s H := by
    refine ⟨rfl, m1, fun b o h => of_hidT h, Nat.le_of_eq (hidT_size _ _), trivial, ?_, hok, .of_eq gens⟩
    intro b h
    cases h
  have go := (F _ kin1 (ns1 hg)).run callerA [] s H ⟨[.ref sa], []⟩ [.ref sa] [.ref sa] _ _ rfl room e0 (bnd1 s (.ref sa)) (.cons rfl .nil) (hsp H only sq)
  refine codeAny_mono go ?_
  intro r s' h
  match r, h with
  | .error e, ⟨_, _, _, _, _, _, _, _, _, _, _, _, z⟩ => exact z.elim
  | .ok .next, h => exact h.elim
  | .ok .brk, h => exact h.elim
  | .ok .cont, h => exact h.elim
  | .ok (.ret u), ⟨v, H', os, bare, un, hok', r', q⟩ =>
    obtain rfl : v = .bl true := q
    obtain rfl : u = Value.bool true := r'
    refine ⟨rfl, OldK.of_keep (fun b o h => ?_), os, bare⟩
    rcases hq : H b with _ | u
    · exact un.keep b o h hq (fun z => nomatch z) (fun z => nomatch z)
    · rcases only b with z | ⟨ob, ys, z⟩
      · rw [hq] at z
        cases z
      · have a1 := (hok b _ z).1
        rw [h] at a1
        cases a1
        exact (hok' b _ (un.frzs b _ _ z)).1
end
/-- the end of a row: what is left to show of the law -/
theorem walkG {l : PySem.W.OpenLaw} {n k : Nat} {q : Program} {loose : List Str} {XP : (Str → Option Value) → Heap → Prop} {YP : World → Heap → Prop} {d : DefRec} {K : Params → PySem.W.Frag} {sp : PySem.W.Frag → Sp} {x : Str}
    (hn : l.most = some n) (hn2 : n ≤ sizeLine) (hdf : d.params.defaults = []) (room : Room k callerA) (hY : ∀ (w : World) (h : Heap), YP w h → (K w.params).In h)
    (F : ∀ (w : World) (mg : Str → Option Value) (fa : Addr) (h : Heap), (K w.params).In h → h.Ns mainGlobals mg → mg d.name = some (.ref fa) →
      ∃ fd : FuncData, (∀ (s : Shared) (u : Value), BindsTo s fd ⟨[u], []⟩ [(x, u)]) ∧ ∀ base : Heap, (K w.params).In base → base.Ns mainGlobals mg → FnG l.prog w (K w.params) mg base k fa fd [x] (sp (K w.params)))
    (hsp : ∀ (K : PySem.W.Frag) (H : Hp) (a : Addr) (ns : List Int), ns.length ≤ n → Only H → SqL K H a (ns.map V.int) → sp K [.ref a] H (fun v _ => v = .bl true) fun _ _ _ => False) :
    PySem.W.WalkO q loose XP YP l.row.toRowW d [] (fun f vs => PySem.call f vs) := by
  refine Att.attach_call hn hdf ?_
  intro w s₀ s₁ mg mb fa o pm cd doc a vs ns G Y ho hd hcd hmg hobj hints hlen hg
  obtain ⟨fd, hb, hF⟩ := F w mg fa _ (hY w _ Y) G.T.g hmg
  exact law_runs (hY w _ Y) G.T.g G.T.b G.T.builtins G.T.nolimit hg hobj hints (Nat.le_trans hlen hn2) room hF hb fun H hO hS => hsp _ H a ns hlen hO hS
/-- the law's own promise, from the machine's answer -/
theorem sp_law {K : PySem.W.Frag} {exs : Nat → Option Addr} {F : List Arg → Option (Out Val × List (Option M))} {H : Hp} {a : Addr} {ns : List Int} (hS : SqL K H a (ns.map V.int))
    (h : F [.s (ns.map PyData.int)] = some (.ok (.v (.bool true)), [none])) : spF K exs 1 F [.ref a] H (fun v _ => v = .bl true) fun _ _ _ => False := by
  let G : Gh := fun b => if H b = none then .un else .st
  have hB : Bh G H = H := by
    funext b
    unfold Bh
    by_cases q : H b = none
    · rw [if_neg (by show ¬ (if H b = none then Tag.un else .st) = .st; rw [if_pos q]; exact fun z => nomatch z), q]
    · rw [if_pos (by show (if H b = none then Tag.un else .st) = .st; rw [if_neg q])]
  refine ⟨G, [.s (ns.map PyData.int)], .ok (.v (.bool true)), [none], rfl, fun b hb z => hb (by show (if H b = none then Tag.un else .st) = .un; rw [if_pos z]), ⟨⟨a, _, rfl, by rw [hB]; exact hS, by rw [hB]; exact RpAll.of_ints ns⟩, trivial⟩, h, fun H' G' e t oo v hv => ?_⟩
  cases (show Rp K (Bh G' H') v (.bool true) from hv)
  rfl
end Z

/-! Z12: plain facts about the machine's loops. -/
namespace Z
open PySem (PyData)

theorem forGo_inv {t : Tg} {b : Sg → RS} {I : Sg → Prop} : ∀ {ds : List D}, (∀ d, d ∈ ds → ∀ g, I g → ∃ g1 g2, asg t d g = some g1 ∧ b g1 = some (.nx, g2) ∧ I g2) → ∀ {g}, I g → ∃ g', forGo t b ds g = some (.nx, g') ∧ I g'
  | [], _, g, h => ⟨g, rfl, h⟩
  | d :: ds, hb, g, h => by
    obtain ⟨g1, g2, h1, h2, h3⟩ := hb d List.mem_cons_self g h
    obtain ⟨g', h4, h5⟩ := forGo_inv (fun d hd => hb d (List.mem_cons_of_mem _ hd)) h3
    refine ⟨g', ?_, h5⟩
    unfold forGo
    rw [h1, Option.bind_some, h2]
    exact h4
theorem compGo_inv {own : List Nat} {F : D → Sg → R (Option D)} {I : Sg → Prop} {P : D → Prop} : ∀ {xs acc : List D}, (∀ d, d ∈ xs → ∀ g, I g → ∃ r g', F d (wipeG g own) = some (.ok (some r), g') ∧ P r ∧ I g') →
    acc.length + xs.length ≤ PySem.sizeLine → ∀ {g}, I g → ∃ ds g', compGo own F acc xs g = some (.ok (acc ++ ds), g') ∧ ds.length = xs.length ∧ (∀ d, d ∈ ds → P d) ∧ I g'
  | [], acc, _, _, g, h => ⟨[], g, by unfold compGo; rw [List.append_nil]; rfl, rfl, (fun _ z => nomatch z), h⟩
  | x :: xs, acc, hF, hl, g, h => by
    obtain ⟨r, g1, h1, h2, h3⟩ := hF x List.mem_cons_self g h
    rw [List.length_cons] at hl
    obtain ⟨ds, g', h4, h5, h6, h7⟩ := compGo_inv (acc := acc ++ [r]) (fun d hd => hF d (List.mem_cons_of_mem _ hd)) (by rw [List.length_append]; show acc.length + 1 + _ ≤ _; omega) h3
    refine ⟨r :: ds, g', ?_, by rw [List.length_cons, List.length_cons, h5], fun d hd => ?_, h7⟩
    · unfold compGo
      rw [h1]
      dsimp only
      rw [if_pos (by omega), h4, List.append_assoc]
      rfl
    · rcases List.mem_cons.mp hd with e | e
      · rw [e]
        exact h2
      · exact h6 d e
/-- a comprehension that leaves the slots alone: a map -/
theorem compGo_map {own : List Nat} {F : D → Sg → R (Option D)} {h : D → D} {g : Sg} : ∀ {xs acc : List D}, (∀ d, d ∈ xs → ∃ g', F d (wipeG g own) = some (.ok (some (h d)), g') ∧ wipeG g' own = wipeG g own) →
    acc.length + xs.length ≤ PySem.sizeLine → ∀ {g0}, wipeG g0 own = wipeG g own → ∃ g', compGo own F acc xs g0 = some (.ok (acc ++ xs.map h), g') ∧ wipeG g' own = wipeG g own
  | [], acc, _, _, g0, e => ⟨g0, by unfold compGo; rw [List.map_nil, List.append_nil]; rfl, e⟩
  | x :: xs, acc, hF, hl, g0, e => by
    obtain ⟨g1, h1, h2⟩ := hF x List.mem_cons_self
    rw [List.length_cons] at hl
    obtain ⟨g', h4, h5⟩ := compGo_map (acc := acc ++ [h x]) (fun d hd => hF d (List.mem_cons_of_mem _ hd)) (by rw [List.length_append]; show acc.length + 1 + _ ≤ _; omega) h2
    refine ⟨g', ?_, h5⟩
    unfold compGo
    rw [e, h1]
    dsimp only
    rw [if_pos (by omega), h4, List.append_assoc]
    rfl
theorem intsD_map : ∀ ns : List Int, intsD (ns.map PyData.int) = some ns
  | [] => rfl
  | n :: r => by
    rw [List.map_cons]
    show (intsD _).map _ = _
    rw [intsD_map r]
    rfl
theorem rngL_mem {lo : Int} {n : Nat} {d : D} (h : d ∈ rngL lo n) : ∃ k : Nat, k < n ∧ d = .int (lo + k) := by
  unfold rngL at h
  obtain ⟨k, hk, rfl⟩ := List.mem_map.mp h
  exact ⟨k, List.mem_range.mp hk, rfl⟩
theorem line_big : (16000000 : Nat) ≤ PySem.sizeLine := by decide

/-! ### for simp: one step at a time -/
section
variable {α β : Type} {a : α} {g g' : Sg} {x : Exc} {k : α → Sg → R β} {ks : α → Sg → RS} {kg : Sg → RS} {v : Val} {i j : Int} {d : D} {ds es : List D} {c : M}
theorem bnd_ok : bnd (some (.ok a, g)) k = k a g := rfl
theorem bnd_no : bnd (none : R α) k = none := rfl
theorem sbnd_ok : sbnd (some (.ok a, g)) ks = ks a g := rfl
theorem sbnd_no : sbnd (none : R α) ks = none := rfl
theorem seq_nx : seq (some (.nx, g)) kg = kg g := rfl
theorem seq_rt : seq (some (.rt v, g)) kg = some (.rt v, g) := rfl
theorem seq_bk : seq (some (.bk, g)) kg = some (.bk, g) := rfl
theorem seq_ct : seq (some (.ct, g)) kg = some (.ct, g) := rfl
theorem seq_ex : seq (some (.ex x, g)) kg = some (.ex x, g) := rfl
theorem seq_no : seq none kg = none := rfl
theorem ret_ok : ret a g = some (.ok a, g) := rfl
theorem opt_ok : opt (some a) g = some (.ok a, g) := rfl
theorem opt_no : opt (none : Option α) g = none := rfl
theorem sopt_ok : sopt (some g) = some (.nx, g) := rfl
theorem toD_v : (Val.v d).toD = d := rfl
theorem toD_m : (Val.m (.l ds)).toD = .list ds := rfl
theorem toD_l : (M.l ds).toD = .list ds := rfl
theorem bin_add : binD .add (.int i) (.int j) = some (.v (.int (i + j))) := rfl
theorem bin_sub : binD .sub (.int i) (.int j) = some (.v (.int (i - j))) := rfl
theorem bin_mul : binD .mul (.int i) (.int j) = if mulOk i j = true then some (.v (.int (i * j))) else none := rfl
theorem bin_div : binD .div (.int i) (.int j) = if divOk j = true then some (.v (.int (i / j))) else none := rfl
theorem bin_mod : binD .mod (.int i) (.int j) = if 0 < j then some (.v (.int (i % j))) else none := rfl
theorem bin_pow : binD .pow (.int i) (.int j) = if powOk i j = true then some (.v (.int (i ^ j.toNat))) else none := rfl
theorem bin_addl : binD .add (.list ds) (.list es) = if ds.length + es.length ≤ PySem.sizeLine then some (.m (.l (ds ++ es))) else none := rfl
theorem bin_addt : binD .add (.tuple ds) (.tuple es) = if ds.length + es.length ≤ PySem.sizeLine then some (.v (.tuple (ds ++ es))) else none := rfl
theorem bin_rep : binD .mul (.list ds) (.int i) = if repOk ds.length i = true then some (.m (.l (List.replicate i.toNat ds).flatten)) else none := rfl
theorem cmp_lt : cmpD .lt (.int i) (.int j) = some (decide (i < j)) := rfl
theorem cmp_le : cmpD .le (.int i) (.int j) = some (decide (i ≤ j)) := rfl
theorem cmp_gt : cmpD .gt (.int i) (.int j) = some (decide (j < i)) := rfl
theorem cmp_ge : cmpD .ge (.int i) (.int j) = some (decide (j ≤ i)) := rfl
theorem cmp_eq : cmpD .eq (.int i) (.int j) = some (decide (i = j)) := rfl
theorem cmp_ne : cmpD .ne (.int i) (.int j) = some (!decide (i = j)) := rfl
theorem cmp_eqs {x y : PySem.Str} : cmpD .eq (.str x) (.str y) = some (decide (x = y)) := rfl
theorem truth_b {b : Bool} : truth (.bool b) = some b := rfl
theorem truth_i : truth (.int i) = some (i != 0) := rfl
theorem idx_l : idxD (.list ds) (.int i) = L2.atI ds i := rfl
theorem idx_t : idxD (.tuple ds) (.int i) = L2.atI ds i := rfl
theorem len_l : lenD (.list ds) = some (.int ds.length) := rfl
theorem len_t : lenD (.tuple ds) = some (.int ds.length) := rfl
theorem rdM_im : rdM (some (.im d)) = some d := rfl
theorem rdM_ow : rdM (some (.ow c)) = some c.toD := rfl
theorem rdM_bo : rdM (some (.bo c)) = some c.toD := rfl
theorem rdM_sc : rdM (some (.sc ds)) = some (.list ds) := rfl
theorem env_v : Z.envOf (.v d) = .im d := rfl
theorem env_m : Z.envOf (.m c) = .bo c := rfl
theorem env_s : Z.envOf (.s ds) = .sc ds := rfl
theorem slOf_v {o : Bool} : slOf o (.v d) = .im d := rfl
theorem slOf_mt : slOf true (.m c) = .ow c := rfl
theorem slOf_mf : slOf false (.m c) = .im c.toD := rfl
theorem b2_max : b2D .max (.int i) (.int j) = some (.int (if j > i then j else i)) := rfl
theorem b2_min : b2D .min (.int i) (.int j) = some (.int (if j < i then j else i)) := rfl
theorem b1_len : b1D .len d = (lenD d).map .v := rfl
theorem b1_sum : b1D .sum (.list ds) = (intsD ds).map fun ns => .v (.int ns.sum) := rfl
theorem b1_repi : b1D .repr (.int i) = if i.natAbs.log2 < 1920 then some (.v (.str (toString i))) else none := rfl
theorem b1_repl : b1D .repr (.list ds) = if showOk (.list ds) then some (.v (.str (PyData.shown (.list ds)))) else none := rfl
theorem b1_rept : b1D .repr (.tuple ds) = if showOk (.tuple ds) then some (.v (.str (PyData.shown (.tuple ds)))) else none := rfl
theorem seq_l : seqD (.list ds) = some ds := rfl
theorem seq_t : seqD (.tuple ds) = some ds := rfl
end
end Z

/-! Z13: what repr can show. -/
namespace Z
open PySem (PyData)

def Sm (d : D) (k w : Nat) : Prop := d.showable = true ∧ d.hasDict = false ∧ d.depth ≤ k ∧ d.leavesShort 13 = true ∧ d.weight ≤ w
theorem Sm.mono {d : D} {k w k' w' : Nat} (h : Sm d k w) (hk : k ≤ k') (hw : w ≤ w') : Sm d k' w' :=
  ⟨h.1, h.2.1, Nat.le_trans h.2.2.1 hk, h.2.2.2.1, Nat.le_trans h.2.2.2.2 hw⟩
theorem Sm.int {i : Int} (h : i.natAbs < 10 ^ 12) : Sm (.int i) 0 40 := by
  have hl : i.natAbs.log2 < 40 := by
    rcases Nat.eq_zero_or_pos i.natAbs with e | e
    · rw [e]; decide
    · exact (Nat.log2_lt (by omega)).mpr (Nat.lt_of_lt_of_le h (by decide))
  refine ⟨?_, by simp only [PyData.hasDict], by simp only [PyData.depth]; omega, ?_, ?_⟩
  · simp only [PyData.showable, decide_eq_true_eq]
    omega
  · simp only [PyData.leavesShort, decide_eq_true_eq]
    exact PyData.shown_int_le h
  · simp only [PyData.weight]
    split <;> omega
theorem Sm.bool (b : Bool) : Sm (.bool b) 0 0 :=
  ⟨by simp only [PyData.showable], by simp only [PyData.hasDict], by simp only [PyData.depth]; omega, by simp only [PyData.leavesShort], by simp only [PyData.weight]; omega⟩
theorem Sm.none : Sm .none 0 0 :=
  ⟨by simp only [PyData.showable], by simp only [PyData.hasDict], by simp only [PyData.depth]; omega, by simp only [PyData.leavesShort], by simp only [PyData.weight]; omega⟩
theorem Sm.str {x : PySem.Str} (h : ∀ c ∈ x.cps.toList, c < 16 ^ 8) : Sm (.str x) 0 x.cps.size :=
  ⟨by simp only [PyData.showable], by simp only [PyData.hasDict], by simp only [PyData.depth]; omega, by simpa only [PyData.leavesShort, List.all_eq_true, decide_eq_true_eq] using h, by simp only [PyData.weight]; omega⟩
theorem Sm.all {k w : Nat} : ∀ {ds : List D}, (∀ d, d ∈ ds → Sm d k w) → PyData.showableAll ds = true ∧ PyData.hasDictAll ds = false ∧ PyData.depthAll ds ≤ k ∧ PyData.leavesShortAll 13 ds = true ∧ PyData.weightAll ds ≤ ds.length * (w + 1)
  | [], _ => ⟨by simp only [PyData.showableAll], by simp only [PyData.hasDictAll], by simp only [PyData.depthAll]; omega, by simp only [PyData.leavesShortAll], by simp only [PyData.weightAll]; omega⟩
  | d :: ds, h => by
    obtain ⟨a1, a2, a3, a4, a5⟩ := h d List.mem_cons_self
    obtain ⟨b1, b2, b3, b4, b5⟩ := Sm.all (fun d hd => h d (List.mem_cons_of_mem _ hd))
    refine ⟨?_, ?_, ?_, ?_, ?_⟩
    · simp only [PyData.showableAll, a1, b1, Bool.and_self]
    · simp only [PyData.hasDictAll, a2, b2, Bool.or_self]
    · simp only [PyData.depthAll]; omega
    · simp only [PyData.leavesShortAll, a4, b4, Bool.and_self]
    · simp only [PyData.weightAll, List.length_cons, Nat.add_mul]; omega
theorem Sm.list {k w : Nat} {ds : List D} (h : ∀ d, d ∈ ds → Sm d k w) : Sm (.list ds) (k + 1) (ds.length * (w + 1)) := by
  obtain ⟨b1, b2, b3, b4, b5⟩ := Sm.all h
  exact ⟨by simpa only [PyData.showable] using b1, by simpa only [PyData.hasDict] using b2, by simp only [PyData.depth]; omega, by simpa only [PyData.leavesShort] using b4, by simpa only [PyData.weight] using b5⟩
theorem Sm.tuple {k w : Nat} {ds : List D} (h : ∀ d, d ∈ ds → Sm d k w) : Sm (.tuple ds) (k + 1) (ds.length * (w + 1)) := by
  obtain ⟨b1, b2, b3, b4, b5⟩ := Sm.all h
  exact ⟨by simpa only [PyData.showable] using b1, by simpa only [PyData.hasDict] using b2, by simp only [PyData.depth]; omega, by simpa only [PyData.leavesShort] using b4, by simpa only [PyData.weight] using b5⟩
theorem Sm.ok {d : D} {k w : Nat} (h : Sm d k w) (hk : k ≤ 60) (hw : w ≤ 2 ^ 20) : showOk d = true := by
  obtain ⟨a1, a2, a3, a4, a5⟩ := h
  have e := PyData.shown_fits (B := 13) (by decide) (by decide) a4 (Nat.le_trans a5 hw)
  unfold showOk
  simp only [a1, a2, e, decide_true, Bool.not_false, Bool.and_self, Nat.le_trans a3 hk]
theorem whl_step {c : Sg → R Bool} {b : Sg → RS} {n : Nat} {g g2 : Sg} {r : RS} (h : whlGo c b n g2 = r) (hc : c g = some (.ok true, g)) (hb : b g = some (.nx, g2)) : whlGo c b (n + 1) g = r := by
  unfold whlGo
  rw [hc]
  show (match b g with
      | some (.nx, g) => whlGo c b n g
      | some (.ct, g) => whlGo c b n g
      | some (.bk, g) => some (.nx, g)
      | r => r) = r
  rw [hb]
  exact h
theorem whl_end {c : Sg → R Bool} {b : Sg → RS} {n : Nat} {g : Sg} (hc : c g = some (.ok false, g)) : whlGo c b (n + 1) g = some (.nx, g) := by
  unfold whlGo
  rw [hc]
  rfl

/-! ### one step of the machine, for simp -/
section
variable (Γ : Call) (cs : List (PySem.Str × D)) (fu : Nat)
def kBin' (o : BOp) (x y : Val) (g : Sg) : R Val := opt (binD o x.toD y.toD) g
def kBin (o : BOp) (b : C) (x : Val) (g : Sg) : R Val := bnd (ev Γ cs b g) (kBin' o x)
def kNeg (x : Val) (g : Sg) : R Val := match x with
  | .v (.int i) => ret (.v (.int (-i))) g
  | _ => none
def kCmp' (o : COp) (x y : Val) (g : Sg) : R Val := opt ((cmpD o x.toD y.toD).map fun b => .v (.bool b)) g
def kCmp (o : COp) (b : C) (x : Val) (g : Sg) : R Val := bnd (ev Γ cs b g) (kCmp' o x)
def kCh' (o p : COp) (c : C) (x y : Val) (g : Sg) : R Val := match cmpD o x.toD y.toD with
  | some true => bnd (ev Γ cs c g) (kCmp' p y)
  | some false => ret (.v (.bool false)) g
  | none => none
def kCh (o p : COp) (b c : C) (x : Val) (g : Sg) : R Val := bnd (ev Γ cs b g) (kCh' Γ cs o p c x)
def kAnd (b : C) (x : Val) (g : Sg) : R Val := match x with
  | .v (.bool true) => ev Γ cs b g
  | .v (.bool false) => ret (.v (.bool false)) g
  | _ => none
def kOr (b : C) (x : Val) (g : Sg) : R Val := match x with
  | .v (.bool true) => ret (.v (.bool true)) g
  | .v (.bool false) => ev Γ cs b g
  | _ => none
def kNot (x : Val) (g : Sg) : R Val := opt ((truth x.toD).map fun b => .v (.bool (!b))) g
def kIte (a b : C) (x : Val) (g : Sg) : R Val := match truth x.toD with
  | some true => ev Γ cs a g
  | some false => ev Γ cs b g
  | none => none
def kTup (ds : List D) (g : Sg) : R Val := if ds.length ≤ PySem.sizeLine then ret (.v (.tuple ds)) g else none
def kLst (ds : List D) (g : Sg) : R Val := if ds.length ≤ PySem.sizeLine then ret (.m (.l ds)) g else none
def kIdx' (x y : Val) (g : Sg) : R Val := opt ((idxD x.toD y.toD).map .v) g
def kIdx (b : C) (x : Val) (g : Sg) : R Val := bnd (ev Γ cs b g) (kIdx' x)
def kIxv (i : Nat) (y : Val) (g : Sg) : R Val := match rdM g[i]? with
  | some d => opt ((idxD d y.toD).map .v) g
  | none => none
def kSlc'' (x : Val) (l h : Option Int) (g : Sg) : R Val := opt (slcD x.toD l h) g
def kSlc' (hi : Co) (x : Val) (l : Option Int) (g : Sg) : R Val := bnd (evo Γ cs hi g) (kSlc'' x l)
def kSlc (lo hi : Co) (x : Val) (g : Sg) : R Val := bnd (evo Γ cs lo g) (kSlc' Γ cs hi x)
def kC2 (rs : List Ar) (g : Sg) (om : Out Val × List (Option M)) : R Val := (backG rs om.2 g).map (Prod.mk om.1)
def kC1 (f : Nat) (rs : List Ar) (g : Sg) (xs : List Arg) : R Val := (Γ f xs).bind (kC2 rs g)
def kCall (f n : Nat) (rs : List Ar) (g : Sg) : R Val := if rs.length = n then if noDup (borrowed rs) then (argsOf g rs).bind (kC1 Γ f rs g) else none else none
def kB1 (o : B1) (x : Val) (g : Sg) : R Val := opt (b1D o x.toD) g
def kB2' (o : B2) (x y : Val) (g : Sg) : R Val := opt ((b2D o x.toD y.toD).map .v) g
def kB2 (o : B2) (b : C) (x : Val) (g : Sg) : R Val := bnd (ev Γ cs b g) (kB2' o x)
def kIsi (t : Ty) (x : Val) (g : Sg) : R Val := ret (.v (.bool (isiD x.toD t))) g
def kOpt (x : Val) (g : Sg) : R (Option Int) := match x with
  | .v (.int i) => ret (some i) g
  | _ => none
def kTr (x : Val) (g : Sg) : R Bool := opt (truth x.toD) g
def kEs' (x : Val) (xs : List D) (g : Sg) : R (List D) := ret (x.toD :: xs) g
def kEs (es : Cs) (x : Val) (g : Sg) : R (List D) := bnd (evs Γ cs es g) (kEs' x)
def kAs' (x : Val) (xs : List Ar) (g : Sg) : R (List Ar) := ret (.v x.toD :: xs) g
def kAs (r : As) (x : Val) (g : Sg) : R (List Ar) := bnd (evas Γ cs r g) (kAs' x)
def kBor (i : Nat) (xs : List Ar) (g : Sg) : R (List Ar) := ret (.b i :: xs) g
def kSeq (x : Val) (g : Sg) : R (List D) := opt (seqD x.toD) g
def kR1 (x : Val) (g : Sg) : R (List D) := match x with
  | .v (.int j) => if rngOk j then ret (rngL 0 j.toNat) g else none
  | _ => none
def kR2' (x y : Val) (g : Sg) : R (List D) := match x, y with
  | .v (.int i), .v (.int j) => if rngOk i && rngOk j then ret (rngL i (j - i).toNat) g else none
  | _, _ => none
def kR2 (b : C) (x : Val) (g : Sg) : R (List D) := bnd (ev Γ cs b g) (kR2' x)
def kSet (i : Nat) (o : Bool) (x : Val) (g : Sg) : RS := sopt (setG g i (slOf o x))
def kP2 (j : Nat) (q : Bool) (y : Val) (g : Sg) : Option Sg := setG g j (slOf q y)
def kPar' (i j : Nat) (p q : Bool) (x y : Val) (g : Sg) : RS := sopt ((setG g i (slOf p x)).bind (kP2 j q y))
def kPar (i j : Nat) (p q : Bool) (b : C) (x : Val) (g : Sg) : RS := sbnd (ev Γ cs b g) (kPar' i j p q x)
def kAsg (t : Tg) (x : Val) (g : Sg) : RS := sopt (asg t x.toD g)
def kPut' (i : Nat) (y x : Val) (g : Sg) : RS := upM g i fun c => putM c x.toD y.toD
def kPut (i : Nat) (k : C) (y : Val) (g : Sg) : RS := if isM g i then sbnd (ev Γ cs k g) (kPut' i y) else none
def kApp (i : Nat) (y : Val) (g : Sg) : RS := upM g i fun c => appM c y.toD
def kExp (x : Val) (g : Sg) : RS := some (.nx, g)
def kRet (x : Val) (g : Sg) : RS := some (.rt x, g)
def kIf (a b : Ss) (x : Val) (g : Sg) : RS := match truth x.toD with
  | some true => evSs Γ cs fu a g
  | some false => evSs Γ cs fu b g
  | none => none
end
section
variable {Γ : Call} {cs : List (PySem.Str × D)} {fu : Nat} {g : Sg}
theorem q_ev_int : ev Γ cs (.int i) g = some (.ok (.v (.int i)), g) := rfl
theorem q_ev_bl : ev Γ cs (.bl b) g = some (.ok (.v (.bool b)), g) := rfl
theorem q_ev_non : ev Γ cs .non g = some (.ok (.v .none), g) := rfl
theorem q_ev_str : ev Γ cs (.str x) g = some (.ok (.v (.str x)), g) := rfl
theorem q_ev_var : ev Γ cs (.var i) g = match g[i]? with
    | some (.im d) => ret (.v d) g
    | some (.ow c) => ret (.v c.toD) (g.set i (.im c.toD))
    | _ => none := rfl
theorem q_ev_glb : ev Γ cs (.glb k) g = match cs[k]? with
    | some p => ret (.v p.2) g
    | none => none := rfl
theorem q_ev_bin : ev Γ cs (.bin o a b) g = bnd (ev Γ cs a g) (kBin Γ cs o b) := rfl
theorem q_ev_neg : ev Γ cs (.neg a) g = bnd (ev Γ cs a g) kNeg := rfl
theorem q_ev_cmp : ev Γ cs (.cmp o a b) g = bnd (ev Γ cs a g) (kCmp Γ cs o b) := rfl
theorem q_ev_chain : ev Γ cs (.chain o p a b c) g = bnd (ev Γ cs a g) (kCh Γ cs o p b c) := rfl
theorem q_ev_and : ev Γ cs (.and a b) g = bnd (ev Γ cs a g) (kAnd Γ cs b) := rfl
theorem q_ev_or : ev Γ cs (.or a b) g = bnd (ev Γ cs a g) (kOr Γ cs b) := rfl
theorem q_ev_not : ev Γ cs (.not a) g = bnd (ev Γ cs a g) kNot := rfl
theorem q_ev_ite : ev Γ cs (.ite c a b) g = bnd (ev Γ cs c g) (kIte Γ cs a b) := rfl
theorem q_ev_tup : ev Γ cs (.tup es) g = bnd (evs Γ cs es g) kTup := rfl
theorem q_ev_lst : ev Γ cs (.lst es) g = bnd (evs Γ cs es g) kLst := rfl
theorem q_ev_idx : ev Γ cs (.idx a b) g = bnd (ev Γ cs a g) (kIdx Γ cs b) := rfl
theorem q_ev_idxv : ev Γ cs (.idxv i b) g = if slotIn g i then bnd (ev Γ cs b g) (kIxv i) else none := rfl
theorem q_ev_lenv : ev Γ cs (.lenv i) g = match rdM g[i]? with
    | some d => opt ((lenD d).map .v) g
    | none => none := rfl
theorem q_ev_slc : ev Γ cs (.slc a lo hi) g = bnd (ev Γ cs a g) (kSlc Γ cs lo hi) := rfl
theorem q_ev_call : ev Γ cs (.call f n as) g = bnd (evas Γ cs as g) (kCall Γ f n) := rfl
theorem q_ev_b1 : ev Γ cs (.b1 o a) g = bnd (ev Γ cs a g) (kB1 o) := rfl
theorem q_ev_b2 : ev Γ cs (.b2 o a b) g = bnd (ev Γ cs a g) (kB2 Γ cs o b) := rfl
theorem q_ev_isi : ev Γ cs (.isi a t) g = bnd (ev Γ cs a g) (kIsi t) := rfl
theorem q_evo_non : evo Γ cs .non g = ret none g := rfl
theorem q_evo_som : evo Γ cs (.som a) g = bnd (ev Γ cs a g) kOpt := rfl
theorem q_evq_non : evq Γ cs .non g = ret true g := rfl
theorem q_evq_som : evq Γ cs (.som a) g = bnd (ev Γ cs a g) kTr := rfl
theorem q_evs_nil : evs Γ cs .nil g = ret [] g := rfl
theorem q_evs_cons : evs Γ cs (.cons e es) g = bnd (ev Γ cs e g) (kEs Γ cs es) := rfl
theorem q_evas_nil : evas Γ cs .nil g = ret [] g := rfl
theorem q_evas_val : evas Γ cs (.val e r) g = bnd (ev Γ cs e g) (kAs Γ cs r) := rfl
theorem q_evas_bor : evas Γ cs (.bor i r) g = if slotIn g i then bnd (evas Γ cs r g) (kBor i) else none := rfl
theorem q_evr_seq : evr Γ cs (.seq a) g = bnd (ev Γ cs a g) kSeq := rfl
theorem q_evr_rng1 : evr Γ cs (.rng1 a) g = bnd (ev Γ cs a g) kR1 := rfl
theorem q_evr_rng2 : evr Γ cs (.rng2 a b) g = bnd (ev Γ cs a g) (kR2 Γ cs b) := rfl
theorem q_evS_set : evS Γ cs fu (.set i own e) g = sbnd (ev Γ cs e g) (kSet i own) := rfl
theorem q_evS_par : evS Γ cs fu (.par i j p q a b) g = sbnd (ev Γ cs a g) (kPar Γ cs i j p q b) := rfl
theorem q_evS_asg : evS Γ cs fu (.asg t e) g = sbnd (ev Γ cs e g) (kAsg t) := rfl
theorem q_evS_put : evS Γ cs fu (.put i k e) g = sbnd (ev Γ cs e g) (kPut Γ cs i k) := rfl
theorem q_evS_app : evS Γ cs fu (.app i e) g = if isM g i then sbnd (ev Γ cs e g) (kApp i) else none := rfl
theorem q_evS_exp : evS Γ cs fu (.exp e) g = sbnd (ev Γ cs e g) kExp := rfl
theorem q_evS_ret : evS Γ cs fu (.ret e) g = sbnd (ev Γ cs e g) kRet := rfl
theorem q_evS_retN : evS Γ cs fu .retN g = some (.rt (.v .none), g) := rfl
theorem q_evS_ite : evS Γ cs fu (.ite c a b) g = sbnd (ev Γ cs c g) (kIf Γ cs fu a b) := rfl
theorem q_evS_pass : evS Γ cs fu .pass g = some (.nx, g) := rfl
theorem q_evS_brk : evS Γ cs fu .brk g = some (.bk, g) := rfl
theorem q_evS_cont : evS Γ cs fu .cont g = some (.ct, g) := rfl
theorem q_evSs_nil : evSs Γ cs fu .nil g = some (.nx, g) := rfl
theorem q_evSs_cons : evSs Γ cs fu (.cons s r) g = seq (evS Γ cs fu s g) (evSs Γ cs fu r) := rfl
theorem q_whl {c : C} {b : Ss} : evS Γ cs fu (.whl c b) g = whlGo (fun g => bnd (ev Γ cs c g) kTr) (evSs Γ cs fu b) fu g := rfl
theorem q_for {t : Tg} {s : Sr} {b : Ss} : evS Γ cs fu (.for t s b) g = sbnd (evr Γ cs s g) (fun xs g => forGo t (evSs Γ cs fu b) xs g) := rfl
end
/-! ### comprehensions and loops -/
theorem q_comp {Γ : Call} {cs : List (PySem.Str × D)} {e : C} {t : Tg} {s : Sr} {q : Co} {own : List Nat} {g g1 g2 : Sg} {xs ds : List D} (hr : evr Γ cs s g = some (.ok xs, g1)) (hp : (own.all fun i => plainSl (g1.getD i .no)) = true)
    (hc : compGo own (fun d g => (asg t d g).bind fun g => bnd (evq Γ cs q g) fun b g => if b then bnd (ev Γ cs e g) fun y g => ret (some y.toD) g else ret none g) [] xs g1 = some (.ok ds, g2)) :
    ev Γ cs (.comp e t s q own) g = some (.ok (.m (.l ds)), restG g1 g2 own) := by
  show bnd (evr Γ cs s g) _ = _
  rw [hr]
  show (if _ then _ else _) = _
  rw [if_pos hp]
  show (match compGo own _ [] xs g1 with
      | some (.ok ds, g') => ret (Val.m (M.l ds)) (restG g1 g' own)
      | _ => none) = _
  rw [hc]
  rfl
theorem q_for_go {Γ : Call} {cs : List (PySem.Str × D)} {fu : Nat} {t : Tg} {s : Sr} {b : Ss} {g g1 : Sg} {xs : List D} {r : RS} (hr : evr Γ cs s g = some (.ok xs, g1)) (h : forGo t (evSs Γ cs fu b) xs g1 = r) : evS Γ cs fu (.for t s b) g = r := by
  rw [q_for, hr]
  exact h
theorem compGo_fm {own : List Nat} {F : D → Sg → R (Option D)} {φ : D → Option D} {g : Sg} : ∀ {xs acc : List D}, (∀ d, d ∈ xs → ∃ g', F d (wipeG g own) = some (.ok (φ d), g') ∧ wipeG g' own = wipeG g own) →
    acc.length + xs.length ≤ PySem.sizeLine → ∀ {g0}, wipeG g0 own = wipeG g own → ∃ g', compGo own F acc xs g0 = some (.ok (acc ++ xs.filterMap φ), g') ∧ wipeG g' own = wipeG g own
  | [], acc, _, _, g0, e => ⟨g0, by unfold compGo; rw [List.filterMap_nil, List.append_nil]; rfl, e⟩
  | x :: xs, acc, hF, hl, g0, e => by
    obtain ⟨g1, h1, h2⟩ := hF x List.mem_cons_self
    rw [List.length_cons] at hl
    cases hφ : φ x with
    | none =>
      rw [hφ] at h1
      obtain ⟨g', h4, h5⟩ := compGo_fm (acc := acc) (fun d hd => hF d (List.mem_cons_of_mem _ hd)) (by omega) h2
      refine ⟨g', ?_, h5⟩
      unfold compGo
      rw [e, h1, List.filterMap_cons, hφ]
      dsimp only
      rw [if_pos (by omega), h4]
    | some y =>
      rw [hφ] at h1
      obtain ⟨g', h4, h5⟩ := compGo_fm (acc := acc ++ [y]) (fun d hd => hF d (List.mem_cons_of_mem _ hd)) (by rw [List.length_append]; show acc.length + 1 + _ ≤ _; omega) h2
      refine ⟨g', ?_, h5⟩
      unfold compGo
      rw [e, h1, List.filterMap_cons, hφ]
      dsimp only
      rw [if_pos (by omega), h4, List.append_assoc]
      rfl
/-- a comprehension over one name, whose element reads only -/
theorem comp_map1 {Γ : Call} {cs : List (PySem.Str × D)} {e : C} {i : Nat} {s : Sr} {g g1 : Sg} {xs : List D} {h : D → D} (hr : evr Γ cs s g = some (.ok xs, g1)) (hi : i < g1.length) (hp : plainSl (g1.getD i .no) = true) (hl : xs.length ≤ PySem.sizeLine)
    (hE : ∀ d, d ∈ xs → ∃ y, ev Γ cs e (g1.set i (.im d)) = some (.ok y, g1.set i (.im d)) ∧ y.toD = h d) :
    ev Γ cs (.comp e (.n i) s .non [i]) g = some (.ok (.m (.l (xs.map h))), g1) := by
  have w : ∀ a : Sl, wipeG (g1.set i a) [i] = wipeG g1 [i] := fun a => List.set_set _
  obtain ⟨g2, h1, h2⟩ := compGo_map (own := [i]) (F := fun d g => (asg (.n i) d g).bind fun g => bnd (evq Γ cs .non g) fun b g => if b then bnd (ev Γ cs e g) fun y g => ret (some y.toD) g else ret none g) (h := h) (g := g1) (xs := xs) (acc := []) (fun d hd => by
    obtain ⟨y, h1, h2⟩ := hE d hd
    refine ⟨g1.set i (.im d), ?_, w _⟩
    have e1 : asg (.n i) d (wipeG g1 [i]) = some (g1.set i (.im d)) := by
      show setG (g1.set i .no) i (.im d) = _
      unfold setG
      rw [if_pos ⟨by rw [List.length_set]; exact hi, by rw [List.getElem?_set_self hi]; rfl⟩, List.set_set]
    show (asg (.n i) d (wipeG g1 [i])).bind _ = _
    rw [e1]
    show bnd (ev Γ cs e (g1.set i (.im d))) _ = _
    rw [h1, ← h2]
    rfl) (by rw [List.length_nil]; omega) (g0 := g1) rfl
  rw [q_comp hr (by rw [List.all_cons, hp]; rfl) h1, List.nil_append]
  have e2 : restG g1 g2 [i] = g1 := by
    show g2.set i (g1.getD i .no) = g1
    have e3 : g2.set i .no = g1.set i .no := h2
    have e4 : g2.set i (g1.getD i .no) = (g2.set i .no).set i (g1.getD i .no) := (List.set_set _).symm
    rw [e4, e3, List.set_set]
    have e5 : g1.getD i .no = g1[i] := by
      rw [List.getD_eq_getElem?_getD, List.getElem?_eq_getElem hi]
      rfl
    rw [e5]
    exact List.set_getElem_self hi
  rw [e2]
end Z

namespace Law
open PySem PySem.Spec PyProof.Rows L2 Z
def f0 : FnI := { name := "is_integer", ps := ["thing"], N := ["thing"], body := (.cons (.ret (.and (.isi (.var 0) .int) (.not (.isi (.var 0) .bool))))
    .nil) }
def f1 : FnI := { name := "is_between", ps := ["thing", "low", "high"], N := ["thing", "low", "high"], body := (.cons (.ret (.and (.call 0 1 (.val (.var 0) .nil)) (.chain .le .le (.var 1) (.var 0) (.var 2))))
    .nil) }
def f2_c0 : C := (.cmp .gt (.var 0) (.int 1))
def f2_b0 : Ss := (.cons (.ite (.cmp .eq (.bin .mod (.var 0) (.var 2)) (.int 0)) (.cons (.app 1 (.var 2))
    (.cons (.set 0 false (.bin .div (.var 0) (.var 2)))
    .nil)) (.cons (.set 2 false (.bin .add (.var 2) (.int 1)))
    .nil))
    .nil)
def f2_w0 : S := .whl f2_c0 f2_b0
def f2 : FnI := { name := "primes_of", ps := ["number"], N := ["number", "found", "prime"], body := (.cons (.par 1 2 true false (.lst .nil) (.int 2))
    (.cons f2_w0
    (.cons (.ret (.var 1))
    .nil))) }
def f3_e0 : C := (.bin .sub (.var 1) (.int 1))
def f3_m0 : C := .comp f3_e0 (.n 1) (.seq (.call 2 1 (.val (.var 0) .nil))) .non [1]
def f3 : FnI := { name := "least_by", ps := ["number"], N := ["number", "prime"], body := (.cons (.ret (.bin .add (.int 1) (.b1 .sum f3_m0)))
    .nil) }
def f4 : FnI := { name := "need_period", ps := ["period"], N := ["period"], body := (.cons (.ite (.not (.call 1 3 (.val (.var 0) (.val (.int 1) (.val (.glb 0) .nil))))) (.cons (.raise 0 "")
    .nil) .nil)
    .nil) }
def f5 : FnI := { name := "least_many", ps := ["period"], N := ["period"], body := (.cons (.exp (.call 4 1 (.val (.var 0) .nil)))
    (.cons (.ret (.call 3 1 (.val (.var 0) .nil)))
    .nil)) }
def f6 : FnI := { name := "_law_cell", ps := ["_law_script", "_law_k"], N := ["_law_script", "_law_k"], body := (.cons (.ret (.ite (.cmp .lt (.var 1) (.lenv 0)) (.idxv 0 (.var 1)) (.int 0)))
    .nil) }
def f7 : FnI := { name := "_law_pen", ps := ["_law_cell_here"], N := ["_law_cell_here"], body := (.cons (.ret (.lst (.cons (.b2 .max (.int 0) (.bin .sub (.var 0) (.bin .pow (.int 10) (.int 18)))) (.cons (.bin .add (.bin .mod (.var 0) (.int 2147483629)) (.int 1)) (.cons (.int 0) .nil)))))
    .nil) }
def f8 : FnI := { name := "_law_draw", ps := ["_law_pen_here", "_law_many"], N := ["_law_pen_here", "_law_many", "_law_found", "_law_stirred"], body := (.cons (.ite (.cmp .gt (.idxv 0 (.int 0)) (.int 0)) (.cons (.set 2 false (.bin .mod (.idxv 0 (.int 0)) (.var 1)))
    (.cons (.put 0 (.int 0) (.bin .div (.idxv 0 (.int 0)) (.var 1)))
    (.cons (.ret (.var 2))
    .nil))) .nil)
    (.cons (.put 0 (.int 2) (.bin .add (.idxv 0 (.int 2)) (.int 1)))
    (.cons (.put 0 (.int 1) (.bin .mod (.bin .add (.bin .add (.bin .mul (.idxv 0 (.int 1)) (.int 48271)) (.bin .mul (.int 1009) (.idxv 0 (.int 2)))) (.int 7)) (.int 2147483647)))
    (.cons (.set 3 false (.bin .mod (.bin .add (.bin .add (.bin .mul (.idxv 0 (.int 1)) (.idxv 0 (.int 1))) (.bin .mul (.int 69621) (.idxv 0 (.int 1)))) (.int 11)) (.int 2147483629)))
    (.cons (.set 3 false (.bin .mod (.bin .add (.bin .mul (.var 3) (.var 3)) (.bin .mul (.int 40014) (.var 3))) (.int 2147483587)))
    (.cons (.ret (.bin .mod (.bin .div (.var 3) (.int 16)) (.var 1)))
    .nil)))))) }
def f9 : FnI := { name := "_law_same", ps := ["_law_found", "_law_due"], N := ["_law_found", "_law_due"], body := (.cons (.ret (.cmp .eq (.b1 .repr (.var 0)) (.b1 .repr (.var 1))))
    .nil) }
def f10_c0 : C := (.cmp .eq (.bin .mod (.var 0) (.var 2)) (.int 0))
def f10_b0 : Ss := (.cons (.app 1 (.var 2))
    (.cons (.set 0 false (.bin .div (.var 0) (.var 2)))
    .nil))
def f10_w0 : S := .whl f10_c0 f10_b0
def f10_c1 : C := (.cmp .le (.var 2) (.var 0))
def f10_b1 : Ss := (.cons f10_w0
    (.cons (.set 2 false (.bin .add (.var 2) (.int 1)))
    .nil))
def f10_w1 : S := .whl f10_c1 f10_b1
def f10 : FnI := { name := "_law_primes", ps := ["_law_number"], N := ["_law_number", "_law_found", "_law_one"], body := (.cons (.par 1 2 true false (.lst .nil) (.int 2))
    (.cons f10_w1
    (.cons (.ret (.var 1))
    .nil))) }
def f11_e0 : C := (.bin .sub (.var 1) (.int 1))
def f11_m0 : C := .comp f11_e0 (.n 1) (.seq (.call 10 1 (.val (.var 0) .nil))) .non [1]
def f11 : FnI := { name := "_law_least", ps := ["_law_number"], N := ["_law_number", "_law_one"], body := (.cons (.ret (.bin .add (.int 1) (.b1 .sum f11_m0)))
    .nil) }
def f12_e0 : C := (.bin .add (.int 1) (.call 8 2 (.bor 3 (.val (.int 100) .nil))))
def f12_m0 : C := .comp f12_e0 (.n 4) (.rng1 (.int 6)) .non [4]
def f12_b1 : Ss := (.cons (.ite (.not (.call 9 2 (.val (.call 5 1 (.val (.var 1) .nil)) (.val (.call 11 1 (.val (.var 1) .nil)) .nil)))) (.cons (.ret (.bl false))
    .nil) .nil)
    .nil)
def f12_w1 : S := .for (.n 1) (.seq (.bin .add f12_m0 (.lst (.cons (.bin .add (.int 1) (.call 8 2 (.bor 3 (.val (.int 5040) .nil)))) .nil)))) f12_b1
def f12_b2 : Ss := (.cons (.set 3 true (.call 7 1 (.val (.call 6 2 (.bor 0 (.val (.var 2) .nil))) .nil)))
    (.cons f12_w1
    .nil))
def f12_w2 : S := .for (.n 2) (.rng1 (.b2 .max (.int 1) (.b2 .min (.lenv 0) (.int 3)))) f12_b2
def f12_b3 : Ss := (.cons (.ite (.not (.call 9 2 (.val (.lst (.cons (.call 5 1 (.val (.var 1) .nil)) (.cons (.call 5 1 (.val (.var 1) .nil)) .nil))) (.val (.bin .mul (.lst (.cons (.call 11 1 (.val (.var 1) .nil)) .nil)) (.int 2)) .nil)))) (.cons (.ret (.bl false))
    .nil) .nil)
    .nil)
def f12_w3 : S := .for (.n 1) (.seq (.tup (.cons (.int 1) (.cons (.int 2) (.cons (.int 3) (.cons (.int 4) (.cons (.int 5) (.cons (.int 6) (.cons (.int 8) (.cons (.int 9) (.cons (.int 12) (.cons (.int 30) (.cons (.int 36) (.cons (.int 49) (.cons (.int 60) (.cons (.int 97) (.cons (.int 120) (.cons (.int 360) (.cons (.int 720) (.cons (.int 2310) (.cons (.int 4096) (.cons (.int 5040) .nil)))))))))))))))))))))) f12_b3
def f12 : FnI := { name := "law", ps := ["_law_script"], N := ["_law_script", "_law_number", "_law_k", "_law_pen_here", "_law_lap"], body := (.cons f12_w3
    (.cons f12_w2
    (.cons (.ret (.bl true))
    .nil))) }
def tab : Tab := { fns := [f0, f1, f2, f3, f4, f5, f6, f7, f8, f9, f10, f11, f12], cons := [("LONGEST", .int 5040)], excs := [] }
theorem tc0 : tab.cons[0]? = some (("LONGEST" : Str), (.int 5040 : PyData)) := rfl
end Law

namespace Law
open PySem PySem.Spec PyProof.Rows L2 Z
def topS (i : Nat) : Stmt := PySem.Challenge.pw_onceapiece_k60_least_turns_told.main.body.getD i (.Pass ⟨0, 0, 0, 0⟩)
abbrev s0 : Stmt := topS 5
theorem sc0 : FnScope f0.N f0.ps (defScope s0) := ⟨rfl, rfl, rfl, by decide +kernel, rfl, by decide +kernel, by decide +kernel⟩
theorem ck0 : chkSs tab.fns tab.cons f0.N (defScope s0) (defScope s0) f0.body (defBody s0) = true := by decide +kernel
abbrev s1 : Stmt := topS 6
theorem sc1 : FnScope f1.N f1.ps (defScope s1) := ⟨rfl, rfl, rfl, by decide +kernel, rfl, by decide +kernel, by decide +kernel⟩
theorem ck1 : chkSs tab.fns tab.cons f1.N (defScope s1) (defScope s1) f1.body (defBody s1) = true := by decide +kernel
abbrev s2 : Stmt := topS 8
theorem sc2 : FnScope f2.N f2.ps (defScope s2) := ⟨rfl, rfl, rfl, by decide +kernel, rfl, by decide +kernel, by decide +kernel⟩
theorem ck2 : chkSs tab.fns tab.cons f2.N (defScope s2) (defScope s2) f2.body (defBody s2) = true := by decide +kernel
abbrev s3 : Stmt := topS 9
theorem sc3 : FnScope f3.N f3.ps (defScope s3) := ⟨rfl, rfl, rfl, by decide +kernel, rfl, by decide +kernel, by decide +kernel⟩
theorem ck3 : chkSs tab.fns tab.cons f3.N (defScope s3) (defScope s3) f3.body (defBody s3) = true := by decide +kernel
abbrev s4 : Stmt := topS 10
theorem sc4 : FnScope f4.N f4.ps (defScope s4) := ⟨rfl, rfl, rfl, by decide +kernel, rfl, by decide +kernel, by decide +kernel⟩
theorem ck4 : chkSs tab.fns tab.cons f4.N (defScope s4) (defScope s4) f4.body (defBody s4) = true := by decide +kernel
abbrev s5 : Stmt := topS 11
theorem sc5 : FnScope f5.N f5.ps (defScope s5) := ⟨rfl, rfl, rfl, by decide +kernel, rfl, by decide +kernel, by decide +kernel⟩
theorem ck5 : chkSs tab.fns tab.cons f5.N (defScope s5) (defScope s5) f5.body (defBody s5) = true := by decide +kernel
abbrev s6 : Stmt := topS 13
theorem sc6 : FnScope f6.N f6.ps (defScope s6) := ⟨rfl, rfl, rfl, by decide +kernel, rfl, by decide +kernel, by decide +kernel⟩
theorem ck6 : chkSs tab.fns tab.cons f6.N (defScope s6) (defScope s6) f6.body (defBody s6) = true := by decide +kernel
abbrev s7 : Stmt := topS 14
theorem sc7 : FnScope f7.N f7.ps (defScope s7) := ⟨rfl, rfl, rfl, by decide +kernel, rfl, by decide +kernel, by decide +kernel⟩
theorem ck7 : chkSs tab.fns tab.cons f7.N (defScope s7) (defScope s7) f7.body (defBody s7) = true := by decide +kernel
abbrev s8 : Stmt := topS 15
theorem sc8 : FnScope f8.N f8.ps (defScope s8) := ⟨rfl, rfl, rfl, by decide +kernel, rfl, by decide +kernel, by decide +kernel⟩
theorem ck8 : chkSs tab.fns tab.cons f8.N (defScope s8) (defScope s8) f8.body (defBody s8) = true := by decide +kernel
abbrev s9 : Stmt := topS 16
theorem sc9 : FnScope f9.N f9.ps (defScope s9) := ⟨rfl, rfl, rfl, by decide +kernel, rfl, by decide +kernel, by decide +kernel⟩
theorem ck9 : chkSs tab.fns tab.cons f9.N (defScope s9) (defScope s9) f9.body (defBody s9) = true := by decide +kernel
abbrev s10 : Stmt := topS 17
theorem sc10 : FnScope f10.N f10.ps (defScope s10) := ⟨rfl, rfl, rfl, by decide +kernel, rfl, by decide +kernel, by decide +kernel⟩
theorem ck10 : chkSs tab.fns tab.cons f10.N (defScope s10) (defScope s10) f10.body (defBody s10) = true := by decide +kernel
abbrev s11 : Stmt := topS 18
theorem sc11 : FnScope f11.N f11.ps (defScope s11) := ⟨rfl, rfl, rfl, by decide +kernel, rfl, by decide +kernel, by decide +kernel⟩
theorem ck11 : chkSs tab.fns tab.cons f11.N (defScope s11) (defScope s11) f11.body (defBody s11) = true := by decide +kernel
abbrev s12 : Stmt := topS 19
theorem sc12 : FnScope f12.N f12.ps (defScope s12) := ⟨rfl, rfl, rfl, by decide +kernel, rfl, by decide +kernel, by decide +kernel⟩
theorem ck12 : chkSs tab.fns tab.cons f12.N (defScope s12) (defScope s12) f12.body (defBody s12) = true := by decide +kernel
theorem all_mk {l : PySem.W.OpenLaw} {w : World} {K : PySem.W.Frag} {h : Heap} {mg : Str → Option Value} {fa f0_ f1_ f2_ f3_ f4_ f5_ f6_ f7_ f8_ f9_ f10_ f11_ f12_ : Addr} (X : K.In h) (G : h.Ns mainGlobals mg) (hfa : mg "law" = some (.ref fa))
    {od0 an0 od1 an1 od2 an2 od3 an3 od4 an4 od5 an5 od6 an6 od7 an7 od8 an8 od9 an9 od10 an10 od11 an11 od12 an12 : Option Addr} {sl0 sl1 sl2 sl3 sl4 sl5 sl6 sl7 sl8 sl9 sl10 sl11 sl12 : Array (Option Value)} {oc0 kV0 dc0 pm0 cd0 ct0 oc1 kV1 dc1 pm1 cd1 ct1 oc2 kV2 dc2 pm2 cd2 ct2 oc3 kV3 dc3 pm3 cd3 ct3 oc4 kV4 dc4 pm4 cd4 ct4 oc5 kV5 dc5 pm5 cd5 ct5 oc6 kV6 dc6 pm6 cd6 ct6 oc7 kV7 dc7 pm7 cd7 ct7 oc8 kV8 dc8 pm8 cd8 ct8 oc9 kV9 dc9 pm9 cd9 ct9 oc10 kV10 dc10 pm10 cd10 ct10 oc11 kV11 dc11 pm11 cd11 ct11 oc12 kV12 dc12 pm12 cd12 ct12 : Value}
    {t0 : Tok}
    (a0 : PySem.W.nsIn K mainGlobals "is_integer" = some (some (.ref f0_))) (l0 : K.lookup f0_ = some ⟨oc0, od0, .func (PySem.W.fnOf "is_integer" "is_integer" (defArgs s0) (defBody s0) (defScope s0) .none kV0 dc0 pm0 an0 cd0 ct0), sl0⟩) (c0 : PySem.W.codeIn K cd0 "is_integer" = true) (k0 : PySem.W.keepIn K (.ref f0_) = true)
    (a1 : PySem.W.nsIn K mainGlobals "is_between" = some (some (.ref f1_))) (l1 : K.lookup f1_ = some ⟨oc1, od1, .func (PySem.W.fnOf "is_between" "is_between" (defArgs s1) (defBody s1) (defScope s1) .none kV1 dc1 pm1 an1 cd1 ct1), sl1⟩) (c1 : PySem.W.codeIn K cd1 "is_between" = true) (k1 : PySem.W.keepIn K (.ref f1_) = true)
    (a2 : PySem.W.nsIn K mainGlobals "primes_of" = some (some (.ref f2_))) (l2 : K.lookup f2_ = some ⟨oc2, od2, .func (PySem.W.fnOf "primes_of" "primes_of" (defArgs s2) (defBody s2) (defScope s2) .none kV2 dc2 pm2 an2 cd2 ct2), sl2⟩) (c2 : PySem.W.codeIn K cd2 "primes_of" = true) (k2 : PySem.W.keepIn K (.ref f2_) = true)
    (a3 : PySem.W.nsIn K mainGlobals "least_by" = some (some (.ref f3_))) (l3 : K.lookup f3_ = some ⟨oc3, od3, .func (PySem.W.fnOf "least_by" "least_by" (defArgs s3) (defBody s3) (defScope s3) .none kV3 dc3 pm3 an3 cd3 ct3), sl3⟩) (c3 : PySem.W.codeIn K cd3 "least_by" = true) (k3 : PySem.W.keepIn K (.ref f3_) = true)
    (a4 : PySem.W.nsIn K mainGlobals "need_period" = some (some (.ref f4_))) (l4 : K.lookup f4_ = some ⟨oc4, od4, .func (PySem.W.fnOf "need_period" "need_period" (defArgs s4) (defBody s4) (defScope s4) .none kV4 dc4 pm4 an4 cd4 ct4), sl4⟩) (c4 : PySem.W.codeIn K cd4 "need_period" = true) (k4 : PySem.W.keepIn K (.ref f4_) = true)
    (a5 : PySem.W.nsIn K mainGlobals "least_many" = some (some (.ref f5_))) (l5 : K.lookup f5_ = some ⟨oc5, od5, .func (PySem.W.fnOf "least_many" "least_many" (defArgs s5) (defBody s5) (defScope s5) .none kV5 dc5 pm5 an5 cd5 ct5), sl5⟩) (c5 : PySem.W.codeIn K cd5 "least_many" = true) (k5 : PySem.W.keepIn K (.ref f5_) = true)
    (a6 : PySem.W.nsIn K mainGlobals "_law_cell" = some (some (.ref f6_))) (l6 : K.lookup f6_ = some ⟨oc6, od6, .func (PySem.W.fnOf "_law_cell" "_law_cell" (defArgs s6) (defBody s6) (defScope s6) .none kV6 dc6 pm6 an6 cd6 ct6), sl6⟩) (c6 : PySem.W.codeIn K cd6 "_law_cell" = true) (k6 : PySem.W.keepIn K (.ref f6_) = true)
    (a7 : PySem.W.nsIn K mainGlobals "_law_pen" = some (some (.ref f7_))) (l7 : K.lookup f7_ = some ⟨oc7, od7, .func (PySem.W.fnOf "_law_pen" "_law_pen" (defArgs s7) (defBody s7) (defScope s7) .none kV7 dc7 pm7 an7 cd7 ct7), sl7⟩) (c7 : PySem.W.codeIn K cd7 "_law_pen" = true) (k7 : PySem.W.keepIn K (.ref f7_) = true)
    (a8 : PySem.W.nsIn K mainGlobals "_law_draw" = some (some (.ref f8_))) (l8 : K.lookup f8_ = some ⟨oc8, od8, .func (PySem.W.fnOf "_law_draw" "_law_draw" (defArgs s8) (defBody s8) (defScope s8) .none kV8 dc8 pm8 an8 cd8 ct8), sl8⟩) (c8 : PySem.W.codeIn K cd8 "_law_draw" = true) (k8 : PySem.W.keepIn K (.ref f8_) = true)
    (a9 : PySem.W.nsIn K mainGlobals "_law_same" = some (some (.ref f9_))) (l9 : K.lookup f9_ = some ⟨oc9, od9, .func (PySem.W.fnOf "_law_same" "_law_same" (defArgs s9) (defBody s9) (defScope s9) .none kV9 dc9 pm9 an9 cd9 ct9), sl9⟩) (c9 : PySem.W.codeIn K cd9 "_law_same" = true) (k9 : PySem.W.keepIn K (.ref f9_) = true)
    (a10 : PySem.W.nsIn K mainGlobals "_law_primes" = some (some (.ref f10_))) (l10 : K.lookup f10_ = some ⟨oc10, od10, .func (PySem.W.fnOf "_law_primes" "_law_primes" (defArgs s10) (defBody s10) (defScope s10) .none kV10 dc10 pm10 an10 cd10 ct10), sl10⟩) (c10 : PySem.W.codeIn K cd10 "_law_primes" = true) (k10 : PySem.W.keepIn K (.ref f10_) = true)
    (a11 : PySem.W.nsIn K mainGlobals "_law_least" = some (some (.ref f11_))) (l11 : K.lookup f11_ = some ⟨oc11, od11, .func (PySem.W.fnOf "_law_least" "_law_least" (defArgs s11) (defBody s11) (defScope s11) .none kV11 dc11 pm11 an11 cd11 ct11), sl11⟩) (c11 : PySem.W.codeIn K cd11 "_law_least" = true) (k11 : PySem.W.keepIn K (.ref f11_) = true)
    (a12 : PySem.W.nsIn K mainGlobals "law" = some (some (.ref f12_))) (l12 : K.lookup f12_ = some ⟨oc12, od12, .func (PySem.W.fnOf "law" "law" (defArgs s12) (defBody s12) (defScope s12) .none kV12 dc12 pm12 an12 cd12 ct12), sl12⟩) (c12 : PySem.W.codeIn K cd12 "law" = true) (k12 : PySem.W.keepIn K (.ref f12_) = true)
    (gc0 : PySem.W.nsIn K mainGlobals "LONGEST" = some (some (.int 5040 t0)))
    (z0 : PySem.W.nsIn K mainGlobals "len" = some none)
    (z1 : PySem.W.nsIn K mainGlobals "sum" = some none)
    (z2 : PySem.W.nsIn K mainGlobals "max" = some none)
    (z3 : PySem.W.nsIn K mainGlobals "min" = some none)
    (z4 : PySem.W.nsIn K mainGlobals "all" = some none)
    (z5 : PySem.W.nsIn K mainGlobals "any" = some none)
    (z6 : PySem.W.nsIn K mainGlobals "int" = some none)
    (z7 : PySem.W.nsIn K mainGlobals "str" = some none)
    (z8 : PySem.W.nsIn K mainGlobals "repr" = some none)
    (z9 : PySem.W.nsIn K mainGlobals "tuple" = some none)
    (z10 : PySem.W.nsIn K mainGlobals "list" = some none)
    (z11 : PySem.W.nsIn K mainGlobals "bool" = some none)
    (z12 : PySem.W.nsIn K mainGlobals "abs" = some none)
    (z13 : PySem.W.nsIn K mainGlobals "sorted" = some none)
    (z14 : PySem.W.nsIn K mainGlobals "isinstance" = some none)
    (z15 : PySem.W.nsIn K mainGlobals "dict" = some none)
    (z16 : PySem.W.nsIn K mainGlobals "range" = some none)
    (z17 : PySem.W.nsIn K mainGlobals "enumerate" = some none)
    (z18 : PySem.W.nsIn K mainGlobals "zip" = some none)
    (z19 : PySem.W.nsIn K mainGlobals "set" = some none) :
    ∃ fd : FuncData, (∀ (s : Shared) (v : Value), BindsTo s fd ⟨[v], []⟩ [("_law_script", v)]) ∧ ∀ base : Heap, K.In base → base.Ns mainGlobals mg → FnG l.prog w K mg base 10 fa fd ["_law_script"] (spF K (fun _ => none) 1 (run tab 1000000 10 12)) := by
  have e := hfa.symm.trans (PySem.W.mg_of X G a12)
  cases e
  have F0 := fun_mk (st := s0) l0 c0 k0
  have F1 := fun_mk (st := s1) l1 c1 k1
  have F2 := fun_mk (st := s2) l2 c2 k2
  have F3 := fun_mk (st := s3) l3 c3 k3
  have F4 := fun_mk (st := s4) l4 c4 k4
  have F5 := fun_mk (st := s5) l5 c5 k5
  have F6 := fun_mk (st := s6) l6 c6 k6
  have F7 := fun_mk (st := s7) l7 c7 k7
  have F8 := fun_mk (st := s8) l8 c8 k8
  have F9 := fun_mk (st := s9) l9 c9 k9
  have F10 := fun_mk (st := s10) l10 c10 k10
  have F11 := fun_mk (st := s11) l11 c11 k11
  have F12 := fun_mk (st := s12) l12 c12 k12
  have top : TopOk K mg tab.fns tab.cons (fun _ => none) := by
    refine ⟨fun k x d hk => ?_, fun x hx => ?_, fun f i hf => ?_⟩
    · match k, hk with
      | 0, hk => cases hk; exact ⟨_, .int _, PySem.W.mg_of X G gc0, ⟨_, rfl⟩, fun B => .int _⟩
      | _ + 1, hk => cases hk
    · simp only [biNames, List.mem_cons, List.not_mem_nil, or_false] at hx
      rcases hx with rfl | rfl | rfl | rfl | rfl | rfl | rfl | rfl | rfl | rfl | rfl | rfl | rfl | rfl | rfl | rfl | rfl | rfl | rfl | rfl
      · exact PySem.W.mg_none_of X G z0
      · exact PySem.W.mg_none_of X G z1
      · exact PySem.W.mg_none_of X G z2
      · exact PySem.W.mg_none_of X G z3
      · exact PySem.W.mg_none_of X G z4
      · exact PySem.W.mg_none_of X G z5
      · exact PySem.W.mg_none_of X G z6
      · exact PySem.W.mg_none_of X G z7
      · exact PySem.W.mg_none_of X G z8
      · exact PySem.W.mg_none_of X G z9
      · exact PySem.W.mg_none_of X G z10
      · exact PySem.W.mg_none_of X G z11
      · exact PySem.W.mg_none_of X G z12
      · exact PySem.W.mg_none_of X G z13
      · exact PySem.W.mg_none_of X G z14
      · exact PySem.W.mg_none_of X G z15
      · exact PySem.W.mg_none_of X G z16
      · exact PySem.W.mg_none_of X G z17
      · exact PySem.W.mg_none_of X G z18
      · exact PySem.W.mg_none_of X G z19
    · match f, hf with
      | 0, hf => cases hf; exact ⟨s0, _, _, F0, PySem.W.mg_of X G a0, F0.binds (ps := f0.ps) (fun _ _ _ _ _ _ us hl => match us, hl with | [_], _ => rfl), sc0, ck0⟩
      | 1, hf => cases hf; exact ⟨s1, _, _, F1, PySem.W.mg_of X G a1, F1.binds (ps := f1.ps) (fun _ _ _ _ _ _ us hl => match us, hl with | [_, _, _], _ => rfl), sc1, ck1⟩
      | 2, hf => cases hf; exact ⟨s2, _, _, F2, PySem.W.mg_of X G a2, F2.binds (ps := f2.ps) (fun _ _ _ _ _ _ us hl => match us, hl with | [_], _ => rfl), sc2, ck2⟩
      | 3, hf => cases hf; exact ⟨s3, _, _, F3, PySem.W.mg_of X G a3, F3.binds (ps := f3.ps) (fun _ _ _ _ _ _ us hl => match us, hl with | [_], _ => rfl), sc3, ck3⟩
      | 4, hf => cases hf; exact ⟨s4, _, _, F4, PySem.W.mg_of X G a4, F4.binds (ps := f4.ps) (fun _ _ _ _ _ _ us hl => match us, hl with | [_], _ => rfl), sc4, ck4⟩
      | 5, hf => cases hf; exact ⟨s5, _, _, F5, PySem.W.mg_of X G a5, F5.binds (ps := f5.ps) (fun _ _ _ _ _ _ us hl => match us, hl with | [_], _ => rfl), sc5, ck5⟩
      | 6, hf => cases hf; exact ⟨s6, _, _, F6, PySem.W.mg_of X G a6, F6.binds (ps := f6.ps) (fun _ _ _ _ _ _ us hl => match us, hl with | [_, _], _ => rfl), sc6, ck6⟩
      | 7, hf => cases hf; exact ⟨s7, _, _, F7, PySem.W.mg_of X G a7, F7.binds (ps := f7.ps) (fun _ _ _ _ _ _ us hl => match us, hl with | [_], _ => rfl), sc7, ck7⟩
      | 8, hf => cases hf; exact ⟨s8, _, _, F8, PySem.W.mg_of X G a8, F8.binds (ps := f8.ps) (fun _ _ _ _ _ _ us hl => match us, hl with | [_, _], _ => rfl), sc8, ck8⟩
      | 9, hf => cases hf; exact ⟨s9, _, _, F9, PySem.W.mg_of X G a9, F9.binds (ps := f9.ps) (fun _ _ _ _ _ _ us hl => match us, hl with | [_, _], _ => rfl), sc9, ck9⟩
      | 10, hf => cases hf; exact ⟨s10, _, _, F10, PySem.W.mg_of X G a10, F10.binds (ps := f10.ps) (fun _ _ _ _ _ _ us hl => match us, hl with | [_], _ => rfl), sc10, ck10⟩
      | 11, hf => cases hf; exact ⟨s11, _, _, F11, PySem.W.mg_of X G a11, F11.binds (ps := f11.ps) (fun _ _ _ _ _ _ us hl => match us, hl with | [_], _ => rfl), sc11, ck11⟩
      | 12, hf => cases hf; exact ⟨s12, _, _, F12, PySem.W.mg_of X G a12, F12.binds (ps := f12.ps) (fun _ _ _ _ _ _ us hl => match us, hl with | [_], _ => rfl), sc12, ck12⟩
      | _ + 13, hf => cases hf
  exact ⟨_, fun s v => .of_eq rfl, fun base _ _ => all_G top 10 12 f12 rfl F12 (PySem.W.mg_of X G a12) sc12 ck12⟩
end Law

namespace Law
open Z
open PySem (PyData)
theorem at30 (x y z : D) : L2.atI [x, y, z] 0 = some x := rfl
theorem at31 (x y z : D) : L2.atI [x, y, z] 1 = some y := rfl
theorem at32 (x y z : D) : L2.atI [x, y, z] 2 = some z := rfl
theorem ix30 : L2.ixN 3 0 = some 0 := rfl
theorem ix31 : L2.ixN 3 1 = some 1 := rfl
theorem ix32 : L2.ixN 3 2 = some 2 := rfl
theorem r0 (F n : Nat) (i : Int) : run tab F (n + 1) 0 [.v (.int i)] = some (.ok (.v (.bool true)), [none]) := rfl
theorem r1 (F n : Nat) (i a b : Int) : run tab F (n + 2) 1 [.v (.int i), .v (.int a), .v (.int b)] = some (.ok (.v (.bool (decide (a ≤ i) && decide (i ≤ b)))), [none, none, none]) := by
  show runFn (run tab F (n + 1)) tab.cons F f1 _ = _
  simp only [runFn, ↓reduceIte, q_ev_int, q_ev_bl, q_ev_non, q_ev_str, q_ev_var, q_ev_glb, q_ev_bin, q_ev_neg, q_ev_cmp, q_ev_chain, q_ev_and, q_ev_or, q_ev_not, q_ev_ite, q_ev_tup, q_ev_lst, q_ev_idx, q_ev_idxv, q_ev_lenv, q_ev_slc, q_ev_call, q_ev_b1, q_ev_b2, q_ev_isi, q_evo_non, q_evo_som, q_evq_non, q_evq_som, q_evs_nil, q_evs_cons, q_evas_nil, q_evas_val, q_evas_bor, q_evr_seq, q_evr_rng1, q_evr_rng2, q_evS_set, q_evS_par, q_evS_asg, q_evS_put, q_evS_app, q_evS_exp, q_evS_ret, q_evS_retN, q_evS_ite, q_evS_pass, q_evS_brk, q_evS_cont, q_evSs_nil, q_evSs_cons, kBin', kBin, kNeg, kCmp', kCmp, kCh', kCh, kAnd, kOr, kNot, kIte, kTup, kLst, kIdx', kIdx, kIxv, kSlc'', kSlc', kSlc, kC2, kC1, kCall, kB1, kB2', kB2, kIsi, kOpt, kTr, kEs', kEs, kAs', kAs, kBor, kSeq, kR1, kR2', kR2, kSet, kP2, kPar', kPar, kAsg, kPut', kPut, kApp, kExp, kRet, kIf, Option.map_none, Option.bind_none, bnd_ok, bnd_no, sbnd_ok, sbnd_no, seq_nx, seq_rt, seq_bk, seq_ct, seq_ex, seq_no, ret_ok, opt_ok, opt_no, sopt_ok, toD_v, toD_m, toD_l, bin_add, bin_sub, bin_mul, bin_div, bin_mod, bin_pow, bin_addl, bin_addt, bin_rep, cmp_lt, cmp_le, cmp_gt, cmp_ge, cmp_eq, cmp_ne, cmp_eqs, truth_b, truth_i, idx_l, idx_t, len_l, len_t, rdM_im, rdM_ow, rdM_bo, rdM_sc, env_v, env_m, env_s, slOf_v, slOf_mt, slOf_mf, b2_max, b2_min, b1_len, b1_sum, b1_repi, b1_repl, b1_rept, seq_l, seq_t, argsOf, argOf, backG, Z.borrowed, noDup, List.contains_nil, Bool.not_false, Bool.and_self, slotIn, isM, upM, putM, appM, setG, isBo, outM, List.length_cons, List.length_nil, List.map_cons, List.map_nil, List.cons_append, List.nil_append, Option.bind_some, Option.map_some, List.getElem?_cons_zero, List.getElem?_cons_succ, List.replicate_zero, List.replicate_succ, Nat.sub_self, if_true, if_false, List.set_cons_zero, List.set_cons_succ, Nat.reduceAdd, Nat.reduceMul, Nat.reduceLT, Nat.zero_add, and_true, true_and, and_self, Nat.zero_le, PySem.sizeLine_eq, Nat.reduceLeDiff, true_or, Bool.not_true, List.length_append, List.length_map, tc0, f1, r0]
  cases decide (a ≤ i) <;> rfl
theorem r4 (F n : Nat) (i : Int) (h1 : 1 ≤ i) (h2 : i ≤ 5040) : run tab F (n + 3) 4 [.v (.int i)] = some (.ok (.v .none), [none]) := by
  show runFn (run tab F (n + 2)) tab.cons F f4 _ = _
  simp only [runFn, ↓reduceIte, q_ev_int, q_ev_bl, q_ev_non, q_ev_str, q_ev_var, q_ev_glb, q_ev_bin, q_ev_neg, q_ev_cmp, q_ev_chain, q_ev_and, q_ev_or, q_ev_not, q_ev_ite, q_ev_tup, q_ev_lst, q_ev_idx, q_ev_idxv, q_ev_lenv, q_ev_slc, q_ev_call, q_ev_b1, q_ev_b2, q_ev_isi, q_evo_non, q_evo_som, q_evq_non, q_evq_som, q_evs_nil, q_evs_cons, q_evas_nil, q_evas_val, q_evas_bor, q_evr_seq, q_evr_rng1, q_evr_rng2, q_evS_set, q_evS_par, q_evS_asg, q_evS_put, q_evS_app, q_evS_exp, q_evS_ret, q_evS_retN, q_evS_ite, q_evS_pass, q_evS_brk, q_evS_cont, q_evSs_nil, q_evSs_cons, kBin', kBin, kNeg, kCmp', kCmp, kCh', kCh, kAnd, kOr, kNot, kIte, kTup, kLst, kIdx', kIdx, kIxv, kSlc'', kSlc', kSlc, kC2, kC1, kCall, kB1, kB2', kB2, kIsi, kOpt, kTr, kEs', kEs, kAs', kAs, kBor, kSeq, kR1, kR2', kR2, kSet, kP2, kPar', kPar, kAsg, kPut', kPut, kApp, kExp, kRet, kIf, Option.map_none, Option.bind_none, bnd_ok, bnd_no, sbnd_ok, sbnd_no, seq_nx, seq_rt, seq_bk, seq_ct, seq_ex, seq_no, ret_ok, opt_ok, opt_no, sopt_ok, toD_v, toD_m, toD_l, bin_add, bin_sub, bin_mul, bin_div, bin_mod, bin_pow, bin_addl, bin_addt, bin_rep, cmp_lt, cmp_le, cmp_gt, cmp_ge, cmp_eq, cmp_ne, cmp_eqs, truth_b, truth_i, idx_l, idx_t, len_l, len_t, rdM_im, rdM_ow, rdM_bo, rdM_sc, env_v, env_m, env_s, slOf_v, slOf_mt, slOf_mf, b2_max, b2_min, b1_len, b1_sum, b1_repi, b1_repl, b1_rept, seq_l, seq_t, argsOf, argOf, backG, Z.borrowed, noDup, List.contains_nil, Bool.not_false, Bool.and_self, slotIn, isM, upM, putM, appM, setG, isBo, outM, List.length_cons, List.length_nil, List.map_cons, List.map_nil, List.cons_append, List.nil_append, Option.bind_some, Option.map_some, List.getElem?_cons_zero, List.getElem?_cons_succ, List.replicate_zero, List.replicate_succ, Nat.sub_self, if_true, if_false, List.set_cons_zero, List.set_cons_succ, Nat.reduceAdd, Nat.reduceMul, Nat.reduceLT, Nat.zero_add, and_true, true_and, and_self, Nat.zero_le, PySem.sizeLine_eq, Nat.reduceLeDiff, true_or, Bool.not_true, List.length_append, List.length_map, tc0, f4, r1, h1, h2, decide_true, Bool.and_self, Bool.not_true]
theorem r5 (F n : Nat) (i : Int) (h1 : 1 ≤ i) (h2 : i ≤ 5040) (p : Int) (h : run tab F (n + 3) 3 [.v (.int i)] = some (.ok (.v (.int p)), [none])) : run tab F (n + 4) 5 [.v (.int i)] = some (.ok (.v (.int p)), [none]) := by
  show runFn (run tab F (n + 3)) tab.cons F f5 _ = _
  simp only [runFn, ↓reduceIte, q_ev_int, q_ev_bl, q_ev_non, q_ev_str, q_ev_var, q_ev_glb, q_ev_bin, q_ev_neg, q_ev_cmp, q_ev_chain, q_ev_and, q_ev_or, q_ev_not, q_ev_ite, q_ev_tup, q_ev_lst, q_ev_idx, q_ev_idxv, q_ev_lenv, q_ev_slc, q_ev_call, q_ev_b1, q_ev_b2, q_ev_isi, q_evo_non, q_evo_som, q_evq_non, q_evq_som, q_evs_nil, q_evs_cons, q_evas_nil, q_evas_val, q_evas_bor, q_evr_seq, q_evr_rng1, q_evr_rng2, q_evS_set, q_evS_par, q_evS_asg, q_evS_put, q_evS_app, q_evS_exp, q_evS_ret, q_evS_retN, q_evS_ite, q_evS_pass, q_evS_brk, q_evS_cont, q_evSs_nil, q_evSs_cons, kBin', kBin, kNeg, kCmp', kCmp, kCh', kCh, kAnd, kOr, kNot, kIte, kTup, kLst, kIdx', kIdx, kIxv, kSlc'', kSlc', kSlc, kC2, kC1, kCall, kB1, kB2', kB2, kIsi, kOpt, kTr, kEs', kEs, kAs', kAs, kBor, kSeq, kR1, kR2', kR2, kSet, kP2, kPar', kPar, kAsg, kPut', kPut, kApp, kExp, kRet, kIf, Option.map_none, Option.bind_none, bnd_ok, bnd_no, sbnd_ok, sbnd_no, seq_nx, seq_rt, seq_bk, seq_ct, seq_ex, seq_no, ret_ok, opt_ok, opt_no, sopt_ok, toD_v, toD_m, toD_l, bin_add, bin_sub, bin_mul, bin_div, bin_mod, bin_pow, bin_addl, bin_addt, bin_rep, cmp_lt, cmp_le, cmp_gt, cmp_ge, cmp_eq, cmp_ne, cmp_eqs, truth_b, truth_i, idx_l, idx_t, len_l, len_t, rdM_im, rdM_ow, rdM_bo, rdM_sc, env_v, env_m, env_s, slOf_v, slOf_mt, slOf_mf, b2_max, b2_min, b1_len, b1_sum, b1_repi, b1_repl, b1_rept, seq_l, seq_t, argsOf, argOf, backG, Z.borrowed, noDup, List.contains_nil, Bool.not_false, Bool.and_self, slotIn, isM, upM, putM, appM, setG, isBo, outM, List.length_cons, List.length_nil, List.map_cons, List.map_nil, List.cons_append, List.nil_append, Option.bind_some, Option.map_some, List.getElem?_cons_zero, List.getElem?_cons_succ, List.replicate_zero, List.replicate_succ, Nat.sub_self, if_true, if_false, List.set_cons_zero, List.set_cons_succ, Nat.reduceAdd, Nat.reduceMul, Nat.reduceLT, Nat.zero_add, and_true, true_and, and_self, Nat.zero_le, PySem.sizeLine_eq, Nat.reduceLeDiff, true_or, Bool.not_true, List.length_append, List.length_map, tc0, f5, r4 F n i h1 h2, h]
/-- the script's cell -/
theorem r6 (F n : Nat) (ns : List Int) (k : Nat) : ∃ c : Int, run tab F (n + 1) 6 [.s (ns.map PyData.int), .v (.int k)] = some (.ok (.v (.int c)), [none, none]) := by
  by_cases h : k < ns.length
  · refine ⟨ns[k], ?_⟩
    have e : L2.atI (ns.map PyData.int) (k : Int) = some (.int ns[k]) := by
      unfold L2.atI L2.ixN
      rw [if_pos (by omega), List.length_map, if_pos (by omega), Option.bind_some, Int.toNat_natCast, List.getElem?_map, List.getElem?_eq_getElem h]
      rfl
    show runFn (run tab F n) tab.cons F f6 _ = _
    simp only [runFn, ↓reduceIte, q_ev_int, q_ev_bl, q_ev_non, q_ev_str, q_ev_var, q_ev_glb, q_ev_bin, q_ev_neg, q_ev_cmp, q_ev_chain, q_ev_and, q_ev_or, q_ev_not, q_ev_ite, q_ev_tup, q_ev_lst, q_ev_idx, q_ev_idxv, q_ev_lenv, q_ev_slc, q_ev_call, q_ev_b1, q_ev_b2, q_ev_isi, q_evo_non, q_evo_som, q_evq_non, q_evq_som, q_evs_nil, q_evs_cons, q_evas_nil, q_evas_val, q_evas_bor, q_evr_seq, q_evr_rng1, q_evr_rng2, q_evS_set, q_evS_par, q_evS_asg, q_evS_put, q_evS_app, q_evS_exp, q_evS_ret, q_evS_retN, q_evS_ite, q_evS_pass, q_evS_brk, q_evS_cont, q_evSs_nil, q_evSs_cons, kBin', kBin, kNeg, kCmp', kCmp, kCh', kCh, kAnd, kOr, kNot, kIte, kTup, kLst, kIdx', kIdx, kIxv, kSlc'', kSlc', kSlc, kC2, kC1, kCall, kB1, kB2', kB2, kIsi, kOpt, kTr, kEs', kEs, kAs', kAs, kBor, kSeq, kR1, kR2', kR2, kSet, kP2, kPar', kPar, kAsg, kPut', kPut, kApp, kExp, kRet, kIf, Option.map_none, Option.bind_none, bnd_ok, bnd_no, sbnd_ok, sbnd_no, seq_nx, seq_rt, seq_bk, seq_ct, seq_ex, seq_no, ret_ok, opt_ok, opt_no, sopt_ok, toD_v, toD_m, toD_l, bin_add, bin_sub, bin_mul, bin_div, bin_mod, bin_pow, bin_addl, bin_addt, bin_rep, cmp_lt, cmp_le, cmp_gt, cmp_ge, cmp_eq, cmp_ne, cmp_eqs, truth_b, truth_i, idx_l, idx_t, len_l, len_t, rdM_im, rdM_ow, rdM_bo, rdM_sc, env_v, env_m, env_s, slOf_v, slOf_mt, slOf_mf, b2_max, b2_min, b1_len, b1_sum, b1_repi, b1_repl, b1_rept, seq_l, seq_t, argsOf, argOf, backG, Z.borrowed, noDup, List.contains_nil, Bool.not_false, Bool.and_self, slotIn, isM, upM, putM, appM, setG, isBo, outM, List.length_cons, List.length_nil, List.map_cons, List.map_nil, List.cons_append, List.nil_append, Option.bind_some, Option.map_some, List.getElem?_cons_zero, List.getElem?_cons_succ, List.replicate_zero, List.replicate_succ, Nat.sub_self, if_true, if_false, List.set_cons_zero, List.set_cons_succ, Nat.reduceAdd, Nat.reduceMul, Nat.reduceLT, Nat.zero_add, and_true, true_and, and_self, Nat.zero_le, PySem.sizeLine_eq, Nat.reduceLeDiff, true_or, Bool.not_true, List.length_append, List.length_map, tc0, f6, List.length_map, show (k : Int) < (ns.length : Int) from by omega, decide_true, e]
  · refine ⟨0, ?_⟩
    show runFn (run tab F n) tab.cons F f6 _ = _
    simp only [runFn, ↓reduceIte, q_ev_int, q_ev_bl, q_ev_non, q_ev_str, q_ev_var, q_ev_glb, q_ev_bin, q_ev_neg, q_ev_cmp, q_ev_chain, q_ev_and, q_ev_or, q_ev_not, q_ev_ite, q_ev_tup, q_ev_lst, q_ev_idx, q_ev_idxv, q_ev_lenv, q_ev_slc, q_ev_call, q_ev_b1, q_ev_b2, q_ev_isi, q_evo_non, q_evo_som, q_evq_non, q_evq_som, q_evs_nil, q_evs_cons, q_evas_nil, q_evas_val, q_evas_bor, q_evr_seq, q_evr_rng1, q_evr_rng2, q_evS_set, q_evS_par, q_evS_asg, q_evS_put, q_evS_app, q_evS_exp, q_evS_ret, q_evS_retN, q_evS_ite, q_evS_pass, q_evS_brk, q_evS_cont, q_evSs_nil, q_evSs_cons, kBin', kBin, kNeg, kCmp', kCmp, kCh', kCh, kAnd, kOr, kNot, kIte, kTup, kLst, kIdx', kIdx, kIxv, kSlc'', kSlc', kSlc, kC2, kC1, kCall, kB1, kB2', kB2, kIsi, kOpt, kTr, kEs', kEs, kAs', kAs, kBor, kSeq, kR1, kR2', kR2, kSet, kP2, kPar', kPar, kAsg, kPut', kPut, kApp, kExp, kRet, kIf, Option.map_none, Option.bind_none, bnd_ok, bnd_no, sbnd_ok, sbnd_no, seq_nx, seq_rt, seq_bk, seq_ct, seq_ex, seq_no, ret_ok, opt_ok, opt_no, sopt_ok, toD_v, toD_m, toD_l, bin_add, bin_sub, bin_mul, bin_div, bin_mod, bin_pow, bin_addl, bin_addt, bin_rep, cmp_lt, cmp_le, cmp_gt, cmp_ge, cmp_eq, cmp_ne, cmp_eqs, truth_b, truth_i, idx_l, idx_t, len_l, len_t, rdM_im, rdM_ow, rdM_bo, rdM_sc, env_v, env_m, env_s, slOf_v, slOf_mt, slOf_mf, b2_max, b2_min, b1_len, b1_sum, b1_repi, b1_repl, b1_rept, seq_l, seq_t, argsOf, argOf, backG, Z.borrowed, noDup, List.contains_nil, Bool.not_false, Bool.and_self, slotIn, isM, upM, putM, appM, setG, isBo, outM, List.length_cons, List.length_nil, List.map_cons, List.map_nil, List.cons_append, List.nil_append, Option.bind_some, Option.map_some, List.getElem?_cons_zero, List.getElem?_cons_succ, List.replicate_zero, List.replicate_succ, Nat.sub_self, if_true, if_false, List.set_cons_zero, List.set_cons_succ, Nat.reduceAdd, Nat.reduceMul, Nat.reduceLT, Nat.zero_add, and_true, true_and, and_self, Nat.zero_le, PySem.sizeLine_eq, Nat.reduceLeDiff, true_or, Bool.not_true, List.length_append, List.length_map, tc0, f6, List.length_map, show ¬ (k : Int) < (ns.length : Int) from by omega, decide_false]
def PenOk (p : List D) : Prop := ∃ a b c : Int, p = [.int a, .int b, .int c] ∧ 0 ≤ b ∧ b < 2 ^ 31
theorem r7 (F n : Nat) (c : Int) : ∃ p, PenOk p ∧ run tab F (n + 1) 7 [.v (.int c)] = some (.ok (.m (.l p)), [none]) := by
  refine ⟨_, ⟨if c - 10 ^ 18 > 0 then c - 10 ^ 18 else 0, c % 2147483629 + 1, 0, rfl, by omega, by omega⟩, ?_⟩
  show runFn (run tab F n) tab.cons F f7 _ = _
  simp only [runFn, ↓reduceIte, q_ev_int, q_ev_bl, q_ev_non, q_ev_str, q_ev_var, q_ev_glb, q_ev_bin, q_ev_neg, q_ev_cmp, q_ev_chain, q_ev_and, q_ev_or, q_ev_not, q_ev_ite, q_ev_tup, q_ev_lst, q_ev_idx, q_ev_idxv, q_ev_lenv, q_ev_slc, q_ev_call, q_ev_b1, q_ev_b2, q_ev_isi, q_evo_non, q_evo_som, q_evq_non, q_evq_som, q_evs_nil, q_evs_cons, q_evas_nil, q_evas_val, q_evas_bor, q_evr_seq, q_evr_rng1, q_evr_rng2, q_evS_set, q_evS_par, q_evS_asg, q_evS_put, q_evS_app, q_evS_exp, q_evS_ret, q_evS_retN, q_evS_ite, q_evS_pass, q_evS_brk, q_evS_cont, q_evSs_nil, q_evSs_cons, kBin', kBin, kNeg, kCmp', kCmp, kCh', kCh, kAnd, kOr, kNot, kIte, kTup, kLst, kIdx', kIdx, kIxv, kSlc'', kSlc', kSlc, kC2, kC1, kCall, kB1, kB2', kB2, kIsi, kOpt, kTr, kEs', kEs, kAs', kAs, kBor, kSeq, kR1, kR2', kR2, kSet, kP2, kPar', kPar, kAsg, kPut', kPut, kApp, kExp, kRet, kIf, Option.map_none, Option.bind_none, bnd_ok, bnd_no, sbnd_ok, sbnd_no, seq_nx, seq_rt, seq_bk, seq_ct, seq_ex, seq_no, ret_ok, opt_ok, opt_no, sopt_ok, toD_v, toD_m, toD_l, bin_add, bin_sub, bin_mul, bin_div, bin_mod, bin_pow, bin_addl, bin_addt, bin_rep, cmp_lt, cmp_le, cmp_gt, cmp_ge, cmp_eq, cmp_ne, cmp_eqs, truth_b, truth_i, idx_l, idx_t, len_l, len_t, rdM_im, rdM_ow, rdM_bo, rdM_sc, env_v, env_m, env_s, slOf_v, slOf_mt, slOf_mf, b2_max, b2_min, b1_len, b1_sum, b1_repi, b1_repl, b1_rept, seq_l, seq_t, argsOf, argOf, backG, Z.borrowed, noDup, List.contains_nil, Bool.not_false, Bool.and_self, slotIn, isM, upM, putM, appM, setG, isBo, outM, List.length_cons, List.length_nil, List.map_cons, List.map_nil, List.cons_append, List.nil_append, Option.bind_some, Option.map_some, List.getElem?_cons_zero, List.getElem?_cons_succ, List.replicate_zero, List.replicate_succ, Nat.sub_self, if_true, if_false, List.set_cons_zero, List.set_cons_succ, Nat.reduceAdd, Nat.reduceMul, Nat.reduceLT, Nat.zero_add, and_true, true_and, and_self, Nat.zero_le, PySem.sizeLine_eq, Nat.reduceLeDiff, true_or, Bool.not_true, List.length_append, List.length_map, tc0, f7, show powOk 10 18 = true from by decide, show (0 : Int) < 2147483629 from by decide]
  rfl
theorem mul_c (i j : Int) (h : -(2 ^ 64) < j ∧ j < 2 ^ 64) : mulOk i j = true := by
  unfold mulOk
  rw [decide_eq_true h.1, decide_eq_true h.2]
  simp only [Bool.and_self, Bool.or_true, Bool.true_or]
theorem mul_c' (i j : Int) (h : -(2 ^ 64) < i ∧ i < 2 ^ 64) : mulOk i j = true := by
  unfold mulOk
  rw [decide_eq_true h.1, decide_eq_true h.2]
  simp only [Bool.and_self, Bool.or_true, Bool.true_or]
theorem div_c (j : Int) (h : 0 < j ∧ j < 2 ^ 62) : divOk j = true := by
  unfold divOk
  rw [decide_eq_true h.1, decide_eq_true h.2]
  simp only [Bool.and_self, Bool.or_true, Bool.true_or]
theorem r8 (F n : Nat) (p : List D) (hp : PenOk p) (m : Int) (h0 : 0 < m) (h1 : m < 2 ^ 62) : ∃ v : Int, ∃ p', PenOk p' ∧ 0 ≤ v ∧ v < m ∧ run tab F (n + 1) 8 [.m (.l p), .v (.int m)] = some (.ok (.v (.int v)), [some (.l p'), none]) := by
  obtain ⟨a, b, c, rfl, hb0, hb1⟩ := hp
  by_cases ha : 0 < a
  · refine ⟨a % m, _, ⟨a / m, b, c, rfl, hb0, hb1⟩, Int.emod_nonneg _ (by omega), Int.emod_lt_of_pos _ h0, ?_⟩
    show runFn (run tab F n) tab.cons F f8 _ = _
    simp only [runFn, ↓reduceIte, q_ev_int, q_ev_bl, q_ev_non, q_ev_str, q_ev_var, q_ev_glb, q_ev_bin, q_ev_neg, q_ev_cmp, q_ev_chain, q_ev_and, q_ev_or, q_ev_not, q_ev_ite, q_ev_tup, q_ev_lst, q_ev_idx, q_ev_idxv, q_ev_lenv, q_ev_slc, q_ev_call, q_ev_b1, q_ev_b2, q_ev_isi, q_evo_non, q_evo_som, q_evq_non, q_evq_som, q_evs_nil, q_evs_cons, q_evas_nil, q_evas_val, q_evas_bor, q_evr_seq, q_evr_rng1, q_evr_rng2, q_evS_set, q_evS_par, q_evS_asg, q_evS_put, q_evS_app, q_evS_exp, q_evS_ret, q_evS_retN, q_evS_ite, q_evS_pass, q_evS_brk, q_evS_cont, q_evSs_nil, q_evSs_cons, kBin', kBin, kNeg, kCmp', kCmp, kCh', kCh, kAnd, kOr, kNot, kIte, kTup, kLst, kIdx', kIdx, kIxv, kSlc'', kSlc', kSlc, kC2, kC1, kCall, kB1, kB2', kB2, kIsi, kOpt, kTr, kEs', kEs, kAs', kAs, kBor, kSeq, kR1, kR2', kR2, kSet, kP2, kPar', kPar, kAsg, kPut', kPut, kApp, kExp, kRet, kIf, Option.map_none, Option.bind_none, bnd_ok, bnd_no, sbnd_ok, sbnd_no, seq_nx, seq_rt, seq_bk, seq_ct, seq_ex, seq_no, ret_ok, opt_ok, opt_no, sopt_ok, toD_v, toD_m, toD_l, bin_add, bin_sub, bin_mul, bin_div, bin_mod, bin_pow, bin_addl, bin_addt, bin_rep, cmp_lt, cmp_le, cmp_gt, cmp_ge, cmp_eq, cmp_ne, cmp_eqs, truth_b, truth_i, idx_l, idx_t, len_l, len_t, rdM_im, rdM_ow, rdM_bo, rdM_sc, env_v, env_m, env_s, slOf_v, slOf_mt, slOf_mf, b2_max, b2_min, b1_len, b1_sum, b1_repi, b1_repl, b1_rept, seq_l, seq_t, argsOf, argOf, backG, Z.borrowed, noDup, List.contains_nil, Bool.not_false, Bool.and_self, slotIn, isM, upM, putM, appM, setG, isBo, outM, List.length_cons, List.length_nil, List.map_cons, List.map_nil, List.cons_append, List.nil_append, Option.bind_some, Option.map_some, List.getElem?_cons_zero, List.getElem?_cons_succ, List.replicate_zero, List.replicate_succ, Nat.sub_self, if_true, if_false, List.set_cons_zero, List.set_cons_succ, Nat.reduceAdd, Nat.reduceMul, Nat.reduceLT, Nat.zero_add, and_true, true_and, and_self, Nat.zero_le, PySem.sizeLine_eq, Nat.reduceLeDiff, true_or, Bool.not_true, List.length_append, List.length_map, tc0, f8, at30, at31, at32, ix30, ix31, ix32, ha, h0, decide_true, div_c m ⟨h0, h1⟩]
  · have q1 := Int.emod_nonneg (b * 48271 + 1009 * (c + 1) + 7) (show (2147483647 : Int) ≠ 0 by decide)
    have q2 := Int.emod_lt_of_pos (b * 48271 + 1009 * (c + 1) + 7) (show (0 : Int) < 2147483647 by decide)
    generalize hb : (b * 48271 + 1009 * (c + 1) + 7) % 2147483647 = b' at q1 q2
    have s1 := Int.emod_nonneg (b' * b' + 69621 * b' + 11) (show (2147483629 : Int) ≠ 0 by decide)
    have s2 := Int.emod_lt_of_pos (b' * b' + 69621 * b' + 11) (show (0 : Int) < 2147483629 by decide)
    generalize hs : (b' * b' + 69621 * b' + 11) % 2147483629 = s at s1 s2
    refine ⟨(s * s + 40014 * s) % 2147483587 / 16 % m, _, ⟨a, b', c + 1, rfl, q1, by omega⟩, Int.emod_nonneg _ (by omega), Int.emod_lt_of_pos _ h0, ?_⟩
    show runFn (run tab F n) tab.cons F f8 _ = _
    simp only [runFn, ↓reduceIte, q_ev_int, q_ev_bl, q_ev_non, q_ev_str, q_ev_var, q_ev_glb, q_ev_bin, q_ev_neg, q_ev_cmp, q_ev_chain, q_ev_and, q_ev_or, q_ev_not, q_ev_ite, q_ev_tup, q_ev_lst, q_ev_idx, q_ev_idxv, q_ev_lenv, q_ev_slc, q_ev_call, q_ev_b1, q_ev_b2, q_ev_isi, q_evo_non, q_evo_som, q_evq_non, q_evq_som, q_evs_nil, q_evs_cons, q_evas_nil, q_evas_val, q_evas_bor, q_evr_seq, q_evr_rng1, q_evr_rng2, q_evS_set, q_evS_par, q_evS_asg, q_evS_put, q_evS_app, q_evS_exp, q_evS_ret, q_evS_retN, q_evS_ite, q_evS_pass, q_evS_brk, q_evS_cont, q_evSs_nil, q_evSs_cons, kBin', kBin, kNeg, kCmp', kCmp, kCh', kCh, kAnd, kOr, kNot, kIte, kTup, kLst, kIdx', kIdx, kIxv, kSlc'', kSlc', kSlc, kC2, kC1, kCall, kB1, kB2', kB2, kIsi, kOpt, kTr, kEs', kEs, kAs', kAs, kBor, kSeq, kR1, kR2', kR2, kSet, kP2, kPar', kPar, kAsg, kPut', kPut, kApp, kExp, kRet, kIf, Option.map_none, Option.bind_none, bnd_ok, bnd_no, sbnd_ok, sbnd_no, seq_nx, seq_rt, seq_bk, seq_ct, seq_ex, seq_no, ret_ok, opt_ok, opt_no, sopt_ok, toD_v, toD_m, toD_l, bin_add, bin_sub, bin_mul, bin_div, bin_mod, bin_pow, bin_addl, bin_addt, bin_rep, cmp_lt, cmp_le, cmp_gt, cmp_ge, cmp_eq, cmp_ne, cmp_eqs, truth_b, truth_i, idx_l, idx_t, len_l, len_t, rdM_im, rdM_ow, rdM_bo, rdM_sc, env_v, env_m, env_s, slOf_v, slOf_mt, slOf_mf, b2_max, b2_min, b1_len, b1_sum, b1_repi, b1_repl, b1_rept, seq_l, seq_t, argsOf, argOf, backG, Z.borrowed, noDup, List.contains_nil, Bool.not_false, Bool.and_self, slotIn, isM, upM, putM, appM, setG, isBo, outM, List.length_cons, List.length_nil, List.map_cons, List.map_nil, List.cons_append, List.nil_append, Option.bind_some, Option.map_some, List.getElem?_cons_zero, List.getElem?_cons_succ, List.replicate_zero, List.replicate_succ, Nat.sub_self, if_true, if_false, List.set_cons_zero, List.set_cons_succ, Nat.reduceAdd, Nat.reduceMul, Nat.reduceLT, Nat.zero_add, and_true, true_and, and_self, Nat.zero_le, PySem.sizeLine_eq, Nat.reduceLeDiff, true_or, Bool.not_true, List.length_append, List.length_map, tc0, f8, at30, at31, at32, ix30, ix31, ix32, ha, h0, decide_false, mul_c b 48271 (by decide), mul_c' 1009 (c + 1) (by decide), hb, mul_c b' b' (by omega), mul_c' 69621 b' (by decide), hs, mul_c s s (by omega), mul_c' 40014 s (by decide), div_c 16 (by decide),
      show (0 : Int) < 2147483647 from by decide, show (0 : Int) < 2147483629 from by decide, show (0 : Int) < 2147483587 from by decide]
/-- the primes by trial division, with the number of steps -/
inductive Fac : Int → Int → List Int → Nat → Prop
  | one {p : Int} : Fac 1 p [] 0
  | div {n p : Int} {l : List Int} {k : Nat} : 1 < n → n % p = 0 → Fac (n / p) p l k → Fac n p (p :: l) (k + 1)
  | inc {n p : Int} {l : List Int} {k : Nat} : 1 < n → n % p ≠ 0 → p < n → Fac n (p + 1) l k → Fac n p l (k + 1)
theorem div_fact {n p : Int} (hn : 1 < n) (hp : 2 ≤ p) (h : n % p = 0) : 1 ≤ n / p ∧ p * (n / p) = n := by
  have e : p * (n / p) = n := by
    have := Int.mul_ediv_add_emod n p
    omega
  refine ⟨?_, e⟩
  rcases Int.lt_or_le (n / p) 1 with h1 | h1
  · have h2 : p * (n / p) ≤ p * 0 := Int.mul_le_mul_of_nonneg_left (by omega) (by omega)
    omega
  · exact h1
theorem fac_ex : ∀ (k : Nat) (n p : Int), 1 ≤ n → 2 ≤ p → (∀ d : Int, 2 ≤ d → d ∣ n → p ≤ d) → (2 * n - p).toNat ≤ k → ∃ l j, Fac n p l j ∧ j ≤ k
  | k, n, p, hn, hp, hd, hk => by
    rcases Int.lt_or_le 1 n with h1 | h1
    · have hpn : p ≤ n := hd n (by omega) ⟨1, by omega⟩
      match k, hk with
      | 0, hk => exact absurd hk (by omega)
      | k + 1, hk =>
        by_cases h : n % p = 0
        · obtain ⟨g1, g2⟩ := div_fact h1 hp h
          have g3 : 2 * (n / p) ≤ p * (n / p) := Int.mul_le_mul_of_nonneg_right hp (by omega)
          obtain ⟨l, j, h2, h3⟩ := fac_ex k (n / p) p g1 hp (fun d hd1 hd2 => hd d hd1 (g2 ▸ Int.dvd_mul_of_dvd_right hd2)) (by omega)
          exact ⟨p :: l, j + 1, .div h1 h h2, by omega⟩
        · have hlt : p < n := by
            rcases Int.lt_or_le p n with h2 | h2
            · exact h2
            · have : n = p := by omega
              subst this
              exact absurd (Int.emod_self) h
          obtain ⟨l, j, h2, h3⟩ := fac_ex k n (p + 1) hn (by omega) (fun d hd1 hd2 => by
            have := hd d hd1 hd2
            rcases Int.lt_or_le p d with h3 | h3
            · omega
            · have : d = p := by omega
              subst this
              exact absurd (Int.emod_eq_zero_of_dvd hd2) h) (by omega)
          exact ⟨l, j + 1, .inc h1 h hlt h2, by omega⟩
    · have : n = 1 := by omega
      subst this
      exact ⟨[], 0, .one, by omega⟩
theorem fac_sum {n p : Int} {l : List Int} {k : Nat} (h : Fac n p l k) (hp : 2 ≤ p) : 0 ≤ (l.map (· - 1)).sum ∧ (l.map (· - 1)).sum ≤ n - 1 := by
  induction h with
  | one => exact ⟨by decide, by decide⟩
  | div h1 h2 h3 ih =>
    obtain ⟨i1, i2⟩ := ih hp
    obtain ⟨g1, g2⟩ := div_fact h1 hp h2
    rw [List.map_cons, List.sum_cons]
    refine ⟨by omega, ?_⟩
    rename_i n p l k
    have : 0 ≤ (p - 1) * (n / p - 1) := Int.mul_nonneg (by omega) (by omega)
    rw [Int.sub_mul, Int.mul_sub, g2] at this
    omega
  | inc h1 h2 h3 h4 ih =>
    exact ih (by omega)
theorem fac_len {n p : Int} {l : List Int} {k : Nat} (h : Fac n p l k) : l.length ≤ k := by
  induction h with
  | one => exact Nat.le_refl _
  | div h1 h2 h3 ih => rw [List.length_cons]; omega
  | inc h1 h2 h3 h4 ih => omega
/-- the program's loop -/
theorem w2 (Γ : Call) (cs : List (PySem.Str × D)) {n p : Int} {l : List Int} {k : Nat} (h : Fac n p l k) (hp : 2 ≤ p) (F0 : Nat) : ∀ (F : Nat) (fs : List D), k < F → n < 2 ^ 62 → fs.length + k ≤ 100000 → ∃ q : Int,
    whlGo (fun g => bnd (ev Γ cs f2_c0 g) kTr) (evSs Γ cs F0 f2_b0) F [.im (.int n), .ow (.l fs), .im (.int p)] = some (.nx, [.im (.int 1), .ow (.l (fs ++ l.map .int)), .im (.int q)]) := by
  induction h with
  | one =>
    rename_i p
    intro F fs hF _ _
    refine ⟨p, ?_⟩
    match F, hF with
    | F + 1, _ =>
      rw [whl_end, List.map_nil, List.append_nil]
      simp only [runFn, ↓reduceIte, q_ev_int, q_ev_bl, q_ev_non, q_ev_str, q_ev_var, q_ev_glb, q_ev_bin, q_ev_neg, q_ev_cmp, q_ev_chain, q_ev_and, q_ev_or, q_ev_not, q_ev_ite, q_ev_tup, q_ev_lst, q_ev_idx, q_ev_idxv, q_ev_lenv, q_ev_slc, q_ev_call, q_ev_b1, q_ev_b2, q_ev_isi, q_evo_non, q_evo_som, q_evq_non, q_evq_som, q_evs_nil, q_evs_cons, q_evas_nil, q_evas_val, q_evas_bor, q_evr_seq, q_evr_rng1, q_evr_rng2, q_evS_set, q_evS_par, q_evS_asg, q_evS_put, q_evS_app, q_evS_exp, q_evS_ret, q_evS_retN, q_evS_ite, q_evS_pass, q_evS_brk, q_evS_cont, q_evSs_nil, q_evSs_cons, kBin', kBin, kNeg, kCmp', kCmp, kCh', kCh, kAnd, kOr, kNot, kIte, kTup, kLst, kIdx', kIdx, kIxv, kSlc'', kSlc', kSlc, kC2, kC1, kCall, kB1, kB2', kB2, kIsi, kOpt, kTr, kEs', kEs, kAs', kAs, kBor, kSeq, kR1, kR2', kR2, kSet, kP2, kPar', kPar, kAsg, kPut', kPut, kApp, kExp, kRet, kIf, Option.map_none, Option.bind_none, bnd_ok, bnd_no, sbnd_ok, sbnd_no, seq_nx, seq_rt, seq_bk, seq_ct, seq_ex, seq_no, ret_ok, opt_ok, opt_no, sopt_ok, toD_v, toD_m, toD_l, bin_add, bin_sub, bin_mul, bin_div, bin_mod, bin_pow, bin_addl, bin_addt, bin_rep, cmp_lt, cmp_le, cmp_gt, cmp_ge, cmp_eq, cmp_ne, cmp_eqs, truth_b, truth_i, idx_l, idx_t, len_l, len_t, rdM_im, rdM_ow, rdM_bo, rdM_sc, env_v, env_m, env_s, slOf_v, slOf_mt, slOf_mf, b2_max, b2_min, b1_len, b1_sum, b1_repi, b1_repl, b1_rept, seq_l, seq_t, argsOf, argOf, backG, Z.borrowed, noDup, List.contains_nil, Bool.not_false, Bool.and_self, slotIn, isM, upM, putM, appM, setG, isBo, outM, List.length_cons, List.length_nil, List.map_cons, List.map_nil, List.cons_append, List.nil_append, Option.bind_some, Option.map_some, List.getElem?_cons_zero, List.getElem?_cons_succ, List.replicate_zero, List.replicate_succ, Nat.sub_self, if_true, if_false, List.set_cons_zero, List.set_cons_succ, Nat.reduceAdd, Nat.reduceMul, Nat.reduceLT, Nat.zero_add, and_true, true_and, and_self, Nat.zero_le, PySem.sizeLine_eq, Nat.reduceLeDiff, true_or, Bool.not_true, List.length_append, List.length_map, tc0, f2_c0, show ¬ (1 : Int) < 1 from by decide, decide_false, Bool.false_eq_true]
  | div h1 h2 h3 ih =>
    rename_i n p l k
    intro F fs hF hb hl
    obtain ⟨g1, g2⟩ := div_fact h1 hp h2
    match F, hF with
    | F + 1, hF =>
      obtain ⟨q, hq⟩ := ih hp F (fs ++ [.int p]) (by omega) (by have : 2 * (n / p) ≤ p * (n / p) := Int.mul_le_mul_of_nonneg_right hp (by omega); omega) (by rw [List.length_append]; show fs.length + 1 + k ≤ _; omega)
      rw [List.append_assoc] at hq
      have hpn : p ≤ n := by
        have : p * 1 ≤ p * (n / p) := Int.mul_le_mul_of_nonneg_left g1 (by omega)
        omega
      refine ⟨q, whl_step hq ?_ ?_⟩
      · simp only [runFn, ↓reduceIte, q_ev_int, q_ev_bl, q_ev_non, q_ev_str, q_ev_var, q_ev_glb, q_ev_bin, q_ev_neg, q_ev_cmp, q_ev_chain, q_ev_and, q_ev_or, q_ev_not, q_ev_ite, q_ev_tup, q_ev_lst, q_ev_idx, q_ev_idxv, q_ev_lenv, q_ev_slc, q_ev_call, q_ev_b1, q_ev_b2, q_ev_isi, q_evo_non, q_evo_som, q_evq_non, q_evq_som, q_evs_nil, q_evs_cons, q_evas_nil, q_evas_val, q_evas_bor, q_evr_seq, q_evr_rng1, q_evr_rng2, q_evS_set, q_evS_par, q_evS_asg, q_evS_put, q_evS_app, q_evS_exp, q_evS_ret, q_evS_retN, q_evS_ite, q_evS_pass, q_evS_brk, q_evS_cont, q_evSs_nil, q_evSs_cons, kBin', kBin, kNeg, kCmp', kCmp, kCh', kCh, kAnd, kOr, kNot, kIte, kTup, kLst, kIdx', kIdx, kIxv, kSlc'', kSlc', kSlc, kC2, kC1, kCall, kB1, kB2', kB2, kIsi, kOpt, kTr, kEs', kEs, kAs', kAs, kBor, kSeq, kR1, kR2', kR2, kSet, kP2, kPar', kPar, kAsg, kPut', kPut, kApp, kExp, kRet, kIf, Option.map_none, Option.bind_none, bnd_ok, bnd_no, sbnd_ok, sbnd_no, seq_nx, seq_rt, seq_bk, seq_ct, seq_ex, seq_no, ret_ok, opt_ok, opt_no, sopt_ok, toD_v, toD_m, toD_l, bin_add, bin_sub, bin_mul, bin_div, bin_mod, bin_pow, bin_addl, bin_addt, bin_rep, cmp_lt, cmp_le, cmp_gt, cmp_ge, cmp_eq, cmp_ne, cmp_eqs, truth_b, truth_i, idx_l, idx_t, len_l, len_t, rdM_im, rdM_ow, rdM_bo, rdM_sc, env_v, env_m, env_s, slOf_v, slOf_mt, slOf_mf, b2_max, b2_min, b1_len, b1_sum, b1_repi, b1_repl, b1_rept, seq_l, seq_t, argsOf, argOf, backG, Z.borrowed, noDup, List.contains_nil, Bool.not_false, Bool.and_self, slotIn, isM, upM, putM, appM, setG, isBo, outM, List.length_cons, List.length_nil, List.map_cons, List.map_nil, List.cons_append, List.nil_append, Option.bind_some, Option.map_some, List.getElem?_cons_zero, List.getElem?_cons_succ, List.replicate_zero, List.replicate_succ, Nat.sub_self, if_true, if_false, List.set_cons_zero, List.set_cons_succ, Nat.reduceAdd, Nat.reduceMul, Nat.reduceLT, Nat.zero_add, and_true, true_and, and_self, Nat.zero_le, PySem.sizeLine_eq, Nat.reduceLeDiff, true_or, Bool.not_true, List.length_append, List.length_map, tc0, f2_c0, h1, decide_true]
      · simp only [runFn, ↓reduceIte, q_ev_int, q_ev_bl, q_ev_non, q_ev_str, q_ev_var, q_ev_glb, q_ev_bin, q_ev_neg, q_ev_cmp, q_ev_chain, q_ev_and, q_ev_or, q_ev_not, q_ev_ite, q_ev_tup, q_ev_lst, q_ev_idx, q_ev_idxv, q_ev_lenv, q_ev_slc, q_ev_call, q_ev_b1, q_ev_b2, q_ev_isi, q_evo_non, q_evo_som, q_evq_non, q_evq_som, q_evs_nil, q_evs_cons, q_evas_nil, q_evas_val, q_evas_bor, q_evr_seq, q_evr_rng1, q_evr_rng2, q_evS_set, q_evS_par, q_evS_asg, q_evS_put, q_evS_app, q_evS_exp, q_evS_ret, q_evS_retN, q_evS_ite, q_evS_pass, q_evS_brk, q_evS_cont, q_evSs_nil, q_evSs_cons, kBin', kBin, kNeg, kCmp', kCmp, kCh', kCh, kAnd, kOr, kNot, kIte, kTup, kLst, kIdx', kIdx, kIxv, kSlc'', kSlc', kSlc, kC2, kC1, kCall, kB1, kB2', kB2, kIsi, kOpt, kTr, kEs', kEs, kAs', kAs, kBor, kSeq, kR1, kR2', kR2, kSet, kP2, kPar', kPar, kAsg, kPut', kPut, kApp, kExp, kRet, kIf, Option.map_none, Option.bind_none, bnd_ok, bnd_no, sbnd_ok, sbnd_no, seq_nx, seq_rt, seq_bk, seq_ct, seq_ex, seq_no, ret_ok, opt_ok, opt_no, sopt_ok, toD_v, toD_m, toD_l, bin_add, bin_sub, bin_mul, bin_div, bin_mod, bin_pow, bin_addl, bin_addt, bin_rep, cmp_lt, cmp_le, cmp_gt, cmp_ge, cmp_eq, cmp_ne, cmp_eqs, truth_b, truth_i, idx_l, idx_t, len_l, len_t, rdM_im, rdM_ow, rdM_bo, rdM_sc, env_v, env_m, env_s, slOf_v, slOf_mt, slOf_mf, b2_max, b2_min, b1_len, b1_sum, b1_repi, b1_repl, b1_rept, seq_l, seq_t, argsOf, argOf, backG, Z.borrowed, noDup, List.contains_nil, Bool.not_false, Bool.and_self, slotIn, isM, upM, putM, appM, setG, isBo, outM, List.length_cons, List.length_nil, List.map_cons, List.map_nil, List.cons_append, List.nil_append, Option.bind_some, Option.map_some, List.getElem?_cons_zero, List.getElem?_cons_succ, List.replicate_zero, List.replicate_succ, Nat.sub_self, if_true, if_false, List.set_cons_zero, List.set_cons_succ, Nat.reduceAdd, Nat.reduceMul, Nat.reduceLT, Nat.zero_add, and_true, true_and, and_self, Nat.zero_le, PySem.sizeLine_eq, Nat.reduceLeDiff, true_or, Bool.not_true, List.length_append, List.length_map, tc0, f2_b0, h2, decide_true, show 0 < p from by omega, show fs.length < 16777216 from by omega, div_c p ⟨by omega, by omega⟩]
  | inc h1 h2 h3 h4 ih =>
    rename_i n p l k
    intro F fs hF hb hl
    match F, hF with
    | F + 1, hF =>
      obtain ⟨q, hq⟩ := ih (by omega) F fs (by omega) hb (by omega)
      refine ⟨q, whl_step hq ?_ ?_⟩
      · simp only [runFn, ↓reduceIte, q_ev_int, q_ev_bl, q_ev_non, q_ev_str, q_ev_var, q_ev_glb, q_ev_bin, q_ev_neg, q_ev_cmp, q_ev_chain, q_ev_and, q_ev_or, q_ev_not, q_ev_ite, q_ev_tup, q_ev_lst, q_ev_idx, q_ev_idxv, q_ev_lenv, q_ev_slc, q_ev_call, q_ev_b1, q_ev_b2, q_ev_isi, q_evo_non, q_evo_som, q_evq_non, q_evq_som, q_evs_nil, q_evs_cons, q_evas_nil, q_evas_val, q_evas_bor, q_evr_seq, q_evr_rng1, q_evr_rng2, q_evS_set, q_evS_par, q_evS_asg, q_evS_put, q_evS_app, q_evS_exp, q_evS_ret, q_evS_retN, q_evS_ite, q_evS_pass, q_evS_brk, q_evS_cont, q_evSs_nil, q_evSs_cons, kBin', kBin, kNeg, kCmp', kCmp, kCh', kCh, kAnd, kOr, kNot, kIte, kTup, kLst, kIdx', kIdx, kIxv, kSlc'', kSlc', kSlc, kC2, kC1, kCall, kB1, kB2', kB2, kIsi, kOpt, kTr, kEs', kEs, kAs', kAs, kBor, kSeq, kR1, kR2', kR2, kSet, kP2, kPar', kPar, kAsg, kPut', kPut, kApp, kExp, kRet, kIf, Option.map_none, Option.bind_none, bnd_ok, bnd_no, sbnd_ok, sbnd_no, seq_nx, seq_rt, seq_bk, seq_ct, seq_ex, seq_no, ret_ok, opt_ok, opt_no, sopt_ok, toD_v, toD_m, toD_l, bin_add, bin_sub, bin_mul, bin_div, bin_mod, bin_pow, bin_addl, bin_addt, bin_rep, cmp_lt, cmp_le, cmp_gt, cmp_ge, cmp_eq, cmp_ne, cmp_eqs, truth_b, truth_i, idx_l, idx_t, len_l, len_t, rdM_im, rdM_ow, rdM_bo, rdM_sc, env_v, env_m, env_s, slOf_v, slOf_mt, slOf_mf, b2_max, b2_min, b1_len, b1_sum, b1_repi, b1_repl, b1_rept, seq_l, seq_t, argsOf, argOf, backG, Z.borrowed, noDup, List.contains_nil, Bool.not_false, Bool.and_self, slotIn, isM, upM, putM, appM, setG, isBo, outM, List.length_cons, List.length_nil, List.map_cons, List.map_nil, List.cons_append, List.nil_append, Option.bind_some, Option.map_some, List.getElem?_cons_zero, List.getElem?_cons_succ, List.replicate_zero, List.replicate_succ, Nat.sub_self, if_true, if_false, List.set_cons_zero, List.set_cons_succ, Nat.reduceAdd, Nat.reduceMul, Nat.reduceLT, Nat.zero_add, and_true, true_and, and_self, Nat.zero_le, PySem.sizeLine_eq, Nat.reduceLeDiff, true_or, Bool.not_true, List.length_append, List.length_map, tc0, f2_c0, h1, decide_true]
      · simp only [runFn, ↓reduceIte, q_ev_int, q_ev_bl, q_ev_non, q_ev_str, q_ev_var, q_ev_glb, q_ev_bin, q_ev_neg, q_ev_cmp, q_ev_chain, q_ev_and, q_ev_or, q_ev_not, q_ev_ite, q_ev_tup, q_ev_lst, q_ev_idx, q_ev_idxv, q_ev_lenv, q_ev_slc, q_ev_call, q_ev_b1, q_ev_b2, q_ev_isi, q_evo_non, q_evo_som, q_evq_non, q_evq_som, q_evs_nil, q_evs_cons, q_evas_nil, q_evas_val, q_evas_bor, q_evr_seq, q_evr_rng1, q_evr_rng2, q_evS_set, q_evS_par, q_evS_asg, q_evS_put, q_evS_app, q_evS_exp, q_evS_ret, q_evS_retN, q_evS_ite, q_evS_pass, q_evS_brk, q_evS_cont, q_evSs_nil, q_evSs_cons, kBin', kBin, kNeg, kCmp', kCmp, kCh', kCh, kAnd, kOr, kNot, kIte, kTup, kLst, kIdx', kIdx, kIxv, kSlc'', kSlc', kSlc, kC2, kC1, kCall, kB1, kB2', kB2, kIsi, kOpt, kTr, kEs', kEs, kAs', kAs, kBor, kSeq, kR1, kR2', kR2, kSet, kP2, kPar', kPar, kAsg, kPut', kPut, kApp, kExp, kRet, kIf, Option.map_none, Option.bind_none, bnd_ok, bnd_no, sbnd_ok, sbnd_no, seq_nx, seq_rt, seq_bk, seq_ct, seq_ex, seq_no, ret_ok, opt_ok, opt_no, sopt_ok, toD_v, toD_m, toD_l, bin_add, bin_sub, bin_mul, bin_div, bin_mod, bin_pow, bin_addl, bin_addt, bin_rep, cmp_lt, cmp_le, cmp_gt, cmp_ge, cmp_eq, cmp_ne, cmp_eqs, truth_b, truth_i, idx_l, idx_t, len_l, len_t, rdM_im, rdM_ow, rdM_bo, rdM_sc, env_v, env_m, env_s, slOf_v, slOf_mt, slOf_mf, b2_max, b2_min, b1_len, b1_sum, b1_repi, b1_repl, b1_rept, seq_l, seq_t, argsOf, argOf, backG, Z.borrowed, noDup, List.contains_nil, Bool.not_false, Bool.and_self, slotIn, isM, upM, putM, appM, setG, isBo, outM, List.length_cons, List.length_nil, List.map_cons, List.map_nil, List.cons_append, List.nil_append, Option.bind_some, Option.map_some, List.getElem?_cons_zero, List.getElem?_cons_succ, List.replicate_zero, List.replicate_succ, Nat.sub_self, if_true, if_false, List.set_cons_zero, List.set_cons_succ, Nat.reduceAdd, Nat.reduceMul, Nat.reduceLT, Nat.zero_add, and_true, true_and, and_self, Nat.zero_le, PySem.sizeLine_eq, Nat.reduceLeDiff, true_or, Bool.not_true, List.length_append, List.length_map, tc0, f2_b0, h2, decide_true, decide_false, show 0 < p from by omega]
/-- the law's inner loop -/
theorem w10i (Γ : Call) (cs : List (PySem.Str × D)) {n p : Int} {l : List Int} {k : Nat} (h : Fac n p l k) (hp : 2 ≤ p) (F0 : Nat) : ∀ (F : Nat) (fs : List D), k < F → n < 2 ^ 62 → fs.length + k ≤ 100000 → ∃ n' l1 l2 k', l = l1 ++ l2 ∧ Fac n' p l2 k' ∧ k' + l1.length ≤ k ∧ n' % p ≠ 0 ∧ n' ≤ n ∧
    whlGo (fun g => bnd (ev Γ cs f10_c0 g) kTr) (evSs Γ cs F0 f10_b0) F [.im (.int n), .ow (.l fs), .im (.int p)] = some (.nx, [.im (.int n'), .ow (.l (fs ++ l1.map .int)), .im (.int p)]) := by
  induction h with
  | one =>
    rename_i p
    intro F fs hF _ _
    have e : (1 : Int) % p = 1 := Int.emod_eq_of_lt (by decide) (by omega)
    refine ⟨1, [], [], 0, rfl, .one, Nat.le_refl _, by omega, Int.le_refl _, ?_⟩
    match F, hF with
    | F + 1, _ =>
      rw [whl_end, List.map_nil, List.append_nil]
      simp only [runFn, ↓reduceIte, q_ev_int, q_ev_bl, q_ev_non, q_ev_str, q_ev_var, q_ev_glb, q_ev_bin, q_ev_neg, q_ev_cmp, q_ev_chain, q_ev_and, q_ev_or, q_ev_not, q_ev_ite, q_ev_tup, q_ev_lst, q_ev_idx, q_ev_idxv, q_ev_lenv, q_ev_slc, q_ev_call, q_ev_b1, q_ev_b2, q_ev_isi, q_evo_non, q_evo_som, q_evq_non, q_evq_som, q_evs_nil, q_evs_cons, q_evas_nil, q_evas_val, q_evas_bor, q_evr_seq, q_evr_rng1, q_evr_rng2, q_evS_set, q_evS_par, q_evS_asg, q_evS_put, q_evS_app, q_evS_exp, q_evS_ret, q_evS_retN, q_evS_ite, q_evS_pass, q_evS_brk, q_evS_cont, q_evSs_nil, q_evSs_cons, kBin', kBin, kNeg, kCmp', kCmp, kCh', kCh, kAnd, kOr, kNot, kIte, kTup, kLst, kIdx', kIdx, kIxv, kSlc'', kSlc', kSlc, kC2, kC1, kCall, kB1, kB2', kB2, kIsi, kOpt, kTr, kEs', kEs, kAs', kAs, kBor, kSeq, kR1, kR2', kR2, kSet, kP2, kPar', kPar, kAsg, kPut', kPut, kApp, kExp, kRet, kIf, Option.map_none, Option.bind_none, bnd_ok, bnd_no, sbnd_ok, sbnd_no, seq_nx, seq_rt, seq_bk, seq_ct, seq_ex, seq_no, ret_ok, opt_ok, opt_no, sopt_ok, toD_v, toD_m, toD_l, bin_add, bin_sub, bin_mul, bin_div, bin_mod, bin_pow, bin_addl, bin_addt, bin_rep, cmp_lt, cmp_le, cmp_gt, cmp_ge, cmp_eq, cmp_ne, cmp_eqs, truth_b, truth_i, idx_l, idx_t, len_l, len_t, rdM_im, rdM_ow, rdM_bo, rdM_sc, env_v, env_m, env_s, slOf_v, slOf_mt, slOf_mf, b2_max, b2_min, b1_len, b1_sum, b1_repi, b1_repl, b1_rept, seq_l, seq_t, argsOf, argOf, backG, Z.borrowed, noDup, List.contains_nil, Bool.not_false, Bool.and_self, slotIn, isM, upM, putM, appM, setG, isBo, outM, List.length_cons, List.length_nil, List.map_cons, List.map_nil, List.cons_append, List.nil_append, Option.bind_some, Option.map_some, List.getElem?_cons_zero, List.getElem?_cons_succ, List.replicate_zero, List.replicate_succ, Nat.sub_self, if_true, if_false, List.set_cons_zero, List.set_cons_succ, Nat.reduceAdd, Nat.reduceMul, Nat.reduceLT, Nat.zero_add, and_true, true_and, and_self, Nat.zero_le, PySem.sizeLine_eq, Nat.reduceLeDiff, true_or, Bool.not_true, List.length_append, List.length_map, tc0, f10_c0, e, show 0 < p from by omega, show ¬ (1 : Int) = 0 from by decide, decide_false, Bool.false_eq_true]
  | div h1 h2 h3 ih =>
    rename_i n p l k
    intro F fs hF hb hl
    obtain ⟨g1, g2⟩ := div_fact h1 hp h2
    match F, hF with
    | F + 1, hF =>
      have g3 : 2 * (n / p) ≤ p * (n / p) := Int.mul_le_mul_of_nonneg_right hp (by omega)
      obtain ⟨n', l1, l2, k', a1, a2, a3, a4, a5, hq⟩ := ih hp F (fs ++ [.int p]) (by omega) (by omega) (by rw [List.length_append]; show fs.length + 1 + k ≤ _; omega)
      rw [List.append_assoc] at hq
      have hpn : p ≤ n := by
        have : p * 1 ≤ p * (n / p) := Int.mul_le_mul_of_nonneg_left g1 (by omega)
        omega
      refine ⟨n', p :: l1, l2, k', by rw [a1]; rfl, a2, by rw [List.length_cons]; omega, a4, by omega, whl_step hq ?_ ?_⟩
      · simp only [runFn, ↓reduceIte, q_ev_int, q_ev_bl, q_ev_non, q_ev_str, q_ev_var, q_ev_glb, q_ev_bin, q_ev_neg, q_ev_cmp, q_ev_chain, q_ev_and, q_ev_or, q_ev_not, q_ev_ite, q_ev_tup, q_ev_lst, q_ev_idx, q_ev_idxv, q_ev_lenv, q_ev_slc, q_ev_call, q_ev_b1, q_ev_b2, q_ev_isi, q_evo_non, q_evo_som, q_evq_non, q_evq_som, q_evs_nil, q_evs_cons, q_evas_nil, q_evas_val, q_evas_bor, q_evr_seq, q_evr_rng1, q_evr_rng2, q_evS_set, q_evS_par, q_evS_asg, q_evS_put, q_evS_app, q_evS_exp, q_evS_ret, q_evS_retN, q_evS_ite, q_evS_pass, q_evS_brk, q_evS_cont, q_evSs_nil, q_evSs_cons, kBin', kBin, kNeg, kCmp', kCmp, kCh', kCh, kAnd, kOr, kNot, kIte, kTup, kLst, kIdx', kIdx, kIxv, kSlc'', kSlc', kSlc, kC2, kC1, kCall, kB1, kB2', kB2, kIsi, kOpt, kTr, kEs', kEs, kAs', kAs, kBor, kSeq, kR1, kR2', kR2, kSet, kP2, kPar', kPar, kAsg, kPut', kPut, kApp, kExp, kRet, kIf, Option.map_none, Option.bind_none, bnd_ok, bnd_no, sbnd_ok, sbnd_no, seq_nx, seq_rt, seq_bk, seq_ct, seq_ex, seq_no, ret_ok, opt_ok, opt_no, sopt_ok, toD_v, toD_m, toD_l, bin_add, bin_sub, bin_mul, bin_div, bin_mod, bin_pow, bin_addl, bin_addt, bin_rep, cmp_lt, cmp_le, cmp_gt, cmp_ge, cmp_eq, cmp_ne, cmp_eqs, truth_b, truth_i, idx_l, idx_t, len_l, len_t, rdM_im, rdM_ow, rdM_bo, rdM_sc, env_v, env_m, env_s, slOf_v, slOf_mt, slOf_mf, b2_max, b2_min, b1_len, b1_sum, b1_repi, b1_repl, b1_rept, seq_l, seq_t, argsOf, argOf, backG, Z.borrowed, noDup, List.contains_nil, Bool.not_false, Bool.and_self, slotIn, isM, upM, putM, appM, setG, isBo, outM, List.length_cons, List.length_nil, List.map_cons, List.map_nil, List.cons_append, List.nil_append, Option.bind_some, Option.map_some, List.getElem?_cons_zero, List.getElem?_cons_succ, List.replicate_zero, List.replicate_succ, Nat.sub_self, if_true, if_false, List.set_cons_zero, List.set_cons_succ, Nat.reduceAdd, Nat.reduceMul, Nat.reduceLT, Nat.zero_add, and_true, true_and, and_self, Nat.zero_le, PySem.sizeLine_eq, Nat.reduceLeDiff, true_or, Bool.not_true, List.length_append, List.length_map, tc0, f10_c0, h2, show 0 < p from by omega, decide_true]
      · simp only [runFn, ↓reduceIte, q_ev_int, q_ev_bl, q_ev_non, q_ev_str, q_ev_var, q_ev_glb, q_ev_bin, q_ev_neg, q_ev_cmp, q_ev_chain, q_ev_and, q_ev_or, q_ev_not, q_ev_ite, q_ev_tup, q_ev_lst, q_ev_idx, q_ev_idxv, q_ev_lenv, q_ev_slc, q_ev_call, q_ev_b1, q_ev_b2, q_ev_isi, q_evo_non, q_evo_som, q_evq_non, q_evq_som, q_evs_nil, q_evs_cons, q_evas_nil, q_evas_val, q_evas_bor, q_evr_seq, q_evr_rng1, q_evr_rng2, q_evS_set, q_evS_par, q_evS_asg, q_evS_put, q_evS_app, q_evS_exp, q_evS_ret, q_evS_retN, q_evS_ite, q_evS_pass, q_evS_brk, q_evS_cont, q_evSs_nil, q_evSs_cons, kBin', kBin, kNeg, kCmp', kCmp, kCh', kCh, kAnd, kOr, kNot, kIte, kTup, kLst, kIdx', kIdx, kIxv, kSlc'', kSlc', kSlc, kC2, kC1, kCall, kB1, kB2', kB2, kIsi, kOpt, kTr, kEs', kEs, kAs', kAs, kBor, kSeq, kR1, kR2', kR2, kSet, kP2, kPar', kPar, kAsg, kPut', kPut, kApp, kExp, kRet, kIf, Option.map_none, Option.bind_none, bnd_ok, bnd_no, sbnd_ok, sbnd_no, seq_nx, seq_rt, seq_bk, seq_ct, seq_ex, seq_no, ret_ok, opt_ok, opt_no, sopt_ok, toD_v, toD_m, toD_l, bin_add, bin_sub, bin_mul, bin_div, bin_mod, bin_pow, bin_addl, bin_addt, bin_rep, cmp_lt, cmp_le, cmp_gt, cmp_ge, cmp_eq, cmp_ne, cmp_eqs, truth_b, truth_i, idx_l, idx_t, len_l, len_t, rdM_im, rdM_ow, rdM_bo, rdM_sc, env_v, env_m, env_s, slOf_v, slOf_mt, slOf_mf, b2_max, b2_min, b1_len, b1_sum, b1_repi, b1_repl, b1_rept, seq_l, seq_t, argsOf, argOf, backG, Z.borrowed, noDup, List.contains_nil, Bool.not_false, Bool.and_self, slotIn, isM, upM, putM, appM, setG, isBo, outM, List.length_cons, List.length_nil, List.map_cons, List.map_nil, List.cons_append, List.nil_append, Option.bind_some, Option.map_some, List.getElem?_cons_zero, List.getElem?_cons_succ, List.replicate_zero, List.replicate_succ, Nat.sub_self, if_true, if_false, List.set_cons_zero, List.set_cons_succ, Nat.reduceAdd, Nat.reduceMul, Nat.reduceLT, Nat.zero_add, and_true, true_and, and_self, Nat.zero_le, PySem.sizeLine_eq, Nat.reduceLeDiff, true_or, Bool.not_true, List.length_append, List.length_map, tc0, f10_b0, h2, decide_true, show 0 < p from by omega, show fs.length < 16777216 from by omega, div_c p ⟨by omega, by omega⟩]
  | inc h1 h2 h3 h4 ih =>
    rename_i n p l k
    intro F fs hF hb hl
    match F, hF with
    | F + 1, hF =>
      refine ⟨n, [], l, k + 1, rfl, .inc h1 h2 h3 h4, Nat.le_refl _, h2, Int.le_refl _, ?_⟩
      rw [whl_end, List.map_nil, List.append_nil]
      simp only [runFn, ↓reduceIte, q_ev_int, q_ev_bl, q_ev_non, q_ev_str, q_ev_var, q_ev_glb, q_ev_bin, q_ev_neg, q_ev_cmp, q_ev_chain, q_ev_and, q_ev_or, q_ev_not, q_ev_ite, q_ev_tup, q_ev_lst, q_ev_idx, q_ev_idxv, q_ev_lenv, q_ev_slc, q_ev_call, q_ev_b1, q_ev_b2, q_ev_isi, q_evo_non, q_evo_som, q_evq_non, q_evq_som, q_evs_nil, q_evs_cons, q_evas_nil, q_evas_val, q_evas_bor, q_evr_seq, q_evr_rng1, q_evr_rng2, q_evS_set, q_evS_par, q_evS_asg, q_evS_put, q_evS_app, q_evS_exp, q_evS_ret, q_evS_retN, q_evS_ite, q_evS_pass, q_evS_brk, q_evS_cont, q_evSs_nil, q_evSs_cons, kBin', kBin, kNeg, kCmp', kCmp, kCh', kCh, kAnd, kOr, kNot, kIte, kTup, kLst, kIdx', kIdx, kIxv, kSlc'', kSlc', kSlc, kC2, kC1, kCall, kB1, kB2', kB2, kIsi, kOpt, kTr, kEs', kEs, kAs', kAs, kBor, kSeq, kR1, kR2', kR2, kSet, kP2, kPar', kPar, kAsg, kPut', kPut, kApp, kExp, kRet, kIf, Option.map_none, Option.bind_none, bnd_ok, bnd_no, sbnd_ok, sbnd_no, seq_nx, seq_rt, seq_bk, seq_ct, seq_ex, seq_no, ret_ok, opt_ok, opt_no, sopt_ok, toD_v, toD_m, toD_l, bin_add, bin_sub, bin_mul, bin_div, bin_mod, bin_pow, bin_addl, bin_addt, bin_rep, cmp_lt, cmp_le, cmp_gt, cmp_ge, cmp_eq, cmp_ne, cmp_eqs, truth_b, truth_i, idx_l, idx_t, len_l, len_t, rdM_im, rdM_ow, rdM_bo, rdM_sc, env_v, env_m, env_s, slOf_v, slOf_mt, slOf_mf, b2_max, b2_min, b1_len, b1_sum, b1_repi, b1_repl, b1_rept, seq_l, seq_t, argsOf, argOf, backG, Z.borrowed, noDup, List.contains_nil, Bool.not_false, Bool.and_self, slotIn, isM, upM, putM, appM, setG, isBo, outM, List.length_cons, List.length_nil, List.map_cons, List.map_nil, List.cons_append, List.nil_append, Option.bind_some, Option.map_some, List.getElem?_cons_zero, List.getElem?_cons_succ, List.replicate_zero, List.replicate_succ, Nat.sub_self, if_true, if_false, List.set_cons_zero, List.set_cons_succ, Nat.reduceAdd, Nat.reduceMul, Nat.reduceLT, Nat.zero_add, and_true, true_and, and_self, Nat.zero_le, PySem.sizeLine_eq, Nat.reduceLeDiff, true_or, Bool.not_true, List.length_append, List.length_map, tc0, f10_c0, show 0 < p from by omega, h2, decide_false, Bool.false_eq_true]
/-- the law's outer loop -/
theorem w10o (Γ : Call) (cs : List (PySem.Str × D)) (F0 : Nat) : ∀ (F k : Nat) (n p : Int) (l : List Int) (fs : List D), Fac n p l k → 2 ≤ p → k < F → k < F0 → n < 2 ^ 62 → fs.length + k ≤ 100000 → ∃ q : Int,
    whlGo (fun g => bnd (ev Γ cs f10_c1 g) kTr) (evSs Γ cs F0 f10_b1) F [.im (.int n), .ow (.l fs), .im (.int p)] = some (.nx, [.im (.int 1), .ow (.l (fs ++ l.map .int)), .im (.int q)])
  | 0, k, n, p, l, fs, _, _, hk, _, _, _ => absurd hk (by omega)
  | F + 1, k, n, p, l, fs, h, hp, hk, hk0, hb, hl => by
    have go : 1 < n → p ≤ n → 0 < k → ∃ q : Int, whlGo (fun g => bnd (ev Γ cs f10_c1 g) kTr) (evSs Γ cs F0 f10_b1) (F + 1) [.im (.int n), .ow (.l fs), .im (.int p)] = some (.nx, [.im (.int 1), .ow (.l (fs ++ l.map .int)), .im (.int q)]) := by
      intro h1 hpn k0
      obtain ⟨n', l1, l2, k', a1, a2, a3, a4, a5, hq⟩ := w10i Γ cs h hp F0 F0 fs hk0 hb hl
      have fin : ∃ k2, Fac n' (p + 1) l2 k2 ∧ k2 ≤ k - 1 ∧ k2 + l1.length ≤ k := by
        cases a2 with
        | one => exact ⟨0, .one, by omega, by omega⟩
        | div b1 b2 b3 => exact absurd b2 a4
        | inc b1 b2 b3 b4 => exact ⟨_, b4, by omega, by omega⟩
      obtain ⟨k2, b1, b2, b3⟩ := fin
      obtain ⟨q, hw⟩ := w10o Γ cs F0 F k2 n' (p + 1) l2 (fs ++ l1.map .int) b1 (by omega) (by omega) (by omega) (by omega) (by rw [List.length_append, List.length_map]; omega)
      refine ⟨q, ?_⟩
      rw [a1, List.map_append, ← List.append_assoc]
      refine whl_step hw ?_ ?_
      · simp only [runFn, ↓reduceIte, q_ev_int, q_ev_bl, q_ev_non, q_ev_str, q_ev_var, q_ev_glb, q_ev_bin, q_ev_neg, q_ev_cmp, q_ev_chain, q_ev_and, q_ev_or, q_ev_not, q_ev_ite, q_ev_tup, q_ev_lst, q_ev_idx, q_ev_idxv, q_ev_lenv, q_ev_slc, q_ev_call, q_ev_b1, q_ev_b2, q_ev_isi, q_evo_non, q_evo_som, q_evq_non, q_evq_som, q_evs_nil, q_evs_cons, q_evas_nil, q_evas_val, q_evas_bor, q_evr_seq, q_evr_rng1, q_evr_rng2, q_evS_set, q_evS_par, q_evS_asg, q_evS_put, q_evS_app, q_evS_exp, q_evS_ret, q_evS_retN, q_evS_ite, q_evS_pass, q_evS_brk, q_evS_cont, q_evSs_nil, q_evSs_cons, kBin', kBin, kNeg, kCmp', kCmp, kCh', kCh, kAnd, kOr, kNot, kIte, kTup, kLst, kIdx', kIdx, kIxv, kSlc'', kSlc', kSlc, kC2, kC1, kCall, kB1, kB2', kB2, kIsi, kOpt, kTr, kEs', kEs, kAs', kAs, kBor, kSeq, kR1, kR2', kR2, kSet, kP2, kPar', kPar, kAsg, kPut', kPut, kApp, kExp, kRet, kIf, Option.map_none, Option.bind_none, bnd_ok, bnd_no, sbnd_ok, sbnd_no, seq_nx, seq_rt, seq_bk, seq_ct, seq_ex, seq_no, ret_ok, opt_ok, opt_no, sopt_ok, toD_v, toD_m, toD_l, bin_add, bin_sub, bin_mul, bin_div, bin_mod, bin_pow, bin_addl, bin_addt, bin_rep, cmp_lt, cmp_le, cmp_gt, cmp_ge, cmp_eq, cmp_ne, cmp_eqs, truth_b, truth_i, idx_l, idx_t, len_l, len_t, rdM_im, rdM_ow, rdM_bo, rdM_sc, env_v, env_m, env_s, slOf_v, slOf_mt, slOf_mf, b2_max, b2_min, b1_len, b1_sum, b1_repi, b1_repl, b1_rept, seq_l, seq_t, argsOf, argOf, backG, Z.borrowed, noDup, List.contains_nil, Bool.not_false, Bool.and_self, slotIn, isM, upM, putM, appM, setG, isBo, outM, List.length_cons, List.length_nil, List.map_cons, List.map_nil, List.cons_append, List.nil_append, Option.bind_some, Option.map_some, List.getElem?_cons_zero, List.getElem?_cons_succ, List.replicate_zero, List.replicate_succ, Nat.sub_self, if_true, if_false, List.set_cons_zero, List.set_cons_succ, Nat.reduceAdd, Nat.reduceMul, Nat.reduceLT, Nat.zero_add, and_true, true_and, and_self, Nat.zero_le, PySem.sizeLine_eq, Nat.reduceLeDiff, true_or, Bool.not_true, List.length_append, List.length_map, tc0, f10_c1, hpn, decide_true]
      · simp only [runFn, ↓reduceIte, q_ev_int, q_ev_bl, q_ev_non, q_ev_str, q_ev_var, q_ev_glb, q_ev_bin, q_ev_neg, q_ev_cmp, q_ev_chain, q_ev_and, q_ev_or, q_ev_not, q_ev_ite, q_ev_tup, q_ev_lst, q_ev_idx, q_ev_idxv, q_ev_lenv, q_ev_slc, q_ev_call, q_ev_b1, q_ev_b2, q_ev_isi, q_evo_non, q_evo_som, q_evq_non, q_evq_som, q_evs_nil, q_evs_cons, q_evas_nil, q_evas_val, q_evas_bor, q_evr_seq, q_evr_rng1, q_evr_rng2, q_evS_set, q_evS_par, q_evS_asg, q_evS_put, q_evS_app, q_evS_exp, q_evS_ret, q_evS_retN, q_evS_ite, q_evS_pass, q_evS_brk, q_evS_cont, q_evSs_nil, q_evSs_cons, kBin', kBin, kNeg, kCmp', kCmp, kCh', kCh, kAnd, kOr, kNot, kIte, kTup, kLst, kIdx', kIdx, kIxv, kSlc'', kSlc', kSlc, kC2, kC1, kCall, kB1, kB2', kB2, kIsi, kOpt, kTr, kEs', kEs, kAs', kAs, kBor, kSeq, kR1, kR2', kR2, kSet, kP2, kPar', kPar, kAsg, kPut', kPut, kApp, kExp, kRet, kIf, Option.map_none, Option.bind_none, bnd_ok, bnd_no, sbnd_ok, sbnd_no, seq_nx, seq_rt, seq_bk, seq_ct, seq_ex, seq_no, ret_ok, opt_ok, opt_no, sopt_ok, toD_v, toD_m, toD_l, bin_add, bin_sub, bin_mul, bin_div, bin_mod, bin_pow, bin_addl, bin_addt, bin_rep, cmp_lt, cmp_le, cmp_gt, cmp_ge, cmp_eq, cmp_ne, cmp_eqs, truth_b, truth_i, idx_l, idx_t, len_l, len_t, rdM_im, rdM_ow, rdM_bo, rdM_sc, env_v, env_m, env_s, slOf_v, slOf_mt, slOf_mf, b2_max, b2_min, b1_len, b1_sum, b1_repi, b1_repl, b1_rept, seq_l, seq_t, argsOf, argOf, backG, Z.borrowed, noDup, List.contains_nil, Bool.not_false, Bool.and_self, slotIn, isM, upM, putM, appM, setG, isBo, outM, List.length_cons, List.length_nil, List.map_cons, List.map_nil, List.cons_append, List.nil_append, Option.bind_some, Option.map_some, List.getElem?_cons_zero, List.getElem?_cons_succ, List.replicate_zero, List.replicate_succ, Nat.sub_self, if_true, if_false, List.set_cons_zero, List.set_cons_succ, Nat.reduceAdd, Nat.reduceMul, Nat.reduceLT, Nat.zero_add, and_true, true_and, and_self, Nat.zero_le, PySem.sizeLine_eq, Nat.reduceLeDiff, true_or, Bool.not_true, List.length_append, List.length_map, tc0, f10_b1, f10_w0, q_whl, hq]
    cases h with
    | one =>
      refine ⟨p, ?_⟩
      rw [whl_end, List.map_nil, List.append_nil]
      simp only [runFn, ↓reduceIte, q_ev_int, q_ev_bl, q_ev_non, q_ev_str, q_ev_var, q_ev_glb, q_ev_bin, q_ev_neg, q_ev_cmp, q_ev_chain, q_ev_and, q_ev_or, q_ev_not, q_ev_ite, q_ev_tup, q_ev_lst, q_ev_idx, q_ev_idxv, q_ev_lenv, q_ev_slc, q_ev_call, q_ev_b1, q_ev_b2, q_ev_isi, q_evo_non, q_evo_som, q_evq_non, q_evq_som, q_evs_nil, q_evs_cons, q_evas_nil, q_evas_val, q_evas_bor, q_evr_seq, q_evr_rng1, q_evr_rng2, q_evS_set, q_evS_par, q_evS_asg, q_evS_put, q_evS_app, q_evS_exp, q_evS_ret, q_evS_retN, q_evS_ite, q_evS_pass, q_evS_brk, q_evS_cont, q_evSs_nil, q_evSs_cons, kBin', kBin, kNeg, kCmp', kCmp, kCh', kCh, kAnd, kOr, kNot, kIte, kTup, kLst, kIdx', kIdx, kIxv, kSlc'', kSlc', kSlc, kC2, kC1, kCall, kB1, kB2', kB2, kIsi, kOpt, kTr, kEs', kEs, kAs', kAs, kBor, kSeq, kR1, kR2', kR2, kSet, kP2, kPar', kPar, kAsg, kPut', kPut, kApp, kExp, kRet, kIf, Option.map_none, Option.bind_none, bnd_ok, bnd_no, sbnd_ok, sbnd_no, seq_nx, seq_rt, seq_bk, seq_ct, seq_ex, seq_no, ret_ok, opt_ok, opt_no, sopt_ok, toD_v, toD_m, toD_l, bin_add, bin_sub, bin_mul, bin_div, bin_mod, bin_pow, bin_addl, bin_addt, bin_rep, cmp_lt, cmp_le, cmp_gt, cmp_ge, cmp_eq, cmp_ne, cmp_eqs, truth_b, truth_i, idx_l, idx_t, len_l, len_t, rdM_im, rdM_ow, rdM_bo, rdM_sc, env_v, env_m, env_s, slOf_v, slOf_mt, slOf_mf, b2_max, b2_min, b1_len, b1_sum, b1_repi, b1_repl, b1_rept, seq_l, seq_t, argsOf, argOf, backG, Z.borrowed, noDup, List.contains_nil, Bool.not_false, Bool.and_self, slotIn, isM, upM, putM, appM, setG, isBo, outM, List.length_cons, List.length_nil, List.map_cons, List.map_nil, List.cons_append, List.nil_append, Option.bind_some, Option.map_some, List.getElem?_cons_zero, List.getElem?_cons_succ, List.replicate_zero, List.replicate_succ, Nat.sub_self, if_true, if_false, List.set_cons_zero, List.set_cons_succ, Nat.reduceAdd, Nat.reduceMul, Nat.reduceLT, Nat.zero_add, and_true, true_and, and_self, Nat.zero_le, PySem.sizeLine_eq, Nat.reduceLeDiff, true_or, Bool.not_true, List.length_append, List.length_map, tc0, f10_c1, show ¬ p ≤ 1 from by omega, decide_false, Bool.false_eq_true]
    | div b1 b2 b3 =>
      obtain ⟨g1, g2⟩ := div_fact b1 hp b2
      have hpn : p ≤ n := by
        have : p * 1 ≤ p * (n / p) := Int.mul_le_mul_of_nonneg_left g1 (by omega)
        omega
      exact go b1 hpn (by omega)
    | inc b1 b2 b3 b4 => exact go b1 (by omega) (by omega)
theorem r2 (F n : Nat) (i : Int) (l : List Int) (k : Nat) (h : Fac i 2 l k) (hk : k < F) (hb : i < 2 ^ 62) (hl : k ≤ 100000) : run tab F (n + 1) 2 [.v (.int i)] = some (.ok (.v (.list (l.map .int))), [none]) := by
  obtain ⟨q, hq⟩ := w2 (run tab F n) tab.cons h (by decide) F F [] hk hb (by rw [List.length_nil]; omega)
  rw [List.nil_append] at hq
  show runFn (run tab F n) tab.cons F f2 _ = _
  simp only [runFn, ↓reduceIte, q_ev_int, q_ev_bl, q_ev_non, q_ev_str, q_ev_var, q_ev_glb, q_ev_bin, q_ev_neg, q_ev_cmp, q_ev_chain, q_ev_and, q_ev_or, q_ev_not, q_ev_ite, q_ev_tup, q_ev_lst, q_ev_idx, q_ev_idxv, q_ev_lenv, q_ev_slc, q_ev_call, q_ev_b1, q_ev_b2, q_ev_isi, q_evo_non, q_evo_som, q_evq_non, q_evq_som, q_evs_nil, q_evs_cons, q_evas_nil, q_evas_val, q_evas_bor, q_evr_seq, q_evr_rng1, q_evr_rng2, q_evS_set, q_evS_par, q_evS_asg, q_evS_put, q_evS_app, q_evS_exp, q_evS_ret, q_evS_retN, q_evS_ite, q_evS_pass, q_evS_brk, q_evS_cont, q_evSs_nil, q_evSs_cons, kBin', kBin, kNeg, kCmp', kCmp, kCh', kCh, kAnd, kOr, kNot, kIte, kTup, kLst, kIdx', kIdx, kIxv, kSlc'', kSlc', kSlc, kC2, kC1, kCall, kB1, kB2', kB2, kIsi, kOpt, kTr, kEs', kEs, kAs', kAs, kBor, kSeq, kR1, kR2', kR2, kSet, kP2, kPar', kPar, kAsg, kPut', kPut, kApp, kExp, kRet, kIf, Option.map_none, Option.bind_none, bnd_ok, bnd_no, sbnd_ok, sbnd_no, seq_nx, seq_rt, seq_bk, seq_ct, seq_ex, seq_no, ret_ok, opt_ok, opt_no, sopt_ok, toD_v, toD_m, toD_l, bin_add, bin_sub, bin_mul, bin_div, bin_mod, bin_pow, bin_addl, bin_addt, bin_rep, cmp_lt, cmp_le, cmp_gt, cmp_ge, cmp_eq, cmp_ne, cmp_eqs, truth_b, truth_i, idx_l, idx_t, len_l, len_t, rdM_im, rdM_ow, rdM_bo, rdM_sc, env_v, env_m, env_s, slOf_v, slOf_mt, slOf_mf, b2_max, b2_min, b1_len, b1_sum, b1_repi, b1_repl, b1_rept, seq_l, seq_t, argsOf, argOf, backG, Z.borrowed, noDup, List.contains_nil, Bool.not_false, Bool.and_self, slotIn, isM, upM, putM, appM, setG, isBo, outM, List.length_cons, List.length_nil, List.map_cons, List.map_nil, List.cons_append, List.nil_append, Option.bind_some, Option.map_some, List.getElem?_cons_zero, List.getElem?_cons_succ, List.replicate_zero, List.replicate_succ, Nat.sub_self, if_true, if_false, List.set_cons_zero, List.set_cons_succ, Nat.reduceAdd, Nat.reduceMul, Nat.reduceLT, Nat.zero_add, and_true, true_and, and_self, Nat.zero_le, PySem.sizeLine_eq, Nat.reduceLeDiff, true_or, Bool.not_true, List.length_append, List.length_map, tc0, f2, f2_w0, q_whl, hq]
theorem r10 (F n : Nat) (i : Int) (l : List Int) (k : Nat) (h : Fac i 2 l k) (hk : k < F) (hb : i < 2 ^ 62) (hl : k ≤ 100000) : run tab F (n + 1) 10 [.v (.int i)] = some (.ok (.v (.list (l.map .int))), [none]) := by
  obtain ⟨q, hq⟩ := w10o (run tab F n) tab.cons F F k i 2 l [] h (by decide) hk hk hb (by rw [List.length_nil]; omega)
  rw [List.nil_append] at hq
  show runFn (run tab F n) tab.cons F f10 _ = _
  simp only [runFn, ↓reduceIte, q_ev_int, q_ev_bl, q_ev_non, q_ev_str, q_ev_var, q_ev_glb, q_ev_bin, q_ev_neg, q_ev_cmp, q_ev_chain, q_ev_and, q_ev_or, q_ev_not, q_ev_ite, q_ev_tup, q_ev_lst, q_ev_idx, q_ev_idxv, q_ev_lenv, q_ev_slc, q_ev_call, q_ev_b1, q_ev_b2, q_ev_isi, q_evo_non, q_evo_som, q_evq_non, q_evq_som, q_evs_nil, q_evs_cons, q_evas_nil, q_evas_val, q_evas_bor, q_evr_seq, q_evr_rng1, q_evr_rng2, q_evS_set, q_evS_par, q_evS_asg, q_evS_put, q_evS_app, q_evS_exp, q_evS_ret, q_evS_retN, q_evS_ite, q_evS_pass, q_evS_brk, q_evS_cont, q_evSs_nil, q_evSs_cons, kBin', kBin, kNeg, kCmp', kCmp, kCh', kCh, kAnd, kOr, kNot, kIte, kTup, kLst, kIdx', kIdx, kIxv, kSlc'', kSlc', kSlc, kC2, kC1, kCall, kB1, kB2', kB2, kIsi, kOpt, kTr, kEs', kEs, kAs', kAs, kBor, kSeq, kR1, kR2', kR2, kSet, kP2, kPar', kPar, kAsg, kPut', kPut, kApp, kExp, kRet, kIf, Option.map_none, Option.bind_none, bnd_ok, bnd_no, sbnd_ok, sbnd_no, seq_nx, seq_rt, seq_bk, seq_ct, seq_ex, seq_no, ret_ok, opt_ok, opt_no, sopt_ok, toD_v, toD_m, toD_l, bin_add, bin_sub, bin_mul, bin_div, bin_mod, bin_pow, bin_addl, bin_addt, bin_rep, cmp_lt, cmp_le, cmp_gt, cmp_ge, cmp_eq, cmp_ne, cmp_eqs, truth_b, truth_i, idx_l, idx_t, len_l, len_t, rdM_im, rdM_ow, rdM_bo, rdM_sc, env_v, env_m, env_s, slOf_v, slOf_mt, slOf_mf, b2_max, b2_min, b1_len, b1_sum, b1_repi, b1_repl, b1_rept, seq_l, seq_t, argsOf, argOf, backG, Z.borrowed, noDup, List.contains_nil, Bool.not_false, Bool.and_self, slotIn, isM, upM, putM, appM, setG, isBo, outM, List.length_cons, List.length_nil, List.map_cons, List.map_nil, List.cons_append, List.nil_append, Option.bind_some, Option.map_some, List.getElem?_cons_zero, List.getElem?_cons_succ, List.replicate_zero, List.replicate_succ, Nat.sub_self, if_true, if_false, List.set_cons_zero, List.set_cons_succ, Nat.reduceAdd, Nat.reduceMul, Nat.reduceLT, Nat.zero_add, and_true, true_and, and_self, Nat.zero_le, PySem.sizeLine_eq, Nat.reduceLeDiff, true_or, Bool.not_true, List.length_append, List.length_map, tc0, f10, f10_w1, q_whl, hq]
theorem map_ints (f : Int → Int) : ∀ l : List Int, ∀ h : D → D, (∀ i : Int, h (.int i) = .int (f i)) → ((l.map PyData.int).map h) = (l.map f).map PyData.int
  | [], _, _ => rfl
  | i :: l, h, hh => by
    simp only [List.map_cons, hh i, map_ints f l h hh]
def decD (d : D) : D := match d with
  | .int i => .int (i - 1)
  | d => d
theorem r3 (F n : Nat) (i : Int) (l : List Int) (k : Nat) (h : Fac i 2 l k) (hk : k < F) (hb : i < 2 ^ 62) (hl : k ≤ 100000) : run tab F (n + 2) 3 [.v (.int i)] = some (.ok (.v (.int (1 + (l.map (· - 1)).sum))), [none]) := by
  have hL := fac_len h
  have hm := comp_map1 (Γ := run tab F (n + 1)) (cs := tab.cons) (e := f3_e0) (i := 1) (s := .seq (.call 2 1 (.val (.var 0) .nil))) (g := [.im (.int i), .no]) (g1 := [.im (.int i), .no]) (xs := l.map .int) (h := decD) (by simp only [runFn, ↓reduceIte, q_ev_int, q_ev_bl, q_ev_non, q_ev_str, q_ev_var, q_ev_glb, q_ev_bin, q_ev_neg, q_ev_cmp, q_ev_chain, q_ev_and, q_ev_or, q_ev_not, q_ev_ite, q_ev_tup, q_ev_lst, q_ev_idx, q_ev_idxv, q_ev_lenv, q_ev_slc, q_ev_call, q_ev_b1, q_ev_b2, q_ev_isi, q_evo_non, q_evo_som, q_evq_non, q_evq_som, q_evs_nil, q_evs_cons, q_evas_nil, q_evas_val, q_evas_bor, q_evr_seq, q_evr_rng1, q_evr_rng2, q_evS_set, q_evS_par, q_evS_asg, q_evS_put, q_evS_app, q_evS_exp, q_evS_ret, q_evS_retN, q_evS_ite, q_evS_pass, q_evS_brk, q_evS_cont, q_evSs_nil, q_evSs_cons, kBin', kBin, kNeg, kCmp', kCmp, kCh', kCh, kAnd, kOr, kNot, kIte, kTup, kLst, kIdx', kIdx, kIxv, kSlc'', kSlc', kSlc, kC2, kC1, kCall, kB1, kB2', kB2, kIsi, kOpt, kTr, kEs', kEs, kAs', kAs, kBor, kSeq, kR1, kR2', kR2, kSet, kP2, kPar', kPar, kAsg, kPut', kPut, kApp, kExp, kRet, kIf, Option.map_none, Option.bind_none, bnd_ok, bnd_no, sbnd_ok, sbnd_no, seq_nx, seq_rt, seq_bk, seq_ct, seq_ex, seq_no, ret_ok, opt_ok, opt_no, sopt_ok, toD_v, toD_m, toD_l, bin_add, bin_sub, bin_mul, bin_div, bin_mod, bin_pow, bin_addl, bin_addt, bin_rep, cmp_lt, cmp_le, cmp_gt, cmp_ge, cmp_eq, cmp_ne, cmp_eqs, truth_b, truth_i, idx_l, idx_t, len_l, len_t, rdM_im, rdM_ow, rdM_bo, rdM_sc, env_v, env_m, env_s, slOf_v, slOf_mt, slOf_mf, b2_max, b2_min, b1_len, b1_sum, b1_repi, b1_repl, b1_rept, seq_l, seq_t, argsOf, argOf, backG, Z.borrowed, noDup, List.contains_nil, Bool.not_false, Bool.and_self, slotIn, isM, upM, putM, appM, setG, isBo, outM, List.length_cons, List.length_nil, List.map_cons, List.map_nil, List.cons_append, List.nil_append, Option.bind_some, Option.map_some, List.getElem?_cons_zero, List.getElem?_cons_succ, List.replicate_zero, List.replicate_succ, Nat.sub_self, if_true, if_false, List.set_cons_zero, List.set_cons_succ, Nat.reduceAdd, Nat.reduceMul, Nat.reduceLT, Nat.zero_add, and_true, true_and, and_self, Nat.zero_le, PySem.sizeLine_eq, Nat.reduceLeDiff, true_or, Bool.not_true, List.length_append, List.length_map, tc0, r2 F n i l k h hk hb hl]) (show (1 : Nat) < 2 from by decide) rfl (by rw [List.length_map]; have := line_big; omega) (fun d hd => by
    obtain ⟨j, _, rfl⟩ := List.mem_map.mp hd
    exact ⟨.v (.int (j - 1)), by simp only [runFn, ↓reduceIte, q_ev_int, q_ev_bl, q_ev_non, q_ev_str, q_ev_var, q_ev_glb, q_ev_bin, q_ev_neg, q_ev_cmp, q_ev_chain, q_ev_and, q_ev_or, q_ev_not, q_ev_ite, q_ev_tup, q_ev_lst, q_ev_idx, q_ev_idxv, q_ev_lenv, q_ev_slc, q_ev_call, q_ev_b1, q_ev_b2, q_ev_isi, q_evo_non, q_evo_som, q_evq_non, q_evq_som, q_evs_nil, q_evs_cons, q_evas_nil, q_evas_val, q_evas_bor, q_evr_seq, q_evr_rng1, q_evr_rng2, q_evS_set, q_evS_par, q_evS_asg, q_evS_put, q_evS_app, q_evS_exp, q_evS_ret, q_evS_retN, q_evS_ite, q_evS_pass, q_evS_brk, q_evS_cont, q_evSs_nil, q_evSs_cons, kBin', kBin, kNeg, kCmp', kCmp, kCh', kCh, kAnd, kOr, kNot, kIte, kTup, kLst, kIdx', kIdx, kIxv, kSlc'', kSlc', kSlc, kC2, kC1, kCall, kB1, kB2', kB2, kIsi, kOpt, kTr, kEs', kEs, kAs', kAs, kBor, kSeq, kR1, kR2', kR2, kSet, kP2, kPar', kPar, kAsg, kPut', kPut, kApp, kExp, kRet, kIf, Option.map_none, Option.bind_none, bnd_ok, bnd_no, sbnd_ok, sbnd_no, seq_nx, seq_rt, seq_bk, seq_ct, seq_ex, seq_no, ret_ok, opt_ok, opt_no, sopt_ok, toD_v, toD_m, toD_l, bin_add, bin_sub, bin_mul, bin_div, bin_mod, bin_pow, bin_addl, bin_addt, bin_rep, cmp_lt, cmp_le, cmp_gt, cmp_ge, cmp_eq, cmp_ne, cmp_eqs, truth_b, truth_i, idx_l, idx_t, len_l, len_t, rdM_im, rdM_ow, rdM_bo, rdM_sc, env_v, env_m, env_s, slOf_v, slOf_mt, slOf_mf, b2_max, b2_min, b1_len, b1_sum, b1_repi, b1_repl, b1_rept, seq_l, seq_t, argsOf, argOf, backG, Z.borrowed, noDup, List.contains_nil, Bool.not_false, Bool.and_self, slotIn, isM, upM, putM, appM, setG, isBo, outM, List.length_cons, List.length_nil, List.map_cons, List.map_nil, List.cons_append, List.nil_append, Option.bind_some, Option.map_some, List.getElem?_cons_zero, List.getElem?_cons_succ, List.replicate_zero, List.replicate_succ, Nat.sub_self, if_true, if_false, List.set_cons_zero, List.set_cons_succ, Nat.reduceAdd, Nat.reduceMul, Nat.reduceLT, Nat.zero_add, and_true, true_and, and_self, Nat.zero_le, PySem.sizeLine_eq, Nat.reduceLeDiff, true_or, Bool.not_true, List.length_append, List.length_map, tc0, f3_e0], rfl⟩)
  rw [map_ints (· - 1) l decD (fun _ => rfl)] at hm
  show runFn (run tab F (n + 1)) tab.cons F f3 _ = _
  simp only [runFn, ↓reduceIte, q_ev_int, q_ev_bl, q_ev_non, q_ev_str, q_ev_var, q_ev_glb, q_ev_bin, q_ev_neg, q_ev_cmp, q_ev_chain, q_ev_and, q_ev_or, q_ev_not, q_ev_ite, q_ev_tup, q_ev_lst, q_ev_idx, q_ev_idxv, q_ev_lenv, q_ev_slc, q_ev_call, q_ev_b1, q_ev_b2, q_ev_isi, q_evo_non, q_evo_som, q_evq_non, q_evq_som, q_evs_nil, q_evs_cons, q_evas_nil, q_evas_val, q_evas_bor, q_evr_seq, q_evr_rng1, q_evr_rng2, q_evS_set, q_evS_par, q_evS_asg, q_evS_put, q_evS_app, q_evS_exp, q_evS_ret, q_evS_retN, q_evS_ite, q_evS_pass, q_evS_brk, q_evS_cont, q_evSs_nil, q_evSs_cons, kBin', kBin, kNeg, kCmp', kCmp, kCh', kCh, kAnd, kOr, kNot, kIte, kTup, kLst, kIdx', kIdx, kIxv, kSlc'', kSlc', kSlc, kC2, kC1, kCall, kB1, kB2', kB2, kIsi, kOpt, kTr, kEs', kEs, kAs', kAs, kBor, kSeq, kR1, kR2', kR2, kSet, kP2, kPar', kPar, kAsg, kPut', kPut, kApp, kExp, kRet, kIf, Option.map_none, Option.bind_none, bnd_ok, bnd_no, sbnd_ok, sbnd_no, seq_nx, seq_rt, seq_bk, seq_ct, seq_ex, seq_no, ret_ok, opt_ok, opt_no, sopt_ok, toD_v, toD_m, toD_l, bin_add, bin_sub, bin_mul, bin_div, bin_mod, bin_pow, bin_addl, bin_addt, bin_rep, cmp_lt, cmp_le, cmp_gt, cmp_ge, cmp_eq, cmp_ne, cmp_eqs, truth_b, truth_i, idx_l, idx_t, len_l, len_t, rdM_im, rdM_ow, rdM_bo, rdM_sc, env_v, env_m, env_s, slOf_v, slOf_mt, slOf_mf, b2_max, b2_min, b1_len, b1_sum, b1_repi, b1_repl, b1_rept, seq_l, seq_t, argsOf, argOf, backG, Z.borrowed, noDup, List.contains_nil, Bool.not_false, Bool.and_self, slotIn, isM, upM, putM, appM, setG, isBo, outM, List.length_cons, List.length_nil, List.map_cons, List.map_nil, List.cons_append, List.nil_append, Option.bind_some, Option.map_some, List.getElem?_cons_zero, List.getElem?_cons_succ, List.replicate_zero, List.replicate_succ, Nat.sub_self, if_true, if_false, List.set_cons_zero, List.set_cons_succ, Nat.reduceAdd, Nat.reduceMul, Nat.reduceLT, Nat.zero_add, and_true, true_and, and_self, Nat.zero_le, PySem.sizeLine_eq, Nat.reduceLeDiff, true_or, Bool.not_true, List.length_append, List.length_map, tc0, f3, f3_m0, hm, intsD_map]
theorem r11 (F n : Nat) (i : Int) (l : List Int) (k : Nat) (h : Fac i 2 l k) (hk : k < F) (hb : i < 2 ^ 62) (hl : k ≤ 100000) : run tab F (n + 2) 11 [.v (.int i)] = some (.ok (.v (.int (1 + (l.map (· - 1)).sum))), [none]) := by
  have hL := fac_len h
  have hm := comp_map1 (Γ := run tab F (n + 1)) (cs := tab.cons) (e := f11_e0) (i := 1) (s := .seq (.call 10 1 (.val (.var 0) .nil))) (g := [.im (.int i), .no]) (g1 := [.im (.int i), .no]) (xs := l.map .int) (h := decD) (by simp only [runFn, ↓reduceIte, q_ev_int, q_ev_bl, q_ev_non, q_ev_str, q_ev_var, q_ev_glb, q_ev_bin, q_ev_neg, q_ev_cmp, q_ev_chain, q_ev_and, q_ev_or, q_ev_not, q_ev_ite, q_ev_tup, q_ev_lst, q_ev_idx, q_ev_idxv, q_ev_lenv, q_ev_slc, q_ev_call, q_ev_b1, q_ev_b2, q_ev_isi, q_evo_non, q_evo_som, q_evq_non, q_evq_som, q_evs_nil, q_evs_cons, q_evas_nil, q_evas_val, q_evas_bor, q_evr_seq, q_evr_rng1, q_evr_rng2, q_evS_set, q_evS_par, q_evS_asg, q_evS_put, q_evS_app, q_evS_exp, q_evS_ret, q_evS_retN, q_evS_ite, q_evS_pass, q_evS_brk, q_evS_cont, q_evSs_nil, q_evSs_cons, kBin', kBin, kNeg, kCmp', kCmp, kCh', kCh, kAnd, kOr, kNot, kIte, kTup, kLst, kIdx', kIdx, kIxv, kSlc'', kSlc', kSlc, kC2, kC1, kCall, kB1, kB2', kB2, kIsi, kOpt, kTr, kEs', kEs, kAs', kAs, kBor, kSeq, kR1, kR2', kR2, kSet, kP2, kPar', kPar, kAsg, kPut', kPut, kApp, kExp, kRet, kIf, Option.map_none, Option.bind_none, bnd_ok, bnd_no, sbnd_ok, sbnd_no, seq_nx, seq_rt, seq_bk, seq_ct, seq_ex, seq_no, ret_ok, opt_ok, opt_no, sopt_ok, toD_v, toD_m, toD_l, bin_add, bin_sub, bin_mul, bin_div, bin_mod, bin_pow, bin_addl, bin_addt, bin_rep, cmp_lt, cmp_le, cmp_gt, cmp_ge, cmp_eq, cmp_ne, cmp_eqs, truth_b, truth_i, idx_l, idx_t, len_l, len_t, rdM_im, rdM_ow, rdM_bo, rdM_sc, env_v, env_m, env_s, slOf_v, slOf_mt, slOf_mf, b2_max, b2_min, b1_len, b1_sum, b1_repi, b1_repl, b1_rept, seq_l, seq_t, argsOf, argOf, backG, Z.borrowed, noDup, List.contains_nil, Bool.not_false, Bool.and_self, slotIn, isM, upM, putM, appM, setG, isBo, outM, List.length_cons, List.length_nil, List.map_cons, List.map_nil, List.cons_append, List.nil_append, Option.bind_some, Option.map_some, List.getElem?_cons_zero, List.getElem?_cons_succ, List.replicate_zero, List.replicate_succ, Nat.sub_self, if_true, if_false, List.set_cons_zero, List.set_cons_succ, Nat.reduceAdd, Nat.reduceMul, Nat.reduceLT, Nat.zero_add, and_true, true_and, and_self, Nat.zero_le, PySem.sizeLine_eq, Nat.reduceLeDiff, true_or, Bool.not_true, List.length_append, List.length_map, tc0, r10 F n i l k h hk hb hl]) (show (1 : Nat) < 2 from by decide) rfl (by rw [List.length_map]; have := line_big; omega) (fun d hd => by
    obtain ⟨j, _, rfl⟩ := List.mem_map.mp hd
    exact ⟨.v (.int (j - 1)), by simp only [runFn, ↓reduceIte, q_ev_int, q_ev_bl, q_ev_non, q_ev_str, q_ev_var, q_ev_glb, q_ev_bin, q_ev_neg, q_ev_cmp, q_ev_chain, q_ev_and, q_ev_or, q_ev_not, q_ev_ite, q_ev_tup, q_ev_lst, q_ev_idx, q_ev_idxv, q_ev_lenv, q_ev_slc, q_ev_call, q_ev_b1, q_ev_b2, q_ev_isi, q_evo_non, q_evo_som, q_evq_non, q_evq_som, q_evs_nil, q_evs_cons, q_evas_nil, q_evas_val, q_evas_bor, q_evr_seq, q_evr_rng1, q_evr_rng2, q_evS_set, q_evS_par, q_evS_asg, q_evS_put, q_evS_app, q_evS_exp, q_evS_ret, q_evS_retN, q_evS_ite, q_evS_pass, q_evS_brk, q_evS_cont, q_evSs_nil, q_evSs_cons, kBin', kBin, kNeg, kCmp', kCmp, kCh', kCh, kAnd, kOr, kNot, kIte, kTup, kLst, kIdx', kIdx, kIxv, kSlc'', kSlc', kSlc, kC2, kC1, kCall, kB1, kB2', kB2, kIsi, kOpt, kTr, kEs', kEs, kAs', kAs, kBor, kSeq, kR1, kR2', kR2, kSet, kP2, kPar', kPar, kAsg, kPut', kPut, kApp, kExp, kRet, kIf, Option.map_none, Option.bind_none, bnd_ok, bnd_no, sbnd_ok, sbnd_no, seq_nx, seq_rt, seq_bk, seq_ct, seq_ex, seq_no, ret_ok, opt_ok, opt_no, sopt_ok, toD_v, toD_m, toD_l, bin_add, bin_sub, bin_mul, bin_div, bin_mod, bin_pow, bin_addl, bin_addt, bin_rep, cmp_lt, cmp_le, cmp_gt, cmp_ge, cmp_eq, cmp_ne, cmp_eqs, truth_b, truth_i, idx_l, idx_t, len_l, len_t, rdM_im, rdM_ow, rdM_bo, rdM_sc, env_v, env_m, env_s, slOf_v, slOf_mt, slOf_mf, b2_max, b2_min, b1_len, b1_sum, b1_repi, b1_repl, b1_rept, seq_l, seq_t, argsOf, argOf, backG, Z.borrowed, noDup, List.contains_nil, Bool.not_false, Bool.and_self, slotIn, isM, upM, putM, appM, setG, isBo, outM, List.length_cons, List.length_nil, List.map_cons, List.map_nil, List.cons_append, List.nil_append, Option.bind_some, Option.map_some, List.getElem?_cons_zero, List.getElem?_cons_succ, List.replicate_zero, List.replicate_succ, Nat.sub_self, if_true, if_false, List.set_cons_zero, List.set_cons_succ, Nat.reduceAdd, Nat.reduceMul, Nat.reduceLT, Nat.zero_add, and_true, true_and, and_self, Nat.zero_le, PySem.sizeLine_eq, Nat.reduceLeDiff, true_or, Bool.not_true, List.length_append, List.length_map, tc0, f11_e0], rfl⟩)
  rw [map_ints (· - 1) l decD (fun _ => rfl)] at hm
  show runFn (run tab F (n + 1)) tab.cons F f11 _ = _
  simp only [runFn, ↓reduceIte, q_ev_int, q_ev_bl, q_ev_non, q_ev_str, q_ev_var, q_ev_glb, q_ev_bin, q_ev_neg, q_ev_cmp, q_ev_chain, q_ev_and, q_ev_or, q_ev_not, q_ev_ite, q_ev_tup, q_ev_lst, q_ev_idx, q_ev_idxv, q_ev_lenv, q_ev_slc, q_ev_call, q_ev_b1, q_ev_b2, q_ev_isi, q_evo_non, q_evo_som, q_evq_non, q_evq_som, q_evs_nil, q_evs_cons, q_evas_nil, q_evas_val, q_evas_bor, q_evr_seq, q_evr_rng1, q_evr_rng2, q_evS_set, q_evS_par, q_evS_asg, q_evS_put, q_evS_app, q_evS_exp, q_evS_ret, q_evS_retN, q_evS_ite, q_evS_pass, q_evS_brk, q_evS_cont, q_evSs_nil, q_evSs_cons, kBin', kBin, kNeg, kCmp', kCmp, kCh', kCh, kAnd, kOr, kNot, kIte, kTup, kLst, kIdx', kIdx, kIxv, kSlc'', kSlc', kSlc, kC2, kC1, kCall, kB1, kB2', kB2, kIsi, kOpt, kTr, kEs', kEs, kAs', kAs, kBor, kSeq, kR1, kR2', kR2, kSet, kP2, kPar', kPar, kAsg, kPut', kPut, kApp, kExp, kRet, kIf, Option.map_none, Option.bind_none, bnd_ok, bnd_no, sbnd_ok, sbnd_no, seq_nx, seq_rt, seq_bk, seq_ct, seq_ex, seq_no, ret_ok, opt_ok, opt_no, sopt_ok, toD_v, toD_m, toD_l, bin_add, bin_sub, bin_mul, bin_div, bin_mod, bin_pow, bin_addl, bin_addt, bin_rep, cmp_lt, cmp_le, cmp_gt, cmp_ge, cmp_eq, cmp_ne, cmp_eqs, truth_b, truth_i, idx_l, idx_t, len_l, len_t, rdM_im, rdM_ow, rdM_bo, rdM_sc, env_v, env_m, env_s, slOf_v, slOf_mt, slOf_mf, b2_max, b2_min, b1_len, b1_sum, b1_repi, b1_repl, b1_rept, seq_l, seq_t, argsOf, argOf, backG, Z.borrowed, noDup, List.contains_nil, Bool.not_false, Bool.and_self, slotIn, isM, upM, putM, appM, setG, isBo, outM, List.length_cons, List.length_nil, List.map_cons, List.map_nil, List.cons_append, List.nil_append, Option.bind_some, Option.map_some, List.getElem?_cons_zero, List.getElem?_cons_succ, List.replicate_zero, List.replicate_succ, Nat.sub_self, if_true, if_false, List.set_cons_zero, List.set_cons_succ, Nat.reduceAdd, Nat.reduceMul, Nat.reduceLT, Nat.zero_add, and_true, true_and, and_self, Nat.zero_le, PySem.sizeLine_eq, Nat.reduceLeDiff, true_or, Bool.not_true, List.length_append, List.length_map, tc0, f11, f11_m0, hm, intsD_map]
/-- both answers at once -/
theorem both (F n : Nat) (hF : 20000 < F) (i : Int) (h1 : 1 ≤ i) (h2 : i ≤ 5040) : ∃ v : Int, 0 ≤ v ∧ v < 10 ^ 6 ∧ run tab F (n + 4) 5 [.v (.int i)] = some (.ok (.v (.int v)), [none]) ∧ run tab F (n + 4) 11 [.v (.int i)] = some (.ok (.v (.int v)), [none]) := by
  obtain ⟨l, k, h, hk⟩ := fac_ex (2 * i - 2).toNat i 2 h1 (by decide) (fun d hd _ => hd) (Nat.le_refl _)
  obtain ⟨s1, s2⟩ := fac_sum h (by decide)
  exact ⟨1 + (l.map (· - 1)).sum, by omega, by omega, r5 F n i h1 h2 _ (r3 F (n + 1) i l k h (by omega) (by omega) (by omega)), r11 F (n + 2) i l k h (by omega) (by omega) (by omega)⟩
theorem r9 (F n : Nat) (d : D) (x : PySem.Str) (h : b1D .repr d = some (.v (.str x))) : run tab F (n + 1) 9 [.v d, .v d] = some (.ok (.v (.bool true)), [none, none]) := by
  show runFn (run tab F n) tab.cons F f9 _ = _
  simp only [runFn, ↓reduceIte, q_ev_int, q_ev_bl, q_ev_non, q_ev_str, q_ev_var, q_ev_glb, q_ev_bin, q_ev_neg, q_ev_cmp, q_ev_chain, q_ev_and, q_ev_or, q_ev_not, q_ev_ite, q_ev_tup, q_ev_lst, q_ev_idx, q_ev_idxv, q_ev_lenv, q_ev_slc, q_ev_call, q_ev_b1, q_ev_b2, q_ev_isi, q_evo_non, q_evo_som, q_evq_non, q_evq_som, q_evs_nil, q_evs_cons, q_evas_nil, q_evas_val, q_evas_bor, q_evr_seq, q_evr_rng1, q_evr_rng2, q_evS_set, q_evS_par, q_evS_asg, q_evS_put, q_evS_app, q_evS_exp, q_evS_ret, q_evS_retN, q_evS_ite, q_evS_pass, q_evS_brk, q_evS_cont, q_evSs_nil, q_evSs_cons, kBin', kBin, kNeg, kCmp', kCmp, kCh', kCh, kAnd, kOr, kNot, kIte, kTup, kLst, kIdx', kIdx, kIxv, kSlc'', kSlc', kSlc, kC2, kC1, kCall, kB1, kB2', kB2, kIsi, kOpt, kTr, kEs', kEs, kAs', kAs, kBor, kSeq, kR1, kR2', kR2, kSet, kP2, kPar', kPar, kAsg, kPut', kPut, kApp, kExp, kRet, kIf, Option.map_none, Option.bind_none, bnd_ok, bnd_no, sbnd_ok, sbnd_no, seq_nx, seq_rt, seq_bk, seq_ct, seq_ex, seq_no, ret_ok, opt_ok, opt_no, sopt_ok, toD_v, toD_m, toD_l, bin_add, bin_sub, bin_mul, bin_div, bin_mod, bin_pow, bin_addl, bin_addt, bin_rep, cmp_lt, cmp_le, cmp_gt, cmp_ge, cmp_eq, cmp_ne, cmp_eqs, truth_b, truth_i, idx_l, idx_t, len_l, len_t, rdM_im, rdM_ow, rdM_bo, rdM_sc, env_v, env_m, env_s, slOf_v, slOf_mt, slOf_mf, b2_max, b2_min, b1_len, b1_sum, b1_repi, b1_repl, b1_rept, seq_l, seq_t, argsOf, argOf, backG, Z.borrowed, noDup, List.contains_nil, Bool.not_false, Bool.and_self, slotIn, isM, upM, putM, appM, setG, isBo, outM, List.length_cons, List.length_nil, List.map_cons, List.map_nil, List.cons_append, List.nil_append, Option.bind_some, Option.map_some, List.getElem?_cons_zero, List.getElem?_cons_succ, List.replicate_zero, List.replicate_succ, Nat.sub_self, if_true, if_false, List.set_cons_zero, List.set_cons_succ, Nat.reduceAdd, Nat.reduceMul, Nat.reduceLT, Nat.zero_add, and_true, true_and, and_self, Nat.zero_le, PySem.sizeLine_eq, Nat.reduceLeDiff, true_or, Bool.not_true, List.length_append, List.length_map, tc0, f9, h, decide_true]
theorem r9i (F n : Nat) (i : Int) (h0 : 0 ≤ i) (h : i < 10 ^ 12) : run tab F (n + 1) 9 [.v (.int i), .v (.int i)] = some (.ok (.v (.bool true)), [none, none]) := by
  refine r9 F n _ (toString i) ?_
  have h' : i.natAbs < 10 ^ 12 := by omega
  have hs := (Sm.int h').1
  rw [b1_repi, if_pos (by simpa only [PyData.showable, decide_eq_true_eq] using hs)]
theorem r9l (F n : Nat) (ds : List D) (h : showOk (.list ds) = true) : run tab F (n + 1) 9 [.v (.list ds), .v (.list ds)] = some (.ok (.v (.bool true)), [none, none]) :=
  r9 F n _ _ (by rw [b1_repl, if_pos h])
def NumOk (d : D) : Prop := ∃ v : Int, d = .int v ∧ 1 ≤ v ∧ v ≤ 5040
/-- the first loop: fixed numbers -/
theorem w12a (F n : Nat) (hF : 20000 < F) (ds : List D) : ∃ x, plainSl x = true ∧ evS (run tab F (n + 4)) tab.cons F f12_w3 [.sc ds, .no, .no, .no, .no] = some (.nx, [.sc ds, x, .no, .no, .no]) := by
  have key : ∀ d, NumOk d → evSs (run tab F (n + 4)) tab.cons F f12_b3 [.sc ds, .im d, .no, .no, .no] = some (.nx, [.sc ds, .im d, .no, .no, .no]) := by
    rintro _ ⟨v, rfl, h1, h2⟩
    obtain ⟨x, x0, x1, e1, e2⟩ := both F n hF v h1 h2
    have hs : showOk (.list [.int x, .int x]) = true := (Sm.list (k := 0) (w := 40) (ds := [.int x, .int x]) (fun d hd => by
      have hd' : d = .int x := by
        rcases List.mem_cons.mp hd with h | h
        · exact h
        · exact List.mem_singleton.mp h
      rw [hd']
      exact Sm.int (by omega))).ok (by decide) (show 2 * (40 + 1) ≤ 2 ^ 20 from by decide)
    have hr : repOk 1 2 = true := by decide
    simp only [runFn, ↓reduceIte, q_ev_int, q_ev_bl, q_ev_non, q_ev_str, q_ev_var, q_ev_glb, q_ev_bin, q_ev_neg, q_ev_cmp, q_ev_chain, q_ev_and, q_ev_or, q_ev_not, q_ev_ite, q_ev_tup, q_ev_lst, q_ev_idx, q_ev_idxv, q_ev_lenv, q_ev_slc, q_ev_call, q_ev_b1, q_ev_b2, q_ev_isi, q_evo_non, q_evo_som, q_evq_non, q_evq_som, q_evs_nil, q_evs_cons, q_evas_nil, q_evas_val, q_evas_bor, q_evr_seq, q_evr_rng1, q_evr_rng2, q_evS_set, q_evS_par, q_evS_asg, q_evS_put, q_evS_app, q_evS_exp, q_evS_ret, q_evS_retN, q_evS_ite, q_evS_pass, q_evS_brk, q_evS_cont, q_evSs_nil, q_evSs_cons, kBin', kBin, kNeg, kCmp', kCmp, kCh', kCh, kAnd, kOr, kNot, kIte, kTup, kLst, kIdx', kIdx, kIxv, kSlc'', kSlc', kSlc, kC2, kC1, kCall, kB1, kB2', kB2, kIsi, kOpt, kTr, kEs', kEs, kAs', kAs, kBor, kSeq, kR1, kR2', kR2, kSet, kP2, kPar', kPar, kAsg, kPut', kPut, kApp, kExp, kRet, kIf, Option.map_none, Option.bind_none, bnd_ok, bnd_no, sbnd_ok, sbnd_no, seq_nx, seq_rt, seq_bk, seq_ct, seq_ex, seq_no, ret_ok, opt_ok, opt_no, sopt_ok, toD_v, toD_m, toD_l, bin_add, bin_sub, bin_mul, bin_div, bin_mod, bin_pow, bin_addl, bin_addt, bin_rep, cmp_lt, cmp_le, cmp_gt, cmp_ge, cmp_eq, cmp_ne, cmp_eqs, truth_b, truth_i, idx_l, idx_t, len_l, len_t, rdM_im, rdM_ow, rdM_bo, rdM_sc, env_v, env_m, env_s, slOf_v, slOf_mt, slOf_mf, b2_max, b2_min, b1_len, b1_sum, b1_repi, b1_repl, b1_rept, seq_l, seq_t, argsOf, argOf, backG, Z.borrowed, noDup, List.contains_nil, Bool.not_false, Bool.and_self, slotIn, isM, upM, putM, appM, setG, isBo, outM, List.length_cons, List.length_nil, List.map_cons, List.map_nil, List.cons_append, List.nil_append, Option.bind_some, Option.map_some, List.getElem?_cons_zero, List.getElem?_cons_succ, List.replicate_zero, List.replicate_succ, Nat.sub_self, if_true, if_false, List.set_cons_zero, List.set_cons_succ, Nat.reduceAdd, Nat.reduceMul, Nat.reduceLT, Nat.zero_add, and_true, true_and, and_self, Nat.zero_le, PySem.sizeLine_eq, Nat.reduceLeDiff, true_or, Bool.not_true, List.length_append, List.length_map, tc0, f12_b3, e1, e2, hr, r9l F (n + 3) [.int x, .int x] hs, show Int.toNat 2 = 2 from rfl, List.flatten_cons, List.flatten_nil, List.append_nil]
  obtain ⟨g', h1, h2⟩ := forGo_inv (t := .n 1) (b := evSs (run tab F (n + 4)) tab.cons F f12_b3) (I := fun g => ∃ x, plainSl x = true ∧ g = [.sc ds, x, .no, .no, .no]) (ds := [.int 1, .int 2, .int 3, .int 4, .int 5, .int 6, .int 8, .int 9, .int 12, .int 30, .int 36, .int 49, .int 60, .int 97, .int 120, .int 360, .int 720, .int 2310, .int 4096, .int 5040]) (fun d hd g hg => by
    have hN : NumOk d := by
      simp only [List.mem_cons, List.not_mem_nil, or_false] at hd
      rcases hd with rfl | rfl | rfl | rfl | rfl | rfl | rfl | rfl | rfl | rfl | rfl | rfl | rfl | rfl | rfl | rfl | rfl | rfl | rfl | rfl <;> exact ⟨_, rfl, by decide, by decide⟩
    refine ⟨[.sc ds, .im d, .no, .no, .no], _, ?_, key d hN, _, rfl, rfl⟩
    obtain ⟨x, hx, rfl⟩ := hg
    cases x with
    | no => rfl
    | im d => rfl
    | ow c => cases hx
    | bo c => cases hx
    | sc l => cases hx) (g := [.sc ds, .no, .no, .no, .no]) ⟨_, rfl, rfl⟩
  obtain ⟨x, hx, rfl⟩ := h2
  exact ⟨x, hx, q_for_go (by simp only [runFn, ↓reduceIte, q_ev_int, q_ev_bl, q_ev_non, q_ev_str, q_ev_var, q_ev_glb, q_ev_bin, q_ev_neg, q_ev_cmp, q_ev_chain, q_ev_and, q_ev_or, q_ev_not, q_ev_ite, q_ev_tup, q_ev_lst, q_ev_idx, q_ev_idxv, q_ev_lenv, q_ev_slc, q_ev_call, q_ev_b1, q_ev_b2, q_ev_isi, q_evo_non, q_evo_som, q_evq_non, q_evq_som, q_evs_nil, q_evs_cons, q_evas_nil, q_evas_val, q_evas_bor, q_evr_seq, q_evr_rng1, q_evr_rng2, q_evS_set, q_evS_par, q_evS_asg, q_evS_put, q_evS_app, q_evS_exp, q_evS_ret, q_evS_retN, q_evS_ite, q_evS_pass, q_evS_brk, q_evS_cont, q_evSs_nil, q_evSs_cons, kBin', kBin, kNeg, kCmp', kCmp, kCh', kCh, kAnd, kOr, kNot, kIte, kTup, kLst, kIdx', kIdx, kIxv, kSlc'', kSlc', kSlc, kC2, kC1, kCall, kB1, kB2', kB2, kIsi, kOpt, kTr, kEs', kEs, kAs', kAs, kBor, kSeq, kR1, kR2', kR2, kSet, kP2, kPar', kPar, kAsg, kPut', kPut, kApp, kExp, kRet, kIf, Option.map_none, Option.bind_none, bnd_ok, bnd_no, sbnd_ok, sbnd_no, seq_nx, seq_rt, seq_bk, seq_ct, seq_ex, seq_no, ret_ok, opt_ok, opt_no, sopt_ok, toD_v, toD_m, toD_l, bin_add, bin_sub, bin_mul, bin_div, bin_mod, bin_pow, bin_addl, bin_addt, bin_rep, cmp_lt, cmp_le, cmp_gt, cmp_ge, cmp_eq, cmp_ne, cmp_eqs, truth_b, truth_i, idx_l, idx_t, len_l, len_t, rdM_im, rdM_ow, rdM_bo, rdM_sc, env_v, env_m, env_s, slOf_v, slOf_mt, slOf_mf, b2_max, b2_min, b1_len, b1_sum, b1_repi, b1_repl, b1_rept, seq_l, seq_t, argsOf, argOf, backG, Z.borrowed, noDup, List.contains_nil, Bool.not_false, Bool.and_self, slotIn, isM, upM, putM, appM, setG, isBo, outM, List.length_cons, List.length_nil, List.map_cons, List.map_nil, List.cons_append, List.nil_append, Option.bind_some, Option.map_some, List.getElem?_cons_zero, List.getElem?_cons_succ, List.replicate_zero, List.replicate_succ, Nat.sub_self, if_true, if_false, List.set_cons_zero, List.set_cons_succ, Nat.reduceAdd, Nat.reduceMul, Nat.reduceLT, Nat.zero_add, and_true, true_and, and_self, Nat.zero_le, PySem.sizeLine_eq, Nat.reduceLeDiff, true_or, Bool.not_true, List.length_append, List.length_map, tc0]) h1⟩
/-- a lap's numbers -/
theorem m12 (F n : Nat) (ds : List D) (x : Sl) (k : D) (p : List D) (hp : PenOk p) : ∃ xs p', PenOk p' ∧ xs.length = 6 ∧ (∀ d, d ∈ xs → NumOk d) ∧ ev (run tab F (n + 1)) tab.cons f12_m0 [.sc ds, x, .im k, .ow (.l p), .no] = some (.ok (.m (.l xs)), [.sc ds, x, .im k, .ow (.l p'), .no]) := by
  obtain ⟨xs, g', h1, h2, h3, p', l, h4, rfl⟩ := compGo_inv (own := [4]) (F := fun d g => (asg (.n 4) d g).bind fun g => bnd (evq (run tab F (n + 1)) tab.cons .non g) fun b g => if b then bnd (ev (run tab F (n + 1)) tab.cons f12_e0 g) fun y g => ret (some y.toD) g else ret none g)
    (I := fun g => ∃ p l, PenOk p ∧ g = [.sc ds, x, .im k, .ow (.l p), l]) (P := NumOk) (xs := rngL 0 6) (acc := []) (fun d hd g hg => by
      obtain ⟨p, l, hp, rfl⟩ := hg
      obtain ⟨v, p', hp', v0, v1, hd⟩ := r8 F n p hp 100 (by decide) (by decide)
      refine ⟨.int (1 + v), [.sc ds, x, .im k, .ow (.l p'), .im d], ?_, ⟨_, rfl, by omega, by omega⟩, p', _, hp', rfl⟩
      show bnd (ev (run tab F (n + 1)) tab.cons f12_e0 [.sc ds, x, .im k, .ow (.l p), .im d]) _ = _
      simp only [runFn, ↓reduceIte, q_ev_int, q_ev_bl, q_ev_non, q_ev_str, q_ev_var, q_ev_glb, q_ev_bin, q_ev_neg, q_ev_cmp, q_ev_chain, q_ev_and, q_ev_or, q_ev_not, q_ev_ite, q_ev_tup, q_ev_lst, q_ev_idx, q_ev_idxv, q_ev_lenv, q_ev_slc, q_ev_call, q_ev_b1, q_ev_b2, q_ev_isi, q_evo_non, q_evo_som, q_evq_non, q_evq_som, q_evs_nil, q_evs_cons, q_evas_nil, q_evas_val, q_evas_bor, q_evr_seq, q_evr_rng1, q_evr_rng2, q_evS_set, q_evS_par, q_evS_asg, q_evS_put, q_evS_app, q_evS_exp, q_evS_ret, q_evS_retN, q_evS_ite, q_evS_pass, q_evS_brk, q_evS_cont, q_evSs_nil, q_evSs_cons, kBin', kBin, kNeg, kCmp', kCmp, kCh', kCh, kAnd, kOr, kNot, kIte, kTup, kLst, kIdx', kIdx, kIxv, kSlc'', kSlc', kSlc, kC2, kC1, kCall, kB1, kB2', kB2, kIsi, kOpt, kTr, kEs', kEs, kAs', kAs, kBor, kSeq, kR1, kR2', kR2, kSet, kP2, kPar', kPar, kAsg, kPut', kPut, kApp, kExp, kRet, kIf, Option.map_none, Option.bind_none, bnd_ok, bnd_no, sbnd_ok, sbnd_no, seq_nx, seq_rt, seq_bk, seq_ct, seq_ex, seq_no, ret_ok, opt_ok, opt_no, sopt_ok, toD_v, toD_m, toD_l, bin_add, bin_sub, bin_mul, bin_div, bin_mod, bin_pow, bin_addl, bin_addt, bin_rep, cmp_lt, cmp_le, cmp_gt, cmp_ge, cmp_eq, cmp_ne, cmp_eqs, truth_b, truth_i, idx_l, idx_t, len_l, len_t, rdM_im, rdM_ow, rdM_bo, rdM_sc, env_v, env_m, env_s, slOf_v, slOf_mt, slOf_mf, b2_max, b2_min, b1_len, b1_sum, b1_repi, b1_repl, b1_rept, seq_l, seq_t, argsOf, argOf, backG, Z.borrowed, noDup, List.contains_nil, Bool.not_false, Bool.and_self, slotIn, isM, upM, putM, appM, setG, isBo, outM, List.length_cons, List.length_nil, List.map_cons, List.map_nil, List.cons_append, List.nil_append, Option.bind_some, Option.map_some, List.getElem?_cons_zero, List.getElem?_cons_succ, List.replicate_zero, List.replicate_succ, Nat.sub_self, if_true, if_false, List.set_cons_zero, List.set_cons_succ, Nat.reduceAdd, Nat.reduceMul, Nat.reduceLT, Nat.zero_add, and_true, true_and, and_self, Nat.zero_le, PySem.sizeLine_eq, Nat.reduceLeDiff, true_or, Bool.not_true, List.length_append, List.length_map, tc0, f12_e0, hd]) (by decide) (g := [.sc ds, x, .im k, .ow (.l p), .no]) ⟨p, _, hp, rfl⟩
  exact ⟨xs, p', h4, h2, h3, q_comp (by simp only [runFn, ↓reduceIte, q_ev_int, q_ev_bl, q_ev_non, q_ev_str, q_ev_var, q_ev_glb, q_ev_bin, q_ev_neg, q_ev_cmp, q_ev_chain, q_ev_and, q_ev_or, q_ev_not, q_ev_ite, q_ev_tup, q_ev_lst, q_ev_idx, q_ev_idxv, q_ev_lenv, q_ev_slc, q_ev_call, q_ev_b1, q_ev_b2, q_ev_isi, q_evo_non, q_evo_som, q_evq_non, q_evq_som, q_evs_nil, q_evs_cons, q_evas_nil, q_evas_val, q_evas_bor, q_evr_seq, q_evr_rng1, q_evr_rng2, q_evS_set, q_evS_par, q_evS_asg, q_evS_put, q_evS_app, q_evS_exp, q_evS_ret, q_evS_retN, q_evS_ite, q_evS_pass, q_evS_brk, q_evS_cont, q_evSs_nil, q_evSs_cons, kBin', kBin, kNeg, kCmp', kCmp, kCh', kCh, kAnd, kOr, kNot, kIte, kTup, kLst, kIdx', kIdx, kIxv, kSlc'', kSlc', kSlc, kC2, kC1, kCall, kB1, kB2', kB2, kIsi, kOpt, kTr, kEs', kEs, kAs', kAs, kBor, kSeq, kR1, kR2', kR2, kSet, kP2, kPar', kPar, kAsg, kPut', kPut, kApp, kExp, kRet, kIf, Option.map_none, Option.bind_none, bnd_ok, bnd_no, sbnd_ok, sbnd_no, seq_nx, seq_rt, seq_bk, seq_ct, seq_ex, seq_no, ret_ok, opt_ok, opt_no, sopt_ok, toD_v, toD_m, toD_l, bin_add, bin_sub, bin_mul, bin_div, bin_mod, bin_pow, bin_addl, bin_addt, bin_rep, cmp_lt, cmp_le, cmp_gt, cmp_ge, cmp_eq, cmp_ne, cmp_eqs, truth_b, truth_i, idx_l, idx_t, len_l, len_t, rdM_im, rdM_ow, rdM_bo, rdM_sc, env_v, env_m, env_s, slOf_v, slOf_mt, slOf_mf, b2_max, b2_min, b1_len, b1_sum, b1_repi, b1_repl, b1_rept, seq_l, seq_t, argsOf, argOf, backG, Z.borrowed, noDup, List.contains_nil, Bool.not_false, Bool.and_self, slotIn, isM, upM, putM, appM, setG, isBo, outM, List.length_cons, List.length_nil, List.map_cons, List.map_nil, List.cons_append, List.nil_append, Option.bind_some, Option.map_some, List.getElem?_cons_zero, List.getElem?_cons_succ, List.replicate_zero, List.replicate_succ, Nat.sub_self, if_true, if_false, List.set_cons_zero, List.set_cons_succ, Nat.reduceAdd, Nat.reduceMul, Nat.reduceLT, Nat.zero_add, and_true, true_and, and_self, Nat.zero_le, PySem.sizeLine_eq, Nat.reduceLeDiff, true_or, Bool.not_true, List.length_append, List.length_map, tc0, show rngOk 6 = true from by decide]; rfl) rfl h1⟩
/-- one lap -/
theorem w12b (F n : Nat) (hF : 20000 < F) (ds : List D) (x : Sl) (hx : plainSl x = true) (k : D) (p : List D) (hp : PenOk p) : ∃ x' p', plainSl x' = true ∧ PenOk p' ∧ evS (run tab F (n + 4)) tab.cons F f12_w1 [.sc ds, x, .im k, .ow (.l p), .no] = some (.nx, [.sc ds, x', .im k, .ow (.l p'), .no]) := by
  have key : ∀ p d, NumOk d → evSs (run tab F (n + 4)) tab.cons F f12_b1 [.sc ds, .im d, .im k, .ow (.l p), .no] = some (.nx, [.sc ds, .im d, .im k, .ow (.l p), .no]) := by
    rintro p _ ⟨v, rfl, h1, h2⟩
    obtain ⟨x, x0, x1, e1, e2⟩ := both F n hF v h1 h2
    simp only [runFn, ↓reduceIte, q_ev_int, q_ev_bl, q_ev_non, q_ev_str, q_ev_var, q_ev_glb, q_ev_bin, q_ev_neg, q_ev_cmp, q_ev_chain, q_ev_and, q_ev_or, q_ev_not, q_ev_ite, q_ev_tup, q_ev_lst, q_ev_idx, q_ev_idxv, q_ev_lenv, q_ev_slc, q_ev_call, q_ev_b1, q_ev_b2, q_ev_isi, q_evo_non, q_evo_som, q_evq_non, q_evq_som, q_evs_nil, q_evs_cons, q_evas_nil, q_evas_val, q_evas_bor, q_evr_seq, q_evr_rng1, q_evr_rng2, q_evS_set, q_evS_par, q_evS_asg, q_evS_put, q_evS_app, q_evS_exp, q_evS_ret, q_evS_retN, q_evS_ite, q_evS_pass, q_evS_brk, q_evS_cont, q_evSs_nil, q_evSs_cons, kBin', kBin, kNeg, kCmp', kCmp, kCh', kCh, kAnd, kOr, kNot, kIte, kTup, kLst, kIdx', kIdx, kIxv, kSlc'', kSlc', kSlc, kC2, kC1, kCall, kB1, kB2', kB2, kIsi, kOpt, kTr, kEs', kEs, kAs', kAs, kBor, kSeq, kR1, kR2', kR2, kSet, kP2, kPar', kPar, kAsg, kPut', kPut, kApp, kExp, kRet, kIf, Option.map_none, Option.bind_none, bnd_ok, bnd_no, sbnd_ok, sbnd_no, seq_nx, seq_rt, seq_bk, seq_ct, seq_ex, seq_no, ret_ok, opt_ok, opt_no, sopt_ok, toD_v, toD_m, toD_l, bin_add, bin_sub, bin_mul, bin_div, bin_mod, bin_pow, bin_addl, bin_addt, bin_rep, cmp_lt, cmp_le, cmp_gt, cmp_ge, cmp_eq, cmp_ne, cmp_eqs, truth_b, truth_i, idx_l, idx_t, len_l, len_t, rdM_im, rdM_ow, rdM_bo, rdM_sc, env_v, env_m, env_s, slOf_v, slOf_mt, slOf_mf, b2_max, b2_min, b1_len, b1_sum, b1_repi, b1_repl, b1_rept, seq_l, seq_t, argsOf, argOf, backG, Z.borrowed, noDup, List.contains_nil, Bool.not_false, Bool.and_self, slotIn, isM, upM, putM, appM, setG, isBo, outM, List.length_cons, List.length_nil, List.map_cons, List.map_nil, List.cons_append, List.nil_append, Option.bind_some, Option.map_some, List.getElem?_cons_zero, List.getElem?_cons_succ, List.replicate_zero, List.replicate_succ, Nat.sub_self, if_true, if_false, List.set_cons_zero, List.set_cons_succ, Nat.reduceAdd, Nat.reduceMul, Nat.reduceLT, Nat.zero_add, and_true, true_and, and_self, Nat.zero_le, PySem.sizeLine_eq, Nat.reduceLeDiff, true_or, Bool.not_true, List.length_append, List.length_map, tc0, f12_b1, e1, e2, r9i F (n + 3) x x0 (by omega)]
  obtain ⟨xs, p1, hp1, hl, hN, hm⟩ := m12 F (n + 3) ds x k p hp
  obtain ⟨v, p2, hp2, v0, v1, hd⟩ := r8 F (n + 3) p1 hp1 5040 (by decide) (by decide)
  obtain ⟨g', h1, h2⟩ := forGo_inv (t := .n 1) (b := evSs (run tab F (n + 4)) tab.cons F f12_b1) (I := fun g => ∃ x, plainSl x = true ∧ g = [.sc ds, x, .im k, .ow (.l p2), .no]) (ds := xs ++ [.int (1 + v)]) (fun d hd g hg => by
    have hN : NumOk d := by
      rcases List.mem_append.mp hd with h | h
      · exact hN d h
      · rw [List.mem_singleton.mp h]
        exact ⟨_, rfl, by omega, by omega⟩
    refine ⟨[.sc ds, .im d, .im k, .ow (.l p2), .no], _, ?_, key _ d hN, _, rfl, rfl⟩
    obtain ⟨x, hx, rfl⟩ := hg
    cases x with
    | no => rfl
    | im d => rfl
    | ow c => cases hx
    | bo c => cases hx
    | sc l => cases hx) (g := [.sc ds, x, .im k, .ow (.l p2), .no]) ⟨_, hx, rfl⟩
  obtain ⟨x', hx', rfl⟩ := h2
  exact ⟨x', p2, hx', hp2, q_for_go (by simp only [runFn, ↓reduceIte, q_ev_int, q_ev_bl, q_ev_non, q_ev_str, q_ev_var, q_ev_glb, q_ev_bin, q_ev_neg, q_ev_cmp, q_ev_chain, q_ev_and, q_ev_or, q_ev_not, q_ev_ite, q_ev_tup, q_ev_lst, q_ev_idx, q_ev_idxv, q_ev_lenv, q_ev_slc, q_ev_call, q_ev_b1, q_ev_b2, q_ev_isi, q_evo_non, q_evo_som, q_evq_non, q_evq_som, q_evs_nil, q_evs_cons, q_evas_nil, q_evas_val, q_evas_bor, q_evr_seq, q_evr_rng1, q_evr_rng2, q_evS_set, q_evS_par, q_evS_asg, q_evS_put, q_evS_app, q_evS_exp, q_evS_ret, q_evS_retN, q_evS_ite, q_evS_pass, q_evS_brk, q_evS_cont, q_evSs_nil, q_evSs_cons, kBin', kBin, kNeg, kCmp', kCmp, kCh', kCh, kAnd, kOr, kNot, kIte, kTup, kLst, kIdx', kIdx, kIxv, kSlc'', kSlc', kSlc, kC2, kC1, kCall, kB1, kB2', kB2, kIsi, kOpt, kTr, kEs', kEs, kAs', kAs, kBor, kSeq, kR1, kR2', kR2, kSet, kP2, kPar', kPar, kAsg, kPut', kPut, kApp, kExp, kRet, kIf, Option.map_none, Option.bind_none, bnd_ok, bnd_no, sbnd_ok, sbnd_no, seq_nx, seq_rt, seq_bk, seq_ct, seq_ex, seq_no, ret_ok, opt_ok, opt_no, sopt_ok, toD_v, toD_m, toD_l, bin_add, bin_sub, bin_mul, bin_div, bin_mod, bin_pow, bin_addl, bin_addt, bin_rep, cmp_lt, cmp_le, cmp_gt, cmp_ge, cmp_eq, cmp_ne, cmp_eqs, truth_b, truth_i, idx_l, idx_t, len_l, len_t, rdM_im, rdM_ow, rdM_bo, rdM_sc, env_v, env_m, env_s, slOf_v, slOf_mt, slOf_mf, b2_max, b2_min, b1_len, b1_sum, b1_repi, b1_repl, b1_rept, seq_l, seq_t, argsOf, argOf, backG, Z.borrowed, noDup, List.contains_nil, Bool.not_false, Bool.and_self, slotIn, isM, upM, putM, appM, setG, isBo, outM, List.length_cons, List.length_nil, List.map_cons, List.map_nil, List.cons_append, List.nil_append, Option.bind_some, Option.map_some, List.getElem?_cons_zero, List.getElem?_cons_succ, List.replicate_zero, List.replicate_succ, Nat.sub_self, if_true, if_false, List.set_cons_zero, List.set_cons_succ, Nat.reduceAdd, Nat.reduceMul, Nat.reduceLT, Nat.zero_add, and_true, true_and, and_self, Nat.zero_le, PySem.sizeLine_eq, Nat.reduceLeDiff, true_or, Bool.not_true, List.length_append, List.length_map, tc0, hm, hd, hl]) h1⟩
/-- the laps -/
theorem w12c (F n : Nat) (hF : 20000 < F) (ns : List Int) (x : Sl) (hx : plainSl x = true) : ∃ g', evS (run tab F (n + 4)) tab.cons F f12_w2 [.sc (ns.map .int), x, .no, .no, .no] = some (.nx, .sc (ns.map .int) :: g') := by
  obtain ⟨g', h1, h2⟩ := forGo_inv (t := .n 2) (b := evSs (run tab F (n + 4)) tab.cons F f12_b2) (I := fun g => ∃ x y z, plainSl x = true ∧ plainSl y = true ∧ (z = .no ∨ ∃ p, z = .ow (.l p)) ∧ g = [.sc (ns.map .int), x, y, z, .no]) (ds := rngL 0 (if (if (3 : Int) < (ns.length : Int) then (3 : Int) else (ns.length : Int)) > 1 then (if (3 : Int) < (ns.length : Int) then (3 : Int) else (ns.length : Int)) else 1).toNat) (fun d hd g hg => by
    obtain ⟨k, _, rfl⟩ := rngL_mem hd
    obtain ⟨x, y, z, hx, hy, hz, rfl⟩ := hg
    obtain ⟨c, hc⟩ := r6 F (n + 3) ns k
    obtain ⟨p, hp, hq⟩ := r7 F (n + 3) c
    obtain ⟨x', p', hx', hp', hw⟩ := w12b F n hF (ns.map .int) x hx (.int k) p hp
    refine ⟨[.sc (ns.map .int), x, .im (.int k), z, .no], [.sc (ns.map .int), x', .im (.int k), .ow (.l p'), .no], ?_, ?_, x', .im (.int k), _, hx', rfl, .inr ⟨_, rfl⟩, rfl⟩
    · rw [Int.zero_add]
      cases y with
      | no => rfl
      | im d => rfl
      | ow c => cases hy
      | bo c => cases hy
      | sc l => cases hy
    · rcases hz with rfl | ⟨p0, rfl⟩ <;> simp only [runFn, ↓reduceIte, q_ev_int, q_ev_bl, q_ev_non, q_ev_str, q_ev_var, q_ev_glb, q_ev_bin, q_ev_neg, q_ev_cmp, q_ev_chain, q_ev_and, q_ev_or, q_ev_not, q_ev_ite, q_ev_tup, q_ev_lst, q_ev_idx, q_ev_idxv, q_ev_lenv, q_ev_slc, q_ev_call, q_ev_b1, q_ev_b2, q_ev_isi, q_evo_non, q_evo_som, q_evq_non, q_evq_som, q_evs_nil, q_evs_cons, q_evas_nil, q_evas_val, q_evas_bor, q_evr_seq, q_evr_rng1, q_evr_rng2, q_evS_set, q_evS_par, q_evS_asg, q_evS_put, q_evS_app, q_evS_exp, q_evS_ret, q_evS_retN, q_evS_ite, q_evS_pass, q_evS_brk, q_evS_cont, q_evSs_nil, q_evSs_cons, kBin', kBin, kNeg, kCmp', kCmp, kCh', kCh, kAnd, kOr, kNot, kIte, kTup, kLst, kIdx', kIdx, kIxv, kSlc'', kSlc', kSlc, kC2, kC1, kCall, kB1, kB2', kB2, kIsi, kOpt, kTr, kEs', kEs, kAs', kAs, kBor, kSeq, kR1, kR2', kR2, kSet, kP2, kPar', kPar, kAsg, kPut', kPut, kApp, kExp, kRet, kIf, Option.map_none, Option.bind_none, bnd_ok, bnd_no, sbnd_ok, sbnd_no, seq_nx, seq_rt, seq_bk, seq_ct, seq_ex, seq_no, ret_ok, opt_ok, opt_no, sopt_ok, toD_v, toD_m, toD_l, bin_add, bin_sub, bin_mul, bin_div, bin_mod, bin_pow, bin_addl, bin_addt, bin_rep, cmp_lt, cmp_le, cmp_gt, cmp_ge, cmp_eq, cmp_ne, cmp_eqs, truth_b, truth_i, idx_l, idx_t, len_l, len_t, rdM_im, rdM_ow, rdM_bo, rdM_sc, env_v, env_m, env_s, slOf_v, slOf_mt, slOf_mf, b2_max, b2_min, b1_len, b1_sum, b1_repi, b1_repl, b1_rept, seq_l, seq_t, argsOf, argOf, backG, Z.borrowed, noDup, List.contains_nil, Bool.not_false, Bool.and_self, slotIn, isM, upM, putM, appM, setG, isBo, outM, List.length_cons, List.length_nil, List.map_cons, List.map_nil, List.cons_append, List.nil_append, Option.bind_some, Option.map_some, List.getElem?_cons_zero, List.getElem?_cons_succ, List.replicate_zero, List.replicate_succ, Nat.sub_self, if_true, if_false, List.set_cons_zero, List.set_cons_succ, Nat.reduceAdd, Nat.reduceMul, Nat.reduceLT, Nat.zero_add, and_true, true_and, and_self, Nat.zero_le, PySem.sizeLine_eq, Nat.reduceLeDiff, true_or, Bool.not_true, List.length_append, List.length_map, tc0, f12_b2, hc, hq, hw]) (g := [.sc (ns.map .int), x, .no, .no, .no]) ⟨_, _, _, hx, rfl, .inl rfl, rfl⟩
  obtain ⟨x', y, z, _, _, _, rfl⟩ := h2
  refine ⟨_, q_for_go (xs := rngL 0 _) ?_ h1⟩
  have hr : rngOk (if (if (3 : Int) < (ns.length : Int) then (3 : Int) else (ns.length : Int)) > 1 then (if (3 : Int) < (ns.length : Int) then (3 : Int) else (ns.length : Int)) else 1) = true := by
    unfold rngOk
    rw [decide_eq_true (by omega), decide_eq_true (by omega)]
    rfl
  simp only [runFn, ↓reduceIte, q_ev_int, q_ev_bl, q_ev_non, q_ev_str, q_ev_var, q_ev_glb, q_ev_bin, q_ev_neg, q_ev_cmp, q_ev_chain, q_ev_and, q_ev_or, q_ev_not, q_ev_ite, q_ev_tup, q_ev_lst, q_ev_idx, q_ev_idxv, q_ev_lenv, q_ev_slc, q_ev_call, q_ev_b1, q_ev_b2, q_ev_isi, q_evo_non, q_evo_som, q_evq_non, q_evq_som, q_evs_nil, q_evs_cons, q_evas_nil, q_evas_val, q_evas_bor, q_evr_seq, q_evr_rng1, q_evr_rng2, q_evS_set, q_evS_par, q_evS_asg, q_evS_put, q_evS_app, q_evS_exp, q_evS_ret, q_evS_retN, q_evS_ite, q_evS_pass, q_evS_brk, q_evS_cont, q_evSs_nil, q_evSs_cons, kBin', kBin, kNeg, kCmp', kCmp, kCh', kCh, kAnd, kOr, kNot, kIte, kTup, kLst, kIdx', kIdx, kIxv, kSlc'', kSlc', kSlc, kC2, kC1, kCall, kB1, kB2', kB2, kIsi, kOpt, kTr, kEs', kEs, kAs', kAs, kBor, kSeq, kR1, kR2', kR2, kSet, kP2, kPar', kPar, kAsg, kPut', kPut, kApp, kExp, kRet, kIf, Option.map_none, Option.bind_none, bnd_ok, bnd_no, sbnd_ok, sbnd_no, seq_nx, seq_rt, seq_bk, seq_ct, seq_ex, seq_no, ret_ok, opt_ok, opt_no, sopt_ok, toD_v, toD_m, toD_l, bin_add, bin_sub, bin_mul, bin_div, bin_mod, bin_pow, bin_addl, bin_addt, bin_rep, cmp_lt, cmp_le, cmp_gt, cmp_ge, cmp_eq, cmp_ne, cmp_eqs, truth_b, truth_i, idx_l, idx_t, len_l, len_t, rdM_im, rdM_ow, rdM_bo, rdM_sc, env_v, env_m, env_s, slOf_v, slOf_mt, slOf_mf, b2_max, b2_min, b1_len, b1_sum, b1_repi, b1_repl, b1_rept, seq_l, seq_t, argsOf, argOf, backG, Z.borrowed, noDup, List.contains_nil, Bool.not_false, Bool.and_self, slotIn, isM, upM, putM, appM, setG, isBo, outM, List.length_cons, List.length_nil, List.map_cons, List.map_nil, List.cons_append, List.nil_append, Option.bind_some, Option.map_some, List.getElem?_cons_zero, List.getElem?_cons_succ, List.replicate_zero, List.replicate_succ, Nat.sub_self, if_true, if_false, List.set_cons_zero, List.set_cons_succ, Nat.reduceAdd, Nat.reduceMul, Nat.reduceLT, Nat.zero_add, and_true, true_and, and_self, Nat.zero_le, PySem.sizeLine_eq, Nat.reduceLeDiff, true_or, Bool.not_true, List.length_append, List.length_map, tc0, hr]
theorem law_gen (F n : Nat) (hF : 20000 < F) (ns : List Int) : run tab F (n + 5) 12 [.s (ns.map PyData.int)] = some (.ok (.v (.bool true)), [none]) := by
  obtain ⟨x, hx, h1⟩ := w12a F n hF (ns.map .int)
  obtain ⟨g', h2⟩ := w12c F n hF ns x hx
  show runFn (run tab F (n + 4)) tab.cons F f12 _ = _
  simp only [runFn, ↓reduceIte, q_ev_int, q_ev_bl, q_ev_non, q_ev_str, q_ev_var, q_ev_glb, q_ev_bin, q_ev_neg, q_ev_cmp, q_ev_chain, q_ev_and, q_ev_or, q_ev_not, q_ev_ite, q_ev_tup, q_ev_lst, q_ev_idx, q_ev_idxv, q_ev_lenv, q_ev_slc, q_ev_call, q_ev_b1, q_ev_b2, q_ev_isi, q_evo_non, q_evo_som, q_evq_non, q_evq_som, q_evs_nil, q_evs_cons, q_evas_nil, q_evas_val, q_evas_bor, q_evr_seq, q_evr_rng1, q_evr_rng2, q_evS_set, q_evS_par, q_evS_asg, q_evS_put, q_evS_app, q_evS_exp, q_evS_ret, q_evS_retN, q_evS_ite, q_evS_pass, q_evS_brk, q_evS_cont, q_evSs_nil, q_evSs_cons, kBin', kBin, kNeg, kCmp', kCmp, kCh', kCh, kAnd, kOr, kNot, kIte, kTup, kLst, kIdx', kIdx, kIxv, kSlc'', kSlc', kSlc, kC2, kC1, kCall, kB1, kB2', kB2, kIsi, kOpt, kTr, kEs', kEs, kAs', kAs, kBor, kSeq, kR1, kR2', kR2, kSet, kP2, kPar', kPar, kAsg, kPut', kPut, kApp, kExp, kRet, kIf, Option.map_none, Option.bind_none, bnd_ok, bnd_no, sbnd_ok, sbnd_no, seq_nx, seq_rt, seq_bk, seq_ct, seq_ex, seq_no, ret_ok, opt_ok, opt_no, sopt_ok, toD_v, toD_m, toD_l, bin_add, bin_sub, bin_mul, bin_div, bin_mod, bin_pow, bin_addl, bin_addt, bin_rep, cmp_lt, cmp_le, cmp_gt, cmp_ge, cmp_eq, cmp_ne, cmp_eqs, truth_b, truth_i, idx_l, idx_t, len_l, len_t, rdM_im, rdM_ow, rdM_bo, rdM_sc, env_v, env_m, env_s, slOf_v, slOf_mt, slOf_mf, b2_max, b2_min, b1_len, b1_sum, b1_repi, b1_repl, b1_rept, seq_l, seq_t, argsOf, argOf, backG, Z.borrowed, noDup, List.contains_nil, Bool.not_false, Bool.and_self, slotIn, isM, upM, putM, appM, setG, isBo, outM, List.length_cons, List.length_nil, List.map_cons, List.map_nil, List.cons_append, List.nil_append, Option.bind_some, Option.map_some, List.getElem?_cons_zero, List.getElem?_cons_succ, List.replicate_zero, List.replicate_succ, Nat.sub_self, if_true, if_false, List.set_cons_zero, List.set_cons_succ, Nat.reduceAdd, Nat.reduceMul, Nat.reduceLT, Nat.zero_add, and_true, true_and, and_self, Nat.zero_le, PySem.sizeLine_eq, Nat.reduceLeDiff, true_or, Bool.not_true, List.length_append, List.length_map, tc0, f12, h1, h2]
theorem law_true (ns : List Int) (h : ns.length ≤ 63) : run tab 1000000 10 12 [.s (ns.map PyData.int)] = some (.ok (.v (.bool true)), [none]) :=
  law_gen 1000000 5 (by decide) ns
end Law

open PySem PySem.W PyProof.Rows
set_option maxRecDepth 100000 in
set_option maxHeartbeats 0 in
theorem PySem.Challenge.cw_onceapiece_k60_least_turns_told_holds : PySem.Challenge.rw_onceapiece_k60_least_turns_told.Holds := by
  w_on; o_law; k_head; (case hw => w_witness2)
  k_fill
  refine Z.walkG (l := PySem.Challenge.rw_onceapiece_k60_least_turns_told) (n := 63) (k := 10) (x := "_law_script") (sp := fun K => Z.spF K (fun _ => none) 1 (Z.run Law.tab 1000000 10 12)) rfl (by decide) rfl ⟨rfl, by decide, by decide⟩ (fun w h Y => PySem.W.kIn_of Y) ?F (fun K H a ns hl hO hS => Z.sp_law hS (Law.law_true ns hl))
  case F =>
    intro w mg fa h KX G hmg
    refine' Law.all_mk KX G hmg ?a0 ?l0 ?c0 ?k0 ?a1 ?l1 ?c1 ?k1 ?a2 ?l2 ?c2 ?k2 ?a3 ?l3 ?c3 ?k3 ?a4 ?l4 ?c4 ?k4 ?a5 ?l5 ?c5 ?k5 ?a6 ?l6 ?c6 ?k6 ?a7 ?l7 ?c7 ?k7 ?a8 ?l8 ?c8 ?k8 ?a9 ?l9 ?c9 ?k9 ?a10 ?l10 ?c10 ?k10 ?a11 ?l11 ?c11 ?k11 ?a12 ?l12 ?c12 ?k12 ?gc0 ?z0 ?z1 ?z2 ?z3 ?z4 ?z5 ?z6 ?z7 ?z8 ?z9 ?z10 ?z11 ?z12 ?z13 ?z14 ?z15 ?z16 ?z17 ?z18 ?z19
    (case a0 => k_is); (case l0 => k_is); (case c0 => k_is); (case k0 => k_is); (case a1 => k_is); (case l1 => k_is); (case c1 => k_is); (case k1 => k_is); (case a2 => k_is); (case l2 => k_is); (case c2 => k_is); (case k2 => k_is); (case a3 => k_is); (case l3 => k_is); (case c3 => k_is); (case k3 => k_is); (case a4 => k_is); (case l4 => k_is); (case c4 => k_is); (case k4 => k_is); (case a5 => k_is); (case l5 => k_is); (case c5 => k_is); (case k5 => k_is); (case a6 => k_is); (case l6 => k_is); (case c6 => k_is); (case k6 => k_is); (case a7 => k_is); (case l7 => k_is); (case c7 => k_is); (case k7 => k_is); (case a8 => k_is); (case l8 => k_is); (case c8 => k_is); (case k8 => k_is); (case a9 => k_is); (case l9 => k_is); (case c9 => k_is); (case k9 => k_is); (case a10 => k_is); (case l10 => k_is); (case c10 => k_is); (case k10 => k_is); (case a11 => k_is); (case l11 => k_is); (case c11 => k_is); (case k11 => k_is); (case a12 => k_is); (case l12 => k_is); (case c12 => k_is); (case k12 => k_is); (case gc0 => k_is); (case z0 => k_is); (case z1 => k_is); (case z2 => k_is); (case z3 => k_is); (case z4 => k_is); (case z5 => k_is); (case z6 => k_is); (case z7 => k_is); (case z8 => k_is); (case z9 => k_is); (case z10 => k_is); (case z11 => k_is); (case z12 => k_is); (case z13 => k_is); (case z14 => k_is); (case z15 => k_is); (case z16 => k_is); (case z17 => k_is); (case z18 => k_is); (case z19 => k_is)
