import PyProof.Rows.All
import Wide.All
import OpenK.AllK
import Wide.FinOn
import PySem.Challenge.RW_onceapiece_k09_holders_and_rows
import HandS.Iter
import HandS.Zip
import KE.GoesMore
import HandS.ForMost
import HandS.ForExc
import HandS.IsInst
import HandS.Deep
import HandS.TupAny
import HandS.TupMul
import HandS.SortInts
import HandS.SortRule
import HandS.Wide
import HandS.Style
import HandS.RaiseMore
import HandS.Flow
import HandS.Star
import HandS.TupSets
import HandS.Lambda
import HandS.EndTab
import HandS.ExcInit
import HandS.ExcIs
import HandS.ExcField
import HandS.HotCalls
import HandS.SortOrd
import HandS.SetFor
import PyProof.LongRange
import KE.KExcSuper
import HandS.ExcSuper
import KE.KExcIs
import HandS.HeadWalk
set_option Elab.async false
set_option linter.all false
set_option maxRecDepth 100000
/-! ZE: enumerate(x) where x is a tuple. -/
namespace ZE
open PySem PySem.Spec PyProof.Rows L2
open AutoSeq1 (wpAny_loadPart')

/-- how enumerate begins over a tuple -/
theorem newT (ta : Addr) (ys : Array Value) (m : Nat) (dd : Option Addr) (ss : Array (Option Value)) :
    Meets (Builtin.«enumerate.__new__» ⟨[.type "enumerate", .ref ta], []⟩) fun _ R s => s.heap.get? ta = some { cls := .type "tuple", dict := dd, data := .seq ys m, slots := ss } ∧
      R (.ok (.ret (.ref (s.heap.push { cls := .type "tuple_iterator", data := .fields #[.ref ta, .int 0 0] }).objs.size)))
        { s with heap := (s.heap.push { cls := .type "tuple_iterator", data := .fields #[.ref ta, .int 0 0] }).push { cls := .type "enumerate", data := .fields #[.none, .bool false, .ref s.heap.objs.size, rawInt 0, .none, .none] } } :=
  .of_wp fun prog w A R s ⟨hg, h⟩ => by
    have hsub := sub_enumerate
    have hT : s.heap.IsTuple ta ys := ⟨_, hg, rfl, m, rfl⟩
    wp_walk using wpAny_loadPart' hg
    refine wpAny_stack_any fun st => ?_
    refine wpAny_pure ?_
    split
    · rename_i c _ _ _ _ _
      cases (c == Value.type "enumerate") <;> (wp_walk using wpAny_loadPart' hg, wpAny_pyIter_tuple hT; exact ⟨_, rfl, h⟩)
    · wp_walk using wpAny_loadPart' hg, wpAny_pyIter_tuple hT
      exact ⟨_, rfl, h⟩
section
variable {prog : Program} {w : World} {A : Around} {E : Value → Shared → Prop} {s : Shared}
theorem call_T {ta : Addr} {ys : Array Value} {Q : Value → Shared → Prop} (hT : s.heap.IsTuple ta ys)
    (h : ∀ hp, IsEnum hp (s.heap.objs.size + 1) s.heap.objs.size 0 .none → hp.IsTupleIter s.heap.objs.size ta 0 → hp.objs.size = s.heap.objs.size + 2 →
      (∀ c o, s.heap.get? c = some o → hp.get? c = some o) → Q (.ref (s.heap.objs.size + 1)) { s with heap := hp }) :
    wpAny (model prog w) A (call (.type "enumerate") [.ref ta]) Q E s := by
  obtain ⟨⟨c, dct, dt, sl⟩, hl, hc, n, hd⟩ := hT
  cases (show c = .type "tuple" from hc)
  cases (show dt = .seq ys n from hd)
  have hz : (s.heap.push { cls := .type "tuple_iterator", data := .fields #[.ref ta, .int 0 0] }).objs.size = s.heap.objs.size + 1 := Heap.size_push ..
  have he : IsEnum ((s.heap.push { cls := .type "tuple_iterator", data := .fields #[.ref ta, .int 0 0] }).push
      { cls := .type "enumerate", data := .fields #[.none, .bool false, .ref s.heap.objs.size, rawInt 0, .none, .none] }) (s.heap.objs.size + 1) s.heap.objs.size 0 .none := by
    rw [← hz]
    exact Heap.get?_push_size _ rfl
  refine callType_new F.called_enumerate (by decide) (F.typeCall_enumerate_1 _) (F.newCall_enumerate_1 _) (fun obj => F.args_object_init_2 obj _) F.entry_enumerate_new (newT ta ys n dct sl) ⟨hl, ?_⟩
  rw [hz]
  exact ⟨⟨_, he, rfl⟩, h _ he ⟨_, Heap.get?_push_of_some _ (Heap.get?_push_size _ rfl), rfl, rfl⟩ (by rw [Heap.size_push, hz]) fun _ _ x => Heap.get?_push_of_some _ (Heap.get?_push_of_some _ x)⟩
end
/-- the tuple at ta as it stands at each turn, each item in a new pair -/
def It1 (K : PySem.W.Frag) (ta : Addr) : It :=
  ⟨fun i H => ∃ (us : List V) (u : V), SqT K H ta us ∧ us[i]? = some u,
    fun i H v H' => ∃ T u, v = .ref T ∧ H T = none ∧ H' = upd H T (.tup [.int (i : Nat), u]) ∧ ∀ us, SqT K H ta us → us[i]? = some u,
    fun i H => ∃ us : List V, SqT K H ta us ∧ us.length = i⟩
theorem turn_T {P : Program} {w : World} {K : PySem.W.Frag} {elts : List Expr} {kk : Nat} {tpos : Pos} (ta e it : Addr) :
    Turn P w K (.Tuple elts kk tpos) (It1 K ta) [e, it] e (fun i h => (∃ old, IsEnum h e it ((i : Nat) : Int) old) ∧ h.IsTupleIter it ta i ∧ e ≠ it ∧ ta ≠ it ∧ e ≠ ta) where
  mem := List.mem_cons_self
  obj := fun i h ⟨⟨old, he⟩, ⟨o, ho, hc, hd⟩, _⟩ c hc' => by
    rcases List.mem_cons.mp hc' with rfl | z
    · exact ⟨_, he, fun v q => nomatch q⟩
    · rw [List.mem_singleton.mp z]
      exact ⟨o, ho, fun v q => by rw [hd] at q; cases q⟩
  keep := fun i h h' ⟨⟨old, he⟩, hi, hne⟩ k => ⟨⟨old, k e List.mem_cons_self _ he⟩, hi.at fun o q => k it (List.mem_cons_of_mem _ List.mem_cons_self) o q, hne⟩
  item := by
    intro X hP hw hK hc i pins s σ H E I hf st hg
    subst hP hw hK
    obtain ⟨⟨old, he⟩, hit, hne, hte, hee⟩ := st
    obtain ⟨us, u, hq, hu⟩ := hg
    obtain ⟨its, rv, p, _⟩ := I.tuple hq
    obtain ⟨val, hval, rval⟩ := rv.get hu
    have hel := Heap.lt_size he
    have hil : it < s.heap.objs.size := by
      obtain ⟨_, q, _⟩ := hit
      exact Heap.lt_size q
    have hTu : s.heap.IsTuple ta its.toArray := p
    have hlt : i < its.toArray.size := by
      obtain ⟨z, _⟩ := List.getElem?_eq_some_iff.mp hval
      simpa using z
    refine wpAny_pyNext_enum_itemD (Draws.tuple (show X.A.in1.handled = none from I.ok.hd hc) it ta hte its.toArray) he ⟨hit, hTu⟩ hlt hne (by simp [hne, hee]) fun x hp tk hx ho hst hT hsz hk => ?_
    have ex : x = val := by
      have z : its[i]? = some x := by simpa using hx
      rw [hval] at z
      exact (Option.some.inj z).symm
    subst ex
    refine ⟨_, rfl, wpAny_letOwnedTupleGo_enum (s := { s with heap := hp, toks := tk + 1 }) ho fun h2 he2 sb => ?_⟩
    have hT2 : h2.get? s.heap.objs.size = some { cls := .type "tuple", data := .seq #[.int i tk, x] } := (sb.2 _ (Nat.ne_of_gt hel)).trans hT
    have new : ObjOk X.prog X.w (upd H s.heap.objs.size (.tup [.int (i : Nat), u])) h2 s.heap.objs.size (.tup [.int (i : Nat), u]) :=
      ⟨show 2 ≤ sizeLine from by decide, [.int i tk, x], .cons ⟨_, rfl⟩ (.cons rval .nil), ⟨_, hT2, rfl, _, rfl⟩⟩
    have I2 : Inv X pins σ (upd H s.heap.objs.size (.tup [.int (i : Nat), u])) { s with heap := h2, toks := tk + 1 } :=
      I.turnedNew (ch := [e, it]) (fun c o hb q => (sb.2 c (fun z => hb (z ▸ List.mem_cons_self))).trans (hk c o (fun z => hb (z ▸ List.mem_cons_self)) (fun z => hb (z ▸ List.mem_cons_of_mem _ List.mem_cons_self)) q)) hf (Nat.le_refl _) new
    refine ⟨.ref s.heap.objs.size, _, I2, rfl, ⟨_, u, rfl, I.hok.fresh (Nat.le_refl _), rfl, fun l hl => ?_⟩, ⟨⟨x, ?_⟩, hst.1.at fun o q => (sb.2 it (Ne.symm hne)).trans q, hne, hte, hee⟩, fun c hb => ?_⟩
    · rw [I.tuple_inj hl hq]
      exact hu
    · rw [show ((i + 1 : Nat) : Int) = (i : Int) + 1 from by omega]
      exact he2
    · have hb' : c < s.heap.objs.size := by
        rcases List.mem_cons.mp hb with rfl | z
        · exact hel
        · rw [List.mem_singleton.mp z]
          exact hil
      rw [upd_ne (Nat.ne_of_lt hb')]
      exact (hf c hb).1
  done := by
    intro X hP hw hK hc i pins s σ H E I hf st hg
    subst hP hw hK
    obtain ⟨⟨old, he⟩, hit, hne, hte, hee⟩ := st
    obtain ⟨us, hq, hl⟩ := hg
    obtain ⟨its, rv, p, _⟩ := I.tuple hq
    have hTu : s.heap.IsTuple ta its.toArray := p
    obtain ⟨f0, f1, f2, f3, f4, f5⟩ := hf it (List.mem_cons_of_mem _ List.mem_cons_self)
    have hlen := rv.length
    have hi : i = its.toArray.size := by
      rw [List.size_toArray]
      omega
    subst hi
    exact wpAny_pyNext_enum_endD (Draws.tuple (show X.A.in1.handled = none from I.ok.hd hc) it ta hte its.toArray) he ⟨hit, hTu⟩ fun hp eb => ⟨rfl, I.turned (t' := s.toks) (fun c o hb q => eb c o hb q) f0 f1 f3 f4 f5⟩
  self := fun A i s Q E ⟨⟨_, he⟩, _⟩ h => wpAny_pyIter_enum he h
def iEn (K : PySem.W.Frag) (td : TA) : TI := fun σ H R => td σ H fun vs H1 => ∃ a us, vs = [.ref a] ∧ ((SqL K H1 a us ∧ R (Ite K a) H1) ∨ (SqT K H1 a us ∧ R (It1 K a) H1))
theorem pi_en {X : Cx} {e : Expr} {td : TA} {p pos tpos : Pos} {elts : List Expr} {kk : Nat} (hg : Gl X "enumerate") (hm : X.mg "enumerate" = none) (ha : PA X [e] td) (hs : starEach [e] X.env = [(false, eval e X.env)]) :
    PI X (.Tuple elts kk tpos) (.Call (.Name "enumerate" p) [e] [] pos) (iEn X.K td) := ⟨fun pins s σ H R I h => by
  refine Call_ (ld_blt I hg hm boot_enumerate (PyProof.Rows.callWith_type1 (thn (ha.run pos pins s σ H _ I h) fun us s1 ⟨vs, H1, I1, r1, q1⟩ => ?_) hs rfl))
  obtain ⟨a, us, rfl, q⟩ := q1
  cases r1 with
  | cons r rr =>
    cases rr
    cases r
    have fp : ∀ c, c ∈ [s1.heap.objs.size + 1, s1.heap.objs.size] → FpOk X pins H1 c := fun c hc => by
      have hle : s1.heap.objs.size ≤ c := by
        rcases List.mem_cons.mp hc with rfl | z
        · exact Nat.le_succ _
        · rw [List.mem_singleton.mp z]
          exact Nat.le_refl _
      exact I1.fpOk hle (I1.hok.fresh hle)
    rcases q with ⟨hq, q⟩ | ⟨hq, q⟩
    · obtain ⟨its, rv, p', hz⟩ := I1.list hq
      refine call_enumerate_list p'.isList fun hp he hit hsz hk => wpAny_pyIter_enum he ?_
      exact ⟨s1.heap.objs.size + 1, [s1.heap.objs.size + 1, s1.heap.objs.size], _, _, H1, rfl, I1.kept (t' := s1.toks) hk, turn_enum a (s1.heap.objs.size + 1) s1.heap.objs.size, ⟨⟨.none, he⟩, hit, Nat.succ_ne_self _⟩, fp, q⟩
    · obtain ⟨its, rv, p', _⟩ := I1.tuple hq
      have hT : s1.heap.IsTuple a its.toArray := p'
      obtain ⟨o, ho, _⟩ := id hT
      have hal := Heap.lt_size ho
      refine call_T hT fun hp he hit hsz hk => wpAny_pyIter_enum he ?_
      exact ⟨s1.heap.objs.size + 1, [s1.heap.objs.size + 1, s1.heap.objs.size], _, _, H1, rfl, I1.kept (t' := s1.toks) hk, turn_T a (s1.heap.objs.size + 1) s1.heap.objs.size, ⟨⟨.none, he⟩, hit, Nat.succ_ne_self _, Nat.ne_of_lt hal, Ne.symm (Nat.ne_of_lt (Nat.lt_succ_of_lt hal))⟩, fp, q⟩⟩
end ZE

/-! Z0: a small machine over plain data. Nothing here speaks of the model. -/
namespace Z
open PySem PySem.Spec PyProof.Rows L2

abbrev D := PyData
/-- what an own slot may hold -/
inductive M where
  | l (ds : List D)
def M.toD : M → D
  | .l ds => .list ds
inductive Val where
  | v (d : D)
  | m (c : M)
def Val.toD : Val → D
  | .v d => d
  | .m c => c.toD
structure Exc where
  cls : Nat
  fs : List D
inductive Sl where
  | no
  | im (d : D)
  | ow (c : M)
  | bo (c : M)
  | sc (ds : List D)
  | xc (x : Exc)
abbrev Sg := List Sl
inductive Out (α : Type) where
  | ok (a : α)
  | ex (x : Exc)
abbrev R (α : Type) := Option (Out α × Sg)
def bnd {α β : Type} (r : R α) (k : α → Sg → R β) : R β :=
  match r with
  | none => none
  | some (.ok a, g) => k a g
  | some (.ex x, g) => some (.ex x, g)
def ret {α : Type} (a : α) (g : Sg) : R α := some (.ok a, g)
def opt {α : Type} (o : Option α) (g : Sg) : R α :=
  match o with
  | none => none
  | some a => ret a g

inductive Arg where
  | v (d : D)
  | m (c : M)
  | s (ds : List D)
  | x (x : Exc)
abbrev Call := Nat → List Arg → Option (Out Val × List (Option M))

inductive BOp where
  | add | sub | mul | div | mod | pow
inductive COp where
  | lt | le | gt | ge | eq | ne | isN | notN | inn | nin
inductive Ty where
  | int | bool | tuple | list | str | dict
inductive B1 where
  | len | sum | max | min | all | any | int | str | repr | tuple | list | bool | abs
  | sorted
inductive B2 where
  | max | min

/-- methods that answer and change nothing -/
inductive MO where
  | count
  | index
mutual
inductive C where
  | int (i : Int)
  | bl (b : Bool)
  | non
  | str (x : Str)
  | var (i : Nat)
  | glb (k : Nat)
  | bin (o : BOp) (a b : C)
  | neg (a : C)
  | cmp (o : COp) (a b : C)
  | chain (o p : COp) (a b c : C)
  | and (a b : C)
  | or (a b : C)
  | not (a : C)
  | ite (c a b : C)
  | tup (es : Cs)
  | lst (es : Cs)
  | idx (a b : C)
  | idxv (i : Nat) (b : C)
  | lenv (i : Nat)
  | cpv (i : Nat)
  | slc (a : C) (lo hi : Co)
  | call (f n : Nat) (as : As)
  | callF (f : Nat) (a : C) (k : Int)
  | callK (f n : Nat) (q : List Nat) (as : As)
  | lenset (a : C)
  | b1 (o : B1) (a : C)
  | b2 (o : B2) (a b : C)
  | isi (a : C) (t : Ty)
  | mt (o : MO) (a b : C)
  | frz (a : C)
  | srtset (a : C)
  | pop (i : Nat) (a : C)
  | isx (i k : Nat)
  | isV (i : Nat)
  | fld (i j : Nat)
  | said (h : Nat) (a : C)
  | comp (e : C) (t : Tg) (s : Sr) (q : Co) (own : List Nat)
  | comp2 (e : C) (t : Tg) (s : Sr) (q : Co) (t1 : Tg) (s1 : Sr) (q1 : Co) (own own1 : List Nat)
inductive Co where
  | non
  | som (a : C)
inductive Cs where
  | nil
  | cons (e : C) (es : Cs)
  | star (e : C) (es : Cs)
inductive As where
  | nil
  | val (e : C) (r : As)
  | bor (i : Nat) (r : As)
inductive Sr where
  | seq (a : C)
  | rng1 (a : C)
  | rng2 (a b : C)
  | rng3 (a b c : C)
  | zip (a b : C)
  | enu (a : C)
inductive Tg where
  | n (i : Nat)
  | t (ts : Tgs)
inductive Tgs where
  | nil
  | cons (t : Tg) (ts : Tgs)
end

mutual
inductive S where
  | set (i : Nat) (own : Bool) (e : C)
  | par (i j : Nat) (p q : Bool) (a b : C)
  | asg (t : Tg) (e : C)
  | put (i : Nat) (k e : C)
  | app (i : Nat) (e : C)
  | ext (i : Nat) (e : C)
  | exp (e : C)
  | ret (e : C)
  | retN
  | ite (c : C) (a b : Ss)
  | whl (c : C) (b : Ss)
  | for (t : Tg) (s : Sr) (b : Ss)
  | raise (k : Nat)
  | raise2 (k : Nat) (a b : C)
  | never
  | pass
  | brk
  | cont
inductive Ss where
  | nil
  | cons (s : S) (r : Ss)
  | kil (is : List Nat) (r : Ss)
  | frz (i : Nat) (r : Ss)
end

/-- a program's table -/
structure FnI where
  name : Str
  ps : List Str
  N : List Str
  body : Ss
  kws : List (List Str × List Nat) := []
  lam : Bool := false
  hot : Bool := false
/-- an exception's class: its name; whether it is made with two fields -/
structure ExI where
  name : Str
  two : Bool
structure Tab where
  fns : List FnI
  cons : List (Str × D)
  excs : List ExI
  said : Str := ""
  kind : Nat := 0

/-! ### data -/
def mulOk (i j : Int) : Bool :=
  (decide (-(2 ^ 64) < i) && decide (i < 2 ^ 64)) || (decide (-(2 ^ 64) < j) && decide (j < 2 ^ 64)) || decide (i.natAbs.log2 + j.natAbs.log2 < 1000000)
def divOk (j : Int) : Bool := decide (0 < j) && (decide (j < 2 ^ 62) || decide (j.natAbs.log2 < 9000))
def powOk (i j : Int) : Bool := decide (0 ≤ j) && decide (j ≤ 1000000) && decide (i.natAbs < 2 ^ 64)
def repOk (n : Nat) (k : Int) : Bool := decide (-(2 ^ 63) ≤ k) && decide (k < 2 ^ 63) && decide (n * k.toNat ≤ sizeLine)
def repTOk (n : Nat) (k : Int) : Bool := decide (1 ≤ n) && decide (n ≤ 1000) && decide (2 ≤ k) && decide (k ≤ 1000)
def binD : BOp → D → D → Option Val
  | .add, .int i, .int j => some (.v (.int (i + j)))
  | .add, .str x, .str y => if x.length + y.length ≤ sizeLine then some (.v (.str (x ++ y))) else none
  | .add, .list xs, .list ys => if xs.length + ys.length ≤ sizeLine then some (.m (.l (xs ++ ys))) else none
  | .add, .tuple xs, .tuple ys => if xs.length + ys.length ≤ sizeLine then some (.v (.tuple (xs ++ ys))) else none
  | .sub, .int i, .int j => some (.v (.int (i - j)))
  | .mul, .int i, .int j => if mulOk i j then some (.v (.int (i * j))) else none
  | .mul, .list xs, .int k => if repOk xs.length k then some (.m (.l (List.replicate k.toNat xs).flatten)) else none
  | .mul, .tuple xs, .int k => if repTOk xs.length k then some (.v (.tuple (List.replicate k.toNat xs).flatten)) else none
  | .div, .int i, .int j => if divOk j then some (.v (.int (i / j))) else none
  | .mod, .int i, .int j => if 0 < j then some (.v (.int (i % j))) else none
  | .pow, .int i, .int j => if powOk i j then some (.v (.int (i ^ j.toNat))) else none
  | _, _, _ => none
def isNone : D → Bool
  | .none => true
  | _ => false
def flatD : D → Bool
  | .none => true
  | .bool _ => true
  | .int _ => true
  | .str _ => true
  | _ => false
def isIn (x : D) : D → Option Bool
  | .list ds => if SeqAt.shaped x && SeqAt.shaped (.list ds) then some (ds.any fun z => PyData.eqv z x) else none
  | .tuple ds => if flatD x && ds.all flatD then some (ds.any fun z => PyData.eqv z x) else none
  | .str z => match x with
    | .str y => some (!(Builtin.Str.occurrences z y 0 z.length 1).isEmpty)
    | _ => none
  | _ => none
def intsD : List D → Option (List Int)
  | [] => some []
  | .int i :: r => (intsD r).map (i :: ·)
  | _ :: _ => none
def cmpD : COp → D → D → Option Bool
  | .lt, .int i, .int j => some (decide (i < j))
  | .le, .int i, .int j => some (decide (i ≤ j))
  | .gt, .int i, .int j => some (decide (j < i))
  | .ge, .int i, .int j => some (decide (j ≤ i))
  | .eq, .int i, .int j => some (decide (i = j))
  | .ne, .int i, .int j => some (!decide (i = j))
  | .eq, .str x, .str y => some (decide (x = y))
  | .ne, .str x, .str y => some (!decide (x = y))
  | .eq, x, y => if SeqAt.shaped x && SeqAt.shaped y then some (PyData.eqv x y) else none
  | .ne, x, y => if SeqAt.shaped x && SeqAt.shaped y then some (!PyData.eqv x y) else none
  | .isN, x, .none => some (isNone x)
  | .notN, x, .none => some (!isNone x)
  | .lt, .tuple xs, .tuple ys => (intsD xs).bind fun ns => (intsD ys).map fun ms => HT.lexLt ns ms
  | .inn, x, y => isIn x y
  | .nin, x, y => (isIn x y).map (!·)
  | _, _, _ => none
def truth : D → Option Bool
  | .none => some false
  | .bool b => some b
  | .int i => some (i != 0)
  | .str x => if x.length ≤ sizeLine then some ((x.length : Int) != 0) else none
  | .list xs => some (!xs.isEmpty)
  | .tuple xs => some (!xs.isEmpty)
  | .dict _ => none
def idxD : D → D → Option D
  | .list xs, .int i => atI xs i
  | .tuple xs, .int i => atI xs i
  | .str z, .int i => if z.length ≤ sizeLine then (atI z.cps.toList i).map fun c => .str ⟨#[c]⟩ else none
  | _, _ => none
def cutD (xs : List D) (lo hi : Option Int) : List D :=
  (xs.drop (HT.sIx xs.length 0 lo)).take (HT.sIx xs.length xs.length hi - HT.sIx xs.length 0 lo)
def slcD : D → Option Int → Option Int → Option Val
  | .list xs, lo, hi => some (.m (.l (cutD xs lo hi)))
  | .tuple xs, lo, hi => some (.v (.tuple (cutD xs lo hi)))
  | .str z, lo, hi => if z.length ≤ sizeLine then some (.v (.str (cutS z lo hi))) else none
  | _, _, _ => none
def lenD : D → Option D
  | .list xs => some (.int xs.length)
  | .tuple xs => some (.int xs.length)
  | .str z => if z.length ≤ sizeLine then some (.int z.length) else none
  | _ => none
def boolsD : List D → Option (List Bool)
  | [] => some []
  | .bool b :: r => (boolsD r).map (b :: ·)
  | _ :: _ => none
def maxL : List Int → Option Int
  | [] => none
  | x :: r => some (r.foldl max x)
def minL : List Int → Option Int
  | [] => none
  | x :: r => some (r.foldl min x)
/-- ascending, by insertion: ints -/
def insI (x : Int) : List Int → List Int
  | [] => [x]
  | y :: r => if x ≤ y then x :: y :: r else y :: insI x r
def sortI : List Int → List Int
  | [] => []
  | x :: r => insI x (sortI r)
/-- pairs of ints, ascending -/
def pairsD : List D → Option (List (Int × Int))
  | [] => some []
  | .tuple [.int i, .int j] :: r => (pairsD r).map ((i, j) :: ·)
  | _ :: _ => none
def prD (p : Int × Int) : D := .tuple [.int p.1, .int p.2]
def leP (x y : Int × Int) : Bool := decide (x.1 < y.1) || (decide (x.1 = y.1) && decide (x.2 ≤ y.2))
def insP (x : Int × Int) : List (Int × Int) → List (Int × Int)
  | [] => [x]
  | y :: r => if leP x y then x :: y :: r else y :: insP x r
def sortP : List (Int × Int) → List (Int × Int)
  | [] => []
  | x :: r => insP x (sortP r)
/-- each once -/
def ddP : List (Int × Int) → List (Int × Int)
  | [] => []
  | x :: r => if x ∈ r then ddP r else x :: ddP r
def inB (p : Int × Int) : Bool := decide (0 ≤ p.1) && decide (p.1 < 10 ^ 9) && decide (0 ≤ p.2) && decide (p.2 < 10 ^ 9)
def srtSetD : D → Option Val
  | .list xs => (pairsD xs).bind fun ps => if (decide (ps.length < 64) && ps.all inB) = true then some (.m (.l ((sortP (ddP ps)).map prD))) else none
  | .tuple xs => (pairsD xs).bind fun ps => if (decide (ps.length < 64) && ps.all inB) = true then some (.m (.l ((sortP (ddP ps)).map prD))) else none
  | _ => none
/-- each once, in the order of their first places -/
def metI (ns : List Int) : List Int := ns.foldl (fun acc x => if acc.any (· == x) then acc else acc ++ [x]) []
def lenSetD : D → Option Val
  | .list xs => (intsD xs).bind fun ns => if ns.length ≤ 4000 then some (.v (.int ((metI ns).length : Nat))) else none
  | _ => none
def showOk (d : D) : Bool := d.showable && !d.hasDict && decide (d.depth ≤ 60) && decide (d.shown.length ≤ sizeLine)
def b1D : B1 → D → Option Val
  | .len, d => (lenD d).map .v
  | .sum, .list xs => (intsD xs).map fun ns => .v (.int ns.sum)
  | .max, .list xs => ((intsD xs).bind maxL).map fun m => .v (.int m)
  | .min, .list xs => ((intsD xs).bind minL).map fun m => .v (.int m)
  | .all, .list xs => (boolsD xs).map fun bs => .v (.bool (bs.all id))
  | .any, .list xs => (boolsD xs).map fun bs => .v (.bool (bs.any id))
  | .int, .int i => some (.v (.int i))
  | .int, .bool b => some (.v (.int (if b then 1 else 0)))
  | .repr, .int i => if i.natAbs.log2 < 1920 then some (.v (.str (toString i))) else none
  | .repr, .none => some (.v (.str "None"))
  | .repr, .bool b => some (.v (.str (if b then "True" else "False")))
  | .repr, .str x => if (reprText x).length ≤ sizeLine then some (.v (.str (reprText x))) else none
  | .repr, .list xs => if showOk (.list xs) then some (.v (.str (PyData.shown (.list xs)))) else none
  | .repr, .tuple xs => if showOk (.tuple xs) then some (.v (.str (PyData.shown (.tuple xs)))) else none
  | .str, .int i => if i.natAbs.log2 < 1920 then some (.v (.str (toString i))) else none
  | .tuple, .list xs => some (.v (.tuple xs))
  | .tuple, .tuple xs => some (.v (.tuple xs))
  | .list, .list xs => some (.m (.l xs))
  | .list, .tuple xs => some (.m (.l xs))
  | .sorted, .list xs => match intsD xs with
    | some ns => some (.m (.l ((sortI ns).map .int)))
    | none => match pairsD xs with
      | some ps => some (.m (.l ((sortP ps).map prD)))
      | none => if xs.length ≤ 1 then some (.m (.l xs)) else none
  | .sorted, .tuple xs => (pairsD xs).map fun ps => .m (.l ((sortP ps).map prD))
  | _, _ => none
def b2D : B2 → D → D → Option D
  | .max, .int i, .int j => some (.int (if j > i then j else i))
  | .min, .int i, .int j => some (.int (if j < i then j else i))
  | _, _, _ => none
def isLst : D → Bool
  | .list _ => true
  | _ => false
def mtD : MO → D → D → Option D
  | .count, .list ds, d => if SeqAt.shaped (.list ds) && SeqAt.shaped d then some (.int (ds.countP fun z => PyData.eqv z d : Nat)) else none
  | .index, .list ds, d => if SeqAt.shaped (.list ds) && SeqAt.shaped d then (ds.findIdx? fun z => PyData.eqv z d).map fun j => .int (j : Nat) else none
  | _, _, _ => none
def tyD : D → Option Ty
  | .none => none
  | .bool _ => some .bool
  | .int _ => some .int
  | .str _ => some .str
  | .list _ => some .list
  | .tuple _ => some .tuple
  | .dict _ => some .dict
/-- isinstance: a bool is an int -/
def isiD (d : D) (t : Ty) : Bool :=
  match d, t with
  | .bool _, .bool => true
  | .bool _, .int => true
  | .int _, .int => true
  | .str _, .str => true
  | .list _, .list => true
  | .tuple _, .tuple => true
  | .dict _, .dict => true
  | _, _ => false

/-! ### slots -/
def rdM : Option Sl → Option D
  | some (.im d) => some d
  | some (.ow c) => some c.toD
  | some (.bo c) => some c.toD
  | some (.sc ds) => some (.list ds)
  | _ => none
/-- the slot at i stands for something -/
def slotIn (g : Sg) (i : Nat) : Bool :=
  match g[i]? with
  | some .no => false
  | none => false
  | _ => true
def isBo : Option Sl → Bool
  | some (.bo _) => true
  | _ => false
def plainSl : Sl → Bool
  | .no => true
  | .im _ => true
  | _ => false
def wipeG (g : Sg) : List Nat → Sg
  | [] => g
  | i :: r => (wipeG g r).set i .no
def frzG (g : Sg) (i : Nat) : Sg :=
  match g[i]? with
  | some (.ow c) => g.set i (.im c.toD)
  | _ => g
def restG (g0 g : Sg) : List Nat → Sg
  | [] => g
  | i :: r => (restG g0 g r).set i (g0.getD i .no)
def setG (g : Sg) (i : Nat) (x : Sl) : Option Sg := if i < g.length ∧ isBo g[i]? = false then some (g.set i x) else none
mutual
def asg : Tg → D → Sg → Option Sg
  | .n i, d, g => setG g i (.im d)
  | .t ts, .tuple ds, g => asgs ts ds g
  | .t _, _, _ => none
def asgs : Tgs → List D → Sg → Option Sg
  | .nil, [], g => some g
  | .cons t ts, d :: ds, g => (asg t d g).bind fun g => asgs ts ds g
  | _, _, _ => none
end
def slOf (own : Bool) (x : Val) : Sl :=
  match x with
  | .v d => .im d
  | .m c => if own then .ow c else .im c.toD
inductive Ar where
  | v (d : D)
  | b (i : Nat)
def argOf (g : Sg) : Ar → Option Arg
  | .v d => some (.v d)
  | .b i => match g[i]? with
    | some (.ow c) => some (.m c)
    | some (.bo c) => some (.m c)
    | some (.sc ds) => some (.s ds)
    | _ => none
def argsOf (g : Sg) : List Ar → Option (List Arg)
  | [] => some []
  | a :: r => (argOf g a).bind fun x => (argsOf g r).map (x :: ·)
/-- what a callee left of the borrowed ones -/
def backG : List Ar → List (Option M) → Sg → Option Sg
  | [], [], g => some g
  | .v _ :: r, _ :: ms, g => backG r ms g
  | .b i :: r, m :: ms, g => match g[i]?, m with
    | some (.ow _), some c => backG r ms (g.set i (.ow c))
    | some (.bo _), some c => backG r ms (g.set i (.bo c))
    | some (.sc _), none => backG r ms g
    | _, _ => none
  | _, _, _ => none
def borrowed : List Ar → List Nat
  | [] => []
  | .v _ :: r => borrowed r
  | .b i :: r => i :: borrowed r
def noDup : List Nat → Bool
  | [] => true
  | x :: r => !r.contains x && noDup r
def callR (Γ : Call) (f : Nat) (rs : List Ar) (g : Sg) : R Val :=
  if noDup (borrowed rs) then
    (argsOf g rs).bind fun xs => (Γ f xs).bind fun (o, ms) => (backG rs ms g).map fun g => (o, g)
  else none
/-- the turns of a comprehension -/
def compGo (own : List Nat) (f : D → Sg → R (Option D)) : List D → List D → Sg → R (List D)
  | acc, [], g => ret acc g
  | acc, x :: xs, g => match f x (wipeG g own) with
    | some (.ok r, g) => if acc.length < sizeLine then compGo own f (match r with | some d => acc ++ [d] | none => acc) xs g else none
    | _ => none
def compGo2 (own : List Nat) (F : List D → D → Sg → R (List D)) : List D → List D → Sg → R (List D)
  | acc, [], g => ret acc g
  | acc, x :: xs, g => match F acc x (wipeG g own) with
    | some (.ok acc, g) => compGo2 own F acc xs g
    | _ => none
def intArg (x : Val) : Option Int :=
  match x with
  | .v (.int i) => some i
  | _ => none
def rngOk (i : Int) : Bool := decide (-(2 ^ 62) ≤ i) && decide (i < 2 ^ 62)
def rngL (lo : Int) (n : Nat) : List D := (List.range n).map fun k => .int (lo + (k : Nat))
def seqD : D → Option (List D)
  | .list xs => some xs
  | .tuple xs => some xs
  | _ => none
def zipL : List D → List D → List D
  | x :: xs, y :: ys => .tuple [x, y] :: zipL xs ys
  | _, _ => []
def zipD : D → D → Option (List D)
  | .list xs, .list ys => some (zipL xs ys)
  | .tuple xs, .tuple ys => some (zipL xs ys)
  | _, _ => none
def enuL : Nat → List D → List D
  | _, [] => []
  | i, x :: xs => .tuple [.int (i : Nat), x] :: enuL (i + 1) xs
def enuD (x : D) : Option (List D) := (seqD x).map (enuL 0)

def isM (g : Sg) (i : Nat) : Bool :=
  match g[i]? with
  | some (.ow _) => true
  | some (.bo _) => true
  | _ => false
/-- a list of a slot loses one -/
def popM : M → D → Option (D × M)
  | .l ds, .int k => if (decide (-(2 ^ 63) ≤ k) && decide (k < 2 ^ 63)) = true then (ixN ds.length k).bind fun j => (ds[j]?).map fun d => (d, .l (ds.eraseIdx j)) else none
  | _, _ => none
def popG (g : Sg) (i : Nat) (x : D) : Option (D × Sg) :=
  match g[i]? with
  | some (.ow c) => (popM c x).map fun r => (r.1, g.set i (.ow r.2))
  | some (.bo c) => (popM c x).map fun r => (r.1, g.set i (.bo r.2))
  | _ => none
/-- is a caught exception of the class at k (the one at 0 is above all) -/
def isK (x : Exc) (k : Nat) : Bool := x.cls == k || k == 0
def tellR (r : Option (Out Val × List (Option M))) : Option Val :=
  match r with
  | some (.ok (.v (.str s)), _) => if s.length + 2 ≤ sizeLine then some (.v (.str (("! " : Str) ++ s))) else none
  | _ => none
def stepOk (c : Int) : Bool := decide (0 < c) && decide (c < 1073741824)
/-- how many turns a range with a step has -/
def rngN (i j c : Int) : Nat := if i < j then ((j - i - 1) / c + 1).toNat else 0
def rngC (lo c : Int) (n : Nat) : List D := (List.range n).map fun k => .int (lo + (k : Nat) * c)
/-! ### the machine -/
section
variable (Γ : Call) (cons : List (Str × D))
mutual
def ev : C → Sg → R Val
  | .int i, g => ret (.v (.int i)) g
  | .bl b, g => ret (.v (.bool b)) g
  | .non, g => ret (.v .none) g
  | .str x, g => ret (.v (.str x)) g
  | .var i, g => match g[i]? with
    | some (.im d) => ret (.v d) g
    | some (.ow c) => ret (.v c.toD) (g.set i (.im c.toD))
    | _ => none
  | .glb k, g => match cons[k]? with
    | some p => ret (.v p.2) g
    | none => none
  | .bin o a b, g => bnd (ev a g) fun x g => bnd (ev b g) fun y g => opt (binD o x.toD y.toD) g
  | .neg a, g => bnd (ev a g) fun x g => match x with
    | .v (.int i) => ret (.v (.int (-i))) g
    | _ => none
  | .cmp o a b, g => bnd (ev a g) fun x g => bnd (ev b g) fun y g => opt ((cmpD o x.toD y.toD).map fun b => .v (.bool b)) g
  | .chain o p a b c, g => bnd (ev a g) fun x g => bnd (ev b g) fun y g => match cmpD o x.toD y.toD with
    | some true => bnd (ev c g) fun z g => opt ((cmpD p y.toD z.toD).map fun b => .v (.bool b)) g
    | some false => ret (.v (.bool false)) g
    | none => none
  | .and a b, g => bnd (ev a g) fun x g => match x with
    | .v (.bool true) => ev b g
    | .v (.bool false) => ret (.v (.bool false)) g
    | _ => none
  | .or a b, g => bnd (ev a g) fun x g => match x with
    | .v (.bool true) => ret (.v (.bool true)) g
    | .v (.bool false) => ev b g
    | _ => none
  | .not a, g => bnd (ev a g) fun x g => opt ((truth x.toD).map fun b => .v (.bool (!b))) g
  | .ite c a b, g => bnd (ev c g) fun x g => match truth x.toD with
    | some true => ev a g
    | some false => ev b g
    | none => none
  | .tup es, g => bnd (evs es g) fun ds g => if ds.length ≤ sizeLine then ret (.v (.tuple ds)) g else none
  | .lst es, g => bnd (evs es g) fun ds g => if ds.length ≤ sizeLine then ret (.m (.l ds)) g else none
  | .idx a b, g => bnd (ev a g) fun x g => bnd (ev b g) fun y g => opt ((idxD x.toD y.toD).map .v) g
  | .idxv i b, g => if slotIn g i then bnd (ev b g) fun y g => match rdM g[i]? with
      | some d => opt ((idxD d y.toD).map .v) g
      | none => none
    else none
  | .lenv i, g => match rdM g[i]? with
    | some d => opt ((lenD d).map .v) g
    | none => none
  | .cpv i, g => match rdM g[i]? with
    | some (.list ds) => ret (.m (.l ds)) g
    | _ => none
  | .slc a lo hi, g => bnd (ev a g) fun x g => bnd (evo lo g) fun l g => bnd (evo hi g) fun h g => opt (slcD x.toD l h) g
  | .call f n as, g => bnd (evas as g) fun rs g => if rs.length = n then callR Γ f rs g else none
  | .callK f n q as, g => bnd (evas as g) fun rs g => if rs.length = n ∧ q.length = n then callR Γ f (q.map fun j => rs.getD j (.v .none)) g else none
  | .lenset a, g => bnd (ev a g) fun x g => opt (lenSetD x.toD) g
  | .callF f a k, g => bnd (ev a g) fun x g => match x with
    | .m c => (Γ f [.m c, .v (.int k)]).bind fun r => some (r.1, g)
    | .v _ => none
  | .b1 o a, g => bnd (ev a g) fun x g => opt (b1D o x.toD) g
  | .b2 o a b, g => bnd (ev a g) fun x g => bnd (ev b g) fun y g => opt ((b2D o x.toD y.toD).map .v) g
  | .isi a t, g => bnd (ev a g) fun x g => ret (.v (.bool (isiD x.toD t))) g
  | .mt o a b, g => bnd (ev a g) fun x g => if isLst x.toD then bnd (ev b g) fun y g => opt ((mtD o x.toD y.toD).map .v) g else none
  | .frz a, g => bnd (ev a g) fun x g => ret (.v x.toD) g
  | .srtset a, g => bnd (ev a g) fun x g => opt (srtSetD x.toD) g
  | .pop i a, g => if isM g i then bnd (ev a g) fun x g => match popG g i x.toD with
      | some r => ret (.v r.1) r.2
      | none => none
    else none
  | .isx i k, g => match g[i]? with
    | some (.xc x) => ret (.v (.bool (isK x k))) g
    | _ => none
  | .isV i, g => match g[i]? with
    | some (.xc _) => ret (.v (.bool true)) g
    | _ => none
  | .fld i j, g => match g[i]? with
    | some (.xc x) => opt ((x.fs[j]?).map .v) g
    | _ => none
  | .said h a, g => match ev a g with
    | some (.ok x, g) => opt (b1D .repr x.toD) g
    | some (.ex x, g) => opt (tellR (Γ h [.x x])) g
    | none => none
  | .comp e t s q own, g => bnd (evr s g) fun xs g =>
    if own.all fun i => plainSl (g.getD i .no) then
      match compGo own (fun d g => (asg t d g).bind fun g => bnd (evq q g) fun b g =>
          if b then bnd (ev e g) fun y g => ret (some y.toD) g else ret none g) [] xs g with
      | some (.ok ds, g') => ret (.m (.l ds)) (restG g g' own)
      | _ => none
    else none
  | .comp2 e t s q t1 s1 q1 own own1, g => bnd (evr s g) fun xs g =>
    if own.all fun i => plainSl (g.getD i .no) then
      match compGo2 own (fun acc d g => (asg t d g).bind fun g => bnd (evq q g) fun b g =>
          if b then bnd (evr s1 g) fun ys g => compGo own1 (fun d g => (asg t1 d g).bind fun g => bnd (evq q1 g) fun b g =>
            if b then bnd (ev e g) fun y g => ret (some y.toD) g else ret none g) acc ys g else ret acc g) [] xs g with
      | some (.ok ds, g') => ret (.m (.l ds)) (restG g g' own)
      | _ => none
    else none
def evo : Co → Sg → R (Option Int)
  | .non, g => ret none g
  | .som a, g => bnd (ev a g) fun x g => match x with
    | .v (.int i) => ret (some i) g
    | _ => none
def evq : Co → Sg → R Bool
  | .non, g => ret true g
  | .som a, g => bnd (ev a g) fun x g => opt (truth x.toD) g
def evs : Cs → Sg → R (List D)
  | .nil, g => ret [] g
  | .cons e es, g => bnd (ev e g) fun x g => bnd (evs es g) fun xs g => ret (x.toD :: xs) g
  | .star e es, g => bnd (ev e g) fun x g => match seqD x.toD with
    | some ds => bnd (evs es g) fun xs g => ret (ds ++ xs) g
    | none => none
def evas : As → Sg → R (List Ar)
  | .nil, g => ret [] g
  | .val e r, g => bnd (ev e g) fun x g => bnd (evas r g) fun xs g => ret (.v x.toD :: xs) g
  | .bor i r, g => if slotIn g i then bnd (evas r g) fun xs g => ret (.b i :: xs) g else none
def evr : Sr → Sg → R (List D)
  | .seq a, g => bnd (ev a g) fun x g => opt (seqD x.toD) g
  | .rng1 a, g => bnd (ev a g) fun x g => match x with
    | .v (.int j) => if rngOk j then ret (rngL 0 j.toNat) g else none
    | _ => none
  | .rng2 a b, g => bnd (ev a g) fun x g => bnd (ev b g) fun y g => match x, y with
    | .v (.int i), .v (.int j) => ret (rngL i (j - i).toNat) g
    | _, _ => none
  | .rng3 a b c, g => bnd (ev a g) fun x g => bnd (ev b g) fun y g => bnd (ev c g) fun z g => match x, y, z with
    | .v (.int i), .v (.int j), .v (.int c) => if rngOk i && rngOk j && stepOk c then ret (rngC i c (rngN i j c)) g else none
    | _, _, _ => none
  | .zip a b, g => bnd (ev a g) fun x g => bnd (ev b g) fun y g => opt (zipD x.toD y.toD) g
  | .enu a, g => bnd (ev a g) fun x g => opt (enuD x.toD) g
end

inductive Fl where
  | nx
  | bk
  | ct
  | rt (v : Val)
  | ex (x : Exc)
abbrev RS := Option (Fl × Sg)
def sbnd {α : Type} (r : R α) (k : α → Sg → RS) : RS :=
  match r with
  | none => none
  | some (.ok a, g) => k a g
  | some (.ex x, g) => some (.ex x, g)
def seq (r : RS) (k : Sg → RS) : RS :=
  match r with
  | some (.nx, g) => k g
  | r => r
def sopt (o : Option Sg) : RS := o.map fun g => (.nx, g)
def whlGo (c : Sg → R Bool) (b : Sg → RS) : Nat → Sg → RS
  | 0, _ => none
  | n + 1, g => sbnd (c g) fun t g =>
    if t then
      match b g with
      | some (.nx, g) => whlGo c b n g
      | some (.ct, g) => whlGo c b n g
      | some (.bk, g) => some (.nx, g)
      | r => r
    else some (.nx, g)
def forGo (t : Tg) (b : Sg → RS) : List D → Sg → RS
  | [], g => some (.nx, g)
  | d :: ds, g => (asg t d g).bind fun g =>
    match b g with
    | some (.nx, g) => forGo t b ds g
    | some (.ct, g) => forGo t b ds g
    | some (.bk, g) => some (.nx, g)
    | r => r
def putM : M → D → D → Option M
  | .l ds, .int k, d => (ixN ds.length k).map fun j => .l (ds.set j d)
  | _, _, _ => none
def appM : M → D → Option M
  | .l ds, d => if ds.length < sizeLine then some (.l (ds ++ [d])) else none
def extM : M → D → Option M
  | .l ds, .list es => if ds.length + es.length ≤ sizeLine then some (.l (ds ++ es)) else none
  | _, _ => none
def upM (g : Sg) (i : Nat) (f : M → Option M) : RS :=
  match g[i]? with
  | some (.ow c) => (f c).map fun c => (.nx, g.set i (.ow c))
  | some (.bo c) => (f c).map fun c => (.nx, g.set i (.bo c))
  | _ => none
variable (fuel : Nat)
mutual
def evS : S → Sg → RS
  | .set i own e, g => sbnd (ev Γ cons e g) fun x g => sopt (setG g i (slOf own x))
  | .par i j p q a b, g => sbnd (ev Γ cons a g) fun x g => sbnd (ev Γ cons b g) fun y g =>
    sopt ((setG g i (slOf p x)).bind fun g => setG g j (slOf q y))
  | .asg t e, g => sbnd (ev Γ cons e g) fun x g => sopt (asg t x.toD g)
  | .put i k e, g => sbnd (ev Γ cons e g) fun y g => if isM g i then sbnd (ev Γ cons k g) fun x g => upM g i fun c => putM c x.toD y.toD else none
  | .app i e, g => if isM g i then sbnd (ev Γ cons e g) fun y g => upM g i fun c => appM c y.toD else none
  | .ext i e, g => if isM g i then sbnd (ev Γ cons e g) fun y g => upM g i fun c => extM c y.toD else none
  | .exp e, g => sbnd (ev Γ cons e g) fun _ g => some (.nx, g)
  | .ret e, g => sbnd (ev Γ cons e g) fun x g => some (.rt x, g)
  | .retN, g => some (.rt (.v .none), g)
  | .ite c a b, g => sbnd (ev Γ cons c g) fun x g => match truth x.toD with
    | some true => evSs a g
    | some false => evSs b g
    | none => none
  | .whl c b, g => whlGo (fun g => bnd (ev Γ cons c g) fun x g => opt (truth x.toD) g) (fun g => evSs b g) fuel g
  | .for t s b, g => sbnd (evr Γ cons s g) fun xs g => forGo t (fun g => evSs b g) xs g
  | .never, _ => none
  | .raise k, g => some (.ex ⟨k, []⟩, g)
  | .raise2 k a b, g => sbnd (ev Γ cons a g) fun x g => sbnd (ev Γ cons b g) fun y g => match x, y with
    | .v (.int i), .v (.int j) => some (.ex ⟨k, [.int i, .int j]⟩, g)
    | _, _ => none
  | .pass, g => some (.nx, g)
  | .brk, g => some (.bk, g)
  | .cont, g => some (.ct, g)
def evSs : Ss → Sg → RS
  | .nil, g => some (.nx, g)
  | .cons s r, g => seq (evS s g) fun g => evSs r g
  | .kil is r, g => evSs r (wipeG g is)
  | .frz i r, g => evSs r (frzG g i)
end
end

def envOf : Arg → Sl
  | .v d => .im d
  | .m c => .bo c
  | .s ds => .sc ds
  | .x x => .xc x
/-- the borrowed ones at a def's end -/
def outM : List Arg → Sg → Option (List (Option M))
  | [], _ => some []
  | .v _ :: r, _ :: g => (outM r g).map (none :: ·)
  | .s _ :: r, _ :: g => (outM r g).map (none :: ·)
  | .x _ :: r, _ :: g => (outM r g).map (none :: ·)
  | .m _ :: r, .bo c :: g => (outM r g).map (some c :: ·)
  | _, _ => none
def isXA : Arg → Bool
  | .x _ => true
  | _ => false
def runFn (Γ : Call) (cons : List (Str × D)) (fuel : Nat) (f : FnI) (as : List Arg) : Option (Out Val × List (Option M)) :=
  if as.length = f.ps.length ∧ as.any isXA = f.hot then
    match evSs Γ cons fuel f.body (as.map envOf ++ List.replicate (f.N.length - as.length) .no) with
    | some (.nx, g) => (outM as g).map fun ms => (.ok (.v .none), ms)
    | some (.rt v, g) => (outM as g).map fun ms => (.ok v, ms)
    | some (.ex x, g) => (outM as g).map fun ms => (.ex x, ms)
    | _ => none
  else none
/-- a def called two levels down: within a lambda that another def calls -/
def deepAt : Nat := 1000
/-- the whole program, to a depth of calls -/
def run (T : Tab) (fuel : Nat) : Nat → Call
  | 0 => fun _ _ => none
  | n + 1 => fun f as => match T.fns[f]? with
    | some i => if i.lam = true ∧ n < 2 then none else runFn (run T fuel n) T.cons fuel i as
    | none => if deepAt ≤ f then
        match n with
        | m + 1 => run T fuel m (f - deepAt) as
        | 0 => none
      else none
end Z

/-! Z1: how the machine's data lie in the model: tags, slots, weakest readings. -/
namespace Z
open PySem PySem.Spec PyProof.Rows L2

inductive Tag where
  | un
  | st
  | fr
  | sl (i : Nat)
  | tb (q : Str)
  deriving DecidableEq
abbrev Gh := Addr → Tag
def Bh (G : Gh) (H : Hp) : Hp := fun a => if G a = .st then H a else none
/-- the table at a: the code objects that it tells stand still, and bear the name q -/
def TabT (G : Gh) (H : Hp) (a : Addr) (q : Str) : Prop := ∃ ps : Array Value, H a = some (.tbl ps) ∧ TriplesOk ps.toList ∧ ∀ (pos : Pos) (cv : Value), codeAmong pos ps.toList = some cv → ∃ c, cv = .ref c ∧ Bh G H c = some (LamX.CodeO c q)
def lsy (t : Tag) : Prop := t = .fr ∨ ∃ i, t = .sl i
theorem lsy.un {t : Tag} (h : lsy t) : t ≠ .un := by
  rcases h with h | ⟨i, h⟩ <;> rw [h] <;> exact fun z => nomatch z
theorem lsy.st {t : Tag} (h : lsy t) : t ≠ .st := by
  rcases h with h | ⟨i, h⟩ <;> rw [h] <;> exact fun z => nomatch z
structure Tagd (G : Gh) (H : Hp) : Prop where
  ls : ∀ a, lsy (G a) → ∃ vs, H a = some (.lst vs)
  ne : ∀ a, G a ≠ .un → H a ≠ none
  tb : ∀ a q, G a = .tb q → TabT G H a q
  ns : ∀ a ps, G a = .st → H a ≠ some (.tbl ps)
  fin : ∃ T : List (Addr × Str), ∀ a q, G a = .tb q → (a, q) ∈ T
theorem Tagd.keep {G G' : Gh} {H H' : Hp} (t : Tagd G H) (sm : Same (Bh G H) (Bh G' H')) (ne : ∀ a, G' a ≠ .un → H' a ≠ none) (tb : ∀ a q, G' a = .tb q → G a = .tb q ∧ H' a = H a) (st : ∀ a, G' a = .st → (G a = .st ∧ H' a = H a) ∨ ∃ o, H' a = some o ∧ ∀ ps, o ≠ .tbl ps) (tb' : ∀ a q, G a = .tb q → G' a = .tb q) (ls : ∀ a, lsy (G' a) → ∃ vs, H' a = some (.lst vs)) : Tagd G' H' where
  ls := ls
  ne := ne
  tb := fun a q h => by
    obtain ⟨g, e⟩ := tb a q h
    obtain ⟨ps, h1, h2, h3⟩ := t.tb a q g
    refine ⟨ps, e.trans h1, h2, fun pos cv hc => ?_⟩
    obtain ⟨c, e1, e2⟩ := h3 pos cv hc
    exact ⟨c, e1, sm c _ e2⟩
  ns := fun a ps h z => by
    rcases st a h with ⟨g, e⟩ | ⟨o, e, n⟩
    · exact t.ns a ps g (e.symm.trans z)
    · exact n ps (Option.some.inj (e.symm.trans z))
  fin := by
    obtain ⟨T, h⟩ := t.fin
    exact ⟨T, fun a q g => h a q (tb a q g).1⟩
structure Ext (G : Gh) (H : Hp) (G' : Gh) (H' : Hp) : Prop where
  st : ∀ a, G a = .st → G' a = .st ∧ H' a = H a
  fr : ∀ a, G a = .fr → G' a = .fr ∧ H' a = H a
  nf : ∀ a, G' a = .fr → G a = .fr
  tb : ∀ a q, G a = .tb q → G' a = .tb q
theorem Ext.refl (G : Gh) (H : Hp) : Ext G H G H := ⟨fun _ h => ⟨h, rfl⟩, fun _ h => ⟨h, rfl⟩, fun _ h => h, fun _ _ h => h⟩
theorem Ext.trans {G H G1 H1 G2 H2} (a : Ext G H G1 H1) (b : Ext G1 H1 G2 H2) : Ext G H G2 H2 :=
  ⟨fun x h => ⟨(b.st x (a.st x h).1).1, (b.st x (a.st x h).1).2.trans (a.st x h).2⟩,
   fun x h => ⟨(b.fr x (a.fr x h).1).1, (b.fr x (a.fr x h).1).2.trans (a.fr x h).2⟩, fun x h => a.nf x (b.nf x h), fun x q h => b.tb x q (a.tb x q h)⟩
theorem Ext.same {G H G' H'} (e : Ext G H G' H') : Same (Bh G H) (Bh G' H') := fun a o h => by
  unfold Bh at h ⊢
  by_cases q : G a = .st
  · rw [if_pos q] at h
    rw [if_pos (e.st a q).1, (e.st a q).2]
    exact h
  · rw [if_neg q] at h
    cases h
theorem Bh.same {G : Gh} {H : Hp} : Same (Bh G H) H := fun a o h => by
  unfold Bh at h
  by_cases q : G a = .st
  · rw [if_pos q] at h
    exact h
  · rw [if_neg q] at h
    cases h

/-! ### data in a heap that stands still -/
mutual
inductive Rp (K : PySem.W.Frag) (B : Hp) : V → D → Prop
  | non : Rp K B .non .none
  | bl (b : Bool) : Rp K B (.bl b) (.bool b)
  | int (i : Int) : Rp K B (.int i) (.int i)
  | str (x : Str) : Rp K B (.str x) (.str x)
  | lst {a : Addr} {xs : List V} {ds : List D} : B a = some (.lst xs) → RpAll K B xs ds → Rp K B (.ref a) (.list ds)
  | tup {a : Addr} {xs : List V} {ds : List D} : B a = some (.tup xs) → RpAll K B xs ds → Rp K B (.ref a) (.tuple ds)
inductive RpAll (K : PySem.W.Frag) (B : Hp) : List V → List D → Prop
  | nil : RpAll K B [] []
  | cons {v : V} {vs : List V} {d : D} {ds : List D} : Rp K B v d → RpAll K B vs ds → RpAll K B (v :: vs) (d :: ds)
end
theorem sqt_mono {K : PySem.W.Frag} {B B' : Hp} (e : Same B B') {a : Addr} {xs : List V} (h : SqT K B a xs) : SqT K B' a xs := by
  rcases h with (h | ⟨o, h⟩) | h
  · exact .inl (.inl (e _ _ h))
  · exact .inl (.inr ⟨o, e _ _ h⟩)
  · exact .inr h
section
variable {K : PySem.W.Frag} {B B' : Hp}
mutual
theorem Rp.mono (e : Same B B') : ∀ {v : V} {d : D}, Rp K B v d → Rp K B' v d
  | _, _, .non => .non
  | _, _, .bl b => .bl b
  | _, _, .int i => .int i
  | _, _, .str x => .str x
  | _, _, .lst h r => .lst (e _ _ h) (RpAll.mono e r)
  | _, _, .tup h r => .tup (e _ _ h) (RpAll.mono e r)
theorem RpAll.mono (e : Same B B') : ∀ {vs : List V} {ds : List D}, RpAll K B vs ds → RpAll K B' vs ds
  | _, _, .nil => .nil
  | _, _, .cons h r => .cons (Rp.mono e h) (RpAll.mono e r)
end
mutual
theorem Rp.dp : ∀ {v : V} {d : D}, Rp K B v d → Dp K B v d
  | _, _, .non => .non
  | _, _, .bl b => .bl b
  | _, _, .int i => .int i
  | _, _, .str x => .str x
  | _, _, .lst h r => .lst (SqL.of h) (RpAll.dp r)
  | _, _, .tup h r => .tup (SqT.of h) (RpAll.dp r)
theorem RpAll.dp : ∀ {vs : List V} {ds : List D}, RpAll K B vs ds → DpAll K B vs ds
  | _, _, .nil => .nil
  | _, _, .cons h r => .cons (Rp.dp h) (RpAll.dp r)
end
theorem RpAll.length : ∀ {vs : List V} {ds : List D}, RpAll K B vs ds → vs.length = ds.length
  | _, _, .nil => rfl
  | _, _, .cons _ r => congrArg (· + 1) (RpAll.length r)
theorem RpAll.get : ∀ {vs : List V} {ds : List D}, RpAll K B vs ds → ∀ {i : Nat} {d : D}, ds[i]? = some d → ∃ v, vs[i]? = some v ∧ Rp K B v d
  | _, _, .nil, i, d, h => by simp at h
  | _, _, .cons h r, 0, d, e => by
    simp at e
    subst e
    exact ⟨_, rfl, h⟩
  | _, _, .cons h r, i + 1, d, e => by
    obtain ⟨v, q, z⟩ := RpAll.get r (i := i) (d := d) (by simpa using e)
    exact ⟨v, by simpa using q, z⟩
theorem RpAll.app : ∀ {vs ws : List V} {ds es : List D}, RpAll K B vs ds → RpAll K B ws es → RpAll K B (vs ++ ws) (ds ++ es)
  | _, _, _, _, .nil, s => s
  | _, _, _, _, .cons h r, s => .cons h (RpAll.app r s)
theorem RpAll.take : ∀ {vs : List V} {ds : List D} (n : Nat), RpAll K B vs ds → RpAll K B (vs.take n) (ds.take n)
  | _, _, 0, _ => .nil
  | _, _, _ + 1, .nil => .nil
  | _, _, n + 1, .cons h r => .cons h (RpAll.take n r)
theorem RpAll.drop : ∀ {vs : List V} {ds : List D} (n : Nat), RpAll K B vs ds → RpAll K B (vs.drop n) (ds.drop n)
  | _, _, 0, r => r
  | _, _, _ + 1, .nil => .nil
  | _, _, n + 1, .cons _ r => RpAll.drop n r
theorem RpAll.set {v : V} {d : D} (h : Rp K B v d) : ∀ {vs : List V} {ds : List D} (n : Nat), RpAll K B vs ds → RpAll K B (vs.set n v) (ds.set n d)
  | _, _, _, .nil => .nil
  | _, _, 0, .cons _ r => .cons h r
  | _, _, n + 1, .cons q r => .cons q (RpAll.set h n r)
theorem RpAll.erase : ∀ {vs : List V} {ds : List D} (n : Nat), RpAll K B vs ds → RpAll K B (vs.eraseIdx n) (ds.eraseIdx n)
  | _, _, _, .nil => .nil
  | _, _, 0, .cons _ r => r
  | _, _, n + 1, .cons q r => .cons q (RpAll.erase n r)
theorem RpAll.rep {vs : List V} {ds : List D} (h : RpAll K B vs ds) : ∀ n : Nat, RpAll K B (List.replicate n vs).flatten (List.replicate n ds).flatten
  | 0 => .nil
  | n + 1 => by
    rw [List.replicate_succ, List.replicate_succ, List.flatten_cons, List.flatten_cons]
    exact h.app (RpAll.rep h n)
theorem RpAll.ints : ∀ {vs : List V} {ds : List D} {ns : List Int}, RpAll K B vs ds → intsD ds = some ns → vs = ns.map V.int
  | _, _, ns, .nil, e => by
    simp [intsD] at e
    subst e
    rfl
  | _, d :: ds, ns, .cons h r, e => by
    cases d with
    | int i =>
      cases h
      simp only [intsD, Option.map_eq_some_iff] at e
      obtain ⟨ms, q, rfl⟩ := e
      rw [RpAll.ints r q]
      rfl
    | none => simp [intsD] at e
    | bool _ => simp [intsD] at e
    | str _ => simp [intsD] at e
    | list _ => simp [intsD] at e
    | tuple _ => simp [intsD] at e
    | dict _ => simp [intsD] at e
theorem RpAll.bools : ∀ {vs : List V} {ds : List D} {ns : List Bool}, RpAll K B vs ds → boolsD ds = some ns → vs = ns.map V.bl
  | _, _, ns, .nil, e => by
    simp [boolsD] at e
    subst e
    rfl
  | _, d :: ds, ns, .cons h r, e => by
    cases d with
    | bool i =>
      cases h
      simp only [boolsD, Option.map_eq_some_iff] at e
      obtain ⟨ms, q, rfl⟩ := e
      rw [RpAll.bools r q]
      rfl
    | none => simp [boolsD] at e
    | int _ => simp [boolsD] at e
    | str _ => simp [boolsD] at e
    | list _ => simp [boolsD] at e
    | tuple _ => simp [boolsD] at e
    | dict _ => simp [boolsD] at e
theorem RpAll.of_ints : ∀ ns : List Int, RpAll K B (ns.map V.int) (ns.map PyData.int)
  | [] => .nil
  | n :: r => .cons (.int n) (RpAll.of_ints r)
end

/-! ### slots -/
def MOk (K : PySem.W.Frag) (G : Gh) (H : Hp) (i : Nat) : M → Addr → Prop
  | .l ds, a => G a = .sl i ∧ ∃ vs, H a = some (.lst vs) ∧ RpAll K (Bh G H) vs ds
/-- a new one, nobody's yet -/
def FOk (K : PySem.W.Frag) (G : Gh) (H : Hp) : M → Addr → Prop
  | .l ds, a => G a = .un ∧ ∃ vs, H a = some (.lst vs) ∧ RpAll K (Bh G H) vs ds
/-- what a proof knows throughout: the exceptions' classes; the maker's code object and its table, where lambdas are made; the tables; what is borrowed; the exception that is handled -/
structure EX where
  cl : Nat → Option Addr
  tb : List (Addr × Str)
  bt : Nat → Option Addr
  hx : Option (Addr × Option Addr × Exc)
/-- an exception's fields -/
def XdOk (B : Hp) (d : Option Addr) (x : Exc) : Prop := (x.fs = [] ∧ d = none) ∨ ∃ dd i j, x.fs = [.int i, .int j] ∧ d = some dd ∧ B dd = some (.xd [("limit", .int j), ("amount", .int i)])
theorem XdOk.mono {B B' : Hp} {d : Option Addr} {x : Exc} (e : Same B B') (h : XdOk B d x) : XdOk B' d x := by
  rcases h with h | ⟨dd, i, j, h1, h2, h3⟩
  · exact .inl h
  · exact .inr ⟨dd, i, j, h1, h2, e _ _ h3⟩
def SlOk (K : PySem.W.Frag) (β : EX) (G : Gh) (H : Hp) (i : Nat) : Sl → Option V → Prop
  | .no, _ => True
  | .im d, x => ∃ v, x = some v ∧ Rp K (Bh G H) v d
  | .ow c, x => ∃ a, x = some (.ref a) ∧ MOk K G H i c a
  | .bo c, x => ∃ a, x = some (.ref a) ∧ MOk K G H i c a ∧ β.bt i = some a
  | .sc ds, x => ∃ a vs, x = some (.ref a) ∧ SqL K (Bh G H) a vs ∧ RpAll K (Bh G H) vs ds
  | .xc e, x => ∃ a d, x = some (.ref a) ∧ β.hx = some (a, d, e) ∧ XdOk (Bh G H) d e
structure SR (K : PySem.W.Frag) (β : EX) (G : Gh) (H : Hp) (g : Sg) (σ : L2.St) : Prop where
  len : g.length = σ.length
  ok : ∀ i s, g[i]? = some s → SlOk K β G H i s (σ.getD i none)
  tag : Tagd G H
  tbs : ∀ p, p ∈ β.tb → G p.1 = .tb p.2
def ValOk (K : PySem.W.Frag) (G : Gh) (H : Hp) : Val → V → Prop
  | .v d, v => Rp K (Bh G H) v d
  | .m c, v => ∃ a, v = .ref a ∧ FOk K G H c a
/-- an exception's class stands at its place -/
structure Grow (G : Gh) (H : Hp) (G' : Gh) (H' : Hp) : Prop extends Ext G H G' H' where
  sl : ∀ a i, G a = .sl i → G' a = .sl i ∧ H' a = H a
  tag : Tagd G' H'
theorem Grow.refl {G : Gh} {H : Hp} (t : Tagd G H) : Grow G H G H := ⟨Ext.refl _ _, fun _ _ h => ⟨h, rfl⟩, t⟩
theorem Grow.trans {G H G1 H1 G2 H2} (a : Grow G H G1 H1) (b : Grow G1 H1 G2 H2) : Grow G H G2 H2 :=
  ⟨a.toExt.trans b.toExt, fun x i h => ⟨(b.sl x i (a.sl x i h).1).1, (b.sl x i (a.sl x i h).1).2.trans (a.sl x i h).2⟩, b.tag⟩
section
variable {K : PySem.W.Frag} {G G' : Gh} {H H' : Hp} {g : Sg} {σ : L2.St}
theorem MOk.keep {i : Nat} {c : M} {a : Addr} (h : MOk K G H i c a) (s : Same (Bh G H) (Bh G' H')) (e : ∀ a, G a = .sl i → G' a = .sl i ∧ H' a = H a) : MOk K G' H' i c a := by
  cases c with
  | l ds =>
    obtain ⟨t, vs, q, r⟩ := h
    exact ⟨(e a t).1, vs, (e a t).2.trans q, r.mono s⟩
theorem SlOk.keep {β : EX} {i : Nat} {s : Sl} {x : Option V} (h : SlOk K β G H i s x) (sm : Same (Bh G H) (Bh G' H')) (e : ∀ a, G a = .sl i → G' a = .sl i ∧ H' a = H a) : SlOk K β G' H' i s x := by
  cases s with
  | no => trivial
  | im d =>
    obtain ⟨v, q, r⟩ := h
    exact ⟨v, q, r.mono sm⟩
  | ow c =>
    obtain ⟨a, q, r⟩ := h
    exact ⟨a, q, r.keep sm e⟩
  | bo c =>
    obtain ⟨a, q, r, z⟩ := h
    exact ⟨a, q, r.keep sm e, z⟩
  | sc ds =>
    obtain ⟨a, vs, q, r, z⟩ := h
    exact ⟨a, vs, q, sm.seq r, z.mono sm⟩
  | xc x =>
    obtain ⟨a, d, q, r, z⟩ := h
    exact ⟨a, d, q, r, z.mono sm⟩
theorem SR.grow {β : EX} (h : SR K β G H g σ) (w : Grow G H G' H') : SR K β G' H' g σ :=
  ⟨h.len, fun i s e => (h.ok i s e).keep w.same fun a q => w.sl a i q, w.tag, fun p hp => w.tb _ _ (h.tbs p hp)⟩
theorem SR.un {β : EX} (h : SR K β G H g σ) {p : Addr} (hp : H p = none) : G p = .un := by
  cases e : G p with
  | un => rfl
  | st => exact absurd hp (h.tag.ne p (by rw [e]; exact fun z => nomatch z))
  | fr => exact absurd hp (h.tag.ne p (by rw [e]; exact fun z => nomatch z))
  | sl i => exact absurd hp (h.tag.ne p (by rw [e]; exact fun z => nomatch z))
  | tb q => exact absurd hp (h.tag.ne p (by rw [e]; exact fun z => nomatch z))
theorem Tagd.un (h : Tagd G H) {p : Addr} (hp : H p = none) : G p = .un := by
  cases e : G p with
  | un => rfl
  | st => exact absurd hp (h.ne p (by rw [e]; exact fun z => nomatch z))
  | fr => exact absurd hp (h.ne p (by rw [e]; exact fun z => nomatch z))
  | sl i => exact absurd hp (h.ne p (by rw [e]; exact fun z => nomatch z))
  | tb q => exact absurd hp (h.ne p (by rw [e]; exact fun z => nomatch z))
/-- a new object -/
theorem Grow.new (t : Tagd G H) {p : Addr} (hp : H p = none) (o : HO) : Grow G H G (upd H p o) := by
  have u := t.un hp
  have ne : ∀ a, G a ≠ .un → a ≠ p := fun a h z => h (z ▸ u)
  have e : Ext G H G (upd H p o) := ⟨fun a h => ⟨h, upd_ne (ne a (by rw [h]; exact fun z => nomatch z))⟩, fun a h => ⟨h, upd_ne (ne a (by rw [h]; exact fun z => nomatch z))⟩, fun _ h => h, fun _ _ h => h⟩
  refine ⟨e, fun a i h => ⟨h, upd_ne (ne a (by rw [h]; exact fun z => nomatch z))⟩, t.keep e.same (fun a h => ?_) (fun a q h => ⟨h, upd_ne (ne a (by rw [h]; exact fun z => nomatch z))⟩) (fun a h => .inl ⟨h, upd_ne (ne a (by rw [h]; exact fun z => nomatch z))⟩) (fun _ _ h => h) fun a h => ?_⟩
  rotate_left
  · obtain ⟨vs, q⟩ := t.ls a h
    exact ⟨vs, (upd_ne (ne a h.un)).trans q⟩
  · rw [upd_ne (ne a h)]
    exact t.ne a h
def tagAt (G : Gh) (p : Addr) (t : Tag) : Gh := fun a => if a = p then t else G a
theorem tagAt_same {G : Gh} {p : Addr} {t : Tag} : tagAt G p t p = t := if_pos rfl
theorem tagAt_ne {G : Gh} {p a : Addr} {t : Tag} (h : a ≠ p) : tagAt G p t a = G a := if_neg h
/-- nobody's object stands still from here on -/
theorem Grow.hold (t : Tagd G H) {p : Addr} (hp : G p = .un) (ho : ∃ o, H p = some o ∧ ∀ ps, o ≠ .tbl ps) : Grow G H (tagAt G p .st) H := by
  have ne : ∀ a, G a ≠ .un → a ≠ p := fun a h z => h (z ▸ hp)
  have at_ : ∀ a, G a ≠ .un → tagAt G p .st a = G a := fun a h => tagAt_ne (ne a h)
  have back : ∀ a, tagAt G p .st a ≠ .st → tagAt G p .st a = G a := fun a h => by
    by_cases e : a = p
    · rw [e, tagAt_same] at h
      exact absurd rfl h
    · exact tagAt_ne e
  have x : Ext G H (tagAt G p .st) H := by
    refine ⟨fun a h => ⟨?_, rfl⟩, fun a h => ⟨?_, rfl⟩, fun a h => ?_, fun a q h => ?_⟩
    · exact (at_ a (by rw [h]; exact fun z => nomatch z)).trans h
    · exact (at_ a (by rw [h]; exact fun z => nomatch z)).trans h
    · rw [back a (by rw [h]; exact fun z => nomatch z)] at h
      exact h
    · exact (at_ a (by rw [h]; exact fun z => nomatch z)).trans h
  refine ⟨x, fun a i h => ⟨(at_ a (by rw [h]; exact fun z => nomatch z)).trans h, rfl⟩, t.keep x.same (fun a h => ?_) (fun a q h => ?_) (fun a h => ?_) x.tb fun a h => t.ls a (by rw [back a h.st] at h; exact h)⟩
  · by_cases e : a = p
    · rw [e]
      obtain ⟨o, z, _⟩ := ho
      rw [z]
      exact fun z => nomatch z
    · rw [tagAt_ne e] at h
      exact t.ne a h
  · rw [back a (by rw [h]; exact fun z => nomatch z)] at h
    exact ⟨h, rfl⟩
  · by_cases e : a = p
    · rw [e]
      exact .inr ho
    · rw [tagAt_ne e] at h
      exact .inl ⟨h, rfl⟩
theorem FOk.rp {c : M} {a : Addr} (h : FOk K G H c a) (t : Tagd G H) : Rp K (Bh (tagAt G a .st) H) (.ref a) c.toD ∧ Grow G H (tagAt G a .st) H := by
  cases c with
  | l ds =>
    obtain ⟨u, vs, e, r⟩ := h
    have w := Grow.hold t u ⟨_, e, by intro ps z; cases z⟩
    refine ⟨.lst ?_ (r.mono w.same), w⟩
    unfold Bh
    rw [if_pos tagAt_same]
    exact e
/-- any value may be taken for its datum -/
theorem ValOk.rp {x : Val} {v : V} (h : ValOk K G H x v) (t : Tagd G H) : ∃ G', Rp K (Bh G' H) v x.toD ∧ Grow G H G' H := by
  cases x with
  | v d => exact ⟨G, h, Grow.refl t⟩
  | m c =>
    obtain ⟨a, rfl, q⟩ := h
    exact ⟨_, q.rp t⟩
end

/-! ### weakest readings -/
section
variable (X : Cx)
def WE (e : Expr) : TE := fun σ H Q => ∀ (pins : List (Addr × Obj)) (s : Shared), Inv X pins σ H s → wpAny (model X.prog X.w) X.A (eval e X.env) (EP X pins σ Q) X.xe s
def WT (e : Expr) : TT := fun σ H Q => ∀ (pins : List (Addr × Obj)) (s : Shared), Inv X pins σ H s → wpAny (model X.prog X.w) X.A (isTrue e X.env (eval e X.env)) (TP X pins σ Q) X.xe s
def WW (e : Expr) : TT := fun σ H Q => ∀ (whole : Sem Value) (pins : List (Addr × Obj)) (s : Shared), Inv X pins σ H s → wpAny (model X.prog X.w) X.A (isTrue e X.env whole) (TP X pins σ Q) X.xe s
def WA (es : List Expr) : TA := fun σ H Q => ∀ (pos : Pos) (pins : List (Addr × Obj)) (s : Shared), Inv X pins σ H s → wpAny (model X.prog X.w) X.A (spliced (backTo pos (starEach es X.env))) (AP X pins σ Q) X.xe s
def WS (st : Stmt) : TS := fun Dn σ H => ∀ (pins : List (Addr × Obj)) (s : Shared), Inv X pins σ H s → wpAny (model X.prog X.w) X.A (exec st X.env) (SP X pins Dn) X.xe s
def WSs (st : List Stmt) : TS := fun Dn σ H => ∀ (pins : List (Addr × Obj)) (s : Shared), Inv X pins σ H s → wpAny (model X.prog X.w) X.A (execs st X.env) (SP X pins Dn) X.xe s
end
section
variable {X : Cx}
theorem we_max {e : Expr} : PE X e (WE X e) := ⟨fun pins s _ _ _ I h => h pins s I⟩
theorem wt_max {e : Expr} : PT X e (WT X e) := ⟨fun pins s _ _ _ I h => h pins s I⟩
theorem ww_max {e : Expr} : PW X e (WW X e) := ⟨fun whole pins s _ _ _ I h => h whole pins s I⟩
theorem wa_max {es : List Expr} : PA X es (WA X es) := ⟨fun pos pins s _ _ _ I h => h pos pins s I⟩
theorem ws_max {st : Stmt} : PS X st (WS X st) := ⟨fun pins s _ _ _ I h => h pins s I⟩
theorem wss_max {st : List Stmt} : PSs X st (WSs X st) := ⟨fun pins s _ _ _ I h => h pins s I⟩
theorem we_of {e : Expr} {t : TE} (h : PE X e t) {σ : L2.St} {H : Hp} {Q : VK} (q : t σ H Q) : WE X e σ H Q := fun pins s I => h.run pins s σ H Q I q
theorem wt_of {e : Expr} {t : TT} (h : PT X e t) {σ : L2.St} {H : Hp} {Q : Bool → Hp → Prop} (q : t σ H Q) : WT X e σ H Q := fun pins s I => h.run pins s σ H Q I q
theorem ww_of {e : Expr} {t : TT} (h : PW X e t) {σ : L2.St} {H : Hp} {Q : Bool → Hp → Prop} (q : t σ H Q) : WW X e σ H Q := fun wh pins s I => h.run wh pins s σ H Q I q
theorem wa_of {e : List Expr} {t : TA} (h : PA X e t) {σ : L2.St} {H : Hp} {Q : List V → Hp → Prop} (q : t σ H Q) : WA X e σ H Q := fun p pins s I => h.run p pins s σ H Q I q
theorem ws_of {st : Stmt} {t : TS} (h : PS X st t) {σ : L2.St} {H : Hp} {Dn : Ends} (q : t Dn σ H) : WS X st Dn σ H := fun pins s I => h.run pins s σ H Dn I q
theorem wss_of {st : List Stmt} {t : TS} (h : PSs X st t) {σ : L2.St} {H : Hp} {Dn : Ends} (q : t Dn σ H) : WSs X st Dn σ H := fun pins s I => h.run pins s σ H Dn I q
theorem WE.imp {e : Expr} {σ : L2.St} {H : Hp} {Q Q' : VK} (h : WE X e σ H Q) (q : ∀ v H', Q v H' → Q' v H') : WE X e σ H Q' := fun pins s I =>
  thn (h pins s I) fun _ _ ⟨v, H', J, r, z⟩ => ⟨v, H', J, r, q v H' z⟩
end
end Z

/-! ZC: sorted(t) and set(t) of a tuple. -/
namespace Z
open PySem PySem.Spec PyProof.Rows L2

section
variable {prog : Program} {w : World} {A : Around} {E : Value → Shared → Prop} {s : Shared}
/-- the heap behind a walk that gathers -/
abbrev gatH (h : Heap) (vs : List Value) : Heap := (h.push (seqObj "list" #[] 0)).update h.objs.size (Obj.mapSeq (· ++ vs.toArray))
theorem gather_tup {l : Addr} {vs : List Value} {Q : List Value → Shared → Prop} (ht : s.heap.IsTuple l vs.toArray) (few : vs.length ≤ sizeLine) (q : Q vs { s with heap := gatH s.heap vs }) : wpAny (model prog w) A (collect (.ref l)) Q E s := by
  obtain ⟨ob, at_, cl, m, dat⟩ := id ht
  have top : (s.heap.push (seqObj "list" #[] 0)).get? s.heap.objs.size = some (seqObj "list" #[] 0) := Heap.get?_push_size _ rfl
  have at2 := Heap.get?_push_of_some (seqObj "list" #[] 0) at_
  unfold collect
  apply wpAny_bind
  apply wpAny_runValue
  apply codeAny_builtin entry_proto_collect'
  show wpAny _ _ (do again (.builtin "list.__iadd__" ⟨[← newList [], .ref l], []⟩)) _ _ s
  apply wpAny_bind
  refine wpAny_newList (wpAny_pure ⟨Code.quiet_builtin _ (by decide +kernel), ?_⟩)
  apply codeAny_builtin entry_list_iadd'
  show wpAny _ _ (Builtin.List.listExtendWith (.ref s.heap.objs.size) (.ref l) (.ref s.heap.objs.size)) _ _ ⟨s.heap.push (seqObj "list" #[] 0), s.gens, s.drawn, s.toks, s.os⟩
  unfold Builtin.List.listExtendWith
  apply wpAny_bind
  refine wpAny_typeOf (T := "tuple") ⟨ob, at2, cl⟩ ?_
  have tt : (Value.type "tuple" == Value.type "tuple") = true := rfl
  rw [if_pos (by rw [tt]; simp)]
  apply wpAny_bind
  refine listItems_at at2 dat ?_
  apply wpAny_bind
  refine listItems_at top rfl ?_
  rw [if_neg (by simp)]
  apply wpAny_bind
  refine listUpdate_at top rfl ?_ (Nat.zero_le _) (by show (#[] ++ vs.toArray).size ≤ sizeLine + 1; simp only [Array.size_append, List.size_toArray, List.length_nil]; omega)
  apply wpAny_pure
  show wpAny (model prog w) A (do let o ← load s.heap.objs.size; match o.data with | .seq xs _ => pure xs.toList | _ => unsupported "internal:collect") Q E { s with heap := gatH s.heap vs }
  apply wpAny_bind
  refine wpAny_load (get?_update_seq top _) ?_
  show wpAny _ _ (pure ((#[] : Array Value) ++ vs.toArray).toList) Q E _
  rw [show ((#[] : Array Value) ++ vs.toArray).toList = vs by simp]
  exact wpAny_pure q
theorem sorted_tup {l : Addr} {vs : List Value} {lt : Value → Value → Bool} {Q : Value → Shared → Prop} (O : SrtO.Swo lt) (ht : s.heap.IsTuple l vs.toArray) (few : vs.length ≤ sizeLine)
    (able : 2 ≤ vs.length → ∀ (h : Heap) (a : Addr), h.get? a = some (seqObj "list" vs.toArray 0) → (∀ b o, s.heap.get? b = some o → b ≠ a ∧ h.get? b = some o) → SrtO.SortableO prog w A.in1.in1 { s with heap := h } a vs lt)
    (q : ∀ out : List Value, SrtO.Srtd lt out → SrtO.Stb lt out vs → Q (.ref (s.heap.objs.size + 1)) { s with heap := sortedAll s.heap vs out.toArray }) :
    wpAny (model prog w) A (call (.builtin "sorted") [.ref l]) Q E s := by
  have sz : (gatH s.heap vs).objs.size = s.heap.objs.size + 1 := by rw [Heap.size_update, size_push']
  have new : ((gatH s.heap vs).push (seqObj "list" vs.toArray 0)).get? (s.heap.objs.size + 1) = some (seqObj "list" vs.toArray 0) := by rw [← sz]; exact Heap.get?_push_size _ rfl
  have old : ∀ b o, s.heap.get? b = some o → b ≠ s.heap.objs.size + 1 ∧ ((gatH s.heap vs).push (seqObj "list" vs.toArray 0)).get? b = some o := fun b o e => by
    have le := Heap.lt_size e
    exact ⟨Nat.ne_of_lt (Nat.lt_succ_of_lt le), Heap.get?_push_of_some _ ((Heap.get?_update_ne _ _ _ _ (Nat.ne_of_lt le)).trans (Heap.get?_push_of_some _ e))⟩
  apply Calls.call_function_entry kind_sorted plain_sorted entry_sorted (args_sorted1 _)
  unfold Builtin.«sorted»
  apply wpAny_bind (m := checkCount "sorted" 1 1 _)
  apply wpAny_pure
  apply wpAny_bind
  refine gather_tup ht few ?_
  apply wpAny_bind
  refine wpAny_newList ?_ few
  show wpAny _ _ _ _ _ ⟨(gatH s.heap vs).push (seqObj "list" vs.toArray 0), s.gens, s.drawn, s.toks, s.os⟩
  rw [sz]
  apply wpAny_bind
  apply wpAny_holding
  refine wpAny_call_entry slot_list_sort ⟨_, new, rfl⟩ entry_list_sort (SrtO.list_sort_ord O new few (fun h2 => able h2 _ _ new old) fun out hs hb => ?_) (args_list_sort _)
  exact ⟨_, rfl, wpAny_pure ⟨_, rfl, q out hs hb⟩⟩
theorem sorted_tup_pairs {l : Addr} {vs : List Value} {k : Value → Int × Int} {Q : Value → Shared → Prop} (ht : s.heap.IsTuple l vs.toArray) (few : vs.length ≤ sizeLine) (hp : ∀ v ∈ vs, Srt.IsPair s.heap v (k v).1 (k v).2)
    (q : ∀ (h' : Heap) (d : Addr) (out : List Value), SrtO.Srtd (fun v u => SrtO.lexB (k v) (k u)) out → SrtO.Stb (fun v u => SrtO.lexB (k v) (k u)) out vs → (∀ b o, s.heap.get? b = some o → h'.get? b = some o) → s.heap.objs.size ≤ d → (∃ n, h'.get? d = some (seqObj "list" out.toArray n)) → Q (.ref d) { s with heap := h' }) :
    wpAny (model prog w) A (call (.builtin "sorted") [.ref l]) Q E s := by
  apply sorted_tup (SrtO.swo_lex k) ht few
  · intro h2 h a ha kk
    refine SrtO.pairs_sortableO (s := { s with heap := h }) (by omega) (fun v hm => (hp v hm).keeps fun b o e _ => (kk b o e).2) fun o e c => ?_
    have e2 : some o = some (seqObj "list" vs.toArray 0) := e.symm.trans ha
    cases e2
    exact absurd (Value.type.inj c) (by decide)
  · intro out hs hb
    exact q _ _ out hs hb (fun b o e => sortedAll_old e) (Nat.le_succ _) (sortedAll_at s.heap vs out.toArray)
end
def rSortTupP (K : PySem.W.Frag) : List V → Hp → VK → Prop := fun vs H Q => ∃ (a : Addr) (xs : List V) (k : V → Int × Int), vs = [V.ref a] ∧ SqT K H a xs ∧ (∀ x ∈ xs, ∃ t, x = V.ref t ∧ H t = some (.tup [.int (k x).1, .int (k x).2])) ∧
  ∀ ys p, SrtO.Srtd (L2.ltP k) ys → SrtO.Stb (L2.ltP k) ys xs → H p = none → Q (.ref p) (upd H p (.lst ys))
theorem cr_sortTupP {X : Cx} : CallR X (.builtin "sorted") (rSortTupP X.K) := by
  intro pins s σ H vs us Q I r h
  obtain ⟨a, xs, k, rfl, hs, hx, q⟩ := h
  obtain ⟨its, rv, hl, hz⟩ := I.tuple hs
  obtain ⟨u, rfl, ru⟩ := vals1 r
  obtain rfl : u = Value.ref a := ru
  obtain ⟨e1, e2⟩ := refs_back rv fun x m => (hx x m).imp fun t z => z.1
  have pr : ∀ v ∈ its, Srt.IsPair s.heap v (k (backV v)).1 (k (backV v)).2 := by
    intro v hv
    obtain ⟨t, rfl⟩ := e2 v hv
    have hm : V.ref t ∈ xs := by
      rw [e1]
      exact List.mem_map.mpr ⟨_, hv, rfl⟩
    obtain ⟨t', e, ht⟩ := hx _ hm
    cases e
    obtain ⟨_, its2, r2, o, ho, hc, n, hd⟩ := I.hok _ _ ht
    obtain ⟨u1, u2, rfl, ⟨t1, rfl⟩, ⟨t2, rfl⟩⟩ := vals2 r2
    exact ⟨t, o, t1, t2, n, rfl, ho, hc, hd⟩
  apply sorted_tup_pairs (k := fun u => k (backV u)) (by obtain ⟨o, h1, h2, n, h3⟩ := hl; exact ⟨o, h1, h2, n, h3⟩) (by rw [← rv.length]; exact hz) pr
  intro h' d out h1 h2 kp hd hn
  obtain ⟨n, hn⟩ := hn
  have hb : SrtO.Stb (L2.ltP k) (out.map backV) xs := by
    rw [e1]
    exact SrtO.Stb.map (ltP_swo k) backV h2
  have old : (out.map backV).length ≤ sizeLine := by
    rw [hb.len]
    exact hz
  have new := I.laid (t' := s.toks) kp hd (o := .lst (out.map backV)) ⟨old, out, n, vals_back (fun u hu => e2 u (h2.perm.mem_iff.mp hu)), hn⟩
  exact ⟨.ref d, _, new, rfl, q _ d (SrtO.srtd_map h1) hb (I.hok.fresh hd)⟩
/-! ### set(t), t a tuple of tuples of ints -/
section
variable {P : Program} {w : World} {A : Around} {E : Value → Shared → Prop} {s : Shared}
/-- a set that is just made -/
abbrev eSet (w : World) : Obj := { cls := .type "set", dict := none, data := .set #[] 0 (.fresh 0 0 (!w.params.followText "set-order")) }
set_option maxHeartbeats 3200000 in
theorem set_tup_tups {l : Addr} {its : Array Value} (ks : List (Addr × List Int)) {Q : Value → Shared → Prop} (calm : A.handled = none) (ht : s.heap.IsTuple l its) (eq : its.toList = ks.map fun p => Value.ref p.1)
    (keys : ∀ p ∈ ks, IsT P w s.heap p.2 p.1) (few : ks.length < 64) (room : A.units + 3 < cLine)
    (q : ∀ (h' : Heap) (tk : Nat) L es ep t, SetTR P w h' s.heap.objs.size L es ep t → Got ks ks.length L → (∀ b o, s.heap.get? b = some o → h'.get? b = some o) → Q (.ref s.heap.objs.size) { s with heap := h', toks := tk }) :
    wpAny (model P w) A (call (.type "set") [.ref l]) Q E s := by
  have count : its.size = ks.length := by rw [← Array.length_toList, eq, List.length_map]
  obtain ⟨c, tl, hmro⟩ := F.called_set.mro
  have f1 := F.called_set.made; have f2 := F.called_set.sub
  have f3 := F.called_set.notType; have f4 := F.called_set.canCreate; have f5 := F.typeCall_set_1 (.ref l)
  have f6 := F.called_set.init.lookup; have f7 := F.called_set.init.bind (.ref s.heap.objs.size)
  have new : (s.heap.push (eSet w)).get? s.heap.objs.size = some (eSet w) := Heap.get?_push_size _ rfl
  have ty : Shared.TypeIs { s with heap := s.heap.push (eSet w) } (.ref s.heap.objs.size) "set" := ⟨_, new, rfl⟩
  apply wpAny_call
  apply codeAny_of_tree
  show wpAny _ _ (callAny (.type "set") _) _ _ _
  apply wpAny_pure
  refine ⟨Code.quiet_builtin _ (by decide +kernel), codeAny_builtin F.entry_type_call ?_⟩
  rw [Around.under_plain (weight_type_call_type "set" [.ref l] []) rfl]
  repeat (any_goals (first | assumption | wp_step))
  refine codeAny_mono (code_set_led1 (.ref l) (E := E) (Q₁ := fun ob s₁ => ob = .ref s.heap.objs.size ∧ s₁ = { s with heap := s.heap.push (eSet w) }) ⟨rfl, rfl⟩) fun r s₁ hr => ?_
  rcases r with e | fl
  · exact hr
  rcases fl with _ | _ | _ | ob
  all_goals first | exact hr.elim | skip
  obtain ⟨rfl, rfl⟩ := hr
  repeat (any_goals (first | assumption | wp_step))
  refine codeAny_mono (codeAny_call_builtin (R := wants (fun r s₂ => r = .none ∧ ∃ h' tk L es ep t, s₂ = { s with heap := h', toks := tk } ∧ SetTR P w h' s.heap.objs.size L es ep t ∧ Got ks ks.length L ∧ (∀ b o, s.heap.get? b = some o → h'.get? b = some o)) E)
    F.called_set.init.plain F.entry_set_init (check_set_init_1 ty ?_)) fun r₂ s₂ hr₂ => ?_
  · obtain ⟨⟨cls, dct, dat, sl⟩, at_, cl, m, dt⟩ := ht
    simp only at cl dt
    subst cl dt
    have at1 := Heap.get?_push_of_some (eSet w) at_
    have s1 := F.sub_tuple_set; have s2 := F.sub_tuple_frozenset
    have nd : (Value.type "tuple" == Value.type "dict") = false := by decide
    have tp1 : (s.heap.push (eSet w)).IsTuple l its := ⟨_, at1, rfl, m, rfl⟩
    unfold Builtin.«set.__init__» noKeywords Builtin.Frozenset.updateFrom
    generalize hI : pyIter = PI
    wp_walk
    subst hI
    apply wpAny_pyIter_tuple tp1
    apply wpAny_bind
    apply wpAny_runValue
    have lt := Heap.lt_size at_
    have sz := Heap.size_push s.heap (eSet w)
    have free : ∀ b, s.heap.objs.size ≤ b → s.heap.get? b = none := fun b hb => by
      rcases g : s.heap.get? b with _ | o
      · rfl
      · exact absurd (Heap.lt_size g) (Nat.not_lt.mpr hb)
    refine set_update_tups ((Walks.tuple (by simp [calm]) _ l (by rw [sz]; exact Nat.ne_of_lt (Nat.lt_succ_of_lt lt)) its).toS) s.heap.objs.size (by rw [sz]; simp only [List.mem_cons, List.mem_singleton, List.not_mem_nil, or_false, not_or]; exact ⟨Nat.ne_of_lt (Nat.lt_succ_self _), Nat.ne_of_gt lt⟩) ks count few (fun i v hv => ?_) s.heap keys (free _ (Nat.le_refl _))
      (fun b hb => free b (by rw [List.mem_singleton.mp hb, sz]; exact Nat.le_succ _)) (by first | exact room | (show A.units + 3 < cLine; exact room)) (its.size - 0) 0 _ (by omega) (Nat.zero_le _) ⟨⟨_, Heap.get?_push_size _ rfl, rfl, rfl⟩, (tp1.push _)⟩ (fun b o e => Heap.get?_push_of_some _ (Heap.get?_push_of_some _ e)) ?S0 ?SR
    · have g : its.toList[i]? = some v := by rw [Array.getElem?_toList]; exact hv
      rw [eq, List.getElem?_map] at g
      obtain ⟨p, g1, g2⟩ := Option.map_eq_some_iff.mp g
      exact ⟨p, g1, g2.symm⟩
    case S0 =>
      exact ⟨[], #[], 0, _, setTR_fresh (Heap.get?_push_of_some _ new), Got.zero ks⟩
    case SR =>
      intro s' L es ep t mv hS g kp
      obtain ⟨h', g2, d', tk', os'⟩ := s'
      obtain rfl : g2 = s.gens := mv.gens
      obtain rfl : d' = s.drawn := mv.drawn
      obtain rfl : os' = s.os := mv.os
      show wpAny _ _ _ _ _ _
      apply wpAny_pure
      show wpAny _ _ (PySem.ret Value.none) _ _ _
      rw [count] at g
      exact wpAny_pure ⟨rfl, h', tk', L, es, ep, t, rfl, hS, g, kp⟩
  · rcases r₂ with e | fl₂
    · exact hr₂
    rcases fl₂ with _ | _ | _ | r
    all_goals first | exact hr₂.elim | skip
    obtain ⟨rfl, h', tk, L, es, ep, t, rfl, hS, g, kp⟩ := hr₂
    repeat (any_goals (first | assumption | wp_step))
    exact q _ _ _ _ _ _ hS g kp
end
/-- set(xs), xs a list or a tuple of tuples of ints -/
def rSetSeqT (K : PySem.W.Frag) (P : Program) (w : World) : List V → Hp → VK → Prop := fun vs H Q => ∃ (l : Addr) (ks : List (Addr × List Int)), vs = [V.ref l] ∧ (SqL K H l (ks.map fun p => V.ref p.1) ∨ SqT K H l (ks.map fun p => V.ref p.1)) ∧ (∀ p, p ∈ ks → SqT K H p.1 (p.2.map V.int)) ∧ ks.length < 64 ∧
  ∀ a L, H a = none → (∀ p ∈ L, p ∈ ks) → (∀ p ∈ ks, p.2 ∈ L.map (·.2)) → Q (.ref a) (upd H a (SetTO P w a L))
theorem cr_setSeqT {X : Cx} (calm : X.calm = true) (room : X.A.units + 64 < cLine) : CallR X (.type "set") (rSetSeqT X.K X.prog X.w) := by
  intro pins s σ H vs us Q I r ⟨l, ks, e, hl, keys, few, q⟩
  rcases hl with hl | hl
  · exact cr_setOfT calm room pins s σ H vs us Q I r ⟨l, ks, e, hl, keys, few, q⟩
  · subst e
    rw [Vals.ref1 r]
    obtain ⟨its, rv, ⟨ob, at_, cl, n, dt⟩, _⟩ := I.tuple hl
    have none_ : H s.heap.objs.size = none := I.hok.fresh (Nat.le_refl _)
    refine set_tup_tups (P := X.prog) (w := X.w) (its := its.toArray) ks (I.ok.hd calm) ⟨ob, at_, cl, n, dt⟩ (by simpa using refs_of_vals rv) (fun p hp => I.isT (keys p hp)) few (by omega) fun h' tk L es ep t R g k => ?_
    have J := I.laid (t' := tk) k (Nat.le_refl _) (setTO_new R.t0)
    exact ⟨.ref s.heap.objs.size, _, J, rfl, q _ L none_ (fun p hp => List.mem_of_mem_take (g.sub p hp)) (fun p hp => g.all p (by rw [List.take_length]; exact hp))⟩
end Z

/-! ZG: range(a, b) with numbers of any size. -/
namespace Z
open PySem PySem.Spec PyProof.Rows L2
theorem turn_lrange {P : Program} {w : World} {K : PySem.W.Frag} {tg : Expr} (it : Addr) (lo : Int) (n : Nat) : Turn P w K tg (Itr lo n) [it] it (fun i h => IsLongIter h it (lo + (i : Nat) * 1) ((n : Int) - (i : Nat)) 1) where
  mem := by simp
  obj := fun i h st b hb => by
    have e : b = it := by simpa using hb
    subst e
    exact ⟨_, st, fun v z => by
      have z' : Data.fields _ = Data.cell v := z
      cases z'⟩
  keep := fun i h h' st k => k it (by simp) _ st
  item := by
    intro X hP hw hK hc i pins s σ H E I hf st hg
    subst hP hw hK
    obtain ⟨f0, f1, f2, f3, f4, f5⟩ := hf it (by simp)
    have W := Walks.longrange (prog := X.prog) (w := X.w) (I.ok.hd hc) it lo 1 n
    refine W.item i s _ _ hg st fun v h' tk hv st' kk => ?_
    obtain ⟨t, rfl⟩ := hv
    have I1 : Inv X pins σ H { s with heap := h', toks := tk } := I.turned (fun b o hb e => kk b o (by simpa using hb) e) f0 f1 f3 f4 f5
    refine ⟨_, rfl, go_of (s := { s with heap := h', toks := tk }) (n := "longrange_iterator") st' rfl rfl (by decide) ⟨.int (lo + i), H, I1, ⟨t, ?_⟩, ⟨rfl, rfl⟩, st', fun b hb => (hf b hb).1⟩⟩
    rw [Int.mul_one]
  done := by
    intro X hP hw hK hc i pins s σ H E I hf st hg
    subst hP hw hK
    obtain ⟨f0, f1, f2, f3, f4, f5⟩ := hf it (by simp)
    exact wpAny_pyNext_long_end (I.ok.hd hc) st (by have : n ≤ i := hg; omega) fun h' eb => ⟨rfl, I.turned (t' := s.toks) (fun b o hb e => eb b o hb e) f0 f1 f3 f4 f5⟩
  self := fun _ _ _ _ _ st h => wpAny_pyIter_longiter st h
section
variable {X : Cx} {tg : Expr}
theorem range_itW {pins : List (Addr × Obj)} {σ : L2.St} {H : Hp} {s : Shared} {R : It → Hp → Prop} {E : Value → Shared → Prop} {lo hi : Int} {t u v : Tok} {tk : Nat} (I : Inv X pins σ H s)
    (q : R (Itr lo (hi - lo).toNat) H) : wpAny (model X.prog X.w) X.A (pyIter (.ref s.heap.objs.size)) (PIE X pins σ tg R) E { s with heap := s.heap.push { cls := .type "range", data := .fields #[.int lo t, .int hi u, .int 1 v] }, toks := tk } := by
  have e1 : lo + ((0 : Nat) : Int) * 1 = lo := by simp
  have e2 : (((hi - lo).toNat : Nat) : Int) - ((0 : Nat) : Int) = Builtin.Range.rangeSize lo hi 1 := by rw [rangeSize_one]; split <;> omega
  have I1 : Inv X pins σ H { s with heap := s.heap.push { cls := .type "range", data := .fields #[.int lo t, .int hi u, .int 1 v] }, toks := tk } := I.kept fun b o e => Heap.get?_push_of_some _ e
  by_cases hsm : Builtin.Range.small lo hi 1 = true
  · refine wpAny_pyIter_range (IsRange.new ..) hsm ?_
    refine ⟨(s.heap.push { cls := .type "range", data := .fields #[.int lo t, .int hi u, .int 1 v] }).objs.size, [(s.heap.push { cls := .type "range", data := .fields #[.int lo t, .int hi u, .int 1 v] }).objs.size], _, _, H, rfl,
      I1.kept (t' := tk) fun b o e => Heap.get?_push_of_some _ e, turn_range _ lo (hi - lo).toNat, ?_, fun b hb => ?_, q⟩
    · show IsRangeIter _ _ (lo + ((0 : Nat) : Int) * 1) ((((hi - lo).toNat : Nat) : Int) - ((0 : Nat) : Int)) 1
      rw [e1, e2]
      exact Heap.get?_push_size _ rfl
    · have e : b = (s.heap.push { cls := .type "range", data := .fields #[.int lo t, .int hi u, .int 1 v] }).objs.size := by simpa using hb
      subst e
      exact I1.fpOk (Nat.le_refl _) (I1.hok.fresh (Nat.le_refl _))
  · refine wpAny_pyIter_longrange (IsRange.new ..) (by simpa using hsm) ?_
    refine ⟨(s.heap.push { cls := .type "range", data := .fields #[.int lo t, .int hi u, .int 1 v] }).objs.size, [(s.heap.push { cls := .type "range", data := .fields #[.int lo t, .int hi u, .int 1 v] }).objs.size], _, _, H, rfl,
      I1.kept (t' := tk) fun b o e => Heap.get?_push_of_some _ e, turn_lrange _ lo (hi - lo).toNat, ?_, fun b hb => ?_, q⟩
    · show IsLongIter _ _ (lo + ((0 : Nat) : Int) * 1) ((((hi - lo).toNat : Nat) : Int) - ((0 : Nat) : Int)) 1
      rw [e1, e2]
      exact Heap.get?_push_size _ rfl
    · have e : b = (s.heap.push { cls := .type "range", data := .fields #[.int lo t, .int hi u, .int 1 v] }).objs.size := by simpa using hb
      subst e
      exact I1.fpOk (Nat.le_refl _) (I1.hok.fresh (Nat.le_refl _))
def iRngW (ta : TA) : TI := fun σ H R => ta σ H fun vs H1 => ∃ i j : Int, vs = [.int i, .int j] ∧ R (Itr i (j - i).toNat) H1
theorem pi_rangeW {a b : Expr} {ta : TA} {p pos : Pos} (hg : Gl X "range") (hm : X.mg "range" = none) (ha : PA X [a, b] ta) (hs : starEach [a, b] X.env = [(false, eval a X.env), (false, eval b X.env)]) (hs2 : starEach [b] X.env = [(false, eval b X.env)]) :
    PI X tg (.Call (.Name "range" p) [a, b] [] pos) (iRngW ta) := by
  refine ⟨fun pins s σ H R I h => ?_⟩
  refine Call_ (ld_blt I hg hm boot_range (PyProof.Rows.callWith_type1 (thn (ha.run pos pins s σ H _ I h) fun us s1 ⟨vs, H1, I1, r1, q1⟩ => ?_) (by rw [hs, hs2]) (by rw [hs2]; rfl)))
  obtain ⟨i, j, e, q⟩ := q1
  subst e
  cases r1 with
  | cons r rr =>
    cases rr with
    | cons r' rr =>
      cases rr
      obtain ⟨t, rfl⟩ := r
      obtain ⟨t', rfl⟩ := r'
      exact call_range_2 (range_itW I1 q)
end
end Z

/-! Z2: operators, comparisons, subscripts, built-ins, by values. -/
namespace Z
open PySem PySem.Spec PyProof.Rows L2

def Give (K : PySem.W.Frag) (G : Gh) (H : Hp) (r : Val) (Q : VK) : Prop := ∀ v H' G', Grow G H G' H' → ValOk K G' H' r v → Q v H'
section
variable {K : PySem.W.Frag} {G : Gh} {H : Hp} {Q : VK} {vs : List V} {ds : List D}
theorem Give.at {d : D} {v : V} (h : Give K G H (.v d) Q) (t : Tagd G H) (r : Rp K (Bh G H) v d) : Q v H := h v H G (Grow.refl t) r
theorem Give.lst (h : Give K G H (.m (.l ds)) Q) (t : Tagd G H) (r : RpAll K (Bh G H) vs ds) : ∀ p, H p = none → Q (.ref p) (upd H p (.lst vs)) := fun p hp => by
  have w := Grow.new t hp (.lst vs)
  exact h _ _ G w ⟨p, rfl, t.un hp, vs, upd_same, r.mono w.same⟩
theorem new_st (t : Tagd G H) {p : Addr} (hp : H p = none) (o : HO) (no : ∀ ps, o ≠ .tbl ps := by intro ps z; cases z) : Grow G H (tagAt G p .st) (upd H p o) ∧ Bh (tagAt G p .st) (upd H p o) p = some o := by
  have w := Grow.new t hp o
  refine ⟨w.trans (Grow.hold w.tag (t.un hp) ⟨_, upd_same, no⟩), ?_⟩
  unfold Bh
  rw [if_pos tagAt_same, upd_same]
theorem Give.tup (h : Give K G H (.v (.tuple ds)) Q) (t : Tagd G H) (r : RpAll K (Bh G H) vs ds) : ∀ p, H p = none → Q (.ref p) (upd H p (.tup vs)) := fun p hp => by
  obtain ⟨w, e⟩ := new_st t hp (.tup vs)
  exact h _ _ _ w (.tup e (r.mono w.same))
theorem rp_int {B : Hp} {v : V} {i : Int} (h : Rp K B v (.int i)) : v = .int i := by cases h; rfl
theorem rp_bl {B : Hp} {v : V} {i : Bool} (h : Rp K B v (.bool i)) : v = .bl i := by cases h; rfl
theorem rp_str {B : Hp} {v : V} {i : Str} (h : Rp K B v (.str i)) : v = .str i := by cases h; rfl
theorem rp_none {B : Hp} {v : V} (h : Rp K B v .none) : v = .non := by cases h; rfl
theorem rp_lst {v : V} (h : Rp K (Bh G H) v (.list ds)) : ∃ a xs, v = .ref a ∧ H a = some (.lst xs) ∧ RpAll K (Bh G H) xs ds := by
  cases h with
  | lst e r => exact ⟨_, _, rfl, Bh.same _ _ e, r⟩
theorem rp_tup {v : V} (h : Rp K (Bh G H) v (.tuple ds)) : ∃ a xs, v = .ref a ∧ SqT K H a xs ∧ RpAll K (Bh G H) xs ds := by
  cases h with
  | tup e r => exact ⟨_, _, rfl, SqT.of (Bh.same _ _ e), r⟩
end

def opOf : BOp → Operator
  | .add => .Add
  | .sub => .Sub
  | .mul => .Mult
  | .div => .FloorDiv
  | .mod => .Mod
  | .pow => .Pow
def rBin (K : PySem.W.Frag) (o : BOp) : R2 := fun x y H Q => ∃ G d e r, Tagd G H ∧ Rp K (Bh G H) x d ∧ Rp K (Bh G H) y e ∧ binD o d e = some r ∧ Give K G H r Q
theorem mulOk_int {M : Model} {A : Around} {E : Value → Shared → Prop} {s : Shared} {Q : Value → Shared → Prop} {i j : Int} {t u : Tok} (h : mulOk i j = true) : CMul i j ∨ CMulW i j := by
  unfold mulOk at h
  simp only [Bool.or_eq_true, Bool.and_eq_true, decide_eq_true_eq] at h
  rcases h with (h | h) | h
  · exact .inl (.inl h)
  · exact .inl (.inr h)
  · exact .inr h
theorem divOk_w {i j : Int} (h : divOk j = true) : CDivW i j := by
  unfold divOk at h
  simp only [Bool.or_eq_true, Bool.and_eq_true, decide_eq_true_eq] at h
  refine ⟨h.1, ?_⟩
  rcases h.2 with q | q
  · have a : j.natAbs < 2 ^ 62 := by omega
    by_cases z : j.natAbs = 0
    · rw [z]
      decide
    · have := (Nat.log2_lt z).mpr a
      omega
  · exact q
theorem op_bin {X : Cx} (o : BOp) : OpR X (binaryOp (opOf o)) (rBin X.K o) := by
  intro pins s σ H x y v u Q I rx ry ⟨G, d, e, r, t, rd, re, hb, q⟩
  unfold binD at hb
  split at hb
  · cases hb
    exact op_add pins s σ H x y v u Q I rx ry ⟨_, _, rp_int rd, rp_int re, q.at t (.int _)⟩
  · split at hb
    · cases hb
      exact op_add_str pins s σ H x y v u Q I rx ry ⟨_, _, rp_str rd, rp_str re, by assumption, q.at t (.str _)⟩
    · cases hb
  · split at hb
    · rename_i hz
      cases hb
      obtain ⟨a, xs, rfl, ha, ra⟩ := rp_lst rd
      obtain ⟨b, ys, rfl, hb, rb⟩ := rp_lst re
      exact op_cat pins s σ H _ _ v u Q I rx ry ⟨a, b, xs, ys, rfl, rfl, ha, hb, by rw [ra.length, rb.length]; exact hz, q.lst t (ra.app rb)⟩
    · cases hb
  · split at hb
    · rename_i hz
      cases hb
      obtain ⟨a, xs, rfl, ha, ra⟩ := rp_tup rd
      obtain ⟨b, ys, rfl, hb, rb⟩ := rp_tup re
      refine op_catA pins s σ H _ _ v u Q I rx ry ⟨a, b, xs, ys, rfl, rfl, ha, hb, by rw [ra.length, rb.length]; exact hz, fun e => ?_, fun _ e => ?_, fun _ _ => q.tup t (ra.app rb)⟩
      · subst e
        cases ra
        exact q.at t re
      · subst e
        cases rb
        rw [List.append_nil] at q
        exact q.at t rd
    · cases hb
  · cases hb
    exact op_sub pins s σ H x y v u Q I rx ry ⟨_, _, rp_int rd, rp_int re, q.at t (.int _)⟩
  · split at hb
    · rename_i hm
      cases hb
      rcases mulOk_int (M := model X.prog X.w) (A := X.A) (E := X.xe) (s := s) (Q := fun _ _ => True) (t := 0) (u := 0) hm with h | h
      · exact op_mul pins s σ H x y v u Q I rx ry ⟨_, _, rp_int rd, rp_int re, h, q.at t (.int _)⟩
      · exact op_mulW pins s σ H x y v u Q I rx ry ⟨_, _, rp_int rd, rp_int re, h, q.at t (.int _)⟩
    · cases hb
  · split at hb
    · rename_i hm
      cases hb
      unfold repOk at hm
      simp only [Bool.and_eq_true, decide_eq_true_eq] at hm
      obtain ⟨a, xs, rfl, ha, ra⟩ := rp_lst rd
      exact op_rep pins s σ H _ _ v u Q I rx ry ⟨a, _, xs, rfl, rp_int re, ha, hm.1.1, hm.1.2, by rw [ra.length]; exact hm.2, q.lst t (ra.rep _)⟩
    · cases hb
  · split at hb
    · rename_i hm
      cases hb
      unfold repTOk at hm
      simp only [Bool.and_eq_true, decide_eq_true_eq] at hm
      obtain ⟨a, xs, rfl, ha, ra⟩ := rp_tup rd
      exact op_repT pins s σ H _ _ v u Q I rx ry ⟨a, _, xs, rfl, rp_int re, ha, fun e => by rw [e] at ra; cases ra; exact absurd hm.1.1.1 (by decide), hm.1.2, hm.2, by rw [ra.length]; exact hm.1.1.2, q.tup t (ra.rep _)⟩
    · cases hb
  · split at hb
    · rename_i hm
      cases hb
      exact op_fdivW pins s σ H x y v u Q I rx ry ⟨_, _, rp_int rd, rp_int re, divOk_w hm, q.at t (.int _)⟩
    · cases hb
  · split at hb
    · rename_i hm
      cases hb
      exact op_mod pins s σ H x y v u Q I rx ry ⟨_, _, rp_int rd, rp_int re, hm, q.at t (.int _)⟩
    · cases hb
  · split at hb
    · rename_i hm
      cases hb
      unfold powOk at hm
      simp only [Bool.and_eq_true, decide_eq_true_eq] at hm
      exact op_pow pins s σ H x y v u Q I rx ry ⟨_, _, rp_int rd, rp_int re, ⟨hm.1.1, hm.1.2, hm.2⟩, q.at t (.int _)⟩
    · cases hb
  · cases hb

def copOf : COp → CmpOp
  | .lt => .Lt
  | .le => .LtE
  | .gt => .Gt
  | .ge => .GtE
  | .eq => .Eq
  | .ne => .NotEq
  | .isN => .Is
  | .notN => .IsNot
  | .inn => .In
  | .nin => .NotIn
def rCmp (K : PySem.W.Frag) (o : COp) : R2 := fun x y H Q => ∃ G d e b, Tagd G H ∧ Rp K (Bh G H) x d ∧ Rp K (Bh G H) y e ∧ cmpD o d e = some b ∧ Q (.bl b) H
theorem rp_isN {K : PySem.W.Frag} {B : Hp} {v : V} {d : D} (h : Rp K B v d) : decide (v = .non) = isNone d := by
  cases h <;> rfl
theorem rp_flat {K : PySem.W.Frag} {B : Hp} {v : V} {d : D} (h : Rp K B v d) (f : flatD d = true) : flatV v = true := by
  cases h <;> first | rfl | (simp [flatD] at f)
theorem rp_eqv {K : PySem.W.Frag} {B : Hp} {v w : V} {d e : D} (h : Rp K B v d) (h2 : Rp K B w e) (f : flatD d = true) (f2 : flatD e = true) : eqV v w = PyData.eqv d e := by
  cases h <;> cases h2 <;> simp_all [flatD, eqV, PyData.eqv]
theorem rpAll_flat {K : PySem.W.Frag} {B : Hp} : ∀ {vs : List V} {ds : List D}, RpAll K B vs ds → ds.all flatD = true → vs.all flatV = true
  | _, _, .nil, _ => rfl
  | _, _, .cons h r, f => by
    rw [List.all_cons, Bool.and_eq_true] at f ⊢
    exact ⟨rp_flat h f.1, rpAll_flat r f.2⟩
theorem rpAll_in {K : PySem.W.Frag} {B : Hp} {x : V} {d : D} (hx : Rp K B x d) (fx : flatD d = true) : ∀ {vs : List V} {ds : List D}, RpAll K B vs ds → ds.all flatD = true → inV x vs = ds.any fun z => PyData.eqv z d
  | _, _, .nil, _ => rfl
  | _, _, .cons h r, f => by
    rw [List.all_cons, Bool.and_eq_true] at f
    show (eqV _ x || inV x _) = _
    rw [List.any_cons, rp_eqv h hx f.1 fx, rpAll_in hx fx r f.2]
section
variable {X : Cx}
theorem op_isIn (hu : X.A.units + 65 < cLine) (neg : Bool) : OpR X (compareOp (if neg then .NotIn else .In)) (fun x y H Q => ∃ G d e b, Tagd G H ∧ Rp X.K (Bh G H) x d ∧ Rp X.K (Bh G H) y e ∧ isIn d e = some b ∧ Q (.bl (if neg then !b else b)) H) := by
  intro pins s σ H x y v u Q I rx ry ⟨G, d, e, b, t, rd, re, hb, q⟩
  unfold isIn at hb
  split at hb
  · split at hb
    · rename_i hs
      cases hb
      rw [Bool.and_eq_true] at hs
      cases neg with
      | true => exact op_notInD hu pins s σ H x y v u Q I rx ry ⟨_, _, rd.mono Bh.same |>.dp, re.mono Bh.same |>.dp, hs.1, hs.2, q⟩
      | false => exact op_inD hu pins s σ H x y v u Q I rx ry ⟨_, _, rd.mono Bh.same |>.dp, re.mono Bh.same |>.dp, hs.1, hs.2, q⟩
    · cases hb
  · split at hb
    · rename_i hs
      cases hb
      rw [Bool.and_eq_true] at hs
      obtain ⟨a, xs, rfl, ha, ra⟩ := rp_tup re
      have f := rp_flat rd hs.1
      have fa := rpAll_flat ra hs.2
      have ei := rpAll_in rd hs.1 ra hs.2
      cases neg with
      | true => exact op_notIn_seq pins s σ H x _ v u Q I rx ry ⟨a, xs, rfl, .inr ha, f, fa, by rw [ei]; exact q⟩
      | false => exact op_in_seq pins s σ H x _ v u Q I rx ry ⟨a, xs, rfl, .inr ha, f, fa, by rw [ei]; exact q⟩
    · cases hb
  · split at hb
    · cases hb
      cases neg with
      | true => exact op_notIn_str pins s σ H x y v u Q I rx ry ⟨_, _, rp_str rd, rp_str re, q⟩
      | false => exact op_in_str pins s σ H x y v u Q I rx ry ⟨_, _, rp_str rd, rp_str re, q⟩
    · cases hb
  · cases hb
theorem op_cmp (hu : X.A.units + 65 < cLine) (o : COp) : OpR X (compareOp (copOf o)) (rCmp X.K o) := by
  intro pins s σ H x y v u Q I rx ry ⟨G, d, e, b, t, rd, re, hb, q⟩
  unfold cmpD at hb
  split at hb
  · cases hb
    exact op_lt pins s σ H x y v u Q I rx ry ⟨_, _, rp_int rd, rp_int re, q⟩
  · cases hb
    exact op_le pins s σ H x y v u Q I rx ry ⟨_, _, rp_int rd, rp_int re, q⟩
  · cases hb
    exact op_gt pins s σ H x y v u Q I rx ry ⟨_, _, rp_int rd, rp_int re, q⟩
  · cases hb
    exact op_ge pins s σ H x y v u Q I rx ry ⟨_, _, rp_int rd, rp_int re, q⟩
  · cases hb
    obtain rfl := rp_int rd
    obtain rfl := rp_int re
    refine op_eq pins s σ H _ _ v u Q I rx ry ⟨rfl, ?_⟩
    simpa only [V.int.injEq] using q
  · cases hb
    obtain rfl := rp_int rd
    obtain rfl := rp_int re
    refine op_ne pins s σ H _ _ v u Q I rx ry ⟨rfl, ?_⟩
    simpa only [V.int.injEq] using q
  · cases hb
    obtain rfl := rp_str rd
    obtain rfl := rp_str re
    refine op_eq pins s σ H _ _ v u Q I rx ry ⟨rfl, ?_⟩
    simpa only [V.str.injEq] using q
  · cases hb
    obtain rfl := rp_str rd
    obtain rfl := rp_str re
    refine op_ne pins s σ H _ _ v u Q I rx ry ⟨rfl, ?_⟩
    simpa only [V.str.injEq] using q
  · split at hb
    · rename_i hs
      cases hb
      rw [Bool.and_eq_true] at hs
      exact op_eqD (by omega) pins s σ H x y v u Q I rx ry ⟨_, _, (rd.mono Bh.same).dp, (re.mono Bh.same).dp, hs.1, hs.2, q⟩
    · cases hb
  · split at hb
    · rename_i hs
      cases hb
      rw [Bool.and_eq_true] at hs
      exact op_neD (by omega) pins s σ H x y v u Q I rx ry ⟨_, _, (rd.mono Bh.same).dp, (re.mono Bh.same).dp, hs.1, hs.2, q⟩
    · cases hb
  · cases hb
    exact op_isN pins s σ H x y v u Q I rx ry ⟨rp_none re, by rw [rp_isN rd]; exact q⟩
  · cases hb
    exact op_notN pins s σ H x y v u Q I rx ry ⟨rp_none re, by rw [rp_isN rd]; exact q⟩
  · obtain ⟨ns, hn, hb⟩ := Option.bind_eq_some_iff.mp hb
    obtain ⟨ms, hm, hb⟩ := Option.map_eq_some_iff.mp hb
    obtain ⟨a, xs, rfl, ha, ra⟩ := rp_tup rd
    obtain ⟨b2, ys, rfl, hb2, rb⟩ := rp_tup re
    rw [ra.ints hn] at ha
    rw [rb.ints hm] at hb2
    exact op_ltT (by omega) pins s σ H _ _ v u Q I rx ry ⟨a, b2, ns, ms, rfl, rfl, ha, hb2, by rw [hb]; exact q⟩
  · exact op_isIn hu false pins s σ H x y v u Q I rx ry ⟨G, _, _, b, t, rd, re, hb, q⟩
  · obtain ⟨c, hc, rfl⟩ := Option.map_eq_some_iff.mp hb
    exact op_isIn hu true pins s σ H x y v u Q I rx ry ⟨G, _, _, c, t, rd, re, hc, q⟩
  · cases hb
end
theorem truth_ok {K : PySem.W.Frag} {G : Gh} {H : Hp} {v : V} {d : D} {k : Bool} (r : Rp K (Bh G H) v d) (h : truth d = some k) : TruV K v H k := by
  cases d with
  | none =>
    cases r
    exact (Option.some.inj h).symm
  | bool b =>
    cases r
    exact (Option.some.inj h).symm
  | int i =>
    cases r
    exact (Option.some.inj h).symm
  | str x =>
    cases r
    simp only [truth] at h
    split at h
    · exact ⟨by assumption, (Option.some.inj h).symm⟩
    · cases h
  | list ds =>
    obtain ⟨a, xs, rfl, ha, ra⟩ := rp_lst r
    refine .inl ⟨xs, SqL.of ha, ?_⟩
    have e := Option.some.inj h
    rw [← e]
    cases ra <;> rfl
  | tuple ds =>
    obtain ⟨a, xs, rfl, ha, ra⟩ := rp_tup r
    refine .inr (.inl ⟨xs, ha, ?_⟩)
    have e := Option.some.inj h
    rw [← e]
    cases ra <;> rfl
  | dict _ => cases h

/-! ### subscripts, slices -/
theorem atI_rp {K : PySem.W.Frag} {B : Hp} {vs : List V} {ds : List D} {i : Int} {d : D} (r : RpAll K B vs ds) (h : atI ds i = some d) : ∃ v, atI vs i = some v ∧ Rp K B v d := by
  unfold atI at h ⊢
  rw [r.length]
  obtain ⟨j, hj, e⟩ := Option.bind_eq_some_iff.mp h
  obtain ⟨v, q, z⟩ := r.get e
  exact ⟨v, by rw [hj]; exact q, z⟩
def rIdx (K : PySem.W.Frag) : R2 := fun x y H Q => ∃ G d e r, Tagd G H ∧ Rp K (Bh G H) x d ∧ Rp K (Bh G H) y e ∧ idxD d e = some r ∧ ∀ v, Rp K (Bh G H) v r → Q v H
theorem ix_data {X : Cx} : IxR X (rIdx X.K) := by
  intro value slice pins s σ H x y v u Q I rx ry ⟨G, d, e, r, t, rd, re, hb, q⟩ hs
  unfold idxD at hb
  split at hb
  · obtain ⟨a, xs, rfl, ha, ra⟩ := rp_lst rd
    obtain ⟨w, h1, h2⟩ := atI_rp ra hb
    exact ix_list value slice pins s σ H _ y v u Q I rx ry ⟨a, xs, _, w, rfl, rp_int re, SqL.of ha, h1, q _ h2⟩ hs
  · obtain ⟨a, xs, rfl, ha, ra⟩ := rp_tup rd
    obtain ⟨w, h1, h2⟩ := atI_rp ra hb
    exact ix_tup value slice pins s σ H _ y v u Q I rx ry ⟨a, xs, _, w, rfl, rp_int re, ha, h1, q _ h2⟩ hs
  · split at hb
    · obtain ⟨c, hc, rfl⟩ := Option.map_eq_some_iff.mp hb
      exact ix_str value slice pins s σ H x y v u Q I rx ry ⟨_, _, c, rp_str rd, rp_int re, by assumption, hc, q _ (.str _)⟩ hs
    · cases hb
  · cases hb
/-- a list read where it stands -/
def rIdxL (K : PySem.W.Frag) : R2 := fun x y H Q => ∃ a xs i v, x = .ref a ∧ y = .int i ∧ SqL K H a xs ∧ atI xs i = some v ∧ Q v H
theorem RpAll.cut {K : PySem.W.Frag} {B : Hp} {vs : List V} {ds : List D} (r : RpAll K B vs ds) (lo hi : Option Int) : RpAll K B (cutV vs lo hi) (cutD ds lo hi) := by
  unfold cutV cutD
  rw [r.length]
  exact (r.drop _).take _
def rSlc (K : PySem.W.Frag) : V → Option Int → Option Int → Hp → VK → Prop := fun x lo hi H Q => ∃ G d r, Tagd G H ∧ Rp K (Bh G H) x d ∧ slcD d lo hi = some r ∧ Give K G H r Q
theorem cut_whole {α : Type} (xs : List α) {a b : Nat} (h1 : a = 0) (h2 : b = xs.length) : (xs.drop a).take (b - a) = xs := by
  subst h1
  subst h2
  rw [List.drop_zero, Nat.sub_zero, List.take_length]
theorem sl_data {X : Cx} : SlR X (rSlc X.K) := by
  intro pins s σ H x v vl vu lo hi sl Q I rx hs pl pu ⟨G, d, r, t, rd, hb, q⟩
  unfold slcD at hb
  split at hb
  · cases hb
    obtain ⟨a, xs, rfl, ha, ra⟩ := rp_lst rd
    exact sl_list pins s σ H _ v vl vu _ _ sl Q I rx hs pl pu ⟨a, xs, rfl, SqL.of ha, q.lst t (ra.cut _ _)⟩
  · cases hb
    obtain ⟨a, xs, rfl, ha, ra⟩ := rp_tup rd
    refine sl_tupA pins s σ H _ v vl vu _ _ sl Q I rx hs pl pu ⟨a, xs, rfl, ha, fun hw => ?_, fun _ => q.tup t (ra.cut _ _)⟩
    have e : cutD _ lo hi = _ := cut_whole _ (by rw [← ra.length]; exact hw.1) (by rw [← ra.length]; exact hw.2)
    rw [e] at q
    exact q.at t rd
  · split at hb
    · cases hb
      exact sl_str pins s σ H _ v vl vu _ _ sl Q I rx hs pl pu ⟨_, rp_str rd, by assumption, q.at t (.str _)⟩
    · cases hb
  · cases hb
/-! ### built-ins of one argument -/
def rB1 (K : PySem.W.Frag) (o : B1) : List V → Hp → VK → Prop := fun xs H Q => ∃ x G d r, xs = [x] ∧ Tagd G H ∧ Rp K (Bh G H) x d ∧ b1D o d = some r ∧ Give K G H r Q
def b1F : B1 → Value
  | .len => .builtin "len"
  | .sum => .builtin "sum"
  | .max => .builtin "max"
  | .min => .builtin "min"
  | .all => .builtin "all"
  | .any => .builtin "any"
  | .int => .type "int"
  | .str => .type "str"
  | .repr => .builtin "repr"
  | .tuple => .type "tuple"
  | .list => .type "list"
  | .bool => .type "bool"
  | .abs => .builtin "abs"
  | .sorted => .builtin "sorted"
theorem maxL_is : ∀ {ns : List Int} {m : Int}, maxL ns = some m → 0 < ns.length ∧ ∀ k, k ∈ ns → (∀ y ∈ ns, y ≤ k) → k = m
  | [], _, h => by cases h
  | x :: r, m, h => by
    have e : r.foldl max x = m := Option.some.inj h
    refine ⟨Nat.succ_pos _, fun k hk hb => ?_⟩
    have up : ∀ (l : List Int) (a : Int), a ≤ l.foldl max a ∧ (∀ y ∈ l, y ≤ l.foldl max a) ∧ (l.foldl max a = a ∨ l.foldl max a ∈ l) := by
      intro l
      induction l with
      | nil => exact fun a => ⟨Int.le_refl _, (fun _ h => nomatch h), .inl rfl⟩
      | cons b l ih =>
        intro a
        obtain ⟨h1, h2, h3⟩ := ih (max a b)
        refine ⟨by rw [List.foldl_cons]; omega, fun y hy => ?_, ?_⟩
        · rw [List.foldl_cons]
          rcases List.mem_cons.mp hy with z | z
          · subst z
            omega
          · exact h2 y z
        · rw [List.foldl_cons]
          rcases h3 with z | z
          · rcases Int.le_total a b with w | w
            · right
              rw [z, Int.max_eq_right w]
              exact List.mem_cons_self
            · left
              rw [z, Int.max_eq_left w]
          · exact .inr (List.mem_cons_of_mem _ z)
    obtain ⟨h1, h2, h3⟩ := up r x
    have a1 : k ≤ m := by
      rw [← e]
      rcases List.mem_cons.mp hk with z | z
      · rw [z]; exact h1
      · exact h2 k z
    have a2 : m ≤ k := by
      rw [← e]
      rcases h3 with z | z
      · rw [z]; exact hb x List.mem_cons_self
      · exact hb _ (List.mem_cons_of_mem _ z)
    omega
theorem minL_is : ∀ {ns : List Int} {m : Int}, minL ns = some m → 0 < ns.length ∧ ∀ k, k ∈ ns → (∀ y ∈ ns, k ≤ y) → k = m
  | [], _, h => by cases h
  | x :: r, m, h => by
    have e : r.foldl min x = m := Option.some.inj h
    refine ⟨Nat.succ_pos _, fun k hk hb => ?_⟩
    have up : ∀ (l : List Int) (a : Int), l.foldl min a ≤ a ∧ (∀ y ∈ l, l.foldl min a ≤ y) ∧ (l.foldl min a = a ∨ l.foldl min a ∈ l) := by
      intro l
      induction l with
      | nil => exact fun a => ⟨Int.le_refl _, (fun _ h => nomatch h), .inl rfl⟩
      | cons b l ih =>
        intro a
        obtain ⟨h1, h2, h3⟩ := ih (min a b)
        refine ⟨by rw [List.foldl_cons]; omega, fun y hy => ?_, ?_⟩
        · rw [List.foldl_cons]
          rcases List.mem_cons.mp hy with z | z
          · subst z
            omega
          · exact h2 y z
        · rw [List.foldl_cons]
          rcases h3 with z | z
          · rcases Int.le_total a b with w | w
            · left
              rw [z, Int.min_eq_left w]
            · right
              rw [z, Int.min_eq_right w]
              exact List.mem_cons_self
          · exact .inr (List.mem_cons_of_mem _ z)
    obtain ⟨h1, h2, h3⟩ := up r x
    have a1 : m ≤ k := by
      rw [← e]
      rcases List.mem_cons.mp hk with z | z
      · rw [z]; exact h1
      · exact h2 k z
    have a2 : k ≤ m := by
      rw [← e]
      rcases h3 with z | z
      · rw [z]; exact hb x List.mem_cons_self
      · exact hb _ (List.mem_cons_of_mem _ z)
    omega
theorem insI_perm (x : Int) : ∀ l : List Int, (insI x l).Perm (x :: l)
  | [] => .refl _
  | y :: r => by
    unfold insI
    split
    · exact .refl _
    · exact ((insI_perm x r).cons y).trans (.swap x y r)
theorem insI_pair (x : Int) : ∀ {l : List Int}, l.Pairwise (· ≤ ·) → (insI x l).Pairwise (· ≤ ·)
  | [], _ => List.pairwise_singleton _ _
  | y :: r, h => by
    unfold insI
    split
    · rename_i q
      refine List.pairwise_cons.mpr ⟨fun z hz => ?_, h⟩
      rcases List.mem_cons.mp hz with e | e
      · rw [e]; exact q
      · exact Int.le_trans q ((List.pairwise_cons.mp h).1 z e)
    · rename_i q
      refine List.pairwise_cons.mpr ⟨fun z hz => ?_, insI_pair x (List.pairwise_cons.mp h).2⟩
      rcases List.mem_cons.mp ((insI_perm x r).mem_iff.mp hz) with e | e
      · rw [e]; omega
      · exact (List.pairwise_cons.mp h).1 z e
theorem sortI_perm : ∀ l : List Int, (sortI l).Perm l
  | [] => .refl _
  | x :: r => (insI_perm x _).trans ((sortI_perm r).cons x)
theorem sortI_pair : ∀ l : List Int, (sortI l).Pairwise (· ≤ ·)
  | [] => .nil
  | x :: r => insI_pair x (sortI_pair r)
theorem sorted_one {a b : List Int} (p : a.Perm b) (ha : a.Pairwise (· ≤ ·)) (hb : b.Pairwise (· ≤ ·)) : a = b :=
  List.Perm.eq_of_pairwise (fun _ _ _ _ h1 h2 => Int.le_antisymm h1 h2) ha hb p

/-! ### pairs, sorted -/
theorem insP_perm (x : Int × Int) : ∀ l : List (Int × Int), (insP x l).Perm (x :: l)
  | [] => .refl _
  | y :: r => by
    unfold insP
    split
    · exact .refl _
    · exact ((insP_perm x r).cons y).trans (.swap x y r)
theorem leP_iff {x y : Int × Int} : leP x y = true ↔ x.1 < y.1 ∨ (x.1 = y.1 ∧ x.2 ≤ y.2) := by
  unfold leP
  simp only [Bool.or_eq_true, Bool.and_eq_true, decide_eq_true_eq]
theorem insP_pair (x : Int × Int) : ∀ {l : List (Int × Int)}, l.Pairwise (fun a b => leP a b = true) → (insP x l).Pairwise (fun a b => leP a b = true)
  | [], _ => List.pairwise_singleton _ _
  | y :: r, h => by
    unfold insP
    split
    · rename_i q
      refine List.pairwise_cons.mpr ⟨fun z hz => ?_, h⟩
      rcases List.mem_cons.mp hz with e | e
      · rw [e]; exact q
      · have q2 := leP_iff.mp ((List.pairwise_cons.mp h).1 z e)
        have q1 := leP_iff.mp q
        exact leP_iff.mpr (by omega)
    · rename_i q
      refine List.pairwise_cons.mpr ⟨fun z hz => ?_, insP_pair x (List.pairwise_cons.mp h).2⟩
      rcases List.mem_cons.mp ((insP_perm x r).mem_iff.mp hz) with e | e
      · rw [e]
        have q1 : ¬ _ := fun w => q (leP_iff.mpr w)
        exact leP_iff.mpr (by omega)
      · exact (List.pairwise_cons.mp h).1 z e
theorem sortP_perm : ∀ l : List (Int × Int), (sortP l).Perm l
  | [] => .refl _
  | x :: r => (insP_perm x _).trans ((sortP_perm r).cons x)
theorem sortP_pair : ∀ l : List (Int × Int), (sortP l).Pairwise (fun a b => leP a b = true)
  | [] => .nil
  | x :: r => insP_pair x (sortP_pair r)
theorem pairs_one {a b : List (Int × Int)} (p : a.Perm b) (ha : a.Pairwise (fun a b => leP a b = true)) (hb : b.Pairwise (fun a b => leP a b = true)) : a = b :=
  List.Perm.eq_of_pairwise (fun x y _ _ h1 h2 => by
    have q1 := leP_iff.mp h1
    have q2 := leP_iff.mp h2
    exact Prod.ext (by omega) (by omega)) ha hb p
/-- the two ints of a pair as it stands -/
def prK (H : Hp) (v : V) : Int × Int := match v with
  | .ref t => match H t with
    | some (.tup [.int i, .int j]) => (i, j)
    | _ => (0, 0)
  | _ => (0, 0)
theorem rp_pairs {K : PySem.W.Frag} {G : Gh} {H : Hp} : ∀ {vs : List V} {ds : List D} {ps : List (Int × Int)}, RpAll K (Bh G H) vs ds → pairsD ds = some ps → vs.map (prK H) = ps ∧ ∀ v, v ∈ vs → (∃ t, v = .ref t ∧ H t = some (.tup [.int (prK H v).1, .int (prK H v).2])) ∧ Rp K (Bh G H) v (prD (prK H v))
  | _, _, ps, .nil, h => by
    cases h
    exact ⟨rfl, fun _ z => nomatch z⟩
  | _, _, ps, .cons (v := v) (vs := vs) (d := d) (ds := ds) r rs, h => by
    unfold pairsD at h
    split at h
    · rename_i e
      cases e
    · rename_i i j r' e
      cases e
      obtain ⟨ps', h1, rfl⟩ := Option.map_eq_some_iff.mp h
      obtain ⟨e1, e2⟩ := rp_pairs rs h1
      cases r with
      | tup hb ra =>
        cases ra with
        | cons r1 ra =>
          cases ra with
          | cons r2 ra =>
            cases ra
            obtain rfl := rp_int r1
            obtain rfl := rp_int r2
            rename_i a
            have hh := Bh.same _ _ hb
            have e3 : prK H (.ref a) = (i, j) := by
              show (match H a with
                | some (.tup [.int i, .int j]) => (i, j)
                | _ => (0, 0)) = (i, j)
              rw [hh]
            refine ⟨by rw [List.map_cons, e1, e3], fun w hw => ?_⟩
            rcases List.mem_cons.mp hw with rfl | hw
            · rw [e3]
              exact ⟨⟨a, rfl, hh⟩, .tup hb (.cons (.int i) (.cons (.int j) .nil))⟩
            · exact e2 w hw
    · cases h
theorem rpAll_map {K : PySem.W.Frag} {B : Hp} {f : V → D} : ∀ {vs : List V}, (∀ v, v ∈ vs → Rp K B v (f v)) → RpAll K B vs (vs.map f)
  | [], _ => .nil
  | v :: vs, h => .cons (h v List.mem_cons_self) (rpAll_map fun w hw => h w (List.mem_cons_of_mem _ hw))
theorem call_sorted_pairs {X : Cx} {G : Gh} {a : Addr} {xs : List V} {ds : List D} {ps : List (Int × Int)} (pins : List (Addr × Obj)) (s : Shared) (σ : L2.St) (H : Hp) (us : List Value) (Q : VK) (I : Inv X pins σ H s) (rx : Vals [.ref a] us) (ha : H a = some (.lst xs)) (ra : RpAll X.K (Bh G H) xs ds) (hp : pairsD ds = some ps)
    (t : Tagd G H) (q : Give X.K G H (.m (.l ((sortP ps).map prD))) Q) : wpAny (model X.prog X.w) X.A (call (.builtin "sorted") us) (EP X pins σ Q) X.xe s := by
  obtain ⟨e1, e2⟩ := rp_pairs ra hp
  refine cr_sortedPO pins s σ H _ us Q I rx ⟨a, xs, prK H, rfl, SqL.of ha, fun x hx => (e2 x hx).1, fun ys p hs hb hn => ?_⟩
  have e3 : ys.map (prK H) = sortP ps := by
    refine pairs_one ?_ (List.pairwise_map.mpr (hs.imp fun {x y} h => ?_)) (sortP_pair ps)
    · rw [← e1]
      exact (hb.perm.map _).trans (sortP_perm _).symm
    · have := SrtO.lexB_no.mp h
      exact leP_iff.mpr (by omega)
  rw [← e3, List.map_map] at q
  exact q.lst t (rpAll_map (f := prD ∘ prK H) fun v hv => (e2 v (hb.perm.mem_iff.mp hv)).2) p hn
theorem swo_none : SrtO.Swo (fun _ _ : Value => false) := ⟨fun _ _ _ => rfl, fun _ _ _ _ _ => rfl⟩
theorem call_sorted_few {X : Cx} {G : Gh} {a : Addr} {xs : List V} {ds : List D} (pins : List (Addr × Obj)) (s : Shared) (σ : L2.St) (H : Hp) (us : List Value) (Q : VK) (I : Inv X pins σ H s) (rx : Vals [.ref a] us) (ha : H a = some (.lst xs)) (ra : RpAll X.K (Bh G H) xs ds) (few : ds.length ≤ 1)
    (t : Tagd G H) (q : Give X.K G H (.m (.l ds)) Q) : wpAny (model X.prog X.w) X.A (call (.builtin "sorted") us) (EP X pins σ Q) X.xe s := by
  obtain ⟨its, rv, hl, hz⟩ := I.list (SqL.of ha)
  rw [Vals.ref1 rx]
  have l1 : its.length ≤ 1 := by rw [← rv.length, ra.length]; exact few
  refine SrtO.sorted_ord swo_none hl.isList (by rw [← rv.length]; exact hz) (fun h2 => absurd h2 (by omega)) fun out h1 h2 => ?_
  have e : out = its := by
    have p := h2.perm
    match its, out, l1, p with
    | [], out, _, p => exact p.eq_nil
    | [x], out, _, p => exact List.perm_singleton.mp p
    | _ :: _ :: _, _, l, _ => exact absurd l (by simp)
  subst e
  obtain ⟨ep, he⟩ := PyProof.Rows.sortedAll_at s.heap out out.toArray
  exact ⟨.ref _, upd H (s.heap.objs.size + 1) (.lst xs), I.laid (t' := s.toks) (fun _ _ => PyProof.Rows.sortedAll_old) (Nat.le_succ _) ⟨hz, out, ep, rv, he⟩, rfl, q.lst t ra _ (I.hok.fresh (Nat.le_succ _))⟩
theorem call_sorted_tpairs {X : Cx} {G : Gh} {a : Addr} {xs : List V} {ds : List D} {ps : List (Int × Int)} (pins : List (Addr × Obj)) (s : Shared) (σ : L2.St) (H : Hp) (us : List Value) (Q : VK) (I : Inv X pins σ H s) (rx : Vals [.ref a] us) (ha : SqT X.K H a xs) (ra : RpAll X.K (Bh G H) xs ds) (hp : pairsD ds = some ps)
    (t : Tagd G H) (q : Give X.K G H (.m (.l ((sortP ps).map prD))) Q) : wpAny (model X.prog X.w) X.A (call (.builtin "sorted") us) (EP X pins σ Q) X.xe s := by
  obtain ⟨e1, e2⟩ := rp_pairs ra hp
  refine cr_sortTupP pins s σ H _ us Q I rx ⟨a, xs, prK H, rfl, ha, fun x hx => (e2 x hx).1, fun ys p hs hb hn => ?_⟩
  have e3 : ys.map (prK H) = sortP ps := by
    refine pairs_one ?_ (List.pairwise_map.mpr (hs.imp fun {x y} h => ?_)) (sortP_pair ps)
    · rw [← e1]
      exact (hb.perm.map _).trans (sortP_perm _).symm
    · have := SrtO.lexB_no.mp h
      exact leP_iff.mpr (by omega)
  rw [← e3, List.map_map] at q
  exact q.lst t (rpAll_map (f := prD ∘ prK H) fun v hv => (e2 v (hb.perm.mem_iff.mp hv)).2) p hn
theorem reads_ref {X : Cx} {pins : List (Addr × Obj)} {σ : L2.St} {H : Hp} {s : Shared} {G : Gh} {v : V} {u : Value} {d : D} (I : Inv X pins σ H s) (r : Rp X.K (Bh G H) v d) (ru : RelV v u) : ∃ as, Reads s.heap u d as :=
  Dp.reads I d v u (r.mono Bh.same).dp ru
theorem repr_data {X : Cx} (hg : X.A.guards = some []) (hu : X.A.units + 64 < cLine) {pins : List (Addr × Obj)} {σ : L2.St} {H : Hp} {s : Shared} {G : Gh} {a : Addr} {u : Value} {d : D} {Q : VK} (I : Inv X pins σ H s) (r : Rp X.K (Bh G H) (.ref a) d) (ru : RelV (.ref a) u)
    (ok : showOk d = true) (q : Q (.str d.shown) H) : wpAny (model X.prog X.w) X.A (call (.builtin "repr") [u]) (EP X pins σ Q) X.xe s := by
  obtain ⟨as, rd⟩ := reads_ref I r ru
  cases ru
  unfold showOk at ok
  simp only [Bool.and_eq_true, decide_eq_true_eq, Bool.not_eq_true'] at ok
  obtain ⟨⟨⟨h1, h2⟩, h3⟩, h4⟩ := ok
  refine repr_of_reads' (h₀ := s.heap) rd h1 (fun h => absurd h (by rw [h2]; exact Bool.false_ne_true)) hg (by omega) (fun _ _ e => e) (fun h' w tk hk => ?_) h4
  exact ⟨.str _, H, I.kept hk, ⟨_, rfl⟩, q⟩
/-- what walks over its argument -/
def b1C : B1 → Bool
  | .sum => true
  | .max => true
  | .min => true
  | .all => true
  | .any => true
  | .sorted => true
  | _ => false
theorem cr_b1 {X : Cx} (o : B1) (hc0 : b1C o = true → X.calm = true) (hg : X.A.guards = some []) (hu : X.A.units + 64 < cLine) : CallR X (b1F o) (rB1 X.K o) := by
  intro pins s σ H xs us Q I rx ⟨x, G, d, r, e, t, rd, hb, q⟩
  subst e
  unfold b1D at hb
  split at hb
  · -- len
    obtain ⟨n, hn, rfl⟩ := Option.map_eq_some_iff.mp hb
    unfold lenD at hn
    split at hn
    · cases hn
      obtain ⟨a, xs, rfl, ha, ra⟩ := rp_lst rd
      rw [← ra.length] at q
      exact call_len_seq pins s σ H _ us Q I rx ⟨a, xs, rfl, .inl (SqL.of ha), q.at t (.int _)⟩
    · cases hn
      obtain ⟨a, xs, rfl, ha, ra⟩ := rp_tup rd
      rw [← ra.length] at q
      exact call_len_seq pins s σ H _ us Q I rx ⟨a, xs, rfl, .inr ha, q.at t (.int _)⟩
    · split at hn
      · cases hn
        obtain rfl := rp_str rd
        exact call_len_str pins s σ H _ us Q I rx ⟨_, rfl, by assumption, q.at t (.int _)⟩
      · cases hn
    · cases hn
  · obtain ⟨ns, hn, rfl⟩ := Option.map_eq_some_iff.mp hb
    obtain ⟨a, xs, rfl, ha, ra⟩ := rp_lst rd
    exact cr_sum (hc0 rfl) pins s σ H _ us Q I rx ⟨a, ns, rfl, by rw [← ra.ints hn]; exact SqL.of ha, q.at t (.int _)⟩
  · obtain ⟨m, hm, rfl⟩ := Option.map_eq_some_iff.mp hb
    obtain ⟨ns, hn, hx⟩ := Option.bind_eq_some_iff.mp hm
    obtain ⟨a, xs, rfl, ha, ra⟩ := rp_lst rd
    obtain ⟨h0, h1⟩ := maxL_is hx
    refine cr_max (hc0 rfl) pins s σ H _ us Q I rx ⟨a, ns, rfl, by rw [← ra.ints hn]; exact SqL.of ha, h0, fun k hk hb => ?_⟩
    rw [h1 k hk hb]
    exact q.at t (.int _)
  · obtain ⟨m, hm, rfl⟩ := Option.map_eq_some_iff.mp hb
    obtain ⟨ns, hn, hx⟩ := Option.bind_eq_some_iff.mp hm
    obtain ⟨a, xs, rfl, ha, ra⟩ := rp_lst rd
    obtain ⟨h0, h1⟩ := minL_is hx
    refine cr_min (hc0 rfl) pins s σ H _ us Q I rx ⟨a, ns, rfl, by rw [← ra.ints hn]; exact SqL.of ha, h0, fun k hk hb => ?_⟩
    rw [h1 k hk hb]
    exact q.at t (.int _)
  · obtain ⟨ns, hn, rfl⟩ := Option.map_eq_some_iff.mp hb
    obtain ⟨a, xs, rfl, ha, ra⟩ := rp_lst rd
    exact cr_all (hc0 rfl) pins s σ H _ us Q I rx ⟨a, ns, rfl, by rw [← ra.bools hn]; exact SqL.of ha, q.at t (.bl _)⟩
  · obtain ⟨ns, hn, rfl⟩ := Option.map_eq_some_iff.mp hb
    obtain ⟨a, xs, rfl, ha, ra⟩ := rp_lst rd
    exact cr_any (hc0 rfl) pins s σ H _ us Q I rx ⟨a, ns, rfl, by rw [← ra.bools hn]; exact SqL.of ha, q.at t (.bl _)⟩
  · cases hb
    exact call_int1 pins s σ H _ us Q I rx (.inl ⟨_, by rw [rp_int rd], q.at t (.int _)⟩)
  · cases hb
    exact call_int1 pins s σ H _ us Q I rx (.inr ⟨_, by rw [rp_bl rd], q.at t (.int _)⟩)
  · split at hb
    · cases hb
      exact SkE.call_repr_int pins s σ H _ us Q I rx ⟨_, by rw [rp_int rd], by assumption, q.at t (.str _)⟩
    · cases hb
  · cases hb
    rw [rp_none rd] at rx
    obtain ⟨u, rfl, ru⟩ := vals1 rx
    cases ru
    exact PySem.P.repr_of_none ⟨.str _, H, I.tok _, ⟨_, rfl⟩, q.at t (.str _)⟩
  · cases hb
    rw [rp_bl rd] at rx
    obtain ⟨u, rfl, ru⟩ := vals1 rx
    cases ru
    exact PySem.P.repr_of_bool ⟨.str _, H, I.tok _, ⟨_, rfl⟩, q.at t (.str _)⟩
  · split at hb
    · cases hb
      rw [rp_str rd] at rx
      obtain ⟨u, rfl, ru⟩ := vals1 rx
      obtain ⟨tk, rfl⟩ := ru
      exact PySem.P.repr_of_str ⟨.str _, H, I.tok _, ⟨_, rfl⟩, q.at t (.str _)⟩ (by assumption)
    · cases hb
  · split at hb
    · cases hb
      obtain ⟨a, xs, rfl, ha, ra⟩ := rp_lst rd
      obtain ⟨u, rfl, ru⟩ := vals1 rx
      exact repr_data hg hu I rd ru (by assumption) (q.at t (.str _))
    · cases hb
  · split at hb
    · cases hb
      obtain ⟨a, xs, rfl, ha, ra⟩ := rp_tup rd
      obtain ⟨u, rfl, ru⟩ := vals1 rx
      exact repr_data hg hu I rd ru (by assumption) (q.at t (.str _))
    · cases hb
  · split at hb
    · cases hb
      exact call_str_int pins s σ H _ us Q I rx ⟨_, by rw [rp_int rd], by assumption, q.at t (.str _)⟩
    · cases hb
  · cases hb
    obtain ⟨a, xs, rfl, ha, ra⟩ := rp_lst rd
    exact call_tuple_of pins s σ H _ us Q I rx ⟨a, xs, rfl, .inl ⟨SqL.of ha, q.tup t ra⟩⟩
  · cases hb
    obtain ⟨a, xs, rfl, ha, ra⟩ := rp_tup rd
    exact call_tuple_of pins s σ H _ us Q I rx ⟨a, xs, rfl, .inr ⟨ha, q.at t rd⟩⟩
  · cases hb
    obtain ⟨a, xs, rfl, ha, ra⟩ := rp_lst rd
    exact call_list_of pins s σ H _ us Q I rx ⟨a, xs, rfl, .inl (SqL.of ha), q.lst t ra⟩
  · cases hb
    obtain ⟨a, xs, rfl, ha, ra⟩ := rp_tup rd
    exact call_list_of pins s σ H _ us Q I rx ⟨a, xs, rfl, .inr ha, q.lst t ra⟩
  · split at hb
    · rename_i ns hn
      cases hb
      obtain ⟨a, xs, rfl, ha, ra⟩ := rp_lst rd
      refine cr_sortedI pins s σ H _ us Q I rx ⟨a, ns, rfl, by rw [← ra.ints hn]; exact SqL.of ha, fun ns' p pm pw hp => ?_⟩
      have e : ns' = sortI ns := sorted_one (pm.trans (sortI_perm ns).symm) pw (sortI_pair ns)
      rw [e]
      exact q.lst t (.of_ints _) p hp
    · split at hb
      · rename_i ps hp
        cases hb
        obtain ⟨a, xs, rfl, ha, ra⟩ := rp_lst rd
        exact call_sorted_pairs pins s σ H us Q I rx ha ra hp t q
      · split at hb
        · cases hb
          obtain ⟨a, xs, rfl, ha, ra⟩ := rp_lst rd
          exact call_sorted_few pins s σ H us Q I rx ha ra (by assumption) t q
        · cases hb
  · obtain ⟨ps, hp, rfl⟩ := Option.map_eq_some_iff.mp hb
    obtain ⟨a, xs, rfl, ha, ra⟩ := rp_tup rd
    exact call_sorted_tpairs pins s σ H us Q I rx ha ra hp t q
  · cases hb
def rB2 (K : PySem.W.Frag) (o : B2) : List V → Hp → VK → Prop := fun xs H Q => ∃ x y B d e r, xs = [x, y] ∧ Rp K B x d ∧ Rp K B y e ∧ b2D o d e = some r ∧ ∀ v, Rp K B v r → Q v H
def b2F : B2 → Value
  | .max => .builtin "max"
  | .min => .builtin "min"
theorem cr_b2 {X : Cx} (hc : X.calm = true) (o : B2) : CallR X (b2F o) (rB2 X.K o) := by
  intro pins s σ H xs us Q I rx ⟨x, y, B, d, e, r, ex, rd, re, hb, q⟩
  subst ex
  unfold b2D at hb
  split at hb
  · cases hb
    exact call_max2 hc pins s σ H _ us Q I rx ⟨_, _, by rw [rp_int rd, rp_int re], q _ (.int _)⟩
  · cases hb
    exact call_min2 hc pins s σ H _ us Q I rx ⟨_, _, by rw [rp_int rd, rp_int re], q _ (.int _)⟩
  · cases hb

/-! ### isinstance -/
inductive Kd where
  | non | bool | int | str | list | tuple | dict
def kdOf : D → Kd
  | .none => .non
  | .bool _ => .bool
  | .int _ => .int
  | .str _ => .str
  | .list _ => .list
  | .tuple _ => .tuple
  | .dict _ => .dict
def kdName : Kd → String
  | .non => "NoneType"
  | .bool => "bool"
  | .int => "int"
  | .str => "str"
  | .list => "list"
  | .tuple => "tuple"
  | .dict => "dict"
def tyName : Ty → String
  | .int => "int"
  | .bool => "bool"
  | .tuple => "tuple"
  | .list => "list"
  | .str => "str"
  | .dict => "dict"
def isiK : Kd → Ty → Bool
  | .bool, .bool => true
  | .bool, .int => true
  | .int, .int => true
  | .str, .str => true
  | .list, .list => true
  | .tuple, .tuple => true
  | .dict, .dict => true
  | _, _ => false
theorem isiD_kd (d : D) (t : Ty) : isiD d t = isiK (kdOf d) t := by
  cases d <;> cases t <;> rfl
theorem kit_all (k : Kd) (t : Ty) : kitB (kdName k) (tyName t) = some (isiK k t) := by
  cases k <;> cases t <;> decide +kernel
theorem tyx_of {K : PySem.W.Frag} {G : Gh} {H : Hp} {v : V} {d : D} (r : Rp K (Bh G H) v d) : TyX K H v (.type (kdName (kdOf d))) := by
  cases d with
  | none => cases r; exact .base .non
  | bool b => cases r; exact .base (.bl b)
  | int i => cases r; exact .base (.int i)
  | str x => cases r; exact .base (.str x)
  | list ds =>
    obtain ⟨a, xs, rfl, ha, ra⟩ := rp_lst r
    exact .base (.lst ha)
  | tuple ds =>
    obtain ⟨a, xs, rfl, ha, ra⟩ := rp_tup r
    rcases ha with (ha | ⟨o, ha⟩) | ⟨o, its, n, ha, hc, _⟩
    · exact .base (.tup ha)
    · exact .fTuple ha
    · exact .kTuple ha hc
  | dict _ => cases r
def rIsi1 (K : PySem.W.Frag) (t : Ty) : List V → Hp → VK → Prop := fun xs H Q => ∃ x c G d, xs = [x, c] ∧ c = V.ty (tyName t) ∧ Rp K (Bh G H) x d ∧ Q (.bl (isiD d t)) H
theorem cr_isi {X : Cx} (t : Ty) : CallR X (.builtin "isinstance") (rIsi1 X.K t) := by
  intro pins s σ H xs us Q I rx ⟨x, c, G, d, e, hc, r, q⟩
  subst e
  subst hc
  exact call_isi pins s σ H _ us Q I rx ⟨x, _, _, _, _, rfl, .ty _, tyx_of r, kit_ty (kit_all _ _), by rw [← isiD_kd]; exact q⟩
end Z

/-! ZO: what is known of a class of exceptions with two fields. -/
namespace Z
open PySem PySem.Spec PyProof.Rows L2
def nmOk (x : Str) : Bool := !(x == ("__debug__" : Str)) && !(x == ("__classdict__" : Str))
theorem nmOk_ok {x : Str} (h : nmOk x = true) : (x == ("__debug__" : Str)) = false ∧ (x == ("__classdict__" : Str)) = false := by
  unfold nmOk at h
  rw [Bool.and_eq_true, Bool.not_eq_true', Bool.not_eq_true'] at h
  exact h
def initB (sf a b : Str) : List Stmt → Bool
  | [.Expr (.Call (.Attribute (.Call (.Name su _) [] [] _) m ap) [.Constant (.str _) _ _] [] cp) _, .Assign [.Attribute (.Name s1 _) f1 _] (.Name x1 _) _, .Assign [.Attribute (.Name s2 _) f2 _] (.Name x2 _) _] =>
    decide (su = "super") && decide (m = "__init__") && (ap.endLine == cp.line) && decide (s1 = sf) && decide (f1 = "amount") && decide (x1 = a) && decide (s2 = sf) && decide (f2 = "limit") && decide (x2 = b)
  | _ => false
/-- the facts of such a class, as the top left it -/
structure TwoK (K : PySem.W.Frag) (C : Addr) : Prop where
  oex : OexC K C
  sub : PySem.W.mroIn K C (.ref C) = some true
  sup : PySem.W.ks_superIn K C C "__init__" = some (some (.builtin "ValueError.__init__"))
  ve : PySem.W.subIn K (.ref C) (.type "ValueError") = some true
  opq : PySem.W.nsIn K cStatics "thirdparty.any" = some none
  fa : PySem.W.findIn K (.ref C) "amount" = some none
  fl : PySem.W.findIn K (.ref C) "limit" = some none
/-- a class of exceptions with two fields, as the top left it -/
structure Two (P : Program) (K : PySem.W.Frag) (mg : Str → Option Value) (C : Addr) : Prop where
  tk : TwoK K C
  ex : ∃ (fI cc cda : Addr) (nm qual : Str) (pr : Arguments) (body : List Stmt) (sc : Scope) (dV kV doc pm ct oc : Value) (an od : Option Addr) (osl : Array (Option Value)) (ar : PySem.Arg) (x1 x2 : Str),
    PySem.W.findIn K (.ref C) "__init__" = some (some (.ref fI)) ∧ PySem.W.typeIn K (.ref fI) = some (.type "function") ∧ K.lookup fI = some ⟨oc, od, .func (PySem.W.ksFn nm qual pr body sc dV kV doc pm an (.ref cda) ct cc), osl⟩ ∧ PySem.W.codeIn K (.ref cda) qual = true ∧
    L2.Binds K (PySem.W.ksFn nm qual pr body sc dV kV doc pm an (.ref cda) ct cc) [ar.arg, x1, x2] [] ∧ (pr.posonlyargs ++ pr.args).head? = some ar ∧ initB ar.arg x1 x2 body = true ∧
    (sc.kind = .function ∧ sc.isCoroutine = false ∧ sc.isGenerator = false ∧ (∀ x ∈ sc.names, x.2 ≠ .cell)) ∧
    (sc.names.lookup ("super" : Str) = some .globalImplicit ∧ sc.names.lookup ("__class__" : Str) = some .free ∧ sc.names.lookup ar.arg = some .local ∧ sc.names.lookup x1 = some .local ∧ sc.names.lookup x2 = some .local) ∧
    ([ar.arg, x1, x2].Nodup ∧ (nmOk ar.arg && nmOk x1 && nmOk x2) = true) ∧ (∃ o vs file tf, K.lookup cda = some o ∧ o.data = .fields vs ∧ vs[2]? = some (.str file tf) ∧ ((P.main.file : Str) == file) = true) ∧
    (∃ cl cld csl, K.lookup cc = some ⟨cl, cld, .cell (some (.ref C)), csl⟩) ∧ mg "super" = none ∧ (P.main.scope.names.lookup ("super" : Str)).isSome = false
end Z

/-! Z3: expressions: what the machine answers holds of the model. -/
namespace Z
open PySem PySem.Spec PyProof.Rows L2

def ExR (exs : EX) (x : Exc) (cls : Value) (dd : Option Addr) (B : Hp) : Prop := ∃ C, exs.cl x.cls = some C ∧ cls = .ref C ∧ XdOk B dd x
def ArgOk (K : PySem.W.Frag) (G : Gh) (H : Hp) (i : Nat) : Arg → V → Prop
  | .v d, x => Rp K (Bh G H) x d
  | .m c, x => ∃ a, x = .ref a ∧ MOk K G H i c a
  | .s ds, x => ∃ a vs, x = .ref a ∧ SqL K (Bh G H) a vs ∧ RpAll K (Bh G H) vs ds
  | .x _, _ => False
def ArgsOk (K : PySem.W.Frag) (G : Gh) (H : Hp) : Nat → List Arg → List V → Prop
  | _, [], [] => True
  | i, a :: as, x :: xs => ArgOk K G H i a x ∧ ArgsOk K G H (i + 1) as xs
  | _, _, _ => False
def OutsOk (K : PySem.W.Frag) (G : Gh) (H : Hp) : Nat → List (Option M) → List V → Prop
  | _, [], [] => True
  | i, o :: os, x :: xs => (∀ c, o = some c → ∃ a, x = .ref a ∧ MOk K G H i c a) ∧ OutsOk K G H (i + 1) os xs
  | _, _, _ => False
/-- a def's promise: what the machine answers -/
def spF (K : PySem.W.Frag) (exs : EX) (ar : Nat) (F : List Arg → Option (Out Val × List (Option M))) : Sp := fun vs H Q E =>
  ∃ G args o ms, vs.length = ar ∧ Tagd G H ∧ (∀ p, p ∈ exs.tb → G p.1 = .tb p.2) ∧ ArgsOk K G H 0 args vs ∧ F args = some (o, ms) ∧
    ∀ H' G', Ext G H G' H' → Tagd G' H' → OutsOk K G' H' 0 ms vs →
      match o with
      | .ok r => ∀ v, ValOk K G' H' r v → Q v H'
      | .ex x => ∀ cls dd, ExR exs x cls dd (Bh G' H') → E cls dd H'
/-- FnOk, with no repr running around -/
structure FnG (P : Program) (w : World) (K : PySem.W.Frag) (mg : Str → Option Value) (base : Heap) (k : Nat) (f : Addr) (fd : FuncData) (ps : List Str) (sp : Sp) : Prop where
  len : ∀ vs H Q E, sp vs H Q E → vs.length = ps.length
  run : ∀ (A : Around) (outer : List Env) (s : Shared) (H : Hp) (args : Args) (us : List Value) (vs : List V) (Q : VK) (E : XK), A.guards = some [] → Room k A → Env0 P w K mg base A outer s H →
    BindsTo s fd args (ps.zip us) → Vals vs us → sp vs H Q E → codeAny (model P w) A (.call (.ref f) args) (CR (L2.CX P w) outer P w H s Q E) s
def biNames : List Str := ["len", "sum", "max", "min", "all", "any", "int", "str", "repr", "tuple", "list", "bool", "abs", "sorted", "isinstance", "dict", "range", "enumerate", "zip", "set", "ValueError"]
/-- how a def's arguments bind: by places, and by the names in the orders that are told -/
def BK (K : PySem.W.Frag) (fd : FuncData) (i : FnI) : Prop := Binds K fd i.ps [] ∧
  ∀ q, q ∈ i.kws → ∀ (s : Shared) (us : List Value), us.length = q.1.length → BindsTo s fd ⟨[], q.1.zip us⟩ (i.ps.zip (q.2.map fun j => us.getD j .none))
structure FnAt (X : Cx) (Γ : Call) (exs : EX) (f : Nat) (i : FnI) : Prop where
  ex : ∃ a fd k, X.mg i.name = some (.ref a) ∧ PySem.W.keepIn X.K (.ref a) = true ∧ BK X.K fd i ∧ Room k X.A ∧ FnG X.prog X.w X.K X.mg X.base k a fd i.ps (spF X.K exs i.ps.length (Γ f))
/-- FnG, called with the exception that is handled -/
structure FnX (P : Program) (w : World) (K : PySem.W.Frag) (mg : Str → Option Value) (base : Heap) (f : Addr) (fd : FuncData) (ps : List Str) (sp : Addr × Obj → Sp) : Prop where
  len : ∀ p vs H Q E, sp p vs H Q E → vs.length = ps.length
  run : ∀ (A : Around) (outer : List Env) (s : Shared) (H : Hp) (args : Args) (us : List Value) (vs : List V) (Q : VK) (E : XK) (p : Addr × Obj), A.guards = some [] → L2H.RoomH 1 A → L2H.PinOk outer H s p → Env0 P w K mg base A outer s H →
    BindsTo s fd args (ps.zip us) → Vals vs us → sp p vs H Q E → codeAny (model P w) A (.call (.ref f) args) (CR C8.CX0 outer P w H s Q E) s
/-- what the handled exception is -/
def Held (exs : EX) (p : Addr × Obj) (d : Option Addr) (x : Exc) : Prop := ∃ D, exs.cl x.cls = some D ∧ Zc (.ref D) d p.2 ∧ ∃ vs, p.2.data = .fields vs
/-- the promise of a def that tells of it -/
def spX (K : PySem.W.Frag) (exs : EX) (F : Exc → Option (Out Val × List (Option M))) (p : Addr × Obj) : Sp := fun vs H Q _ =>
  ∃ G x d r ms, vs = [.ref p.1] ∧ Held exs p d x ∧ Tagd G H ∧ (∀ q, q ∈ exs.tb → G q.1 = .tb q.2) ∧ XdOk (Bh G H) d x ∧ F x = some (.ok r, ms) ∧ ∀ v H' G', Ext G H G' H' → Tagd G' H' → ValOk K G' H' r v → Q v H'
/-- the exceptions' classes, as the top left them -/
structure ExcsOk (K : PySem.W.Frag) (mg : Str → Option Value) (ex : Nat → Option ExI) (cl : Nat → Option Addr) : Prop where
  at_ : ∀ k i, ex k = some i → ∃ C, cl k = some C ∧ mg i.name = some (.ref C) ∧ PySem.W.keepIn K (.ref C) = true ∧ (k ≠ 0 → i.two = false → PySem.W.excIn K C [.type "ValueError", .type "Exception", .type "BaseException", .type "object"] "ValueError.__new__" = true)
  is_ : ∀ k j C D, cl k = some C → cl j = some D → PySem.W.subIn K (.ref C) (.ref D) = some (k == j || j == 0)
  ec : ∀ k C, cl k = some C → ExcC K C ∧ PySem.W.typeIn K (.ref C) = some (.type "type") ∧ (PySem.W.clsIn K C).isSome = true
  ve : ∀ k C, cl k = some C → PySem.W.subIn K (.ref C) (.type "ValueError") = some true
  fl : ∀ k C, cl k = some C → PySem.W.findIn K (.ref C) "amount" = some none ∧ PySem.W.findIn K (.ref C) "limit" = some none
/-- what a code is read by -/
structure CE where
  fns : Nat → Option FnI
  cons : List (Str × D)
  excs : Nat → Option ExI
  hot : Bool
  lam : Bool
  said : Str
  kind : Nat
/-- within a lambda that another def calls -/
def CE.deep (E : CE) : CE := { E with fns := fun f => if f < deepAt then none else E.fns (f - deepAt), hot := false, lam := false }
def saidB (a e on kn : Str) : List Stmt → Bool
  | [.Try [.Return (some (.Call (.Name r _) [.Call (.Name a2 _) [] [] _] [] _)) _] [.ExceptHandler (some (.Name on2 _)) (some e2) [.Return (some (.BinOp (.Constant (.str b) _ _) .Add (.Call (.Name kn2 _) [.Name e3 _] [] _) _)) _] _] [] [] _] =>
    decide (r = "repr") && decide (a2 = a) && decide (on2 = on) && decide (e2 = e) && decide (b = "! ") && decide (kn2 = kn) && decide (e3 = e)
  | _ => false
/-- .. as the top left it -/
structure SaidTop (K : PySem.W.Frag) (mg : Str → Option Value) (exs : EX) (sn kn : Str) : Prop where
  ex : ∃ (g : Addr) (pg : Arguments) (bg : List Stmt) (sg : Scope) (dV kV doc pm cdv ct oc : Value) (an od : Option Addr) (osl : Array (Option Value)) (a e on : Str) (C : Addr),
    mg sn = some (.ref g) ∧ PySem.W.keepIn K (.ref g) = true ∧ K.lookup g = some ⟨oc, od, .func (PySem.W.fnOf sn sn pg bg sg dV kV doc pm an cdv ct), osl⟩ ∧ PySem.W.codeIn K cdv sn = true ∧ L2.Binds K (PySem.W.fnOf sn sn pg bg sg dV kV doc pm an cdv ct) [a] [] ∧ FnScope [a, e] [a] sg ∧
    saidB a e on kn bg = true ∧ Vis sg a ∧ sg.names.lookup e = some .local ∧ sg.names.lookup ("repr" : Str) = some .globalImplicit ∧ sg.names.lookup on = some .globalImplicit ∧ sg.names.lookup kn = some .globalImplicit ∧ (nmOk a && nmOk e && nmOk on && nmOk kn) = true ∧
    mg "repr" = none ∧ mg on = some (.ref C) ∧ exs.cl 0 = some C
structure SaidDef (P : Program) (w : World) (K : PySem.W.Frag) (mg : Str → Option Value) (base : Heap) (exs : EX) (sn : Str) (F : Exc → Option (Out Val × List (Option M))) : Prop where
  ex : ∃ (kn : Str) (gk : Addr) (fk : FuncData) (pk : Str), SaidTop K mg exs sn kn ∧ mg kn = some (.ref gk) ∧ PySem.W.keepIn K (.ref gk) = true ∧ L2.Binds K fk [pk] [] ∧ FnX P w K mg base gk fk [pk] (spX K exs F)
/-- the def that calls a lambda, and tells what it answers or raises -/
structure SaidAt (X : Cx) (Γ : Call) (exs : EX) (E : CE) : Prop where
  ex : ∃ (k : Nat) (c P : Addr) (T : LamX.TabB X.base X.mg c P), X.env.code = .ref c ∧ (P, X.env.qual ++ "<lambda>") ∈ exs.tb ∧ Room (k + 2) X.A ∧
    ∀ f i, E.fns f = some i → ∃ a fd, X.mg i.name = some (.ref a) ∧ PySem.W.keepIn X.K (.ref a) = true ∧ BK X.K fd i ∧ FnG X.prog X.w X.K X.mg X.base k a fd i.ps (spF X.K exs i.ps.length (Γ (f + deepAt)))
structure Wf (X : Cx) (Γ : Call) (E : CE) (exs : EX) (sc : Scope) (asn : Str → Bool) : Prop where
  scp : X.env.scope = sc
  calm : E.hot = false → X.calm = true
  nd : X.N.Nodup
  gd : X.A.guards = some []
  un : X.A.units + 65 < cLine
  glb : ∀ (k : Nat) (x : Str) (d : D), E.cons[k]? = some (x, d) → ∃ u v, X.mg x = some u ∧ RelV v u ∧ ∀ B, Rp X.K B v d
  bi : ∀ x ∈ biNames, X.mg x = none
  fn : E.hot = false → ∀ (f : Nat) (i : FnI), E.fns f = some i → FnAt X Γ exs f i
  asn : ∀ x, asn x = true → L2.Loc sc x ∧ (X.fn x = true ∨ sc.names.lookup x = some .local)
  xs : ExcsOk X.K X.mg E.excs exs.cl
  hx : E.hot = true → ∀ a d x, exs.hx = some (a, d, x) → ∃ oe, (a, oe) ∈ X.pn ∧ Held exs (a, oe) d x
  lm : E.lam = true → SaidAt X Γ exs E
  sd : E.lam = true → SaidDef X.prog X.w X.K X.mg X.base exs E.said (fun x => Γ E.kind [.x x])
  tw : ∀ k i C, E.excs k = some i → i.two = true → exs.cl k = some C → Two X.prog X.K X.mg C

section
variable (X : Cx) (exs : EX)
def PX (σ : L2.St) (G : Gh) (H : Hp) (W : WX) (x : Exc) (g' : Sg) : Prop :=
  Takes X W ∧ ∀ cls dd H' G', Ext G H G' H' → SR X.K exs G' H' g' σ → ExR exs x cls dd (Bh G' H') → W cls dd σ H'
def Pv (σ : L2.St) (G : Gh) (H : Hp) (Q : VK) (W : WX) : Out Val × Sg → Prop
  | (.ok r, g') => ∀ v H' G', Ext G H G' H' → SR X.K exs G' H' g' σ → ValOk X.K G' H' r v → Q v H'
  | (.ex x, g') => PX X exs σ G H W x g'
def Pt (σ : L2.St) (G : Gh) (H : Hp) (Q : Bool → Hp → Prop) (W : WX) : Out Bool × Sg → Prop
  | (.ok b, g') => ∀ H' G', Ext G H G' H' → SR X.K exs G' H' g' σ → Q b H'
  | (.ex x, g') => PX X exs σ G H W x g'
def Snd (e : Expr) (f : Sg → R Val) : Prop := ∀ g r, f g = some r → ∀ σ H G Q W, SR X.K exs G H g σ → Pv X exs σ G H Q W r → WE X e σ H Q
def SndT (e : Expr) (f : Sg → R Bool) : Prop := ∀ g r, f g = some r → ∀ σ H G Q W, SR X.K exs G H g σ → Pt X exs σ G H Q W r → WT X e σ H Q
end
section
variable {X : Cx} {exs : EX} {σ : L2.St} {G G1 : Gh} {H H1 : Hp} {Q : VK} {W : WX} {e : Expr} {f : Sg → R Val} {g g1 : Sg}
theorem PX.next {x : Exc} (h : PX X exs σ G H W x g) (e : Ext G H G1 H1) : PX X exs σ G1 H1 W x g := ⟨h.1, fun c d H' G' w => h.2 c d H' G' (e.trans w)⟩
theorem Pv.ex {r : Out Val × Sg} (h : Pv X exs σ G H Q W r) : ∀ x g', r = (.ex x, g') → PX X exs σ G H W x g' := fun x g' e => by
  subst e
  exact h
theorem Pt.ex {Q : Bool → Hp → Prop} {r : Out Bool × Sg} (h : Pt X exs σ G H Q W r) : ∀ x g', r = (.ex x, g') → PX X exs σ G H W x g' := fun x g' e => by
  subst e
  exact h
theorem exNext {γ : Type} {r : Out γ × Sg} (h : ∀ x g', r = (.ex x, g') → PX X exs σ G H W x g') (e : Ext G H G1 H1) : ∀ x g', r = (.ex x, g') → PX X exs σ G1 H1 W x g' := fun x g' q => (h x g' q).next e
theorem Snd.use {γ : Type} {k : Val → Sg → R γ} {r : Out γ × Sg} (h : Snd X exs e f) (hr : bnd (f g) k = some r) (sr : SR X.K exs G H g σ) (hx : ∀ x g', r = (.ex x, g') → PX X exs σ G H W x g')
    (ok : ∀ x g1, k x g1 = some r → ∀ v H1 G1, Ext G H G1 H1 → SR X.K exs G1 H1 g1 σ → ValOk X.K G1 H1 x v → Q v H1) : WE X e σ H Q := by
  cases q : f g with
  | none =>
    rw [q] at hr
    cases hr
  | some z =>
    obtain ⟨o, g1⟩ := z
    rw [q] at hr
    cases o with
    | ok x => exact h g _ q σ H G Q W sr fun v H1 G1 e1 s1 r1 => ok x g1 hr v H1 G1 e1 s1 r1
    | ex x =>
      cases hr
      exact h g _ q σ H G Q W sr (hx x g1 rfl)
theorem Snd.useD {γ : Type} {k : Val → Sg → R γ} {r : Out γ × Sg} (h : Snd X exs e f) (hr : bnd (f g) k = some r) (sr : SR X.K exs G H g σ) (hx : ∀ x g', r = (.ex x, g') → PX X exs σ G H W x g')
    (ok : ∀ x g1, k x g1 = some r → ∀ v H1 G1, Ext G H G1 H1 → SR X.K exs G1 H1 g1 σ → Rp X.K (Bh G1 H1) v x.toD → Q v H1) : WE X e σ H Q :=
  h.use hr sr hx fun x g1 hk v H1 G1 e1 s1 r1 => by
    obtain ⟨G2, r2, w⟩ := r1.rp s1.tag
    exact ok x g1 hk v H1 G2 (e1.trans w.toExt) (s1.grow w) r2
theorem SndT.use {γ : Type} {ft : Sg → R Bool} {k : Bool → Sg → R γ} {r : Out γ × Sg} {Q : Bool → Hp → Prop} (h : SndT X exs e ft) (hr : bnd (ft g) k = some r) (sr : SR X.K exs G H g σ) (hx : ∀ x g', r = (.ex x, g') → PX X exs σ G H W x g')
    (ok : ∀ x g1, k x g1 = some r → ∀ H1 G1, Ext G H G1 H1 → SR X.K exs G1 H1 g1 σ → Q x H1) : WT X e σ H Q := by
  cases q : ft g with
  | none =>
    rw [q] at hr
    cases hr
  | some z =>
    obtain ⟨o, g1⟩ := z
    rw [q] at hr
    cases o with
    | ok x => exact h g _ q σ H G Q W sr fun H1 G1 e1 s1 => ok x g1 hr H1 G1 e1 s1
    | ex x =>
      cases hr
      exact h g _ q σ H G Q W sr (hx x g1 rfl)
theorem opt_some {α : Type} {o : Option α} {g : Sg} {r : Out α × Sg} (h : opt o g = some r) : ∃ a, o = some a ∧ r = (.ok a, g) := by
  cases o with
  | none => cases h
  | some a =>
    cases h
    exact ⟨a, rfl, rfl⟩
theorem ret_some {α : Type} {a : α} {g : Sg} {r : Out α × Sg} (h : ret a g = some r) : r = (.ok a, g) := by
  cases h
  rfl
theorem SR.at {i : Nat} {s : Sl} {K : PySem.W.Frag} (h : SR K exs G H g σ) (e : g[i]? = some s) : ∃ x, σ[i]? = some x ∧ SlOk K exs G H i s x := by
  have hl : i < g.length := by
    rcases Nat.lt_or_ge i g.length with q | q
    · exact q
    · rw [List.getElem?_eq_none q] at e
      cases e
  have h2 : i < σ.length := by rw [← h.len]; exact hl
  refine ⟨σ[i], List.getElem?_eq_getElem h2, ?_⟩
  have q := h.ok i s e
  rw [List.getD_eq_getElem?_getD, List.getElem?_eq_getElem h2] at q
  exact q
theorem SR.hold {i : Nat} {c : M} {K : PySem.W.Frag} (h : SR K exs G H g σ) (e : g[i]? = some (.ow c)) : ∃ v G', σ[i]? = some (some v) ∧ Ext G H G' H ∧ SR K exs G' H (g.set i (.im c.toD)) σ ∧ Rp K (Bh G' H) v c.toD := by
  obtain ⟨x, hx, a, rfl, hm⟩ := h.at e
  cases c with
  | l ds =>
    obtain ⟨t, vs, q, r⟩ := hm
    have ne : ∀ b, G b ≠ .sl i → b ≠ a := fun b z w => z (w ▸ t)
    have ex : Ext G H (tagAt G a .st) H := by
      refine ⟨fun b z => ⟨(tagAt_ne (ne b (by rw [z]; exact fun w => nomatch w))).trans z, rfl⟩, fun b z => ⟨(tagAt_ne (ne b (by rw [z]; exact fun w => nomatch w))).trans z, rfl⟩, fun b z => ?_, fun b q' z => (tagAt_ne (ne b (by rw [z]; exact fun w => nomatch w))).trans z⟩
      by_cases w : b = a
      · rw [w, tagAt_same] at z
        cases z
      · rw [tagAt_ne w] at z
        exact z
    have rp : Rp K (Bh (tagAt G a .st) H) (.ref a) (M.toD (.l ds)) := by
      refine .lst ?_ (r.mono ex.same)
      unfold Bh
      rw [if_pos tagAt_same]
      exact q
    refine ⟨.ref a, tagAt G a .st, hx, ex, ⟨by rw [List.length_set]; exact h.len, fun j s ej => ?_, h.tag.keep ex.same (fun b z => ?_) (fun b q' z => ?_) (fun b z => ?_) ex.tb (fun b z => h.tag.ls b ?_), fun p hp => ex.tb _ _ (h.tbs p hp)⟩, rp⟩
    · by_cases hj : i = j
      · subst hj
        have hl : i < g.length := by
          rcases Nat.lt_or_ge i g.length with q | q
          · exact q
          · rw [List.getElem?_eq_none q] at e
            cases e
        rw [List.getElem?_set_self hl] at ej
        cases ej
        refine ⟨.ref a, ?_, rp⟩
        rw [List.getD_eq_getElem?_getD, hx]
        rfl
      · rw [List.getElem?_set_ne hj] at ej
        refine (h.ok j s ej).keep ex.same fun b z => ⟨(tagAt_ne fun w => hj ?_).trans z, rfl⟩
        rw [w, t] at z
        exact Tag.sl.inj z
    · by_cases w : b = a
      · rw [w, q]
        exact fun z => nomatch z
      · rw [tagAt_ne w] at z
        exact h.tag.ne b z
    · by_cases w : b = a
      · rw [w, tagAt_same] at z
        cases z
      · rw [tagAt_ne w] at z
        exact ⟨z, rfl⟩
    · by_cases w : b = a
      · rw [w]
        exact .inr ⟨_, q, by intro ps z; cases z⟩
      · rw [tagAt_ne w] at z
        exact .inl ⟨z, rfl⟩
    · by_cases w : b = a
      · rw [w, tagAt_same] at z
        exact absurd rfl z.st
      · rw [tagAt_ne w] at z
        exact z

/-! ### leaves -/
variable {pos : Pos} {j : Nat}
theorem snd_int (i : Int) : Snd X exs (.Constant (.int i) j pos) fun g => ret (.v (.int i)) g := fun g r hr σ H G Q W sr post => by
  rw [ret_some hr] at post
  exact we_of pe_int (post _ H G (.refl _ _) sr (.int i))
theorem snd_bl (i : Bool) : Snd X exs (.Constant (.bool i) j pos) fun g => ret (.v (.bool i)) g := fun g r hr σ H G Q W sr post => by
  rw [ret_some hr] at post
  exact we_of pe_bl (post _ H G (.refl _ _) sr (.bl i))
theorem snd_non : Snd X exs (.Constant .none j pos) fun g => ret (.v .none) g := fun g r hr σ H G Q W sr post => by
  rw [ret_some hr] at post
  exact we_of pe_non (post _ H G (.refl _ _) sr .non)
theorem snd_str (x : Str) : Snd X exs (.Constant (.str x) j pos) fun g => ret (.v (.str x)) g := fun g r hr σ H G Q W sr post => by
  rw [ret_some hr] at post
  exact we_of pe_str (post _ H G (.refl _ _) sr (.str x))
theorem snd_var {i : Nat} {x : Str} (hN : X.N[i]? = some x) (hv : Vis X.env.scope x) (hd : (x == ("__debug__" : Str)) = false) (hcd : (x == ("__classdict__" : Str)) = false) :
    Snd X exs (.Name x pos) fun g => match g[i]? with
      | some (.im d) => ret (.v d) g
      | some (.ow c) => ret (.v c.toD) (g.set i (.im c.toD))
      | _ => none := fun g r hr σ H G Q W sr post => by
  refine we_of (pe_var hN hv hd hcd) ?_
  dsimp only at hr
  split at hr
  · rename_i d e
    rw [ret_some hr] at post
    obtain ⟨y, hy, v, rfl, rv⟩ := sr.at e
    exact ⟨v, hy, post v H G (.refl _ _) sr rv⟩
  · rename_i c e
    rw [ret_some hr] at post
    obtain ⟨v, G', hy, ex, s', rv⟩ := sr.hold e
    exact ⟨v, hy, post v H G' ex s' rv⟩
  · cases hr
theorem snd_glb {cons : List (Str × D)} {k : Nat} {x : Str} {d : D} (hk : cons[k]? = some (x, d)) (hg : Gl X x) (hm : ∃ u v, X.mg x = some u ∧ RelV v u ∧ ∀ B, Rp X.K B v d) (hd : (x == ("__debug__" : Str)) = false) :
    Snd X exs (.Name x pos) fun g => match cons[k]? with
      | some p => ret (.v p.2) g
      | none => none := fun g r hr σ H G Q W sr post => by
  obtain ⟨u, v, e, rv, rd⟩ := hm
  dsimp only at hr
  rw [hk] at hr
  rw [ret_some hr] at post
  exact we_of (pe_glob hg e rv hd) (post v H G (.refl _ _) sr (rd _))

/-! ### operators -/
variable {a b c : Expr} {fa fb fc : Sg → R Val}
theorem snd_bin (o : BOp) (ha : Snd X exs a fa) (hb : Snd X exs b fb) : Snd X exs (.BinOp a (opOf o) b pos) fun g => bnd (fa g) fun x g => bnd (fb g) fun y g => opt (binD o x.toD y.toD) g :=
  fun g r hr σ H G Q W sr post => by
  refine we_of (pe_op (op_bin o) we_max we_max) ?_
  refine ha.useD hr sr post.ex fun x g1 h1 v H1 G1 e1 s1 r1 => ?_
  refine hb.useD h1 s1 (exNext post.ex e1) fun y g2 h2 w H2 G2 e2 s2 r2 => ?_
  obtain ⟨z, hz, rfl⟩ := opt_some h2
  exact ⟨G2, _, _, z, s2.tag, r1.mono e2.same, r2, hz, fun u H' G' gr rv => post u H' G' (e1.trans (e2.trans gr.toExt)) (s2.grow gr) rv⟩
theorem snd_frz {a : Expr} {fa : Sg → R Val} (ha : Snd X exs a fa) : Snd X exs a fun g => bnd (fa g) fun x g => ret (.v x.toD) g := fun g r hr σ H G Q W sr post => by
  refine ha.useD hr sr (Pv.ex post) fun x g1 h1 v H1 G1 e1 s1 r1 => ?_
  have h2 := ret_some h1
  subst h2
  exact post v H1 G1 e1 s1 r1
theorem snd_neg (ha : Snd X exs a fa) : Snd X exs (.UnaryOp .USub a pos) fun g => bnd (fa g) fun x g => match x with
    | .v (.int i) => ret (.v (.int (-i))) g
    | _ => none := fun g r hr σ H G Q W sr post => by
  refine we_of (pe_un un_neg we_max) ?_
  refine ha.useD hr sr post.ex fun x g1 h1 v H1 G1 e1 s1 r1 => ?_
  split at h1
  · rw [ret_some h1] at post
    exact ⟨_, rp_int r1, post _ H1 G1 e1 s1 (.int _)⟩
  · cases h1
theorem snd_cmp (hu : X.A.units + 65 < cLine) (o : COp) (ha : Snd X exs a fa) (hb : Snd X exs b fb) (hm : behindInMarks (copOf o) b = false) :
    Snd X exs (.Compare a [copOf o] [b] pos) fun g => bnd (fa g) fun x g => bnd (fb g) fun y g => opt ((cmpD o x.toD y.toD).map fun b => .v (.bool b)) g := fun g r hr σ H G Q W sr post => by
  refine we_of (pe_cmpR (op_cmp hu o) we_max we_max hm) ?_
  refine ha.useD hr sr post.ex fun x g1 h1 v H1 G1 e1 s1 r1 => ?_
  refine hb.useD h1 s1 (exNext post.ex e1) fun y g2 h2 w H2 G2 e2 s2 r2 => ?_
  obtain ⟨z, hz, rfl⟩ := opt_some h2
  obtain ⟨k, hk, rfl⟩ := Option.map_eq_some_iff.mp hz
  exact ⟨G2, _, _, k, s2.tag, r1.mono e2.same, r2, hk, post _ H2 G2 (e1.trans e2) s2 (.bl _)⟩
theorem sndT_cmp (hu : X.A.units + 65 < cLine) (o : COp) (ha : Snd X exs a fa) (hb : Snd X exs b fb) (hm : behindInMarks (copOf o) b = false) :
    SndT X exs (.Compare a [copOf o] [b] pos) fun g => bnd (fa g) fun x g => bnd (fb g) fun y g => opt (cmpD o x.toD y.toD) g := fun g r hr σ H G Q W sr post => by
  refine wt_of (pt_cmpR (op_cmp hu o) we_max we_max hm) ?_
  refine ha.useD hr sr post.ex fun x g1 h1 v H1 G1 e1 s1 r1 => ?_
  refine hb.useD h1 s1 (exNext post.ex e1) fun y g2 h2 w H2 G2 e2 s2 r2 => ?_
  obtain ⟨k, hk, rfl⟩ := opt_some h2
  exact ⟨G2, _, _, k, s2.tag, r1.mono e2.same, r2, hk, k, rfl, post H2 G2 (e1.trans e2) s2⟩
theorem snd_chain (hu : X.A.units + 65 < cLine) (o p : COp) (ha : Snd X exs a fa) (hb : Snd X exs b fb) (hc : Snd X exs c fc) (hm : behindInMarks (copOf p) c = false) :
    Snd X exs (.Compare a [copOf o, copOf p] [b, c] pos) fun g => bnd (fa g) fun x g => bnd (fb g) fun y g => match cmpD o x.toD y.toD with
      | some true => bnd (fc g) fun z g => opt ((cmpD p y.toD z.toD).map fun b => .v (.bool b)) g
      | some false => ret (.v (.bool false)) g
      | none => none := fun g r hr σ H G Q W sr post => by
  refine we_of (pe_chain (op_cmp hu o) (op_cmp hu p) we_max we_max we_max hm) ?_
  refine ha.useD hr sr post.ex fun x g1 h1 v H1 G1 e1 s1 r1 => ?_
  refine hb.useD h1 s1 (exNext post.ex e1) fun y g2 h2 w H2 G2 e2 s2 r2 => ?_
  split at h2
  · rename_i hk
    refine ⟨G2, _, _, true, s2.tag, r1.mono e2.same, r2, hk, true, rfl, ?_⟩
    rw [if_pos rfl]
    refine hc.useD h2 s2 (exNext post.ex (e1.trans e2)) fun z g3 h3 w' H3 G3 e3 s3 r3 => ?_
    obtain ⟨q, hq, rfl⟩ := opt_some h3
    obtain ⟨k, hk, rfl⟩ := Option.map_eq_some_iff.mp hq
    exact ⟨G3, _, _, k, s3.tag, r2.mono e3.same, r3, hk, post _ H3 G3 (e1.trans (e2.trans e3)) s3 (.bl _)⟩
  · rename_i hk
    rw [ret_some h2] at post
    refine ⟨G2, _, _, false, s2.tag, r1.mono e2.same, r2, hk, false, rfl, ?_⟩
    rw [if_neg Bool.false_ne_true]
    exact post _ H2 G2 (e1.trans e2) s2 (.bl _)
  · cases h2
theorem sndT_chain (hu : X.A.units + 65 < cLine) (o p : COp) (ha : Snd X exs a fa) (hb : Snd X exs b fb) (hc : Snd X exs c fc) (hm : behindInMarks (copOf p) c = false) :
    SndT X exs (.Compare a [copOf o, copOf p] [b, c] pos) fun g => bnd (fa g) fun x g => bnd (fb g) fun y g => match cmpD o x.toD y.toD with
      | some true => bnd (fc g) fun z g => opt (cmpD p y.toD z.toD) g
      | some false => ret false g
      | none => none := fun g r hr σ H G Q W sr post => by
  refine wt_of (pt_chain (op_cmp hu o) (op_cmp hu p) we_max we_max we_max hm) ?_
  refine ha.useD hr sr post.ex fun x g1 h1 v H1 G1 e1 s1 r1 => ?_
  refine hb.useD h1 s1 (exNext post.ex e1) fun y g2 h2 w H2 G2 e2 s2 r2 => ?_
  split at h2
  · rename_i hk
    refine ⟨G2, _, _, true, s2.tag, r1.mono e2.same, r2, hk, true, rfl, ?_⟩
    rw [if_pos rfl]
    refine hc.useD h2 s2 (exNext post.ex (e1.trans e2)) fun z g3 h3 w' H3 G3 e3 s3 r3 => ?_
    obtain ⟨k, hk, rfl⟩ := opt_some h3
    exact ⟨G3, _, _, k, s3.tag, r2.mono e3.same, r3, hk, k, rfl, post H3 G3 (e1.trans (e2.trans e3)) s3⟩
  · rename_i hk
    rw [ret_some h2] at post
    refine ⟨G2, _, _, false, s2.tag, r1.mono e2.same, r2, hk, false, rfl, ?_⟩
    rw [if_neg Bool.false_ne_true]
    exact ⟨false, rfl, post H2 G2 (e1.trans e2) s2⟩
  · cases h2

/-! ### tests -/
def tr (f : Sg → R Val) : Sg → R Bool := fun g => bnd (f g) fun x g => opt (truth x.toD) g
theorem SndT.congr {f f' : Sg → R Bool} (h : SndT X exs e f) (q : ∀ g, f' g = f g) : SndT X exs e f' := fun g r hr => h g r ((q g).symm.trans hr)
/-- where no other road is laid for a test -/
def plainTest : Expr → Bool
  | .UnaryOp .Not _ _ => false
  | .BoolOp _ _ _ => false
  | .IfExp _ _ _ _ => false
  | .Compare _ _ _ _ => false
  | _ => true
theorem isTrue_of {e : Expr} (h : plainTest e = true) (env : Env) (whole : Sem Value) : isTrue e env whole = (do let v ← whole; standAt e.pos; holding [v] (truthy v)) := by
  cases e <;> first
    | rfl
    | (simp [plainTest] at h; done)
    | (rename_i op _ _; cases op <;> first | rfl | (simp [plainTest] at h; done))
theorem sndT_plain (h : plainTest e = true) (ha : Snd X exs e f) : SndT X exs e (tr f) := fun g r hr σ H G Q W sr post => by
  refine wt_of (pt_truth we_max (fun whole => isTrue_of h _ _)) ?_
  refine ha.useD hr sr post.ex fun x g1 h1 v H1 G1 e1 s1 r1 => ?_
  obtain ⟨k, hk, rfl⟩ := opt_some h1
  exact ⟨k, truth_ok r1 hk, post H1 G1 e1 s1⟩
theorem sndT_cmp' (hu : X.A.units + 65 < cLine) (o : COp) (ha : Snd X exs a fa) (hb : Snd X exs b fb) (hm : behindInMarks (copOf o) b = false) :
    SndT X exs (.Compare a [copOf o] [b] pos) (tr fun g => bnd (fa g) fun x g => bnd (fb g) fun y g => opt ((cmpD o x.toD y.toD).map fun b => .v (.bool b)) g) :=
  (sndT_cmp hu o ha hb hm).congr fun g => by
    simp only [tr, bnd]
    rcases fa g with _ | ⟨x | x, g1⟩
    · rfl
    · dsimp only
      rcases fb g1 with _ | ⟨y | y, g2⟩
      · rfl
      · dsimp only
        cases cmpD o x.toD y.toD <;> rfl
      · rfl
    · rfl
theorem sndT_chain' (hu : X.A.units + 65 < cLine) (o p : COp) (ha : Snd X exs a fa) (hb : Snd X exs b fb) (hc : Snd X exs c fc) (hm : behindInMarks (copOf p) c = false) :
    SndT X exs (.Compare a [copOf o, copOf p] [b, c] pos) (tr fun g => bnd (fa g) fun x g => bnd (fb g) fun y g => match cmpD o x.toD y.toD with
      | some true => bnd (fc g) fun z g => opt ((cmpD p y.toD z.toD).map fun b => .v (.bool b)) g
      | some false => ret (.v (.bool false)) g
      | none => none) :=
  (sndT_chain hu o p ha hb hc hm).congr fun g => by
    simp only [tr, bnd]
    rcases fa g with _ | ⟨x | x, g1⟩
    · rfl
    · dsimp only
      rcases fb g1 with _ | ⟨y | y, g2⟩
      · rfl
      · dsimp only
        rcases cmpD o x.toD y.toD with _ | _ | _
        · rfl
        · rfl
        · dsimp only
          rcases fc g2 with _ | ⟨z | z, g3⟩
          · rfl
          · dsimp only
            cases cmpD p y.toD z.toD <;> rfl
          · rfl
      · rfl
    · rfl
theorem snd_not (ha : Snd X exs a fa) : Snd X exs (.UnaryOp .Not a pos) fun g => bnd (fa g) fun x g => opt ((truth x.toD).map fun b => .v (.bool (!b))) g := fun g r hr σ H G Q W sr post => by
  refine we_of (pe_notT we_max) ?_
  refine ha.useD hr sr post.ex fun x g1 h1 v H1 G1 e1 s1 r1 => ?_
  obtain ⟨z, hz, rfl⟩ := opt_some h1
  obtain ⟨k, hk, rfl⟩ := Option.map_eq_some_iff.mp hz
  exact ⟨k, truth_ok r1 hk, post _ H1 G1 e1 s1 (.bl _)⟩
theorem sndT_not (ha : SndT X exs a (tr fa)) : SndT X exs (.UnaryOp .Not a pos) (tr fun g => bnd (fa g) fun x g => opt ((truth x.toD).map fun b => .v (.bool (!b))) g) := by
  have h : SndT X exs (.UnaryOp .Not a pos) fun g => bnd (tr fa g) fun k g => ret (!k) g := fun g r hr σ H G Q W sr post => by
    refine wt_of (pt_not wt_max) ?_
    refine ha.use hr sr post.ex fun k g1 h1 H1 G1 e1 s1 => ?_
    rw [ret_some h1] at post
    exact post H1 G1 e1 s1
  refine h.congr fun g => ?_
  simp only [tr, bnd]
  rcases fa g with _ | ⟨x | x, g1⟩
  · rfl
  · dsimp only
    cases truth x.toD <;> rfl
  · rfl
/-- a chain of and, or from its second part on: one part alone, or a chain again -/
def Rest (X : Cx) (op : BoolOp) (es : List Expr) (pos : Pos) (b : Expr) : Prop := es = [b] ∨ b = .BoolOp op es pos
theorem rest_pe {op : BoolOp} {es : List Expr} {b : Expr} (h : Rest X op es pos b) : PE X (.BoolOp op es pos) (WE X b) := by
  rcases h with rfl | rfl
  · exact pe_one we_max
  · exact we_max
theorem rest_pw {op : BoolOp} {es : List Expr} {b : Expr} (h : Rest X op es pos b) : PW X (.BoolOp op es pos) (WT X b) := by
  rcases h with rfl | rfl
  · cases op with
    | And => exact pw_and1 wt_max
    | Or => exact pw_or1 wt_max
  · exact ⟨fun whole pins s σ H Q I h => h pins s I⟩
theorem snd_and {e2 : Expr} {r : List Expr} (hR : Rest X .And (e2 :: r) pos b) (ha : Snd X exs a fa) (hb : Snd X exs b fb) :
    Snd X exs (.BoolOp .And (a :: e2 :: r) pos) fun g => bnd (fa g) fun x g => match x with
      | .v (.bool true) => fb g
      | .v (.bool false) => ret (.v (.bool false)) g
      | _ => none := fun g r hr σ H G Q W sr post => by
  refine we_of (pe_and we_max (rest_pe hR)) ?_
  refine ha.useD hr sr post.ex fun x g1 h1 v H1 G1 e1 s1 r1 => ?_
  split at h1
  · refine ⟨true, rp_bl r1, ?_⟩
    rw [if_pos rfl]
    refine hb g1 _ h1 σ H1 G1 Q W s1 ?_
    obtain ⟨o, g2⟩ := r
    cases o with
    | ok y => exact fun v H2 G2 e2 => post v H2 G2 (e1.trans e2)
    | ex y => exact PX.next post e1
  · rw [ret_some h1] at post
    refine ⟨false, rp_bl r1, ?_⟩
    rw [if_neg Bool.false_ne_true]
    exact post _ H1 G1 e1 s1 (.bl _)
  · cases h1
theorem snd_or {e2 : Expr} {r : List Expr} (hR : Rest X .Or (e2 :: r) pos b) (ha : Snd X exs a fa) (hb : Snd X exs b fb) :
    Snd X exs (.BoolOp .Or (a :: e2 :: r) pos) fun g => bnd (fa g) fun x g => match x with
      | .v (.bool true) => ret (.v (.bool true)) g
      | .v (.bool false) => fb g
      | _ => none := fun g r hr σ H G Q W sr post => by
  refine we_of (pe_or we_max (rest_pe hR)) ?_
  refine ha.useD hr sr post.ex fun x g1 h1 v H1 G1 e1 s1 r1 => ?_
  split at h1
  · rw [ret_some h1] at post
    refine ⟨true, rp_bl r1, ?_⟩
    rw [if_pos rfl]
    exact post _ H1 G1 e1 s1 (.bl _)
  · refine ⟨false, rp_bl r1, ?_⟩
    rw [if_neg Bool.false_ne_true]
    refine hb g1 _ h1 σ H1 G1 Q W s1 ?_
    obtain ⟨o, g2⟩ := r
    cases o with
    | ok y => exact fun v H2 G2 e2 => post v H2 G2 (e1.trans e2)
    | ex y => exact PX.next post e1
  · cases h1
theorem sndT_and {e2 : Expr} {r : List Expr} (hR : Rest X .And (e2 :: r) pos b) (ha : SndT X exs a (tr fa)) (hb : SndT X exs b (tr fb)) :
    SndT X exs (.BoolOp .And (a :: e2 :: r) pos) (tr fun g => bnd (fa g) fun x g => match x with
      | .v (.bool true) => fb g
      | .v (.bool false) => ret (.v (.bool false)) g
      | _ => none) := fun g r hr σ H G Q W sr post => by
  refine wt_of (PW.pt (pw_and wt_max (rest_pw hR))) ?_
  have hr2 : bnd (tr fa g) (fun k g => if k = true then tr fb g else ret false g) = some r := by
    simp only [tr, bnd] at hr ⊢
    revert hr
    rcases fa g with _ | ⟨x | x, g1⟩
    · exact fun h => h
    · intro h
      cases x with
      | m c => cases h
      | v d =>
        cases d with
        | bool k => cases k <;> exact h
        | none => cases h
        | int _ => cases h
        | str _ => cases h
        | list _ => cases h
        | tuple _ => cases h
        | dict _ => cases h
    · exact fun h => h
  refine ha.use hr2 sr post.ex fun k g1 h1 H1 G1 e1 s1 => ?_
  cases k with
  | true =>
    rw [if_pos rfl] at h1 ⊢
    refine hb g1 _ h1 σ H1 G1 Q W s1 ?_
    obtain ⟨o, g2⟩ := r
    cases o with
    | ok y => exact fun H2 G2 e2 => post H2 G2 (e1.trans e2)
    | ex y => exact PX.next post e1
  | false =>
    rw [if_neg Bool.false_ne_true] at h1 ⊢
    rw [ret_some h1] at post
    exact post H1 G1 e1 s1
theorem sndT_or {e2 : Expr} {r : List Expr} (hR : Rest X .Or (e2 :: r) pos b) (ha : SndT X exs a (tr fa)) (hb : SndT X exs b (tr fb)) :
    SndT X exs (.BoolOp .Or (a :: e2 :: r) pos) (tr fun g => bnd (fa g) fun x g => match x with
      | .v (.bool true) => ret (.v (.bool true)) g
      | .v (.bool false) => fb g
      | _ => none) := fun g r hr σ H G Q W sr post => by
  refine wt_of (PW.pt (pw_or wt_max (rest_pw hR))) ?_
  have hr2 : bnd (tr fa g) (fun k g => if k = true then ret true g else tr fb g) = some r := by
    simp only [tr, bnd] at hr ⊢
    revert hr
    rcases fa g with _ | ⟨x | x, g1⟩
    · exact fun h => h
    · intro h
      cases x with
      | m c => cases h
      | v d =>
        cases d with
        | bool k => cases k <;> exact h
        | none => cases h
        | int _ => cases h
        | str _ => cases h
        | list _ => cases h
        | tuple _ => cases h
        | dict _ => cases h
    · exact fun h => h
  refine ha.use hr2 sr post.ex fun k g1 h1 H1 G1 e1 s1 => ?_
  cases k with
  | true =>
    rw [if_pos rfl] at h1 ⊢
    rw [ret_some h1] at post
    exact post H1 G1 e1 s1
  | false =>
    rw [if_neg Bool.false_ne_true] at h1 ⊢
    refine hb g1 _ h1 σ H1 G1 Q W s1 ?_
    obtain ⟨o, g2⟩ := r
    cases o with
    | ok y => exact fun H2 G2 e2 => post H2 G2 (e1.trans e2)
    | ex y => exact PX.next post e1
theorem snd_ite (hc : SndT X exs c (tr fc)) (ha : Snd X exs a fa) (hb : Snd X exs b fb) : Snd X exs (.IfExp c a b pos) fun g => bnd (fc g) fun x g => match truth x.toD with
    | some true => fa g
    | some false => fb g
    | none => none := fun g r hr σ H G Q W sr post => by
  refine we_of (pe_ifExp wt_max we_max we_max) ?_
  have hr2 : bnd (tr fc g) (fun k g => if k = true then fa g else fb g) = some r := by
    simp only [tr, bnd] at hr ⊢
    revert hr
    rcases fc g with _ | ⟨x | x, g1⟩
    · exact fun h => h
    · dsimp only
      intro h
      cases ht : truth x.toD with
      | none =>
        rw [ht] at h
        cases h
      | some k =>
        rw [ht] at h
        cases k <;> exact h
    · exact fun h => h
  refine hc.use hr2 sr post.ex fun k g1 h1 H1 G1 e1 s1 => ?_
  have go : ∀ {d : Expr} {fd : Sg → R Val}, Snd X exs d fd → fd g1 = some r → WE X d σ H1 Q := fun {d fd} hd h1 => by
    refine hd g1 _ h1 σ H1 G1 Q W s1 ?_
    obtain ⟨o, g2⟩ := r
    cases o with
    | ok y => exact fun v H2 G2 e2 => post v H2 G2 (e1.trans e2)
    | ex y => exact PX.next post e1
  cases k with
  | true =>
    rw [if_pos rfl] at h1 ⊢
    exact go ha h1
  | false =>
    rw [if_neg Bool.false_ne_true] at h1 ⊢
    exact go hb h1
end
end Z

/-! Z4: argument lists, subscripts, built-ins, calls. -/
namespace Z
open PySem PySem.Spec PyProof.Rows L2

section
variable (X : Cx) (exs : EX)
/-- a list of data -/
def Pds (σ : L2.St) (G : Gh) (H : Hp) (Q : List V → Hp → Prop) (W : WX) : Out (List D) × Sg → Prop
  | (.ok ds, g') => ∀ vs H' G', Ext G H G' H' → SR X.K exs G' H' g' σ → RpAll X.K (Bh G' H') vs ds → Q vs H'
  | (.ex x, g') => PX X exs σ G H W x g'
def SndA (es : List Expr) (f : Sg → R (List D)) : Prop := ∀ g r, f g = some r → ∀ σ H G Q W, SR X.K exs G H g σ → Pds X exs σ G H Q W r → WA X es σ H Q
/-- arguments: data, or the value of a slot -/
def ArOk (K : PySem.W.Frag) (B : Hp) (σ : L2.St) : Ar → V → Prop
  | .v d, x => Rp K B x d
  | .b i, x => σ[i]? = some (some x)
def ArsOk (K : PySem.W.Frag) (B : Hp) (σ : L2.St) : List Ar → List V → Prop
  | [], [] => True
  | a :: as, x :: xs => ArOk K B σ a x ∧ ArsOk K B σ as xs
  | _, _ => False
def Pars (σ : L2.St) (G : Gh) (H : Hp) (Q : List V → Hp → Prop) (W : WX) : Out (List Ar) × Sg → Prop
  | (.ok rs, g') => ∀ vs H' G', Ext G H G' H' → SR X.K exs G' H' g' σ → ArsOk X.K (Bh G' H') σ rs vs → Q vs H'
  | (.ex x, g') => PX X exs σ G H W x g'
def SndR (es : List Expr) (f : Sg → R (List Ar)) : Prop := ∀ g r, f g = some r → ∀ σ H G Q W, SR X.K exs G H g σ → Pars X exs σ G H Q W r → WA X es σ H Q
end
theorem ArsOk.mono {K : PySem.W.Frag} {B B' : Hp} {σ : L2.St} (e : Same B B') : ∀ {rs : List Ar} {vs : List V}, ArsOk K B σ rs vs → ArsOk K B' σ rs vs
  | [], [], _ => trivial
  | [], _ :: _, h => h
  | _ :: _, [], h => h
  | .v _ :: _, _ :: _, h => ⟨h.1.mono e, ArsOk.mono e h.2⟩
  | .b _ :: _, _ :: _, h => ⟨h.1, ArsOk.mono e h.2⟩
def notStar : Expr → Bool
  | .Starred _ _ => false
  | _ => true
theorem star_of {e : Expr} {es : List Expr} {env : Env} (h : notStar e = true) : starEach (e :: es) env = (false, eval e env) :: starEach es env := by
  cases e <;> first | rfl | (simp [notStar] at h)
theorem noStars : ∀ {es : List Expr} {env : Env} {pos : Pos}, es.all notStar = true → (backTo pos (starEach es env)).any (·.1) = false
  | [], _, _, _ => rfl
  | e :: es, env, pos, h => by
    rw [List.all_cons, Bool.and_eq_true] at h
    rw [star_of h.1]
    show (false || (backTo pos (starEach es env)).any (·.1)) = false
    rw [noStars h.2]
    rfl
section
variable {X : Cx} {exs : EX} {σ : L2.St} {G G1 : Gh} {H H1 : Hp} {Q : VK} {W : WX} {e : Expr} {f : Sg → R Val} {g g1 : Sg} {pos : Pos} {es : List Expr}
theorem sndA_nil : SndA X exs [] fun g => ret [] g := fun g r hr σ H G Q W sr post => by
  rw [ret_some hr] at post
  exact wa_of pa_nil (post [] H G (.refl _ _) sr .nil)
theorem SndA.use {γ : Type} {fs : Sg → R (List D)} {k : List D → Sg → R γ} {r : Out γ × Sg} {Q : List V → Hp → Prop} (h : SndA X exs es fs) (hr : bnd (fs g) k = some r) (sr : SR X.K exs G H g σ) (hx : ∀ x g', r = (.ex x, g') → PX X exs σ G H W x g')
    (ok : ∀ ds g1, k ds g1 = some r → ∀ vs H1 G1, Ext G H G1 H1 → SR X.K exs G1 H1 g1 σ → RpAll X.K (Bh G1 H1) vs ds → Q vs H1) : WA X es σ H Q := by
  cases q : fs g with
  | none =>
    rw [q] at hr
    cases hr
  | some z =>
    obtain ⟨o, g1⟩ := z
    rw [q] at hr
    cases o with
    | ok x => exact h g _ q σ H G Q W sr fun v H1 G1 e1 s1 r1 => ok x g1 hr v H1 G1 e1 s1 r1
    | ex x =>
      cases hr
      exact h g _ q σ H G Q W sr (hx x g1 rfl)
theorem SndR.use {γ : Type} {fs : Sg → R (List Ar)} {k : List Ar → Sg → R γ} {r : Out γ × Sg} {Q : List V → Hp → Prop} (h : SndR X exs es fs) (hr : bnd (fs g) k = some r) (sr : SR X.K exs G H g σ) (hx : ∀ x g', r = (.ex x, g') → PX X exs σ G H W x g')
    (ok : ∀ ds g1, k ds g1 = some r → ∀ vs H1 G1, Ext G H G1 H1 → SR X.K exs G1 H1 g1 σ → ArsOk X.K (Bh G1 H1) σ ds vs → Q vs H1) : WA X es σ H Q := by
  cases q : fs g with
  | none =>
    rw [q] at hr
    cases hr
  | some z =>
    obtain ⟨o, g1⟩ := z
    rw [q] at hr
    cases o with
    | ok x => exact h g _ q σ H G Q W sr fun v H1 G1 e1 s1 r1 => ok x g1 hr v H1 G1 e1 s1 r1
    | ex x =>
      cases hr
      exact h g _ q σ H G Q W sr (hx x g1 rfl)
theorem sndA_cons {fs : Sg → R (List D)} (hn : notStar e = true) (ha : Snd X exs e f) (hs : SndA X exs es fs) : SndA X exs (e :: es) fun g => bnd (f g) fun x g => bnd (fs g) fun xs g => ret (x.toD :: xs) g :=
  fun g r hr σ H G Q W sr post => by
  refine wa_of (pa_cons we_max wa_max (star_of hn)) ?_
  have px : ∀ x g', r = (.ex x, g') → PX X exs σ G H W x g' := fun x g' e => by
    subst e
    exact post
  refine ha.useD hr sr px fun x g1 h1 v H1 G1 e1 s1 r1 => ?_
  refine hs.use h1 s1 (exNext px e1) fun xs g2 h2 vs H2 G2 e2 s2 r2 => ?_
  rw [ret_some h2] at post
  exact post (v :: vs) H2 G2 (e1.trans e2) s2 (.cons (r1.mono e2.same) r2)
theorem sndA_star {p : Pos} {fs : Sg → R (List D)} (ha : Snd X exs e f) (hs : SndA X exs es fs) : SndA X exs (.Starred e p :: es) fun g => bnd (f g) fun x g => match seqD x.toD with
    | some ds => bnd (fs g) fun xs g => ret (ds ++ xs) g
    | none => none :=
  fun g r hr σ H G Q W sr post => by
  refine wa_of (StX.pa_star we_max wa_max) ?_
  have px : ∀ x g', r = (.ex x, g') → PX X exs σ G H W x g' := fun x g' e => by
    subst e
    exact post
  refine ha.useD hr sr px fun x g1 h1 v H1 G1 e1 s1 r1 => ?_
  generalize x.toD = d at h1 r1
  have fin : ∀ (ds : List D) (xs : List V), RpAll X.K (Bh G1 H1) xs ds → (bnd (fs g1) fun ys g => ret (ds ++ ys) g) = some r → WA X es σ H1 fun ys H2 => Q (xs ++ ys) H2 := fun ds xs ra h1 => by
    refine hs.use h1 s1 (exNext px e1) fun ys g2 h2 vs H2 G2 e2 s2 r2 => ?_
    rw [ret_some h2] at post
    exact post (xs ++ vs) H2 G2 (e1.trans e2) s2 ((ra.mono e2.same).app r2)
  cases d with
  | list ds =>
    obtain ⟨a, xs, rfl, h2, ra⟩ := rp_lst r1
    exact ⟨a, xs, rfl, .inr (SqL.of h2), fin ds xs ra h1⟩
  | tuple ds =>
    obtain ⟨a, xs, rfl, h2, ra⟩ := rp_tup r1
    exact ⟨a, xs, rfl, .inl h2, fin ds xs ra h1⟩
  | none => cases h1
  | bool _ => cases h1
  | int _ => cases h1
  | str _ => cases h1
  | dict _ => cases h1
theorem sndR_nil : SndR X exs [] fun g => ret [] g := fun g r hr σ H G Q W sr post => by
  rw [ret_some hr] at post
  exact wa_of pa_nil (post [] H G (.refl _ _) sr trivial)
theorem sndR_val {fs : Sg → R (List Ar)} (hn : notStar e = true) (ha : Snd X exs e f) (hs : SndR X exs es fs) : SndR X exs (e :: es) fun g => bnd (f g) fun x g => bnd (fs g) fun xs g => ret (.v x.toD :: xs) g :=
  fun g r hr σ H G Q W sr post => by
  refine wa_of (pa_cons we_max wa_max (star_of hn)) ?_
  have px : ∀ x g', r = (.ex x, g') → PX X exs σ G H W x g' := fun x g' e => by
    subst e
    exact post
  refine ha.useD hr sr px fun x g1 h1 v H1 G1 e1 s1 r1 => ?_
  refine hs.use h1 s1 (exNext px e1) fun xs g2 h2 vs H2 G2 e2 s2 r2 => ?_
  rw [ret_some h2] at post
  exact post (v :: vs) H2 G2 (e1.trans e2) s2 ⟨r1.mono e2.same, r2⟩
theorem sndR_bor {fs : Sg → R (List Ar)} {i : Nat} {x : Str} (hN : X.N[i]? = some x) (hv : Vis X.env.scope x) (hd : (x == ("__debug__" : Str)) = false) (hcd : (x == ("__classdict__" : Str)) = false) (hs : SndR X exs es fs) :
    SndR X exs (.Name x pos :: es) fun g => if slotIn g i then bnd (fs g) fun xs g => ret (.b i :: xs) g else none :=
  fun g r hr σ H G Q W sr post => by
  refine wa_of (pa_cons (pe_var hN hv hd hcd) wa_max rfl) ?_
  have px : ∀ x g', r = (.ex x, g') → PX X exs σ G H W x g' := fun x g' e => by
    subst e
    exact post
  dsimp only at hr
  split at hr
  · rename_i hi
    unfold slotIn at hi
    obtain ⟨v, hv⟩ : ∃ v, σ[i]? = some (some v) := by
      split at hi
      · cases hi
      · cases hi
      · rename_i h1 h2
        cases q : g[i]? with
        | none => exact absurd q h2
        | some s =>
          obtain ⟨y, hy, ok⟩ := sr.at q
          cases s with
          | no => exact absurd q h1
          | im d =>
            obtain ⟨v, rfl, _⟩ := ok
            exact ⟨v, hy⟩
          | ow c =>
            obtain ⟨v, rfl, _⟩ := ok
            exact ⟨_, hy⟩
          | bo c =>
            obtain ⟨v, rfl, _⟩ := ok
            exact ⟨_, hy⟩
          | sc ds =>
            obtain ⟨v, _, rfl, _⟩ := ok
            exact ⟨_, hy⟩
          | xc x =>
            obtain ⟨v, _, rfl, _⟩ := ok
            exact ⟨_, hy⟩
    refine ⟨v, hv, ?_⟩
    refine hs.use hr sr px fun xs g2 h2 vs H2 G2 e2 s2 r2 => ?_
    rw [ret_some h2] at post
    exact post (v :: vs) H2 G2 e2 s2 ⟨hv, r2⟩
  · cases hr

/-! ### displays -/
theorem snd_tup {k : Nat} {fs : Sg → R (List D)} (ha : SndA X exs es fs) : Snd X exs (.Tuple es k pos) fun g => bnd (fs g) fun ds g => if ds.length ≤ sizeLine then ret (.v (.tuple ds)) g else none :=
  fun g r hr σ H G Q W sr post => by
  refine we_of (pe_tup wa_max) ?_
  refine ha.use hr sr post.ex fun ds g1 h1 vs H1 G1 e1 s1 r1 => ?_
  split at h1
  · rename_i hz
    rw [ret_some h1] at post
    refine ⟨by rw [r1.length]; exact hz, fun p hp => ?_⟩
    obtain ⟨w, ep⟩ := new_st s1.tag hp (.tup vs)
    exact post _ _ _ (e1.trans w.toExt) (s1.grow w) (.tup ep (r1.mono w.same))
  · cases h1
theorem snd_lst {fs : Sg → R (List D)} (ha : SndA X exs es fs) : Snd X exs (.List es pos) fun g => bnd (fs g) fun ds g => if ds.length ≤ sizeLine then ret (.m (.l ds)) g else none :=
  fun g r hr σ H G Q W sr post => by
  refine we_of (pe_lst wa_max) ?_
  refine ha.use hr sr post.ex fun ds g1 h1 vs H1 G1 e1 s1 r1 => ?_
  split at h1
  · rename_i hz
    rw [ret_some h1] at post
    refine ⟨by rw [r1.length]; exact hz, fun p hp => ?_⟩
    have w := Grow.new s1.tag hp (.lst vs)
    exact post _ _ G1 (e1.trans w.toExt) (s1.grow w) ⟨p, rfl, s1.tag.un hp, vs, upd_same, r1.mono w.same⟩
  · cases h1

/-! ### subscripts -/
def notSlice : Expr → Bool
  | .Slice _ _ _ _ => false
  | _ => true
theorem plainIx_of {b : Expr} (h : notSlice b = true) : PlainIx b := fun o i => by
  cases b <;> first | rfl | (simp [notSlice] at h)
variable {a b c : Expr} {fa fb fc : Sg → R Val}
theorem snd_idx (hp : notSlice b = true) (ha : Snd X exs a fa) (hb : Snd X exs b fb) : Snd X exs (.Subscript a b pos) fun g => bnd (fa g) fun x g => bnd (fb g) fun y g => opt ((idxD x.toD y.toD).map .v) g :=
  fun g r hr σ H G Q W sr post => by
  refine we_of (pe_ix ix_data we_max we_max (plainIx_of hp)) ?_
  refine ha.useD hr sr post.ex fun x g1 h1 v H1 G1 e1 s1 r1 => ?_
  refine hb.useD h1 s1 (exNext post.ex e1) fun y g2 h2 w H2 G2 e2 s2 r2 => ?_
  obtain ⟨z, hz, rfl⟩ := opt_some h2
  obtain ⟨k, hk, rfl⟩ := Option.map_eq_some_iff.mp hz
  exact ⟨G2, _, _, k, s2.tag, r1.mono e2.same, r2, hk, fun v rv => post v H2 G2 (e1.trans e2) s2 rv⟩
/-- what a slot shows -/
theorem SR.peek {i : Nat} {d : D} {K : PySem.W.Frag} (h : SR K exs G H g σ) (e : rdM g[i]? = some d) : ∃ v, σ[i]? = some (some v) ∧ (Rp K (Bh G H) v d ∨ ∃ a xs ds, v = .ref a ∧ d = .list ds ∧ SqL K H a xs ∧ RpAll K (Bh G H) xs ds) := by
  unfold rdM at e
  split at e
  · rename_i q
    cases e
    obtain ⟨y, hy, v, rfl, rv⟩ := h.at q
    exact ⟨v, hy, .inl rv⟩
  · rename_i c q
    cases e
    obtain ⟨y, hy, a, rfl, m⟩ := h.at q
    cases c with
    | l ds =>
      obtain ⟨_, vs, ha, r⟩ := m
      exact ⟨_, hy, .inr ⟨a, vs, ds, rfl, rfl, SqL.of ha, r⟩⟩
  · rename_i c q
    cases e
    obtain ⟨y, hy, a, rfl, m, _⟩ := h.at q
    cases c with
    | l ds =>
      obtain ⟨_, vs, ha, r⟩ := m
      exact ⟨_, hy, .inr ⟨a, vs, ds, rfl, rfl, SqL.of ha, r⟩⟩
  · rename_i ds q
    cases e
    obtain ⟨y, hy, a, vs, rfl, ha, r⟩ := h.at q
    exact ⟨_, hy, .inr ⟨a, vs, ds, rfl, rfl, Bh.same.seq ha, r⟩⟩
  · cases e
theorem snd_idxv {i : Nat} {x : Str} {p2 : Pos} (hN : X.N[i]? = some x) (hv : Vis X.env.scope x) (hd : (x == ("__debug__" : Str)) = false) (hcd : (x == ("__classdict__" : Str)) = false) (hp : notSlice b = true) (hb : Snd X exs b fb) :
    Snd X exs (.Subscript (.Name x p2) b pos) fun g => if slotIn g i then bnd (fb g) fun y g => match rdM g[i]? with
      | some d => opt ((idxD d y.toD).map .v) g
      | none => none
      else none :=
  fun g r hr σ H G Q W sr post => by
  dsimp only at hr
  split at hr
  · rename_i hi
    have hv0 : ∃ v, σ[i]? = some (some v) := by
      unfold slotIn at hi
      split at hi
      · cases hi
      · cases hi
      · rename_i h1 h2
        cases q : g[i]? with
        | none => exact absurd q h2
        | some s =>
          obtain ⟨y, hy, ok⟩ := sr.at q
          cases s with
          | no => exact absurd q h1
          | im d =>
            obtain ⟨v, rfl, _⟩ := ok
            exact ⟨v, hy⟩
          | ow c =>
            obtain ⟨v, rfl, _⟩ := ok
            exact ⟨_, hy⟩
          | bo c =>
            obtain ⟨v, rfl, _⟩ := ok
            exact ⟨_, hy⟩
          | sc ds =>
            obtain ⟨v, _, rfl, _⟩ := ok
            exact ⟨_, hy⟩
          | xc x =>
            obtain ⟨v, _, rfl, _⟩ := ok
            exact ⟨_, hy⟩
    obtain ⟨v, hv1⟩ := hv0
    refine we_of (pe_ix (ix_data.or ix_list) (pe_var hN hv hd hcd) we_max (plainIx_of hp)) ?_
    refine ⟨v, hv1, ?_⟩
    refine hb.useD hr sr post.ex fun y g1 h1 w H1 G1 e1 s1 r1 => ?_
    split at h1
    · rename_i d hd
      obtain ⟨z, hz, rfl⟩ := opt_some h1
      obtain ⟨k, hk, rfl⟩ := Option.map_eq_some_iff.mp hz
      obtain ⟨v', hv', q⟩ := s1.peek hd
      rw [hv1] at hv'
      cases hv'
      rcases q with q | ⟨ad, xs, ds, rfl, rfl, q, ra⟩
      · exact .inl ⟨G1, _, _, k, s1.tag, q, r1, hk, fun v rv => post v H1 G1 e1 s1 rv⟩
      · unfold idxD at hk
        split at hk
        · rename_i e' i' hl he
          cases hl
          obtain ⟨u, h1, h2⟩ := atI_rp ra hk
          refine .inr ⟨ad, xs, _, u, rfl, rp_int (he ▸ r1), q, h1, post _ H1 G1 e1 s1 h2⟩
        · rename_i hl _
          cases hl
        · rename_i hl _
          cases hl
        · cases hk
    · cases h1
  · cases hr
theorem snd_lenv {i : Nat} {x : Str} {p2 p3 : Pos} (hN : X.N[i]? = some x) (hv : Vis X.env.scope x) (hd : (x == ("__debug__" : Str)) = false) (hcd : (x == ("__classdict__" : Str)) = false) (hg : Gl X "len") (hm : X.mg "len" = none) (hu : X.A.units + 64 < cLine) (hgd : X.A.guards = some []) :
    Snd X exs (.Call (.Name "len" p3) [.Name x p2] [] pos) fun g => match rdM g[i]? with
      | some d => opt ((lenD d).map .v) g
      | none => none :=
  fun g r hr σ H G Q W sr post => by
  refine we_of (pe_callB ((cr_b1 .len (by intro z; cases z) hgd hu).or call_len_seq) hg hm boot_len (pa_cons (pe_var hN hv hd hcd) pa_nil)) ?_
  dsimp only at hr
  split at hr
  · rename_i d hd
    obtain ⟨z, hz, rfl⟩ := opt_some hr
    obtain ⟨k, hk, rfl⟩ := Option.map_eq_some_iff.mp hz
    obtain ⟨v, hv1, q⟩ := sr.peek hd
    refine ⟨v, hv1, ?_⟩
    rcases q with q | ⟨ad, xs, ds, rfl, rfl, q, ra⟩
    · exact .inl ⟨v, G, d, .v k, rfl, sr.tag, q, (by show (lenD d).map Val.v = _; rw [hk]; rfl), fun v H' G' gr rv => post v H' G' gr.toExt (sr.grow gr) rv⟩
    · cases hk
      refine .inr ⟨ad, xs, rfl, .inl q, ?_⟩
      rw [ra.length]
      exact post _ H G (.refl _ _) sr (.int _)
  · cases hr
theorem boot_list : bootBuiltins "list" = some (.type "list") := by decide +kernel
theorem snd_cpv {i : Nat} {x : Str} {p2 p3 : Pos} (hN : X.N[i]? = some x) (hv : Vis X.env.scope x) (hd : (x == ("__debug__" : Str)) = false) (hcd : (x == ("__classdict__" : Str)) = false) (hg : Gl X "list") (hm : X.mg "list" = none) (hu : X.A.units + 64 < cLine) (hgd : X.A.guards = some []) :
    Snd X exs (.Call (.Name "list" p3) [.Name x p2] [] pos) fun g => match rdM g[i]? with
      | some (.list ds) => ret (.m (.l ds)) g
      | _ => none :=
  fun g r hr σ H G Q W sr post => by
  refine we_of (pe_callTy ((cr_b1 .list (by intro z; cases z) hgd hu).or call_list_of) hg hm boot_list (pa_cons (pe_var hN hv hd hcd) pa_nil)) ?_
  dsimp only at hr
  split at hr
  · rename_i ds hd
    rw [ret_some hr] at post
    obtain ⟨v, hv1, q⟩ := sr.peek hd
    refine ⟨v, hv1, ?_⟩
    rcases q with q | ⟨ad, xs, ds', rfl, e, q, ra⟩
    · exact .inl ⟨v, G, .list ds, .m (.l ds), rfl, sr.tag, q, rfl, fun v H' G' gr rv => post v H' G' gr.toExt (sr.grow gr) rv⟩
    · cases e
      exact .inr ⟨ad, xs, rfl, .inl q, Give.lst (fun v H' G' gr rv => post v H' G' gr.toExt (sr.grow gr) rv) sr.tag ra⟩
  · cases hr
def Po (X : Cx) (exs : EX) (σ : L2.St) (G : Gh) (H : Hp) (Q : Option Int → Hp → Prop) (W : WX) : Out (Option Int) × Sg → Prop
  | (.ok i, g') => ∀ H' G', Ext G H G' H' → SR X.K exs G' H' g' σ → Q i H'
  | (.ex x, g') => PX X exs σ G H W x g'
/-- an end of a slice -/
def SndO (X : Cx) (exs : EX) (o : Option Expr) (fo : Sg → R (Option Int)) : Prop :=
  ∃ to, PO X o to ∧ ∀ g r, fo g = some r → ∀ σ H G Q W, SR X.K exs G H g σ → Po X exs σ G H Q W r → to σ H Q
theorem sndO_non : SndO X exs none fun g => ret none g := ⟨_, po_none, fun g r hr σ H G Q W sr post => by
  rw [ret_some hr] at post
  exact post H G (.refl _ _) sr⟩
theorem sndO_som (ha : Snd X exs a fa) : SndO X exs (some a) fun g => bnd (fa g) fun x g => match x with
    | .v (.int i) => ret (some i) g
    | _ => none := ⟨_, po_some we_max, fun g r hr σ H G Q W sr post => by
  have px : ∀ x g', r = (.ex x, g') → PX X exs σ G H W x g' := fun x g' e => by
    subst e
    exact post
  refine ha.useD hr sr px fun x g1 h1 v H1 G1 e1 s1 r1 => ?_
  split at h1
  · rw [ret_some h1] at post
    exact ⟨_, rp_int r1, post H1 G1 e1 s1⟩
  · cases h1⟩
theorem useO {γ : Type} {fo : Sg → R (Option Int)} {k : Option Int → Sg → R γ} {r : Out γ × Sg} {to : L2.St → Hp → (Option Int → Hp → Prop) → Prop} {Q : Option Int → Hp → Prop}
    (h : ∀ g r, fo g = some r → ∀ σ H G Q W, SR X.K exs G H g σ → Po X exs σ G H Q W r → to σ H Q) (hr : bnd (fo g) k = some r) (sr : SR X.K exs G H g σ) (hx : ∀ x g', r = (.ex x, g') → PX X exs σ G H W x g')
    (ok : ∀ i g1, k i g1 = some r → ∀ H1 G1, Ext G H G1 H1 → SR X.K exs G1 H1 g1 σ → Q i H1) : to σ H Q := by
  cases q : fo g with
  | none =>
    rw [q] at hr
    cases hr
  | some z =>
    obtain ⟨o, g1⟩ := z
    rw [q] at hr
    cases o with
    | ok x => exact h g _ q σ H G Q W sr fun H1 G1 e1 s1 => ok x g1 hr H1 G1 e1 s1
    | ex x =>
      cases hr
      exact h g _ q σ H G Q W sr (hx x g1 rfl)
theorem snd_slc {lo hi : Option Expr} {fl fh : Sg → R (Option Int)} {p2 : Pos} (ha : Snd X exs a fa) (hl : SndO X exs lo fl) (hh : SndO X exs hi fh) :
    Snd X exs (.Subscript a (.Slice lo hi none p2) pos) fun g => bnd (fa g) fun x g => bnd (fl g) fun l g => bnd (fh g) fun h g => opt (slcD x.toD l h) g :=
  fun g r hr σ H G Q W sr post => by
  obtain ⟨tl, pl, ql⟩ := hl
  obtain ⟨th, ph, qh⟩ := hh
  refine we_of (pe_slice sl_data we_max pl ph) ?_
  refine ha.useD hr sr post.ex fun x g1 h1 v H1 G1 e1 s1 r1 => ?_
  refine useO ql h1 s1 (exNext post.ex e1) fun l g2 h2 H2 G2 e2 s2 => ?_
  refine useO qh h2 s2 (exNext post.ex (e1.trans e2)) fun h g3 h3 H3 G3 e3 s3 => ?_
  obtain ⟨z, hz, rfl⟩ := opt_some h3
  exact ⟨G3, _, z, s3.tag, r1.mono (e2.trans e3).same, hz, fun v H' G' gr rv => post v H' G' (e1.trans (e2.trans (e3.trans gr.toExt))) (s3.grow gr) rv⟩
end
end Z

/-! Z5: calls of defs and of built-ins. -/
namespace Z
open PySem PySem.Spec PyProof.Rows L2

section
variable {X : Cx} {exs : EX} {σ : L2.St} {G G1 : Gh} {H H1 : Hp} {Q : VK} {W : WX} {e : Expr} {f : Sg → R Val} {g g1 : Sg} {pos : Pos} {es : List Expr}
theorem run_G {k : Nat} {a : Addr} {fd : FuncData} {ps : List Str} {sp : Sp} {pins : List (Addr × Obj)} {s : Shared} {us : List Value} {vs : List V} {E : XK} (F : FnG X.prog X.w X.K X.mg X.base k a fd ps sp) (hr : Room k X.A) (gd : X.A.guards = some [])
    (hb : Binds X.K fd ps []) (I : Inv X pins σ H s) (r : Vals vs us) (h : sp vs H Q E) (hx : ∀ e s', L2.CX X.prog X.w X.stack H s E e s' → X.xe e s') : wpAny (model X.prog X.w) X.A (call (.ref a) us) (EP X pins σ Q) X.xe s := by
  have hl : (us ++ []).length = ps.length := by
    rw [List.append_nil, ← r.length]
    exact F.len _ _ _ _ h
  have bt := hb s us I.kIn hl
  rw [List.append_nil] at bt
  have go := F.run X.A X.stack s H ⟨us, []⟩ us vs Q E gd hr I.env0 bt r h
  refine wpAny_call (codeAny_mono go fun res s' hq => ?_)
  cases res with
  | error x => exact hx x s' hq
  | ok fl =>
    cases fl with
    | ret u => exact I.after hq
    | next => exact hq.elim
    | brk => exact hq.elim
    | cont => exact hq.elim
theorem we_call0 {k : Nat} {a : Addr} {fd : FuncData} {ps : List Str} {sp : Sp} {x : Str} {p : Pos} (F : FnG X.prog X.w X.K X.mg X.base k a fd ps sp) (hr : Room k X.A) (gd : X.A.guards = some []) (hb : Binds X.K fd ps [])
    (hg : Gl X x) (hm : X.mg x = some (.ref a)) (hk : PySem.W.keepIn X.K (.ref a) = true) (hd : (x == ("__debug__" : Str)) = false)
    (h : ∃ E, sp [] H Q E ∧ ∀ (pins : List (Addr × Obj)) (s : Shared) (e : Value) (s' : Shared), Inv X pins σ H s → L2.CX X.prog X.w X.stack H s E e s' → X.xe e s') : WE X (.Call (.Name x p) [] [] pos) σ H Q := by
  intro pins s I
  obtain ⟨E, q, hx⟩ := h
  exact wpAny_Call_Name_kw (ld_glob I hg hm (PySem.W.callWith_K0 I.kIn hk (run_G (us := []) F hr gd hb I .nil q fun e s' c => hx pins s e s' I c)) hd)
theorem we_call {k : Nat} {a : Addr} {fd : FuncData} {ps : List Str} {sp : Sp} {x : Str} {p : Pos} (F : FnG X.prog X.w X.K X.mg X.base k a fd ps sp) (hr : Room k X.A) (gd : X.A.guards = some []) (hb : Binds X.K fd ps [])
    (hg : Gl X x) (hm : X.mg x = some (.ref a)) (hk : PySem.W.keepIn X.K (.ref a) = true) (hd : (x == ("__debug__" : Str)) = false) (h1 : notStar e = true) (hn : es.all notStar = true)
    (h : WA X (e :: es) σ H fun vs H1 => ∃ E, sp vs H1 Q E ∧ ∀ (pins : List (Addr × Obj)) (s : Shared) (e : Value) (s' : Shared), Inv X pins σ H1 s → L2.CX X.prog X.w X.stack H1 s E e s' → X.xe e s') : WE X (.Call (.Name x p) (e :: es) [] pos) σ H Q := by
  intro pins s I
  refine wpAny_Call_Name_kw (ld_glob I hg hm ?_ hd)
  refine PySem.W.callWith_K (h₀ := X.base) I.ok.mod.kin hk (thn (h pos pins s I) fun us s1 ⟨vs, H1, I1, r, E, q, hx⟩ => ⟨I1.kIn, ?_⟩) (star_of h1) (noStars hn)
  exact run_G F hr gd hb I1 r q fun e s' c => hx pins s1 e s' I1 c

/-! ### a call's arguments: the caller's slots as the callee sees them -/
def posOf : Nat → List Ar → Nat → Option Nat
  | _, [], _ => none
  | k, .v _ :: r, j => posOf (k + 1) r j
  | k, .b i :: r, j => if i = j then some k else posOf (k + 1) r j
def callee (rs : List Ar) (G : Gh) : Gh := fun a =>
  match G a with
  | .sl j => (match posOf 0 rs j with
    | some k => .sl k
    | none => .fr)
  | t => t
theorem callee_st {rs : List Ar} {G : Gh} {a : Addr} : callee rs G a = .st ↔ G a = .st := by
  unfold callee
  cases G a with
  | sl j =>
    dsimp only
    cases posOf 0 rs j <;> simp
  | un => simp
  | st => simp
  | fr => simp
  | tb _ => simp
theorem callee_un {rs : List Ar} {G : Gh} {a : Addr} : callee rs G a = .un ↔ G a = .un := by
  unfold callee
  cases G a with
  | sl j =>
    dsimp only
    cases posOf 0 rs j <;> simp
  | un => simp
  | st => simp
  | fr => simp
  | tb _ => simp
theorem bh_callee {rs : List Ar} {G : Gh} {H : Hp} : Bh (callee rs G) H = Bh G H := by
  funext a
  unfold Bh
  by_cases h : G a = .st
  · rw [if_pos h, if_pos (callee_st.mpr h)]
  · rw [if_neg h, if_neg (fun z => h (callee_st.mp z))]
theorem posOf_app : ∀ {pre : List Ar} {suf : List Ar} {i k : Nat}, i ∉ borrowed pre → posOf k (pre ++ .b i :: suf) i = some (k + pre.length)
  | [], suf, i, k, _ => by
    show (if i = i then some k else _) = _
    rw [if_pos rfl]
    rfl
  | .v d :: pre, suf, i, k, h => by
    show posOf (k + 1) (pre ++ .b i :: suf) i = _
    rw [posOf_app (pre := pre) h, List.length_cons]
    congr 1
    omega
  | .b j :: pre, suf, i, k, h => by
    have hj : j ≠ i := fun z => h (by rw [z]; exact List.mem_cons_self)
    show (if j = i then some k else posOf (k + 1) (pre ++ .b i :: suf) i) = _
    rw [if_neg hj, posOf_app (pre := pre) fun z => h (List.mem_cons_of_mem _ z), List.length_cons]
    congr 1
    omega
theorem posOf_none : ∀ {rs : List Ar} {i k : Nat}, i ∉ borrowed rs → posOf k rs i = none
  | [], _, _, _ => rfl
  | .v _ :: r, i, k, h => posOf_none (rs := r) h
  | .b j :: r, i, k, h => by
    show (if j = i then some k else posOf (k + 1) r i) = _
    rw [if_neg (show ¬ j = i from fun z => h (by rw [z]; exact List.mem_cons_self))]
    exact posOf_none fun z => h (List.mem_cons_of_mem _ z)
theorem borrowed_app : ∀ {pre suf : List Ar}, borrowed (pre ++ suf) = borrowed pre ++ borrowed suf
  | [], _ => rfl
  | .v _ :: r, suf => borrowed_app (pre := r)
  | .b i :: r, suf => congrArg (i :: ·) (borrowed_app (pre := r))
theorem noDup_mid : ∀ {l : List Nat} {i : Nat} {r : List Nat}, noDup (l ++ i :: r) = true → i ∉ l ∧ i ∉ r
  | [], i, r, h => by
    simp only [List.nil_append, noDup, Bool.and_eq_true, Bool.not_eq_true', List.contains_eq_mem, decide_eq_false_iff_not] at h
    exact ⟨(fun z => nomatch z), h.1⟩
  | x :: l, i, r, h => by
    simp only [List.cons_append, noDup, Bool.and_eq_true, Bool.not_eq_true', List.contains_eq_mem, decide_eq_false_iff_not] at h
    obtain ⟨h1, h2⟩ := noDup_mid h.2
    refine ⟨fun z => ?_, h2⟩
    rcases List.mem_cons.mp z with e | e
    · subst e
      exact h.1 (List.mem_append_right _ List.mem_cons_self)
    · exact h1 e
theorem args_ok {K : PySem.W.Frag} (sr : SR K exs G H g σ) {rs : List Ar} (nd : noDup (borrowed rs) = true) : ∀ {suf : List Ar} {pre : List Ar} {vs : List V} {xs : List Arg}, rs = pre ++ suf →
    ArsOk K (Bh G H) σ suf vs → argsOf g suf = some xs → ArgsOk K (callee rs G) H pre.length xs vs
  | [], pre, [], xs, _, _, h => by
    cases h
    trivial
  | [], pre, _ :: _, xs, _, h, _ => h.elim
  | _ :: _, pre, [], xs, _, h, _ => h.elim
  | a :: suf, pre, v :: vs, xs, e, h, hx => by
    unfold argsOf at hx
    obtain ⟨y, hy, hx⟩ := Option.bind_eq_some_iff.mp hx
    obtain ⟨ys, hys, rfl⟩ := Option.map_eq_some_iff.mp hx
    have ih := args_ok sr nd (suf := suf) (pre := pre ++ [a]) (vs := vs) (xs := ys) (by rw [e, List.append_assoc]; rfl) h.2 hys
    rw [List.length_append] at ih
    refine ⟨?_, ih⟩
    cases a with
    | v d =>
      cases hy
      show Rp K (Bh (callee rs G) H) v d
      rw [bh_callee]
      exact h.1
    | b i =>
      have hp : posOf 0 rs i = some pre.length := by
        rw [e, borrowed_app] at nd
        have := posOf_app (suf := suf) (k := 0) (noDup_mid nd).1
        rw [e, this, Nat.zero_add]
      have ct : ∀ a, G a = .sl i → callee rs G a = .sl pre.length := fun a ha => by
        unfold callee
        rw [ha]
        dsimp only
        rw [hp]
      have hv : σ[i]? = some (some v) := h.1
      simp only [argOf] at hy
      have mk : ∀ {c : M} {a : Addr}, MOk K G H i c a → MOk K (callee rs G) H pre.length c a := fun {c a} hm => by
        cases c with
        | l ds =>
          obtain ⟨t, vs, q, r⟩ := hm
          exact ⟨ct a t, vs, q, by rw [bh_callee]; exact r⟩
      split at hy
      · rename_i c hc
        cases hy
        obtain ⟨z, hz, a, rfl, hm⟩ := sr.at hc
        rw [hv] at hz
        cases hz
        exact ⟨a, rfl, mk hm⟩
      · rename_i c hc
        cases hy
        obtain ⟨z, hz, a, rfl, hm, _⟩ := sr.at hc
        rw [hv] at hz
        cases hz
        exact ⟨a, rfl, mk hm⟩
      · rename_i c hc
        cases hy
        obtain ⟨z, hz, a, ws, rfl, q, r⟩ := sr.at hc
        rw [hv] at hz
        cases hz
        exact ⟨a, ws, rfl, by rw [bh_callee]; exact q, by rw [bh_callee]; exact r⟩
      · cases hy
/-! ### behind a call -/
def caller (G G' : Gh) : Gh := fun a =>
  match G' a with
  | .un => .un
  | .st => .st
  | .tb q => .tb q
  | .fr => G a
  | .sl _ => (match G a with
    | .sl j => .sl j
    | _ => .un)
theorem callee_fr {rs : List Ar} {G : Gh} {a : Addr} (h : callee rs G a = .fr) : G a = .fr ∨ ∃ j, G a = .sl j := by
  unfold callee at h
  cases q : G a with
  | sl j => exact .inr ⟨j, rfl⟩
  | fr => exact .inl rfl
  | un =>
    rw [q] at h
    cases h
  | st =>
    rw [q] at h
    cases h
  | tb _ =>
    rw [q] at h
    cases h
theorem callee_tb {rs : List Ar} {G : Gh} {a : Addr} {x : Str} : callee rs G a = .tb x ↔ G a = .tb x := by
  unfold callee
  cases G a with
  | sl j =>
    dsimp only
    cases posOf 0 rs j <;> simp
  | un => simp
  | st => simp
  | fr => simp
  | tb _ => simp
theorem caller_ext {rs : List Ar} {G G' : Gh} {H H' : Hp} (e : Ext (callee rs G) H G' H') : Ext G H (caller G G') H' := by
  refine ⟨fun a h => ?_, fun a h => ?_, fun a h => ?_, fun a x h => by unfold caller; rw [e.tb a x (callee_tb.mpr h)]⟩
  · obtain ⟨q, z⟩ := e.st a (callee_st.mpr h)
    refine ⟨?_, z⟩
    unfold caller
    rw [q]
  · obtain ⟨q, z⟩ := e.fr a (by unfold callee; rw [h])
    refine ⟨?_, z⟩
    unfold caller
    rw [q]
    exact h
  · unfold caller at h
    cases q : G' a with
    | un =>
      rw [q] at h
      cases h
    | st =>
      rw [q] at h
      cases h
    | fr =>
      rw [q] at h
      exact h
    | tb _ =>
      rw [q] at h
      cases h
    | sl k =>
      rw [q] at h
      dsimp only at h
      split at h <;> cases h
theorem caller_same {rs : List Ar} {G G' : Gh} {H H' : Hp} (e : Ext (callee rs G) H G' H') : Same (Bh G' H') (Bh (caller G G') H') := fun a o h => by
  unfold Bh at h ⊢
  by_cases q : G' a = .st
  · rw [if_pos q] at h
    rw [if_pos (by unfold caller; rw [q])]
    exact h
  · rw [if_neg q] at h
    cases h
theorem callee_lsy {rs : List Ar} {G : Gh} {a : Addr} : lsy (callee rs G a) ↔ lsy (G a) := by
  unfold callee
  cases G a with
  | sl j =>
    dsimp only
    cases posOf 0 rs j with
    | none => exact ⟨fun _ => .inr ⟨j, rfl⟩, fun _ => .inl rfl⟩
    | some k => exact ⟨fun _ => .inr ⟨j, rfl⟩, fun _ => .inr ⟨k, rfl⟩⟩
  | un => exact Iff.rfl
  | st => exact Iff.rfl
  | fr => exact Iff.rfl
  | tb _ => exact Iff.rfl
theorem caller_tag {rs : List Ar} {G G' : Gh} {H H' : Hp} (e : Ext (callee rs G) H G' H') (t : Tagd G' H') : Tagd (caller G G') H' := by
  refine t.keep (caller_same e) (fun a h => t.ne a fun z => h (by unfold caller; rw [z])) (fun a q h => ⟨?_, rfl⟩) (fun a h => .inl ⟨?_, rfl⟩) (fun a q h => by unfold caller; rw [h]) fun a h => t.ls a ?_
  rotate_left 2
  · unfold caller at h
    cases z : G' a with
    | un => rw [z] at h; exact absurd rfl h.un
    | st => rw [z] at h; exact absurd rfl h.st
    | tb x =>
      rw [z] at h
      rcases h with h | ⟨i, h⟩ <;> cases h
    | fr => exact .inl rfl
    | sl k => exact .inr ⟨k, rfl⟩
  rotate_left
  · unfold caller at h
    cases z : G' a with
    | un => rw [z] at h; cases h
    | st => rfl
    | tb x => rw [z] at h; cases h
    | fr =>
      rw [z] at h
      rcases callee_fr (e.nf a z) with y | ⟨j, y⟩
      · rw [show G a = Tag.fr from y] at h; cases h
      · rw [show G a = Tag.sl j from y] at h; cases h
    | sl k =>
      rw [z] at h
      dsimp only at h
      split at h <;> cases h
  unfold caller at h
  cases z : G' a with
  | un => rw [z] at h; cases h
  | st => rw [z] at h; cases h
  | tb x => rw [z] at h; exact h
  | fr =>
    rw [z] at h
    rcases callee_fr (e.nf a z) with y | ⟨j, y⟩
    · rw [show G a = Tag.fr from y] at h; cases h
    · rw [show G a = Tag.sl j from y] at h; cases h
  | sl k =>
    rw [z] at h
    dsimp only at h
    split at h <;> cases h
theorem caller_val {K : PySem.W.Frag} {rs : List Ar} {G G' : Gh} {H H' : Hp} (e : Ext (callee rs G) H G' H') {x : Val} {v : V} (h : ValOk K G' H' x v) : ValOk K (caller G G') H' x v := by
  cases x with
  | v d => exact Rp.mono (caller_same e) h
  | m c =>
    obtain ⟨a, rfl, q⟩ := h
    refine ⟨a, rfl, ?_⟩
    cases c with
    | l ds =>
      obtain ⟨u, vs, hv, r⟩ := q
      exact ⟨by unfold caller; rw [u], vs, hv, r.mono (caller_same e)⟩
theorem slot_new {K : PySem.W.Frag} {rs : List Ar} {G G' : Gh} {H H' : Hp} (e : Ext (callee rs G) H G' H') {j : Nat} {s : Sl} {x : Option V} (hj : j ∉ borrowed rs ∨ ∃ ds, s = .sc ds) (h : SlOk K exs G H j s x) : SlOk K exs (caller G G') H' j s x := by
  rcases hj with hj | ⟨ds, rfl⟩
  · refine h.keep (caller_ext e).same fun a ha => ?_
    have hf : callee rs G a = .fr := by
      unfold callee
      rw [ha]
      dsimp only
      rw [posOf_none hj]
    obtain ⟨q, z⟩ := e.fr a hf
    refine ⟨?_, z⟩
    unfold caller
    rw [q]
    exact ha
  · obtain ⟨a, vs, q, r, z⟩ := h
    exact ⟨a, vs, q, (caller_ext e).same.seq r, z.mono (caller_ext e).same⟩
theorem back_ok {K : PySem.W.Frag} {rs : List Ar} {G G' : Gh} {H H' : Hp} {g0 : Sg} (sr : SR K exs G H g0 σ) (e : Ext (callee rs G) H G' H') (nd : noDup (borrowed rs) = true) :
    ∀ {suf pre : List Ar} {vs : List V} {ms : List (Option M)} {g g2 : Sg}, rs = pre ++ suf → ArsOk K (Bh G H) σ suf vs → OutsOk K G' H' pre.length ms vs → backG suf ms g = some g2 → g.length = g0.length →
    (∀ j s, g[j]? = some s → (j ∉ borrowed suf → SlOk K exs (caller G G') H' j s (σ.getD j none)) ∧ (j ∈ borrowed suf → g0[j]? = some s)) →
    g2.length = g0.length ∧ ∀ j s, g2[j]? = some s → SlOk K exs (caller G G') H' j s (σ.getD j none)
  | [], pre, vs, ms, g, g2, _, ha, ho, hb, hl, hP => by
    cases vs with
    | cons _ _ => exact ha.elim
    | nil =>
      cases ms with
      | cons _ _ => exact ho.elim
      | nil =>
        cases hb
        exact ⟨hl, fun j s q => (hP j s q).1 fun z => nomatch z⟩
  | a :: suf, pre, [], ms, g, g2, _, ha, _, _, _, _ => ha.elim
  | a :: suf, pre, v :: vs, [], g, g2, _, _, ho, _, _, _ => ho.elim
  | .v d :: suf, pre, v :: vs, m :: ms, g, g2, er, ha, ho, hb, hl, hP => by
    have ho2 := ho.2
    rw [show pre.length + 1 = (pre ++ [Ar.v d]).length from by rw [List.length_append]; rfl] at ho2
    exact back_ok sr e nd (suf := suf) (pre := pre ++ [.v d]) (by rw [er, List.append_assoc]; rfl) ha.2 ho2 hb hl hP
  | .b i :: suf, pre, v :: vs, m :: ms, g, g2, er, ha, ho, hb, hl, hP => by
    have ho2 := ho.2
    rw [show pre.length + 1 = (pre ++ [Ar.b i]).length from by rw [List.length_append]; rfl] at ho2
    have nd2 := nd
    rw [er, borrowed_app] at nd2
    have hi : i ∉ borrowed suf := (noDup_mid nd2).2
    have hv : σ[i]? = some (some v) := ha.1
    have hvD : σ.getD i none = some v := by rw [List.getD_eq_getElem?_getD, hv]; rfl
    unfold backG at hb
    have step : ∀ {c : M} {s' : Sl}, g[i]? = some s' → m = some c → (∀ a, G a = .sl i → True) → ∃ a, v = .ref a ∧ (G a = .sl i → MOk K (caller G G') H' i c a) := fun {c s'} _ hm _ => by
      obtain ⟨a, rfl, hk⟩ := ho.1 c hm
      refine ⟨a, rfl, fun hG => ?_⟩
      cases c with
      | l ds =>
        obtain ⟨t, ws, q, r⟩ := hk
        refine ⟨?_, ws, q, r.mono (caller_same e)⟩
        unfold caller
        rw [t]
        dsimp only
        rw [hG]
    have rec' : ∀ {s' : Sl}, i < g.length → SlOk K exs (caller G G') H' i s' (some v) → backG suf ms (g.set i s') = some g2 → g2.length = g0.length ∧ ∀ j s, g2[j]? = some s → SlOk K exs (caller G G') H' j s (σ.getD j none) := fun {s'} hlt ok hb => by
      refine back_ok sr e nd (suf := suf) (pre := pre ++ [.b i]) (by rw [er, List.append_assoc]; rfl) ha.2 ho2 hb (by rw [List.length_set]; exact hl) fun j s q => ?_
      by_cases hj : i = j
      · subst hj
        rw [List.getElem?_set_self hlt] at q
        cases q
        refine ⟨fun _ => ?_, fun z => absurd z hi⟩
        rw [hvD]
        exact ok
      · rw [List.getElem?_set_ne hj] at q
        obtain ⟨p1, p2⟩ := hP j s q
        exact ⟨fun z => p1 fun w => by
          rcases List.mem_cons.mp w with w | w
          · exact hj w.symm
          · exact z w, fun z => p2 (List.mem_cons_of_mem _ z)⟩
    have lt_of : ∀ {s : Sl}, g[i]? = some s → i < g.length := fun {s} q => by
      rcases Nat.lt_or_ge i g.length with z | z
      · exact z
      · rw [List.getElem?_eq_none z] at q
        cases q
    split at hb
    · rename_i c c2 hg
      obtain ⟨y, hy, a, rfl, hk⟩ := sr.at ((hP i _ hg).2 List.mem_cons_self)
      rw [hv] at hy
      cases hy
      obtain ⟨a', ea, q⟩ := step hg rfl fun _ _ => trivial
      cases ea
      have hG : G a = .sl i := by
        cases c with
        | l ds => exact hk.1
      exact rec' (s' := .ow c2) (lt_of hg) ⟨a, rfl, q hG⟩ hb
    · rename_i c c2 hg
      obtain ⟨y, hy, a, rfl, hk, hβ⟩ := sr.at ((hP i _ hg).2 List.mem_cons_self)
      rw [hv] at hy
      cases hy
      obtain ⟨a', ea, q⟩ := step hg rfl fun _ _ => trivial
      cases ea
      have hG : G a = .sl i := by
        cases c with
        | l ds => exact hk.1
      exact rec' (s' := .bo c2) (lt_of hg) ⟨a, rfl, q hG, hβ⟩ hb
    · rename_i ds hg
      have old := sr.ok i _ ((hP i _ hg).2 List.mem_cons_self)
      have ok := slot_new e (.inr ⟨ds, rfl⟩) old
      rw [hvD] at ok
      have same : g.set i (.sc ds) = g := by
        have hlt := lt_of hg
        rw [List.getElem?_eq_getElem hlt] at hg
        rw [← Option.some.inj hg]
        exact List.set_getElem_self hlt
      exact rec' (lt_of hg) ok (by rw [same]; exact hb)
    · cases hb

/-- what a call of a def wants, from the machine's answer -/
theorem call_post {Γ : Call} {fno : Nat} {ar : Nat} {rs : List Ar} {r : Out Val × Sg} {vs : List V} (sr : SR X.K exs G H g σ) (ha : ArsOk X.K (Bh G H) σ rs vs) (hc : callR Γ fno rs g = some r) (har : vs.length = ar) (post : Pv X exs σ G H Q W r) :
    ∃ E, spF X.K exs ar (Γ fno) vs H Q E ∧ ∀ (pins : List (Addr × Obj)) (s : Shared) (e : Value) (s' : Shared), Inv X pins σ H s → L2.CX X.prog X.w X.stack H s E e s' → X.xe e s' := by
  unfold callR at hc
  split at hc
  · rename_i nd
    obtain ⟨xs, hxs, hc⟩ := Option.bind_eq_some_iff.mp hc
    obtain ⟨⟨o, ms⟩, ho, hc⟩ := Option.bind_eq_some_iff.mp hc
    obtain ⟨g2, hg2, rfl⟩ := Option.map_eq_some_iff.mp hc
    have ao : ArgsOk X.K (callee rs G) H 0 xs vs := args_ok sr nd (pre := []) rfl ha hxs
    have tg : Tagd (callee rs G) H := sr.tag.keep (by rw [bh_callee]; exact fun _ _ z => z) (fun a h => sr.tag.ne a fun z => h (callee_un.mpr z)) (fun a q h => ⟨callee_tb.mp h, rfl⟩) (fun a h => .inl ⟨callee_st.mp h, rfl⟩) (fun a q h => callee_tb.mpr h) fun a h => sr.tag.ls a (callee_lsy.mp h)
    have tbs : ∀ p, p ∈ exs.tb → callee rs G p.1 = .tb p.2 := fun p hp => callee_tb.mpr (sr.tbs p hp)
    have back : ∀ H' G', Ext (callee rs G) H G' H' → Tagd G' H' → OutsOk X.K G' H' 0 ms vs → SR X.K exs (caller G G') H' g2 σ := fun H' G' e t oo => by
      obtain ⟨h1, h2⟩ := back_ok sr e nd (suf := rs) (pre := []) rfl ha oo hg2 rfl fun j s q => ⟨fun hj => slot_new e (.inl hj) (sr.ok j s q), fun _ => q⟩
      exact ⟨h1.trans sr.len, h2, caller_tag e t, fun p hp => (caller_ext e).tb _ _ (sr.tbs p hp)⟩
    cases o with
    | ok x =>
      refine ⟨fun _ _ _ => False, ⟨_, xs, .ok x, ms, har, tg, tbs, ao, ho, fun H' G' e t oo v hv => ?_⟩, fun pins s e s' I c => ?_⟩
      · exact post v H' _ (caller_ext e) (back H' G' e t oo) (caller_val e hv)
      · exact passL (X := X) pins σ H s e s' I c
    | ex x =>
      obtain ⟨tk, q⟩ := post
      refine ⟨fun cls dd H' => W cls dd σ H', ⟨_, xs, .ex x, ms, har, tg, tbs, ao, ho, fun H' G' e t oo cls dd hx => ?_⟩, fun pins s e s' I c => ?_⟩
      · obtain ⟨C, q1, q2, q3⟩ := hx
        exact q cls dd H' _ (caller_ext e) (back H' G' e t oo) ⟨C, q1, q2, q3.mono (caller_same e)⟩
      · exact tk e s' (XE.of_call I (fun _ _ _ h => h) c)
  · cases hc
theorem ArsOk.length {K : PySem.W.Frag} {B : Hp} : ∀ {rs : List Ar} {vs : List V}, ArsOk K B σ rs vs → vs.length = rs.length
  | [], [], _ => rfl
  | [], _ :: _, h => h.elim
  | _ :: _, [], h => h.elim
  | _ :: _, _ :: _, h => congrArg (· + 1) (ArsOk.length h.2)
theorem snd_call {Γ : Call} {fno : Nat} {i : FnI} {fs : Sg → R (List Ar)} {p : Pos} (F : FnAt X Γ exs fno i) (gd : X.A.guards = some []) (hg : Gl X i.name) (hd : (i.name == ("__debug__" : Str)) = false)
    (h1 : notStar e = true) (hn : es.all notStar = true) (hs : SndR X exs (e :: es) fs) : Snd X exs (.Call (.Name i.name p) (e :: es) [] pos) fun g => bnd (fs g) fun rs g => if rs.length = i.ps.length then callR Γ fno rs g else none :=
  fun g r hr σ H G Q W sr post => by
  obtain ⟨a, fd, k, hm, hk, hb, hrm, hf⟩ := F.ex
  refine we_call hf hrm gd hb.1 hg hm hk hd h1 hn ?_
  refine hs.use hr sr post.ex fun rs g1 h1 vs H1 G1 e1 s1 r1 => ?_
  split at h1
  · rename_i hl
    refine call_post (W := W) s1 r1 h1 (r1.length.trans hl) ?_
    obtain ⟨o, g2⟩ := r
    cases o with
    | ok y => exact fun v H2 G2 e2 => post v H2 G2 (e1.trans e2)
    | ex y => exact PX.next post e1
  · cases h1
theorem snd_call0 {Γ : Call} {fno : Nat} {i : FnI} {p : Pos} (F : FnAt X Γ exs fno i) (gd : X.A.guards = some []) (hg : Gl X i.name) (hd : (i.name == ("__debug__" : Str)) = false) :
    Snd X exs (.Call (.Name i.name p) [] [] pos) fun g => if 0 = i.ps.length then callR Γ fno [] g else none :=
  fun g r hr σ H G Q W sr post => by
  obtain ⟨a, fd, k, hm, hk, hb, hrm, hf⟩ := F.ex
  dsimp only at hr
  split at hr
  · rename_i hl
    refine we_call0 hf hrm gd hb.1 hg hm hk hd ?_
    exact call_post sr (rs := []) (vs := []) trivial hr hl post
  · cases hr

/-! ### built-ins -/
def b1N : B1 → Str
  | .len => "len"
  | .sum => "sum"
  | .max => "max"
  | .min => "min"
  | .all => "all"
  | .any => "any"
  | .int => "int"
  | .str => "str"
  | .repr => "repr"
  | .tuple => "tuple"
  | .list => "list"
  | .bool => "bool"
  | .abs => "abs"
  | .sorted => "sorted"
theorem boot_b1 (o : B1) : bootBuiltins (b1N o) = some (b1F o) := by
  cases o <;> decide +kernel
theorem snd_b1 {a : Expr} {fa : Sg → R Val} {p : Pos} (o : B1) (hc : b1C o = true → X.calm = true) (hgd : X.A.guards = some []) (hu : X.A.units + 64 < cLine) (hg : Gl X (b1N o)) (hm : X.mg (b1N o) = none) (h1 : notStar a = true) (ha : Snd X exs a fa) :
    Snd X exs (.Call (.Name (b1N o) p) [a] [] pos) fun g => bnd (fa g) fun x g => opt (b1D o x.toD) g :=
  fun g r hr σ H G Q W sr post => by
  have rd : tCB (rB1 X.K o) (tCons (WE X a) tNil) σ H Q := by
    refine ha.useD hr sr post.ex fun x g1 h1 v H1 G1 e1 s1 r1 => ?_
    obtain ⟨z, hz, rfl⟩ := opt_some h1
    exact ⟨v, G1, _, z, rfl, s1.tag, r1, hz, fun u H' G' gr rv => post u H' G' (e1.trans gr.toExt) (s1.grow gr) rv⟩
  have n1 : b1N o ≠ "__name__" := by cases o <;> decide +kernel
  have n2 : (b1N o == ("__debug__" : Str)) = false := by cases o <;> decide +kernel
  have st : starEach [a] X.env = (false, eval a X.env) :: starEach [] X.env := star_of h1
  have cr := cr_b1 o hc hgd hu
  have bo := boot_b1 o
  cases o
  all_goals first
    | exact we_of (pe_callB cr hg hm bo (pa_cons we_max pa_nil st) n1 n2 st rfl) rd
    | exact we_of (pe_callTy cr hg hm bo (pa_cons we_max pa_nil st) n1 n2 st rfl) rd
def b2N : B2 → Str
  | .max => "max"
  | .min => "min"
theorem boot_b2 (o : B2) : bootBuiltins (b2N o) = some (b2F o) := by
  cases o <;> decide +kernel
theorem snd_b2 {a b : Expr} {fa fb : Sg → R Val} {p : Pos} (hc : X.calm = true) (o : B2) (hg : Gl X (b2N o)) (hm : X.mg (b2N o) = none) (h1 : notStar a = true) (h2 : notStar b = true) (ha : Snd X exs a fa) (hb : Snd X exs b fb) :
    Snd X exs (.Call (.Name (b2N o) p) [a, b] [] pos) fun g => bnd (fa g) fun x g => bnd (fb g) fun y g => opt ((b2D o x.toD y.toD).map .v) g :=
  fun g r hr σ H G Q W sr post => by
  have rd : tCB (rB2 X.K o) (tCons (WE X a) (tCons (WE X b) tNil)) σ H Q := by
    refine ha.useD hr sr post.ex fun x g1 h1 v H1 G1 e1 s1 r1 => ?_
    refine hb.useD h1 s1 (exNext post.ex e1) fun y g2 h2 w H2 G2 e2 s2 r2 => ?_
    obtain ⟨z, hz, rfl⟩ := opt_some h2
    obtain ⟨k, hk, rfl⟩ := Option.map_eq_some_iff.mp hz
    exact ⟨v, w, _, _, _, k, rfl, r1.mono e2.same, r2, hk, fun u ru => post u H2 G2 (e1.trans e2) s2 (ru.mono (by
      exact fun _ _ h => h))⟩
  have st2 : starEach [b] X.env = (false, eval b X.env) :: starEach [] X.env := star_of h2
  have st : starEach [a, b] X.env = (false, eval a X.env) :: starEach [b] X.env := star_of h1
  have cr := cr_b2 hc o
  have bo := boot_b2 o
  have n1 : b2N o ≠ "__name__" := by cases o <;> decide +kernel
  have n2 : (b2N o == ("__debug__" : Str)) = false := by cases o <;> decide +kernel
  have ns : (backTo pos (starEach [b] X.env)).any (·.1) = false := by
    rw [st2]
    rfl
  cases o
  all_goals exact we_of (pe_callB cr hg hm bo (pa_cons we_max (pa_cons we_max pa_nil st2) st) n1 n2 st ns) rd
def tyN : Ty → Str
  | .int => "int"
  | .bool => "bool"
  | .tuple => "tuple"
  | .list => "list"
  | .str => "str"
  | .dict => "dict"
theorem boot_ty (t : Ty) : bootBuiltins (tyN t) = some (.type (tyName t)) := by
  cases t <;> decide +kernel
theorem snd_isi {a : Expr} {fa : Sg → R Val} {p p2 : Pos} (t : Ty) (hg : Gl X "isinstance") (hm : X.mg "isinstance" = none) (hg2 : Gl X (tyN t)) (hm2 : X.mg (tyN t) = none) (h1 : notStar a = true) (ha : Snd X exs a fa) :
    Snd X exs (.Call (.Name "isinstance" p) [a, .Name (tyN t) p2] [] pos) fun g => bnd (fa g) fun x g => ret (.v (.bool (isiD x.toD t))) g :=
  fun g r hr σ H G Q W sr post => by
  have st : starEach [a, .Name (tyN t) p2] X.env = (false, eval a X.env) :: starEach [.Name (tyN t) p2] X.env := star_of h1
  have n1 : tyN t ≠ "__name__" := by cases t <;> decide +kernel
  have n2 : (tyN t == ("__debug__" : Str)) = false := by cases t <;> decide +kernel
  refine we_of (pe_callB (cr_isi t) hg hm (by decide +kernel) (pa_cons we_max (pa_cons (pe_bltn (v := .ty (tyName t)) hg2 hm2 (boot_ty t) rfl n1 n2) pa_nil) st) (by decide +kernel) (by decide +kernel) st rfl) ?_
  refine ha.useD hr sr post.ex fun x g1 h1 v H1 G1 e1 s1 r1 => ?_
  rw [ret_some h1] at post
  exact ⟨v, _, G1, _, rfl, rfl, r1, post _ H1 G1 e1 s1 (.bl _)⟩
/-! ### methods that answer -/
def rCountD (K : PySem.W.Frag) : V → List V → Hp → VK → Prop := fun x xs H Q => ∃ (a : Addr) (y : V) (d : PyData) (ds : List PyData), x = V.ref a ∧ xs = [y] ∧ Dp K H (V.ref a) (.list ds) ∧ Dp K H y d ∧
  SeqAt.shaped (.list ds) = true ∧ SeqAt.shaped d = true ∧ Q (.int (ds.countP fun z => PyData.eqv z d : Nat)) H
theorem mt_countD {X : Cx} (hu : X.A.units + 65 < cLine) : MtR X "list.count" (rCountD X.K) := by
  intro pins s σ H x xs v us Q I rx rxs h
  obtain ⟨a, y, d, ds, rfl, rfl, hl, hy, sl, sd, q⟩ := h
  cases rx
  obtain ⟨uy, rfl, ry⟩ := rxs.one
  obtain ⟨bs, r1⟩ := Dp.reads I d y uy hy ry
  have hxs : PyData.canLayAll0 ds = true := SeqAt.canLay_of_shaped sl
  have room : X.A.units + 1 + min (PyData.depthAll ds) d.depth < cLine := room_in_shaped sd hu
  cases hl with
  | lst hs ha =>
    obtain ⟨its, rv, ⟨⟨cls, dd, data, sls⟩, n, ho, hc, hdn, hdt⟩, hlen⟩ := I.list hs
    simp only at hc hdt
    subst hc hdt
    obtain ⟨as, h4⟩ := Dp.readsAll I ds _ its ha rv
    have hmap : its.map (SeqAt.readOf s.heap) = ds := SeqAt.readsAll_map ds its as hxs h4
    refine call_meets PySem.F.slot_list_count ⟨_, ho, rfl⟩ PySem.F.entry_list_count (PySem.F.args_list_count_2 _ _)
      (SeqAt.list_countAt a its.toArray n dd sls uy (fun u => PyData.eqv (SeqAt.readOf s.heap u) d)) ⟨ho, SeqAt.items_eqAt (vs := its.toArray) (show ReadsAll s.heap its.toArray.toList ds as from h4) r1 hxs (SeqAt.canLay_of_shaped sd) room, ?_⟩
    refine ⟨.int (ds.countP fun z => PyData.eqv z d : Nat), H, I.tok _, ⟨s.toks, ?_⟩, q⟩
    rw [← hmap, List.countP_map]
    rfl
def noCall0 : Expr → Bool
  | .Call (.Name _ _) [] [] _ => false
  | _ => true
theorem noCall0_base {o : Expr} (h : noCall0 o = true) (m : Str) (env : Env) (w : Sem Value) : attributeBase o m env w = w := by
  unfold attributeBase
  split
  · simp [noCall0] at h
  · rfl
def moN : MO → Str
  | .count => "count"
  | .index => "index"
def rMt (K : PySem.W.Frag) (o : MO) : V → List V → Hp → VK → Prop := fun x xs H Q => ∃ y G d e r, xs = [y] ∧ Tagd G H ∧ Rp K (Bh G H) x d ∧ Rp K (Bh G H) y e ∧ mtD o d e = some r ∧ ∀ v, Rp K (Bh G H) v r → Q v H
theorem mt_mtD {X : Cx} (hu : X.A.units + 65 < cLine) : ∀ o : MO, MtR X (match o with | .count => "list.count" | .index => "list.index") (rMt X.K o)
  | .count => fun pins s σ H x xs v us Q I rx rxs ⟨y, G, d, e, r, hxs, t, rd, re, hb, q⟩ => by
    unfold mtD at hb
    split at hb
    · split at hb
      · rename_i hs
        rw [Bool.and_eq_true] at hs
        cases hb
        obtain ⟨a, ys, rfl, ha, ra⟩ := rp_lst rd
        exact mt_countD hu pins s σ H _ xs v us Q I rx rxs ⟨a, y, _, _, rfl, hxs, (rd.mono Bh.same).dp, (re.mono Bh.same).dp, hs.1, hs.2, q _ (.int _)⟩
      · cases hb
    · rename_i h; cases h
    · cases hb
  | .index => fun pins s σ H x xs v us Q I rx rxs ⟨y, G, d, e, r, hxs, t, rd, re, hb, q⟩ => by
    unfold mtD at hb
    split at hb
    · rename_i h; cases h
    · split at hb
      · rename_i hs
        rw [Bool.and_eq_true] at hs
        obtain ⟨j, hj, rfl⟩ := Option.map_eq_some_iff.mp hb
        obtain ⟨a, ys, rfl, ha, ra⟩ := rp_lst rd
        obtain ⟨hl, h1, h2⟩ := List.findIdx?_eq_some_iff_getElem.mp hj
        exact mt_indexD hu pins s σ H _ xs v us Q I rx rxs ⟨a, y, _, _, j, _, rfl, hxs, (rd.mono Bh.same).dp, (re.mono Bh.same).dp, hs.1, hs.2, List.getElem?_eq_getElem hl, h1, fun m z hm hz => by
          obtain ⟨hml, rfl⟩ := List.getElem?_eq_some_iff.mp hz
          exact Bool.eq_false_iff.mpr (h2 m hm), q _ (.int _)⟩
      · cases hb
    · cases hb
theorem snd_mt {a b : Expr} {fa fb : Sg → R Val} {p2 p3 : Pos} (hu : X.A.units + 65 < cLine) (o : MO) (hb0 : noCall0 a = true) (h2 : notStar b = true) (hl : (p2.endLine == p3.line) = true) (ha : Snd X exs a fa) (hb : Snd X exs b fb) :
    Snd X exs (.Call (.Attribute a (moN o) p2) [b] [] p3) fun g => bnd (fa g) fun x g => if isLst x.toD then bnd (fb g) fun y g => opt ((mtD o x.toD y.toD).map .v) g else none :=
  fun g r hr σ H G Q W sr post => by
  have rd : tBM X.K "list" (rMt X.K o) (WE X a) (tCons (WE X b) tNil) σ H Q := by
    refine ha.useD hr sr post.ex fun x g1 h1 v H1 G1 e1 s1 r1 => ?_
    split at h1
    · rename_i hx
      refine ⟨?_, ?_⟩
      · unfold isLst at hx
        split at hx
        · rename_i ds e
          rw [e] at r1
          obtain ⟨q, ys, rfl, hq, _⟩ := rp_lst r1
          exact .inl ⟨rfl, _, SqL.of hq⟩
        · cases hx
      · refine hb.useD h1 s1 (exNext post.ex e1) fun y g2 h2 w H2 G2 e2 s2 r2 => ?_
        obtain ⟨z, hz, rfl⟩ := opt_some h2
        obtain ⟨z', hz', rfl⟩ := Option.map_eq_some_iff.mp hz
        exact ⟨w, G2, _, _, z', rfl, s2.tag, r1.mono e2.same, r2, hz', fun u ru => post u H2 G2 (e1.trans e2) s2 ru⟩
    · cases h1
  have st : starEach [b] X.env = (false, eval b X.env) :: starEach [] X.env := star_of h2
  cases o
  · exact we_of (pe_bm PySem.F.plainAttrs_list PySem.F.slot_list_count PySem.F.type_list_count (mt_mtD hu .count) we_max (pa_cons we_max pa_nil st) (noCall0_base hb0 _ _ _) (by rw [st]; rfl) hl st rfl) rd
  · exact we_of (pe_bm PySem.F.plainAttrs_list PySem.F.slot_list_index PySem.F.type_list_index (mt_mtD hu .index) we_max (pa_cons we_max pa_nil st) (noCall0_base hb0 _ _ _) (by rw [st]; rfl) hl st rfl) rd
theorem ddP_mem {x : Int × Int} : ∀ {l : List (Int × Int)}, x ∈ ddP l ↔ x ∈ l
  | [] => Iff.rfl
  | y :: r => by
    unfold ddP
    by_cases h : y ∈ r
    · rw [if_pos h, ddP_mem (l := r), List.mem_cons]
      exact ⟨.inr, fun z => z.elim (fun e => e ▸ h) id⟩
    · rw [if_neg h, List.mem_cons, List.mem_cons, ddP_mem (l := r)]
theorem ddP_nodup : ∀ l : List (Int × Int), (ddP l).Nodup
  | [] => .nil
  | y :: r => by
    unfold ddP
    by_cases h : y ∈ r
    · rw [if_pos h]; exact ddP_nodup r
    · rw [if_neg h]
      exact .cons (fun z hz e => h (ddP_mem.mp (e ▸ hz))) (ddP_nodup r)
def adrOf : V → Addr
  | .ref a => a
  | _ => 0
theorem code2 (B i j : Int) : TS.code B [i, j] = i * B + j := by
  show i * B ^ 1 + (j * B ^ 0 + 0) = _
  rw [Int.pow_succ, Int.pow_zero, Int.one_mul, Int.mul_one, Int.add_zero]
theorem snd_srtset {a : Expr} {fa : Sg → R Val} {p p2 q : Pos} (hc : X.calm = true) (hu : X.A.units + 64 < cLine) (hg : Gl X "sorted") (hm : X.mg "sorted" = none) (hg2 : Gl X "set") (hm2 : X.mg "set" = none) (h1 : notStar a = true) (ha : Snd X exs a fa) :
    Snd X exs (.Call (.Name "sorted" p) [.Call (.Name "set" p2) [a] [] q] [] pos) fun g => bnd (fa g) fun x g => opt (srtSetD x.toD) g :=
  fun g r hr σ H G Q W sr post => by
  have st : starEach [a] X.env = (false, eval a X.env) :: starEach [] X.env := star_of h1
  have st2 : starEach [.Call (.Name "set" p2) [a] [] q] X.env = (false, eval (.Call (.Name "set" p2) [a] [] q) X.env) :: starEach [] X.env := rfl
  have inner : tCB (rSetSeqT X.K X.prog X.w) (tCons (WE X a) tNil) σ H fun v H2 => rSortedT X.K X.prog X.w [v] H2 Q := by
    refine ha.useD hr sr post.ex fun x g1 h1 v H1 G1 e1 s1 r1 => ?_
    obtain ⟨z, hz, rfl⟩ := opt_some h1
    generalize x.toD = d at hz r1
    obtain ⟨ds, l, xs, rfl, hl, ra, hz⟩ : ∃ ds l xs, v = .ref l ∧ (SqL X.K H1 l xs ∨ SqT X.K H1 l xs) ∧ RpAll X.K (Bh G1 H1) xs ds ∧ ((pairsD ds).bind fun ps => if (decide (ps.length < 64) && ps.all inB) = true then some (Val.m (.l ((sortP (ddP ps)).map prD))) else none) = some z := by
      cases d with
      | list ds =>
        obtain ⟨l, xs, rfl, hl, ra⟩ := rp_lst r1
        exact ⟨ds, l, xs, rfl, .inl (SqL.of hl), ra, hz⟩
      | tuple ds =>
        obtain ⟨l, xs, rfl, hl, ra⟩ := rp_tup r1
        exact ⟨ds, l, xs, rfl, .inr hl, ra, hz⟩
      | _ => cases hz
    · obtain ⟨ps, hp, hz⟩ := Option.bind_eq_some_iff.mp hz
      split at hz
      · rename_i hb
        cases hz
        rw [Bool.and_eq_true, decide_eq_true_eq] at hb
        obtain ⟨e2, e3⟩ := rp_pairs ra hp
        have hbd : ∀ w, w ∈ xs → TS.Bd (10 ^ 9) [(prK H1 w).1, (prK H1 w).2] := fun w hw m hm => by
          have := List.all_eq_true.mp hb.2 (prK H1 w) (by rw [← e2]; exact List.mem_map.mpr ⟨w, hw, rfl⟩)
          unfold inB at this
          simp only [Bool.and_eq_true, decide_eq_true_eq] at this
          rcases List.mem_cons.mp hm with rfl | hm
          · exact ⟨this.1.1.1, this.1.1.2⟩
          · rw [List.mem_singleton.mp hm]
            exact ⟨this.1.2, this.2⟩
        refine ⟨l, xs.map fun w => (adrOf w, [(prK H1 w).1, (prK H1 w).2]), rfl, ?_, ?_, ?_, ?_⟩
        · rw [List.map_map]
          have : xs.map ((fun p : Addr × List Int => V.ref p.1) ∘ fun w => (adrOf w, [(prK H1 w).1, (prK H1 w).2])) = xs := by
            conv => rhs; rw [← List.map_id xs]
            refine List.map_congr_left fun w hw => ?_
            obtain ⟨⟨t, rfl, _⟩, _⟩ := e3 w hw
            rfl
          rw [this]
          exact hl
        · intro p hp
          obtain ⟨w, hw, rfl⟩ := List.mem_map.mp hp
          obtain ⟨⟨t, rfl, ht⟩, _⟩ := e3 w hw
          exact .inl (.inl ht)
        · rw [List.length_map]
          have : xs.length = ps.length := by rw [← e2, List.length_map]
          omega
        · intro A L hA hL1 hL2
          have hLw : ∀ p, p ∈ L → ∃ w, w ∈ xs ∧ p = (adrOf w, [(prK H1 w).1, (prK H1 w).2]) := fun p hp => by
            obtain ⟨w, hw, e⟩ := List.mem_map.mp (hL1 p hp)
            exact ⟨w, hw, e.symm⟩
          refine ⟨A, L, 2, 10 ^ 9, rfl, upd_same, ?_, by decide, ?_, ?_⟩
          · intro p hp
            obtain ⟨w, hw, rfl⟩ := hLw p hp
            obtain ⟨⟨t, rfl, ht⟩, _⟩ := e3 w hw
            refine .inl (.inl ?_)
            rw [upd_ne (fun e => by rw [show t = A from e, hA] at ht; cases ht)]
            exact ht
          · intro p hp
            obtain ⟨w, hw, rfl⟩ := hLw p hp
            exact ⟨rfl, hbd w hw⟩
          · intro L' pn hperm hnd hlen hsrt hn
            have hA2 : H1 A = none := hA
            have hL'w : ∀ p, p ∈ L' → ∃ w, w ∈ xs ∧ p = (adrOf w, [(prK H1 w).1, (prK H1 w).2]) := fun p hp => hLw p (hperm.mem_iff.mp hp)
            let pr : Addr × List Int → Int × Int := fun p => (p.2.getD 0 0, p.2.getD 1 0)
            have e4 : L'.map pr = sortP (ddP ps) := by
              refine pairs_one ?_ ?_ (sortP_pair _)
              · refine List.Perm.trans ?_ (sortP_perm _).symm
                rw [List.perm_ext_iff_of_nodup ?_ (ddP_nodup ps)]
                · intro y
                  rw [ddP_mem]
                  constructor
                  · intro hy
                    obtain ⟨p, hp, rfl⟩ := List.mem_map.mp hy
                    obtain ⟨w, hw, rfl⟩ := hL'w p hp
                    rw [← e2]
                    exact List.mem_map.mpr ⟨w, hw, rfl⟩
                  · intro hy
                    rw [← e2] at hy
                    obtain ⟨w, hw, rfl⟩ := List.mem_map.mp hy
                    obtain ⟨p, hp, e5⟩ := List.mem_map.mp (hL2 (adrOf w, [(prK H1 w).1, (prK H1 w).2]) (List.mem_map.mpr ⟨w, hw, rfl⟩))
                    refine List.mem_map.mpr ⟨p, hperm.mem_iff.mpr hp, ?_⟩
                    have e5 : p.2 = [(prK H1 w).1, (prK H1 w).2] := e5
                    show (p.2.getD 0 0, p.2.getD 1 0) = _
                    rw [e5]
                    rfl
                · rw [List.Nodup, List.pairwise_map]
                  rw [List.Nodup, List.pairwise_map] at hnd
                  refine List.Pairwise.imp_of_mem ?_ hnd
                  intro p p' hp hp' ne e
                  obtain ⟨w, hw, rfl⟩ := hL'w p hp
                  obtain ⟨w', hw', rfl⟩ := hL'w p' hp'
                  apply ne
                  have e6 : ((prK H1 w).1, (prK H1 w).2) = ((prK H1 w').1, (prK H1 w').2) := e
                  show [(prK H1 w).1, (prK H1 w).2] = [(prK H1 w').1, (prK H1 w').2]
                  rw [congrArg Prod.fst e6, congrArg Prod.snd e6]
              · rw [List.pairwise_map]
                refine List.Pairwise.imp_of_mem ?_ hsrt
                intro p p' hp hp' le
                obtain ⟨w, hw, rfl⟩ := hL'w p hp
                obtain ⟨w', hw', rfl⟩ := hL'w p' hp'
                have le : TS.code (10 ^ 9) [(prK H1 w).1, (prK H1 w).2] ≤ TS.code (10 ^ 9) [(prK H1 w').1, (prK H1 w').2] := le
                rw [code2, code2] at le
                have b1 := hbd w hw _ (List.mem_cons_of_mem _ List.mem_cons_self)
                have b2 := hbd w' hw' _ (List.mem_cons_of_mem _ List.mem_cons_self)
                show leP (prK H1 w) (prK H1 w') = true
                rw [leP_iff]
                omega
            have w1 := Grow.new s1.tag hA2 (SetTO X.prog X.w A L)
            have w2 := Grow.new w1.tag hn (.lst (L'.map fun q => V.ref q.1))
            have rl : RpAll X.K (Bh G1 H1) (L'.map fun q => V.ref q.1) (L'.map fun q => prD (pr q)) := by
              have : ∀ M : List (Addr × List Int), (∀ p, p ∈ M → p ∈ L') → RpAll X.K (Bh G1 H1) (M.map fun q => V.ref q.1) (M.map fun q => prD (pr q)) := by
                intro M
                induction M with
                | nil => intro _; exact .nil
                | cons m M ih =>
                  intro hM
                  refine .cons ?_ (ih fun p hp => hM p (List.mem_cons_of_mem _ hp))
                  obtain ⟨w, hw, rfl⟩ := hL'w m (hM m List.mem_cons_self)
                  obtain ⟨⟨t, rfl, ht⟩, rw1⟩ := e3 w hw
                  exact rw1
              exact this L' fun p hp => hp
            have e7 : (L'.map fun q => prD (pr q)) = (sortP (ddP ps)).map prD := by rw [← e4, List.map_map]; rfl
            rw [e7] at rl
            refine post (.ref pn) _ G1 (e1.trans (w1.toExt.trans w2.toExt)) ((s1.grow w1).grow w2) ⟨pn, rfl, w1.tag.un hn, _, upd_same, ?_⟩
            exact rl.mono (w1.same.trans w2.same)
      · cases hz
  have outer : tCB (rSortedT X.K X.prog X.w) (tCons (WE X (.Call (.Name "set" p2) [a] [] q)) tNil) σ H Q :=
    we_of (pe_callTy (cr_setSeqT hc hu) hg2 hm2 (by decide +kernel) (pa_cons we_max pa_nil st) (by decide +kernel) (by decide +kernel) st rfl) inner
  exact we_of (pe_callB (cr_sortedT hc) hg hm (by decide +kernel) (pa_cons we_max pa_nil st2) (by decide +kernel) (by decide +kernel) st2 rfl) outer
end
end Z

/-! Z6: targets, what is walked, comprehensions. -/
namespace Z
open PySem PySem.Spec PyProof.Rows L2

/-! ### targets -/
def tgsLen : Tgs → Nat
  | .nil => 0
  | .cons _ ts => tgsLen ts + 1
mutual
def tgRd (K : PySem.W.Frag) : Tg → TG
  | .n i => gName i
  | .t ts => gTup K (tgsLen ts) (tgsRd K ts)
def tgsRd (K : PySem.W.Frag) : Tgs → TGs
  | .nil => gNil
  | .cons t ts => gCons (tgRd K t) (tgsRd K ts)
end
mutual
def tgIx : Tg → List Nat
  | .n i => [i]
  | .t ts => tgsIx ts
def tgsIx : Tgs → List Nat
  | .nil => []
  | .cons t ts => tgIx t ++ tgsIx ts
end
mutual
def chkTg (asn : Str → Bool) (N : List Str) : Tg → Expr → Bool
  | .n i, e => match e with
    | .Name x _ => decide (N[i]? = some x) && asn x
    | _ => false
  | .t ts, e => match e with
    | .Tuple es _ _ => chkTgs asn N ts es
    | _ => false
def chkTgs (asn : Str → Bool) (N : List Str) : Tgs → List Expr → Bool
  | .nil, es => es.isEmpty
  | .cons t ts, es => match es with
    | e :: es => chkTg asn N t e && chkTgs asn N ts es
    | [] => false
end
section
variable {X : Cx} {asn : Str → Bool}
theorem each_cons {e : Expr} {es : List Expr} {env : Env} (h : notStar e = true) : assignEach (e :: es) env = (false, assign e env) :: assignEach es env := by
  cases e <;> first | rfl | (simp [notStar] at h)
theorem tg_notStar {N : List Str} {t : Tg} {e : Expr} (h : chkTg asn N t e = true) : notStar e = true := by
  cases t <;> cases e <;> first | rfl | (simp [chkTg] at h)
mutual
theorem pg_of (hc : X.calm = true) (nd : X.N.Nodup) (ha : ∀ x, asn x = true → L2.Loc X.env.scope x ∧ (X.fn x = true ∨ X.env.scope.names.lookup x = some .local)) : ∀ (t : Tg) (e : Expr), chkTg asn X.N t e = true → PG X e (tgRd X.K t)
  | .n i, e, h => by
    cases e <;> simp only [chkTg, Bool.and_eq_true, decide_eq_true_eq] at h <;> first | cases h | skip
    rename_i x p h1 h2
    obtain ⟨q1, q2⟩ := ha x h2
    exact pg_name nd h1 q1 q2
  | .t ts, e, h => by
    cases e <;> simp only [chkTg] at h <;> first | cases h | skip
    rename_i es k p
    obtain ⟨p1, p2, p3⟩ := pgs_of hc nd ha ts es h
    exact pg_tup hc p1 p2 p3
theorem pgs_of (hc : X.calm = true) (nd : X.N.Nodup) (ha : ∀ x, asn x = true → L2.Loc X.env.scope x ∧ (X.fn x = true ∨ X.env.scope.names.lookup x = some .local)) : ∀ (ts : Tgs) (es : List Expr), chkTgs asn X.N ts es = true →
    PGs X es (tgsRd X.K ts) ∧ (assignEach es X.env).length = tgsLen ts ∧ (assignEach es X.env).findIdx? (·.1) = none
  | .nil, es, h => by
    simp only [chkTgs, List.isEmpty_iff] at h
    subst h
    exact ⟨pgs_nil, rfl, rfl⟩
  | .cons t ts, [], h => by cases h
  | .cons t ts, e :: es, h => by
    simp only [chkTgs, Bool.and_eq_true] at h
    have h1 := pg_of hc nd ha t e h.1
    obtain ⟨p1, p2, p3⟩ := pgs_of hc nd ha ts es h.2
    have q := each_cons (es := es) (env := X.env) (tg_notStar h.1)
    refine ⟨pgs_cons h1 p1 (by rw [q]; rfl), ?_, ?_⟩
    · rw [q, List.length_cons, p2]
      rfl
    · rw [q, List.findIdx?_cons]
      simp [p3]
end
end
section
variable {K : PySem.W.Frag} {G : Gh} {H : Hp}
theorem setG_some {g g' : Sg} {i : Nat} {x : Sl} (h : setG g i x = some g') : i < g.length ∧ isBo g[i]? = false ∧ g' = g.set i x := by
  unfold setG at h
  split at h
  · rename_i q
    cases h
    exact ⟨q.1, q.2, rfl⟩
  · cases h
theorem SR.put {g : Sg} {σ : L2.St} {i : Nat} {s : Sl} {v : V} (sr : SR K exs G H g σ) (ok : SlOk K exs G H i s (some v)) : SR K exs G H (g.set i s) (σ.set i (some v)) := by
  refine ⟨by rw [List.length_set, List.length_set]; exact sr.len, fun j t q => ?_, sr.tag, sr.tbs⟩
  by_cases hj : i = j
  · subst hj
    by_cases hl : i < g.length
    · rw [List.getElem?_set_self hl] at q
      cases q
      rw [List.getD_eq_getElem?_getD, List.getElem?_set_self (by rw [← sr.len]; exact hl)]
      exact ok
    · rw [List.getElem?_eq_none (by rw [List.length_set]; omega)] at q
      cases q
  · rw [List.getElem?_set_ne hj] at q
    have := sr.ok j t q
    rw [List.getD_eq_getElem?_getD, List.getElem?_set_ne hj, ← List.getD_eq_getElem?_getD]
    exact this
mutual
theorem asg_ok : ∀ (t : Tg) {d : D} {g g' : Sg} {σ : L2.St} {v : V}, asg t d g = some g' → SR K exs G H g σ → Rp K (Bh G H) v d →
    tgRd K t v σ H fun σ' H' => H' = H ∧ SR K exs G H g' σ' ∧ ∀ j, j ∉ tgIx t → σ'[j]? = σ[j]?
  | .n i, d, g, g', σ, v, h, sr, r => by
    obtain ⟨_, _, rfl⟩ := setG_some h
    exact ⟨rfl, sr.put ⟨v, rfl, r⟩, fun j hj => List.getElem?_set_ne fun z => hj (by rw [← z]; exact List.mem_singleton.mpr rfl)⟩
  | .t ts, d, g, g', σ, v, h, sr, r => by
    cases d with
    | tuple ds =>
      obtain ⟨a, xs, rfl, ha, ra⟩ := rp_tup r
      obtain ⟨hl, q⟩ := asgs_ok ts (ds := ds) (g' := g') (σ := σ) (vs := xs) h sr ra
      exact ⟨a, xs, rfl, ha, ra.length.trans hl, q⟩
    | none => cases h
    | bool _ => cases h
    | int _ => cases h
    | str _ => cases h
    | list _ => cases h
    | dict _ => cases h
theorem asgs_ok : ∀ (ts : Tgs) {ds : List D} {g g' : Sg} {σ : L2.St} {vs : List V}, asgs ts ds g = some g' → SR K exs G H g σ → RpAll K (Bh G H) vs ds →
    ds.length = tgsLen ts ∧ tgsRd K ts vs σ H fun σ' H' => H' = H ∧ SR K exs G H g' σ' ∧ ∀ j, j ∉ tgsIx ts → σ'[j]? = σ[j]?
  | .nil, [], g, g', σ, vs, h, sr, r => by
    cases r
    cases h
    exact ⟨rfl, rfl, rfl, sr, fun _ _ => rfl⟩
  | .nil, _ :: _, g, g', σ, vs, h, sr, r => by cases h
  | .cons t ts, [], g, g', σ, vs, h, sr, r => by cases h
  | .cons t ts, d :: ds, g, g', σ, vs, h, sr, r => by
    cases r with
    | cons r1 r2 =>
      rename_i v vs
      obtain ⟨g1, h1, h2⟩ := Option.bind_eq_some_iff.mp h
      have q1 := asg_ok t h1 sr r1
      have len : ds.length = tgsLen ts := asgs_len ts h2
      refine ⟨by rw [List.length_cons, len]; rfl, v, vs, rfl, ?_⟩
      refine tg_imp t (fun σ' H' q => ?_) q1
      obtain ⟨e1, s1, u1⟩ := q
      obtain ⟨_, q2⟩ := asgs_ok ts h2 s1 r2
      rw [e1]
      refine tgs_imp ts (fun σ2 H2 q => ?_) q2
      obtain ⟨e2, s2, u2⟩ := q
      exact ⟨e2, s2, fun j hj => (u2 j fun z => hj (List.mem_append_right _ z)).trans (u1 j fun z => hj (List.mem_append_left _ z))⟩
theorem asgs_len : ∀ (ts : Tgs) {ds : List D} {g g' : Sg}, asgs ts ds g = some g' → ds.length = tgsLen ts
  | .nil, [], g, g', h => rfl
  | .nil, _ :: _, g, g', h => by cases h
  | .cons t ts, [], g, g', h => by cases h
  | .cons t ts, d :: ds, g, g', h => by
    obtain ⟨g1, h1, h2⟩ := Option.bind_eq_some_iff.mp h
    exact congrArg (· + 1) (asgs_len ts h2)
theorem tg_imp : ∀ (t : Tg) {v : V} {σ : L2.St} {H : Hp} {Q Q' : L2.St → Hp → Prop}, (∀ σ H, Q σ H → Q' σ H) → tgRd K t v σ H Q → tgRd K t v σ H Q'
  | .n i, v, σ, H, Q, Q', h, q => h _ _ q
  | .t ts, v, σ, H, Q, Q', h, q => by
    obtain ⟨a, xs, e, ha, hl, q⟩ := q
    exact ⟨a, xs, e, ha, hl, tgs_imp ts h q⟩
theorem tgs_imp : ∀ (ts : Tgs) {vs : List V} {σ : L2.St} {H : Hp} {Q Q' : L2.St → Hp → Prop}, (∀ σ H, Q σ H → Q' σ H) → tgsRd K ts vs σ H Q → tgsRd K ts vs σ H Q'
  | .nil, vs, σ, H, Q, Q', h, q => ⟨q.1, h _ _ q.2⟩
  | .cons t ts, vs, σ, H, Q, Q', h, q => by
    obtain ⟨v, r, e, q⟩ := q
    exact ⟨v, r, e, tg_imp t (fun σ' H' q => tgs_imp ts h q) q⟩
end
end

/-! ### what is walked -/
/-- the items come one by one, whatever else is done meanwhile -/
def ItOk (K : PySem.W.Frag) (B1 : Hp) (J : It) (ds : List D) : Prop := ∀ i G H, Same B1 (Bh G H) → Tagd G H →
  (∀ d, ds[i]? = some d → J.go i H ∧ ∀ x H', J.yld i H x H' → ∃ G', Grow G H G' H' ∧ Rp K (Bh G' H') x d) ∧ (ds.length = i → J.stop i H)
theorem it_list {K : PySem.W.Frag} {B : Hp} {a : Addr} {vs : List V} {ds : List D} (h : B a = some (.lst vs)) (r : RpAll K B vs ds) : ItOk K B (Itl K a) ds := fun i G H s t => by
  have hq : SqL K H a vs := SqL.of (Bh.same _ _ (s _ _ h))
  refine ⟨fun d e => ?_, fun hl => ⟨vs, hq, by rw [r.length]; exact Nat.le_of_eq hl⟩⟩
  obtain ⟨v, hv, rv⟩ := r.get e
  refine ⟨⟨vs, v, hq, hv⟩, fun x H' y => ?_⟩
  obtain ⟨rfl, f⟩ := y
  have e2 := f vs hq
  rw [hv] at e2
  cases e2
  exact ⟨G, Grow.refl t, rv.mono s⟩
theorem it_tup {K : PySem.W.Frag} {B : Hp} {a : Addr} {vs : List V} {ds : List D} (h : SqT K B a vs) (r : RpAll K B vs ds) : ItOk K B (Itt K a) ds := fun i G H s t => by
  have hq : SqT K H a vs := sqt_mono Bh.same (sqt_mono s h)
  refine ⟨fun d e => ?_, fun hl => ⟨vs, hq, by rw [r.length]; exact Nat.le_of_eq hl⟩⟩
  obtain ⟨v, hv, rv⟩ := r.get e
  refine ⟨⟨vs, v, hq, hv⟩, fun x H' y => ?_⟩
  obtain ⟨rfl, f⟩ := y
  have e2 := f vs hq
  rw [hv] at e2
  cases e2
  exact ⟨G, Grow.refl t, rv.mono s⟩
theorem rngL_length (lo : Int) (n : Nat) : (rngL lo n).length = n := by
  unfold rngL
  rw [List.length_map, List.length_range]
theorem it_rng {K : PySem.W.Frag} {B : Hp} {lo : Int} {n : Nat} : ItOk K B (Itr lo n) (rngL lo n) := fun i G H s t => by
  refine ⟨fun d e => ?_, fun hl => by rw [rngL_length] at hl; exact Nat.le_of_eq hl⟩
  unfold rngL at e
  rw [List.getElem?_map] at e
  obtain ⟨k, hk, rfl⟩ := Option.map_eq_some_iff.mp e
  have hl : i < n := by
    rcases Nat.lt_or_ge i n with z | z
    · exact z
    · rw [List.getElem?_eq_none (by rw [List.length_range]; exact z)] at hk
      cases hk
  rw [List.getElem?_range hl] at hk
  cases hk
  refine ⟨hl, fun x H' y => ?_⟩
  obtain ⟨rfl, rfl⟩ := y
  exact ⟨G, Grow.refl t, .int _⟩
/-- a new pair, as zip and enumerate make them -/
theorem new_pair {K : PySem.W.Frag} {G : Gh} {H : Hp} {T : Addr} {x y : V} {dx dy : D} (t : Tagd G H) (hT : H T = none) (rx : Rp K (Bh G H) x dx) (ry : Rp K (Bh G H) y dy) : ∃ G', Grow G H G' (upd H T (.tup [x, y])) ∧ Rp K (Bh G' (upd H T (.tup [x, y]))) (.ref T) (.tuple [dx, dy]) := by
  obtain ⟨w, ep⟩ := new_st t hT (.tup [x, y])
  exact ⟨_, w, .tup ep (.cons (rx.mono w.same) (.cons (ry.mono w.same) .nil))⟩
theorem zipL_get : ∀ {xs ys : List D} {i : Nat} {d : D}, (zipL xs ys)[i]? = some d → ∃ x y, xs[i]? = some x ∧ ys[i]? = some y ∧ d = .tuple [x, y]
  | [], _, i, d, h => by cases h
  | _ :: _, [], i, d, h => by cases h
  | x :: xs, y :: ys, 0, d, h => by
    cases h
    exact ⟨x, y, rfl, rfl, rfl⟩
  | x :: xs, y :: ys, i + 1, d, h => zipL_get (xs := xs) (ys := ys) h
theorem zipL_length : ∀ {xs ys : List D}, xs.length ≤ (zipL xs ys).length ∨ ys.length ≤ (zipL xs ys).length
  | [], _ => .inl (Nat.zero_le _)
  | _ :: _, [] => .inr (Nat.zero_le _)
  | x :: xs, y :: ys => by
    rcases @zipL_length xs ys with h | h
    · exact .inl (Nat.succ_le_succ h)
    · exact .inr (Nat.succ_le_succ h)
theorem enuL_get : ∀ {xs : List D} {k i : Nat} {d : D}, (enuL k xs)[i]? = some d → ∃ x, xs[i]? = some x ∧ d = .tuple [.int ((k + i : Nat) : Int), x]
  | [], k, i, d, h => by cases h
  | x :: xs, k, 0, d, h => by
    cases h
    exact ⟨x, rfl, rfl⟩
  | x :: xs, k, i + 1, d, h => by
    obtain ⟨y, h1, rfl⟩ := enuL_get (xs := xs) (k := k + 1) (i := i) h
    exact ⟨y, h1, by rw [show k + 1 + i = k + (i + 1) from by omega]⟩
theorem enuL_length : ∀ {xs : List D} {k : Nat}, (enuL k xs).length = xs.length
  | [], _ => rfl
  | x :: xs, k => congrArg (· + 1) (enuL_length (xs := xs))
theorem it_zipL {K : PySem.W.Frag} {B : Hp} {a b : Addr} {us vs : List V} {xs ys : List D} (h1 : B a = some (.lst us)) (r1 : RpAll K B us xs) (h2 : B b = some (.lst vs)) (r2 : RpAll K B vs ys) : ItOk K B (Itz K a b) (zipL xs ys) := fun i G H s t => by
  have q1 : SqL K H a us := SqL.of (Bh.same _ _ (s _ _ h1))
  have q2 : SqL K H b vs := SqL.of (Bh.same _ _ (s _ _ h2))
  refine ⟨fun d e => ?_, fun hl => ⟨us, vs, q1, q2, ?_⟩⟩
  · obtain ⟨x, y, e1, e2, rfl⟩ := zipL_get e
    obtain ⟨u, hu, ru⟩ := r1.get e1
    obtain ⟨v, hv, rv⟩ := r2.get e2
    refine ⟨⟨us, vs, u, v, q1, q2, hu, hv⟩, fun z H' w => ?_⟩
    obtain ⟨T, u', v', rfl, hT, rfl, f1, f2⟩ := w
    have g1 := f1 us q1
    have g2 := f2 vs q2
    rw [hu] at g1
    rw [hv] at g2
    cases g1
    cases g2
    exact new_pair t hT (ru.mono s) (rv.mono s)
  · rw [r1.length, r2.length, ← hl]
    exact zipL_length
theorem it_zipT {K : PySem.W.Frag} {B : Hp} {a b : Addr} {us vs : List V} {xs ys : List D} (h1 : SqT K B a us) (r1 : RpAll K B us xs) (h2 : SqT K B b vs) (r2 : RpAll K B vs ys) : ItOk K B (RZ.ItzT K a b) (zipL xs ys) := fun i G H s t => by
  have q1 : SqT K H a us := sqt_mono Bh.same (sqt_mono s h1)
  have q2 : SqT K H b vs := sqt_mono Bh.same (sqt_mono s h2)
  refine ⟨fun d e => ?_, fun hl => ⟨us, vs, q1, q2, ?_⟩⟩
  · obtain ⟨x, y, e1, e2, rfl⟩ := zipL_get e
    obtain ⟨u, hu, ru⟩ := r1.get e1
    obtain ⟨v, hv, rv⟩ := r2.get e2
    refine ⟨⟨us, vs, u, v, q1, q2, hu, hv⟩, fun z H' w => ?_⟩
    obtain ⟨T, u', v', rfl, hT, rfl, f1, f2⟩ := w
    have g1 := f1 us q1
    have g2 := f2 vs q2
    rw [hu] at g1
    rw [hv] at g2
    cases g1
    cases g2
    exact new_pair t hT (ru.mono s) (rv.mono s)
  · rw [r1.length, r2.length, ← hl]
    exact zipL_length
theorem it_enuL {K : PySem.W.Frag} {B : Hp} {a : Addr} {us : List V} {xs : List D} (h1 : B a = some (.lst us)) (r1 : RpAll K B us xs) : ItOk K B (Ite K a) (enuL 0 xs) := fun i G H s t => by
  have q1 : SqL K H a us := SqL.of (Bh.same _ _ (s _ _ h1))
  refine ⟨fun d e => ?_, fun hl => ⟨us, q1, ?_⟩⟩
  · obtain ⟨x, e1, rfl⟩ := enuL_get e
    obtain ⟨u, hu, ru⟩ := r1.get e1
    refine ⟨⟨us, u, q1, hu⟩, fun z H' w => ?_⟩
    obtain ⟨T, u', rfl, hT, rfl, f1⟩ := w
    have g1 := f1 us q1
    rw [hu] at g1
    cases g1
    rw [Nat.zero_add]
    exact new_pair t hT (.int _) (ru.mono s)
  · rw [r1.length, ← hl, enuL_length]
    exact Nat.le_refl _
theorem it_enuT {K : PySem.W.Frag} {B : Hp} {a : Addr} {us : List V} {xs : List D} (h1 : SqT K B a us) (r1 : RpAll K B us xs) : ItOk K B (ZE.It1 K a) (enuL 0 xs) := fun i G H s t => by
  have q1 : SqT K H a us := sqt_mono Bh.same (sqt_mono s h1)
  refine ⟨fun d e => ?_, fun hl => ⟨us, q1, ?_⟩⟩
  · obtain ⟨x, e1, rfl⟩ := enuL_get e
    obtain ⟨u, hu, ru⟩ := r1.get e1
    refine ⟨⟨us, u, q1, hu⟩, fun z H' w => ?_⟩
    obtain ⟨T, u', rfl, hT, rfl, f1⟩ := w
    have g1 := f1 us q1
    rw [hu] at g1
    cases g1
    rw [Nat.zero_add]
    exact new_pair t hT (.int _) (ru.mono s)
  · rw [r1.length, ← hl, enuL_length]
section
variable (X : Cx) (exs : EX)
def WI (tg iter : Expr) : TI := fun σ H Rr => ∃ wi, PI X tg iter wi ∧ wi σ H Rr
def Pi (σ : L2.St) (G : Gh) (H : Hp) (Q : It → Hp → Prop) (W : WX) : Out (List D) × Sg → Prop
  | (.ok ds, g') => ∀ J H' G', Ext G H G' H' → SR X.K exs G' H' g' σ → ItOk X.K (Bh G' H') J ds → Q J H'
  | (.ex x, g') => PX X exs σ G H W x g'
def SndI (tg iter : Expr) (f : Sg → R (List D)) : Prop := ∀ g r, f g = some r → ∀ σ H G Q W, SR X.K exs G H g σ → Pi X exs σ G H Q W r → WI X tg iter σ H Q
end
section
variable {X : Cx} {exs : EX} {σ : L2.St} {G G1 : Gh} {H H1 : Hp} {W : WX} {e tg : Expr} {f : Sg → R Val} {g g1 : Sg} {pos : Pos} {es : List Expr}
theorem wi_max {iter : Expr} : PI X tg iter (WI X tg iter) := ⟨fun pins s σ H Rr I ⟨wi, h, q⟩ => h.run pins s σ H Rr I q⟩
theorem Pi.ex {Q : It → Hp → Prop} {r : Out (List D) × Sg} (h : Pi X exs σ G H Q W r) : ∀ x g', r = (.ex x, g') → PX X exs σ G H W x g' := fun x g' e => by
  subst e
  exact h
theorem sndI_seq (ha : Snd X exs e f) : SndI X exs tg e fun g => bnd (f g) fun x g => opt (seqD x.toD) g := fun g r hr σ H G Q W sr post => by
  have hr' : bnd (f g) (fun x g => opt (seqD x.toD) g) = some r := hr
  cases q : f g with
  | none =>
    rw [q] at hr'
    cases hr'
  | some z =>
    obtain ⟨o, g1⟩ := z
    cases o with
    | ex x =>
      rw [q] at hr'
      cases hr'
      exact ⟨_, pi_list we_max, ha g _ q σ H G _ W sr post⟩
    | ok x =>
      have hx : opt (seqD x.toD) g1 = some r := by
        rw [q] at hr'
        exact hr'
      obtain ⟨ds, hd, rfl⟩ := opt_some hx
      have go : ∀ {Q' : VK}, (∀ v H1 G1, Ext G H G1 H1 → SR X.K exs G1 H1 g1 σ → Rp X.K (Bh G1 H1) v x.toD → Q' v H1) → WE X e σ H Q' := fun {Q'} hq =>
        ha g _ q σ H G Q' W sr fun v H1 G1 e1 s1 r1 => by
          obtain ⟨G2, r2, w⟩ := r1.rp s1.tag
          exact hq v H1 G2 (e1.trans w.toExt) (s1.grow w) r2
      unfold seqD at hd
      split at hd
      · rename_i xs ex
        cases hd
        refine ⟨_, pi_list we_max, go fun v H1 G1 e1 s1 r1 => ?_⟩
        rw [ex] at r1
        cases r1 with
        | lst h2 r2 => exact ⟨_, rfl, ⟨_, SqL.of (Bh.same _ _ h2)⟩, post _ H1 G1 e1 s1 (it_list h2 r2)⟩
      · rename_i xs ex
        cases hd
        refine ⟨_, pi_tup we_max, go fun v H1 G1 e1 s1 r1 => ?_⟩
        rw [ex] at r1
        cases r1 with
        | tup h2 r2 => exact ⟨_, rfl, ⟨_, SqT.of (Bh.same _ _ h2)⟩, post _ H1 G1 e1 s1 (it_tup (SqT.of h2) r2)⟩
      · cases hd
theorem sndI_rng1 {p : Pos} (hg : Gl X "range") (hm : X.mg "range" = none) (hn : notStar e = true) (ha : Snd X exs e f) : SndI X exs tg (.Call (.Name "range" p) [e] [] pos) fun g => bnd (f g) fun x g => match x with
    | .v (.int j) => if rngOk j then ret (rngL 0 j.toNat) g else none
    | _ => none := fun g r hr σ H G Q W sr post => by
  have st : starEach [e] X.env = [(false, eval e X.env)] := star_of hn
  refine ⟨_, pi_range1 hg hm (pa_cons we_max pa_nil st) st, ?_⟩
  refine ha.useD hr sr post.ex fun x g1 h1 v H1 G1 e1 s1 r1 => ?_
  split at h1
  · split at h1
    · rename_i hk
      rw [ret_some h1] at post
      unfold rngOk at hk
      simp only [Bool.and_eq_true, decide_eq_true_eq] at hk
      exact ⟨_, by rw [rp_int r1], hk.1, hk.2, post _ H1 G1 e1 s1 it_rng⟩
    · cases h1
  · cases h1
theorem sndI_rng2 {e2 : Expr} {f2 : Sg → R Val} {p : Pos} (hg : Gl X "range") (hm : X.mg "range" = none) (hn : notStar e = true) (hn2 : notStar e2 = true) (ha : Snd X exs e f) (hb : Snd X exs e2 f2) :
    SndI X exs tg (.Call (.Name "range" p) [e, e2] [] pos) fun g => bnd (f g) fun x g => bnd (f2 g) fun y g => match x, y with
      | .v (.int i), .v (.int j) => ret (rngL i (j - i).toNat) g
      | _, _ => none := fun g r hr σ H G Q W sr post => by
  have st2 : starEach [e2] X.env = [(false, eval e2 X.env)] := star_of hn2
  have st : starEach [e, e2] X.env = [(false, eval e X.env), (false, eval e2 X.env)] := by rw [star_of hn, st2]
  refine ⟨_, pi_rangeW hg hm (pa_cons we_max (pa_cons we_max pa_nil st2) (by rw [st, st2])) st st2, ?_⟩
  refine ha.useD hr sr post.ex fun x g1 h1 v H1 G1 e1 s1 r1 => ?_
  refine hb.useD h1 s1 (exNext post.ex e1) fun y g2 h2 w H2 G2 e2 s2 r2 => ?_
  split at h2
  · rw [ret_some h2] at post
    exact ⟨_, _, by rw [rp_int r1, rp_int r2], post _ H2 G2 (e1.trans e2) s2 it_rng⟩
  · cases h2

theorem sndI_zip {e2 : Expr} {f2 : Sg → R Val} {p tp : Pos} {elts : List Expr} {kk : Nat} (hg : Gl X "zip") (hm : X.mg "zip" = none) (hn : notStar e = true) (hn2 : notStar e2 = true) (ha : Snd X exs e f) (hb : Snd X exs e2 f2) :
    SndI X exs (.Tuple elts kk tp) (.Call (.Name "zip" p) [e, e2] [] pos) fun g => bnd (f g) fun x g => bnd (f2 g) fun y g => opt (zipD x.toD y.toD) g := fun g r hr σ H G Q W sr post => by
  have st2 : starEach [e2] X.env = [(false, eval e2 X.env)] := star_of hn2
  have st : starEach [e, e2] X.env = [(false, eval e X.env), (false, eval e2 X.env)] := by rw [star_of hn, st2]
  refine ⟨_, RZ.pi_zipA hg hm (pa_cons we_max (pa_cons we_max pa_nil st2) (by rw [st, st2])) (by rw [st, st2]) (by rw [st2]; rfl), ?_⟩
  refine ha.useD hr sr post.ex fun x g1 h1 v H1 G1 e1 s1 r1 => ?_
  refine hb.useD h1 s1 (exNext post.ex e1) fun y g2 h2 w H2 G2 e2 s2 r2 => ?_
  obtain ⟨ds, hd, rfl⟩ := opt_some h2
  have r1' := r1.mono e2.same
  unfold zipD at hd
  split at hd
  · rename_i xs ys ex ey
    cases hd
    rw [ex] at r1'
    rw [ey] at r2
    cases r1' with
    | lst a1 b1 =>
      cases r2 with
      | lst a2 b2 => exact ⟨_, _, _, _, rfl, .inl ⟨SqL.of (Bh.same _ _ a1), SqL.of (Bh.same _ _ a2), post _ H2 G2 (e1.trans e2) s2 (it_zipL a1 b1 a2 b2)⟩⟩
  · rename_i xs ys ex ey
    cases hd
    rw [ex] at r1'
    rw [ey] at r2
    cases r1' with
    | tup a1 b1 =>
      cases r2 with
      | tup a2 b2 => exact ⟨_, _, _, _, rfl, .inr ⟨SqT.of (Bh.same _ _ a1), SqT.of (Bh.same _ _ a2), post _ H2 G2 (e1.trans e2) s2 (it_zipT (SqT.of a1) b1 (SqT.of a2) b2)⟩⟩
  · cases hd
theorem sndI_enu {p tp : Pos} {elts : List Expr} {kk : Nat} (hg : Gl X "enumerate") (hm : X.mg "enumerate" = none) (hn : notStar e = true) (ha : Snd X exs e f) :
    SndI X exs (.Tuple elts kk tp) (.Call (.Name "enumerate" p) [e] [] pos) fun g => bnd (f g) fun x g => opt (enuD x.toD) g := fun g r hr σ H G Q W sr post => by
  have st : starEach [e] X.env = [(false, eval e X.env)] := star_of hn
  refine ⟨_, ZE.pi_en hg hm (pa_cons we_max pa_nil st) st, ?_⟩
  refine ha.useD hr sr post.ex fun x g1 h1 v H1 G1 e1 s1 r1 => ?_
  obtain ⟨ds, hd, rfl⟩ := opt_some h1
  obtain ⟨xs, hx, rfl⟩ := Option.map_eq_some_iff.mp hd
  unfold seqD at hx
  split at hx
  · rename_i ys ex
    cases hx
    rw [ex] at r1
    cases r1 with
    | lst a1 b1 => exact ⟨_, _, rfl, .inl ⟨SqL.of (Bh.same _ _ a1), post _ H1 G1 e1 s1 (it_enuL a1 b1)⟩⟩
  · rename_i ys ex
    cases hx
    rw [ex] at r1
    cases r1 with
    | tup a1 b1 => exact ⟨_, _, rfl, .inr ⟨SqT.of (Bh.same _ _ a1), post _ H1 G1 e1 s1 (it_enuT (SqT.of a1) b1)⟩⟩
  · cases hx

/-! ### comprehensions -/
theorem wipe_in {i : Nat} : ∀ {vs : List Nat} {σ : L2.St}, i ∈ vs → i < σ.length → (wipe σ vs)[i]? = some none
  | [], σ, h, _ => nomatch h
  | v :: vs, σ, h, hl => by
    unfold wipe
    by_cases e : v = i
    · subst e
      rw [List.getElem?_set_self (by rw [wipe_length]; exact hl)]
    · rw [List.getElem?_set_ne e]
      rcases List.mem_cons.mp h with z | z
      · exact absurd z.symm e
      · exact wipe_in z hl
theorem wipe_eq {σ σ2 : L2.St} {vs : List Nat} (hl : σ2.length = σ.length) (h : ∀ j, j ∉ vs → σ2[j]? = σ[j]?) : wipe σ2 vs = wipe σ vs := by
  apply List.ext_getElem?
  intro j
  by_cases hj : j ∈ vs
  · by_cases q : j < σ.length
    · rw [wipe_in hj q, wipe_in hj (by rw [hl]; exact q)]
    · rw [List.getElem?_eq_none (by rw [wipe_length]; omega), List.getElem?_eq_none (by rw [wipe_length]; omega)]
  · rw [wipe_out hj, wipe_out hj, h j hj]
theorem wipe_idem {σ : L2.St} {vs : List Nat} : wipe (wipe σ vs) vs = wipe σ vs := wipe_eq (wipe_length _ _) fun j hj => wipe_out hj
theorem wipeG_length (g : Sg) : ∀ own : List Nat, (wipeG g own).length = g.length
  | [] => rfl
  | i :: r => by
    unfold wipeG
    rw [List.length_set, wipeG_length g r]
theorem wipeG_out {g : Sg} {i : Nat} : ∀ {own : List Nat}, i ∉ own → (wipeG g own)[i]? = g[i]?
  | [], _ => rfl
  | v :: vs, h => by
    unfold wipeG
    rw [List.getElem?_set_ne (fun e => h (by rw [e]; exact List.mem_cons_self)), wipeG_out fun m => h (List.mem_cons_of_mem _ m)]
theorem wipeG_in {g : Sg} {i : Nat} : ∀ {own : List Nat}, i ∈ own → i < g.length → (wipeG g own)[i]? = some .no
  | [], h, _ => nomatch h
  | v :: vs, h, hl => by
    unfold wipeG
    by_cases e : v = i
    · subst e
      rw [List.getElem?_set_self (by rw [wipeG_length]; exact hl)]
    · rw [List.getElem?_set_ne e]
      rcases List.mem_cons.mp h with z | z
      · exact absurd z.symm e
      · exact wipeG_in z hl
theorem restG_length (g0 g : Sg) : ∀ own : List Nat, (restG g0 g own).length = g.length
  | [] => rfl
  | i :: r => by
    unfold restG
    rw [List.length_set, restG_length g0 g r]
theorem restG_out {g0 g : Sg} {i : Nat} : ∀ {own : List Nat}, i ∉ own → (restG g0 g own)[i]? = g[i]?
  | [], _ => rfl
  | v :: vs, h => by
    unfold restG
    rw [List.getElem?_set_ne (fun e => h (by rw [e]; exact List.mem_cons_self)), restG_out fun m => h (List.mem_cons_of_mem _ m)]
theorem restG_in {g0 g : Sg} {i : Nat} : ∀ {own : List Nat}, i ∈ own → i < g.length → (restG g0 g own)[i]? = some (g0.getD i .no)
  | [], h, _ => nomatch h
  | v :: vs, h, hl => by
    unfold restG
    by_cases e : v = i
    · subst e
      rw [List.getElem?_set_self (by rw [restG_length]; exact hl)]
    · rw [List.getElem?_set_ne e]
      rcases List.mem_cons.mp h with z | z
      · exact absurd z.symm e
      · exact restG_in z hl
theorem get_lt {α : Type} {l : List α} {i : Nat} {x : α} (h : l[i]? = some x) : i < l.length := by
  rcases Nat.lt_or_ge i l.length with z | z
  · exact z
  · rw [List.getElem?_eq_none z] at h
    cases h
theorem SR.wipe {K : PySem.W.Frag} {own : List Nat} (sr : SR K exs G H g σ) : SR K exs G H (wipeG g own) (wipe σ own) := by
  refine ⟨by rw [wipeG_length, wipe_length]; exact sr.len, fun j s q => ?_, sr.tag, sr.tbs⟩
  by_cases hj : j ∈ own
  · rw [wipeG_in hj (by have := get_lt q; rw [wipeG_length] at this; exact this)] at q
    cases q
    trivial
  · rw [wipeG_out hj] at q
    rw [List.getD_eq_getElem?_getD, wipe_out hj, ← List.getD_eq_getElem?_getD]
    exact sr.ok j s q
theorem upd_nt {Da : Addr} {o : HO} (no : ∀ ps, o ≠ .tbl ps) : ∀ a ps, upd H Da o a = some (.tbl ps) → H a = some (.tbl ps) := fun a ps h => by
  by_cases e : a = Da
  · rw [e, upd_same] at h
    exact absurd (Option.some.inj h) (no ps)
  · rw [upd_ne e] at h
    exact h
/-- a new list under construction stands at D: nobody else may touch it -/
theorem SR.with_fr {K : PySem.W.Frag} {Da : Addr} {ws : List V} (sr : SR K exs G H g σ) (hD : G Da = .fr) : SR K exs G (upd H Da (.lst ws)) g σ ∧ Same (Bh G H) (Bh G (upd H Da (.lst ws))) := by
  have ne : ∀ a, G a ≠ .fr → a ≠ Da := fun a h e => h (e ▸ hD)
  have sm : Same (Bh G H) (Bh G (upd H Da (.lst ws))) := fun a u h => by
    unfold Bh at h ⊢
    by_cases q : G a = .st
    · rw [if_pos q] at h ⊢
      rw [upd_ne (ne a (by rw [q]; exact fun z => nomatch z))]
      exact h
    · rw [if_neg q] at h
      cases h
  refine ⟨⟨sr.len, fun j s q => (sr.ok j s q).keep sm fun a z => ⟨z, upd_ne (ne a (by rw [z]; exact fun w => nomatch w))⟩, sr.tag.keep sm (fun a h => ?_) (fun a q h => ⟨h, upd_ne (ne a (by rw [h]; exact fun w => nomatch w))⟩) (fun a h => .inl ⟨h, upd_ne (ne a (by rw [h]; exact fun w => nomatch w))⟩) (fun _ _ z => z) fun a h => ?_, sr.tbs⟩, sm⟩
  · by_cases e : a = Da
    · rw [e, upd_same]
      exact fun z => nomatch z
    · rw [upd_ne e]
      exact sr.tag.ne a h
  · by_cases e : a = Da
    · rw [e]
      exact ⟨ws, upd_same⟩
    · rw [upd_ne e]
      exact sr.tag.ls a h
/-- from (G, H) on, the list at D set aside -/
structure Aside (Da : Addr) (G1 : Gh) (H1 : Hp) (G : Gh) (H : Hp) : Prop where
  ext : Ext G1 H1 (tagAt G Da .un) H
  fr : G Da = .fr
theorem Aside.start (t : Tagd G H) {Da : Addr} (hD : H Da = none) (o : HO) : Aside Da G H (tagAt G Da .fr) (upd H Da o) := by
  have u := t.un hD
  have ne : ∀ a, G a ≠ .un → a ≠ Da := fun a h e => h (e ▸ u)
  refine ⟨⟨fun a h => ?_, fun a h => ?_, fun a h => ?_, fun a x h => ?_⟩, tagAt_same⟩
  rotate_left 3
  · have q := ne a (by rw [h]; exact fun z => nomatch z)
    rw [tagAt_ne q, tagAt_ne q]
    exact h
  · have q := ne a (by rw [h]; exact fun z => nomatch z)
    exact ⟨by rw [tagAt_ne q, tagAt_ne q]; exact h, upd_ne q⟩
  · have q := ne a (by rw [h]; exact fun z => nomatch z)
    exact ⟨by rw [tagAt_ne q, tagAt_ne q]; exact h, upd_ne q⟩
  · by_cases e : a = Da
    · rw [e, tagAt_same] at h
      cases h
    · rw [tagAt_ne e, tagAt_ne e] at h
      exact h
theorem Aside.next {Da : Addr} {G2 : Gh} {H2 H3 : Hp} (a : Aside Da G1 H1 G H) (e : Ext G H G2 H2) (h : ∀ b, b ≠ Da → H3 b = H2 b) : Aside Da G1 H1 G2 H3 := by
  have f := (e.fr Da a.fr).1
  refine ⟨⟨fun b z => ?_, fun b z => ?_, fun b z => ?_, fun b x z => ?_⟩, f⟩
  rotate_left 3
  · have q := a.ext.tb b x z
    have ne : b ≠ Da := fun e => by
      rw [e, tagAt_same] at q
      cases q
    rw [tagAt_ne ne] at q ⊢
    exact e.tb b x q
  · obtain ⟨q, w⟩ := a.ext.st b z
    have ne : b ≠ Da := fun e => by
      rw [e, tagAt_same] at q
      cases q
    rw [tagAt_ne ne] at q
    obtain ⟨q2, w2⟩ := e.st b q
    exact ⟨by rw [tagAt_ne ne]; exact q2, by rw [h b ne, w2, w]⟩
  · obtain ⟨q, w⟩ := a.ext.fr b z
    have ne : b ≠ Da := fun e => by
      rw [e, tagAt_same] at q
      cases q
    rw [tagAt_ne ne] at q
    obtain ⟨q2, w2⟩ := e.fr b q
    exact ⟨by rw [tagAt_ne ne]; exact q2, by rw [h b ne, w2, w]⟩
  · by_cases ne : b = Da
    · rw [ne, tagAt_same] at z
      cases z
    · rw [tagAt_ne ne] at z
      exact a.ext.nf b (by rw [tagAt_ne ne]; exact e.nf b z)
theorem Aside.same {Da : Addr} (a : Aside Da G1 H1 G H) : Same (Bh G1 H1) (Bh G H) := fun b o h => by
  have q := a.ext.same b o h
  unfold Bh at q ⊢
  by_cases e : b = Da
  · rw [e, tagAt_same] at q
    rw [if_neg (fun z => nomatch z)] at q
    cases q
  · rw [tagAt_ne e] at q
    exact q
/-- the tests of a clause -/
def WQ (X : Cx) (ifs : List Expr) : TT := fun σ H Q => ∃ tt, PTs X ifs tt ∧ tt σ H Q
theorem wq_max {ifs : List Expr} : PTs X ifs (WQ X ifs) := ⟨fun pins s σ H Q I ⟨tt, h, q⟩ => h.run pins s σ H Q I q⟩
def SndQ (X : Cx) (exs : EX) (ifs : List Expr) (fq : Sg → R Bool) : Prop :=
  ∀ g r, fq g = some r → ∀ σ H G Q W, SR X.K exs G H g σ → Pt X exs σ G H Q W r → WQ X ifs σ H Q
theorem sndQ_non : SndQ X exs [] fun g => ret true g := fun g r hr σ H G Q W sr post => by
  rw [ret_some hr] at post
  exact ⟨_, pts_nil, post H G (.refl _ _) sr⟩
theorem sndQ_som (ha : SndT X exs e (tr f)) : SndQ X exs [e] (tr f) := fun g r hr σ H G Q W sr post => ⟨_, pts_one wt_max, ha g r hr σ H G Q W sr post⟩
theorem SndQ.use {γ : Type} {ifs : List Expr} {fq : Sg → R Bool} {k : Bool → Sg → R γ} {r : Out γ × Sg} {Q : Bool → Hp → Prop} (h : SndQ X exs ifs fq) (hr : bnd (fq g) k = some r) (sr : SR X.K exs G H g σ) (hx : ∀ x g', r = (.ex x, g') → PX X exs σ G H W x g')
    (ok : ∀ x g1, k x g1 = some r → ∀ H1 G1, Ext G H G1 H1 → SR X.K exs G1 H1 g1 σ → Q x H1) : WQ X ifs σ H Q := by
  cases q : fq g with
  | none =>
    rw [q] at hr
    cases hr
  | some z =>
    obtain ⟨o, g1⟩ := z
    rw [q] at hr
    cases o with
    | ok x => exact h g _ q σ H G Q W sr fun H1 G1 e1 s1 => ok x g1 hr H1 G1 e1 s1
    | ex x =>
      cases hr
      exact h g _ q σ H G Q W sr (hx x g1 rfl)
theorem SndI.use {γ : Type} {iter : Expr} {fs : Sg → R (List D)} {k : List D → Sg → R γ} {r : Out γ × Sg} {Q : It → Hp → Prop} (h : SndI X exs tg iter fs) (hr : bnd (fs g) k = some r) (sr : SR X.K exs G H g σ) (hx : ∀ x g', r = (.ex x, g') → PX X exs σ G H W x g')
    (ok : ∀ ds g1, k ds g1 = some r → ∀ J H1 G1, Ext G H G1 H1 → SR X.K exs G1 H1 g1 σ → ItOk X.K (Bh G1 H1) J ds → Q J H1) : WI X tg iter σ H Q := by
  cases q : fs g with
  | none =>
    rw [q] at hr
    cases hr
  | some z =>
    obtain ⟨o, g1⟩ := z
    rw [q] at hr
    cases o with
    | ok x => exact h g _ q σ H G Q W sr fun J H1 G1 e1 s1 r1 => ok x g1 hr J H1 G1 e1 s1 r1
    | ex x =>
      cases hr
      exact h g _ q σ H G Q W sr (hx x g1 rfl)
mutual
theorem asg_length : ∀ (t : Tg) {d : D} {g g' : Sg}, asg t d g = some g' → g'.length = g.length
  | .n i, d, g, g', h => by
    obtain ⟨_, _, rfl⟩ := setG_some h
    exact List.length_set
  | .t ts, d, g, g', h => by
    cases d with
    | tuple ds => exact asgs_length ts (ds := ds) h
    | none => cases h
    | bool _ => cases h
    | int _ => cases h
    | str _ => cases h
    | list _ => cases h
    | dict _ => cases h
theorem asgs_length : ∀ (ts : Tgs) {ds : List D} {g g' : Sg}, asgs ts ds g = some g' → g'.length = g.length
  | .nil, [], g, g', h => by
    cases h
    rfl
  | .nil, _ :: _, g, g', h => by cases h
  | .cons t ts, [], g, g', h => by cases h
  | .cons t ts, d :: ds, g, g', h => by
    obtain ⟨g1, h1, h2⟩ := Option.bind_eq_some_iff.mp h
    exact (asgs_length ts h2).trans (asg_length t h1)
end
theorem SR.aside {K : PySem.W.Frag} {Da : Addr} {ws : List V} (sr : SR K exs G H g σ) (hD : H Da = none) : SR K exs (tagAt G Da .fr) (upd H Da (.lst ws)) g σ := by
  have u := sr.tag.un hD
  have ne : ∀ a, G a ≠ .un → a ≠ Da := fun a h e => h (e ▸ u)
  have sm : Same (Bh G H) (Bh (tagAt G Da .fr) (upd H Da (.lst ws))) := fun a x h => by
    unfold Bh at h ⊢
    by_cases q : G a = .st
    · have w := ne a (by rw [q]; exact fun z => nomatch z)
      rw [if_pos q] at h
      rw [tagAt_ne w, if_pos q, upd_ne w]
      exact h
    · rw [if_neg q] at h
      cases h
  have tb' : ∀ a q, G a = .tb q → tagAt G Da .fr a = .tb q := fun a q h => (tagAt_ne (ne a (by rw [h]; exact fun z => nomatch z))).trans h
  refine ⟨sr.len, fun j s q => (sr.ok j s q).keep sm fun a z => ?_, sr.tag.keep sm (fun a h => ?_) (fun a q h => ?_) (fun a h => ?_) tb' (fun a h => ?_), fun p hp => tb' _ _ (sr.tbs p hp)⟩
  · have w := ne a (by rw [z]; exact fun z => nomatch z)
    exact ⟨(tagAt_ne w).trans z, upd_ne w⟩
  · by_cases e : a = Da
    · rw [e, upd_same]
      exact fun z => nomatch z
    · rw [upd_ne e]
      rw [tagAt_ne e] at h
      exact sr.tag.ne a h
  · by_cases e : a = Da
    · rw [e, tagAt_same] at h
      cases h
    · rw [tagAt_ne e] at h
      exact ⟨h, upd_ne e⟩
  · by_cases e : a = Da
    · rw [e, tagAt_same] at h
      cases h
    · rw [tagAt_ne e] at h
      exact .inl ⟨h, upd_ne e⟩
  · by_cases e : a = Da
    · rw [e]
      exact ⟨ws, upd_same⟩
    · rw [upd_ne e]
      rw [tagAt_ne e] at h
      exact sr.tag.ls a h
/-- a comprehension's block -/
abbrev blkX (X : Cx) (scope : Scope) (s : Shared) (H : Hp) (Ca : Addr) (cl : List (Str × Addr)) (fp : List Addr) : Cx := X.blk s H scope (compEnvC scope cl Ca X.env) fp
/-- the readings of a block's tests and element, at every block that may come -/
def teB (X : Cx) (scope : Scope) (elt : Expr) : TE := fun σ H Q => ∀ s H0 Ca cl fp, WE (blkX X scope s H0 Ca cl fp) elt σ H Q
def ttB (X : Cx) (scope : Scope) (ifs : List Expr) : TT := fun σ H Q => ∀ s H0 Ca cl fp, WQ (blkX X scope s H0 Ca cl fp) ifs σ H Q
theorem teB_pe {scope : Scope} {elt : Expr} : ∀ (s : Shared) (H0 : Hp) (Ca : Addr) (cl : List (Str × Addr)) (fp : List Addr), PE (blkX X scope s H0 Ca cl fp) elt (teB X scope elt) :=
  fun s H0 Ca cl fp => ⟨fun pins s' σ' H' Q' I h => h s H0 Ca cl fp pins s' I⟩
theorem ttB_pt {scope : Scope} {ifs : List Expr} : ∀ (s : Shared) (H0 : Hp) (Ca : Addr) (cl : List (Str × Addr)) (fp : List Addr), PTs (blkX X scope s H0 Ca cl fp) ifs (ttB X scope ifs) :=
  fun s H0 Ca cl fp => ⟨fun pins s' σ' H' Q' I h => wq_max.run pins s' σ' H' Q' I (h s H0 Ca cl fp)⟩
/-- a comprehension's end -/
theorem comp_end {own : List Nat} {Da : Addr} {vs : List V} {ds : List D} {G0 : Gh} {H0 : Hp} {Q : VK} (e1 : Ext G0 H0 G1 H1) (s1 : SR X.K exs G1 H1 g1 σ) (as : Aside Da G1 H1 G H) (s : SR X.K exs G H (wipeG g own) (wipe σ own)) (eD : H Da = some (.lst vs)) (ra : RpAll X.K (Bh G H) vs ds)
    (hgl : g.length = g1.length) (hpl : (own.all fun i => plainSl (g1.getD i .no)) = true) (post : Pv X exs σ G0 H0 Q W (.ok (.m (.l ds)), restG g1 g own)) : Q (.ref Da) H := by
  have sm2 : Same (Bh G H) (Bh (tagAt G Da .un) H) := fun b o h => by
    unfold Bh at h ⊢
    by_cases q : G b = .st
    · rw [if_pos q] at h
      rw [tagAt_ne (fun e => by rw [e, as.fr] at q; cases q), if_pos q]
      exact h
    · rw [if_neg q] at h
      cases h
  have tb' : ∀ a q, G a = .tb q → tagAt G Da .un a = .tb q := fun a q h => (tagAt_ne (fun e => by rw [e, as.fr] at h; cases h)).trans h
  refine post _ H (tagAt G Da .un) (e1.trans as.ext) ⟨?_, fun j sl q => ?_, s.tag.keep sm2 (fun a h => ?_) (fun a q h => ?_) (fun a h => ?_) tb' (fun a h => s.tag.ls a ?_), fun p hp => tb' _ _ (s.tbs p hp)⟩ ⟨Da, rfl, tagAt_same, vs, eD, ra.mono sm2⟩
  · rw [restG_length, hgl]
    exact s1.len
  · by_cases hj : j ∈ own
    · rw [restG_in hj (by have := get_lt q; rw [restG_length] at this; exact this)] at q
      have pl := List.all_eq_true.mp hpl j hj
      rw [Option.some.inj q] at pl
      cases sl with
      | no => trivial
      | im d =>
        have hj1 : j < g1.length := by
          rcases Nat.lt_or_ge j g1.length with z | z
          · exact z
          · have h0 := Option.some.inj q
            rw [List.getD_eq_getElem?_getD, List.getElem?_eq_none z] at h0
            cases h0
        have h0 : g1[j]? = some (.im d) := by
          have h0 := Option.some.inj q
          rw [List.getD_eq_getElem?_getD, List.getElem?_eq_getElem hj1] at h0
          rw [List.getElem?_eq_getElem hj1]
          exact congrArg some h0
        obtain ⟨v, hv, rv⟩ := s1.ok j _ h0
        exact ⟨v, hv, rv.mono as.ext.same⟩
      | ow c => cases pl
      | bo c => cases pl
      | sc c => cases pl
      | xc c => cases pl
    · rw [restG_out hj] at q
      have h0 := s.ok j sl (by rw [wipeG_out hj]; exact q)
      rw [List.getD_eq_getElem?_getD, wipe_out hj, ← List.getD_eq_getElem?_getD] at h0
      exact h0.keep sm2 fun a z => ⟨by rw [tagAt_ne (fun e => by rw [e, as.fr] at z; cases z)]; exact z, rfl⟩
  · by_cases e : a = Da
    · rw [e, tagAt_same] at h
      exact absurd rfl h
    · rw [tagAt_ne e] at h
      exact s.tag.ne a h
  · by_cases e : a = Da
    · rw [e, tagAt_same] at h
      cases h
    · rw [tagAt_ne e] at h
      exact ⟨h, rfl⟩
  · by_cases e : a = Da
    · rw [e, tagAt_same] at h
      cases h
    · rw [tagAt_ne e] at h
      exact .inl ⟨h, rfl⟩
  · by_cases e : a = Da
    · rw [e, tagAt_same] at h
      exact absurd rfl h.un
    · rw [tagAt_ne e] at h
      exact h
def compF (t : Tg) (own : List Nat) (fs : Sg → R (List D)) (fq : Sg → R Bool) (fe : Sg → R Val) : Sg → R Val := fun g => bnd (fs g) fun xs g =>
      if own.all fun i => plainSl (g.getD i .no) then
        match compGo own (fun d g => (asg t d g).bind fun g => bnd (fq g) fun b g => if b then bnd (fe g) fun y g => ret (some y.toD) g else ret none g) [] xs g with
        | some (.ok ds, g') => ret (.m (.l ds)) (restG g g' own)
        | _ => none
      else none
theorem comp_rd {t : Tg} {ownp : List (Str × Nat)} {own : List Nat} {scope : Scope} {elt iter : Expr} {ifs : List Expr} {fs : Sg → R (List D)} {fq : Sg → R Bool} {fe : Sg → R Val} (hown : ownp.map (·.2) = own) (tin : ∀ j, j ∈ tgIx t → j ∈ own) (hi : SndI X exs tg iter fs) (hq : ∀ s H Ca cl fp, SndQ (blkX X scope s H Ca cl fp) exs ifs fq) (he : ∀ s H Ca cl fp, Snd (blkX X scope s H Ca cl fp) exs elt fe)
    {r : Out Val × Sg} {Q : VK} (hr : compF t own fs fq fe g = some r) (sr : SR X.K exs G H g σ) (post : Pv X exs σ G H Q W r) :
    tLc (WI X tg iter) (tgRd X.K t) (ttB X scope ifs) (teB X scope elt) (ownp.map (·.2)) σ H Q := by
  rw [hown]
  refine hi.use hr sr post.ex fun xs g1 hk J H1 G1 e1 s1 itok => ?_
  split at hk
  · rename_i hpl
    generalize hF : (fun (d : D) (g : Sg) => (asg t d g).bind fun g => bnd (fq g) fun b g => if b then bnd (fe g) fun y g => ret (some y.toD) g else ret none g) = F at hk
    split at hk
    · rename_i ds gz hfin
      rw [ret_some hk] at post
      intro Da hD
      refine ⟨fun i m H => m = xs.length - i ∧ i ≤ xs.length ∧ ∃ G g vs acc, Aside Da G1 H1 G H ∧ SR X.K exs G H (wipeG g own) (wipe σ own) ∧ H Da = some (.lst vs) ∧ RpAll X.K (Bh G H) vs acc ∧
          compGo own F acc (xs.drop i) g = some (.ok ds, gz) ∧ g.length = g1.length,
        ⟨xs.length, rfl, Nat.zero_le _, _, g1, [], [], Aside.start s1.tag hD _, (s1.aside hD).wipe, upd_same, .nil, by rw [List.drop_zero]; exact hfin, rfl⟩, ?_⟩
      rintro i m H ⟨rfl, hle, G, g, vs, acc, as, s, eD, ra, hgo, hgl⟩
      have sm := as.same
      have it := itok i G H sm s.tag
      by_cases hlt : i < xs.length
      · right
        have hd : xs[i]? = some xs[i] := List.getElem?_eq_getElem hlt
        obtain ⟨go, yl⟩ := it.1 _ hd
        refine ⟨go, fun H' => ∃ G g vs acc, Aside Da G1 H1 G H' ∧ SR X.K exs G H' (wipeG g own) (wipe σ own) ∧ H' Da = some (.lst vs) ∧ RpAll X.K (Bh G H') vs acc ∧
          compGo own F acc (xs.drop (i + 1)) g = some (.ok ds, gz) ∧ g.length = g1.length, fun H' h => ⟨xs.length - (i + 1), by omega, rfl, hlt, h⟩, fun x H' hy => ?_⟩
        obtain ⟨G', gr, rx⟩ := yl x H' hy
        have hdrop : xs.drop i = xs[i] :: xs.drop (i + 1) := List.drop_eq_getElem_cons hlt
        rw [hdrop] at hgo
        unfold compGo at hgo
        split at hgo
        · rename_i rr g3 hf
          split at hgo
          · rename_i hsz
            rw [← hF] at hf
            obtain ⟨ga, hga, hf⟩ := Option.bind_eq_some_iff.mp hf
            have s2 := s.grow gr
            refine @tg_imp X.K G' H' t _ _ _ _ _ (fun σ2 H2 q => ?_) (asg_ok t hga s2 rx)
            obtain ⟨e2, s3, un⟩ := q
            subst e2
            have hl2 : σ2.length = (wipe σ own).length := by rw [← s3.len, asg_length t hga, s2.len]
            have hw : wipe σ2 own = wipe σ own := (wipe_eq hl2 fun j hj => un j fun z => hj (tin j z)).trans wipe_idem
            refine ⟨hw, fun s0 H0 Ca cl fp => ?_⟩
            have nx : ∀ {γ : Type} {a : γ} {gg : Sg} {σ' : L2.St} {G' : Gh} {H' : Hp} {x : Exc} {g' : Sg}, ((.ok a, gg) : Out γ × Sg) = (.ex x, g') → PX (blkX X scope s0 H0 Ca cl fp) exs σ' G' H' (fun _ _ _ _ => False) x g' := fun h => by cases h
            refine (hq s0 H0 Ca cl fp).use hf s3 (fun x g' h => nx h) fun b gb hb H3 G3 e3 s4 => ?_
            have fr3 := e3.fr Da (gr.fr Da as.fr).1
            have eD3 : H3 Da = some (.lst vs) := fr3.2.trans ((gr.fr Da as.fr).2.trans eD)
            have ra3 : RpAll X.K (Bh G3 H3) vs acc := (ra.mono gr.same).mono e3.same
            cases b with
            | true =>
              rw [if_pos rfl] at hb ⊢
              intro s0 H0 Ca cl fp
              have nx : ∀ {γ : Type} {a : γ} {gg : Sg} {σ' : L2.St} {G' : Gh} {H' : Hp} {x : Exc} {g' : Sg}, ((.ok a, gg) : Out γ × Sg) = (.ex x, g') → PX (blkX X scope s0 H0 Ca cl fp) exs σ' G' H' (fun _ _ _ _ => False) x g' := fun h => by cases h
              refine (he s0 H0 Ca cl fp).useD hb s4 (fun x g' h => nx h) fun y gy hy2 v H4 G4 e4 s5 rv => ?_
              cases ret_some hy2
              have fr4 := e4.fr Da fr3.1
              obtain ⟨s6, sm6⟩ := s5.with_fr (ws := vs ++ [v]) fr4.1
              refine ⟨vs, fr4.2.trans eD3, by rw [ra3.length]; exact hsz, G4, g3, vs ++ [v], acc ++ [y.toD], (as.next gr.toExt fun _ _ => rfl).next (e3.trans e4) fun b hb => upd_ne hb, ?_, upd_same, ((ra3.mono e4.same).app (.cons rv .nil)).mono sm6, hgo, ?_⟩
              · have := s6.wipe (own := own)
                rw [hw] at this
                exact this
              · rw [s5.len, hl2, wipe_length, ← s1.len]
            | false =>
              rw [if_neg Bool.false_ne_true] at hb ⊢
              cases ret_some hb
              refine ⟨G3, g3, vs, acc, (as.next gr.toExt fun _ _ => rfl).next e3 fun _ _ => rfl, ?_, eD3, ra3, hgo, ?_⟩
              · have := s4.wipe (own := own)
                rw [hw] at this
                exact this
              · rw [s4.len, hl2, wipe_length, ← s1.len]
          · cases hgo
        · cases hgo
      · left
        have ei : i = xs.length := by omega
        refine ⟨it.2 (by omega), ?_⟩
        rw [ei, List.drop_length] at hgo
        cases ret_some hgo
        exact comp_end e1 s1 as s eD ra hgl hpl post
    · cases hk
  · cases hk
theorem snd_comp {t : Tg} {ownp : List (Str × Nat)} {own : List Nat} {scope : Scope} {elt iter : Expr} {ifs : List Expr} {fs : Sg → R (List D)} {fq : Sg → R Bool} {fe : Sg → R Val} (hc : X.calm = true) (nd : X.N.Nodup)
    (okB : BlkOk X.N X.env.scope scope ownp) (hown : ownp.map (·.2) = own) (tin : ∀ j, j ∈ tgIx t → j ∈ own) (hg : ∀ s H Ca cl fp, PG (blkX X scope s H Ca cl fp) tg (tgRd X.K t))
    (hi : SndI X exs tg iter fs) (hq : ∀ s H Ca cl fp, SndQ (blkX X scope s H Ca cl fp) exs ifs fq) (he : ∀ s H Ca cl fp, Snd (blkX X scope s H Ca cl fp) exs elt fe) (hs : ∀ x, foldedSetIterable iter X.env x = pure x) :
    Snd X exs (.ListComp elt [⟨tg, iter, ifs, 0⟩] scope pos) (compF t own fs fq fe) := fun g r hr σ H G Q W sr post =>
  we_of (pe_lc hc nd wi_max okB hg ttB_pt teB_pe hs) (comp_rd hown tin hi hq he hr sr post)
/-! ### comprehensions of two -/
theorem wipe_sub {σ : L2.St} {vs vs1 : List Nat} (h : ∀ j, j ∈ vs1 → j ∈ vs) : wipe (wipe σ vs1) vs = wipe σ vs :=
  wipe_eq (wipe_length _ _) fun j hj => wipe_out fun z => hj (h j z)
theorem wipeG_sub {g : Sg} {vs vs1 : List Nat} (h : ∀ j, j ∈ vs1 → j ∈ vs) : wipeG (wipeG g vs1) vs = wipeG g vs := by
  apply List.ext_getElem?
  intro j
  by_cases hj : j ∈ vs
  · by_cases q : j < g.length
    · rw [wipeG_in hj (by rw [wipeG_length]; exact q), wipeG_in hj q]
    · rw [List.getElem?_eq_none (by rw [wipeG_length, wipeG_length]; omega), List.getElem?_eq_none (by rw [wipeG_length]; omega)]
  · rw [wipeG_out hj, wipeG_out hj, wipeG_out fun z => hj (h j z)]
def tiB (X : Cx) (scope : Scope) (tg iter : Expr) : TI := fun σ H Q => ∀ s H0 Ca cl fp, WI (blkX X scope s H0 Ca cl fp) tg iter σ H Q
theorem tiB_pi {scope : Scope} {tg iter : Expr} : ∀ (s : Shared) (H0 : Hp) (Ca : Addr) (cl : List (Str × Addr)) (fp : List Addr), PI (blkX X scope s H0 Ca cl fp) tg iter (tiB X scope tg iter) :=
  fun s H0 Ca cl fp => ⟨fun pins s' σ' H' Q' I h => wi_max.run pins s' σ' H' Q' I (h s H0 Ca cl fp)⟩
def comp2F (t : Tg) (own : List Nat) (fs : Sg → R (List D)) (fq : Sg → R Bool) (t1 : Tg) (own1 : List Nat) (fs1 : Sg → R (List D)) (fq1 : Sg → R Bool) (fe : Sg → R Val) : Sg → R Val := fun g => bnd (fs g) fun xs g =>
      if own.all fun i => plainSl (g.getD i .no) then
        match compGo2 own (fun acc d g => (asg t d g).bind fun g => bnd (fq g) fun b g =>
            if b then bnd (fs1 g) fun ys g => compGo own1 (fun d g => (asg t1 d g).bind fun g => bnd (fq1 g) fun b g => if b then bnd (fe g) fun y g => ret (some y.toD) g else ret none g) acc ys g else ret acc g) [] xs g with
        | some (.ok ds, g') => ret (.m (.l ds)) (restG g g' own)
        | _ => none
      else none
theorem comp2_rd {t t1 : Tg} {ownp : List (Str × Nat)} {own own1 : List Nat} {scope : Scope} {elt iter tg1 iter1 : Expr} {ifs ifs1 : List Expr} {fs fs1 : Sg → R (List D)} {fq fq1 : Sg → R Bool} {fe : Sg → R Val} (hown : ownp.map (·.2) = own) (tin : ∀ j, j ∈ tgIx t → j ∈ own) (tin1 : ∀ j, j ∈ tgIx t1 → j ∈ own1)
    (sub : ∀ j, j ∈ own1 → j ∈ own) (hi : SndI X exs tg iter fs) (hq : ∀ s H Ca cl fp, SndQ (blkX X scope s H Ca cl fp) exs ifs fq) (hi1 : ∀ s H Ca cl fp, SndI (blkX X scope s H Ca cl fp) exs tg1 iter1 fs1)
    (hq1 : ∀ s H Ca cl fp, SndQ (blkX X scope s H Ca cl fp) exs ifs1 fq1) (he : ∀ s H Ca cl fp, Snd (blkX X scope s H Ca cl fp) exs elt fe)
    {r : Out Val × Sg} {Q : VK} (hr : comp2F t own fs fq t1 own1 fs1 fq1 fe g = some r) (sr : SR X.K exs G H g σ) (post : Pv X exs σ G H Q W r) :
    tLc2 (WI X tg iter) (tgRd X.K t) (ttB X scope ifs) (tiB X scope tg1 iter1) (tgRd X.K t1) (ttB X scope ifs1) (teB X scope elt) (ownp.map (·.2)) own1 σ H Q := by
  rw [hown]
  refine hi.use hr sr post.ex fun xs g1 hk J H1 G1 e1 s1 itok => ?_
  split at hk
  · rename_i hpl
    generalize hF1 : (fun (d : D) (g : Sg) => (asg t1 d g).bind fun g => bnd (fq1 g) fun b g => if b then bnd (fe g) fun y g => ret (some y.toD) g else ret none g) = F1 at hk
    generalize hF : (fun (acc : List D) (d : D) (g : Sg) => (asg t d g).bind fun g => bnd (fq g) fun b g => if b then bnd (fs1 g) fun ys g => compGo own1 F1 acc ys g else ret acc g) = F at hk
    split at hk
    · rename_i ds gz hfin
      rw [ret_some hk] at post
      intro Da hD
      refine ⟨fun i m H => m = xs.length - i ∧ i ≤ xs.length ∧ ∃ G g vs acc, Aside Da G1 H1 G H ∧ SR X.K exs G H (wipeG g own) (wipe σ own) ∧ H Da = some (.lst vs) ∧ RpAll X.K (Bh G H) vs acc ∧
          compGo2 own F acc (xs.drop i) g = some (.ok ds, gz) ∧ g.length = g1.length,
        ⟨xs.length, rfl, Nat.zero_le _, _, g1, [], [], Aside.start s1.tag hD _, (s1.aside hD).wipe, upd_same, .nil, by rw [List.drop_zero]; exact hfin, rfl⟩, ?_⟩
      rintro i m H ⟨rfl, hle, G, g, vs, acc, as, s, eD, ra, hgo, hgl⟩
      have sm := as.same
      have it := itok i G H sm s.tag
      by_cases hlt : i < xs.length
      · right
        have hd : xs[i]? = some xs[i] := List.getElem?_eq_getElem hlt
        obtain ⟨go, yl⟩ := it.1 _ hd
        refine ⟨go, fun H' => ∃ G g vs acc, Aside Da G1 H1 G H' ∧ SR X.K exs G H' (wipeG g own) (wipe σ own) ∧ H' Da = some (.lst vs) ∧ RpAll X.K (Bh G H') vs acc ∧
          compGo2 own F acc (xs.drop (i + 1)) g = some (.ok ds, gz) ∧ g.length = g1.length, fun H' h => ⟨xs.length - (i + 1), by omega, rfl, hlt, h⟩, fun x H' hy => ?_⟩
        obtain ⟨G', gr, rx⟩ := yl x H' hy
        have hdrop : xs.drop i = xs[i] :: xs.drop (i + 1) := List.drop_eq_getElem_cons hlt
        rw [hdrop] at hgo
        unfold compGo2 at hgo
        split at hgo
        · rename_i acc2 g3 hf
          rw [← hF] at hf
          obtain ⟨ga, hga, hf⟩ := Option.bind_eq_some_iff.mp hf
          have s2 := s.grow gr
          refine @tg_imp X.K G' H' t _ _ _ _ _ (fun σ2 H2 q => ?_) (asg_ok t hga s2 rx)
          obtain ⟨e2, s3, un⟩ := q
          subst e2
          have hl2 : σ2.length = (wipe σ own).length := by rw [← s3.len, asg_length t hga, s2.len]
          have hw : wipe σ2 own = wipe σ own := (wipe_eq hl2 fun j hj => un j fun z => hj (tin j z)).trans wipe_idem
          refine ⟨hw, fun s0 H0 Ca cl fp => ?_⟩
          have nx : ∀ {s0 H0 Ca cl fp} {γ : Type} {a : γ} {gg : Sg} {σ' : L2.St} {G' : Gh} {H' : Hp} {x : Exc} {g' : Sg}, ((.ok a, gg) : Out γ × Sg) = (.ex x, g') → PX (blkX X scope s0 H0 Ca cl fp) exs σ' G' H' (fun _ _ _ _ => False) x g' := fun h => by cases h
          refine (hq s0 H0 Ca cl fp).use hf s3 (fun x g' h => nx h) fun b gb hb H3 G3 e3 s4 => ?_
          have fr3 := e3.fr Da (gr.fr Da as.fr).1
          have eD3 : H3 Da = some (.lst vs) := fr3.2.trans ((gr.fr Da as.fr).2.trans eD)
          have ra3 : RpAll X.K (Bh G3 H3) vs acc := (ra.mono gr.same).mono e3.same
          have as3 : Aside Da G1 H1 G3 H3 := (as.next gr.toExt fun _ _ => rfl).next e3 fun _ _ => rfl
          cases b with
          | true =>
            rw [if_pos rfl] at hb ⊢
            intro s0 H0 Ca cl fp
            refine (hi1 s0 H0 Ca cl fp).use hb s4 (fun x g' h => nx h) fun ys gy hz J1 H4 G4 e4 s5 itok1 => ?_
            have fr4 := e4.fr Da fr3.1
            refine ⟨fun j k H => k = ys.length - j ∧ j ≤ ys.length ∧ ∃ G g vs acc, Aside Da G1 H1 G H ∧ Same (Bh G4 H4) (Bh G H) ∧ SR X.K exs G H (wipeG g own1) (wipe σ2 own1) ∧ H Da = some (.lst vs) ∧ RpAll X.K (Bh G H) vs acc ∧
                compGo own1 F1 acc (ys.drop j) g = some (.ok acc2, g3) ∧ g.length = g1.length,
              ⟨ys.length, rfl, Nat.zero_le _, G4, gy, vs, acc, as3.next e4 fun _ _ => rfl, fun _ _ h => h, s5.wipe, fr4.2.trans eD3, ra3.mono e4.same, by rw [List.drop_zero]; exact hz, by rw [s5.len, hl2, wipe_length, ← s1.len]⟩, ?_⟩
            rintro j k H ⟨rfl, hle1, G, g, vs, acc, as, sm1, s, eD, ra, hgo1, hgl⟩
            have it1 := itok1 j G H sm1 s.tag
            by_cases hlt1 : j < ys.length
            · right
              have hd1 : ys[j]? = some ys[j] := List.getElem?_eq_getElem hlt1
              obtain ⟨go1, yl1⟩ := it1.1 _ hd1
              refine ⟨go1, fun H' => ∃ G g vs acc, Aside Da G1 H1 G H' ∧ Same (Bh G4 H4) (Bh G H') ∧ SR X.K exs G H' (wipeG g own1) (wipe σ2 own1) ∧ H' Da = some (.lst vs) ∧ RpAll X.K (Bh G H') vs acc ∧
                compGo own1 F1 acc (ys.drop (j + 1)) g = some (.ok acc2, g3) ∧ g.length = g1.length, fun H' h => ⟨ys.length - (j + 1), by omega, rfl, hlt1, h⟩, fun x H' hy => ?_⟩
              obtain ⟨G', gr, rx⟩ := yl1 x H' hy
              have hdrop1 : ys.drop j = ys[j] :: ys.drop (j + 1) := List.drop_eq_getElem_cons hlt1
              rw [hdrop1] at hgo1
              unfold compGo at hgo1
              split at hgo1
              · rename_i rr g5 hf1
                split at hgo1
                · rename_i hsz
                  rw [← hF1] at hf1
                  obtain ⟨ga1, hga1, hf1⟩ := Option.bind_eq_some_iff.mp hf1
                  have s2' := s.grow gr
                  refine @tg_imp X.K G' H' t1 _ _ _ _ _ (fun σ3 H2 q => ?_) (asg_ok t1 hga1 s2' rx)
                  obtain ⟨e2, s6, un1⟩ := q
                  subst e2
                  have hl3 : σ3.length = (wipe σ2 own1).length := by rw [← s6.len, asg_length t1 hga1, s2'.len]
                  have hw1 : wipe σ3 own1 = wipe σ2 own1 := (wipe_eq hl3 fun j hj => un1 j fun z => hj (tin1 j z)).trans wipe_idem
                  refine ⟨hw1, fun s0 H0 Ca cl fp => ?_⟩
                  refine (hq1 s0 H0 Ca cl fp).use hf1 s6 (fun x g' h => nx h) fun b gb hb H5 G5 e5 s7 => ?_
                  have fr5 := e5.fr Da (gr.fr Da as.fr).1
                  have eD5 : H5 Da = some (.lst vs) := fr5.2.trans ((gr.fr Da as.fr).2.trans eD)
                  have ra5 : RpAll X.K (Bh G5 H5) vs acc := (ra.mono gr.same).mono e5.same
                  have sm5 : Same (Bh G4 H4) (Bh G5 H5) := fun a u h => e5.same _ _ (gr.same _ _ (sm1 a u h))
                  cases b with
                  | true =>
                    rw [if_pos rfl] at hb ⊢
                    intro s0 H0 Ca cl fp
                    refine (he s0 H0 Ca cl fp).useD hb s7 (fun x g' h => nx h) fun y gw hy2 v H6 G6 e6 s8 rv => ?_
                    cases ret_some hy2
                    have fr6 := e6.fr Da fr5.1
                    obtain ⟨s9, sm9⟩ := s8.with_fr (ws := vs ++ [v]) fr6.1
                    refine ⟨vs, fr6.2.trans eD5, by rw [ra5.length]; exact hsz, G6, g5, vs ++ [v], acc ++ [y.toD], (as.next gr.toExt fun _ _ => rfl).next (e5.trans e6) fun b hb => upd_ne hb, fun a u h => sm9 _ _ (e6.same _ _ (sm5 a u h)), ?_, upd_same,
                      ((ra5.mono e6.same).app (.cons rv .nil)).mono sm9, hgo1, ?_⟩
                    · have := s9.wipe (own := own1)
                      rw [hw1] at this
                      exact this
                    · rw [s8.len, hl3, wipe_length, hl2, wipe_length, ← s1.len]
                  | false =>
                    rw [if_neg Bool.false_ne_true] at hb ⊢
                    cases ret_some hb
                    refine ⟨G5, g5, vs, acc, (as.next gr.toExt fun _ _ => rfl).next e5 fun _ _ => rfl, sm5, ?_, eD5, ra5, hgo1, ?_⟩
                    · have := s7.wipe (own := own1)
                      rw [hw1] at this
                      exact this
                    · rw [s7.len, hl3, wipe_length, hl2, wipe_length, ← s1.len]
                · cases hgo1
              · cases hgo1
            · left
              have ej : j = ys.length := by omega
              refine ⟨it1.2 (by omega), ?_⟩
              rw [ej, List.drop_length] at hgo1
              cases ret_some hgo1
              refine ⟨G, _, vs, _, as, ?_, eD, ra, hgo, hgl⟩
              have := s.wipe (own := own)
              rw [wipeG_sub sub, wipe_sub sub, hw] at this
              exact this
          | false =>
            rw [if_neg Bool.false_ne_true] at hb ⊢
            cases ret_some hb
            refine ⟨G3, _, vs, _, as3, ?_, eD3, ra3, hgo, ?_⟩
            · have := s4.wipe (own := own)
              rw [hw] at this
              exact this
            · rw [s4.len, hl2, wipe_length, ← s1.len]
        · cases hgo
      · left
        have ei : i = xs.length := by omega
        refine ⟨it.2 (by omega), ?_⟩
        rw [ei, List.drop_length] at hgo
        cases ret_some hgo
        exact comp_end e1 s1 as s eD ra hgl hpl post
    · cases hk
  · cases hk
theorem snd_comp2 {t t1 : Tg} {ownp : List (Str × Nat)} {own own1 : List Nat} {scope : Scope} {elt iter tg1 iter1 : Expr} {ifs ifs1 : List Expr} {fs fs1 : Sg → R (List D)} {fq fq1 : Sg → R Bool} {fe : Sg → R Val} (hc : X.calm = true) (nd : X.N.Nodup)
    (okB : BlkOk X.N X.env.scope scope ownp) (hown : ownp.map (·.2) = own) (tin : ∀ j, j ∈ tgIx t → j ∈ own) (tin1 : ∀ j, j ∈ tgIx t1 → j ∈ own1) (sub : ∀ j, j ∈ own1 → j ∈ own) (hg : ∀ s H Ca cl fp, PG (blkX X scope s H Ca cl fp) tg (tgRd X.K t)) (hg1 : ∀ s H Ca cl fp, PG (blkX X scope s H Ca cl fp) tg1 (tgRd X.K t1))
    (hi : SndI X exs tg iter fs) (hq : ∀ s H Ca cl fp, SndQ (blkX X scope s H Ca cl fp) exs ifs fq) (hi1 : ∀ s H Ca cl fp, SndI (blkX X scope s H Ca cl fp) exs tg1 iter1 fs1) (hq1 : ∀ s H Ca cl fp, SndQ (blkX X scope s H Ca cl fp) exs ifs1 fq1)
    (he : ∀ s H Ca cl fp, Snd (blkX X scope s H Ca cl fp) exs elt fe) (hs : ∀ x, foldedSetIterable iter X.env x = pure x) (hs1 : ∀ env x, foldedSetIterable iter1 env x = pure x) :
    Snd X exs (.ListComp elt [⟨tg, iter, ifs, 0⟩, ⟨tg1, iter1, ifs1, 0⟩] scope pos) (comp2F t own fs fq t1 own1 fs1 fq1 fe) := fun g r hr σ H G Q W sr post =>
  we_of (pe_lc2 hc nd wi_max okB (by rw [hown]; exact sub) hg ttB_pt tiB_pi hg1 ttB_pt teB_pe hs hs1) (comp2_rd hown tin tin1 sub hi hq hi1 hq1 he hr sr post)
end
end Z

/-! Z7: statements. -/
namespace Z
open PySem PySem.Spec PyProof.Rows L2

section
variable (X : Cx) (exs : EX)
def Ps (G : Gh) (H : Hp) (Dn : Ends) (W : WX) : Fl × Sg → Prop
  | (.nx, g') => ∀ σ' H' G', Ext G H G' H' → SR X.K exs G' H' g' σ' → Dn.nx σ' H'
  | (.bk, g') => ∀ σ' H' G', Ext G H G' H' → SR X.K exs G' H' g' σ' → Dn.bk σ' H'
  | (.ct, g') => ∀ σ' H' G', Ext G H G' H' → SR X.K exs G' H' g' σ' → Dn.ct σ' H'
  | (.rt x, g') => ∀ v σ' H' G', Ext G H G' H' → SR X.K exs G' H' g' σ' → ValOk X.K G' H' x v → Dn.rt v H'
  | (.ex x, g') => Takes X W ∧ ∀ cls dd σ' H' G', Ext G H G' H' → SR X.K exs G' H' g' σ' → ExR exs x cls dd (Bh G' H') → W cls dd σ' H'
def SndS (st : Stmt) (f : Sg → RS) : Prop := ∀ g r, f g = some r → ∀ σ H G Dn W, SR X.K exs G H g σ → Ps X exs G H Dn W r → WS X st Dn σ H
def SndSs (st : List Stmt) (f : Sg → RS) : Prop := ∀ g r, f g = some r → ∀ σ H G Dn W, SR X.K exs G H g σ → Ps X exs G H Dn W r → WSs X st Dn σ H
end
section
variable {X : Cx} {exs : EX} {σ : L2.St} {G G1 : Gh} {H H1 : Hp} {W : WX} {Dn : Ends} {e : Expr} {f : Sg → R Val} {g g1 : Sg} {pos : Pos}
theorem Ps.ex {r : Fl × Sg} (h : Ps X exs G H Dn W r) : ∀ x g', r = (.ex x, g') → PX X exs σ G H W x g' := fun x g' e => by
  subst e
  exact ⟨h.1, fun c d H' G' => h.2 c d σ H' G'⟩
theorem Ps.next {r : Fl × Sg} (h : Ps X exs G H Dn W r) (e : Ext G H G1 H1) : Ps X exs G1 H1 Dn W r := by
  obtain ⟨fl, g'⟩ := r
  cases fl with
  | nx => exact fun σ' H' G' w => h σ' H' G' (e.trans w)
  | bk => exact fun σ' H' G' w => h σ' H' G' (e.trans w)
  | ct => exact fun σ' H' G' w => h σ' H' G' (e.trans w)
  | rt x => exact fun v σ' H' G' w => h v σ' H' G' (e.trans w)
  | ex x => exact ⟨h.1, fun c d σ' H' G' w => h.2 c d σ' H' G' (e.trans w)⟩
theorem Snd.useS {k : Val → Sg → RS} {r : Fl × Sg} {Q : VK} (h : Snd X exs e f) (hr : sbnd (f g) k = some r) (sr : SR X.K exs G H g σ) (post : Ps X exs G H Dn W r)
    (ok : ∀ x g1, k x g1 = some r → ∀ v H1 G1, Ext G H G1 H1 → SR X.K exs G1 H1 g1 σ → ValOk X.K G1 H1 x v → Q v H1) : WE X e σ H Q := by
  cases q : f g with
  | none =>
    rw [q] at hr
    cases hr
  | some z =>
    obtain ⟨o, g1⟩ := z
    rw [q] at hr
    cases o with
    | ok x => exact h g _ q σ H G Q W sr fun v H1 G1 e1 s1 r1 => ok x g1 hr v H1 G1 e1 s1 r1
    | ex x =>
      cases hr
      exact h g _ q σ H G Q W sr (Ps.ex post x g1 rfl)
theorem Snd.useSD {k : Val → Sg → RS} {r : Fl × Sg} {Q : VK} (h : Snd X exs e f) (hr : sbnd (f g) k = some r) (sr : SR X.K exs G H g σ) (post : Ps X exs G H Dn W r)
    (ok : ∀ x g1, k x g1 = some r → ∀ v H1 G1, Ext G H G1 H1 → SR X.K exs G1 H1 g1 σ → Rp X.K (Bh G1 H1) v x.toD → Q v H1) : WE X e σ H Q :=
  h.useS hr sr post fun x g1 hk v H1 G1 e1 s1 r1 => by
    obtain ⟨G2, r2, w⟩ := r1.rp s1.tag
    exact ok x g1 hk v H1 G2 (e1.trans w.toExt) (s1.grow w) r2
theorem SndT.useS {ft : Sg → R Bool} {k : Bool → Sg → RS} {r : Fl × Sg} {Q : Bool → Hp → Prop} (h : SndT X exs e ft) (hr : sbnd (ft g) k = some r) (sr : SR X.K exs G H g σ) (post : Ps X exs G H Dn W r)
    (ok : ∀ x g1, k x g1 = some r → ∀ H1 G1, Ext G H G1 H1 → SR X.K exs G1 H1 g1 σ → Q x H1) : WT X e σ H Q := by
  cases q : ft g with
  | none =>
    rw [q] at hr
    cases hr
  | some z =>
    obtain ⟨o, g1⟩ := z
    rw [q] at hr
    cases o with
    | ok x => exact h g _ q σ H G Q W sr fun H1 G1 e1 s1 => ok x g1 hr H1 G1 e1 s1
    | ex x =>
      cases hr
      exact h g _ q σ H G Q W sr (Ps.ex post x g1 rfl)
theorem SndI.useS {tg iter : Expr} {fs : Sg → R (List D)} {k : List D → Sg → RS} {r : Fl × Sg} {Q : It → Hp → Prop} (h : SndI X exs tg iter fs) (hr : sbnd (fs g) k = some r) (sr : SR X.K exs G H g σ) (post : Ps X exs G H Dn W r)
    (ok : ∀ ds g1, k ds g1 = some r → ∀ J H1 G1, Ext G H G1 H1 → SR X.K exs G1 H1 g1 σ → ItOk X.K (Bh G1 H1) J ds → Q J H1) : WI X tg iter σ H Q := by
  cases q : fs g with
  | none =>
    rw [q] at hr
    cases hr
  | some z =>
    obtain ⟨o, g1⟩ := z
    rw [q] at hr
    cases o with
    | ok x => exact h g _ q σ H G Q W sr fun J H1 G1 e1 s1 r1 => ok x g1 hr J H1 G1 e1 s1 r1
    | ex x =>
      cases hr
      exact h g _ q σ H G Q W sr (Ps.ex post x g1 rfl)
theorem sopt_some {o : Option Sg} {r : Fl × Sg} (h : sopt o = some r) : ∃ g, o = some g ∧ r = (.nx, g) := by
  cases o with
  | none => cases h
  | some g =>
    cases h
    exact ⟨g, rfl, rfl⟩

/-! ### blocks -/
theorem sndSs_nil : SndSs X exs [] fun g => some (.nx, g) := fun g r hr σ H G Dn W sr post => by
  cases hr
  exact wss_of pss_nil (post σ H G (.refl _ _) sr)
theorem sndSs_cons {st : Stmt} {rest : List Stmt} {fs fr : Sg → RS} (h1 : SndS X exs st fs) (h2 : SndSs X exs rest fr) : SndSs X exs (st :: rest) fun g => seq (fs g) fun g => fr g := fun g r hr σ H G Dn W sr post => by
  refine wss_of (pss_cons ws_max wss_max) ?_
  cases q : fs g with
  | none =>
    dsimp only at hr
    rw [q] at hr
    cases hr
  | some z =>
    obtain ⟨fl, g1⟩ := z
    dsimp only at hr
    rw [q] at hr
    refine h1 g _ q σ H G _ W sr ?_
    cases fl with
    | nx => exact fun σ' H' G' e1 s1 => h2 g1 r hr σ' H' G' Dn W s1 (post.next e1)
    | bk =>
      cases hr
      exact post
    | ct =>
      cases hr
      exact post
    | rt x =>
      cases hr
      exact post
    | ex x =>
      cases hr
      exact post

/-! ### simple statements -/
theorem sndS_pass : SndS X exs (.Pass pos) fun g => some (.nx, g) := fun g r hr σ H G Dn W sr post => by
  cases hr
  exact ws_of ps_pass (post σ H G (.refl _ _) sr)
theorem sndS_brk : SndS X exs (.Break pos) fun g => some (.bk, g) := fun g r hr σ H G Dn W sr post => by
  cases hr
  exact ws_of ps_break (post σ H G (.refl _ _) sr)
theorem sndS_cont : SndS X exs (.Continue pos) fun g => some (.ct, g) := fun g r hr σ H G Dn W sr post => by
  cases hr
  exact ws_of ps_continue (post σ H G (.refl _ _) sr)
theorem sndS_retN : SndS X exs (.Return none pos) fun g => some (.rt (.v .none), g) := fun g r hr σ H G Dn W sr post => by
  cases hr
  exact ws_of ps_retN (post .non σ H G (.refl _ _) sr .non)
theorem sndS_ret (ha : Snd X exs e f) : SndS X exs (.Return (some e) pos) fun g => sbnd (f g) fun x g => some (.rt x, g) := fun g r hr σ H G Dn W sr post => by
  refine ws_of (ps_ret we_max) ?_
  refine ha.useS hr sr post fun x g1 h1 v H1 G1 e1 s1 r1 => ?_
  cases h1
  exact post v σ H1 G1 e1 s1 r1
def isCompr : Expr → Bool
  | .ListComp _ _ _ _ => true
  | .SetComp _ _ _ _ => true
  | .DictComp _ _ _ _ _ => true
  | _ => false
theorem swaps_not {e : Expr} (h : isCompr e = false) (t : Option Expr) (l : Nat) (env : Env) : swapsWith e t l env = pure false := by
  cases e <;> first | rfl | (simp [isCompr] at h)
theorem sndS_exp (hn : isCompr e = false) (ha : Snd X exs e f) : SndS X exs (.Expr e pos) fun g => sbnd (f g) fun _ g => some (.nx, g) := fun g r hr σ H G Dn W sr post => by
  refine ws_of (ps_expr we_max (swaps_not hn _ _ _)) ?_
  refine ha.useS hr sr post fun x g1 h1 v H1 G1 e1 s1 r1 => ?_
  cases h1
  exact post σ H1 G1 e1 s1
/-- what a slot takes in -/
theorem SR.take {i : Nat} {own : Bool} {x : Val} {v : V} {g' : Sg} {K : PySem.W.Frag} (sr : SR K exs G H g σ) (r : ValOk K G H x v) (h : setG g i (slOf own x) = some g') : ∃ G', Ext G H G' H ∧ SR K exs G' H g' (σ.set i (some v)) := by
  obtain ⟨_, _, rfl⟩ := setG_some h
  cases x with
  | v d => exact ⟨G, .refl _ _, sr.put ⟨v, rfl, r⟩⟩
  | m c =>
    cases own with
    | false =>
      obtain ⟨G', r2, w⟩ := r.rp sr.tag
      exact ⟨G', w.toExt, (sr.grow w).put ⟨v, rfl, r2⟩⟩
    | true =>
      obtain ⟨a, rfl, q⟩ := r
      cases c with
      | l ds =>
        obtain ⟨u, vs, hv, ra⟩ := q
        have ne : ∀ b, G b ≠ .un → b ≠ a := fun b z w => z (w ▸ u)
        have ex : Ext G H (tagAt G a (.sl i)) H := by
          refine ⟨fun b z => ⟨(tagAt_ne (ne b (by rw [z]; exact fun w => nomatch w))).trans z, rfl⟩, fun b z => ⟨(tagAt_ne (ne b (by rw [z]; exact fun w => nomatch w))).trans z, rfl⟩, fun b z => ?_, fun b x z => (tagAt_ne (ne b (by rw [z]; exact fun w => nomatch w))).trans z⟩
          by_cases w : b = a
          · rw [w, tagAt_same] at z
            cases z
          · rw [tagAt_ne w] at z
            exact z
        have s2 : SR K exs (tagAt G a (.sl i)) H g σ := by
          refine ⟨sr.len, fun j s q => (sr.ok j s q).keep ex.same fun b z => ⟨(tagAt_ne (ne b (by rw [z]; exact fun w => nomatch w))).trans z, rfl⟩, sr.tag.keep ex.same (fun b z => ?_) (fun b x z => ?_) (fun b z => ?_) ex.tb (fun b z => ?_), fun p hp => ex.tb _ _ (sr.tbs p hp)⟩
          · by_cases w : b = a
            · rw [w, hv]
              exact fun z => nomatch z
            · rw [tagAt_ne w] at z
              exact sr.tag.ne b z
          · by_cases w : b = a
            · rw [w, tagAt_same] at z
              cases z
            · rw [tagAt_ne w] at z
              exact ⟨z, rfl⟩
          · by_cases w : b = a
            · rw [w, tagAt_same] at z
              cases z
            · rw [tagAt_ne w] at z
              exact .inl ⟨z, rfl⟩
          · by_cases w : b = a
            · rw [w]
              exact ⟨vs, hv⟩
            · rw [tagAt_ne w] at z
              exact sr.tag.ls b z
        exact ⟨_, ex, s2.put (s := .ow (.l ds)) ⟨a, rfl, tagAt_same, vs, hv, ra.mono ex.same⟩⟩
theorem sndS_set {i : Nat} {own : Bool} {x : Str} {p : Pos} (nd : X.N.Nodup) (hi : X.N[i]? = some x) (hx : L2.Loc X.env.scope x) (hf : X.fn x = true ∨ X.env.scope.names.lookup x = some .local) (hn : isCompr e = false) (ha : Snd X exs e f) :
    SndS X exs (.Assign [.Name x p] e pos) fun g => sbnd (f g) fun y g => sopt (setG g i (slOf own y)) := fun g r hr σ H G Dn W sr post => by
  refine ws_of (ps_set nd hi hx we_max (swaps_not hn _ _ _) hf) ?_
  refine ha.useS hr sr post fun y g1 h1 v H1 G1 e1 s1 r1 => ?_
  obtain ⟨g2, h2, rfl⟩ := sopt_some h1
  obtain ⟨G2, e2, s2⟩ := s1.take r1 h2
  exact post _ H1 G2 (e1.trans e2) s2
/-- name = [..], by whichever road the interpreter takes -/
theorem sndS_setLc {i : Nat} {own : Bool} {x : Str} {p cpos : Pos} {t : Tg} {tg : Expr} {ownp : List (Str × Nat)} {ow : List Nat} {scope : Scope} {elt iter : Expr} {ifs : List Expr} {fs : Sg → R (List D)} {fq : Sg → R Bool} {fe : Sg → R Val}
    (nd : X.N.Nodup) (hi : X.N[i]? = some x) (hx : L2.Loc X.env.scope x) (hf : X.fn x = true ∨ X.env.scope.names.lookup x = some .local) (hk : X.env.blockKind = .function) (hc : X.calm = true)
    (okB : BlkOk X.N X.env.scope scope ownp) (hown : ownp.map (·.2) = ow) (tin : ∀ j, j ∈ tgIx t → j ∈ ow) (hg : ∀ s H Ca cl fp, PG (blkX X scope s H Ca cl fp) tg (tgRd X.K t))
    (hi2 : SndI X exs tg iter fs) (hq : ∀ s H Ca cl fp, SndQ (blkX X scope s H Ca cl fp) exs ifs fq) (he : ∀ s H Ca cl fp, Snd (blkX X scope s H Ca cl fp) exs elt fe) (hs : ∀ x, foldedSetIterable iter X.env x = pure x) :
    SndS X exs (.Assign [.Name x p] (.ListComp elt [⟨tg, iter, ifs, 0⟩] scope cpos) pos) fun g => sbnd (compF t ow fs fq fe g) fun y g => sopt (setG g i (slOf own y)) := fun g r hr σ H G Dn W sr post => by
  have rd : tAsg (tLc (WI X tg iter) (tgRd X.K t) (ttB X scope ifs) (teB X scope elt) (ownp.map (·.2))) (gName i) Dn σ H := by
    cases q : compF t ow fs fq fe g with
    | none =>
      dsimp only at hr
      rw [q] at hr
      cases hr
    | some z =>
      obtain ⟨o, g1⟩ := z
      dsimp only at hr
      rw [q] at hr
      cases o with
      | ok y =>
        obtain ⟨g2, h2, rfl⟩ := sopt_some hr
        refine comp_rd (W := W) hown tin hi2 hq he q sr fun v H1 G1 e1 s1 r1 => ?_
        obtain ⟨G2, e2, s2⟩ := s1.take r1 h2
        exact post _ H1 G2 (e1.trans e2) s2
      | ex y =>
        cases hr
        exact comp_rd (W := W) hown tin hi2 hq he q sr (Ps.ex post y g1 rfl)
  have sw : ∃ b : Bool, swapsWith (.ListComp elt [⟨tg, iter, ifs, 0⟩] scope cpos) (some (.Name x p)) pos.line X.env = pure b ∧ (b = true → X.env.scope.names.lookup x = some .local) := by
    refine ⟨_, rfl, fun h => ?_⟩
    simp only [Bool.and_eq_true] at h
    exact eq_of_beq h.1.1.2
  obtain ⟨b, hb, hl⟩ := sw
  cases b with
  | true => exact ws_of (ps_setLc hc nd hi (hl rfl) hb wi_max okB hg ttB_pt teB_pe hs) rd
  | false => exact ws_of (ps_set nd hi hx (pe_lc hc nd wi_max okB hg ttB_pt teB_pe hs) hb hf) rd

/-! ### two at once, targets, places -/

/-- name = [.. for .. for ..] -/
theorem sndS_setLc2 {i : Nat} {own : Bool} {x : Str} {p cpos : Pos} {t t1 : Tg} {tg tg1 : Expr} {ownp : List (Str × Nat)} {ow ow1 : List Nat} {scope : Scope} {elt iter iter1 : Expr} {ifs ifs1 : List Expr} {fs fs1 : Sg → R (List D)} {fq fq1 : Sg → R Bool} {fe : Sg → R Val}
    (nd : X.N.Nodup) (hi : X.N[i]? = some x) (hx : L2.Loc X.env.scope x) (hf : X.fn x = true ∨ X.env.scope.names.lookup x = some .local) (hc : X.calm = true)
    (okB : BlkOk X.N X.env.scope scope ownp) (hown : ownp.map (·.2) = ow) (tin : ∀ j, j ∈ tgIx t → j ∈ ow) (tin1 : ∀ j, j ∈ tgIx t1 → j ∈ ow1) (sub : ∀ j, j ∈ ow1 → j ∈ ow) (hg : ∀ s H Ca cl fp, PG (blkX X scope s H Ca cl fp) tg (tgRd X.K t)) (hg1 : ∀ s H Ca cl fp, PG (blkX X scope s H Ca cl fp) tg1 (tgRd X.K t1))
    (hi2 : SndI X exs tg iter fs) (hq : ∀ s H Ca cl fp, SndQ (blkX X scope s H Ca cl fp) exs ifs fq) (hi3 : ∀ s H Ca cl fp, SndI (blkX X scope s H Ca cl fp) exs tg1 iter1 fs1) (hq1 : ∀ s H Ca cl fp, SndQ (blkX X scope s H Ca cl fp) exs ifs1 fq1)
    (he : ∀ s H Ca cl fp, Snd (blkX X scope s H Ca cl fp) exs elt fe) (hs : ∀ x, foldedSetIterable iter X.env x = pure x) (hs1 : ∀ env x, foldedSetIterable iter1 env x = pure x) :
    SndS X exs (.Assign [.Name x p] (.ListComp elt [⟨tg, iter, ifs, 0⟩, ⟨tg1, iter1, ifs1, 0⟩] scope cpos) pos) fun g => sbnd (comp2F t ow fs fq t1 ow1 fs1 fq1 fe g) fun y g => sopt (setG g i (slOf own y)) := fun g r hr σ H G Dn W sr post => by
  have hv : ∀ j, j ∈ ow1 → j ∈ ownp.map (·.2) := by rw [hown]; exact sub
  have rd : tAsg (tLc2 (WI X tg iter) (tgRd X.K t) (ttB X scope ifs) (tiB X scope tg1 iter1) (tgRd X.K t1) (ttB X scope ifs1) (teB X scope elt) (ownp.map (·.2)) ow1) (gName i) Dn σ H := by
    cases q : comp2F t ow fs fq t1 ow1 fs1 fq1 fe g with
    | none =>
      dsimp only at hr
      rw [q] at hr
      cases hr
    | some z =>
      obtain ⟨o, g1⟩ := z
      dsimp only at hr
      rw [q] at hr
      cases o with
      | ok y =>
        obtain ⟨g2, h2, rfl⟩ := sopt_some hr
        refine comp2_rd (W := W) hown tin tin1 sub hi2 hq hi3 hq1 he q sr fun v H1 G1 e1 s1 r1 => ?_
        obtain ⟨G2, e2, s2⟩ := s1.take r1 h2
        exact post _ H1 G2 (e1.trans e2) s2
      | ex y =>
        cases hr
        exact comp2_rd (W := W) hown tin tin1 sub hi2 hq hi3 hq1 he q sr (Ps.ex post y g1 rfl)
  have sw : ∃ b : Bool, swapsWith (.ListComp elt [⟨tg, iter, ifs, 0⟩, ⟨tg1, iter1, ifs1, 0⟩] scope cpos) (some (.Name x p)) pos.line X.env = pure b ∧ (b = true → X.env.scope.names.lookup x = some .local) := by
    refine ⟨_, rfl, fun h => ?_⟩
    simp only [Bool.and_eq_true] at h
    exact eq_of_beq h.1.1.2
  obtain ⟨b, hb, hl⟩ := sw
  cases b with
  | true => exact ws_of (ps_setLc2 hc nd hi (hl rfl) hb wi_max okB hv hg ttB_pt tiB_pi hg1 ttB_pt teB_pe hs hs1) rd
  | false => exact ws_of (ps_set nd hi hx (pe_lc2 hc nd wi_max okB hv hg ttB_pt tiB_pi hg1 ttB_pt teB_pe hs hs1) hb hf) rd

theorem SR.park {K : PySem.W.Frag} {x : Val} {v : V} (sr : SR K exs G H g σ) (r : ValOk K G H x v) : ∃ G', SR K exs G' H g σ ∧ Ext G' H G' H ∧
    ∀ G2 H2 g2 σ2, Ext G' H G2 H2 → SR K exs G2 H2 g2 σ2 → ∃ G3, Ext G H G3 H2 ∧ SR K exs G3 H2 g2 σ2 ∧ ValOk K G3 H2 x v ∧ Same (Bh G2 H2) (Bh G3 H2) := by
  cases x with
  | v d => exact ⟨G, sr, .refl _ _, fun G2 H2 g2 σ2 e s => ⟨G2, e, s, Rp.mono e.same r, fun _ _ z => z⟩⟩
  | m c =>
    obtain ⟨a, rfl, q⟩ := r
    cases c with
    | l ds =>
      obtain ⟨u, vs, hv, ra⟩ := q
      have ne : ∀ b, G b ≠ .un → b ≠ a := fun b z w => z (w ▸ u)
      have sm : Same (Bh G H) (Bh (tagAt G a .fr) H) := fun b o h => by
        unfold Bh at h ⊢
        by_cases q : G b = .st
        · rw [if_pos q] at h
          rw [tagAt_ne (ne b (by rw [q]; exact fun w => nomatch w)), if_pos q]
          exact h
        · rw [if_neg q] at h
          cases h
      have tb1 : ∀ b x, G b = .tb x → tagAt G a .fr b = .tb x := fun b x z => (tagAt_ne (ne b (by rw [z]; exact fun w => nomatch w))).trans z
      have s2 : SR K exs (tagAt G a .fr) H g σ := by
        refine ⟨sr.len, fun j s q => (sr.ok j s q).keep sm fun b z => ⟨(tagAt_ne (ne b (by rw [z]; exact fun w => nomatch w))).trans z, rfl⟩, sr.tag.keep sm (fun b z => ?_) (fun b x z => ?_) (fun b z => ?_) tb1 (fun b z => ?_), fun p hp => tb1 _ _ (sr.tbs p hp)⟩
        · by_cases w : b = a
          · rw [w, hv]
            exact fun z => nomatch z
          · rw [tagAt_ne w] at z
            exact sr.tag.ne b z
        · by_cases w : b = a
          · rw [w, tagAt_same] at z
            cases z
          · rw [tagAt_ne w] at z
            exact ⟨z, rfl⟩
        · by_cases w : b = a
          · rw [w, tagAt_same] at z
            cases z
          · rw [tagAt_ne w] at z
            exact .inl ⟨z, rfl⟩
        · by_cases w : b = a
          · rw [w]
            exact ⟨vs, hv⟩
          · rw [tagAt_ne w] at z
            exact sr.tag.ls b z
      refine ⟨_, s2, .refl _ _, fun G2 H2 g2 σ2 e s => ?_⟩
      obtain ⟨f1, f2⟩ := e.fr a tagAt_same
      have ne2 : ∀ b, G2 b ≠ .fr → b ≠ a := fun b z w => z (w ▸ f1)
      have sm2 : Same (Bh G2 H2) (Bh (tagAt G2 a .un) H2) := fun b o h => by
        unfold Bh at h ⊢
        by_cases q : G2 b = .st
        · rw [if_pos q] at h
          rw [tagAt_ne (ne2 b (by rw [q]; exact fun w => nomatch w)), if_pos q]
          exact h
        · rw [if_neg q] at h
          cases h
      have tb2 : ∀ b x, G2 b = .tb x → tagAt G2 a .un b = .tb x := fun b x z => (tagAt_ne (ne2 b (by rw [z]; exact fun w => nomatch w))).trans z
      refine ⟨tagAt G2 a .un, ⟨fun b z => ?_, fun b z => ?_, fun b z => ?_, fun b x z => tb2 b x (e.tb b x (tb1 b x z))⟩, ⟨s.len, fun j t q => (s.ok j t q).keep sm2 fun b z => ⟨(tagAt_ne (ne2 b (by rw [z]; exact fun w => nomatch w))).trans z, rfl⟩,
        s.tag.keep sm2 (fun b z => ?_) (fun b x z => ?_) (fun b z => ?_) tb2 (fun b z => s.tag.ls b ?_), fun p hp => tb2 _ _ (s.tbs p hp)⟩, ⟨a, rfl, tagAt_same, vs, f2.trans hv, (ra.mono sm).mono e.same |>.mono sm2⟩, sm2⟩
      · have w := ne b (by rw [z]; exact fun w => nomatch w)
        obtain ⟨q1, q2⟩ := e.st b ((tagAt_ne w).trans z)
        exact ⟨(tagAt_ne w).trans q1, q2⟩
      · have w := ne b (by rw [z]; exact fun w => nomatch w)
        obtain ⟨q1, q2⟩ := e.fr b ((tagAt_ne w).trans z)
        exact ⟨(tagAt_ne w).trans q1, q2⟩
      · by_cases w : b = a
        · rw [w, tagAt_same] at z
          cases z
        · rw [tagAt_ne w] at z
          have := e.nf b z
          rw [tagAt_ne w] at this
          exact this
      · by_cases w : b = a
        · rw [w, tagAt_same] at z
          exact absurd rfl z
        · rw [tagAt_ne w] at z
          exact s.tag.ne b z
      · by_cases w : b = a
        · rw [w, tagAt_same] at z
          cases z
        · rw [tagAt_ne w] at z
          exact ⟨z, rfl⟩
      · by_cases w : b = a
        · rw [w, tagAt_same] at z
          cases z
        · rw [tagAt_ne w] at z
          exact .inl ⟨z, rfl⟩
      · by_cases w : b = a
        · rw [w, tagAt_same] at z
          exact absurd rfl z.un
        · rw [tagAt_ne w] at z
          exact z
theorem isBo_set {g : Sg} {i j : Nat} {x : Sl} (h : i ≠ j) : isBo (g.set i x)[j]? = isBo g[j]? := by
  rw [List.getElem?_set_ne h]
theorem sndS_par {i j : Nat} {p q : Bool} {x y : Str} {a b : Expr} {fa fb : Sg → R Val} {px py pt pt2 : Pos} {kt k2 : Nat} (hc : X.calm = true) (nd : X.N.Nodup) (hi : X.N[i]? = some x) (hj : X.N[j]? = some y) (hij : i ≠ j)
    (hx : X.env.scope.names.lookup x = some .local) (hy : X.env.scope.names.lookup y = some .local) (na : notStar a = true) (nb : notStar b = true) (hw : swappedStores [.Tuple [.Name x px, .Name y py] kt pt] (.Tuple [a, b] k2 pt2) X.env = pure (some [x, y]))
    (ha : Snd X exs a fa) (hb : Snd X exs b fb) :
    SndS X exs (.Assign [.Tuple [.Name x px, .Name y py] kt pt] (.Tuple [a, b] k2 pt2) pos) fun g => sbnd (fa g) fun x g => sbnd (fb g) fun y g =>
      sopt ((setG g i (slOf p x)).bind fun g => setG g j (slOf q y)) := fun g r hr σ H G Dn W sr post => by
  refine ws_of (ps_par hc nd hi hj hij hx hy (pa_cons we_max (pa_cons we_max pa_nil (star_of nb)) (star_of na)) hw rfl) ?_
  refine ha.useS hr sr post fun z g1 h1 v H1 G1 e1 s1 r1 => ?_
  obtain ⟨G1', s1', _, un⟩ := s1.park r1
  have e1' : ∀ {G2 H2}, Ext G1' H1 G2 H2 → SR X.K exs G2 H2 g1 σ → True := fun _ _ => trivial
  cases hfb : fb g1 with
  | none =>
    rw [hfb] at h1
    cases h1
  | some w =>
    obtain ⟨o, g2⟩ := w
    rw [hfb] at h1
    cases o with
    | ok w =>
      refine hb g1 _ hfb σ H1 G1' _ W s1' fun u H2 G2 e2 s2 r2 => ?_
      refine ⟨v, u, rfl, ?_⟩
      obtain ⟨g3, h3, rfl⟩ := sopt_some h1
      obtain ⟨g4, h4, h5⟩ := Option.bind_eq_some_iff.mp h3
      obtain ⟨l4, b4, rfl⟩ := setG_some h4
      obtain ⟨l5, b5, rfl⟩ := setG_some h5
      rw [isBo_set hij] at b5
      rw [List.length_set] at l5
      obtain ⟨G3, e3, s3⟩ := s2.take (own := q) r2 (show setG g2 j (slOf q w) = some (g2.set j (slOf q w)) from if_pos ⟨l5, b5⟩)
      obtain ⟨G4, e4, s4, r4, _⟩ := un G3 H2 _ _ (e2.trans e3) s3
      obtain ⟨G5, e5, s5⟩ := s4.take (own := p) r4 (show setG (g2.set j (slOf q w)) i (slOf p z) = some ((g2.set j (slOf q w)).set i (slOf p z)) from if_pos ⟨by rw [List.length_set]; exact l4, by rw [isBo_set (Ne.symm hij)]; exact b4⟩)
      rw [List.set_comm _ _ (Ne.symm hij), List.set_comm (l := σ) _ _ (Ne.symm hij)] at s5
      exact post _ H2 G5 (e1.trans (e4.trans e5)) s5
    | ex w =>
      cases h1
      refine hb g1 _ hfb σ H1 G1' _ W s1' ?_
      obtain ⟨tk, h⟩ := post
      refine ⟨tk, fun cls dd H' G' e s hx => ?_⟩
      obtain ⟨G3, e3, s3, _, m3⟩ := un G' H' _ _ e s
      obtain ⟨C, q1, q2, q3⟩ := hx
      exact h cls dd σ H' G3 (e1.trans e3) s3 ⟨C, q1, q2, q3.mono m3⟩
theorem sndS_asg {t : Tg} {tg : Expr} (hg : PG X tg (tgRd X.K t)) (ht : notStar tg = true) (hn : isCompr e = false) (hw : swappedStores [tg] e X.env = pure none) (ha : Snd X exs e f) :
    SndS X exs (.Assign [tg] e pos) fun g => sbnd (f g) fun x g => sopt (asg t x.toD g) := fun g r hr σ H G Dn W sr post => by
  refine ws_of (ps_asg we_max hg (swaps_not hn _ _ _) hw (by rw [each_cons ht]; rfl)) ?_
  refine ha.useSD hr sr post fun x g1 h1 v H1 G1 e1 s1 r1 => ?_
  obtain ⟨g2, h2, rfl⟩ := sopt_some h1
  refine @tg_imp X.K G1 H1 t _ _ _ _ _ (fun σ2 H2 q => ?_) (asg_ok t h2 s1 r1)
  obtain ⟨rfl, s3, _⟩ := q
  exact post σ2 _ G1 e1 s3
theorem sub_assign {o k : Expr} {p : Pos} {env : Env} (h : notSlice k = true) (v : Value) : assign (.Subscript o k p) env v = (do
    let ov ← holding [v] (eval o env)
    let iv ← holding [v, ov] (eval k env)
    standAt p
    holding [v, ov, iv] (setItem ov iv v)
    release [v, ov, iv] []) := by
  cases k <;> first | rfl | (simp [notSlice] at h)
theorem SR.mut {i : Nat} {K : PySem.W.Frag} (sr : SR K exs G H g σ) (h : isM g i = true) : ∃ a ds vs, σ[i]? = some (some (.ref a)) ∧ G a = .sl i ∧ H a = some (.lst vs) ∧ RpAll K (Bh G H) vs ds ∧ (g[i]? = some (.ow (.l ds)) ∨ (g[i]? = some (.bo (.l ds)) ∧ exs.bt i = some a)) := by
  unfold isM at h
  split at h
  · rename_i c hc
    obtain ⟨y, hy, a, rfl, hm⟩ := sr.at hc
    cases c with
    | l ds =>
      obtain ⟨t, vs, q, r⟩ := hm
      exact ⟨a, ds, vs, hy, t, q, r, .inl hc⟩
  · rename_i c hc
    obtain ⟨y, hy, a, rfl, hm, hb⟩ := sr.at hc
    cases c with
    | l ds =>
      obtain ⟨t, vs, q, r⟩ := hm
      exact ⟨a, ds, vs, hy, t, q, r, .inr ⟨hc, hb⟩⟩
  · cases h
/-- the list of a slot is changed -/
theorem SR.change {i : Nat} {K : PySem.W.Frag} {a : Addr} {ds : List D} {vs : List V} {s' : Sl} (sr : SR K exs G H g σ) (hσ : σ[i]? = some (some (.ref a))) (hG : G a = .sl i) (ra : RpAll K (Bh G H) vs ds)
    (hs : s' = .ow (.l ds) ∨ (s' = .bo (.l ds) ∧ exs.bt i = some a)) : Ext G H G (upd H a (.lst vs)) ∧ SR K exs G (upd H a (.lst vs)) (g.set i s') σ := by
  have ne : ∀ b, G b ≠ .sl i → b ≠ a := fun b z w => z (w ▸ hG)
  have ex : Ext G H G (upd H a (.lst vs)) := ⟨fun b z => ⟨z, upd_ne (ne b (by rw [z]; exact fun w => nomatch w))⟩, fun b z => ⟨z, upd_ne (ne b (by rw [z]; exact fun w => nomatch w))⟩, fun _ z => z, fun _ _ z => z⟩
  refine ⟨ex, by rw [List.length_set]; exact sr.len, fun j t q => ?_, sr.tag.keep ex.same (fun b z => ?_) (fun b x z => ⟨z, upd_ne (ne b (by rw [z]; exact fun w => nomatch w))⟩) (fun b z => .inl ⟨z, upd_ne (ne b (by rw [z]; exact fun w => nomatch w))⟩) ex.tb (fun b z => ?_), sr.tbs⟩
  · by_cases hj : i = j
    · subst hj
      rw [List.getElem?_set_self (by have := get_lt q; rw [List.length_set] at this; exact this)] at q
      cases q
      have hD : σ.getD i none = some (.ref a) := by rw [List.getD_eq_getElem?_getD, hσ]; rfl
      rw [hD]
      have mk : MOk K G (upd H a (.lst vs)) i (.l ds) a := ⟨hG, vs, upd_same, ra.mono ex.same⟩
      rcases hs with rfl | ⟨rfl, hb⟩
      · exact ⟨a, rfl, mk⟩
      · exact ⟨a, rfl, mk, hb⟩
    · rw [List.getElem?_set_ne hj] at q
      exact (sr.ok j t q).keep ex.same fun b z => ⟨z, upd_ne (ne b (by rw [z]; exact fun w => hj (Tag.sl.inj w).symm))⟩
  · by_cases w : b = a
    · rw [w, upd_same]
      exact fun z => nomatch z
    · rw [upd_ne w]
      exact sr.tag.ne b z
  · by_cases w : b = a
    · rw [w]
      exact ⟨vs, upd_same⟩
    · rw [upd_ne w]
      exact sr.tag.ls b z
/-- a change of a slot's list, as the machine does it -/
theorem upM_some {i : Nat} {F : M → Option M} {r : Fl × Sg} (h : upM g i F = some r) : ∃ c c', F c = some c' ∧ ((g[i]? = some (.ow c) ∧ r = (.nx, g.set i (.ow c'))) ∨ (g[i]? = some (.bo c) ∧ r = (.nx, g.set i (.bo c')))) := by
  unfold upM at h
  split at h
  · rename_i c hc
    obtain ⟨c', h1, rfl⟩ := Option.map_eq_some_iff.mp h
    exact ⟨c, c', h1, .inl ⟨hc, rfl⟩⟩
  · rename_i c hc
    obtain ⟨c', h1, rfl⟩ := Option.map_eq_some_iff.mp h
    exact ⟨c, c', h1, .inr ⟨hc, rfl⟩⟩
  · cases h
/-- .. and as the heap sees it -/
theorem SR.up {i : Nat} {K : PySem.W.Frag} {F : M → Option M} {r : Fl × Sg} (sr : SR K exs G H g σ) (h : upM g i F = some r) : ∃ a ds ds' vs g', σ[i]? = some (some (.ref a)) ∧ H a = some (.lst vs) ∧ RpAll K (Bh G H) vs ds ∧ F (.l ds) = some (.l ds') ∧ r = (.nx, g') ∧
    ∀ vs', RpAll K (Bh G H) vs' ds' → Ext G H G (upd H a (.lst vs')) ∧ SR K exs G (upd H a (.lst vs')) g' σ := by
  obtain ⟨c, c', hF, hg⟩ := upM_some h
  cases c with
  | l ds =>
  cases c' with
  | l ds' =>
  have hm : isM g i = true := by
    unfold isM
    rcases hg with ⟨q, _⟩ | ⟨q, _⟩ <;> rw [q]
  obtain ⟨a, ds2, vs, h1, h2, h3, h4, h5⟩ := sr.mut hm
  rcases hg with ⟨q, rfl⟩ | ⟨q, rfl⟩
  · rcases h5 with h5 | ⟨h5, _⟩
    · rw [q] at h5
      cases h5
      exact ⟨a, ds, ds', vs, _, h1, h3, h4, hF, rfl, fun vs' r => sr.change h1 h2 r (.inl rfl)⟩
    · rw [q] at h5
      cases h5
  · rcases h5 with h5 | ⟨h5, hb⟩
    · rw [q] at h5
      cases h5
    · rw [q] at h5
      cases h5
      exact ⟨a, ds, ds', vs, _, h1, h3, h4, hF, rfl, fun vs' r => sr.change h1 h2 r (.inr ⟨rfl, hb⟩)⟩
theorem sndS_put {i : Nat} {x : Str} {k : Expr} {fk : Sg → R Val} {p p2 : Pos} (hN : X.N[i]? = some x) (hv : Vis X.env.scope x) (hd : (x == ("__debug__" : Str)) = false) (hcd : (x == ("__classdict__" : Str)) = false) (hk : notSlice k = true) (hn : isCompr e = false)
    (ha : Snd X exs e f) (hb : Snd X exs k fk) : SndS X exs (.Assign [.Subscript (.Name x p) k p2] e pos) fun g => sbnd (f g) fun y g => if isM g i then sbnd (fk g) fun z g => upM g i fun c => putM c z.toD y.toD else none := fun g r hr σ H G Dn W sr post => by
  refine ws_of (ps_asg we_max (pg_sub (pe_var hN hv hd hcd) we_max set_list (sub_assign hk)) (show swapsWithSole [.Subscript (.Name x p) k p2] e pos.line X.env = pure false from swaps_not hn (some (.Subscript (.Name x p) k p2)) pos.line X.env) rfl rfl) ?_
  refine ha.useSD hr sr post fun y g1 h1 v H1 G1 e1 s1 r1 => ?_
  split at h1
  · rename_i hm
    obtain ⟨a, _, _, hσ, _⟩ := s1.mut hm
    refine ⟨_, hσ, ?_⟩
    refine hb.useSD h1 s1 (post.next e1) fun z g2 h2 w H2 G2 e2 s2 r2 => ?_
    obtain ⟨a', ds, ds', vs, g', hσ', hH, ra, hF, rfl, nx⟩ := s2.up h2
    rw [hσ] at hσ'
    cases hσ'
    generalize z.toD = zd at hF r2
    cases zd with
    | int ki =>
      obtain ⟨j, hj, ej⟩ := Option.map_eq_some_iff.mp hF
      cases ej
      obtain ⟨ex, s3⟩ := nx _ (ra.set (r1.mono e2.same) j)
      exact ⟨a, vs, ki, j, rfl, rp_int r2, hH, by rw [ra.length]; exact hj, post _ _ G2 (e1.trans (e2.trans ex)) s3⟩
    | none => cases hF
    | bool _ => cases hF
    | str _ => cases hF
    | list _ => cases hF
    | tuple _ => cases hF
    | dict _ => cases hF
  · cases h1
theorem sndS_app {i : Nat} {x : Str} {p p2 p3 : Pos} (hN : X.N[i]? = some x) (hv : Vis X.env.scope x) (hd : (x == ("__debug__" : Str)) = false) (hcd : (x == ("__classdict__" : Str)) = false) (hn : notStar e = true) (hl : (p2.endLine == p3.line) = true)
    (ha : Snd X exs e f) : SndS X exs (.Expr (.Call (.Attribute (.Name x p) "append" p2) [e] [] p3) pos) fun g => if isM g i then sbnd (f g) fun y g => upM g i fun c => appM c y.toD else none := fun g r hr σ H G Dn W sr post => by
  refine ws_of (ps_expr (pe_bm PySem.F.plainAttrs_list PySem.F.slot_list_append PySem.F.type_list_append mt_append (pe_var hN hv hd hcd) (pa_cons we_max pa_nil (star_of hn)) rfl (by rw [star_of hn]; rfl) hl (star_of hn) rfl) rfl) ?_
  dsimp only at hr
  split at hr
  · rename_i hm
    obtain ⟨a, ds0, vs0, hσ, _, h0, _⟩ := sr.mut hm
    refine ⟨_, hσ, .inl ⟨rfl, _, SqL.of h0⟩, ?_⟩
    refine ha.useSD hr sr post fun y g1 h1 v H1 G1 e1 s1 r1 => ?_
    obtain ⟨a', ds, ds', vs, g', hσ', hH, ra, hF, rfl, nx⟩ := s1.up h1
    rw [hσ] at hσ'
    cases hσ'
    simp only [appM] at hF
    split at hF
    · rename_i hsz
      cases hF
      obtain ⟨ex, s3⟩ := nx _ (ra.app (.cons r1 .nil))
      exact ⟨a, vs, v, rfl, rfl, hH, by rw [ra.length]; exact hsz, post _ _ G1 (e1.trans ex) s3⟩
    · cases hF
  · cases hr

theorem sndS_ext {i : Nat} {x : Str} {p p2 p3 : Pos} (hN : X.N[i]? = some x) (hv : Vis X.env.scope x) (hd : (x == ("__debug__" : Str)) = false) (hcd : (x == ("__classdict__" : Str)) = false) (hn : notStar e = true) (hl : (p2.endLine == p3.line) = true)
    (ha : Snd X exs e f) : SndS X exs (.Expr (.Call (.Attribute (.Name x p) "extend" p2) [e] [] p3) pos) fun g => if isM g i then sbnd (f g) fun y g => upM g i fun c => extM c y.toD else none := fun g r hr σ H G Dn W sr post => by
  refine ws_of (ps_expr (pe_bm PySem.F.plainAttrs_list PySem.F.slot_list_extend PySem.F.type_list_extend mt_extend (pe_var hN hv hd hcd) (pa_cons we_max pa_nil (star_of hn)) rfl (by rw [star_of hn]; rfl) hl (star_of hn) rfl) rfl) ?_
  dsimp only at hr
  split at hr
  · rename_i hm
    obtain ⟨a, ds0, vs0, hσ, _, h0, _⟩ := sr.mut hm
    refine ⟨_, hσ, .inl ⟨rfl, _, SqL.of h0⟩, ?_⟩
    refine ha.useSD hr sr post fun y g1 h1 v H1 G1 e1 s1 r1 => ?_
    obtain ⟨a', ds, ds', vs, g', hσ', hH, ra, hF, rfl, nx⟩ := s1.up h1
    rw [hσ] at hσ'
    cases hσ'
    generalize y.toD = d at hF r1
    cases d with
    | list es =>
      obtain ⟨b, zs, rfl, hb, rb⟩ := rp_lst r1
      simp only [extM] at hF
      split at hF
      · rename_i hsz
        cases hF
        obtain ⟨ex, s3⟩ := nx _ (ra.app rb)
        exact ⟨a, b, vs, zs, rfl, rfl, hH, hb, by rw [ra.length, rb.length]; exact hsz, post _ _ G1 (e1.trans ex) s3⟩
      · cases hF
    | none => cases hF
    | bool _ => cases hF
    | int _ => cases hF
    | str _ => cases hF
    | tuple _ => cases hF
    | dict _ => cases hF
  · cases hr
theorem ixN_ix {n : Nat} {i : Int} {j : Nat} (h : ixN n i = some j) : seqIndex? i n = some j := (ixN_seq h).1
/-- a list of a slot loses one: as the heap sees it -/
theorem snd_pop {i : Nat} {x : Str} {p p2 p3 : Pos} (hN : X.N[i]? = some x) (hv : Vis X.env.scope x) (hd : (x == ("__debug__" : Str)) = false) (hcd : (x == ("__classdict__" : Str)) = false) (hn : notStar e = true) (hl : (p2.endLine == p3.line) = true)
    (ha : Snd X exs e f) : Snd X exs (.Call (.Attribute (.Name x p) "pop" p2) [e] [] p3) fun g => if isM g i then bnd (f g) fun y g => match popG g i y.toD with
      | some r => ret (.v r.1) r.2
      | none => none
    else none := fun g r hr σ H G Q W sr post => by
  refine we_of (pe_bm PySem.F.plainAttrs_list PySem.F.slot_list_pop PySem.F.type_list_pop mt_popAt (pe_var hN hv hd hcd) (pa_cons we_max pa_nil (star_of hn)) rfl (by rw [star_of hn]; rfl) hl (star_of hn) rfl) ?_
  dsimp only at hr
  split at hr
  · rename_i hm
    obtain ⟨a, ds0, vs0, hσ, _, h0, _⟩ := sr.mut hm
    refine ⟨_, hσ, .inl ⟨rfl, _, SqL.of h0⟩, ?_⟩
    refine ha.useD hr sr (Pv.ex post) fun y g1 h1 v H1 G1 e1 s1 r1 => ?_
    split at h1
    · rename_i q hq
      have hr := ret_some h1
      subst hr
      have key : ∃ c c', popM c y.toD = some (q.1, c') ∧ ((g1[i]? = some (.ow c) ∧ q.2 = g1.set i (.ow c')) ∨ (g1[i]? = some (.bo c) ∧ q.2 = g1.set i (.bo c'))) := by
        unfold popG at hq
        split at hq
        · rename_i c hc
          obtain ⟨z, hz, rfl⟩ := Option.map_eq_some_iff.mp hq
          exact ⟨c, z.2, hz, .inl ⟨hc, rfl⟩⟩
        · rename_i c hc
          obtain ⟨z, hz, rfl⟩ := Option.map_eq_some_iff.mp hq
          exact ⟨c, z.2, hz, .inr ⟨hc, rfl⟩⟩
        · cases hq
      obtain ⟨c, c', hpop, hslot⟩ := key
      have hm1 : isM g1 i = true := by
        unfold isM
        rcases hslot with ⟨z, _⟩ | ⟨z, _⟩ <;> rw [z]
      obtain ⟨a1, ds1, vs1, hσ1, hG1, hH1, ra, hor⟩ := s1.mut hm1
      rw [hσ] at hσ1
      cases hσ1
      have hc : c = .l ds1 ∧ (q.2 = g1.set i (.ow c') ∨ (q.2 = g1.set i (.bo c') ∧ exs.bt i = some a)) := by
        rcases hslot with ⟨z1, z2⟩ | ⟨z1, z2⟩
        · rcases hor with h5 | ⟨h5, _⟩
          · rw [z1] at h5
            cases h5
            exact ⟨rfl, .inl z2⟩
          · rw [z1] at h5
            cases h5
        · rcases hor with h5 | ⟨h5, hb⟩
          · rw [z1] at h5
            cases h5
          · rw [z1] at h5
            cases h5
            exact ⟨rfl, .inr ⟨z2, hb⟩⟩
      obtain ⟨rfl, hq2⟩ := hc
      generalize y.toD = d at hpop r1
      cases d with
      | int k =>
        simp only [popM] at hpop
        split at hpop
        · rename_i hk
          rw [Bool.and_eq_true, decide_eq_true_eq, decide_eq_true_eq] at hk
          obtain ⟨j, hj, hpop⟩ := Option.bind_eq_some_iff.mp hpop
          obtain ⟨d, hd2, hpop⟩ := Option.map_eq_some_iff.mp hpop
          have e5 : d = q.1 := congrArg Prod.fst hpop
          have e6 : M.l (ds1.eraseIdx j) = c' := congrArg Prod.snd hpop
          obtain ⟨w, hw, rw2⟩ := ra.get hd2
          have ln := ra.length
          have hs' : ∃ s', q.2 = g1.set i s' ∧ (s' = .ow (.l (ds1.eraseIdx j)) ∨ (s' = .bo (.l (ds1.eraseIdx j)) ∧ exs.bt i = some a)) := by
            subst e6
            rcases hq2 with z | ⟨z, hb⟩
            · exact ⟨_, z, .inl rfl⟩
            · exact ⟨_, z, .inr ⟨rfl, hb⟩⟩
          obtain ⟨s', eg, hs'⟩ := hs'
          have ch := s1.change (s' := s') hσ hG1 (ra.erase j) hs'
          rw [← eg] at ch
          obtain ⟨ex, s3⟩ := ch
          refine ⟨a, vs1, k, j, w, rfl, by rw [rp_int r1], hH1, hk.1, hk.2, by rw [ln]; exact ixN_ix hj, hw, ?_⟩
          refine post w _ G1 (e1.trans ex) s3 ?_
          show Rp X.K _ w q.1
          rw [← e5]
          exact rw2.mono ex.same
        · cases hpop
      | none => cases hpop
      | bool _ => cases hpop
      | str _ => cases hpop
      | list _ => cases hpop
      | tuple _ => cases hpop
      | dict _ => cases hpop
    · cases h1
  · cases hr

/-! ### if, while, for -/
theorem sndS_ite {c : Expr} {a b : List Stmt} {fc : Sg → R Val} {fa fb : Sg → RS} (hc : SndT X exs c (tr fc)) (ha : SndSs X exs a fa) (hb : SndSs X exs b fb) :
    SndS X exs (.If c a b pos) fun g => sbnd (fc g) fun x g => match truth x.toD with
      | some true => fa g
      | some false => fb g
      | none => none := fun g r hr σ H G Dn W sr post => by
  refine ws_of (ps_if wt_max wss_max wss_max) ?_
  have hr2 : sbnd (tr fc g) (fun k g => if k = true then fa g else fb g) = some r := by
    simp only [tr, bnd, sbnd] at hr ⊢
    revert hr
    rcases fc g with _ | ⟨x | x, g1⟩
    · exact fun h => h
    · dsimp only
      intro h
      cases ht : truth x.toD with
      | none =>
        rw [ht] at h
        cases h
      | some k =>
        rw [ht] at h
        cases k <;> exact h
    · exact fun h => h
  refine hc.useS hr2 sr post fun k g1 h1 H1 G1 e1 s1 => ?_
  cases k with
  | true =>
    rw [if_pos rfl] at h1 ⊢
    exact ha g1 r h1 σ H1 G1 Dn W s1 (post.next e1)
  | false =>
    rw [if_neg Bool.false_ne_true] at h1 ⊢
    exact hb g1 r h1 σ H1 G1 Dn W s1 (post.next e1)
theorem sndS_whl {c : Expr} {b : List Stmt} {fc : Sg → R Val} {fb : Sg → RS} (fuel : Nat) (po : PassesOwn (model X.prog X.w) X.A X.env X.xe) (hc : SndT X exs c (tr fc)) (hb : SndSs X exs b fb) :
    SndS X exs (.While c b [] pos) fun g => whlGo (tr fc) (fun g => fb g) fuel g := fun g r hr σ H G Dn W sr post => by
  refine ws_of (ps_while po wt_max wss_max) ?_
  refine ⟨fun n σ H => ∃ G' g', Ext G' H G' H ∧ SR X.K exs G' H g' σ ∧ whlGo (tr fc) fb n g' = some r ∧ Ps X exs G' H Dn W r, ⟨fuel, G, g, .refl _ _, sr, hr, post⟩, ?_⟩
  rintro n σ H ⟨G, g, _, sr, hr, post⟩
  cases n with
  | zero => cases hr
  | succ n =>
    unfold whlGo at hr
    refine hc.useS hr sr post fun k g1 h1 H1 G1 e1 s1 => ?_
    have post1 := post.next e1
    cases k with
    | false =>
      rw [if_neg Bool.false_ne_true] at h1 ⊢
      cases h1
      exact post1 σ H1 G1 (.refl _ _) s1
    | true =>
      rw [if_pos rfl] at h1 ⊢
      refine ⟨fun σ' H' => ∃ G' g', Ext G' H' G' H' ∧ SR X.K exs G' H' g' σ' ∧ whlGo (tr fc) fb n g' = some r ∧ Ps X exs G' H' Dn W r, fun σ' H' h => ⟨n, Nat.lt_succ_self n, h⟩, ?_⟩
      cases hq : fb g1 with
      | none =>
        rw [hq] at h1
        cases h1
      | some z =>
        obtain ⟨fl, g2⟩ := z
        rw [hq] at h1
        refine hb g1 _ hq σ H1 G1 _ W s1 ?_
        cases fl with
        | nx => exact fun σ' H' G' e s => ⟨G', g2, .refl _ _, s, h1, post1.next e⟩
        | ct => exact fun σ' H' G' e s => ⟨G', g2, .refl _ _, s, h1, post1.next e⟩
        | bk =>
          cases h1
          exact post1
        | rt x =>
          cases h1
          exact post1
        | ex x =>
          cases h1
          exact post1
theorem sndS_for {t : Tg} {tg iter : Expr} {b : List Stmt} {fs : Sg → R (List D)} {fb : Sg → RS} (po : PassesOwn (model X.prog X.w) X.A X.env X.xe) (hc : X.calm = true) (hg : PG X tg (tgRd X.K t)) (hs : ∀ x, foldedSetIterable iter X.env x = pure x)
    (hi : SndI X exs tg iter fs) (hb : SndSs X exs b fb) : SndS X exs (.For tg iter b [] pos) fun g => sbnd (fs g) fun xs g => forGo t (fun g => fb g) xs g := fun g r hr σ H G Dn W sr post => by
  refine ws_of (ps_for po hc wi_max hg wss_max hs) ?_
  refine hi.useS hr sr post fun xs g1 h1 J H1 G1 e1 s1 it => ?_
  refine ⟨fun i m σ H => m = xs.length - i ∧ i ≤ xs.length ∧ ∃ G g, Same (Bh G1 H1) (Bh G H) ∧ SR X.K exs G H g σ ∧ forGo t fb (xs.drop i) g = some r ∧ Ps X exs G H Dn W r,
    ⟨xs.length, rfl, Nat.zero_le _, G1, g1, (fun _ _ h => h), s1, by rw [List.drop_zero]; exact h1, post.next e1⟩, ?_⟩
  rintro i m σ H ⟨rfl, hle, G, g, sm, sr, hgo, post⟩
  have it := it i G H sm sr.tag
  by_cases hlt : i < xs.length
  · right
    obtain ⟨go, yl⟩ := it.1 _ (List.getElem?_eq_getElem hlt)
    refine ⟨go, fun σ' H' => ∃ G g, Same (Bh G1 H1) (Bh G H') ∧ SR X.K exs G H' g σ' ∧ forGo t fb (xs.drop (i + 1)) g = some r ∧ Ps X exs G H' Dn W r, fun σ' H' h => ⟨xs.length - (i + 1), by omega, rfl, hlt, h⟩, fun x H' hy => ?_⟩
    obtain ⟨G', gr, rx⟩ := yl x H' hy
    rw [List.drop_eq_getElem_cons hlt] at hgo
    unfold forGo at hgo
    obtain ⟨ga, hga, hgo⟩ := Option.bind_eq_some_iff.mp hgo
    have s2 := sr.grow gr
    have post1 := post.next gr.toExt
    have sm1 := sm.trans gr.same
    refine @tg_imp X.K G' H' t _ _ _ _ _ (fun σ2 H2 q => ?_) (asg_ok t hga s2 rx)
    obtain ⟨e2, s3, _⟩ := q
    subst e2
    cases hq : fb ga with
    | none =>
      rw [hq] at hgo
      cases hgo
    | some z =>
      obtain ⟨fl, g2⟩ := z
      rw [hq] at hgo
      refine hb ga _ hq σ2 H2 G' _ W s3 ?_
      cases fl with
      | nx => exact fun σ' H' G'' e s => ⟨G'', g2, sm1.trans e.same, s, hgo, post1.next e⟩
      | ct => exact fun σ' H' G'' e s => ⟨G'', g2, sm1.trans e.same, s, hgo, post1.next e⟩
      | bk =>
        cases hgo
        exact post1
      | rt x =>
        cases hgo
        exact post1
      | ex x =>
        cases hgo
        exact post1
  · left
    have ei : i = xs.length := by omega
    refine ⟨it.2 (by omega), ?_⟩
    rw [ei, List.drop_length] at hgo
    cases hgo
    exact post σ H G (.refl _ _) sr
end
end Z

/-! ZR: what is told of a held exception; ranges with a step; a new list handed to a def; raise. -/
namespace Z
open PySem PySem.Spec PyProof.Rows L2

section
variable {X : Cx} {exs : EX} {E : CE} {pos : Pos}
/-- the object of a held exception stands in every state of ours -/
theorem held_at {pins : List (Addr × Obj)} {s : Shared} {σ : L2.St} {H : Hp} {a D : Addr} {oe : Obj} {d : Option Addr} (I : Inv X pins σ H s) (hp : (a, oe) ∈ X.pn) (hz : Zc (.ref D) d oe) (hf : ∃ vs, oe.data = .fields vs) (hd : ∀ dd, d = some dd → ∃ fs, H dd = some (.xd fs)) :
    ∃ od, PySem.W.InstAt s.heap a oe D od ∧ ∀ dd fs, d = some dd → H dd = some (.xd fs) → ∃ (mA : Str → Option Value) (o : Obj), od = some o ∧ s.heap.get? dd = some o ∧ (∀ f, PySem.W.lookIn f o = some (mA f)) ∧ ∀ f, RelO (fs.lookup f) (mA f) := by
  obtain ⟨hg, _⟩ := I.pin (a, oe) (List.mem_append_left _ hp)
  obtain ⟨vs, hv⟩ := hf
  have nc : PySem.W.notCls oe = true := by
    unfold PySem.W.notCls
    rw [hv]
  cases d with
  | none => exact ⟨none, ⟨hg, hz.1, nc, by rw [hz.2]; trivial⟩, fun dd fs z => nomatch z⟩
  | some dd =>
    obtain ⟨fs, hx⟩ := hd dd rfl
    have ok : ObjOk X.prog X.w H s.heap dd (.xd fs) := I.hok dd _ hx
    obtain ⟨mA, hns, hr⟩ := ok
    obtain ⟨o, ho, hl⟩ := lookIn_ns hns
    refine ⟨some o, ⟨hg, hz.1, nc, by rw [hz.2]; exact ho⟩, fun dd2 fs2 z h2 => ?_⟩
    cases z
    rw [hx] at h2
    cases h2
    exact ⟨mA, o, rfl, ho, hl, hr⟩
theorem cr_isP {a D : Addr} {oe : Obj} {d : Option Addr} (C : ExcC X.K D) (hcl : (PySem.W.clsIn X.K D).isSome = true) (hz : Zc (.ref D) d oe) (hf : ∃ vs, oe.data = .fields vs) (hp : (a, oe) ∈ X.pn) :
    CallR X (.builtin "isinstance") (fun xs H Q => ∃ (c : V) (cv : Value) (b : Bool), xs = [.ref a, c] ∧ (∀ u, RelV c u → u = cv) ∧ PySem.W.kitOne X.K (.ref D) cv = some b ∧ (∀ dd, d = some dd → ∃ fs, H dd = some (.xd fs)) ∧ Q (.bl b) H) := by
  intro pins s σ H xs us Q I r ⟨c, cv, b, e, hc, hk, hd, q⟩
  subst e
  obtain ⟨od, J, _⟩ := held_at I hp hz hf hd
  cases r with
  | cons r1 r2 =>
    cases r2 with
    | cons r2 r3 =>
      cases r3
      cases r1
      obtain rfl := hc _ r2
      exact PySem.W.kia_one (PySem.W.kitx_exc hcl C.hg C.hk C.hs C.ha C.hn C.ht C.hm) I.kIn J hk (fun z => nomatch z) fun tk => ⟨.bl b, H, I.kept (t' := tk) fun _ _ z => z, rfl, q⟩
theorem kit_of {K : PySem.W.Frag} {C D : Addr} {b : Bool} (hc : (PySem.W.clsIn K D).isSome = true) (ht : PySem.W.typeIn K (.ref D) = some (.type "type")) (hs : PySem.W.subIn K (.ref C) (.ref D) = some b) (he : C = D → b = true) : PySem.W.kitOne K (.ref C) (.ref D) = some b := by
  unfold PySem.W.kitOne PySem.W.kitCls
  by_cases e : (Value.ref C == Value.ref D) = true
  · rw [if_pos e, he (Value.ref.inj (beq_iff_eq.mp e))]
  · rw [if_neg e]
    dsimp only
    rw [hc, ht, if_pos (by decide)]
    exact hs
theorem XdOk.at {B H : Hp} {d : Option Addr} {x : Exc} (e : Same B H) (h : XdOk B d x) : ∀ dd, d = some dd → ∃ fs, H dd = some (.xd fs) := by
  rcases h with ⟨_, rfl⟩ | ⟨dd, i, j, _, rfl, h⟩
  · exact fun _ z => nomatch z
  · intro dd' z
    cases z
    exact ⟨_, e _ _ h⟩
/-- the facts of a held exception that a code may use -/
def HeldAt (X : Cx) (exs : EX) : Prop := ∀ a d x, exs.hx = some (a, d, x) → ∃ oe, (a, oe) ∈ X.pn ∧ Held exs (a, oe) d x
theorem snd_isx {i k : Nat} {x c : Str} {p p1 p2 : Pos} {t : Bool} (hN : X.N[i]? = some x) (hv : Vis X.env.scope x) (hd : (x == ("__debug__" : Str)) = false) (hcd : (x == ("__classdict__" : Str)) = false) (hg : Gl X "isinstance") (hm : X.mg "isinstance" = none)
    (hgc : Gl X c) (hdc : (c == ("__debug__" : Str)) = false) (xs : ExcsOk X.K X.mg E.excs exs.cl) (hk : E.excs k = some ⟨c, t⟩) (hx : HeldAt X exs) :
    Snd X exs (.Call (.Name "isinstance" p) [.Name x p1, .Name c p2] [] pos) fun g => match g[i]? with
      | some (.xc x) => ret (.v (.bool (isK x k))) g
      | _ => none := fun g r hr σ H G Q W sr post => by
  dsimp only at hr
  split at hr
  · rename_i ex he
    rw [ret_some hr] at post
    obtain ⟨y, hy, a, d, rfl, hh, xd⟩ := sr.at he
    obtain ⟨oe, hp, D, hD, hz, hf⟩ := hx a d ex hh
    obtain ⟨C, hC, hmC, _, _⟩ := xs.at_ k _ hk
    obtain ⟨cD, tD, sD⟩ := xs.ec _ _ hD
    obtain ⟨cC, tC, sC⟩ := xs.ec _ _ hC
    have hsub := xs.is_ _ _ _ _ hD hC
    refine we_of (pe_callB (cr_isP cD sD hz hf hp) hg hm (by decide +kernel) (pa_cons (pe_var hN hv hd hcd) (pa_cons (pe_glob (v := .ref C) hgc hmC rfl hdc) pa_nil) rfl) (by decide +kernel) (by decide +kernel) rfl rfl) ?_
    refine ⟨_, hy, _, _, isK ex k, rfl, fun u hu => hu, kit_of sC tC (by rw [hsub]; rfl) (fun e => ?_), xd.at Bh.same, post _ H G (.refl _ _) sr (.bl _)⟩
    subst e
    have := xs.is_ _ _ _ _ hD hD
    rw [hsub] at this
    have e2 := Option.some.inj this
    show (ex.cls == k || k == 0) = true
    rw [e2, beq_self_eq_true]
    rfl
  · cases hr
theorem snd_isV {i : Nat} {x : Str} {p p1 p2 : Pos} (hN : X.N[i]? = some x) (hv : Vis X.env.scope x) (hd : (x == ("__debug__" : Str)) = false) (hcd : (x == ("__classdict__" : Str)) = false) (hg : Gl X "isinstance") (hm : X.mg "isinstance" = none)
    (hgc : Gl X "ValueError") (hmc : X.mg "ValueError" = none) (xs : ExcsOk X.K X.mg E.excs exs.cl) (hx : HeldAt X exs) :
    Snd X exs (.Call (.Name "isinstance" p) [.Name x p1, .Name "ValueError" p2] [] pos) fun g => match g[i]? with
      | some (.xc _) => ret (.v (.bool true)) g
      | _ => none := fun g r hr σ H G Q W sr post => by
  dsimp only at hr
  split at hr
  · rename_i ex he
    rw [ret_some hr] at post
    obtain ⟨y, hy, a, d, rfl, hh, xd⟩ := sr.at he
    obtain ⟨oe, hp, D, hD, hz, hf⟩ := hx a d ex hh
    obtain ⟨cD, tD, sD⟩ := xs.ec _ _ hD
    have hsub := xs.ve _ _ hD
    have hk : PySem.W.kitOne X.K (.ref D) (.type "ValueError") = some true := by
      unfold PySem.W.kitOne PySem.W.kitCls
      rw [if_neg (by intro z; exact nomatch (beq_iff_eq.mp z))]
      dsimp only
      rw [if_pos (by decide +kernel)]
      exact hsub
    refine we_of (pe_callB (cr_isP cD sD hz hf hp) hg hm (by decide +kernel) (pa_cons (pe_var hN hv hd hcd) (pa_cons (pe_bltn (v := .ty "ValueError") hgc hmc PyProof.Rows.Boot.«ValueError» rfl (by decide) (by decide)) pa_nil) rfl) (by decide +kernel) (by decide +kernel) rfl rfl) ?_
    exact ⟨_, hy, _, _, true, rfl, fun u hu => hu, hk, xd.at Bh.same, post _ H G (.refl _ _) sr (.bl _)⟩
  · cases hr
def fldN : Nat → Str
  | 0 => "amount"
  | _ => "limit"
theorem snd_fld {i j : Nat} {x : Str} {p1 : Pos} (hN : X.N[i]? = some x) (hv : Vis X.env.scope x) (hd : (x == ("__debug__" : Str)) = false) (hcd : (x == ("__classdict__" : Str)) = false) (hj : j < 2) (xs : ExcsOk X.K X.mg E.excs exs.cl) (hx : HeldAt X exs)
    (two : ∀ k C, exs.cl k = some C → PySem.W.findIn X.K (.ref C) (fldN j) = some none) :
    Snd X exs (.Attribute (.Name x p1) (fldN j) pos) fun g => match g[i]? with
      | some (.xc x) => opt ((x.fs[j]?).map .v) g
      | _ => none := fun g r hr σ H G Q W sr post => by
  dsimp only at hr
  split at hr
  · rename_i ex he
    obtain ⟨z, hz1, rfl⟩ := opt_some hr
    obtain ⟨dd0, hdd0, rfl⟩ := Option.map_eq_some_iff.mp hz1
    obtain ⟨y, hy, a, d, rfl, hh, xd⟩ := sr.at he
    obtain ⟨oe, hp, D, hD, hz, hf⟩ := hx a d ex hh
    obtain ⟨cD, tD, sD⟩ := xs.ec _ _ hD
    rcases xd with ⟨e0, _⟩ | ⟨dd, fi, fj, efs, rfl, hB⟩
    · rw [e0] at hdd0
      cases hdd0
    · have hH : H dd = some (.xd [("limit", .int fj), ("amount", .int fi)]) := Bh.same _ _ hB
      obtain ⟨n, hn⟩ : ∃ n : Int, dd0 = .int n ∧ ([("limit", V.int fj), ("amount", V.int fi)] : List (Str × V)).lookup (fldN j) = some (.int n) := by
        rw [efs] at hdd0
        match j, hj with
        | 0, _ => exact ⟨fi, (Option.some.inj hdd0).symm, by rw [L2.lookup_put, if_neg (by decide), L2.lookup_put]; exact if_pos rfl⟩
        | 1, _ => exact ⟨fj, (Option.some.inj hdd0).symm, by rw [L2.lookup_put]; exact if_pos rfl⟩
      obtain ⟨rfl, hl⟩ := hn
      have pe : PE X (.Attribute (.Name x p1) (fldN j) pos) (fun σ H Q => σ[i]? = some (some (.ref a)) ∧ H dd = some (.xd [("limit", .int fj), ("amount", .int fi)]) ∧ Q (.int n) H) := by
        refine ⟨fun pins s σ H Q I ⟨h1, h2, h3⟩ => ?_⟩
        refine attr_of rfl (thn ((pe_var (pos := p1) hN hv hd hcd).run pins s σ H (fun v H' => v = .ref a ∧ H' = H) I ⟨_, h1, rfl, rfl⟩) fun u s1 ⟨v, H1, I1, r1, e1, e2⟩ => ?_)
        subst e1 e2
        cases r1
        obtain ⟨od, J, fs_⟩ := held_at I1 hp hz hf (fun dd' z => by cases z; exact ⟨_, h2⟩)
        obtain ⟨mA, o, rfl, ho, hlk, hrel⟩ := fs_ dd _ rfl h2
        have hr := hrel (fldN j)
        rw [hl] at hr
        obtain ⟨u, hu, ru⟩ := RelO.some_of hr
        exact HandSPX.exc_get I1.kIn J cD.hg cD.hk cD.hs (PySem.W.findObj_own cD.hd (two _ _ hD) rfl (by rw [hlk, hu])) (handed_of ru) ⟨_, H1, I1.tok _, ru, h3⟩
      exact we_of pe ⟨hy, hH, post _ H G (.refl _ _) sr (.int _)⟩
  · cases hr

/-! ### range(a, b, c) -/
theorem rngC_length (lo c : Int) (n : Nat) : (rngC lo c n).length = n := by
  unfold rngC
  rw [List.length_map, List.length_range]
theorem it_rngC {K : PySem.W.Frag} {B : Hp} {lo c : Int} {n : Nat} : ItOk K B (Itc lo c n) (rngC lo c n) := fun i G H s t => by
  refine ⟨fun d e => ?_, fun hl => by rw [rngC_length] at hl; exact Nat.le_of_eq hl⟩
  unfold rngC at e
  rw [List.getElem?_map] at e
  obtain ⟨k, hk, rfl⟩ := Option.map_eq_some_iff.mp e
  have hl := get_lt hk
  rw [List.length_range] at hl
  rw [List.getElem?_range hl] at hk
  cases hk
  refine ⟨hl, fun x H' y => ?_⟩
  obtain ⟨rfl, rfl⟩ := y
  exact ⟨G, Grow.refl t, .int _⟩
theorem rgC_of {i j c : Int} (hi : rngOk i = true) (hj : rngOk j = true) (hc : stepOk c = true) : RgC i j c (rngN i j c) := by
  unfold rngOk at hi hj
  unfold stepOk at hc
  simp only [Bool.and_eq_true, decide_eq_true_eq] at hi hj hc
  have q0 : i < j → 0 ≤ (j - i - 1) / c := fun h => Int.ediv_nonneg (by omega) (by omega)
  have q1 : i < j → (j - i - 1) / c * c ≤ j - i - 1 := fun h => Int.ediv_mul_le _ (by omega)
  have q2 : i < j → (j - i - 1) / c ≤ j - i - 1 := fun h => Int.ediv_le_self _ (by omega)
  have hsz : Builtin.Range.rangeSize i j c = if i < j then (j - i - 1) / c + 1 else 0 := if_pos (by omega)
  refine ⟨by omega, by omega, ?_, ?_⟩
  · unfold Builtin.Range.small
    rw [hsz]
    simp only [Builtin.Range.rangeFitsLong, Bool.and_eq_true, Bool.or_eq_true, decide_eq_true_eq, beq_iff_eq]
    by_cases h : i < j
    · have := q0 h
      have := q1 h
      have := q2 h
      have e : ((j - i - 1) / c + 1) * c = (j - i - 1) / c * c + c := by rw [Int.add_mul, Int.one_mul]
      have n0 : 0 ≤ (j - i - 1) / c * c := Int.mul_nonneg (q0 h) (by omega)
      simp only [if_pos h]
      refine ⟨⟨⟨⟨by omega, by omega⟩, by omega⟩, by omega⟩, .inr ?_⟩
      rw [if_pos (by omega : c > 0)]
      simp only [Bool.and_eq_true, decide_eq_true_eq]
      omega
    · simp only [if_neg h]
      exact ⟨⟨⟨⟨by omega, by omega⟩, by omega⟩, by omega⟩, .inl trivial⟩
  · rw [hsz]
    unfold rngN
    by_cases h : i < j
    · rw [if_pos h, if_pos h]
      have := q0 h
      omega
    · rw [if_neg h, if_neg h]
      rfl
variable {e e2 e3 tg : Expr} {f f2 f3 : Sg → R Val}
theorem sndI_rng3 {p : Pos} (hg : Gl X "range") (hm : X.mg "range" = none) (hn : notStar e = true) (hn2 : notStar e2 = true) (hn3 : notStar e3 = true) (ha : Snd X exs e f) (hb : Snd X exs e2 f2) (hc : Snd X exs e3 f3) :
    SndI X exs tg (.Call (.Name "range" p) [e, e2, e3] [] pos) fun g => bnd (f g) fun x g => bnd (f2 g) fun y g => bnd (f3 g) fun z g => match x, y, z with
      | .v (.int i), .v (.int j), .v (.int c) => if rngOk i && rngOk j && stepOk c then ret (rngC i c (rngN i j c)) g else none
      | _, _, _ => none := fun g r hr σ H G Q W sr post => by
  have st3 : starEach [e3] X.env = [(false, eval e3 X.env)] := star_of hn3
  have st2 : starEach [e2, e3] X.env = [(false, eval e2 X.env), (false, eval e3 X.env)] := by rw [star_of hn2, st3]
  have st : starEach [e, e2, e3] X.env = [(false, eval e X.env), (false, eval e2 X.env), (false, eval e3 X.env)] := by rw [star_of hn, st2]
  refine ⟨_, pi_range3 hg hm (pa_cons we_max (pa_cons we_max (pa_cons we_max pa_nil st3) (by rw [st2, st3])) (by rw [st, st2])) (by rw [st, st2]) (by rw [st2]; rfl), ?_⟩
  refine ha.useD hr sr post.ex fun x g1 h1 v H1 G1 e1 s1 r1 => ?_
  refine hb.useD h1 s1 (exNext post.ex e1) fun y g2 h2 w H2 G2 e2 s2 r2 => ?_
  refine hc.useD h2 s2 (exNext post.ex (e1.trans e2)) fun z g3 h3 u H3 G3 e3 s3 r3 => ?_
  split at h3
  · split at h3
    · rename_i hk
      rw [ret_some h3] at post
      simp only [Bool.and_eq_true] at hk
      exact ⟨_, _, _, _, by rw [rp_int r1, rp_int r2, rp_int r3], rgC_of hk.1.1 hk.1.2 hk.2, post _ H3 G3 (e1.trans (e2.trans e3)) s3 it_rngC⟩
    · cases h3
  · cases h3

/-! ### raise C("..") -/
theorem sndS_raise {k : Nat} {c m : Str} {j : Nat} {p p2 p3 : Pos} (hc : X.calm = true) (hgc : Gl X c) (hdc : (c == ("__debug__" : Str)) = false) (xs : ExcsOk X.K X.mg E.excs exs.cl) (hk : E.excs k = some ⟨c, false⟩) (h0 : k ≠ 0) :
    SndS X exs (.Raise (some (.Call (.Name c p) [.Constant (.str m) j p2] [] p3)) none pos) fun g => some (.ex ⟨k, []⟩, g) := fun g r hr σ H G Dn W sr post => by
  cases hr
  obtain ⟨C, hC, hmC, kC, xC⟩ := xs.at_ k _ hk
  obtain ⟨cC, tC, sC⟩ := xs.ec _ _ hC
  exact ws_of (ps_raise hc post.1 (L2.pmk_own PySem.F.excBase_ValueError (xC h0 rfl) hmC kC (raises_own cC.hs tC) hgc hdc)) (post.2 (.ref C) none σ H G (.refl _ _) sr ⟨C, hC, rfl, .inl ⟨rfl, rfl⟩⟩)

/-! ### f(a new list, k) -/
theorem callF_post {Γ : Call} {fno : Nat} {σ : L2.St} {G : Gh} {H : Hp} {Q : VK} {W : WX} {g : Sg} {c : M} {a : Addr} {k : Int} {r : Out Val × Sg} (sr : SR X.K exs G H g σ) (fo : FOk X.K G H c a) (hc : ((Γ fno [.m c, .v (.int k)]).bind fun r => some (r.1, g)) = some r) (post : Pv X exs σ G H Q W r) :
    ∃ E, spF X.K exs 2 (Γ fno) [.ref a, .int k] H Q E ∧ ∀ (pins : List (Addr × Obj)) (s : Shared) (e : Value) (s' : Shared), Inv X pins σ H s → L2.CX X.prog X.w X.stack H s E e s' → X.xe e s' := by
  obtain ⟨⟨o, ms⟩, ho, hc⟩ := Option.bind_eq_some_iff.mp hc
  cases hc
  have ua : G a = .un := by cases c with | l ds => exact fo.1
  have ha : H a ≠ none := by
    cases c with
    | l ds =>
      obtain ⟨_, vs, h, _⟩ := fo
      rw [h]
      exact fun z => nomatch z
  have ca : callee [] G a = .un := callee_un.mpr ua
  have ne : ∀ b, callee [] G b ≠ .un → b ≠ a := fun b z w => z (w ▸ ca)
  have at_ : ∀ b, callee [] G b ≠ .un → tagAt (callee [] G) a (.sl 0) b = callee [] G b := fun b z => tagAt_ne (ne b z)
  have sm : Same (Bh G H) (Bh (tagAt (callee [] G) a (.sl 0)) H) := fun b u h => by
    unfold Bh at h ⊢
    by_cases q : G b = .st
    · rw [if_pos q] at h
      have q2 : callee [] G b = .st := callee_st.mpr q
      rw [at_ b (by rw [q2]; exact fun z => nomatch z), if_pos q2]
      exact h
    · rw [if_neg q] at h
      cases h
  have tb1 : ∀ b q, G b = .tb q → tagAt (callee [] G) a (.sl 0) b = .tb q := fun b q h => by
    have q2 : callee [] G b = .tb q := callee_tb.mpr h
    rw [at_ b (by rw [q2]; exact fun z => nomatch z)]
    exact q2
  have tg : Tagd (tagAt (callee [] G) a (.sl 0)) H := by
    refine sr.tag.keep sm (fun b h => ?_) (fun b q h => ?_) (fun b h => ?_) tb1 fun b h => ?_
    · by_cases e : b = a
      · rw [e]; exact ha
      · rw [tagAt_ne e] at h
        exact sr.tag.ne b fun z => h (callee_un.mpr z)
    · by_cases e : b = a
      · rw [e, tagAt_same] at h
        cases h
      · rw [tagAt_ne e] at h
        exact ⟨callee_tb.mp h, rfl⟩
    · by_cases e : b = a
      · rw [e, tagAt_same] at h
        cases h
      · rw [tagAt_ne e] at h
        exact .inl ⟨callee_st.mp h, rfl⟩
    · by_cases e : b = a
      · rw [e]
        cases c with
        | l ds =>
          obtain ⟨_, vs, h, _⟩ := fo
          exact ⟨vs, h⟩
      · rw [tagAt_ne e] at h
        exact sr.tag.ls b (callee_lsy.mp h)
  have ext : ∀ {G' H'}, Ext (tagAt (callee [] G) a (.sl 0)) H G' H' → Ext (callee [] G) H G' H' := fun {G' H'} e => by
    refine ⟨fun b h => ?_, fun b h => ?_, fun b h => ?_, fun b q h => ?_⟩
    · exact e.st b (by rw [at_ b (by rw [h]; exact fun z => nomatch z)]; exact h)
    · exact e.fr b (by rw [at_ b (by rw [h]; exact fun z => nomatch z)]; exact h)
    · have := e.nf b h
      by_cases w : b = a
      · rw [w, tagAt_same] at this
        cases this
      · rw [tagAt_ne w] at this
        exact this
    · exact e.tb b q (by rw [at_ b (by rw [h]; exact fun z => nomatch z)]; exact h)
  have ao : ArgsOk X.K (tagAt (callee [] G) a (.sl 0)) H 0 [.m c, .v (.int k)] [.ref a, .int k] := by
    refine ⟨⟨a, rfl, ?_⟩, .int k, trivial⟩
    cases c with
    | l ds =>
      obtain ⟨_, vs, h, r⟩ := fo
      exact ⟨tagAt_same, vs, h, r.mono sm⟩
  have tbs : ∀ p, p ∈ exs.tb → tagAt (callee [] G) a (.sl 0) p.1 = .tb p.2 := fun p hp => tb1 _ _ (sr.tbs p hp)
  have back : ∀ H' G', Ext (tagAt (callee [] G) a (.sl 0)) H G' H' → Tagd G' H' → SR X.K exs (caller G G') H' g σ := fun H' G' e t =>
    ⟨sr.len, fun j s q => slot_new (ext e) (.inl fun z => nomatch z) (sr.ok j s q), caller_tag (ext e) t, fun p hp => (caller_ext (ext e)).tb _ _ (sr.tbs p hp)⟩
  cases o with
  | ok x =>
    refine ⟨fun _ _ _ => False, ⟨_, _, .ok x, ms, rfl, tg, tbs, ao, ho, fun H' G' e t oo v hv => ?_⟩, fun pins s e s' I c => passL (X := X) pins σ H s e s' I c⟩
    exact post v H' _ (caller_ext (ext e)) (back H' G' e t) (caller_val (ext e) hv)
  | ex x =>
    obtain ⟨tk, q⟩ := post
    refine ⟨fun cls dd H' => W cls dd σ H', ⟨_, _, .ex x, ms, rfl, tg, tbs, ao, ho, fun H' G' e t oo cls dd hx => ?_⟩, fun pins s e s' I c => tk e s' (XE.of_call I (fun _ _ _ h => h) c)⟩
    obtain ⟨C, q1, q2, q3⟩ := hx
    exact q cls dd H' _ (caller_ext (ext e)) (back H' G' e t) ⟨C, q1, q2, q3.mono (caller_same (ext e))⟩
theorem snd_callF {Γ : Call} {fno : Nat} {i : FnI} {k : Int} {j : Nat} {p p2 : Pos} (F : FnAt X Γ exs fno i) (hl : i.ps.length = 2) (gd : X.A.guards = some []) (hg : Gl X i.name) (hd : (i.name == ("__debug__" : Str)) = false) (h1 : notStar e = true) (ha : Snd X exs e f) :
    Snd X exs (.Call (.Name i.name p) [e, .Constant (.int k) j p2] [] pos) fun g => bnd (f g) fun x g => match x with
      | .m c => (Γ fno [.m c, .v (.int k)]).bind fun r => some (r.1, g)
      | .v _ => none := fun g r hr σ H G Q W sr post => by
  obtain ⟨a, fd, n, hm, hk, hb, hrm, hf⟩ := F.ex
  rw [hl] at hf
  refine we_call hf hrm gd hb.1 hg hm hk hd h1 (by rfl) ?_
  refine wa_of (pa_cons we_max (pa_cons pe_int pa_nil rfl) (star_of h1)) ?_
  refine ha.use hr sr post.ex fun x g1 h1 v H1 G1 e1 s1 r1 => ?_
  cases x with
  | v d => cases h1
  | m c =>
    obtain ⟨b, rfl, fo⟩ := r1
    refine callF_post (W := W) s1 fo h1 ?_
    obtain ⟨o, g2⟩ := r
    cases o with
    | ok y => exact fun v H2 G2 e2 => post v H2 G2 (e1.trans e2)
    | ex y => exact PX.next post e1
end
end Z

set_option maxHeartbeats 1000000
/-! ZQ: a lambda, handed to a def that tells what it answers or raises. -/
namespace Z
open PySem PySem.Spec PyProof.Rows L2

/-! ### the lambda's making, as our tags see it -/
theorem lam_grow {G : Gh} {H : Hp} (t : Tagd G H) : ∃ T : List (Addr × Str), LamX.Tabs T H ∧ (∀ a q, G a = .tb q → (a, q) ∈ T) ∧ (∀ p, p ∈ T → G p.1 = .tb p.2) ∧ ∀ H1, LamX.ExtN H H1 → LamX.Tabs T H1 → ∃ G1, Grow G H G1 H1 := by
  classical
  obtain ⟨T0, hT0⟩ := t.fin
  have mem : ∀ a q, G a = .tb q → (a, q) ∈ T0.filter fun p => decide (G p.1 = .tb p.2) := fun a q h => List.mem_filter.mpr ⟨hT0 a q h, decide_eq_true h⟩
  have tag : ∀ p, p ∈ (T0.filter fun p => decide (G p.1 = .tb p.2)) → G p.1 = .tb p.2 := fun p hp => of_decide_eq_true (List.mem_filter.mp hp).2
  refine ⟨T0.filter fun p => decide (G p.1 = .tb p.2), fun p hp => ?_, mem, tag, fun H1 eN T1 => ?_⟩
  · obtain ⟨ps, h1, h2, h3⟩ := t.tb p.1 p.2 (tag p hp)
    exact ⟨ps, h1, h2, fun pos cv hc => by
      obtain ⟨c, e1, e2⟩ := h3 pos cv hc
      exact ⟨c, e1, Bh.same _ _ e2⟩⟩
  · let G1 : Gh := fun a => if G a = .un then (if ∃ q, H1 a = some (LamX.CodeO a q) then .st else .un) else G a
    have old : ∀ a, G a ≠ .un → G1 a = G a := fun a h => if_neg h
    have new : ∀ a, G a = .un → G1 a = .st ∧ (∃ q, H1 a = some (LamX.CodeO a q)) ∨ G1 a = .un := fun a h => by
      show ((if G a = .un then (if ∃ q, H1 a = some (LamX.CodeO a q) then Tag.st else .un) else G a) = .st ∧ _) ∨ (if G a = .un then (if ∃ q, H1 a = some (LamX.CodeO a q) then Tag.st else .un) else G a) = .un
      rw [if_pos h]
      by_cases q : ∃ q, H1 a = some (LamX.CodeO a q)
      · exact .inl ⟨if_pos q, q⟩
      · exact .inr (if_neg q)
    have kst : ∀ a, G a = .st → H1 a = H a := fun a h => by
      cases e : H a with
      | none => exact absurd e (t.ne a (by rw [h]; exact fun z => nomatch z))
      | some o => exact eN a o e fun ps z => t.ns a ps h (by rw [e, z])
    have kls : ∀ a, lsy (G a) → H1 a = H a := fun a h => by
      obtain ⟨vs, e⟩ := t.ls a h
      rw [e]
      exact eN a _ e fun ps z => by cases z
    have x : Ext G H G1 H1 := by
      refine ⟨fun a h => ⟨?_, kst a h⟩, fun a h => ⟨?_, kls a (.inl h)⟩, fun a h => ?_, fun a q h => ?_⟩
      · rw [old a (by rw [h]; exact fun z => nomatch z)]; exact h
      · rw [old a (by rw [h]; exact fun z => nomatch z)]; exact h
      · by_cases u : G a = .un
        · rcases new a u with ⟨z, _⟩ | z <;> rw [z] at h <;> cases h
        · rw [old a u] at h; exact h
      · rw [old a (by rw [h]; exact fun z => nomatch z)]; exact h
    refine ⟨G1, x, fun a i h => ⟨?_, kls a (.inr ⟨i, h⟩)⟩, ?_⟩
    · rw [old a (by rw [h]; exact fun z => nomatch z)]; exact h
    · refine ⟨fun a h => ?_, fun a h => ?_, fun a q h => ?_, fun a ps h z => ?_, ?_⟩
      · have g : lsy (G a) := by
          by_cases u : G a = .un
          · rcases new a u with ⟨z, _⟩ | z
            · rw [z] at h; exact absurd rfl h.st
            · rw [z] at h; exact absurd rfl h.un
          · rw [old a u] at h; exact h
        obtain ⟨vs, e⟩ := t.ls a g
        exact ⟨vs, (kls a g).trans e⟩
      · by_cases u : G a = .un
        · rcases new a u with ⟨_, q, z⟩ | z
          · rw [z]; exact fun w => nomatch w
          · exact absurd z h
        · cases e : G a with
          | un => exact absurd e u
          | st => rw [kst a e]; exact t.ne a u
          | fr => rw [kls a (.inl e)]; exact t.ne a u
          | sl i => rw [kls a (.inr ⟨i, e⟩)]; exact t.ne a u
          | tb q =>
            obtain ⟨ps, h1, _⟩ := T1 _ (mem a q e)
            rw [h1]
            exact fun z => nomatch z
      · have g : G a = .tb q := by
          by_cases u : G a = .un
          · rcases new a u with ⟨z, _⟩ | z <;> rw [z] at h <;> cases h
          · rw [old a u] at h; exact h
        obtain ⟨ps, h1, h2, h3⟩ := T1 _ (mem a q g)
        refine ⟨ps, h1, h2, fun pos cv hc => ?_⟩
        obtain ⟨c, e1, e2⟩ := h3 pos cv hc
        refine ⟨c, e1, ?_⟩
        have gc : G1 c = .st := by
          by_cases u : G c = .un
          · rcases new c u with ⟨z, _⟩ | z
            · exact z
            · exfalso
              have : G1 c = .st := by
                show (if G c = .un then (if ∃ q, H1 c = some (LamX.CodeO c q) then Tag.st else .un) else G c) = .st
                rw [if_pos u]
                exact if_pos ⟨q, e2⟩
              rw [this] at z
              cases z
          · rw [old c u]
            cases e : G c with
            | un => exact absurd e u
            | st => rfl
            | fr =>
              obtain ⟨vs, y⟩ := t.ls c (.inl e)
              rw [kls c (.inl e), y] at e2
              have z := Option.some.inj e2
              unfold LamX.CodeO at z
              cases z
            | sl i =>
              obtain ⟨vs, y⟩ := t.ls c (.inr ⟨i, e⟩)
              rw [kls c (.inr ⟨i, e⟩), y] at e2
              have z := Option.some.inj e2
              unfold LamX.CodeO at z
              cases z
            | tb q2 =>
              obtain ⟨ps2, y, _⟩ := T1 _ (mem c q2 e)
              rw [y] at e2
              exact absurd (Option.some.inj e2).symm (LamX.codeO_ne ps2)
        unfold Bh
        rw [if_pos gc]
        exact e2
      · by_cases u : G a = .un
        · rcases new a u with ⟨_, q, y⟩ | y
          · rw [y] at z
            exact LamX.codeO_ne ps (Option.some.inj z)
          · rw [y] at h; cases h
        · rw [old a u] at h
          rw [kst a h] at z
          exact t.ns a ps h z
      · refine ⟨T0, fun a q h => ?_⟩
        by_cases u : G a = .un
        · rcases new a u with ⟨z, _⟩ | z <;> rw [z] at h <;> cases h
        · rw [old a u] at h
          exact hT0 a q h

/-! ### the lambda's call, from within the def that got it -/
abbrev noArgs : Arguments := ⟨[], [], none, [], [], none, []⟩
section
variable {X : Cx} {pins : List (Addr × Obj)} {σ : L2.St} {H : Hp} {s : Shared}
/-- the context of the def that got the lambda, at its entry -/
abbrev gotX (X : Cx) (Ng : List Str) (sn : Str) (sg : Scope) (ga : Addr) (cdg : Value) (s : Shared) (H : Hp) : Cx := cxOf C8.CX0 X.prog X.w X.K X.mg X.base Ng sn sg ga cdg X.A X.stack s H C8.E0
theorem said_act {Ng : List Str} {sn : Str} {sg : Scope} {ga f c' : Addr} {cdg pm ctv : Value} {body : Expr} {scope : Scope} {k : Nat} {a : Str} {pn : List (Addr × Obj)} {xe : Value → Shared → Prop} {W : WX} {E : XK} {tb : TE} {p1 p2 : Pos}
    (I : Inv X pins σ H s) (L : LamX.LamS X.env.scope scope) (gd : X.A.guards = some [])
    (ho : s.heap.get? f = some (PySem.W.kla_obj "<lambda>" (X.env.qual ++ "<lambda>") noArgs body scope (cloFrom X.env.cells scope.names []) pm c' ctv)) (nf : H f = none) (ns : f ∉ frs X.stack)
    (tk : Takes ((gotX X Ng sn sg ga cdg s H).tr pn xe) W) (hW : ∀ cls d σ' H', E cls d H' → W cls d σ' H') (room : Room (k + 1) (X.A.deeper (envOfC sn sg s.heap.objs.size ga cdg)))
    (hb : ∀ (A : Around) (outer : List Env) (s : Shared) (H : Hp), A.guards = some [] → Room k (A.deeper (LamX.lamEnv X scope s.heap.objs.size f c')) → PE (LamX.lamCx X A outer s H E scope f c') body tb)
    (hN : Ng[0]? = some a) (hv : Vis sg a) (hd : (a == ("__debug__" : Str)) = false) (hcd : (a == ("__classdict__" : Str)) = false) :
    PE ((gotX X Ng sn sg ga cdg s H).tr pn xe) (.Call (.Name a p1) [] [] p2) (fun σZ HZ Q => σZ[0]? = some (some (.ref f)) ∧ HZ c' = some (LamX.CodeO c' (X.env.qual ++ "<lambda>")) ∧ tb σ HZ Q) := by
  refine ⟨fun pz sz σz Hz Q Iz ⟨at0, cz, red⟩ => ?_⟩
  have ld := (pe_var (X := (gotX X Ng sn sg ga cdg s H).tr pn xe) (pos := p1) hN hv hd hcd).run pz sz σz Hz (fun v H' => v = .ref f ∧ H' = Hz) Iz ⟨.ref f, at0, rfl, rfl⟩
  refine wpAny_Call_Name_kw (thn ld fun u s1 ⟨v, H1, I1, r1, e1, e2⟩ => ?_)
  subst e1
  subst e2
  cases r1
  have fo : s1.heap.get? f = some (PySem.W.kla_obj "<lambda>" (X.env.qual ++ "<lambda>") noArgs body scope (cloFrom X.env.cells scope.names []) pm c' ctv) := I1.base.keep f _ ho nf ns fun z => absurd z (List.not_mem_nil)
  obtain ⟨⟨oc, vs, t, c1, c2, c3⟩, _, _⟩ := I1.hok c' _ cz
  refine PySem.W.callWith_F0 ⟨_, _, _, _, fo⟩ (wpAny_call ?_)
  have run : codeAny (model X.prog X.w) (X.A.deeper (envOfC sn sg s.heap.objs.size ga cdg)) (.call (.ref f) ⟨[], []⟩) (CR (L2.CX X.prog X.w) (envOfC sn sg s.heap.objs.size ga cdg :: X.stack) X.prog X.w H1 s1 Q E) s1 := by
    refine PySem.W.kla_callFunE room.depth fo rfl L.co L.gen rfl ⟨c', oc, vs, t, rfl, c1, c2, c3⟩ ?_
    show wpAny _ _ (pure [] : Sem (List (Str × Value))) _ _ _
    refine wpAny_pure (wpAny_newFunctionEnv (fun y hy => (L.own y hy).2) (fun y hy => absurd hy List.not_mem_nil) (fun h1 n1 b1 => ⟨I1.nolimit.fresh _ b1, ?_⟩) L.kind)
    have old : ∀ b o, s1.heap.get? b = some o → h1.get? b = some o := fun b o z => b1.extBut b o (Nat.ne_of_lt (Heap.lt_size z)) (Heap.get?_push_of_some _ z)
    have J := LamX.lam_start2 (A := X.A.deeper (envOfC sn sg s.heap.objs.size ga cdg)) (outer := envOfC sn sg s.heap.objs.size ga cdg :: X.stack) (E := E) (f := f) (c' := c') (tk := s1.toks + ([] : List (Str × Value)).length) I L I1.env0 room.hd I1.base n1 old
    refine PySem.W.kla_codeExpr (wpAny_mono ((hb (X.A.deeper (envOfC sn sg s.heap.objs.size ga cdg)) _ s1 H1 gd (room.deeper _)).run [] _ σ H1 Q J red) (fun v s2 ⟨w2, H2, J2, r2, q2⟩ => ?_) fun _ _ z => z)
    exact ⟨w2, H2, J2.os, J2.bare, J2.base, J2.hok, r2, q2⟩
  refine codeAny_mono run fun r s2 hq => ?_
  match r, hq with
  | .error e, hq => exact (passes_call tk hW) pz σz H1 s1 e s2 I1 hq
  | .ok (.ret u), hq => exact I1.after hq
  | .ok .next, hq => exact hq.elim
  | .ok .brk, hq => exact hq.elim
  | .ok .cont, hq => exact hq.elim
end

/-! ### the def that tells -/
theorem callee_tag {rs : List Ar} {G : Gh} {H : Hp} (t : Tagd G H) : Tagd (callee rs G) H :=
  t.keep (by rw [bh_callee]; exact fun _ _ z => z) (fun a h => t.ne a fun z => h (callee_un.mpr z)) (fun a q h => ⟨callee_tb.mp h, rfl⟩) (fun a h => .inl ⟨callee_st.mp h, rfl⟩) (fun a q h => callee_tb.mpr h) fun a h => t.ls a (callee_lsy.mp h)
section
variable {X : Cx} {exs : EX}
/-- what the lambda's body is to bring about -/
def tbL (X : Cx) (exs : EX) (fb : Sg → R Val) (Ech : XK) : TE := fun σ H Q => ∃ G g r, SR X.K exs G H g σ ∧ fb g = some r ∧
  match r with
  | (.ok v, g') => ∀ u H' G', Ext G H G' H' → SR X.K exs G' H' g' σ → ValOk X.K G' H' v u → Q u H'
  | (.ex x, g') => ∀ cls dd H' G', Ext G H G' H' → SR X.K exs G' H' g' σ → ExR exs x cls dd (Bh G' H') → Ech cls dd H'
theorem tbL_pe {fb : Sg → R Val} {Ech : XK} {A : Around} {outer : List Env} {s : Shared} {H : Hp} {scope : Scope} {f c' : Addr} {body : Expr} (h : Snd (LamX.lamCx X A outer s H Ech scope f c') exs body fb) : PE (LamX.lamCx X A outer s H Ech scope f c') body (tbL X exs fb Ech) := by
  refine ⟨fun pins s' σ H' Q I ⟨G, g, r, sr, e, k⟩ => ?_⟩
  refine h g r e σ H' G Q (fun cls d _ H => Ech cls d H) sr ?_ pins s' I
  obtain ⟨o, g'⟩ := r
  cases o with
  | ok v => exact fun u H2 G2 e2 s2 r2 => k u H2 G2 e2 s2 r2
  | ex x => exact ⟨takes_of rfl rfl rfl rfl, fun cls dd H2 G2 e2 s2 x2 => k cls dd H2 G2 e2 s2 x2⟩
/-- what stands behind a caught exception -/
def tellE (K : PySem.W.Frag) (exs : EX) (F : Exc → Option (Out Val × List (Option M))) (Q : VK) : XK := fun cls d H => ∃ x D G r ms, exs.cl x.cls = some D ∧ cls = .ref D ∧ Tagd G H ∧ (∀ q, q ∈ exs.tb → G q.1 = .tb q.2) ∧ XdOk (Bh G H) d x ∧ F x = some (.ok r, ms) ∧
  ∀ v H' G', Ext G H G' H' → Tagd G' H' → ValOk K G' H' r v → ∃ w, v = .str w ∧ ("! " : Str).length + w.length ≤ sizeLine ∧ Q (.str (("! " : Str) ++ w)) H'
theorem kind_pe {Su : Cx} {b : Addr} {oe : Obj} {kn e pk : Str} {gk : Addr} {fk : FuncData} {F : Exc → Option (Out Val × List (Option M))} {p p2 pos : Pos} (hp : (b, oe) ∈ Su.pn) (gd : Su.A.guards = some []) (room : L2H.RoomH 1 Su.A) (hg : Gl Su kn) (hd : (kn == ("__debug__" : Str)) = false)
    (hm : Su.mg kn = some (.ref gk)) (hk : PySem.W.keepIn Su.K (.ref gk) = true) (hb : L2.Binds Su.K fk [pk] []) (FX : FnX Su.prog Su.w Su.K Su.mg Su.base gk fk [pk] (spX Su.K exs F)) (hN : Su.N[1]? = some e) (hv : Vis Su.env.scope e) (hde : (e == ("__debug__" : Str)) = false) (hce : (e == ("__classdict__" : Str)) = false) :
    PE Su (.Call (.Name kn p) [.Name e p2] [] pos) (fun σ H Q => (1 < σ.length → σ[1]? = some (some (.ref b))) ∧ spX Su.K exs F (b, oe) [.ref b] H Q C8.E0) := by
  refine ⟨fun pz sz σ H Q I ⟨h1, h2⟩ => ?_⟩
  have l1 : 1 < σ.length := by
    rw [I.len]
    rcases Nat.lt_or_ge 1 Su.N.length with z | z
    · exact z
    · rw [List.getElem?_eq_none z] at hN
      cases hN
  have ar : PA Su [.Name e p2] (tCons (tVar 1) tNil) := pa_cons (pe_var hN hv hde hce) pa_nil
  refine wpAny_Call_Name_kw (ld_glob I hg hm (PySem.W.callWith_K (h₀ := Su.base) I.ok.mod.kin hk (thn (ar.run pos pz sz σ H (fun vs H' => vs = [.ref b] ∧ H' = H) I ⟨_, h1 l1, rfl, rfl⟩) fun us s1 ⟨vs, H1, I1, r1, e1, e2⟩ => ⟨I1.kIn, ?_⟩) rfl rfl) hd)
  subst e1 e2
  have hl : us.length = [pk].length := r1.length.symm
  have bt := hb s1 us I1.kIn (by rw [List.append_nil]; exact hl)
  rw [List.append_nil] at bt
  have P1 := I1.pin (b, oe) (List.mem_append_left _ hp)
  have pin : L2H.PinOk Su.stack H1 s1 (b, oe) := ⟨P1.1, P1.2.1, fun z => (List.mem_cons.mp (I1.stkSub b z)).elim P1.2.2.1 P1.2.2.2.1, P1.2.2.2.2⟩
  refine wpAny_call (codeAny_mono (FX.run Su.A Su.stack s1 H1 ⟨us, []⟩ us [.ref b] Q C8.E0 (b, oe) gd room pin I1.env0 bt r1 h2) fun r s2 hq => ?_)
  match r, hq with
  | .error _, hq => exact hq.elim
  | .ok (.ret u), hq => exact I1.after hq
  | .ok .next, hq => exact hq.elim
  | .ok .brk, hq => exact hq.elim
  | .ok .cont, hq => exact hq.elim
theorem snd_said {sn : Str} {F : Exc → Option (Out Val × List (Option M))} {fb : Sg → R Val} {k : Nat} {c P : Addr} {body : Expr} {scope : Scope} {p lpos pos : Pos} {ex : Nat → Option ExI} (S : SaidDef X.prog X.w X.K X.mg X.base exs sn F) (xs : ExcsOk X.K X.mg ex exs.cl) (gd : X.A.guards = some [])
    (TB : LamX.TabB X.base X.mg c P) (hcode : X.env.code = .ref c) (hP : (P, X.env.qual ++ "<lambda>") ∈ exs.tb) (room : Room (k + 2) X.A) (hg : Gl X sn) (hdb : (sn == ("__debug__" : Str)) = false) (L : LamX.LamS X.env.scope scope)
    (hb : ∀ (A : Around) (outer : List Env) (s : Shared) (H : Hp) (Ech : XK) (f c' : Addr), A.guards = some [] → Room k (A.deeper (LamX.lamEnv X scope s.heap.objs.size f c')) → Snd (LamX.lamCx X A outer s H Ech scope f c') exs body fb) :
    Snd X exs (.Call (.Name sn p) [.Lambda noArgs body scope lpos] [] pos) fun g => match fb g with
      | some (.ok x, g) => opt (b1D .repr x.toD) g
      | some (.ex x, g) => opt (tellR (F x)) g
      | none => none := by
  intro g r hr σ H G Q W sr post pins s I
  dsimp only at hr
  obtain ⟨kn, gk, fk, pk, ST, mK, kK, bK, FX⟩ := S.ex
  obtain ⟨ga, pg, bg, sg, dV, kV, doc, pm, cdv, ct, oc, an, od, osl, a, e, on, C, mS, kS, lkS, cS, bS, ScS, hB, vA, lE, lR, lO, lK, nO, mR, mO, cO⟩ := ST.ex
  simp only [Bool.and_eq_true] at nO
  obtain ⟨⟨⟨nA, nE⟩, nOn⟩, nKn⟩ := nO
  obtain ⟨T, hT, mem, tag, mk⟩ := lam_grow sr.tag
  have hu : ∀ q ∈ T, q.1 = P → q.2 = X.env.qual ++ "<lambda>" := fun q hq e => by
    have z := tag q hq
    rw [e, sr.tbs _ hP] at z
    exact (Tag.tb.inj z).symm
  refine wpAny_Call_Name_kw (ld_glob I hg mS ?_ hdb)
  refine PySem.W.callWith_K (h₀ := X.base) I.ok.mod.kin kS ?_ (by rfl) (by rfl)
  show wpAny _ _ (spliced ((false, eval (.Lambda noArgs body scope lpos) X.env) :: backTo pos (starEach [] X.env))) _ _ s
  refine Calls.spliced_cons (LamX.lam_make2 I TB hcode (mem _ _ (sr.tbs _ hP)) hu hT rfl (L.has I.ok) fun f c' pm' ctv H1 s1 I1 eN T1 ho nf ns hco => ?_)
  refine Calls.spliced_nil ⟨I1.kIn, ?_⟩
  obtain ⟨G1, gr⟩ := mk H1 eN T1
  have sr1 := sr.grow gr
  have run : codeAny (model X.prog X.w) X.A (.call (.ref ga) ⟨[.ref f], []⟩) (CR C8.CX0 X.stack X.prog X.w H1 s1 Q C8.E0) s1 := by
    refine LamX.run_ofS (N := [a, e]) (ps := [a]) (us := [.ref f]) (vs := [.ref f]) lkS cS ScS room I1.env0 (bS s1 [.ref f] I1.kIn rfl) (.cons rfl .nil) rfl fun room1 => ?_
    unfold saidB at hB
    split at hB
    · rename_i r0 p0 a2 p1 p2 p3 p4 on2 p5 e2 b0 j0 p6 kn2 p7 e3 p8 p9 p10 p11 p12 p13
      simp only [Bool.and_eq_true, decide_eq_true_eq] at hB
      obtain ⟨⟨⟨⟨⟨⟨rfl, rfl⟩, rfl⟩, rfl⟩, rfl⟩, rfl⟩, rfl⟩ := hB
      refine ⟨_, pss_one (ps_try_as (X := gotX X [a2, e3] sn sg ga cdv s1 H1) (i := 1) (c := .ref C)
        (tb := fun W D σz Hz => ∃ Ech : XK, (∀ cls d σ' H', Ech cls d H' → W cls d σ' H') ∧ σz[0]? = some (some (.ref f)) ∧ Hz c' = some (LamX.CodeO c' (X.env.qual ++ "<lambda>")) ∧ tbL X exs fb Ech σ Hz fun v H' => rB1 X.K .repr [v] H' D.rt)
        (ts := fun b cls d D σz Hz => (1 < σz.length → σz[1]? = some (some (.ref b))) ∧ tellE X.K exs F D.rt cls d Hz)
        rfl rfl ScS.nd rfl lE ⟨lO, (nmOk_ok nOn).1, .inl mO⟩ takes0 (fun W pn xe tk po => ?_) (fun b oe cls d pn hz hf => ?_)), ?_⟩
      · refine ⟨fun pz sz σz Hz D Iz ⟨Ech, hW, h1, h2, h3⟩ => ?_⟩
        have act := said_act (tb := tbL X exs fb Ech) (p1 := p1) (p2 := p2) I1 L gd ho nf ns tk hW room1 (fun A o s H ga ra => tbL_pe (hb A o s H Ech f c' ga ra)) rfl vA (nmOk_ok nA).1 (nmOk_ok nA).2
        have un1 := room1.un
        have rp := pss_one (ps_ret (pos := p4) (pe_callB (p := p0) (pos := p3) (cr_b1 (X := (gotX X [a2, e3] sn sg ga cdv s1 H1).tr pn xe) .repr (by intro z; cases z) gd (by show (X.A.deeper _).units + 64 < _; omega)) lR mR (boot_b1 .repr) (pa_cons act pa_nil)))
        exact rp.run pz sz σz Hz D Iz ⟨h1, h2, h3⟩
      · have rh : L2H.RoomH 1 ((X.A.deeper (envOfC sn sg s1.heap.objs.size ga cdv)).mark (some (.ref b))) := by
          have d1 := room1.dp
          have d2 := room1.un
          refine ⟨?_, ?_⟩
          · show (X.A.deeper (envOfC sn sg s1.heap.objs.size ga cdv)).depth + 3 * 1 + 5 < _
            omega
          · show (X.A.deeper (envOfC sn sg s1.heap.objs.size ga cdv)).units + 16 * 1 + 200 < _
            omega
        have cl := kind_pe (Su := (gotX X [a2, e3] sn sg ga cdv s1 H1).suite b ((b, oe) :: pn)) (p := p7) (p2 := p8) (pos := p9) List.mem_cons_self gd rh
          lK (nmOk_ok nKn).1 mK kK bK FX rfl (.inl lE) (nmOk_ok nE).1 (nmOk_ok nE).2
        have all := pss_one (ps_ret (pos := p11) (pe_op (pos := p10) op_add_str (pe_str (x := "! ") (j := j0) (pos := p6)) cl))
        refine ⟨fun pz sz σz Hz D Iz ⟨h1, x, D1, G2, r2, ms, q1, q2, q3, q4, q5, q6, q7⟩ => all.run pz sz σz Hz D Iz ⟨h1, G2, x, d, r2, ms, rfl, ⟨D1, q1, q2 ▸ hz, hf⟩, q3, q4, q5, q6, fun v H' G' e t rv => ?_⟩⟩
        obtain ⟨w, rfl, z1, z2⟩ := q7 v H' G' e t rv
        exact ⟨_, _, rfl, rfl, z1, z2⟩
      · refine ⟨tellE X.K exs F Q, fun cls d σ' H' ht => ?_, rfl, hco, ?_⟩
        · obtain ⟨x, D1, G2, r2, ms, q1, q2, q3⟩ := ht
          obtain ⟨cC, tC, sC⟩ := xs.ec _ _ cO
          have h4 := xs.is_ _ _ _ _ q1 cO
          refine ⟨true, ?_, fun _ b nb => ⟨fun hl => List.getElem?_set_self (by rw [List.length_set] at hl; exact hl), x, D1, G2, r2, ms, q1, q2, q3⟩, fun z => nomatch z⟩
          rw [q2]
          exact PySem.W.exm_ref cC.hs cC.hd tC (h4.trans (by cases x.cls == 0 <;> rfl))
        · cases hfb : fb g with
          | none => rw [hfb] at hr; cases hr
          | some rr =>
            obtain ⟨o, g3⟩ := rr
            rw [hfb] at hr
            refine ⟨G1, g, (o, g3), sr1, hfb, ?_⟩
            cases o with
            | ok x =>
              obtain ⟨z, hz, rfl⟩ := opt_some hr
              intro u H' G' e s' rv
              obtain ⟨G3, r3, w⟩ := rv.rp s'.tag
              exact ⟨u, G3, x.toD, z, rfl, w.tag, r3, hz, fun v H2 G4 gr4 rv4 => post v H2 G4 (gr.toExt.trans (e.trans (w.toExt.trans gr4.toExt))) ((s'.grow w).grow gr4) rv4⟩
            | ex x =>
              obtain ⟨z, hz, rfl⟩ := opt_some hr
              intro cls dd H' G' e s' xr
              obtain ⟨D1, hD1, rfl, xd⟩ := xr
              unfold tellR at hz
              split at hz
              · rename_i t ms hF
                split at hz
                · rename_i hl
                  cases hz
                  refine ⟨x, D1, callee [] G', .v (.str t), ms, hD1, rfl, callee_tag s'.tag, fun q hq => callee_tb.mpr (s'.tbs q hq), by rw [bh_callee]; exact xd, hF, fun v H2 G2 e2 t2 rv => ?_⟩
                  refine ⟨t, rp_str rv, by rw [show ("! " : Str).length = 2 from by decide]; omega, ?_⟩
                  exact post _ H2 (caller G' G2) (gr.toExt.trans (e.trans (caller_ext e2))) ⟨s'.len, fun j q hq => slot_new e2 (.inl fun z => nomatch z) (s'.ok j q hq), caller_tag e2 t2, fun q hq => (caller_ext e2).tb _ _ (s'.tbs q hq)⟩ (.str _)
                · cases hz
              · cases hz
    · cases hB
  refine wpAny_call (codeAny_mono run fun r2 s2 hq => ?_)
  match r2, hq with
  | .error _, hq => exact hq.elim
  | .ok (.ret u), hq => exact I1.after hq
  | .ok .next, hq => exact hq.elim
  | .ok .brk, hq => exact hq.elim
  | .ok .cont, hq => exact hq.elim
end
end Z

/-! ZP: exceptions with two fields: their own __init__, that says super().__init__(..). -/
namespace Z
open PySem PySem.Spec PyProof.Rows L2

/-- all but the object at a stays -/
def But (a : Addr) (h h' : Heap) : Prop := ∀ b o, b ≠ a → h.get? b = some o → h'.get? b = some o
theorem But.refl {a : Addr} {h : Heap} : But a h h := fun _ _ _ e => e
theorem But.of {a : Addr} {h h' : Heap} (k : ∀ b o, h.get? b = some o → h'.get? b = some o) : But a h h' := fun b o _ e => k b o e
theorem But.trans {a : Addr} {h h1 h2 : Heap} (x : But a h h1) (y : But a h1 h2) : But a h h2 := fun b o n e => y b o n (x b o n e)
theorem But.ns {a : Addr} {h h' : Heap} (x : But a h h') {b : Addr} {m : Str → Option Value} (n : b ≠ a) (hn : h.Ns b m) : h'.Ns b m := by
  obtain ⟨o, es, ep, e, r⟩ := hn
  exact ⟨o, es, ep, x b o n e, r⟩
theorem But.kin {a : Addr} {h h' : Heap} {K : PySem.W.Frag} (x : But a h h') (ka : K.lookup a = none) (X : K.In h) : K.In h' := fun b o e => x b o (fun z => by rw [z, ka] at e; cases e) (X b o e)
section
variable {prog : Program} {w : World} {K : PySem.W.Frag} {A : Around} {E : Value → Shared → Prop} {h : Heap} {g : Array GenState} {d : Drawn} {t : Nat} {os : OsState} {a C t0 u : Addr}
/-- super().__init__, called -/
theorem call_up {rest : List Value} {nm qn : Str} {N : Addr} {bs bm : List Value} {hdct : Bool} {sn : List Str} {sub : List Value} {ab : Bool} {col : Option Bool} {dd : Option Addr} {k0 k1 k2 k3 k5 : Option Value} {Q : Value → Shared → Prop}
    (hC : h.get? C = some (excClassObj nm qn C N bs bm hdct sn sub ab col dd k0 k1 k2 k3 k5 "ValueError.__new__")) (he : h.get? a = some (PySem.HandSPX.excO C t0)) (hu : h.get? u = some (PySem.W.kxs_mw "ValueError.__init__" a)) (hz : rest.length ≤ sizeLine)
    (hq : ∀ h' t1, But a h h' → h'.get? a = some (PySem.HandSPX.excO C t1) → Q .none ⟨h', g, d, t, os⟩) : wpAny (model prog w) A (call (.ref u) rest) Q E ⟨h, g, d, t, os⟩ := by
  refine wpAny_call (codeAny_of_tree ?_)
  show wpAny _ A.in1 (callAny (.ref u) ⟨rest, []⟩) _ _ _
  simp only [callAny]
  refine wpAny_bind (wpAny_load hu ?_)
  simp only [PySem.W.kxs_mw, show ((Value.type "method-wrapper" == Value.type "method" || Value.type "method-wrapper" == Value.type "builtin_function_or_method") || Value.type "method-wrapper" == Value.type "method-wrapper") = true by decide, if_true]
  refine PySem.W.KFB.if_so (by decide) ?_
  refine wpAny_bind (PySem.ESX.check_bound F.excBase_ValueError hC he rfl ?_)
  refine wpAny_bind (wpAny_pure (wpAny_pure ?_))
  refine ⟨Code.quiet_builtin _ (by decide +kernel), codeAny_builtin F.excBase_ValueError.initEntry ?_⟩
  refine PySem.W.exc_init_tree (cls := .ref C) (t0 := t0) (dv := none) (c2 := .none) (c3 := .none) (b4 := .bool false) he hz fun h' k e' _ => ?_
  exact hq h' _ k e'
/-- what stands around such an __init__'s body -/
structure Upon (prog : Program) (K : PySem.W.Frag) (mg : Str → Option Value) (h : Heap) (a C fI cc cda : Addr) (fd : FuncData) (ar : PySem.Arg) (env : Env) (mL : Str → Option Value) : Prop where
  kin : K.In h
  ka : K.lookup a = none
  gl : h.Ns mainGlobals mg
  gb : ∃ mb, h.Ns builtinsNs mb ∧ ∀ x : Str, x ≠ "__name__" → mb x = bootBuiltins x
  lo : h.Ns env.locals mL
  self : mL ar.arg = some (.ref a)
  fn : ∃ oc od osl, K.lookup fI = some ⟨oc, od, .func fd, osl⟩
  hd : (fd.params.posonlyargs ++ fd.params.args).head? = some ar
  code : ∃ o vs file tf, K.lookup cda = some o ∧ o.data = .fields vs ∧ vs[2]? = some (.str file tf) ∧ ((prog.main.file : Str) == file) = true
  cell : ∃ cl cld csl, K.lookup cc = some ⟨cl, cld, .cell (some (.ref C)), csl⟩
  sup : mg "super" = none
  top : (prog.main.scope.names.lookup ("super" : Str)).isSome = false
  kind : env.scope.kind = .function
  ks : env.kindOf "super" = some .globalImplicit
  kc : env.kindOf "__class__" = some .free
  kv : env.kindOf ar.arg = some .local
  glo : env.globals = mainGlobals
  bui : env.builtins = builtinsNs
  cel : env.cells = [(("__class__" : Str), cc)]
  fun_ : env.func = some fI
  cod : env.code = .ref cda
theorem Upon.next {mg : Str → Option Value} {h h' : Heap} {fI cc cda : Addr} {fd : FuncData} {ar : PySem.Arg} {env : Env} {mL : Str → Option Value} (x : Upon prog K mg h a C fI cc cda fd ar env mL) (k : But a h h') (ob : ∃ o, h.get? a = some o ∧ ∀ es ep, o.data ≠ .dict es ep) : Upon prog K mg h' a C fI cc cda fd ar env mL := by
  have ne : ∀ {b : Addr} {m : Str → Option Value}, h.Ns b m → b ≠ a := fun {b m} ⟨o, es, ep, e, e2, _⟩ z => by
    obtain ⟨o2, e3, e4⟩ := ob
    rw [z, e3] at e
    cases e
    exact e4 _ _ e2
  obtain ⟨mb, hb, hb2⟩ := x.gb
  exact { x with kin := k.kin x.ka x.kin, gl := k.ns (ne x.gl) x.gl, gb := ⟨mb, k.ns (ne hb) hb, hb2⟩, lo := k.ns (ne x.lo) x.lo }
theorem up_base {mg mL : Str → Option Value} {fI cc cda : Addr} {fd : FuncData} {ar : PySem.Arg} {env : Env} {body : List Stmt} {p0 p1 : Pos} {whole : Sem Value} {cd : ClassData} {Q : Value → Shared → Prop} (U : Upon prog K mg h a C fI cc cda fd ar env mL) (he : h.get? a = some (PySem.HandSPX.excO C t0))
    (hcl : PySem.W.clsIn K C = some cd) (hsub : PySem.W.mroIn K C (.ref C) = some true)
    (hq : ∀ h', h'.get? h.objs.size = some (PySem.W.ks_superObj C a C) → (∀ b o, h.get? b = some o → h'.get? b = some o) → Q (.ref h.objs.size) ⟨h', g, d, t, os⟩) :
    PySem.wpAt (model prog w) A (.func body env) (attributeBase (.Call (.Name "super" p0) [] [] p1) "__init__" env whole) Q E ⟨h, g, d, t, os⟩ := by
  have hD : ∃ oD, h.get? C = some oD ∧ oD.data = .cls cd := by
    unfold PySem.W.clsIn at hcl
    split at hcl
    · rename_i c d' cd' sl ho
      cases hcl
      exact ⟨_, U.kin _ _ ho, rfl⟩
    · cases hcl
  obtain ⟨oD, hD1, hD2⟩ := hD
  obtain ⟨oc, od, osl, hf⟩ := U.fn
  obtain ⟨oq, vs, file, tf, q1, q2, q3, q4⟩ := U.code
  obtain ⟨cl, cld, csl, c1⟩ := U.cell
  obtain ⟨mb, gb1, gb2⟩ := U.gb
  refine PySem.ks_wpAt_super_base (env := env) U.ks U.kc (by decide) U.fun_ (U.kin _ _ hf) rfl U.hd U.cod (U.kin _ _ q1) q2 q3 q4 U.top ?_
  refine PySem.W.ks_loadName_global U.kind U.ks (Calls.loadGlobal_builtin (by rw [U.glo]; exact U.gl) U.sup (by rw [U.bui]; exact gb1) ((gb2 _ (by decide +kernel)).trans (by decide +kernel : bootBuiltins "super" = some (.type "super"))) ⟨rfl, ?_⟩)
  refine wpAny_loadName_free U.kind U.kc (by rw [U.cel]; rfl) ⟨_, U.kin _ _ c1, rfl⟩ ?_
  refine wpAny_loadName_local U.kind U.kv U.lo U.self ?_
  refine PySem.ks_wpAny_isType_cls hD1 hD2 ⟨rfl, ?_⟩
  exact PySem.ks_wpAny_call_super hD1 hD2 he rfl (fun c e => nomatch e) (PySem.W.looks_mroIn U.kin hsub) fun h' e k => hq h' e k
theorem up_method {so : Addr} {cd : ClassData} {pl : Sem Bool} {Q : Value × List Value → Shared → Prop} (X : K.In h) (hso : h.get? so = some (PySem.W.ks_superObj C a C)) (he : h.get? a = some (PySem.HandSPX.excO C t0)) (hcl : PySem.W.clsIn K C = some cd)
    (hsu : PySem.W.ks_superIn K C C "__init__" = some (some (.builtin "ValueError.__init__"))) (hve : PySem.W.subIn K (.ref C) (.type "ValueError") = some true) (ho : PySem.W.nsIn K cStatics "thirdparty.any" = some none)
    (hq : Q (.ref h.objs.size, []) ⟨h.push (PySem.W.kxs_mw "ValueError.__init__" a), g, d, t + 1, os⟩) : wpAny (model prog w) A (getMethod (.ref so) "__init__" pl) Q E ⟨h, g, d, t, os⟩ := by
  have I : PySem.W.InstAt h a (PySem.HandSPX.excO C t0) C none := ⟨he, rfl, rfl, trivial⟩
  unfold PySem.W.ks_superIn at hsu
  rw [hcl] at hsu
  refine PySem.W.kxs_getMethod PySem.W.kxs_ValueError hso (PySem.W.looks_opaque X ho) (l₀ := cd.mro) ?_ rfl X hsu (I.type.andThen (PySem.W.looks_subIn X hve)) (PySem.W.ks_ne X I hcl) (by decide) hq
  exact fun A Q E s k q => wpAny_bind ((PySem.W.looks_clsIn X hcl) A _ E s k (wpAny_pure q))
theorem init_body {mg mL : Str → Option Value} {fI cc cda : Addr} {fd : FuncData} {ar : PySem.Arg} {env : Env} {body : List Stmt} {x1 x2 : Str} {v1 v2 : Value} {Q : Flow → Shared → Prop} (U : Upon prog K mg h a C fI cc cda fd ar env mL) (T : TwoK K C) (he : h.get? a = some (PySem.HandSPX.excO C t0))
    (hB : initB ar.arg x1 x2 body = true) (k1 : env.kindOf x1 = some .local) (k2 : env.kindOf x2 = some .local) (e1 : mL x1 = some v1) (e2 : mL x2 = some v2) (n0 : (ar.arg == ("__debug__" : Str)) = false) (n1 : (x1 == ("__debug__" : Str)) = false) (n2 : (x2 == ("__debug__" : Str)) = false) (hi : interactive env = false)
    (hq : ∀ h' tk' dx t2, But a h h' → a < dx → dx ≠ a → h'.get? a = some { cls := .ref C, dict := some dx, data := .fields #[.ref t2, .none, .none, .none, .bool false, .none] } → h'.Ns1 dx (fun y => if y = "limit" then some v2 else if y = "amount" then some v1 else none) → Q .next ⟨h', g, d, tk', os⟩) :
    PySem.wpAt (model prog w) A (.func body env) (execs body env) Q E ⟨h, g, d, t, os⟩ := by
  obtain ⟨nm, qn, N, bs, bm, sn, sub, ab, col, dd, k0, q1, q2, q3, q5, hC, hbm⟩ := T.oex.cls
  have hcl : PySem.W.clsIn K C = some { name := nm, bases := bs, mro := .ref C :: bm, ns := N, qualname := qn, hasDict := true, slotNames := sn, subclasses := sub, abstract := ab, collection := col, hasDel := false } := by
    unfold PySem.W.clsIn
    rw [hC]
  have nodict : ∀ {hh : Heap} {t1 : Addr}, hh.get? a = some (PySem.HandSPX.excO C t1) → ∃ o, hh.get? a = some o ∧ ∀ es ep, o.data ≠ .dict es ep := fun z => ⟨_, z, fun _ _ y => nomatch y⟩
  unfold initB at hB
  split at hB
  · rename_i su ps pc m ap cs j pj cp pe s1 p1 f1 p2 y1 p3 p4 s2 p5 f2 p6 y2 p7 p8
    simp only [Bool.and_eq_true, decide_eq_true_eq] at hB
    obtain ⟨⟨⟨⟨⟨⟨⟨⟨rfl, rfl⟩, hl⟩, rfl⟩, rfl⟩, rfl⟩, rfl⟩, rfl⟩, rfl⟩ := hB
    refine PySem.ks_wpAt_execs_cons (PySem.ks_wpAt_Expr_any ?_ hi rfl)
    refine PySem.ks_wpAt_MethodCall (pl := plainOf (.Call (.Name "super" ps) [] [] pc) env) ?_ (by
      show (do
        let ov ← attributeBase (.Call (.Name "super" ps) [] [] pc) "__init__" env (eval (.Call (.Name "super" ps) [] [] pc) env)
        standAt ap.atName
        methodCall (.Call (.Name "super" ps) [] [] pc) "__init__" ap cp env ov 1 (backTo cp (starEach [.Constant (.str cs) j pj] env)) []) = _
      simp only [mcall_line (o := .Call (.Name "super" ps) [] [] pc) (m := "__init__") (n := 1) (kws := []) (show methodCallForm 1 (backTo cp (starEach [.Constant (.str cs) j pj] env)) [] = true from rfl) hl])
    refine up_base U he hcl T.sub fun h1 so1 kk1 => ?_
    have he1 := kk1 _ _ he
    have U1 := U.next (But.of kk1) (nodict he)
    refine up_method U1.kin so1 he1 hcl T.sup T.ve T.opq ?_
    have kk2 : ∀ b o, h1.get? b = some o → (h1.push (PySem.W.kxs_mw "ValueError.__init__" a)).get? b = some o := fun b o e => Heap.get?_push_of_some _ e
    have he2 := kk2 _ _ he1
    have hu : (h1.push (PySem.W.kxs_mw "ValueError.__init__" a)).get? h1.objs.size = some (PySem.W.kxs_mw "ValueError.__init__" a) := Heap.get?_push_at rfl rfl
    generalize h1.push (PySem.W.kxs_mw "ValueError.__init__" a) = h2 at kk2 he2 hu
    have U2 := U1.next (But.of kk2) (nodict he1)
    refine PySem.W.kxs_callWith (i := "ValueError.__init__") (x := a) rfl ?_
    show wpAny _ _ (evalArgs _ true ((false, eval (.Constant (.str cs) j pj) env) :: backTo cp (starEach [] env)) []) _ _ _
    refine Calls.evalArgs_plain (Calls.spliced_cons (wpAny_Constant_str (Calls.spliced_nil ⟨hu, ?_⟩)))
    refine call_up (U2.kin _ _ hC) he2 hu (show 1 ≤ sizeLine by decide) fun h3 t3 b3 he3 => ?_
    have U3 := U2.next b3 (nodict he2)
    refine PySem.ks_wpAt_execs_cons (PySem.ks_wpAt_Assign_Attr (wpAt_of_wpAny ?_) rfl)
    refine wpAny_Name (wpAny_loadName_local U3.kind k1 U3.lo e1 ?_) n1
    refine wpAny_Name (wpAny_loadName_local U3.kind U3.kv U3.lo U3.self ?_) n0
    refine PySem.W.set_plain U3.kin (ox := PySem.HandSPX.excO C t3) (od := none) ⟨he3, rfl, rfl, trivial⟩ T.oex.sa ?_
    refine PySem.HandSPX.exc_osa U3.kin he3 hcl (show PySem.HandSPX.refsVE (.ref C :: bm) = true from hbm) rfl T.fa fun h4 t4 dx b4 dn dne hx4 hn4 => ?_
    have U4 := U3.next b4 (nodict he3)
    refine PySem.ks_wpAt_execs_cons (PySem.ks_wpAt_Assign_Attr (wpAt_of_wpAny ?_) rfl)
    refine wpAny_Name (wpAny_loadName_local U4.kind k2 U4.lo e2 ?_) n2
    refine wpAny_Name (wpAny_loadName_local U4.kind U4.kv U4.lo U4.self ?_) n0
    have hw : Within (fun y => if y = ("amount" : Str) then some v1 else none) ["amount"] := fun y hy => by
      by_cases z : y = "amount"
      · rw [z]
        exact List.mem_singleton.mpr rfl
      · exact absurd (if_neg z) hy
    obtain ⟨oD, _, _, hoD, _, _⟩ := hn4.count hw
    refine PySem.W.set_plain U4.kin (ox := { cls := .ref C, dict := some dx, data := .fields #[.ref t3, .none, .none, .none, .bool false, .none] }) (od := some oD) ⟨hx4, rfl, rfl, hoD⟩ T.oex.sa ?_
    refine PySem.OEX.osa_old U4.kin hx4 hn4 hw (by decide) hcl (show PySem.HandSPX.refsVE (.ref C :: bm) = true from hbm) rfl T.fl fun h5 t5 b5 hn5 => ?_
    have lt : ∀ b o, b ≠ a → h.get? b = some o → b ≠ dx := fun b o n e z => by
      have := Heap.lt_size (b3 b o n (kk2 _ _ (kk1 _ _ e)))
      rw [z] at this
      exact absurd this (Nat.not_lt.mpr dn)
    refine wpAt_of_wpAny (wpAny_pure (hq h5 _ dx t3 (fun b o n e => ?_) ?_ dne (b5 _ _ (Ne.symm dne) hx4) hn5))
    · exact b5 b o (lt b o n e) (b4 b o n (b3 b o n (kk2 _ _ (kk1 _ _ e))))
    · exact Nat.lt_of_lt_of_le (Heap.lt_size he3) dn
  · cases hB
end
theorem pmk_two {X : Cx} {c : Str} {C : Addr} {k : Nat} {p pos : Pos} {e1 e2 : Expr} {ta : TA} (D : Two X.prog X.K X.mg C) (room : Room k X.A) (hg : Gl X c) (hm : X.mg c = some (.ref C)) (hdb : (c == ("__debug__" : Str)) = false) (ha : PA X [e1, e2] ta)
    (he : starEach [e1, e2] X.env = (false, eval e1 X.env) :: starEach [e2] X.env) (hpl : (backTo pos (starEach [e2] X.env)).any (·.1) = false) :
    PMk X (.Call (.Name c p) [e1, e2] [] pos) fun σ H Q => ta σ H fun vs H1 => ∃ i j : Int, vs = [.int i, .int j] ∧ ∀ dx, H1 dx = none → Q (.ref C) (some dx) (upd H1 dx (.xd [("limit", .int j), ("amount", .int i)])) := by
  intro pins s σ H Q I hta
  have T := D.tk
  obtain ⟨fI, cc, cda, nm, qual, pr, body, sc, dV, kV, doc, pm, ct, oc, an, od, osl, ar, x1, x2, iC, tI, lk, hcd, bt, hhd, hB, ⟨hk, hco, hge, hce⟩, ⟨l1, l2, l3, l4, l5⟩, ⟨nd, nO⟩, hcode, hcell, msu, htop⟩ := D.ex
  obtain ⟨nm', qn, N, bs, bm, sn, sub, ab, col, dd, k0, q1, q2, q3, q5, hC, hbm⟩ := T.oex.cls
  simp only [Bool.and_eq_true] at nO
  obtain ⟨⟨o0, o1⟩, o2⟩ := nO
  refine wpAny_Call_Name_kw (ld_glob I hg hm ?_ hdb)
  refine PySem.W.callWith_K (h₀ := X.base) I.ok.mod.kin T.oex.kC (thn (ha.run pos pins s σ H _ I hta) fun us s1 ⟨vs, H1, I1, r1, i, j, ev, post⟩ => ⟨I1.kIn, ?_⟩) he hpl
  subst ev
  cases r1 with
  | @cons _ u1 _ us' ra rb =>
  cases rb with
  | @cons _ u2 _ us'' rc rd =>
  cases rd
  show wpAny _ _ (call (.ref C) [u1, u2]) _ _ _
  obtain ⟨hp, g, dr, tk, os⟩ := s1
  refine wpAny_call (PySem.HandSPX.call_own F.excBase_ValueError (fun Y => PySem.HandSPX.refsVE_contains Y bm hbm) (I1.kIn _ _ hC) (PySem.W.looks_findIn I1.kIn iC) (fun self => PySem.W.bind_fn I1.kIn self tI) (show 2 ≤ sizeLine by decide) ?_)
  -- the exception, new
  have new : ((hp.push (PySem.W.kdv_tup [u1, u2])).push (PySem.HandSPX.excO C hp.objs.size)).get? (hp.objs.size + 1) = some (PySem.HandSPX.excO C hp.objs.size) := by heap_get
  have old : ∀ b o, hp.get? b = some o → ((hp.push (PySem.W.kdv_tup [u1, u2])).push (PySem.HandSPX.excO C hp.objs.size)).get? b = some o := fun b o z => Heap.get?_push_of_some _ (Heap.get?_push_of_some _ z)
  generalize (hp.push (PySem.W.kdv_tup [u1, u2])).push (PySem.HandSPX.excO C hp.objs.size) = h0 at new old
  have kin0 : X.K.In h0 := I1.kIn.keeps old
  have ka : X.K.lookup (hp.objs.size + 1) = none := by
    cases z : X.K.lookup (hp.objs.size + 1) with
    | none => rfl
    | some o =>
      have z2 : hp.objs.size + 1 < hp.objs.size := Heap.lt_size (I1.kIn _ _ z)
      omega
  have mod0 := I1.mod
  obtain ⟨mb, gb1, gb2⟩ := mod0.blt
  have lim0 : h0.NoLimit := (mod0.nolimit.keeps I1.bk).keeps old
  refine PySem.ks_codeAny_call_defAt (binds := [(ar.arg, .ref (hp.objs.size + 1)), (x1, u1), (x2, u2)]) ?dep (kin0 _ _ lk) rfl lim0 (PySem.W.codeRec_of kin0 hcd) rfl (bt _ [.ref (hp.objs.size + 1), u1, u2] kin0 rfl) hce ?loc (fun hn lo kn => ?body) hco hge hk
  case dep =>
    have h1 := room.dp
    rw [make_depth]
    omega
  case loc =>
    intro y hy
    simp only [List.mem_cons, List.not_mem_nil, or_false] at hy
    rcases hy with rfl | rfl | rfl
    · exact l3
    · exact l4
    · exact l5
  case body =>
    simp only [List.nodup_cons, List.mem_cons, List.not_mem_nil, or_false, not_or] at nd
    have look : ∀ y, (([(ar.arg, Value.ref (hp.objs.size + 1)), (x1, u1), (x2, u2)] : List (Str × Value)).reverse.lookup y) = if y = x2 then some u2 else if y = x1 then some u1 else if y = ar.arg then some (.ref (hp.objs.size + 1)) else none := fun y => by
      show List.lookup y [(x2, u2), (x1, u1), (ar.arg, Value.ref (hp.objs.size + 1))] = _
      simp only [List.lookup]
      by_cases z2 : y = x2
      · simp [z2]
      · rw [if_neg z2, show (y == x2) = false from beq_eq_false_iff_ne.mpr z2]
        by_cases z1 : y = x1
        · simp [z1]
        · rw [if_neg z1, show (y == x1) = false from beq_eq_false_iff_ne.mpr z1]
          by_cases z0 : y = ar.arg
          · simp [z0]
          · rw [if_neg z0, show (y == ar.arg) = false from beq_eq_false_iff_ne.mpr z0]
    have U : Upon X.prog X.K X.mg hn (hp.objs.size + 1) C fI cc cda (PySem.W.ksFn nm qual pr body sc dV kV doc pm an (.ref cda) ct cc) ar (callEnv (PySem.W.ksFn nm qual pr body sc dV kV doc pm an (.ref cda) ct cc) h0.objs.size fI) (fun y => List.lookup y [(ar.arg, Value.ref (hp.objs.size + 1)), (x1, u1), (x2, u2)].reverse) := {
      kin := kin0.keeps kn
      ka := ka
      gl := ((mod0.glob.keeps I1.bk).keeps old).keeps kn
      gb := ⟨mb, ((gb1.keeps I1.bk).keeps old).keeps kn, gb2⟩
      lo := lo
      self := by
        rw [look, if_neg (fun z => nd.1.2 z), if_neg (fun z => nd.1.1 z), if_pos rfl]
      fn := ⟨_, _, _, lk⟩
      hd := hhd
      code := hcode
      cell := hcell
      sup := msu
      top := htop
      kind := hk
      ks := l1
      kc := l2
      kv := l3
      glo := rfl
      bui := rfl
      cel := rfl
      fun_ := rfl
      cod := rfl }
    refine init_body U T (kn _ _ new) hB l4 l5 (by rw [look, if_neg (fun z => nd.2.1 z), if_pos rfl]) (by rw [look, if_pos rfl]) (nmOk_ok o0).1 (nmOk_ok o1).1 (nmOk_ok o2).1 (by show (sc.kind == .module && _) = false; rw [hk]; rfl) fun h' tk' dx t2 keep lt dne hx hns => ?_
    -- what is left of it all
    obtain ⟨G, gs, ge⟩ := restrict h' fun b => decide (b ≠ hp.objs.size + 1)
    have gAt : ∀ b, b ≠ hp.objs.size + 1 → G.get? b = h'.get? b := fun b n => gs b (decide_eq_true n)
    have gNo : G.get? (hp.objs.size + 1) = none := ge _ (decide_eq_false fun z => z rfl)
    have kG : ∀ b o, hp.get? b = some o → G.get? b = some o := fun b o z => by
      have n : b ≠ hp.objs.size + 1 := fun q => by
        have z3 : b < hp.objs.size := Heap.lt_size z
        rw [q] at z3
        exact absurd z3 (Nat.not_lt.mpr (Nat.le_succ _))
      rw [gAt b n]
      exact keep b o n (kn _ _ (old _ _ z))
    have ok : ObjOk X.prog X.w (upd H1 dx (.xd [("limit", .int j), ("amount", .int i)])) G dx (.xd [("limit", .int j), ("amount", .int i)]) := by
      obtain ⟨oD, es, ep, z1, z2⟩ := hns
      refine ⟨_, ⟨oD, es, ep, (gAt dx dne).trans z1, z2⟩, fun f => ?_⟩
      simp only [List.lookup]
      by_cases zl : f = "limit"
      · rw [zl]
        exact rc
      · rw [if_neg zl, show (f == ("limit" : Str)) = false from beq_eq_false_iff_ne.mpr zl]
        by_cases za : f = "amount"
        · rw [za]
          exact ra
        · rw [if_neg za, show (f == ("amount" : Str)) = false from beq_eq_false_iff_ne.mpr za]
          trivial
    have J := I1.laid (t' := tk') (a := dx) kG (show hp.objs.size ≤ dx from Nat.le_of_lt (Nat.lt_of_succ_lt lt)) ok
    have hd0 : H1 dx = none := I1.hok.fresh (show hp.objs.size ≤ dx from Nat.le_of_lt (Nat.lt_of_succ_lt lt))
    refine ⟨rfl, _, _, _, ⟨G, g, dr, tk', os⟩, _, .ref C, some dx, rfl, J, fun b o z => ?_, gNo, hx, ⟨rfl, rfl⟩, rfl, rfl, ?_, rfl, I1.bare, raises_own T.oex.exC T.oex.tyC, post dx hd0⟩
    · have n : b ≠ hp.objs.size + 1 := fun q => by
        rw [q, gNo] at z
        cases z
      rw [← gAt b n]
      exact z
    · rw [upd_ne (Ne.symm dne)]
      exact I1.hok.fresh (Nat.le_succ _)
section
variable {X : Cx} {exs : EX} {E : CE}
/-! ### raise C(i, j) -/
theorem sndS_raise2 {k r : Nat} {c : Str} {C : Addr} {p p3 pos : Pos} {a b : Expr} {fa fb : Sg → R Val} (hc : X.calm = true) (hgc : Gl X c) (hdc : (c == ("__debug__" : Str)) = false) (hC : exs.cl k = some C) (hm : X.mg c = some (.ref C)) (D : Two X.prog X.K X.mg C) (room : Room r X.A) (h1 : notStar a = true) (h2 : notStar b = true)
    (ha : Snd X exs a fa) (hb : Snd X exs b fb) : SndS X exs (.Raise (some (.Call (.Name c p) [a, b] [] p3)) none pos) fun g => sbnd (fa g) fun x g => sbnd (fb g) fun y g => match x, y with
      | .v (.int i), .v (.int j) => some (.ex ⟨k, [.int i, .int j]⟩, g)
      | _, _ => none := fun g z hz σ H G Dn W sr post => by
  have s2 : starEach [b] X.env = (false, eval b X.env) :: starEach [] X.env := star_of h2
  -- the two numbers, and what is raised on the way to them
  have key : ∀ {o : Fl × Sg}, o = z → ((∃ x g', fa g = some (.ex x, g') ∧ o = (.ex x, g')) ∨ ∃ x g1, fa g = some (.ok x, g1) ∧ ((∃ y g', fb g1 = some (.ex y, g') ∧ o = (.ex y, g')) ∨ ∃ y g2 i j, fb g1 = some (.ok y, g2) ∧ x = .v (.int i) ∧ y = .v (.int j) ∧ o = (.ex ⟨k, [.int i, .int j]⟩, g2))) := fun {o} eo => by
    subst eo
    dsimp only at hz
    rcases qa : fa g with _ | ⟨x | x, g1⟩
    · rw [qa] at hz
      cases hz
    · rw [qa] at hz
      refine .inr ⟨x, g1, rfl, ?_⟩
      have hz : sbnd (fb g1) _ = _ := hz
      rcases qb : fb g1 with _ | ⟨y | y, g2⟩
      · rw [qb] at hz
        cases hz
      · rw [qb] at hz
        refine .inr ?_
        cases x with
        | m c => cases hz
        | v dx =>
          cases dx with
          | int i =>
            cases y with
            | m c => cases hz
            | v dy =>
              cases dy with
              | int j =>
                cases hz
                exact ⟨_, g2, i, j, rfl, rfl, rfl, rfl⟩
              | _ => cases hz
          | _ => cases hz
      · rw [qb] at hz
        cases hz
        exact .inl ⟨y, g2, rfl, rfl⟩
    · rw [qa] at hz
      cases hz
      exact .inl ⟨x, g1, rfl, rfl⟩
  have tk : Takes X W := by
    rcases key rfl with ⟨x, g', _, e⟩ | ⟨x, g1, _, ⟨y, g', _, e⟩ | ⟨y, g2, i, j, _, _, _, e⟩⟩ <;> rw [e] at post <;> exact post.1
  refine ws_of (ps_raise hc tk (pmk_two D room hgc hm hdc (pa_cons (hs := star_of h1) we_max (pa_cons (hs := s2) we_max pa_nil)) (star_of h1) (by rw [s2]; rfl))) ?_
  show WE X a σ H _
  rcases key rfl with ⟨x, g', qa, e⟩ | ⟨x, g1, qa, ⟨y, g', qb, e⟩ | ⟨y, g2, i, j, qb, ex, ey, e⟩⟩
  · subst e
    exact ha g _ qa σ H G _ W sr ⟨post.1, fun cls dd H' G' => post.2 cls dd σ H' G'⟩
  · subst e
    refine ha g _ qa σ H G _ W sr fun v H1 G1 e1 s1 r1 => ?_
    exact hb g1 _ qb σ H1 G1 _ W s1 ⟨post.1, fun cls dd H' G' e2 => post.2 cls dd σ H' G' (e1.trans e2)⟩
  · subst e ex ey
    refine ha g _ qa σ H G _ W sr fun v H1 G1 e1 s1 r1 => ?_
    refine hb g1 _ qb σ H1 G1 _ W s1 fun v2 H2 G2 e2 s2' r2 => ?_
    have r1 : Rp X.K (Bh G1 H1) v (.int i) := r1
    have r2 : Rp X.K (Bh G2 H2) v2 (.int j) := r2
    cases r1
    cases r2
    refine ⟨i, j, rfl, fun dx hdx => ?_⟩
    obtain ⟨gr, at_⟩ := new_st s2'.tag hdx (.xd [("limit", .int j), ("amount", .int i)])
    exact post.2 (.ref C) (some dx) σ _ _ (e1.trans (e2.trans gr.toExt)) (s2'.grow gr) ⟨C, hC, rfl, .inr ⟨dx, i, j, rfl, rfl, at_⟩⟩
end
end Z

/-! ZN: len(set(ints)), calls by names. -/
namespace Z
open PySem PySem.Spec PyProof.Rows L2

theorem metI_first (ns : List Int) : PyProof.Rows.firstMet (fun i => ns.getD i 0) ns.length = metI ns := by
  unfold PyProof.Rows.firstMet metI
  have e : (List.range ns.length).map (fun i => ns.getD i 0) = ns := by
    apply List.ext_getElem
    · rw [List.length_map, List.length_range]
    · intro i h1 h2
      rw [List.getElem_map, List.getElem_range, List.getD_eq_getElem?_getD, List.getElem?_eq_getElem h2]
      rfl
  rw [e]
  rfl
section
variable {X : Cx} {exs : EX} {σ : L2.St} {G G1 : Gh} {H H1 : Hp} {Q : VK} {W : WX} {e : Expr} {f : Sg → R Val} {g g1 : Sg} {pos : Pos} {es : List Expr}
def tLenSetZ (K : PySem.W.Frag) (ta : TE) : TE := fun σ H Q => ta σ H fun x H1 => ∃ (l : Addr) (ns : List Int), x = .ref l ∧ SqL K H1 l (ns.map V.int) ∧ ns.length ≤ 4000 ∧ Q (.int ((metI ns).length : Nat)) H1
theorem pe_lenSetZ {a : Expr} {ta : TE} {p p2 q : Pos} (hc : X.calm = true) (hg : Gl X "len") (hm : X.mg "len" = none) (hg2 : Gl X "set") (hm2 : X.mg "set" = none) (ha : PE X a ta)
    (na : starEach [a] X.env = (false, eval a X.env) :: starEach [] X.env) : PE X (.Call (.Name "len" p) [.Call (.Name "set" p2) [a] [] q] [] pos) (tLenSetZ X.K ta) := by
  constructor
  intro pins s σ H Q I h
  apply Call_ (ld_blt I hg hm boot_len _)
  apply PyProof.Rows.callWith_builtin1 (PyProof.Rows.args_cons _ rfl) rfl rfl
  apply Call_ (ld_blt I hg2 hm2 boot_set _)
  apply PyProof.Rows.callWith_type1 (PyProof.Rows.args_cons _ na) na rfl
  refine thn (ha.run pins s σ H _ I h) fun v s1 z => ?_
  obtain ⟨x, H1, I1, r1, l, ns, rfl, hq, hl, q1⟩ := z
  apply PyProof.Rows.args_nil
  cases r1
  obtain ⟨its, r, pl, hz⟩ := I1.list hq
  have hsz : its.toArray.size = ns.length := by rw [List.size_toArray, ← r.length, List.length_map]
  apply call_set_list (I1.ok.hd hc) pl.isList (by simpa using RZ.intsAre_vals r) (by rw [hsz]; unfold scanBound; omega)
  intro h' tk hS hk
  apply PyProof.Rows.args_nil
  rw [hsz, metI_first] at hS
  obtain ⟨o, en, ep, t, ho, hex, hd, _, _, _, hf, hn⟩ := hS
  have I2 : Inv X pins σ H1 { s1 with heap := h', toks := tk } := I1.kept fun b o e => hk b o (Heap.lt_size e) e
  have few : (metI ns).length ≤ ns.length := by
    rw [← metI_first]
    exact PyProof.Rows.firstMet_length_le _ _
  exact call_len_set ho hex hd hf (by omega) ⟨.int (metI ns).length, H1, I2.tok _, ⟨_, by rw [hn]⟩, q1⟩
theorem snd_lenset {a : Expr} {fa : Sg → R Val} {p p2 q : Pos} (hc : X.calm = true) (hg : Gl X "len") (hm : X.mg "len" = none) (hg2 : Gl X "set") (hm2 : X.mg "set" = none) (h1 : notStar a = true) (ha : Snd X exs a fa) :
    Snd X exs (.Call (.Name "len" p) [.Call (.Name "set" p2) [a] [] q] [] pos) fun g => bnd (fa g) fun x g => opt (lenSetD x.toD) g :=
  fun g r hr σ H G Q W sr post => by
  refine we_of (pe_lenSetZ hc hg hm hg2 hm2 we_max (star_of h1)) ?_
  refine ha.useD hr sr post.ex fun x g1 h1 v H1 G1 e1 s1 r1 => ?_
  obtain ⟨z, hz, rfl⟩ := opt_some h1
  generalize x.toD = d at hz r1
  cases d with
  | list ds =>
    obtain ⟨l, xs, rfl, hl, ra⟩ := rp_lst r1
    obtain ⟨ns, hn, hz⟩ := Option.bind_eq_some_iff.mp hz
    split at hz
    · rename_i hb
      cases hz
      have e := ra.ints hn
      subst e
      exact ⟨l, ns, rfl, SqL.of hl, hb, post _ H1 G1 e1 s1 (.int _)⟩
    · cases hz
  | _ => cases hz
/-! ### calls by names -/
def WK (X : Cx) (ks : List Keyword) : TA := fun σ H Q => ∀ (p : Pos) (pins : List (Addr × Obj)) (s : Shared), Inv X pins σ H s → wpAny (model X.prog X.w) X.A (evalAll ((backToKw p (keywordEach ks X.env)).map (·.2))) (AP X pins σ Q) X.xe s
theorem wk_max {ks : List Keyword} : PK X ks (WK X ks) := ⟨fun p pins s _ _ _ I h => h p pins s I⟩
theorem wk_of {ks : List Keyword} {t : TA} (h : PK X ks t) {Q : List V → Hp → Prop} (q : t σ H Q) : WK X ks σ H Q := fun p pins s I => h.run p pins s σ H Q I q
def SndK (X : Cx) (exs : EX) (ks : List Keyword) (f : Sg → R (List Ar)) : Prop := ∀ g r, f g = some r → ∀ σ H G Q W, SR X.K exs G H g σ → Pars X exs σ G H Q W r → WK X ks σ H Q
theorem sndK_nil : SndK X exs [] fun g => ret [] g := fun g r hr σ H G Q W sr post => by
  rw [ret_some hr] at post
  exact wk_of pk_nil (post [] H G (.refl _ _) sr trivial)
theorem SndK.use {γ : Type} {ks : List Keyword} {fs : Sg → R (List Ar)} {k : List Ar → Sg → R γ} {r : Out γ × Sg} {Q : List V → Hp → Prop} (h : SndK X exs ks fs) (hr : bnd (fs g) k = some r) (sr : SR X.K exs G H g σ) (hx : ∀ x g', r = (.ex x, g') → PX X exs σ G H W x g')
    (ok : ∀ ds g1, k ds g1 = some r → ∀ vs H1 G1, Ext G H G1 H1 → SR X.K exs G1 H1 g1 σ → ArsOk X.K (Bh G1 H1) σ ds vs → Q vs H1) : WK X ks σ H Q := by
  cases q : fs g with
  | none =>
    rw [q] at hr
    cases hr
  | some z =>
    obtain ⟨o, g1⟩ := z
    rw [q] at hr
    cases o with
    | ok x => exact h g _ q σ H G Q W sr fun v H1 G1 e1 s1 r1 => ok x g1 hr v H1 G1 e1 s1 r1
    | ex x =>
      cases hr
      exact h g _ q σ H G Q W sr (hx x g1 rfl)
theorem sndK_val {nm : Option Str} {kp : Pos} {ks : List Keyword} {fs : Sg → R (List Ar)} (ha : Snd X exs e f) (hs : SndK X exs ks fs) : SndK X exs (⟨nm, e, kp⟩ :: ks) fun g => bnd (f g) fun x g => bnd (fs g) fun xs g => ret (.v x.toD :: xs) g :=
  fun g r hr σ H G Q W sr post => by
  refine wk_of (pk_cons we_max wk_max) ?_
  have px : ∀ x g', r = (.ex x, g') → PX X exs σ G H W x g' := fun x g' e => by
    subst e
    exact post
  refine ha.useD hr sr px fun x g1 h1 v H1 G1 e1 s1 r1 => ?_
  refine hs.use h1 s1 (exNext px e1) fun xs g2 h2 vs H2 G2 e2 s2 r2 => ?_
  rw [ret_some h2] at post
  exact post (v :: vs) H2 G2 (e1.trans e2) s2 ⟨r1.mono e2.same, r2⟩
/-- values, put into another order -/
theorem vals_pick {vs : List V} {us : List Value} (r : Vals vs us) : ∀ q : List Nat, Vals (q.map fun j => vs.getD j .non) (q.map fun j => us.getD j .none)
  | [] => .nil
  | j :: q => by
    refine .cons ?_ (vals_pick r q)
    have : ∀ {vs : List V} {us : List Value}, Vals vs us → ∀ j, RelV (vs.getD j .non) (us.getD j .none) := by
      intro vs us r
      induction r with
      | nil => intro j; exact rfl
      | cons h t ih =>
        intro j
        cases j with
        | zero => exact h
        | succ j => exact ih j
    exact this r j
theorem ar_at {K : PySem.W.Frag} {B : Hp} : ∀ {rs : List Ar} {vs : List V}, ArsOk K B σ rs vs → ∀ j, ArOk K B σ (rs.getD j (.v .none)) (vs.getD j .non)
  | [], [], _, j => .non
  | [], _ :: _, h, _ => h.elim
  | _ :: _, [], h, _ => h.elim
  | _ :: _, _ :: _, h, 0 => h.1
  | _ :: _, _ :: _, h, j + 1 => ar_at h.2 j
theorem ars_pick {K : PySem.W.Frag} {B : Hp} : ∀ {rs : List Ar} {vs : List V}, ArsOk K B σ rs vs → ∀ q : List Nat, ArsOk K B σ (q.map fun j => rs.getD j (.v .none)) (q.map fun j => vs.getD j .non)
  | rs, vs, h, [] => trivial
  | rs, vs, h, j :: q => ⟨ar_at h j, ars_pick h q⟩
theorem kw_some {p : Pos} : ∀ {ks : List Keyword}, (ks.all fun k => k.arg.isSome) = true → (backToKw p (keywordEach ks X.env)).all (·.1.isSome) = true ∧ (backToKw p (keywordEach ks X.env)).any (·.1.isNone) = false ∧ (backToKw p (keywordEach ks X.env)).filterMap (·.1) = ks.map fun k => k.arg.getD ""
  | [], _ => ⟨rfl, rfl, rfl⟩
  | ⟨none, v, p2⟩ :: ks, h => by cases h
  | ⟨some x, v, p2⟩ :: ks, h => by
    obtain ⟨h1, h2, h3⟩ := kw_some (p := p) (ks := ks) h
    refine ⟨h1, h2, ?_⟩
    show x :: (backToKw p (keywordEach ks X.env)).filterMap (·.1) = _
    rw [h3]
    rfl
theorem snd_callK {Γ : Call} {fno : Nat} {i : FnI} {ks : List Keyword} {q : List Nat} {fs : Sg → R (List Ar)} {p : Pos} (F : FnAt X Γ exs fno i) (gd : X.A.guards = some []) (hg : Gl X i.name) (hd : (i.name == ("__debug__" : Str)) = false)
    (hall : (ks.all fun k => k.arg.isSome) = true) (hq : (ks.map (fun k => k.arg.getD ""), q) ∈ i.kws) (hl : ks.length = i.ps.length) (hs : SndK X exs ks fs) :
    Snd X exs (.Call (.Name i.name p) [] ks pos) fun g => bnd (fs g) fun rs g => if rs.length = i.ps.length ∧ q.length = i.ps.length then callR Γ fno (q.map fun j => rs.getD j (.v .none)) g else none :=
  fun g r hr σ H G Q W sr post => by
  obtain ⟨a, fd, k, hm, hk, hb, hrm, hf⟩ := F.ex
  obtain ⟨k1, k2, k3⟩ := kw_some (X := X) (p := pos) hall
  have main : WK X ks σ H fun vs H1 => vs.length = i.ps.length ∧ ∃ E, spF X.K exs i.ps.length (Γ fno) (q.map fun j => vs.getD j .non) H1 Q E ∧ ∀ (pins : List (Addr × Obj)) (s : Shared) (e : Value) (s' : Shared), Inv X pins σ H1 s → L2.CX X.prog X.w X.stack H1 s E e s' → X.xe e s' := by
    refine hs.use hr sr post.ex fun rs g1 h1 vs H1 G1 e1 s1 r1 => ?_
    split at h1
    · rename_i hz
      refine ⟨r1.length.trans hz.1, ?_⟩
      refine call_post (W := W) s1 (ars_pick r1 q) h1 (by rw [List.length_map]; exact hz.2) ?_
      obtain ⟨o, g2⟩ := r
      cases o with
      | ok y => exact fun v H2 G2 e2 => post v H2 G2 (e1.trans e2)
      | ex y => exact PX.next post e1
    · cases h1
  intro pins s I
  refine wpAny_Call_Name_kw (ld_glob I hg hm ?_ hd)
  refine PySem.W.callWith_KW0 (h₀ := X.base) I.ok.mod.kin hk k1 (thn (main pos pins s I) fun us s1 ⟨vs, H1, I1, r, hv, E, sp, hx⟩ => ⟨I1.kIn, ?_⟩) (by show (false || (backToKw pos (keywordEach ks X.env)).any (·.1.isNone)) = false; rw [k2]; rfl)
  rw [k3]
  have hu : us.length = ks.length := by rw [← r.length, hv, hl]
  have bt := hb.2 _ hq s1 us (by rw [List.length_map]; exact hu)
  have go := hf.run X.A X.stack s1 H1 ⟨[], (ks.map fun k => k.arg.getD "").zip us⟩ (q.map fun j => us.getD j .none) (q.map fun j => vs.getD j .non) Q E gd hrm I1.env0 bt (vals_pick r q) sp
  refine wpAny_call (codeAny_mono go fun res s' hq => ?_)
  cases res with
  | error x => exact hx pins s1 x s' I1 hq
  | ok fl =>
    cases fl with
    | ret u => exact I1.after hq
    | next => exact hq.elim
    | brk => exact hq.elim
    | cont => exact hq.elim
end
end Z

/-! Z8: a code renders a text: the checker, and that it suffices. -/
namespace Z
open PySem PySem.Spec PyProof.Rows L2

def vis (sc : Scope) (x : Str) : Bool :=
  match sc.names.lookup x with
  | some .local => true
  | some .cell => true
  | some .free => true
  | _ => false
def gl (sc : Scope) (x : Str) : Bool :=
  match sc.names.lookup x with
  | some .globalImplicit => true
  | _ => false
def isLoc (sc : Scope) (x : Str) : Bool :=
  match sc.names.lookup x with
  | some .local => true
  | some .cell => true
  | _ => false
def okNm (x : Str) : Bool := !(x == ("__debug__" : Str)) && !(x == ("__classdict__" : Str))
def noIf : Expr → Bool
  | .IfExp _ _ _ _ => false
  | _ => true
def notSet : Expr → Bool
  | .Set _ _ _ => false
  | _ => true
def isTupE : Expr → Bool
  | .Tuple _ _ _ => true
  | _ => false
theorem notSet_marks {e : Expr} (h : notSet e = true) (op : CmpOp) : behindInMarks op e = false := by
  cases e <;> first | rfl | (simp [notSet] at h)
theorem notSet_fold {e : Expr} (h : notSet e = true) (env : Env) (x : Value) : foldedSetIterable e env x = pure x := by
  cases e <;> first | rfl | (simp [notSet] at h)
def copEq (o : COp) (p : CmpOp) : Bool := decide (copOf o = p)
def bopEq (o : BOp) (p : Operator) : Bool := decide (opOf o = p)

def noPar : Arguments → Bool
  | ⟨[], [], none, [], [], none, []⟩ => true
  | _ => false
section
variable (N : List Str)
mutual
def chkE (E : CE) (sc asn : Scope) : C → Expr → Bool
  | .int i, e => match e with
    | .Constant (.int j) _ _ => decide (i = j)
    | _ => false
  | .bl b, e => match e with
    | .Constant (.bool c) _ _ => b == c
    | _ => false
  | .non, e => match e with
    | .Constant .none _ _ => true
    | _ => false
  | .str x, e => match e with
    | .Constant (.str y) _ _ => decide (x = y)
    | _ => false
  | .var i, e => match e with
    | .Name x _ => decide (N[i]? = some x) && vis sc x && okNm x
    | _ => false
  | .glb k, e => match e with
    | .Name x _ => decide ((E.cons[k]?).map (·.1) = some x) && gl sc x && okNm x
    | _ => false
  | .bin o a b, e => match e with
    | .BinOp x op y _ => bopEq o op && chkE E sc asn a x && chkE E sc asn b y
    | _ => false
  | .neg a, e => match e with
    | .UnaryOp .USub x _ => chkE E sc asn a x
    | _ => false
  | .cmp o a b, e => match e with
    | .Compare x [op] [y] _ => copEq o op && notSet y && chkE E sc asn a x && chkE E sc asn b y
    | _ => false
  | .chain o p a b c, e => match e with
    | .Compare x [op, op2] [y, z] _ => copEq o op && copEq p op2 && notSet z && chkE E sc asn a x && chkE E sc asn b y && chkE E sc asn c z
    | _ => false
  | .and a b, e => match e with
    | .BoolOp .And (x :: y :: r) pos => noIf x && chkE E sc asn a x && (if r.isEmpty then noIf y && chkE E sc asn b y else chkE E sc asn b (.BoolOp .And (y :: r) pos))
    | _ => false
  | .or a b, e => match e with
    | .BoolOp .Or (x :: y :: r) pos => noIf x && chkE E sc asn a x && (if r.isEmpty then noIf y && chkE E sc asn b y else chkE E sc asn b (.BoolOp .Or (y :: r) pos))
    | _ => false
  | .not a, e => match e with
    | .UnaryOp .Not x _ => noIf x && chkE E sc asn a x
    | _ => false
  | .ite c a b, e => match e with
    | .IfExp z x y _ => noIf z && chkE E sc asn c z && chkE E sc asn a x && chkE E sc asn b y
    | _ => false
  | .tup es, e => match e with
    | .Tuple xs _ _ => chkEs E sc asn es xs
    | _ => false
  | .lst es, e => match e with
    | .List xs _ => chkEs E sc asn es xs
    | _ => false
  | .idx a b, e => match e with
    | .Subscript x y _ => notSlice y && chkE E sc asn a x && chkE E sc asn b y
    | _ => false
  | .idxv i b, e => match e with
    | .Subscript (.Name x _) y _ => decide (N[i]? = some x) && vis sc x && okNm x && notSlice y && chkE E sc asn b y
    | _ => false
  | .lenv i, e => match e with
    | .Call (.Name f _) [.Name x _] [] _ => decide (f = ("len" : Str)) && gl sc f && decide (N[i]? = some x) && vis sc x && okNm x
    | _ => false
  | .cpv i, e => match e with
    | .Call (.Name f _) [.Name x _] [] _ => decide (f = ("list" : Str)) && gl sc f && decide (N[i]? = some x) && vis sc x && okNm x
    | _ => false
  | .slc a lo hi, e => match e with
    | .Subscript x (.Slice l h none _) _ => chkE E sc asn a x && chkO E sc asn lo l && chkO E sc asn hi h
    | _ => false
  | .call f n as, e => match e with
    | .Call (.Name x _) es [] _ => !E.hot && (match E.fns f with
      | some i => decide (i.name = x) && decide (n = i.ps.length)
      | none => false) && gl sc x && okNm x && es.all notStar && chkAs E sc asn as es
    | _ => false
  | .b1 o a, e => match e with
    | .Call (.Name f _) [x] [] _ => (!b1C o || !E.hot) && decide (f = b1N o) && gl sc f && notStar x && chkE E sc asn a x
    | _ => false
  | .b2 o a b, e => match e with
    | .Call (.Name f _) [x, y] [] _ => !E.hot && decide (f = b2N o) && gl sc f && notStar x && notStar y && chkE E sc asn a x && chkE E sc asn b y
    | _ => false
  | .isi a t, e => match e with
    | .Call (.Name f _) [x, .Name ty _] [] _ => decide (f = ("isinstance" : Str)) && gl sc f && decide (ty = tyN t) && gl sc ty && notStar x && chkE E sc asn a x
    | _ => false
  | .mt o a b, e => match e with
    | .Call (.Attribute x m p2) [y] [] p3 => decide (m = moN o) && noCall0 x && notStar y && (p2.endLine == p3.line) && chkE E sc asn a x && chkE E sc asn b y
    | _ => false
  | .frz a, e => !isCompr e && chkE E sc asn a e
  | .srtset a, e => match e with
    | .Call (.Name f _) [.Call (.Name f2 _) [x] [] _] [] _ => !E.hot && decide (f = ("sorted" : Str)) && gl sc f && decide (f2 = ("set" : Str)) && gl sc f2 && notStar x && chkE E sc asn a x
    | _ => false
  | .pop i a, e => match e with
    | .Call (.Attribute (.Name x _) m p2) [v] [] p3 => decide (m = ("pop" : Str)) && decide (N[i]? = some x) && vis sc x && okNm x && notStar v && (p2.endLine == p3.line) && chkE E sc asn a v
    | _ => false
  | .lenset a, e => match e with
    | .Call (.Name f _) [.Call (.Name f2 _) [x] [] _] [] _ => !E.hot && decide (f = ("len" : Str)) && gl sc f && decide (f2 = ("set" : Str)) && gl sc f2 && notStar x && chkE E sc asn a x
    | _ => false
  | .callK f n q as, e => match e with
    | .Call (.Name x _) [] ks _ => !E.hot && (match E.fns f with
      | some i => decide (i.name = x) && decide (n = i.ps.length) && decide (ks.length = i.ps.length) && decide ((ks.map (fun k => k.arg.getD ""), q) ∈ i.kws)
      | none => false) && gl sc x && okNm x && (ks.all fun k => k.arg.isSome) && chkKs E sc asn as ks
    | _ => false
  | .callF f a k, e => match e with
    | .Call (.Name x _) [y, .Constant (.int j) _ _] [] _ => !E.hot && (match E.fns f with
      | some i => decide (i.name = x) && decide (i.ps.length = 2)
      | none => false) && decide (j = k) && gl sc x && okNm x && notStar y && chkE E sc asn a y
    | _ => false
  | .isx i k, e => match e with
    | .Call (.Name f _) [.Name x _, .Name c _] [] _ => E.hot && decide (f = ("isinstance" : Str)) && gl sc f && decide (N[i]? = some x) && vis sc x && okNm x && gl sc c && okNm c && decide ((E.excs k).map (·.name) = some c)
    | _ => false
  | .isV i, e => match e with
    | .Call (.Name f _) [.Name x _, .Name c _] [] _ => E.hot && decide (f = ("isinstance" : Str)) && gl sc f && decide (N[i]? = some x) && vis sc x && okNm x && decide (c = ("ValueError" : Str)) && gl sc c
    | _ => false
  | .fld i j, e => match e with
    | .Attribute (.Name x _) m _ => E.hot && decide (m = fldN j) && decide (j < 2) && decide (N[i]? = some x) && vis sc x && okNm x
    | _ => false
  | .said h a, e => match e with
    | .Call (.Name f _) [.Lambda pars body scope _] [] _ => !E.hot && E.lam && decide (f = E.said) && gl sc f && okNm f && decide (h = E.kind) && noPar pars && LamX.lamSB sc scope && chkE E.deep scope scope a body
    | _ => false
  | .comp e t s q own, x => match x with
    | .ListComp elt [⟨tg, iter, ifs, a⟩] scope _ => !E.hot && decide (a = 0) && blkC N sc scope (own.map fun i => (N.getD i "", i)) && (tgIx t).all own.contains && chkTg (isLoc scope) N t tg && chkR E sc asn s tg iter && notSet iter &&
      chkQ E (relS scope sc) scope q ifs && chkE E (relS scope sc) scope e elt
    | _ => false
  | .comp2 e t s q t1 s1 q1 own own1, x => match x with
    | .ListComp elt [⟨tg, iter, ifs, a⟩, ⟨tg1, iter1, ifs1, a1⟩] scope _ => !E.hot && decide (a = 0) && decide (a1 = 0) && blkC N sc scope (own.map fun i => (N.getD i "", i)) && (tgIx t).all own.contains && (tgIx t1).all own1.contains && own1.all own.contains &&
      chkTg (isLoc scope) N t tg && chkTg (isLoc scope) N t1 tg1 && chkR E sc asn s tg iter && notSet iter && chkQ E (relS scope sc) scope q ifs && chkR E (relS scope sc) scope s1 tg1 iter1 && notSet iter1 && chkQ E (relS scope sc) scope q1 ifs1 && chkE E (relS scope sc) scope e elt
    | _ => false
def chkO (E : CE) (sc asn : Scope) : Co → Option Expr → Bool
  | .non, o => match o with
    | none => true
    | some _ => false
  | .som a, o => match o with
    | none => false
    | some e => chkE E sc asn a e
def chkQ (E : CE) (sc asn : Scope) : Co → List Expr → Bool
  | .non, es => es.isEmpty
  | .som a, es => match es with
    | [e] => noIf e && chkE E sc asn a e
    | _ => false
def chkEs (E : CE) (sc asn : Scope) : Cs → List Expr → Bool
  | .nil, es => es.isEmpty
  | .cons c cs, es => match es with
    | e :: es => notStar e && chkE E sc asn c e && chkEs E sc asn cs es
    | [] => false
  | .star c cs, es => match es with
    | .Starred e _ :: es => chkE E sc asn c e && chkEs E sc asn cs es
    | _ => false
def chkAs (E : CE) (sc asn : Scope) : As → List Expr → Bool
  | .nil, es => es.isEmpty
  | .val c cs, es => match es with
    | e :: es => notStar e && chkE E sc asn c e && chkAs E sc asn cs es
    | [] => false
  | .bor i cs, es => match es with
    | .Name x _ :: es => decide (N[i]? = some x) && vis sc x && okNm x && chkAs E sc asn cs es
    | _ => false
def chkKs (E : CE) (sc asn : Scope) : As → List Keyword → Bool
  | .nil, ks => ks.isEmpty
  | .val c cs, ks => match ks with
    | ⟨_, v, _⟩ :: ks => chkE E sc asn c v && chkKs E sc asn cs ks
    | [] => false
  | .bor _ _, _ => false
def chkR (E : CE) (sc asn : Scope) : Sr → Expr → Expr → Bool
  | .seq a, _, e => chkE E sc asn a e
  | .rng1 a, _, e => match e with
    | .Call (.Name f _) [x] [] _ => decide (f = ("range" : Str)) && gl sc f && notStar x && chkE E sc asn a x
    | _ => false
  | .rng2 a b, _, e => match e with
    | .Call (.Name f _) [x, y] [] _ => decide (f = ("range" : Str)) && gl sc f && notStar x && notStar y && chkE E sc asn a x && chkE E sc asn b y
    | _ => false
  | .rng3 a b c, _, e => match e with
    | .Call (.Name f _) [x, y, z] [] _ => decide (f = ("range" : Str)) && gl sc f && notStar x && notStar y && notStar z && chkE E sc asn a x && chkE E sc asn b y && chkE E sc asn c z
    | _ => false
  | .zip a b, t, e => match e with
    | .Call (.Name f _) [x, y] [] _ => decide (f = ("zip" : Str)) && gl sc f && notStar x && notStar y && isTupE t && chkE E sc asn a x && chkE E sc asn b y
    | _ => false
  | .enu a, t, e => match e with
    | .Call (.Name f _) [x] [] _ => decide (f = ("enumerate" : Str)) && gl sc f && notStar x && isTupE t && chkE E sc asn a x
    | _ => false
end
end

/-! ### it suffices -/
theorem vis_ok {sc : Scope} {x : Str} (h : vis sc x = true) : Vis sc x := by
  unfold vis at h
  split at h
  · rename_i q
    exact .inl q
  · rename_i q
    exact .inr (.inl q)
  · rename_i q
    exact .inr (.inr q)
  · cases h
theorem gl_ok {X : Cx} {sc : Scope} {x : Str} (hs : X.env.scope = sc) (h : gl sc x = true) : Gl X x := by
  unfold gl at h
  split at h
  · rename_i q
    show X.env.scope.names.lookup x = _
    rw [hs]
    exact q
  · cases h
theorem okNm_ok {x : Str} (h : okNm x = true) : (x == ("__debug__" : Str)) = false ∧ (x == ("__classdict__" : Str)) = false := by
  unfold okNm at h
  rw [Bool.and_eq_true, Bool.not_eq_true', Bool.not_eq_true'] at h
  exact h
theorem loc_ok {sc : Scope} {x : Str} (h : isLoc sc x = true) : sc.names.lookup x = some .local ∨ sc.names.lookup x = some .cell := by
  unfold isLoc at h
  split at h
  · rename_i q
    exact .inl q
  · rename_i q
    exact .inr q
  · cases h
theorem bi_b1 (o : B1) : b1N o ∈ biNames := by cases o <;> decide +kernel
theorem bi_b2 (o : B2) : b2N o ∈ biNames := by cases o <;> decide +kernel
theorem bi_ty (o : Ty) : tyN o ∈ biNames := by cases o <;> decide +kernel
theorem bi_ve : ("ValueError" : Str) ∈ biNames := by decide +kernel
theorem bi_srt : ("sorted" : Str) ∈ biNames := by decide +kernel
theorem bi_set : ("set" : Str) ∈ biNames := by decide +kernel
theorem bi_list : ("list" : Str) ∈ biNames := by decide +kernel
theorem bi_len : ("len" : Str) ∈ biNames := by decide +kernel
theorem bi_isi : ("isinstance" : Str) ∈ biNames := by decide +kernel
theorem bi_rng : ("range" : Str) ∈ biNames := by decide +kernel
theorem bi_zip : ("zip" : Str) ∈ biNames := by decide +kernel
theorem bi_enu : ("enumerate" : Str) ∈ biNames := by decide +kernel
section
variable {Γ : Call} {E : CE} {exs : EX}
theorem Wf.blk {X : Cx} {sc asn : Scope} (w : Wf X Γ E exs sc (isLoc asn)) (hh : E.hot = false) (scope : Scope) (s : Shared) (H : Hp) (Ca : Addr) (cl : List (Str × Addr)) (fp : List Addr) :
    Wf (blkX X scope s H Ca cl fp) Γ E exs (relS scope sc) (isLoc scope) where
  scp := by
    show relS scope X.env.scope = _
    rw [w.scp]
  calm := w.calm
  nd := w.nd
  gd := w.gd
  un := w.un
  glb := w.glb
  bi := w.bi
  fn := fun hh f i h => ⟨(w.fn hh f i h).ex⟩
  asn := fun x h => by
    rcases loc_ok h with q | q
    · have z : (relS scope sc).names.lookup x = some .local := lookup_relS_keep (by decide) q
      exact ⟨.inl z, .inr z⟩
    · have z : (relS scope sc).names.lookup x = some .cell := lookup_relS_keep (by decide) q
      exact ⟨.inr z, .inl (by show (scope.names.lookup x == some .cell) = true; rw [q]; rfl)⟩
  xs := w.xs
  hx := fun z => absurd (hh.symm.trans z) Bool.false_ne_true
  lm := fun h => ⟨(w.lm h).ex⟩
  sd := w.sd
  tw := w.tw
theorem map_fst {cons : List (Str × D)} {k : Nat} {x : Str} (h : (cons[k]?).map (·.1) = some x) : ∃ d, cons[k]? = some (x, d) := by
  obtain ⟨⟨y, d⟩, h1, h2⟩ := Option.map_eq_some_iff.mp h
  cases h2
  exact ⟨d, h1⟩
/-- both readings of an expression -/
def Both (X : Cx) (exs : EX) (e : Expr) (f : Sg → R Val) : Prop := Snd X exs e f ∧ (noIf e = true → SndT X exs e (tr f))
theorem both_plain {X : Cx} {e : Expr} {f : Sg → R Val} (h : Snd X exs e f) (p : plainTest e = true) : Both X exs e f := ⟨h, fun _ => sndT_plain p h⟩
structure CompParts (X : Cx) (Γ : Call) (E : CE) (exs : EX) (tg iter : Expr) (ifs : List Expr) (elt : Expr) (scope : Scope) (e : C) (t : Tg) (s : Sr) (q : Co) (own : List Nat) : Prop where
  okB : BlkOk X.N X.env.scope scope (own.map fun i => (X.N.getD i "", i))
  hown : (own.map fun i => (X.N.getD i ("" : Str), i)).map (·.2) = own
  tin : ∀ j, j ∈ tgIx t → j ∈ own
  hg : ∀ s H Ca cl fp, PG (blkX X scope s H Ca cl fp) tg (tgRd X.K t)
  hi : SndI X exs tg iter (evr Γ E.cons s)
  hq : ∀ s H Ca cl fp, SndQ (blkX X scope s H Ca cl fp) exs ifs (evq Γ E.cons q)
  he : ∀ s H Ca cl fp, Snd (blkX X scope s H Ca cl fp) exs elt (ev Γ E.cons e)
  hs : ∀ x, foldedSetIterable iter X.env x = pure x
structure CompParts2 (X : Cx) (Γ : Call) (E : CE) (exs : EX) (tg iter tg1 iter1 : Expr) (ifs ifs1 : List Expr) (elt : Expr) (scope : Scope) (e : C) (t : Tg) (s : Sr) (q : Co) (t1 : Tg) (s1 : Sr) (q1 : Co) (own own1 : List Nat) : Prop where
  okB : BlkOk X.N X.env.scope scope (own.map fun i => (X.N.getD i "", i))
  hown : (own.map fun i => (X.N.getD i ("" : Str), i)).map (·.2) = own
  tin : ∀ j, j ∈ tgIx t → j ∈ own
  tin1 : ∀ j, j ∈ tgIx t1 → j ∈ own1
  sub : ∀ j, j ∈ own1 → j ∈ own
  hg : ∀ s H Ca cl fp, PG (blkX X scope s H Ca cl fp) tg (tgRd X.K t)
  hg1 : ∀ s H Ca cl fp, PG (blkX X scope s H Ca cl fp) tg1 (tgRd X.K t1)
  hi : SndI X exs tg iter (evr Γ E.cons s)
  hq : ∀ s H Ca cl fp, SndQ (blkX X scope s H Ca cl fp) exs ifs (evq Γ E.cons q)
  hi1 : ∀ s H Ca cl fp, SndI (blkX X scope s H Ca cl fp) exs tg1 iter1 (evr Γ E.cons s1)
  hq1 : ∀ s H Ca cl fp, SndQ (blkX X scope s H Ca cl fp) exs ifs1 (evq Γ E.cons q1)
  he : ∀ s H Ca cl fp, Snd (blkX X scope s H Ca cl fp) exs elt (ev Γ E.cons e)
  hs : ∀ x, foldedSetIterable iter X.env x = pure x
  hs1 : ∀ env x, foldedSetIterable iter1 env x = pure x
theorem map_own {N : List Str} (own : List Nat) : (own.map fun i => (N.getD i ("" : Str), i)).map (·.2) = own := by
  induction own with
  | nil => rfl
  | cons a r ih =>
    rw [List.map_cons, List.map_cons, ih]
mutual
theorem snd_all : ∀ (c : C) (E : CE) (sc asn : Scope) (X : Cx) (e : Expr), Wf X Γ E exs sc (isLoc asn) → chkE X.N E sc asn c e = true → Both X exs e (ev Γ E.cons c)
  | .int i, E, sc, asn, X, e, w, h => by
    simp only [chkE] at h
    split at h
    · rw [← of_decide_eq_true h]
      exact both_plain (snd_int i) rfl
    · cases h
  | .bl b, E, sc, asn, X, e, w, h => by
    simp only [chkE] at h
    split at h
    · rw [← eq_of_beq h]
      exact both_plain (snd_bl b) rfl
    · cases h
  | .non, E, sc, asn, X, e, w, h => by
    simp only [chkE] at h
    split at h
    · exact both_plain snd_non rfl
    · cases h
  | .str x, E, sc, asn, X, e, w, h => by
    simp only [chkE] at h
    split at h
    · rw [← of_decide_eq_true h]
      exact both_plain (snd_str x) rfl
    · cases h
  | .var i, E, sc, asn, X, e, w, h => by
    simp only [chkE] at h
    split at h
    · simp only [Bool.and_eq_true, decide_eq_true_eq] at h
      obtain ⟨n1, n2⟩ := okNm_ok h.2
      exact both_plain (snd_var h.1.1 (w.scp ▸ vis_ok h.1.2) n1 n2) rfl
    · cases h
  | .glb k, E, sc, asn, X, e, w, h => by
    simp only [chkE] at h
    split at h
    · simp only [Bool.and_eq_true, decide_eq_true_eq] at h
      obtain ⟨d, hd⟩ := map_fst h.1.1
      exact both_plain (snd_glb hd (gl_ok w.scp h.1.2) (w.glb k _ d hd) (okNm_ok h.2).1) rfl
    · cases h
  | .bin o a b, E, sc, asn, X, e, w, h => by
    simp only [chkE] at h
    split at h
    · simp only [Bool.and_eq_true] at h
      have ha := (snd_all a E sc asn X _ w h.1.2).1
      have hb := (snd_all b E sc asn X _ w h.2).1
      rw [← of_decide_eq_true (show decide (opOf o = _) = true from h.1.1)]
      exact both_plain (snd_bin o ha hb) rfl
    · cases h
  | .neg a, E, sc, asn, X, e, w, h => by
    simp only [chkE] at h
    split at h
    · exact both_plain (snd_neg (snd_all a E sc asn X _ w h).1) rfl
    · cases h
  | .cmp o a b, E, sc, asn, X, e, w, h => by
    simp only [chkE] at h
    split at h
    · simp only [Bool.and_eq_true] at h
      have ha := (snd_all a E sc asn X _ w h.1.2).1
      have hb := (snd_all b E sc asn X _ w h.2).1
      rw [← of_decide_eq_true (show decide (copOf o = _) = true from h.1.1.1)]
      exact ⟨snd_cmp w.un o ha hb (notSet_marks h.1.1.2 _), fun _ => sndT_cmp' w.un o ha hb (notSet_marks h.1.1.2 _)⟩
    · cases h
  | .chain o p a b c, E, sc, asn, X, e, w, h => by
    simp only [chkE] at h
    split at h
    · simp only [Bool.and_eq_true] at h
      have ha := (snd_all a E sc asn X _ w h.1.1.2).1
      have hb := (snd_all b E sc asn X _ w h.1.2).1
      have hc := (snd_all c E sc asn X _ w h.2).1
      rw [← of_decide_eq_true (show decide (copOf o = _) = true from h.1.1.1.1.1), ← of_decide_eq_true (show decide (copOf p = _) = true from h.1.1.1.1.2)]
      exact ⟨snd_chain w.un o p ha hb hc (notSet_marks h.1.1.1.2 _), fun _ => sndT_chain' w.un o p ha hb hc (notSet_marks h.1.1.1.2 _)⟩
    · cases h
  | .and a b, E, sc, asn, X, e, w, h => by
    simp only [chkE] at h
    split at h
    · rename_i x y r pos
      simp only [Bool.and_eq_true] at h
      have ha := snd_all a E sc asn X _ w h.1.2
      obtain ⟨z, hz, hb, hn⟩ : ∃ z, Rest X .And (y :: r) pos z ∧ Both X exs z (ev Γ E.cons b) ∧ noIf z = true := by
        have h2 := h.2
        split at h2
        · rename_i he
          rw [Bool.and_eq_true] at h2
          rw [List.isEmpty_iff] at he
          subst he
          exact ⟨y, .inl rfl, snd_all b E sc asn X _ w h2.2, h2.1⟩
        · exact ⟨_, .inr rfl, snd_all b E sc asn X _ w h2, rfl⟩
      exact ⟨snd_and hz ha.1 hb.1, fun _ => sndT_and hz (ha.2 h.1.1) (hb.2 hn)⟩
    · cases h
  | .or a b, E, sc, asn, X, e, w, h => by
    simp only [chkE] at h
    split at h
    · rename_i x y r pos
      simp only [Bool.and_eq_true] at h
      have ha := snd_all a E sc asn X _ w h.1.2
      obtain ⟨z, hz, hb, hn⟩ : ∃ z, Rest X .Or (y :: r) pos z ∧ Both X exs z (ev Γ E.cons b) ∧ noIf z = true := by
        have h2 := h.2
        split at h2
        · rename_i he
          rw [Bool.and_eq_true] at h2
          rw [List.isEmpty_iff] at he
          subst he
          exact ⟨y, .inl rfl, snd_all b E sc asn X _ w h2.2, h2.1⟩
        · exact ⟨_, .inr rfl, snd_all b E sc asn X _ w h2, rfl⟩
      exact ⟨snd_or hz ha.1 hb.1, fun _ => sndT_or hz (ha.2 h.1.1) (hb.2 hn)⟩
    · cases h
  | .not a, E, sc, asn, X, e, w, h => by
    simp only [chkE] at h
    split at h
    · rw [Bool.and_eq_true] at h
      have ha := snd_all a E sc asn X _ w h.2
      exact ⟨snd_not ha.1, fun _ => sndT_not (ha.2 h.1)⟩
    · cases h
  | .ite c a b, E, sc, asn, X, e, w, h => by
    simp only [chkE] at h
    split at h
    · simp only [Bool.and_eq_true] at h
      have hc := (snd_all c E sc asn X _ w h.1.1.2).2 h.1.1.1
      have ha := (snd_all a E sc asn X _ w h.1.2).1
      have hb := (snd_all b E sc asn X _ w h.2).1
      exact ⟨snd_ite hc ha hb, fun q => by cases q⟩
    · cases h
  | .tup es, E, sc, asn, X, e, w, h => by
    simp only [chkE] at h
    split at h
    · exact both_plain (snd_tup (snd_es es E sc asn X _ w h)) rfl
    · cases h
  | .lst es, E, sc, asn, X, e, w, h => by
    simp only [chkE] at h
    split at h
    · exact both_plain (snd_lst (snd_es es E sc asn X _ w h)) rfl
    · cases h
  | .idx a b, E, sc, asn, X, e, w, h => by
    simp only [chkE] at h
    split at h
    · simp only [Bool.and_eq_true] at h
      exact both_plain (snd_idx h.1.1 (snd_all a E sc asn X _ w h.1.2).1 (snd_all b E sc asn X _ w h.2).1) rfl
    · cases h
  | .idxv i b, E, sc, asn, X, e, w, h => by
    simp only [chkE] at h
    split at h
    · simp only [Bool.and_eq_true, decide_eq_true_eq] at h
      obtain ⟨n1, n2⟩ := okNm_ok h.1.1.2
      exact both_plain (snd_idxv h.1.1.1.1 (w.scp ▸ vis_ok h.1.1.1.2) n1 n2 h.1.2 (snd_all b E sc asn X _ w h.2).1) rfl
    · cases h
  | .lenv i, E, sc, asn, X, e, w, h => by
    simp only [chkE] at h
    split at h
    · simp only [Bool.and_eq_true, decide_eq_true_eq] at h
      obtain ⟨⟨⟨⟨rfl, h2⟩, h3⟩, h4⟩, h5⟩ := h
      obtain ⟨n1, n2⟩ := okNm_ok h5
      exact both_plain (snd_lenv h3 (w.scp ▸ vis_ok h4) n1 n2 (gl_ok w.scp h2) (w.bi _ bi_len) (by have := w.un; omega) w.gd) rfl
    · cases h
  | .cpv i, E, sc, asn, X, e, w, h => by
    simp only [chkE] at h
    split at h
    · simp only [Bool.and_eq_true, decide_eq_true_eq] at h
      obtain ⟨⟨⟨⟨rfl, h2⟩, h3⟩, h4⟩, h5⟩ := h
      obtain ⟨n1, n2⟩ := okNm_ok h5
      exact both_plain (snd_cpv h3 (w.scp ▸ vis_ok h4) n1 n2 (gl_ok w.scp h2) (w.bi _ bi_list) (by have := w.un; omega) w.gd) rfl
    · cases h
  | .slc a lo hi, E, sc, asn, X, e, w, h => by
    simp only [chkE] at h
    split at h
    · simp only [Bool.and_eq_true] at h
      exact both_plain (snd_slc (snd_all a E sc asn X _ w h.1.1).1 (snd_o lo E sc asn X _ w h.1.2) (snd_o hi E sc asn X _ w h.2)) rfl
    · cases h
  | .call f n as, E, sc, asn, X, e, w, h => by
    simp only [chkE] at h
    split at h
    · rename_i x p es pos
      simp only [Bool.and_eq_true, Bool.not_eq_true'] at h
      obtain ⟨⟨⟨⟨⟨hh, h1⟩, h2⟩, h3⟩, h4⟩, h5⟩ := h
      split at h1
      · rename_i i hf
        rw [Bool.and_eq_true, decide_eq_true_eq, decide_eq_true_eq] at h1
        obtain ⟨rfl, rfl⟩ := h1
        have F := w.fn hh f i hf
        have hs := snd_as as E sc asn X es w h5
        cases es with
        | nil =>
          cases as with
          | nil => exact both_plain (snd_call0 F w.gd (gl_ok w.scp h2) (okNm_ok h3).1) rfl
          | val _ _ => cases h5
          | bor _ _ => cases h5
        | cons e es =>
          rw [List.all_cons, Bool.and_eq_true] at h4
          exact both_plain (snd_call F w.gd (gl_ok w.scp h2) (okNm_ok h3).1 h4.1 h4.2 hs) rfl
      · cases h1
    · cases h
  | .b1 o a, E, sc, asn, X, e, w, h => by
    simp only [chkE] at h
    split at h
    · simp only [Bool.and_eq_true, decide_eq_true_eq] at h
      obtain ⟨⟨⟨⟨hh, rfl⟩, h2⟩, h3⟩, h4⟩ := h
      exact both_plain (snd_b1 o (fun z => w.calm (by rw [z] at hh; simpa using hh)) w.gd (by have := w.un; omega) (gl_ok w.scp h2) (w.bi _ (bi_b1 o)) h3 (snd_all a E sc asn X _ w h4).1) rfl
    · cases h
  | .b2 o a b, E, sc, asn, X, e, w, h => by
    simp only [chkE] at h
    split at h
    · simp only [Bool.and_eq_true, decide_eq_true_eq] at h
      obtain ⟨⟨⟨⟨⟨⟨hh, rfl⟩, h2⟩, h3⟩, h4⟩, h5⟩, h6⟩ := h
      exact both_plain (snd_b2 (w.calm (by simpa using hh)) o (gl_ok w.scp h2) (w.bi _ (bi_b2 o)) h3 h4 (snd_all a E sc asn X _ w h5).1 (snd_all b E sc asn X _ w h6).1) rfl
    · cases h
  | .isi a t, E, sc, asn, X, e, w, h => by
    simp only [chkE] at h
    split at h
    · simp only [Bool.and_eq_true, decide_eq_true_eq] at h
      obtain ⟨⟨⟨⟨⟨rfl, h2⟩, rfl⟩, h4⟩, h5⟩, h6⟩ := h
      exact both_plain (snd_isi t (gl_ok w.scp h2) (w.bi _ bi_isi) (gl_ok w.scp h4) (w.bi _ (bi_ty t)) h5 (snd_all a E sc asn X _ w h6).1) rfl
    · cases h
  | .mt o a b, E, sc, asn, X, e, w, h => by
    simp only [chkE] at h
    split at h
    · simp only [Bool.and_eq_true, decide_eq_true_eq] at h
      obtain ⟨⟨⟨⟨⟨rfl, h2⟩, h3⟩, h4⟩, h5⟩, h6⟩ := h
      exact both_plain (snd_mt (by have := w.un; omega) o h2 h3 h4 (snd_all a E sc asn X _ w h5).1 (snd_all b E sc asn X _ w h6).1) rfl
    · cases h
  | .srtset a, E, sc, asn, X, e, w, h => by
    simp only [chkE] at h
    split at h
    · simp only [Bool.and_eq_true, decide_eq_true_eq] at h
      obtain ⟨⟨⟨⟨⟨⟨hh, rfl⟩, h2⟩, rfl⟩, h4⟩, h5⟩, h6⟩ := h
      exact both_plain (snd_srtset (w.calm (by simpa using hh)) (by have := w.un; omega) (gl_ok w.scp h2) (w.bi _ bi_srt) (gl_ok w.scp h4) (w.bi _ bi_set) h5 (snd_all a E sc asn X _ w h6).1) rfl
    · cases h
  | .pop i a, E, sc, asn, X, e, w, h => by
    simp only [chkE] at h
    split at h
    · simp only [Bool.and_eq_true, decide_eq_true_eq] at h
      obtain ⟨⟨⟨⟨⟨⟨rfl, h2⟩, h3⟩, h4⟩, h5⟩, h6⟩, h7⟩ := h
      obtain ⟨n1, n2⟩ := okNm_ok h4
      exact both_plain (snd_pop h2 (w.scp ▸ vis_ok h3) n1 n2 h5 h6 (snd_all a E sc asn X _ w h7).1) rfl
    · cases h
  | .frz a, E, sc, asn, X, e, w, h => by
    simp only [chkE, Bool.and_eq_true] at h
    obtain ⟨h1, h2⟩ := snd_all a E sc asn X e w h.2
    have e1 : tr (fun g => bnd (ev Γ E.cons a g) fun x g => ret (Val.v x.toD) g) = tr (ev Γ E.cons a) := by
      funext g
      show bnd (bnd (ev Γ E.cons a g) fun x g => ret (Val.v x.toD) g) (fun x g => opt (truth x.toD) g) = bnd (ev Γ E.cons a g) fun x g => opt (truth x.toD) g
      rcases ev Γ E.cons a g with _ | ⟨x | x, g1⟩ <;> rfl
    exact ⟨snd_frz h1, fun hn => by show SndT X exs e (tr fun g => bnd (ev Γ E.cons a g) fun x g => ret (Val.v x.toD) g); rw [e1]; exact h2 hn⟩
  | .lenset a, E, sc, asn, X, e, w, h => by
    simp only [chkE] at h
    split at h
    · simp only [Bool.and_eq_true, decide_eq_true_eq] at h
      obtain ⟨⟨⟨⟨⟨⟨hh, rfl⟩, h2⟩, rfl⟩, h4⟩, h5⟩, h6⟩ := h
      exact both_plain (snd_lenset (w.calm (by simpa using hh)) (gl_ok w.scp h2) (w.bi _ bi_len) (gl_ok w.scp h4) (w.bi _ bi_set) h5 (snd_all a E sc asn X _ w h6).1) rfl
    · cases h
  | .callK f n q as, E, sc, asn, X, e, w, h => by
    simp only [chkE] at h
    split at h
    · rename_i x p ks pos
      simp only [Bool.and_eq_true, Bool.not_eq_true'] at h
      obtain ⟨⟨⟨⟨⟨hh, h1⟩, h2⟩, h3⟩, h4⟩, h5⟩ := h
      split at h1
      · rename_i i hf
        simp only [Bool.and_eq_true, decide_eq_true_eq] at h1
        obtain ⟨⟨⟨rfl, rfl⟩, h6⟩, h7⟩ := h1
        exact both_plain (snd_callK (w.fn hh f i hf) w.gd (gl_ok w.scp h2) (okNm_ok h3).1 h4 h7 h6 (snd_ks as E sc asn X ks w h5)) rfl
      · cases h1
    · cases h
  | .callF f a k, E, sc, asn, X, e, w, h => by
    simp only [chkE] at h
    split at h
    · rename_i x p y j jj p2 pos
      simp only [Bool.and_eq_true, decide_eq_true_eq, Bool.not_eq_true'] at h
      obtain ⟨⟨⟨⟨⟨⟨hh, h1⟩, rfl⟩, h2⟩, h3⟩, h4⟩, h5⟩ := h
      split at h1
      · rename_i i hf
        rw [Bool.and_eq_true, decide_eq_true_eq, decide_eq_true_eq] at h1
        obtain ⟨rfl, hl⟩ := h1
        exact both_plain (snd_callF (w.fn hh f i hf) hl w.gd (gl_ok w.scp h2) (okNm_ok h3).1 h4 (snd_all a E sc asn X _ w h5).1) rfl
      · cases h1
    · cases h
  | .isx i k, E, sc, asn, X, e, w, h => by
    simp only [chkE] at h
    split at h
    · simp only [Bool.and_eq_true, decide_eq_true_eq] at h
      obtain ⟨⟨⟨⟨⟨⟨⟨⟨hh, rfl⟩, h2⟩, h3⟩, h4⟩, h5⟩, h6⟩, h7⟩, h8⟩ := h
      obtain ⟨n1, n2⟩ := okNm_ok h5
      obtain ⟨⟨nm, two⟩, h9, h10⟩ := Option.map_eq_some_iff.mp h8
      cases h10
      exact both_plain (snd_isx h3 (w.scp ▸ vis_ok h4) n1 n2 (gl_ok w.scp h2) (w.bi _ bi_isi) (gl_ok w.scp h6) (okNm_ok h7).1 w.xs h9 (w.hx hh)) rfl
    · cases h
  | .isV i, E, sc, asn, X, e, w, h => by
    simp only [chkE] at h
    split at h
    · simp only [Bool.and_eq_true, decide_eq_true_eq] at h
      obtain ⟨⟨⟨⟨⟨⟨⟨hh, rfl⟩, h2⟩, h3⟩, h4⟩, h5⟩, rfl⟩, h7⟩ := h
      obtain ⟨n1, n2⟩ := okNm_ok h5
      exact both_plain (snd_isV h3 (w.scp ▸ vis_ok h4) n1 n2 (gl_ok w.scp h2) (w.bi _ bi_isi) (gl_ok w.scp h7) (w.bi _ bi_ve) w.xs (w.hx hh)) rfl
    · cases h
  | .fld i j, E, sc, asn, X, e, w, h => by
    simp only [chkE] at h
    split at h
    · simp only [Bool.and_eq_true, decide_eq_true_eq] at h
      obtain ⟨⟨⟨⟨⟨hh, rfl⟩, hj⟩, h3⟩, h4⟩, h5⟩ := h
      obtain ⟨n1, n2⟩ := okNm_ok h5
      exact both_plain (snd_fld h3 (w.scp ▸ vis_ok h4) n1 n2 hj w.xs (w.hx hh) fun k C hC => match j, hj with
        | 0, _ => (w.xs.fl k C hC).1
        | 1, _ => (w.xs.fl k C hC).2) rfl
    · cases h
  | .said hd a, E, sc, asn, X, e, w, h => by
    simp only [chkE] at h
    split at h
    · rename_i f p pars body scope lpos pos
      simp only [Bool.and_eq_true, decide_eq_true_eq, Bool.not_eq_true'] at h
      obtain ⟨⟨⟨⟨⟨⟨⟨⟨hh, hl⟩, rfl⟩, h2⟩, h3⟩, rfl⟩, h4⟩, h5⟩, h6⟩ := h
      have ep : pars = noArgs := by
        unfold noPar at h4
        split at h4
        · rfl
        · cases h4
      subst ep
      obtain ⟨k, c, P, TB, q1, q2, q3, q4⟩ := (w.lm hl).ex
      have Ls : LamX.LamS X.env.scope scope := w.scp ▸ LamX.lamS_by h5
      refine both_plain (snd_said (ex := E.excs) (w.sd hl) w.xs w.gd TB q1 q2 q3 (gl_ok w.scp h2) (okNm_ok h3).1 Ls fun A outer s H Ech f' c' ga ra => ?_) rfl
      refine (snd_all a E.deep scope scope (LamX.lamCx X A outer s H Ech scope f' c') body ⟨rfl, fun _ => rfl, w.nd, ga, ?_, w.glb, w.bi, fun _ f i hf => ?_, fun x hx => ?_, w.xs, (fun z => nomatch z), (fun z => nomatch z), (fun z => nomatch z), w.tw⟩ h6).1
      · have := ra.un
        show (A.deeper (LamX.lamEnv X scope s.heap.objs.size f' c')).units + 65 < _
        omega
      · have hf' : (if f < deepAt then none else E.fns (f - deepAt)) = some i := hf
        split at hf'
        · cases hf'
        · rename_i hlt
          obtain ⟨b, fd, b1, b2, b3, b4⟩ := q4 _ _ hf'
          rw [show f - deepAt + deepAt = f from by omega] at b4
          exact ⟨b, fd, k, b1, b2, b3, ra, b4⟩
      · exfalso
        rcases loc_ok hx with z | z
        · exact (Ls.own _ (PySem.mem_of_lookup z)).1 rfl
        · exact (Ls.own _ (PySem.mem_of_lookup z)).2 rfl
    · cases h
  | .comp e t s q own, E, sc, asn, X, x, w, h => by
    simp only [chkE] at h
    split at h
    · rename_i elt tg iter ifs a scope pos
      simp only [Bool.and_eq_true, decide_eq_true_eq] at h
      obtain ⟨⟨⟨⟨⟨⟨⟨⟨hh, rfl⟩, h2⟩, h3⟩, h4⟩, h5⟩, h6⟩, h7⟩, h8⟩ := h
      have hh : E.hot = false := by simpa using hh
      have wb := fun s H Ca cl fp => w.blk hh scope s H Ca cl fp
      have okB : BlkOk X.N X.env.scope scope (own.map fun i => (X.N.getD i "", i)) := w.scp ▸ blkOk_by h2
      exact both_plain (snd_comp (w.calm hh) w.nd okB (map_own own) (fun j hj => by simpa using List.all_eq_true.mp h3 j hj)
        (fun s H Ca cl fp => pg_of ((wb s H Ca cl fp).calm hh) (wb s H Ca cl fp).nd (fun x hx => by rw [(wb s H Ca cl fp).scp]; exact (wb s H Ca cl fp).asn x hx) t tg h4)
        (snd_r s E sc asn X tg iter w h5) (fun s H Ca cl fp => snd_q q E (relS scope sc) scope _ ifs (wb s H Ca cl fp) h7) (fun s H Ca cl fp => (snd_all e E (relS scope sc) scope _ elt (wb s H Ca cl fp) h8).1)
        (notSet_fold h6 X.env)) rfl
    · cases h
  | .comp2 e t s q t1 s1 q1 own own1, E, sc, asn, X, x, w, h => by
    simp only [chkE] at h
    split at h
    · rename_i elt tg iter ifs a tg1 iter1 ifs1 a1 scope pos
      simp only [Bool.and_eq_true, decide_eq_true_eq] at h
      obtain ⟨⟨⟨⟨⟨⟨⟨⟨⟨⟨⟨⟨⟨⟨⟨hh, rfl⟩, rfl⟩, h2⟩, h3⟩, h3b⟩, h3c⟩, h4⟩, h4b⟩, h5⟩, h6⟩, h7⟩, h9⟩, h10⟩, h11⟩, h8⟩ := h
      have hh : E.hot = false := by simpa using hh
      have wb := fun s H Ca cl fp => w.blk hh scope s H Ca cl fp
      have okB : BlkOk X.N X.env.scope scope (own.map fun i => (X.N.getD i "", i)) := w.scp ▸ blkOk_by h2
      exact both_plain (snd_comp2 (w.calm hh) w.nd okB (map_own own) (fun j hj => by simpa using List.all_eq_true.mp h3 j hj) (fun j hj => by simpa using List.all_eq_true.mp h3b j hj) (fun j hj => by simpa using List.all_eq_true.mp h3c j hj)
        (fun s H Ca cl fp => pg_of ((wb s H Ca cl fp).calm hh) (wb s H Ca cl fp).nd (fun x hx => by rw [(wb s H Ca cl fp).scp]; exact (wb s H Ca cl fp).asn x hx) t tg h4)
        (fun s H Ca cl fp => pg_of ((wb s H Ca cl fp).calm hh) (wb s H Ca cl fp).nd (fun x hx => by rw [(wb s H Ca cl fp).scp]; exact (wb s H Ca cl fp).asn x hx) t1 tg1 h4b)
        (snd_r s E sc asn X tg iter w h5) (fun s H Ca cl fp => snd_q q E (relS scope sc) scope _ ifs (wb s H Ca cl fp) h7) (fun s H Ca cl fp => snd_r s1 E (relS scope sc) scope _ tg1 iter1 (wb s H Ca cl fp) h9)
        (fun s H Ca cl fp => snd_q q1 E (relS scope sc) scope _ ifs1 (wb s H Ca cl fp) h11) (fun s H Ca cl fp => (snd_all e E (relS scope sc) scope _ elt (wb s H Ca cl fp) h8).1)
        (notSet_fold h6 X.env) (notSet_fold h10)) rfl
    · cases h
theorem snd_o : ∀ (c : Co) (E : CE) (sc asn : Scope) (X : Cx) (o : Option Expr), Wf X Γ E exs sc (isLoc asn) → chkO X.N E sc asn c o = true → SndO X exs o (evo Γ E.cons c)
  | .non, E, sc, asn, X, o, w, h => by
    simp only [chkO] at h
    split at h
    · exact sndO_non
    · cases h
  | .som a, E, sc, asn, X, o, w, h => by
    simp only [chkO] at h
    split at h
    · cases h
    · exact sndO_som (snd_all a E sc asn X _ w h).1
theorem snd_q : ∀ (c : Co) (E : CE) (sc asn : Scope) (X : Cx) (es : List Expr), Wf X Γ E exs sc (isLoc asn) → chkQ X.N E sc asn c es = true → SndQ X exs es (evq Γ E.cons c)
  | .non, E, sc, asn, X, es, w, h => by
    simp only [chkQ, List.isEmpty_iff] at h
    subst h
    exact sndQ_non
  | .som a, E, sc, asn, X, es, w, h => by
    simp only [chkQ] at h
    split at h
    · rw [Bool.and_eq_true] at h
      exact sndQ_som ((snd_all a E sc asn X _ w h.2).2 h.1)
    · cases h
theorem snd_es : ∀ (c : Cs) (E : CE) (sc asn : Scope) (X : Cx) (es : List Expr), Wf X Γ E exs sc (isLoc asn) → chkEs X.N E sc asn c es = true → SndA X exs es (evs Γ E.cons c)
  | .nil, E, sc, asn, X, es, w, h => by
    simp only [chkEs, List.isEmpty_iff] at h
    subst h
    exact sndA_nil
  | .cons c cs, E, sc, asn, X, es, w, h => by
    simp only [chkEs] at h
    split at h
    · simp only [Bool.and_eq_true] at h
      exact sndA_cons h.1.1 (snd_all c E sc asn X _ w h.1.2).1 (snd_es cs E sc asn X _ w h.2)
    · cases h
  | .star c cs, E, sc, asn, X, es, w, h => by
    simp only [chkEs] at h
    split at h
    · simp only [Bool.and_eq_true] at h
      exact sndA_star (snd_all c E sc asn X _ w h.1).1 (snd_es cs E sc asn X _ w h.2)
    · cases h
theorem snd_as : ∀ (c : As) (E : CE) (sc asn : Scope) (X : Cx) (es : List Expr), Wf X Γ E exs sc (isLoc asn) → chkAs X.N E sc asn c es = true → SndR X exs es (evas Γ E.cons c)
  | .nil, E, sc, asn, X, es, w, h => by
    simp only [chkAs, List.isEmpty_iff] at h
    subst h
    exact sndR_nil
  | .val c cs, E, sc, asn, X, es, w, h => by
    simp only [chkAs] at h
    split at h
    · simp only [Bool.and_eq_true] at h
      exact sndR_val h.1.1 (snd_all c E sc asn X _ w h.1.2).1 (snd_as cs E sc asn X _ w h.2)
    · cases h
  | .bor i cs, E, sc, asn, X, es, w, h => by
    simp only [chkAs] at h
    split at h
    · simp only [Bool.and_eq_true, decide_eq_true_eq] at h
      obtain ⟨n1, n2⟩ := okNm_ok h.1.2
      exact sndR_bor h.1.1.1 (w.scp ▸ vis_ok h.1.1.2) n1 n2 (snd_as cs E sc asn X _ w h.2)
    · cases h
theorem snd_ks : ∀ (c : As) (E : CE) (sc asn : Scope) (X : Cx) (ks : List Keyword), Wf X Γ E exs sc (isLoc asn) → chkKs X.N E sc asn c ks = true → SndK X exs ks (evas Γ E.cons c)
  | .nil, E, sc, asn, X, ks, w, h => by
    simp only [chkKs, List.isEmpty_iff] at h
    subst h
    exact sndK_nil
  | .val c cs, E, sc, asn, X, ks, w, h => by
    simp only [chkKs] at h
    split at h
    · simp only [Bool.and_eq_true] at h
      exact sndK_val (snd_all c E sc asn X _ w h.1).1 (snd_ks cs E sc asn X _ w h.2)
    · cases h
  | .bor i cs, E, sc, asn, X, ks, w, h => by
    simp only [chkKs] at h
    cases h
theorem snd_r : ∀ (c : Sr) (E : CE) (sc asn : Scope) (X : Cx) (tg e : Expr), Wf X Γ E exs sc (isLoc asn) → chkR X.N E sc asn c tg e = true → SndI X exs tg e (evr Γ E.cons c)
  | .seq a, E, sc, asn, X, tg, e, w, h => sndI_seq (snd_all a E sc asn X e w h).1
  | .rng1 a, E, sc, asn, X, tg, e, w, h => by
    simp only [chkR] at h
    split at h
    · simp only [Bool.and_eq_true, decide_eq_true_eq] at h
      obtain ⟨⟨⟨rfl, h2⟩, h3⟩, h4⟩ := h
      exact sndI_rng1 (gl_ok w.scp h2) (w.bi _ bi_rng) h3 (snd_all a E sc asn X _ w h4).1
    · cases h
  | .rng2 a b, E, sc, asn, X, tg, e, w, h => by
    simp only [chkR] at h
    split at h
    · simp only [Bool.and_eq_true, decide_eq_true_eq] at h
      obtain ⟨⟨⟨⟨⟨rfl, h2⟩, h3⟩, h4⟩, h5⟩, h6⟩ := h
      exact sndI_rng2 (gl_ok w.scp h2) (w.bi _ bi_rng) h3 h4 (snd_all a E sc asn X _ w h5).1 (snd_all b E sc asn X _ w h6).1
    · cases h
  | .rng3 a b c, E, sc, asn, X, tg, e, w, h => by
    simp only [chkR] at h
    split at h
    · simp only [Bool.and_eq_true, decide_eq_true_eq] at h
      obtain ⟨⟨⟨⟨⟨⟨⟨rfl, h2⟩, h3⟩, h4⟩, h5⟩, h6⟩, h7⟩, h8⟩ := h
      exact sndI_rng3 (gl_ok w.scp h2) (w.bi _ bi_rng) h3 h4 h5 (snd_all a E sc asn X _ w h6).1 (snd_all b E sc asn X _ w h7).1 (snd_all c E sc asn X _ w h8).1
    · cases h
  | .zip a b, E, sc, asn, X, tg, e, w, h => by
    simp only [chkR] at h
    split at h
    · simp only [Bool.and_eq_true, decide_eq_true_eq] at h
      obtain ⟨⟨⟨⟨⟨⟨rfl, h2⟩, h3⟩, h4⟩, h7⟩, h5⟩, h6⟩ := h
      cases tg <;> first | (cases h7; done) | skip
      exact sndI_zip (gl_ok w.scp h2) (w.bi _ bi_zip) h3 h4 (snd_all a E sc asn X _ w h5).1 (snd_all b E sc asn X _ w h6).1
    · cases h
  | .enu a, E, sc, asn, X, tg, e, w, h => by
    simp only [chkR] at h
    split at h
    · simp only [Bool.and_eq_true, decide_eq_true_eq] at h
      obtain ⟨⟨⟨⟨rfl, h2⟩, h3⟩, h7⟩, h4⟩ := h
      cases tg <;> first | (cases h7; done) | skip
      exact sndI_enu (gl_ok w.scp h2) (w.bi _ bi_enu) h3 (snd_all a E sc asn X _ w h4).1
    · cases h
end
end
end Z

/-! Z9: the checker for statements; a def keeps what the machine answers. -/
namespace Z
open PySem PySem.Spec PyProof.Rows L2

def swapOff (v : Expr) : Bool :=
  match v with
  | .Tuple vs _ _ => vs.all (foldedForSure 8)
  | _ => true
def isL (sc : Scope) (x : Str) : Bool :=
  match sc.names.lookup x with
  | some .local => true
  | _ => false
theorem isL_ok {sc : Scope} {x : Str} (h : isL sc x = true) : sc.names.lookup x = some .local := by
  unfold isL at h
  split at h
  · assumption
  · cases h
theorem swap_off {ts : List Expr} {v : Expr} (h : swapOff v = true) (env : Env) : swappedStores ts v env = pure none := by
  unfold swappedStores
  split
  · rename_i ts' vs' hm
    have hf : vs'.all (foldedForSure 8) = true := by
      split at hm
      · cases hm
        exact h
      · cases hm
        exact h
      · cases hm
    simp only [hf, if_true]
    split
    · rfl
    · split
      · rfl
      · split <;> rfl
  · rfl
/-- two names, of which one is a cell -/
def offTg (sc : Scope) : Expr → Bool
  | .Tuple [.Name x _, .Name y _] _ _ => !(isL sc x && isL sc y)
  | .Tuple [.Name _ _, .Tuple _ _ _] _ _ => true
  | _ => false
theorem isL_no {sc : Scope} {x : Str} (h : isL sc x = false) : sc.names.lookup x ≠ some .local := by
  intro e
  unfold isL at h
  rw [e] at h
  cases h
theorem fm_two {α β : Type} {f : α → Option β} {x y : α} (h : f x = none ∨ f y = none) : ([x, y].filterMap f).length ≠ 2 := by
  rw [List.filterMap_cons, List.filterMap_cons, List.filterMap_nil]
  rcases h with h | h
  · rw [h]
    cases f y <;> simp
  · rw [h]
    cases f x <;> simp
theorem swap_off2 {tg v : Expr} {env : Env} (h : offTg env.scope tg = true) : swappedStores [tg] v env = pure none := by
  unfold offTg at h
  split at h
  · rename_i x px y py k p
    rw [Bool.not_eq_true', Bool.and_eq_false_iff] at h
    have hk : ∀ z : Str, env.kindOf z = env.scope.names.lookup z := fun _ => rfl
    unfold swappedStores
    cases v with
    | Tuple vs k2 p2 =>
      dsimp only
      split
      · rfl
      · split
        · rfl
        · rw [if_pos]
          rw [Bool.or_eq_true]
          refine .inl (bne_iff_ne.mpr (fm_two ?_))
          rcases h with h | h
          · left
            have e : (env.kindOf x == some .local) = false := by rw [hk]; simpa using isL_no h
            simp only [e, Bool.false_and, Bool.false_eq_true, if_false]
          · right
            have e : (env.kindOf y == some .local) = false := by rw [hk]; simpa using isL_no h
            simp only [e, Bool.false_and, Bool.false_eq_true, if_false]
    | _ => rfl
  · unfold swappedStores
    cases v with
    | Tuple vs k2 p2 =>
      dsimp only
      split
      · rfl
      · split
        · rfl
        · rw [if_pos]
          rw [Bool.or_eq_true]
          exact .inl (bne_iff_ne.mpr (fm_two (.inr rfl)))
    | _ => rfl
  · cases h
theorem swap_two {x y : Str} {px py pt pt2 : Pos} {kt k2 : Nat} {a b : Expr} {env : Env} (hk : env.scope.kind = .function) (hx : env.scope.names.lookup x = some .local) (hy : env.scope.names.lookup y = some .local) (hl : py.line = px.line) (hxy : x ≠ y)
    (na : notStar a = true) (nb : notStar b = true) (hf : (foldedForSure 8 a && foldedForSure 8 b) = false) (hc : (constantsAlone 8 a && constantsAlone 8 b) = false) :
    swappedStores [.Tuple [.Name x px, .Name y py] kt pt] (.Tuple [a, b] k2 pt2) env = pure (some [x, y]) := by
  have k1 : env.kindOf x = some .local := hx
  have k2' : env.kindOf y = some .local := hy
  have bk : env.blockKind = .function := by
    unfold Env.blockKind
    rw [hk]
    rfl
  have hxy' : (x == y) = false := by simpa using hxy
  have ed : [x, y].eraseDups = [x, y] := by
    rw [List.eraseDups_cons]
    simp [Ne.symm hxy, List.eraseDups_cons]
  have al : [a, b].all (foldedForSure 8) = false := by
    simp only [List.all_cons, List.all_nil, Bool.and_true]
    exact hf
  have al2 : [a, b].all (constantsAlone 8) = false := by
    simp only [List.all_cons, List.all_nil, Bool.and_true]
    exact hc
  unfold swappedStores
  simp only [bk]
  simp [k1, k2', hl, ed, hf, hc, Expr.pos]
  intro h
  exfalso
  rcases h with h | h
  · cases a <;> first | (cases h; done) | (simp [notStar] at na; done)
  · cases b <;> first | (cases h; done) | (simp [notStar] at nb; done)

/-- what a slot held may be forgotten -/
theorem SR.forget {K : PySem.W.Frag} {G : Gh} {H : Hp} {g : Sg} {σ : L2.St} (sr : SR K exs G H g σ) : ∀ is : List Nat, SR K exs G H (wipeG g is) σ
  | [] => sr
  | i :: is => by
    have s := SR.forget sr is
    refine ⟨(List.length_set).trans s.len, fun j t q => ?_, s.tag, s.tbs⟩
    by_cases e : i = j
    · subst e
      have l : i < ((wipeG g is).set i .no).length := by
        rcases Nat.lt_or_ge i ((wipeG g is).set i .no).length with h | h
        · exact h
        · have : ((wipeG g is).set i .no)[i]? = some t := q
          rw [List.getElem?_eq_none h] at this
          cases this
      have : ((wipeG g is).set i .no)[i]? = some t := q
      rw [List.getElem?_set_self (by rw [List.length_set] at l; exact l)] at this
      cases this
      trivial
    · have : ((wipeG g is).set i .no)[j]? = some t := q
      rw [List.getElem?_set_ne e] at this
      exact s.ok j t this
section
variable (E : CE) (N : List Str)
mutual
def chkS (sc asn : Scope) : S → Stmt → Bool
  | .set i _ e, st => match st with
    | .Assign [.Name x _] v _ => decide (N[i]? = some x) && isLoc asn x && chkE N E sc asn e v && (!isCompr v || decide (sc.kind = .function))
    | _ => false
  | .par i j _ _ a b, st => match st with
    | .Assign [.Tuple [.Name x px, .Name y py] _ _] (.Tuple [u, v] _ _) _ => !E.hot && decide (N[i]? = some x) && decide (N[j]? = some y) && decide (i ≠ j) && decide (x ≠ y) && isL sc x && isL sc y && decide (sc.kind = .function) && decide (py.line = px.line) &&
      notStar u && notStar v && !(foldedForSure 8 u && foldedForSure 8 v) && !(constantsAlone 8 u && constantsAlone 8 v) && chkE N E sc asn a u && chkE N E sc asn b v
    | _ => false
  | .asg t e, st => match st with
    | .Assign [tg] v _ => !E.hot && chkTg (isLoc asn) N t tg && !isCompr v && (swapOff v || offTg sc tg) && chkE N E sc asn e v
    | _ => false
  | .put i k e, st => match st with
    | .Assign [.Subscript (.Name x _) u _] v _ => decide (N[i]? = some x) && vis sc x && okNm x && notSlice u && !isCompr v && chkE N E sc asn e v && chkE N E sc asn k u
    | _ => false
  | .app i e, st => match st with
    | .Expr (.Call (.Attribute (.Name x _) m p2) [v] [] p3) _ => decide (m = ("append" : Str)) && decide (N[i]? = some x) && vis sc x && okNm x && notStar v && (p2.endLine == p3.line) && chkE N E sc asn e v
    | _ => false
  | .ext i e, st => match st with
    | .Expr (.Call (.Attribute (.Name x _) m p2) [v] [] p3) _ => decide (m = ("extend" : Str)) && decide (N[i]? = some x) && vis sc x && okNm x && notStar v && (p2.endLine == p3.line) && chkE N E sc asn e v
    | _ => false
  | .exp e, st => match st with
    | .Expr v _ => !isCompr v && chkE N E sc asn e v
    | _ => false
  | .ret e, st => match st with
    | .Return (some v) _ => chkE N E sc asn e v
    | _ => false
  | .retN, st => match st with
    | .Return none _ => true
    | _ => false
  | .ite c a b, st => match st with
    | .If x u v _ => noIf x && chkE N E sc asn c x && chkSs sc asn a u && chkSs sc asn b v
    | _ => false
  | .whl c b, st => match st with
    | .While x u [] _ => noIf x && chkE N E sc asn c x && chkSs sc asn b u
    | _ => false
  | .for t s b, st => match st with
    | .For tg it u [] _ => !E.hot && chkTg (isLoc asn) N t tg && notSet it && chkR N E sc asn s tg it && chkSs sc asn b u
    | _ => false
  | .never, _ => true
  | .raise k, st => match st with
    | .Raise (some (.Call (.Name c _) [.Constant (.str _) _ _] [] _)) none _ => !E.hot && gl sc c && okNm c && decide (k ≠ 0) && (match E.excs k with
      | some i => decide (i.name = c) && !i.two
      | none => false)
    | _ => false
  | .raise2 k a b, st => match st with
    | .Raise (some (.Call (.Name c _) [x, y] [] _)) none _ => !E.hot && gl sc c && okNm c && notStar x && notStar y && (E.fns 0).isSome && chkE N E sc asn a x && chkE N E sc asn b y && (match E.excs k with
      | some i => decide (i.name = c) && i.two
      | none => false)
    | _ => false
  | .pass, st => match st with
    | .Pass _ => true
    | _ => false
  | .brk, st => match st with
    | .Break _ => true
    | _ => false
  | .cont, st => match st with
    | .Continue _ => true
    | _ => false
def chkSs (sc asn : Scope) : Ss → List Stmt → Bool
  | .nil, st => st.isEmpty
  | .cons s r, st => match st with
    | x :: xs => chkS sc asn s x && chkSs sc asn r xs
    | [] => false
  | .kil _ r, st => chkSs sc asn r st
  | .frz _ r, st => chkSs sc asn r st
end
end
section
variable {Γ : Call} {E : CE} {exs : EX}
/-- the parts of a comprehension -/
theorem comp_parts {e : C} {t : Tg} {s : Sr} {q : Co} {own : List Nat} {sc asn scope : Scope} {X : Cx} {elt tg iter : Expr} {ifs : List Expr} {a : Int} {pos : Pos} (w : Wf X Γ E exs sc (isLoc asn))
    (h : chkE X.N E sc asn (.comp e t s q own) (.ListComp elt [⟨tg, iter, ifs, a⟩] scope pos) = true) : E.hot = false ∧ a = 0 ∧ CompParts X Γ E exs tg iter ifs elt scope e t s q own := by
  simp only [chkE, Bool.and_eq_true, decide_eq_true_eq] at h
  obtain ⟨⟨⟨⟨⟨⟨⟨⟨hh, rfl⟩, h2⟩, h3⟩, h4⟩, h5⟩, h6⟩, h7⟩, h8⟩ := h
  have hh : E.hot = false := by simpa using hh
  have wb := fun s H Ca cl fp => w.blk hh scope s H Ca cl fp
  exact ⟨hh, rfl, w.scp ▸ blkOk_by h2, map_own own, fun j hj => by simpa using List.all_eq_true.mp h3 j hj,
    fun s H Ca cl fp => pg_of ((wb s H Ca cl fp).calm hh) (wb s H Ca cl fp).nd (fun x hx => by rw [(wb s H Ca cl fp).scp]; exact (wb s H Ca cl fp).asn x hx) t tg h4,
    snd_r s E sc asn X tg iter w h5, fun s H Ca cl fp => snd_q q E (relS scope sc) scope _ ifs (wb s H Ca cl fp) h7, fun s H Ca cl fp => (snd_all e E (relS scope sc) scope _ elt (wb s H Ca cl fp) h8).1, notSet_fold h6 X.env⟩
theorem comp2_parts {e : C} {t t1 : Tg} {s s1 : Sr} {q q1 : Co} {own own1 : List Nat} {sc asn scope : Scope} {X : Cx} {elt tg iter tg1 iter1 : Expr} {ifs ifs1 : List Expr} {a a1 : Int} {pos : Pos} (w : Wf X Γ E exs sc (isLoc asn))
    (h : chkE X.N E sc asn (.comp2 e t s q t1 s1 q1 own own1) (.ListComp elt [⟨tg, iter, ifs, a⟩, ⟨tg1, iter1, ifs1, a1⟩] scope pos) = true) : E.hot = false ∧ a = 0 ∧ a1 = 0 ∧ CompParts2 X Γ E exs tg iter tg1 iter1 ifs ifs1 elt scope e t s q t1 s1 q1 own own1 := by
  simp only [chkE, Bool.and_eq_true, decide_eq_true_eq] at h
  obtain ⟨⟨⟨⟨⟨⟨⟨⟨⟨⟨⟨⟨⟨⟨⟨hh, rfl⟩, rfl⟩, h2⟩, h3⟩, h3b⟩, h3c⟩, h4⟩, h4b⟩, h5⟩, h6⟩, h7⟩, h9⟩, h10⟩, h11⟩, h8⟩ := h
  have hh : E.hot = false := by simpa using hh
  have wb := fun s H Ca cl fp => w.blk hh scope s H Ca cl fp
  exact ⟨hh, rfl, rfl, w.scp ▸ blkOk_by h2, map_own own, fun j hj => by simpa using List.all_eq_true.mp h3 j hj, fun j hj => by simpa using List.all_eq_true.mp h3b j hj, fun j hj => by simpa using List.all_eq_true.mp h3c j hj,
    fun s H Ca cl fp => pg_of ((wb s H Ca cl fp).calm hh) (wb s H Ca cl fp).nd (fun x hx => by rw [(wb s H Ca cl fp).scp]; exact (wb s H Ca cl fp).asn x hx) t tg h4,
    fun s H Ca cl fp => pg_of ((wb s H Ca cl fp).calm hh) (wb s H Ca cl fp).nd (fun x hx => by rw [(wb s H Ca cl fp).scp]; exact (wb s H Ca cl fp).asn x hx) t1 tg1 h4b,
    snd_r s E sc asn X tg iter w h5, fun s H Ca cl fp => snd_q q E (relS scope sc) scope _ ifs (wb s H Ca cl fp) h7, fun s H Ca cl fp => snd_r s1 E (relS scope sc) scope _ tg1 iter1 (wb s H Ca cl fp) h9,
    fun s H Ca cl fp => snd_q q1 E (relS scope sc) scope _ ifs1 (wb s H Ca cl fp) h11, fun s H Ca cl fp => (snd_all e E (relS scope sc) scope _ elt (wb s H Ca cl fp) h8).1, notSet_fold h6 X.env, notSet_fold h10⟩
theorem compr_is {e : C} {v : Expr} {sc asn : Scope} {N : List Str} (h : chkE N E sc asn e v = true) (hc : isCompr v = true) : (∃ c t s q own elt tg iter ifs a scope pos, e = .comp c t s q own ∧ v = .ListComp elt [⟨tg, iter, ifs, a⟩] scope pos) ∨
    ∃ c t s q t1 s1 q1 own own1 elt tg iter ifs a tg1 iter1 ifs1 a1 scope pos, e = .comp2 c t s q t1 s1 q1 own own1 ∧ v = .ListComp elt [⟨tg, iter, ifs, a⟩, ⟨tg1, iter1, ifs1, a1⟩] scope pos := by
  cases e
  case frz a =>
    simp only [chkE, Bool.and_eq_true] at h
    rw [hc] at h
    exact absurd h.1 Bool.false_ne_true
  all_goals simp only [chkE] at h
  all_goals (split at h)
  all_goals first
    | (cases h; done)
    | (simp [isCompr] at hc; done)
    | exact .inl ⟨_, _, _, _, _, _, _, _, _, _, _, _, rfl, rfl⟩
    | exact .inr ⟨_, _, _, _, _, _, _, _, _, _, _, _, _, _, _, _, _, _, _, _, rfl, rfl⟩
variable {X : Cx} (po : PassesOwn (model X.prog X.w) X.A X.env X.xe) (fuel : Nat)
include po
mutual
theorem snd_st (sc asn : Scope) (w : Wf X Γ E exs sc (isLoc asn)) : ∀ (s : S) (st : Stmt), chkS E X.N sc asn s st = true → SndS X exs st (evS Γ E.cons fuel s)
  | .set i own e, st, h => by
    simp only [chkS] at h
    split at h
    · rename_i x p v pos
      simp only [Bool.and_eq_true, decide_eq_true_eq, Bool.or_eq_true, Bool.not_eq_true'] at h
      obtain ⟨⟨⟨h1, h2⟩, h3⟩, h4⟩ := h
      obtain ⟨l1, l2⟩ := w.asn x h2
      rw [← w.scp] at l1 l2
      cases hc : isCompr v with
      | false => exact sndS_set w.nd h1 l1 l2 hc (snd_all e E sc asn X v w h3).1
      | true =>
        have kd : X.env.blockKind = .function := by
          rcases h4 with h4 | h4
          · rw [hc] at h4
            cases h4
          · unfold Env.blockKind
            rw [w.scp, h4]
            rfl
        rcases compr_is h3 hc with ⟨c, t, s, q, ow, elt, tg, iter, ifs, a, scope, pos2, rfl, rfl⟩ | ⟨c, t, s, q, t1, s1, q1, ow, ow1, elt, tg, iter, ifs, a, tg1, iter1, ifs1, a1, scope, pos2, rfl, rfl⟩
        · obtain ⟨hh, rfl, P⟩ := comp_parts w h3
          exact sndS_setLc w.nd h1 l1 l2 kd (w.calm hh) P.okB P.hown P.tin P.hg P.hi P.hq P.he P.hs
        · obtain ⟨hh, rfl, rfl, P⟩ := comp2_parts w h3
          exact sndS_setLc2 w.nd h1 l1 l2 (w.calm hh) P.okB P.hown P.tin P.tin1 P.sub P.hg P.hg1 P.hi P.hq P.hi1 P.hq1 P.he P.hs P.hs1
    · cases h
  | .par i j p q a b, st, h => by
    simp only [chkS] at h
    split at h
    · simp only [Bool.and_eq_true, decide_eq_true_eq, Bool.not_eq_true'] at h
      obtain ⟨⟨⟨⟨⟨⟨⟨⟨⟨⟨⟨⟨⟨⟨hh, h1⟩, h2⟩, h3⟩, h4⟩, h5⟩, h6⟩, h7⟩, h8⟩, h9⟩, h10⟩, h11⟩, h12⟩, h13⟩, h14⟩ := h
      have e5 := isL_ok h5
      have e6 := isL_ok h6
      rw [← w.scp] at e5 e6 h7
      exact sndS_par (w.calm hh) w.nd h1 h2 h3 e5 e6 h9 h10 (swap_two h7 e5 e6 h8 h4 h9 h10 h11 h12) (snd_all a E sc asn X _ w h13).1 (snd_all b E sc asn X _ w h14).1
    · cases h
  | .asg t e, st, h => by
    simp only [chkS] at h
    split at h
    · simp only [Bool.and_eq_true, Bool.not_eq_true', Bool.or_eq_true] at h
      obtain ⟨⟨⟨⟨hh, h1⟩, h2⟩, h3⟩, h4⟩ := h
      exact sndS_asg (pg_of (w.calm hh) w.nd (fun x hx => by rw [w.scp]; exact w.asn x hx) t _ h1) (tg_notStar h1) h2 (h3.elim (fun z => swap_off z _) (fun z => swap_off2 (w.scp ▸ z))) (snd_all e E sc asn X _ w h4).1
    · cases h
  | .put i k e, st, h => by
    simp only [chkS] at h
    split at h
    · simp only [Bool.and_eq_true, decide_eq_true_eq, Bool.not_eq_true'] at h
      obtain ⟨⟨⟨⟨⟨⟨h1, h2⟩, h3⟩, h4⟩, h5⟩, h6⟩, h7⟩ := h
      obtain ⟨n1, n2⟩ := okNm_ok h3
      exact sndS_put h1 (w.scp ▸ vis_ok h2) n1 n2 h4 h5 (snd_all e E sc asn X _ w h6).1 (snd_all k E sc asn X _ w h7).1
    · cases h
  | .app i e, st, h => by
    simp only [chkS] at h
    split at h
    · simp only [Bool.and_eq_true, decide_eq_true_eq] at h
      obtain ⟨⟨⟨⟨⟨⟨rfl, h2⟩, h3⟩, h4⟩, h5⟩, h6⟩, h7⟩ := h
      obtain ⟨n1, n2⟩ := okNm_ok h4
      exact sndS_app h2 (w.scp ▸ vis_ok h3) n1 n2 h5 h6 (snd_all e E sc asn X _ w h7).1
    · cases h
  | .ext i e, st, h => by
    simp only [chkS] at h
    split at h
    · simp only [Bool.and_eq_true, decide_eq_true_eq] at h
      obtain ⟨⟨⟨⟨⟨⟨rfl, h2⟩, h3⟩, h4⟩, h5⟩, h6⟩, h7⟩ := h
      obtain ⟨n1, n2⟩ := okNm_ok h4
      exact sndS_ext h2 (w.scp ▸ vis_ok h3) n1 n2 h5 h6 (snd_all e E sc asn X _ w h7).1
    · cases h
  | .exp e, st, h => by
    simp only [chkS] at h
    split at h
    · simp only [Bool.and_eq_true, Bool.not_eq_true'] at h
      exact sndS_exp h.1 (snd_all e E sc asn X _ w h.2).1
    · cases h
  | .ret e, st, h => by
    simp only [chkS] at h
    split at h
    · exact sndS_ret (snd_all e E sc asn X _ w h).1
    · cases h
  | .retN, st, h => by
    simp only [chkS] at h
    split at h
    · exact sndS_retN
    · cases h
  | .ite c a b, st, h => by
    simp only [chkS] at h
    split at h
    · simp only [Bool.and_eq_true] at h
      exact sndS_ite ((snd_all c E sc asn X _ w h.1.1.2).2 h.1.1.1) (snd_sts sc asn w a _ h.1.2) (snd_sts sc asn w b _ h.2)
    · cases h
  | .whl c b, st, h => by
    simp only [chkS] at h
    split at h
    · simp only [Bool.and_eq_true] at h
      exact sndS_whl fuel po ((snd_all c E sc asn X _ w h.1.2).2 h.1.1) (snd_sts sc asn w b _ h.2)
    · cases h
  | .for t s b, st, h => by
    simp only [chkS] at h
    split at h
    · simp only [Bool.and_eq_true, Bool.not_eq_true'] at h
      obtain ⟨⟨⟨⟨hh, h1⟩, h2⟩, h3⟩, h4⟩ := h
      have h := And.intro (And.intro (And.intro h1 h2) h3) h4
      exact sndS_for po (w.calm hh) (pg_of (w.calm hh) w.nd (fun x hx => by rw [w.scp]; exact w.asn x hx) t _ h.1.1.1) (notSet_fold h.1.1.2 X.env) (snd_r s E sc asn X _ _ w h.1.2) (snd_sts sc asn w b _ h.2)
    · cases h
  | .never, st, h => fun g r hr => by cases hr
  | .raise2 k a b, st, h => by
    simp only [chkS] at h
    split at h
    · simp only [Bool.and_eq_true, decide_eq_true_eq, Bool.not_eq_true'] at h
      obtain ⟨⟨⟨⟨⟨⟨⟨⟨hh, h2⟩, h3⟩, h4⟩, h5⟩, h6⟩, h7⟩, h8⟩, h9⟩ := h
      split at h9
      · rename_i i hi
        obtain ⟨nm, two⟩ := i
        rw [Bool.and_eq_true, decide_eq_true_eq] at h9
        obtain ⟨n1, n2⟩ := h9
        dsimp only at n1 n2
        subst n1
        subst n2
        obtain ⟨C, hC, hm, _⟩ := w.xs.at_ k _ hi
        obtain ⟨i0, q0⟩ := Option.isSome_iff_exists.mp h6
        obtain ⟨_, _, r, _, _, _, room, _⟩ := (w.fn hh 0 i0 q0).ex
        exact sndS_raise2 (w.calm hh) (gl_ok w.scp h2) (okNm_ok h3).1 hC hm (w.tw k _ C hi rfl hC) room h4 h5 (snd_all a E sc asn X _ w h7).1 (snd_all b E sc asn X _ w h8).1
      · cases h9
    · cases h
  | .raise k, st, h => by
    simp only [chkS] at h
    split at h
    · simp only [Bool.and_eq_true, decide_eq_true_eq, Bool.not_eq_true'] at h
      obtain ⟨⟨⟨⟨hh, h2⟩, h3⟩, h4⟩, h5⟩ := h
      split at h5
      · rename_i i hi
        obtain ⟨nm, two⟩ := i
        rw [Bool.and_eq_true, decide_eq_true_eq, Bool.not_eq_true'] at h5
        obtain ⟨h6, h7⟩ := h5
        dsimp only at h6 h7
        subst h6
        subst h7
        exact sndS_raise (w.calm hh) (gl_ok w.scp h2) (okNm_ok h3).1 w.xs hi h4
      · cases h5
    · cases h
  | .pass, st, h => by
    simp only [chkS] at h
    split at h
    · exact sndS_pass
    · cases h
  | .brk, st, h => by
    simp only [chkS] at h
    split at h
    · exact sndS_brk
    · cases h
  | .cont, st, h => by
    simp only [chkS] at h
    split at h
    · exact sndS_cont
    · cases h
theorem snd_sts (sc asn : Scope) (w : Wf X Γ E exs sc (isLoc asn)) : ∀ (s : Ss) (st : List Stmt), chkSs E X.N sc asn s st = true → SndSs X exs st (evSs Γ E.cons fuel s)
  | .nil, st, h => by
    simp only [chkSs, List.isEmpty_iff] at h
    subst h
    exact sndSs_nil
  | .cons s r, st, h => by
    simp only [chkSs] at h
    split at h
    · simp only [Bool.and_eq_true] at h
      exact sndSs_cons (snd_st sc asn w s _ h.1) (snd_sts sc asn w r _ h.2)
    · cases h
  | .kil is r, st, h => by
    simp only [chkSs] at h
    exact fun g x hr σ H G Dn W sr post => snd_sts sc asn w r st h _ x hr σ H G Dn W (sr.forget is) post
  | .frz i r, st, h => by
    simp only [chkSs] at h
    refine fun g x hr σ H G Dn W sr post => ?_
    have hr : evSs Γ E.cons fuel r (frzG g i) = some x := hr
    unfold frzG at hr
    split at hr
    · rename_i c hc
      obtain ⟨v, G', h1, e1, s1, r1⟩ := sr.hold hc
      exact snd_sts sc asn w r st h _ x hr σ H G' Dn W s1 (post.next e1)
    · exact snd_sts sc asn w r st h _ x hr σ H G Dn W sr post
end
end
end Z

/-! Z10: defs, by their bodies; all of a table, to any depth. -/
namespace Z
open PySem PySem.Spec PyProof.Rows L2

/-- a def of the text, where no repr runs around it -/
theorem fn_ofG {P : Program} {w : World} {K : PySem.W.Frag} {mg : Str → Option Value} {base : Heap} {k : Nat} {a : Addr} {name qual : Str} {params : Arguments} {body : List Stmt} {scope : Scope} {dV kV doc pm cdv ct oc : Value} {an od : Option Addr}
    {osl : Array (Option Value)} {N ps : List Str} {sp : Sp} (lk : K.lookup a = some ⟨oc, od, .func (PySem.W.fnOf name qual params body scope dV kV doc pm an cdv ct), osl⟩) (hcd : PySem.W.codeIn K cdv qual = true) (sc : FnScope N ps scope)
    (len : ∀ vs H Q E, sp vs H Q E → vs.length = ps.length)
    (hb : ∀ (A : Around) (outer : List Env) (s : Shared) (H : Hp) (vs : List V) (Q : VK) (E : XK), A.guards = some [] → Room k (A.deeper (envOfC qual scope s.heap.objs.size a cdv)) → sp vs H Q E →
      WSs (cxOf (L2.CX P w) P w K mg base N qual scope a cdv A outer s H E) body { nx := fun _ H' => Q .non H', rt := Q } (L2.start N vs) H) :
    FnG P w K mg base (k + 1) a (PySem.W.fnOf name qual params body scope dV kV doc pm an cdv ct) ps sp where
  len := len
  run := by
    intro A outer s H args us vs Q E gd room e0 bnds rel hsp
    have same : ∀ b o, base.get? b = some o → s.heap.get? b = some o := fun b o z => (e0.bs b o z).1
    have kin : K.In s.heap := e0.mod.kin.keeps same
    have names : ∀ y ∈ ps.zip us, scope.names.lookup y.1 = some .local ∨ (scope.names.lookup y.1 = some .cell ∧ ((cellsFrom (s.heap.objs.size + 1) scope.names []).lookup y.1).isSome = true) := by
      rintro ⟨n, v⟩ hy
      rcases sc.par n (List.of_mem_zip hy).1 with z | z
      · exact Or.inl z
      · exact Or.inr ⟨z, PySem.W.cellsFrom_some _ _ _ (Or.inl z)⟩
    refine codeAny_call_function room.depth (kin _ _ lk) rfl sc.co sc.gen rfl (PySem.W.codeRec_of kin hcd) (bnds _ _ _ _ (wpAny_newFunctionEnv_cells sc.kind names ?_))
    intro env he s1 x
    subst he
    have start := inv_start (CX := L2.CX P w) (cd := cdv) (E := E) sc room.hd e0 (len vs H Q E hsp) rel x
    refine ⟨(e0.mod.nolimit.keeps same).keeps x.toInCall.keep, codeAny_func (wpAny_mono (hb A outer s H vs Q E gd (room.deeper _) hsp [] s1 start) ?_ (fun _ _ z => z))⟩
    intro fl s' h
    match fl, h with
    | .next, ⟨σ', H', J, q⟩ => exact ⟨V.non, H', J.os, J.bare, J.base, J.hok, rfl, q⟩
    | .ret u, ⟨v, σ', H', J, r, q⟩ => exact ⟨v, H', J.os, J.bare, J.base, J.hok, r, q⟩
    | .brk, ⟨_, _, _, q⟩ => exact q.elim
    | .cont, ⟨_, _, _, q⟩ => exact q.elim

section
variable {K : PySem.W.Frag} {G : Gh} {H : Hp}
/-- where the borrowed parameters stand -/
def parAt (vs : List V) : Nat → Option Addr := fun i =>
  match vs[i]? with
  | some (.ref a) => some a
  | _ => none
theorem ArgsOk.length : ∀ {as : List Arg} {k : Nat} {vs : List V}, ArgsOk K G H k as vs → vs.length = as.length
  | [], _, [], _ => rfl
  | [], _, _ :: _, h => h.elim
  | _ :: _, _, [], h => h.elim
  | _ :: _, _, _ :: _, h => congrArg (· + 1) (ArgsOk.length h.2)
theorem ArgsOk.at : ∀ {as : List Arg} {k : Nat} {vs : List V}, ArgsOk K G H k as vs → ∀ {i : Nat} {a : Arg}, as[i]? = some a → ∃ v, vs[i]? = some v ∧ ArgOk K G H (k + i) a v
  | [], _, _, _, i, a, e => by simp at e
  | _ :: _, _, [], h, _, _, _ => h.elim
  | b :: as, k, v :: vs, h, 0, a, e => by
    cases e
    exact ⟨v, rfl, h.1⟩
  | b :: as, k, v :: vs, h, i + 1, a, e => by
    obtain ⟨u, h1, h2⟩ := ArgsOk.at h.2 (i := i) (a := a) (by simpa using e)
    exact ⟨u, by simpa using h1, by rw [show k + (i + 1) = k + 1 + i from by omega]; exact h2⟩
theorem start_at {N : List Str} {vs : List V} {i : Nat} {v : V} (h : vs[i]? = some v) : (L2.start N vs).getD i none = some v := by
  unfold L2.start
  have hl := get_lt h
  rw [List.getD_eq_getElem?_getD, List.getElem?_append_left (by rw [List.length_map]; exact hl), List.getElem?_map, h]
  rfl
theorem sr_start {exs : EX} {N : List Str} {as : List Arg} {vs : List V} (ha : ArgsOk K G H 0 as vs) (t : Tagd G H) (tb : ∀ p, p ∈ exs.tb → G p.1 = .tb p.2) : SR K { exs with bt := parAt vs, hx := none } G H (as.map envOf ++ List.replicate (N.length - as.length) .no) (L2.start N vs) := by
  refine ⟨?_, fun i s e => ?_, t, tb⟩
  · unfold L2.start
    rw [List.length_append, List.length_append, List.length_map, List.length_map, List.length_replicate, List.length_replicate, ha.length]
  · by_cases hi : i < as.length
    · rw [List.getElem?_append_left (by rw [List.length_map]; exact hi), List.getElem?_map] at e
      obtain ⟨a, h1, rfl⟩ := Option.map_eq_some_iff.mp e
      obtain ⟨v, h2, h3⟩ := ha.at h1
      rw [start_at h2]
      rw [Nat.zero_add] at h3
      cases a with
      | v d => exact ⟨v, rfl, h3⟩
      | m c =>
        obtain ⟨b, rfl, q⟩ := h3
        exact ⟨b, rfl, q, by show parAt vs i = some b; unfold parAt; rw [h2]⟩
      | s ds =>
        obtain ⟨b, ws, rfl, q1, q2⟩ := h3
        exact ⟨b, ws, rfl, q1, q2⟩
      | x e => exact h3.elim
    · rw [List.getElem?_append_right (by rw [List.length_map]; omega)] at e
      have hm := List.mem_of_getElem? e
      rw [(List.mem_replicate.mp hm).2]
      trivial
theorem outs_ok {exs : EX} {vs : List V} {g : Sg} {σ : L2.St} (sr : SR K { exs with bt := parAt vs, hx := none } G H g σ) : ∀ {as : List Arg} {k : Nat} {ms : List (Option M)} {ws : List V}, outM as (g.drop k) = some ms → ws = vs.drop k → ws.length = as.length → OutsOk K G H k ms ws
  | [], k, ms, ws, h, hw, hl => by
    cases h
    cases ws with
    | nil => trivial
    | cons _ _ => cases hl
  | a :: as, k, ms, [], h, hw, hl => by cases hl
  | a :: as, k, ms, v :: ws, h, hw, hl => by
    have hk : vs[k]? = some v := by
      have : (vs.drop k)[0]? = some v := by rw [← hw]; rfl
      rw [List.getElem?_drop] at this
      exact this
    have hw2 : ws = vs.drop (k + 1) := by
      have := congrArg List.tail hw
      rw [List.tail_drop] at this
      exact this
    have go : ∀ {s : Sl} {gs : Sg} {o : Option M} {ms' : List (Option M)}, g.drop k = s :: gs → outM as gs = some ms' → (∀ c, o = some c → ∃ a, v = .ref a ∧ MOk K G H k c a) → OutsOk K G H k (o :: ms') (v :: ws) := fun {s gs o ms'} hg h ho => by
      refine ⟨ho, outs_ok sr (as := as) (by rw [show g.drop (k + 1) = gs from by rw [← List.tail_drop, hg]; rfl]; exact h) hw2 (Nat.succ.inj hl)⟩
    cases hg : g.drop k with
    | nil =>
      rw [hg] at h
      cases a <;> cases h
    | cons s gs =>
      rw [hg] at h
      cases a with
      | v d =>
        obtain ⟨ms', h1, rfl⟩ := Option.map_eq_some_iff.mp (show (outM as gs).map (none :: ·) = some ms from by cases s <;> exact h)
        exact go hg h1 fun c z => nomatch z
      | s ds =>
        obtain ⟨ms', h1, rfl⟩ := Option.map_eq_some_iff.mp (show (outM as gs).map (none :: ·) = some ms from by cases s <;> exact h)
        exact go hg h1 fun c z => nomatch z
      | x ex =>
        obtain ⟨ms', h1, rfl⟩ := Option.map_eq_some_iff.mp (show (outM as gs).map (none :: ·) = some ms from by cases s <;> exact h)
        exact go hg h1 fun c z => nomatch z
      | m c0 =>
        cases s with
        | bo c =>
          obtain ⟨ms', h1, rfl⟩ := Option.map_eq_some_iff.mp (show (outM as gs).map (some c :: ·) = some ms from h)
          refine go hg h1 fun c' z => ?_
          cases z
          have e : g[k]? = some (.bo c) := by
            have : (g.drop k)[0]? = some (.bo c) := by rw [hg]; rfl
            rw [List.getElem?_drop] at this
            exact this
          obtain ⟨y, hy, b, rfl, q, hb⟩ := sr.at e
          refine ⟨b, ?_, q⟩
          have hb : parAt vs k = some b := hb
          unfold parAt at hb
          rw [hk] at hb
          cases v with
          | ref b' =>
            cases hb
            rfl
          | non => cases hb
          | bl _ => cases hb
          | int _ => cases hb
          | str _ => cases hb
          | byt _ => cases hb
          | flt _ => cases hb
          | ty _ => cases hb
        | no => cases h
        | im _ => cases h
        | ow _ => cases h
        | sc _ => cases h
        | xc _ => cases h
theorem no_xa : ∀ {as : List Arg} {k : Nat} {vs : List V}, ArgsOk K G H k as vs → as.any isXA = false
  | [], _, _, _ => rfl
  | _ :: _, _, [], h => h.elim
  | a :: as, k, v :: vs, h => by
    rw [List.any_cons, no_xa h.2, Bool.or_false]
    cases a with
    | x _ => exact h.1.elim
    | v _ => rfl
    | m _ => rfl
    | s _ => rfl
end
/-- a def that tells of the handled exception, by its body -/
theorem fn_ofX {P : Program} {w : World} {K : PySem.W.Frag} {mg : Str → Option Value} {base : Heap} {f : Addr} {name qual : Str} {params : Arguments} {body : List Stmt} {scope : Scope} {dV kV doc pm cdv ct oc : Value} {an od : Option Addr}
    {osl : Array (Option Value)} {N ps : List Str} {sp : Addr × Obj → Sp} (lk : K.lookup f = some ⟨oc, od, .func (PySem.W.fnOf name qual params body scope dV kV doc pm an cdv ct), osl⟩) (hcd : PySem.W.codeIn K cdv qual = true) (S : FnScope N ps scope)
    (len : ∀ p vs H Q E, sp p vs H Q E → vs.length = ps.length)
    (hb : ∀ (A : Around) (outer : List Env) (s : Shared) (H : Hp) (vs : List V) (Q : VK) (E : XK) (p : Addr × Obj), A.guards = some [] → L2H.RoomH 0 (A.deeper (envOfC qual scope s.heap.objs.size f cdv)) → sp p vs H Q E →
      WSs (L2H.cxH C8.CX0 P w K mg base N qual scope f cdv A outer s H E p) body { nx := fun _ H' => Q .non H', rt := Q } (L2.start N vs) H) :
    FnX P w K mg base f (PySem.W.fnOf name qual params body scope dV kV doc pm an cdv ct) ps sp where
  len := len
  run := by
    intro A outer s H args us vs Q E p gd room pin e0 bt rel hsp
    have same : ∀ b o, base.get? b = some o → s.heap.get? b = some o := fun b o z => (e0.bs b o z).1
    have kin := e0.mod.kin.keeps same
    have kinds : ∀ y ∈ ps.zip us, scope.names.lookup y.1 = some .local ∨ (scope.names.lookup y.1 = some .cell ∧ ((cellsFrom (s.heap.objs.size + 1) scope.names []).lookup y.1).isSome = true) := by
      rintro ⟨n, v⟩ hy
      rcases S.par n (List.of_mem_zip hy).1 with z | z
      · exact Or.inl z
      · exact Or.inr ⟨z, PySem.W.cellsFrom_some _ _ _ (Or.inl z)⟩
    refine codeAny_call_function room.depth (kin _ _ lk) rfl S.co S.gen rfl (PySem.W.codeRec_of kin hcd) (bt _ _ _ _ (wpAny_newFunctionEnv_cells S.kind kinds ?_))
    intro env he s1 x
    subst he
    have start := L2H.inv_startH (CX := C8.CX0) (cd := cdv) (E := E) S pin e0 (len p vs H Q E hsp) rel x
    refine ⟨(e0.mod.nolimit.keeps same).keeps x.toInCall.keep, codeAny_func (wpAny_mono (hb A outer s H vs Q E p gd (room.deeper _) hsp [] s1 start) ?_ (fun _ _ z => z))⟩
    intro fl s' h
    match fl, h with
    | .next, ⟨_, H', J, q⟩ => exact ⟨V.non, H', J.os, J.bare, J.base, J.hok, rfl, q⟩
    | .ret u, ⟨v, _, H', J, r, q⟩ => exact ⟨v, H', J.os, J.bare, J.base, J.hok, r, q⟩
    | .brk, ⟨_, _, _, q⟩ => exact q.elim
    | .cont, ⟨_, _, _, q⟩ => exact q.elim

/-- how a def's body is read -/
def Tab.ce (T : Tab) (i : FnI) : CE := { fns := fun f => T.fns[f]?, cons := T.cons, excs := fun k => T.excs[k]?, hot := i.hot, lam := i.lam && !i.hot, said := T.said, kind := T.kind }
/-- a def of the table, as it stands behind the top -/
structure DefAt (K : PySem.W.Frag) (mg : Str → Option Value) (T : Tab) (cs : List (Addr × Addr)) (tb : List (Addr × Str)) (i : FnI) : Prop where
  ex : ∃ (st : Stmt) (a : Addr) (fd : FuncData), Fun K i.name i.name st a fd ∧ mg i.name = some (.ref a) ∧ BK K fd i ∧ FnScope i.N i.ps (defScope st) ∧ chkSs (T.ce i) i.N (defScope st) (defScope st) i.body (defBody st) = true ∧
    (i.lam = true → ∃ c Pt, fd.code = .ref c ∧ (c, Pt) ∈ cs ∧ (Pt, i.name ++ ".<locals>." ++ "<lambda>") ∈ tb)
/-- what the top leaves -/
structure TopOk (P : Program) (K : PySem.W.Frag) (mg : Str → Option Value) (T : Tab) (cs : List (Addr × Addr)) (exs : EX) : Prop where
  glb : ∀ (k : Nat) (x : Str) (d : D), T.cons[k]? = some (x, d) → ∃ u v, mg x = some u ∧ RelV v u ∧ ∀ B, Rp K B v d
  bi : ∀ x ∈ biNames, mg x = none
  fn : ∀ (f : Nat) (i : FnI), T.fns[f]? = some i → DefAt K mg T cs exs.tb i
  xs : ExcsOk K mg (fun k => T.excs[k]?) exs.cl
  few : T.fns.length ≤ deepAt
  sd : ∀ (f : Nat) (i : FnI), T.fns[f]? = some i → i.lam = true → ∃ ik pk, T.fns[T.kind]? = some ik ∧ ik.hot = true ∧ ik.ps = [pk] ∧ SaidTop K mg exs T.said ik.name
  tw : ∀ k i C, T.excs[k]? = some i → i.two = true → exs.cl k = some C → Two P K mg C
section
variable {P : Program} {w : World} {K : PySem.W.Frag} {mg : Str → Option Value} {base : Heap} {T : Tab} {cs : List (Addr × Addr)} {exs : EX} {fuel : Nat}
theorem run_at {n f : Nat} {i : FnI} {as : List Arg} {r : Out Val × List (Option M)} (hf : T.fns[f]? = some i) (h : run T fuel (n + 1) f as = some r) : runFn (run T fuel n) T.cons fuel i as = some r ∧ (i.lam = true → 2 ≤ n) := by
  unfold run at h
  rw [hf] at h
  dsimp only at h
  split at h
  · cases h
  · rename_i hn
    refine ⟨h, fun z => ?_⟩
    rcases Nat.lt_or_ge n 2 with q | q
    · exact absurd ⟨z, q⟩ hn
    · exact q
theorem run_deep (few : T.fns.length ≤ deepAt) (m f : Nat) : run T fuel (m + 2) (f + deepAt) = run T fuel m f := by
  funext as
  rw [run]
  have h : T.fns[f + deepAt]? = none := List.getElem?_eq_none (by omega)
  dsimp only
  rw [h]
  dsimp only
  rw [if_pos (by omega), Nat.add_sub_cancel]
/-- the def that tells of an exception -/
theorem all_X (top : TopOk P K mg T cs exs) {n f : Nat} {i : FnI} {pk : Str} (hf : T.fns[f]? = some i) (hot : i.hot = true) (hps : i.ps = [pk]) {st : Stmt} {a : Addr} {fd : FuncData} (F : Fun K i.name i.name st a fd) (sc : FnScope i.N i.ps (defScope st))
    (hc : chkSs (T.ce i) i.N (defScope st) (defScope st) i.body (defBody st) = true) : FnX P w K mg base a fd [pk] (spX K exs fun x => run T fuel n f [.x x]) := by
  obtain ⟨oc, od, kV, doc, pm, an, cdv, ct, osl, rfl, lk, hcd⟩ := F.ex
  rw [hps] at sc
  refine fn_ofX lk hcd sc (fun p vs H Q E ⟨_, _, _, _, _, h, _⟩ => by rw [h]; rfl) fun A outer s H vs Q E p gd room ⟨G, x, d, r, ms, hv, held, t, ht, xd, hrun, post⟩ => ?_
  subst hv
  generalize hX : L2H.cxH C8.CX0 P w K mg base i.N i.name (defScope st) a cdv A outer s H E p = X
  have eK : X.K = K := by rw [← hX]; rfl
  have eN : X.N = i.N := by rw [← hX]; rfl
  have po : PassesOwn (model X.prog X.w) X.A X.env X.xe := by
    rw [← hX]
    exact passes_of (X := L2H.cxH C8.CX0 P w K mg base i.N i.name (defScope st) a cdv A outer s H E p) rfl
  cases n with
  | zero => cases hrun
  | succ n =>
    have wf : Wf X (run T fuel n) (T.ce i) { exs with bt := fun _ => none, hx := some (p.1, d, x) } (defScope st) (isLoc (defScope st)) := by
      rw [← hX]
      exact {
        scp := rfl
        calm := fun z => absurd (show i.hot = false from z) (by rw [hot]; exact fun z => nomatch z)
        nd := sc.nd
        gd := gd
        un := by have := room.un; show (A.deeper _).units + 65 < _; omega
        glb := top.glb
        bi := top.bi
        fn := fun z => absurd (show i.hot = false from z) (by rw [hot]; exact fun z => nomatch z)
        asn := fun x hx => ⟨loc_ok hx, .inl rfl⟩
        xs := ⟨top.xs.at_, top.xs.is_, top.xs.ec, top.xs.ve, top.xs.fl⟩
        hx := fun _ a' d' x' e => by
          cases e
          exact ⟨p.2, List.mem_singleton.mpr rfl, held⟩
        lm := fun z => absurd (show (i.lam && !i.hot) = true from z) (by rw [hot, Bool.not_true, Bool.and_false]; exact fun z => nomatch z)
        sd := fun z => absurd (show (i.lam && !i.hot) = true from z) (by rw [hot, Bool.not_true, Bool.and_false]; exact fun z => nomatch z)
        tw := top.tw }
    obtain ⟨hrun, _⟩ := run_at hf hrun
    unfold runFn at hrun
    split at hrun
    · have body := snd_sts po fuel (defScope st) (defScope st) wf i.body (defBody st) (by rw [eN]; exact hc)
      have sr : SR X.K { exs with bt := fun _ => none, hx := some (p.1, d, x) } G H ([Arg.x x].map envOf ++ List.replicate (i.N.length - 1) .no) (L2.start i.N [.ref p.1]) := by
        rw [eK]
        refine ⟨?_, fun j s' e => ?_, t, ht⟩
        · unfold L2.start
          rw [List.length_append, List.length_append, List.length_map, List.length_map, List.length_replicate, List.length_replicate]
          rfl
        · cases j with
          | zero =>
            cases e
            refine ⟨p.1, d, ?_, rfl, xd⟩
            exact start_at rfl
          | succ j =>
            rw [List.getElem?_append_right (by rw [List.length_map]; exact Nat.succ_le_succ (Nat.zero_le _))] at e
            have hm := List.mem_of_getElem? e
            rw [(List.mem_replicate.mp hm).2]
            trivial
      cases he : evSs (run T fuel n) T.cons fuel i.body ([Arg.x x].map envOf ++ List.replicate (i.N.length - [Arg.x x].length) .no) with
      | none =>
        rw [he] at hrun
        cases hrun
      | some z =>
        obtain ⟨fl, g'⟩ := z
        rw [he] at hrun
        refine body _ _ he _ H G _ (fun _ _ _ _ => True) sr ?_
        cases fl with
        | nx =>
          obtain ⟨ms', h1, h2⟩ := Option.map_eq_some_iff.mp hrun
          cases h2
          intro σ' H' G' e s
          exact post _ H' G' e s.tag .non
        | rt y =>
          obtain ⟨ms', h1, h2⟩ := Option.map_eq_some_iff.mp hrun
          cases h2
          intro v σ' H' G' e s r
          rw [eK] at r
          exact post v H' G' e s.tag r
        | ex y =>
          obtain ⟨ms', h1, h2⟩ := Option.map_eq_some_iff.mp hrun
          cases h2
        | bk => cases hrun
        | ct => cases hrun
    · cases hrun
theorem all_G (top : TopOk P K mg T cs exs) (hT : ∀ p ∈ cs, LamX.TabB base mg p.1 p.2) (n : Nat) : ∀ (f : Nat) (i : FnI), T.fns[f]? = some i → ∀ {st : Stmt} {a : Addr} {fd : FuncData}, Fun K i.name i.name st a fd → mg i.name = some (.ref a) → FnScope i.N i.ps (defScope st) →
    chkSs (T.ce i) i.N (defScope st) (defScope st) i.body (defBody st) = true → (i.lam = true → ∃ c Pt, fd.code = .ref c ∧ (c, Pt) ∈ cs ∧ (Pt, i.name ++ ".<locals>." ++ "<lambda>") ∈ exs.tb) → FnG P w K mg base n a fd i.ps (spF K exs i.ps.length (run T fuel n f)) := by
  induction n using Nat.strongRecOn with
  | _ n ih =>
  intro f i hf st a fd F hm sc hc hlam
  cases n with
  | zero => exact ⟨fun vs H Q E ⟨_, _, _, _, h, _⟩ => h, fun A outer s H args us vs Q E _ _ _ _ _ ⟨_, _, _, _, _, _, _, _, h, _⟩ => nomatch h⟩
  | succ n =>
    obtain ⟨oc, od, kV, doc, pm, an, cdv, ct, osl, rfl, lk, hcd⟩ := F.ex
    refine fn_ofG lk hcd sc (fun vs H Q E ⟨_, _, _, _, h, _⟩ => h) fun A outer s H vs Q E gd room ⟨G, as, o, ms, hl, t, ht, ha, hrun, post⟩ => ?_
    generalize hX : cxOf (L2.CX P w) P w K mg base i.N i.name (defScope st) a cdv A outer s H E = X
    have eK : X.K = K := by rw [← hX]; rfl
    have eN : X.N = i.N := by rw [← hX]; rfl
    have po : PassesOwn (model X.prog X.w) X.A X.env X.xe := by
      rw [← hX]
      exact passes_of (X := cxOf (L2.CX P w) P w K mg base i.N i.name (defScope st) a cdv A outer s H E) rfl
    have tk : Takes X fun cls d _ H => E cls d H := by
      rw [← hX]
      exact takes_of (X := cxOf (L2.CX P w) P w K mg base i.N i.name (defScope st) a cdv A outer s H E) rfl rfl rfl rfl
    obtain ⟨hrun, hl2⟩ := run_at hf hrun
    unfold runFn at hrun
    split at hrun
    · rename_i hla
      have hot : i.hot = false := hla.2.symm.trans (no_xa ha)
      have wf : Wf X (run T fuel n) (T.ce i) { exs with bt := parAt vs, hx := none } (defScope st) (isLoc (defScope st)) := by
        rw [← hX]
        exact {
          scp := rfl
          calm := fun _ => rfl
          nd := sc.nd
          gd := gd
          un := by have := room.un; show (A.deeper _).units + 65 < _; omega
          glb := top.glb
          bi := top.bi
          fn := fun _ f' i' hf' => by
            obtain ⟨st', a', fd', F', hm', hb', sc', hc', hl'⟩ := (top.fn f' i' hf').ex
            exact ⟨a', fd', n, hm', F'.kp, hb', room, ih n (Nat.lt_succ_self _) f' i' hf' F' hm' sc' hc' hl'⟩
          asn := fun x hx => ⟨loc_ok hx, .inl rfl⟩
          xs := ⟨top.xs.at_, top.xs.is_, top.xs.ec, top.xs.ve, top.xs.fl⟩
          hx := fun _ a' d' x' e => nomatch e
          lm := fun z => by
            have z1 : i.lam = true := (Bool.and_eq_true_iff.mp (show (i.lam && !i.hot) = true from z)).1
            obtain ⟨m, rfl⟩ : ∃ m, n = m + 2 := ⟨n - 2, by have := hl2 z1; omega⟩
            obtain ⟨c, Pt, e1, e2, e3⟩ := hlam z1
            refine ⟨m, c, Pt, hT _ e2, e1, e3, room, fun f' i' hf' => ?_⟩
            obtain ⟨st', a', fd', F', hm', hb', sc', hc', hl'⟩ := (top.fn f' i' hf').ex
            rw [run_deep top.few]
            exact ⟨a', fd', hm', F'.kp, hb', ih m (by omega) f' i' hf' F' hm' sc' hc' hl'⟩
          sd := fun z => by
            have z1 : i.lam = true := (Bool.and_eq_true_iff.mp (show (i.lam && !i.hot) = true from z)).1
            obtain ⟨ik, pk, k1, k2, k3, ST⟩ := top.sd f i hf z1
            obtain ⟨st', a', fd', F', hm', hb', sc', hc', hl'⟩ := (top.fn _ ik k1).ex
            refine ⟨ik.name, a', fd', pk, ⟨ST.ex⟩, hm', F'.kp, k3 ▸ hb'.1, all_X (P := P) (w := w) (base := base) (fuel := fuel) (n := n) ⟨top.glb, top.bi, top.fn, ⟨top.xs.at_, top.xs.is_, top.xs.ec, top.xs.ve, top.xs.fl⟩, top.few, fun f i h1 h2 => ?_, top.tw⟩ k1 k2 k3 F' sc' hc'⟩
            obtain ⟨ik, pk, k1, k2, k3, ST⟩ := top.sd f i h1 h2
            exact ⟨ik, pk, k1, k2, k3, ⟨ST.ex⟩⟩
          tw := top.tw }
      have body := snd_sts po fuel (defScope st) (defScope st) wf i.body (defBody st) (by rw [eN]; exact hc)
      have sr := sr_start (exs := exs) (N := i.N) ha t ht
      have outs : ∀ {G' H' g' σ'}, SR K { exs with bt := parAt vs, hx := none } G' H' g' σ' → outM as g' = some ms → OutsOk K G' H' 0 ms vs := fun s h => outs_ok s (as := as) (k := 0) (by rw [List.drop_zero]; exact h) (List.drop_zero ..).symm ha.length
      have sr' : SR X.K { exs with bt := parAt vs, hx := none } G H (as.map envOf ++ List.replicate (i.N.length - as.length) .no) (L2.start i.N vs) := by rw [eK]; exact sr
      cases he : evSs (run T fuel n) T.cons fuel i.body (as.map envOf ++ List.replicate (i.N.length - as.length) .no) with
      | none =>
        rw [he] at hrun
        cases hrun
      | some z =>
        obtain ⟨fl, g'⟩ := z
        rw [he] at hrun
        refine body _ _ he _ H G _ (fun cls d _ H => E cls d H) sr' ?_
        cases fl with
        | nx =>
          obtain ⟨ms', h1, h2⟩ := Option.map_eq_some_iff.mp hrun
          cases h2
          intro σ' H' G' e s
          rw [eK] at s
          exact post H' G' e s.tag (outs s h1) .non .non
        | rt x =>
          obtain ⟨ms', h1, h2⟩ := Option.map_eq_some_iff.mp hrun
          cases h2
          intro v σ' H' G' e s r
          rw [eK] at s r
          exact post H' G' e s.tag (outs s h1) v r
        | ex x =>
          obtain ⟨ms', h1, h2⟩ := Option.map_eq_some_iff.mp hrun
          cases h2
          refine ⟨tk, fun cls dd σ' H' G' e s hx => ?_⟩
          rw [eK] at s
          exact post H' G' e s.tag (outs s h1) cls dd hx
        | bk => cases hrun
        | ct => cases hrun
    · cases hrun
end
end Z

/-! Z11: the law's call, from the script on. -/
namespace Z
open PySem PySem.Spec PyProof.Rows L2

section
variable {P : Program} {w : World} {K : PySem.W.Frag} {mg mb : Str → Option Value} {k : Nat} {fa sa : Addr} {fd : FuncData} {x : Str} {sp : Sp} {s : Shared} {us : List Value} {ns : List Int}
/-- the abstract heap at the law's entry: the script alone, or nothing -/
theorem entry_heap (kin : K.In s.heap) (ho : s.heap.get? sa = some { cls := .type "list", data := .seq us.toArray }) (hi : IntsAre us ns) (hl : ns.length ≤ sizeLine) :
    ∃ H : Hp, Only H ∧ SqL K H sa (ns.map V.int) ∧ HOk P w H s.heap ∧ (∀ b, H b ≠ none → b = sa ∧ K.lookup sa = none) := by
  have rv := vals_ints hi
  cases hk : K.lookup sa with
  | some u =>
    have e := kin sa u hk
    rw [ho] at e
    cases e
    have sz : us.toArray.size ≤ sizeLine := by
      rw [List.size_toArray, hi.length]
      exact hl
    exact ⟨fun _ => none, fun _ => Or.inl rfl, Or.inr ⟨_, us.toArray, _, hk, rfl, rfl, rfl, sz, by simpa using rv⟩, (fun b u z => nomatch z), fun b z => absurd rfl z⟩
  | none =>
    generalize hob : ({ cls := .type "list", data := .seq us.toArray } : Obj) = ob at ho
    have at1 : ∀ b, (if b = sa then some (HO.frz ob (.lst (ns.map V.int))) else none) ≠ none → b = sa := fun b z => by
      by_cases q : b = sa
      · exact q
      · exact absurd (if_neg q) z
    refine ⟨fun b => if b = sa then some (.frz ob (.lst (ns.map V.int))) else none, fun b => ?_, Or.inl (Or.inr ⟨ob, if_pos rfl⟩), fun b u z => ?_, fun b z => ⟨at1 b z, rfl⟩⟩
    · by_cases q : b = sa
      · exact Or.inr ⟨_, _, if_pos q⟩
      · exact Or.inl (if_neg q)
    · dsimp only at z
      have q : b = sa := at1 b (by rw [z]; exact fun y => nomatch y)
      subst q
      rw [if_pos rfl] at z
      cases z
      exact ⟨ho, by rw [List.length_map]; exact hl, us, _, rv, by rw [ho, ← hob]⟩
theorem sql_ext {K : PySem.W.Frag} {H H' : Hp} {a : Addr} {xs : List V} (h : SqL K H a xs) (e : ∀ u, H a = some u → (∀ t, u ≠ .tbl t) → H' a = some u) : SqL K H' a xs :=
  h.imp (fun r => r.imp (fun z => e _ z fun _ q => nomatch q) fun ⟨o, z⟩ => ⟨o, e _ z fun _ q => nomatch q⟩) id
/-- .. with the empty tables of the codes that make lambdas -/
theorem entry_tabs {cs : List (Addr × Addr)} (kin : K.In s.heap) (ho : s.heap.get? sa = some { cls := .type "list", data := .seq us.toArray }) (hi : IntsAre us ns) (hl : ns.length ≤ sizeLine)
    (hT : ∀ p ∈ cs, s.heap.get? p.2 = some { cls := .none, data := .fields #[] }) :
    ∃ H : Hp, (∀ b, H b = none ∨ (∃ p ∈ cs, p.2 = b) ∨ ∃ o xs, H b = some (.frz o (.lst xs))) ∧ (∀ p ∈ cs, H p.2 = some (.tbl #[])) ∧ SqL K H sa (ns.map V.int) ∧ HOk P w H s.heap ∧ ∀ b, H b ≠ none → (b = sa ∧ K.lookup sa = none) ∨ ∃ p ∈ cs, p.2 = b := by
  obtain ⟨H, only, sq, hok, one⟩ := entry_heap (P := P) (w := w) kin ho hi hl
  have isT : ∀ {b : Addr}, b ∈ cs.map (·.2) → s.heap.get? b = some { cls := .none, data := .fields #[] } ∧ ∃ p ∈ cs, p.2 = b := fun hb => by
    obtain ⟨p, hp, e⟩ := List.mem_map.mp hb
    subst e
    exact ⟨hT p hp, p, hp, rfl⟩
  have mT : ∀ {p : Addr × Addr}, p ∈ cs → p.2 ∈ cs.map (·.2) := fun hp => List.mem_map.mpr ⟨_, hp, rfl⟩
  have free : ∀ {b : Addr}, b ∈ cs.map (·.2) → H b = none := fun {b} hb => by
    rcases hq : H b with _ | u
    · rfl
    · obtain ⟨e, _⟩ := one b (by rw [hq]; exact fun z => nomatch z)
      have e1 := (isT hb).1
      rw [e, ho] at e1
      have z : Data.seq us.toArray _ = Data.fields #[] := congrArg Obj.data (Option.some.inj e1)
      cases z
  have grow : ∀ b u, H b = some u → (if b ∈ cs.map (·.2) then some (.tbl #[]) else H b) = some u := fun b u z => by
    rw [if_neg fun hb => by rw [free hb] at z; cases z]
    exact z
  refine ⟨fun b => if b ∈ cs.map (·.2) then some (.tbl #[]) else H b, fun b => ?_, fun p hp => if_pos (mT hp), sql_ext sq (fun u z _ => grow _ u z), fun b u z => ?_, fun b z => ?_⟩
  · by_cases hb : b ∈ cs.map (·.2)
    · exact .inr (.inl (isT hb).2)
    · rcases only b with z | z
      · exact .inl ((if_neg hb).trans z)
      · obtain ⟨o, xs, z⟩ := z
        exact .inr (.inr ⟨o, xs, (if_neg hb).trans z⟩)
  · by_cases hb : b ∈ cs.map (·.2)
    · have z := (if_pos hb).symm.trans z
      cases z
      exact (isT hb).1
    · have z := (if_neg hb).symm.trans z
      rcases only b with q | ⟨o, xs, q⟩
      · rw [q] at z
        cases z
      · have q2 := hok b _ q
        rw [q] at z
        cases z
        exact q2
  · by_cases hb : b ∈ cs.map (·.2)
    · exact .inr (isT hb).2
    · exact .inl (one b fun q => z ((if_neg hb).trans q))
theorem law_runs {cs : List (Addr × Addr)} (kin : K.In s.heap) (hg : s.heap.Ns mainGlobals mg) (hb : s.heap.Ns builtinsNs mb) (hbb : ∀ x : Str, x ≠ "__name__" → mb x = bootBuiltins x) (lim : s.heap.NoLimit) (gens : s.gens = #[])
    (hT : ∀ p ∈ cs, s.heap.get? p.2 = some { cls := .none, data := .fields #[] }) (nT : ∀ p ∈ cs, K.lookup p.2 = none) (hC : ∀ p ∈ cs, PySem.W.CodeHd s.heap p.1 p.2)
    (hbm : ∃ (bm : Addr) (ob : Obj), mg "__builtins__" = some (.ref bm) ∧ bm ≠ builtinsNs ∧ s.heap.get? bm = some ob ∧ ob.cls = .type "module" ∧ ob.dict = some builtinsNs ∧ ob.data = .plain)
    (ho : s.heap.get? sa = some { cls := .type "list", data := .seq us.toArray }) (hi : IntsAre us ns) (hl : ns.length ≤ sizeLine) (room : Room k callerA)
    (F : ∀ base : Heap, K.In base → base.Ns mainGlobals mg → (∀ p ∈ cs, LamX.TabB base mg p.1 p.2) → FnG P w K mg base k fa fd [x] sp) (bnd1 : ∀ (s : Shared) (u : Value), BindsTo s fd ⟨[u], []⟩ [(x, u)])
    (hsp : ∀ H : Hp, (∀ b, H b = none ∨ (∃ p ∈ cs, p.2 = b) ∨ ∃ o xs, H b = some (.frz o (.lst xs))) → (∀ p ∈ cs, H p.2 = some (.tbl #[])) → SqL K H sa (ns.map V.int) → sp [.ref sa] H (fun v _ => v = .bl true) fun _ _ _ => False) :
    codeAny (model P w) callerA (.call (.ref fa) ⟨[.ref sa], []⟩) (fun r s' => r = .ok (.ret (.bool true)) ∧ OldK s.heap s'.heap ∧ s'.os = s.os ∧ AllBare s'.gens) s := by
  obtain ⟨H, only, tabs, sq, hok, one⟩ := entry_tabs (P := P) (w := w) kin ho hi hl hT
  have plainFree : ∀ {b : Addr} {o : Obj}, s.heap.get? b = some o → (∀ vs n, o.data ≠ .seq vs n) → o.data ≠ .fields #[] → H b = none := by
    intro b o h1 h2 h3
    rcases hq : H b with _ | u
    · rfl
    · rcases one b (by rw [hq]; exact fun z => nomatch z) with ⟨e, _⟩ | ⟨p, hp, e⟩
      · rw [e, ho] at h1
        cases h1
        exact (h2 _ _ rfl).elim
      · rw [← e, hT p hp] at h1
        cases h1
        exact (h3 rfl).elim
  have stay : ∀ {b : Addr} {o : Obj}, s.heap.get? b = some o → (∀ vs n, o.data ≠ .seq vs n) → o.data ≠ .fields #[] → (hidT s.heap H).get? b = some o := fun h1 h2 h3 => hidT_get h1 (plainFree h1 h2 h3)
  have ns1 : ∀ {b : Addr} {m : Str → Option Value}, s.heap.Ns b m → (hidT s.heap H).Ns b m := by
    rintro b m ⟨o, es, ep, h1, h2, r⟩
    exact ⟨o, es, ep, stay h1 (fun vs n z => by rw [h2] at z; cases z) (fun z => by rw [h2] at z; cases z), h2, r⟩
  have kin1 : K.In (hidT s.heap H) := by
    intro b o h
    refine hidT_get (kin b o h) ?_
    rcases hq : H b with _ | u
    · rfl
    · rcases one b (by rw [hq]; exact fun z => nomatch z) with ⟨e, z⟩ | ⟨p, hp, e⟩
      · rw [e, z] at h
        cases h
      · rw [← e, nT p hp] at h
        cases h
  have m1 : Mod K mg (hidT s.heap H) := by
    obtain ⟨mc, q1, q2⟩ := lim
    exact ⟨kin1, ns1 hg, ⟨mb, ns1 hb, hbb⟩, ⟨mc, ns1 q1, q2⟩⟩
  have e0 : Env0 P w K mg (hidT s.heap H) callerA [] s H := by
    refine ⟨rfl, m1, fun b o h => of_hidT h, Nat.le_of_eq (hidT_size _ _), trivial, ?_, hok, .of_eq gens⟩
    intro b h
    cases h
  have tb : ∀ p ∈ cs, LamX.TabB (hidT s.heap H) mg p.1 p.2 := by
    intro p hp
    have tp := hT p hp
    have noG : ∀ {b : Addr} {o : Obj} {es : Array DictEntry} {ep : Nat}, s.heap.get? b = some o → o.data = .dict es ep → b ≠ p.2 := fun h1 h2 e => by
      rw [e, tp] at h1
      cases h1
      cases h2
    obtain ⟨og, eg, pg, g1, g2, _⟩ := hg
    refine ⟨?_, ?_, noG g1 g2⟩
    · obtain ⟨o, ws, file, tf, flags, tg, inF, text, tt, e1, r1, r2, r3, r⟩ := hC p hp
      refine ⟨o, ws, file, tf, flags, tg, inF, text, tt, stay e1 (fun _ _ z => ?_) (fun z => ?_), r1, r2, r3, r⟩
      · rw [r2] at z
        cases z
      · rw [r2] at z
        cases z
        simp at r3
    · obtain ⟨bm, ob, b1, b2, b3, b4, b5, b6⟩ := hbm
      refine ⟨bm, ob, b1, b2, fun q => ?_, fun q => ?_, stay b3 (fun _ _ z => ?_) (fun z => ?_), b4, b5, b6⟩
      · rw [q, g1] at b3
        cases b3
        rw [g2] at b6
        cases b6
      · rw [q, tp] at b3
        cases b3
        cases b6
      · rw [b6] at z
        cases z
      · rw [b6] at z
        cases z
  have go := (F _ kin1 (ns1 hg) tb).run callerA [] s H ⟨[.ref sa], []⟩ [.ref sa] [.ref sa] _ _ rfl room e0 (bnd1 s (.ref sa)) (.cons rfl .nil) (hsp H only tabs sq)
  refine codeAny_mono go ?_
  intro r s' h
  match r, h with
  | .error e, ⟨_, _, _, _, _, _, _, _, _, _, _, _, z⟩ => exact z.elim
  | .ok .next, h => exact h.elim
  | .ok .brk, h => exact h.elim
  | .ok .cont, h => exact h.elim
  | .ok (.ret u), ⟨v, H', os, bare, un, hok', r', q⟩ =>
    obtain rfl : v = .bl true := q
    obtain rfl : u = Value.bool true := r'
    -- the tables may have grown; all else is as it was
    have tabsNow : ∀ p ∈ cs, ∃ more : Array Value, s'.heap.get? p.2 = some { cls := .none, data := .fields more } := fun p hp => by
      obtain ⟨more, z⟩ := un.tbls p.2 #[] (tabs p hp)
      exact ⟨_, hok' p.2 _ z⟩
    have others : ∀ b o, (¬ ∃ p ∈ cs, p.2 = b) → s.heap.get? b = some o → s'.heap.get? b = some o := fun b o nb h => by
      rcases hq : H b with _ | u
      · exact un.keep b o h hq (fun z => nomatch z) (fun z => nomatch z)
      · rcases only b with z | z | ⟨ob, ys, z⟩
        · rw [hq] at z
          cases z
        · exact absurd z nb
        · have a1 := (hok b _ z).1
          rw [h] at a1
          cases a1
          exact (hok' b _ (un.frzs b _ _ z)).1
    refine ⟨rfl, ⟨fun b o h => ?_, fun b o h => ?_⟩, os, bare⟩
    · by_cases hb : ∃ p ∈ cs, p.2 = b
      · obtain ⟨p, hp, rfl⟩ := hb
        obtain ⟨more, hm⟩ := tabsNow p hp
        rw [hT p hp] at h
        cases h
        exact .inr (.inl ⟨((hC p hp).tab (hT p hp)).isCodeTable, rfl, #[], more, rfl, by rw [Array.empty_append]; exact hm⟩)
      · exact .inl (others b o hb h)
    · by_cases hb : ∃ p ∈ cs, p.2 = b
      · obtain ⟨p, hp, rfl⟩ := hb
        obtain ⟨more, hm⟩ := tabsNow p hp
        exact ⟨_, hm⟩
      · exact ⟨o, others b o hb h⟩
end
/-- the law's own promise, from the machine's answer -/
theorem sp_law {K : PySem.W.Frag} {exs : EX} {cs : List (Addr × Addr)} {F : List Arg → Option (Out Val × List (Option M))} {H : Hp} {a : Addr} {ns : List Int} (hq : ∀ p ∈ exs.tb, (∃ q ∈ cs, q.2 = p.1) ∧ ∀ r ∈ exs.tb, r.1 = p.1 → r.2 = p.2) (hq2 : ∀ p ∈ cs, ∃ r ∈ exs.tb, r.1 = p.2)
    (hO : ∀ b, H b = none ∨ (∃ p ∈ cs, p.2 = b) ∨ ∃ o xs, H b = some (.frz o (.lst xs))) (hT : ∀ p ∈ cs, H p.2 = some (.tbl #[])) (hS : SqL K H a (ns.map V.int))
    (h : F [.s (ns.map PyData.int)] = some (.ok (.v (.bool true)), [none])) : spF K exs 1 F [.ref a] H (fun v _ => v = .bl true) fun _ _ _ => False := by
  let G : Gh := fun b => match exs.tb.find? fun p => p.1 == b with
    | some p => .tb p.2
    | none => if H b = none then .un else .st
  have noT : ∀ b, (exs.tb.find? fun p => p.1 == b) = none → ¬ ∃ p ∈ cs, p.2 = b := fun b e ⟨p, hp, q⟩ => by
    obtain ⟨r, hr, e2⟩ := hq2 p hp
    have := List.find?_eq_none.mp e r hr
    rw [e2, q] at this
    exact this (beq_self_eq_true _)
  have gAt : ∀ b q, G b = .tb q → (b, q) ∈ exs.tb := fun b q z => by
    show (b, q) ∈ exs.tb
    have z : (match exs.tb.find? fun p => p.1 == b with
      | some p => Tag.tb p.2
      | none => if H b = none then .un else .st) = .tb q := z
    cases e : exs.tb.find? fun p => p.1 == b with
    | some p =>
      rw [e] at z
      cases z
      have h1 := List.mem_of_find?_eq_some e
      have h2 : p.1 = b := beq_iff_eq.mp (List.find?_some (p := fun p : Addr × Str => p.1 == b) e)
      rw [← h2]
      exact h1
    | none =>
      rw [e] at z
      dsimp only at z
      split at z <;> cases z
  have gTb : ∀ p ∈ exs.tb, G p.1 = .tb p.2 := fun p hp => by
    show (match exs.tb.find? fun r => r.1 == p.1 with
      | some r => Tag.tb r.2
      | none => if H p.1 = none then .un else .st) = .tb p.2
    cases e : exs.tb.find? fun r => r.1 == p.1 with
    | some r => exact congrArg Tag.tb ((hq p hp).2 r (List.mem_of_find?_eq_some e) (beq_iff_eq.mp (List.find?_some (p := fun r : Addr × Str => r.1 == p.1) e)))
    | none => exact absurd (beq_self_eq_true _) (List.find?_eq_none.mp e p hp)
  have gSt : ∀ b, (exs.tb.find? fun p => p.1 == b) = none → G b = if H b = none then .un else .st := fun b e => by
    show (match exs.tb.find? fun p => p.1 == b with
      | some p => Tag.tb p.2
      | none => if H b = none then .un else .st) = _
    rw [e]
  have bT : ∀ b p, (exs.tb.find? fun p => p.1 == b) = some p → p ∈ exs.tb ∧ p.1 = b ∧ G b = .tb p.2 := fun b p e => by
    have h1 := List.mem_of_find?_eq_some e
    have h2 : p.1 = b := beq_iff_eq.mp (List.find?_some (p := fun p : Addr × Str => p.1 == b) e)
    exact ⟨h1, h2, by rw [← h2]; exact gTb p h1⟩
  have hB : ∀ b, (∀ t, H b ≠ some (.tbl t)) → Bh G H b = H b := fun b n => by
    unfold Bh
    cases e : exs.tb.find? fun p => p.1 == b with
    | some p =>
      obtain ⟨h1, h2, h3⟩ := bT b p e
      obtain ⟨⟨q, q1, q2⟩, _⟩ := hq p h1
      have := hT q q1
      rw [q2, h2] at this
      exact absurd this (n _)
    | none =>
      by_cases q : H b = none
      · rw [if_neg (by rw [gSt b e, if_pos q]; exact fun z => nomatch z), q]
      · rw [if_pos (by rw [gSt b e, if_neg q])]
  have tag : Tagd G H := by
    refine ⟨fun b z => ?_, fun b hb z => ?_, fun b q z => ?_, fun b ps z y => ?_, exs.tb, gAt⟩
    · exfalso
      cases e : exs.tb.find? fun p => p.1 == b with
      | some p =>
        rw [(bT b p e).2.2] at z
        rcases z with z | ⟨i, z⟩ <;> cases z
      | none =>
        rw [gSt b e] at z
        rcases z with z | ⟨i, z⟩ <;> split at z <;> cases z
    · cases e : exs.tb.find? fun p => p.1 == b with
      | some p =>
        obtain ⟨h1, h2, h3⟩ := bT b p e
        obtain ⟨⟨q, q1, q2⟩, _⟩ := hq p h1
        have := hT q q1
        rw [q2, h2, z] at this
        cases this
      | none =>
        rw [gSt b e, if_pos z] at hb
        exact hb rfl
    · obtain ⟨⟨r, r1, r2⟩, _⟩ := hq _ (gAt b q z)
      have z2 := hT r r1
      rw [r2] at z2
      refine ⟨#[], z2, True.intro, fun pos cv hc => ?_⟩
      have hc : codeAmong pos [] = some cv := hc
      simp [codeAmong] at hc
    · cases e : exs.tb.find? fun p => p.1 == b with
      | some p =>
        rw [(bT b p e).2.2] at z
        cases z
      | none =>
        rcases hO b with q | q | ⟨o, xs, q⟩
        · rw [q] at y
          cases y
        · exact noT b e q
        · rw [q] at y
          cases y
  have same : SqL K (Bh G H) a (ns.map V.int) := sql_ext hS fun u hu nt => by
    rw [hB a fun t z => nt t (Option.some.inj (hu.symm.trans z))]
    exact hu
  refine ⟨G, [.s (ns.map PyData.int)], .ok (.v (.bool true)), [none], rfl, tag, gTb, ⟨⟨a, _, rfl, same, RpAll.of_ints ns⟩, trivial⟩, h, fun H' G' e t oo v hv => ?_⟩
  cases (show Rp K (Bh G' H') v (.bool true) from hv)
  rfl
/-- what is to be shown of the law at its entry -/
def LawG (P : Program) (w : World) (K : PySem.W.Frag) (n k : Nat) (x : Str) (mg : Str → Option Value) (fa : Addr) (h : Heap) : Prop :=
  ∃ (fd : FuncData) (cs : List (Addr × Addr)) (exs : EX) (F : List Arg → Option (Out Val × List (Option M))), (∀ p ∈ cs, h.get? p.2 = some { cls := .none, data := .fields #[] }) ∧ (∀ p ∈ cs, K.lookup p.2 = none) ∧ (∀ p ∈ cs, PySem.W.CodeHd h p.1 p.2) ∧
    (∀ p ∈ exs.tb, (∃ q ∈ cs, q.2 = p.1) ∧ ∀ r ∈ exs.tb, r.1 = p.1 → r.2 = p.2) ∧ (∀ p ∈ cs, ∃ r ∈ exs.tb, r.1 = p.2) ∧
    (∀ (s : Shared) (u : Value), BindsTo s fd ⟨[u], []⟩ [(x, u)]) ∧ (∀ base : Heap, K.In base → base.Ns mainGlobals mg → (∀ p ∈ cs, LamX.TabB base mg p.1 p.2) → FnG P w K mg base k fa fd [x] (spF K exs 1 F)) ∧
    ∀ ns : List Int, ns.length ≤ n → F [.s (ns.map PyData.int)] = some (.ok (.v (.bool true)), [none])
/-- the end of a row: what is left to show of the law -/
theorem walkG {l : PySem.W.OpenLaw} {n k : Nat} {q : Program} {loose : List Str} {XP : (Str → Option Value) → Heap → Prop} {YP : World → Heap → Prop} {d : DefRec} {K : Params → PySem.W.Frag} {x : Str}
    (hn : l.most = some n) (hn2 : n ≤ sizeLine) (hdf : d.params.defaults = []) (room : Room k callerA) (hY : ∀ (w : World) (h : Heap), YP w h → (K w.params).In h)
    (F : ∀ (w : World) (mg : Str → Option Value) (fa : Addr) (h : Heap), YP w h → (K w.params).In h → h.Ns mainGlobals mg → mg d.name = some (.ref fa) → LawG l.prog w (K w.params) n k x mg fa h) :
    PySem.W.WalkO q loose XP YP l.row.toRowW d [] (fun f vs => PySem.call f vs) := by
  refine Att.attach_call hn hdf ?_
  intro w s₀ s₁ mg mb fa o pm cd doc a vs ns G Y ho hd hcd hmg hobj hints hlen hg
  obtain ⟨fd, cs, exs, Fn, hT, nT, hC, q1, q2, hb, hF, hlaw⟩ := F w mg fa _ Y (hY w _ Y) G.T.g hmg
  exact law_runs (hY w _ Y) G.T.g G.T.b G.T.builtins G.T.nolimit hg hT nT hC G.T.bmain hobj hints (Nat.le_trans hlen hn2) room hF hb fun H hO hTb hS => sp_law q1 q2 hO hTb hS (hlaw ns hlen)
/-! ### the exceptions' classes, by one computation -/
def ecB (K : PySem.W.Frag) (C : Addr) : Bool :=
  PySem.W.findIn K (.ref C) "__getattribute__" == some (some (.builtin "BaseException.__getattribute__")) && PySem.W.findIn K (.ref C) "__getattr__" == some none && PySem.W.subIn K (.ref C) (.type "BaseException") == some true && PySem.W.hasDictIn K C &&
  PySem.W.findIn K (.ref C) "__class__" == some (some (.builtin "object.__class__")) && PySem.W.specialIn K (.builtin "object.__class__") "__get__" == some (some (.builtin "getset_descriptor.__get__")) && PySem.W.takesIn K (.builtin "object.__class__") == some true && PySem.W.mroIn K C (.type "object") == some true
theorem ecB_ok {K : PySem.W.Frag} {C : Addr} (h : ecB K C = true) : ExcC K C := by
  unfold ecB at h
  simp only [Bool.and_eq_true, beq_iff_eq] at h
  obtain ⟨⟨⟨⟨⟨⟨⟨h1, h2⟩, h3⟩, h4⟩, h5⟩, h6⟩, h7⟩, h8⟩ := h
  exact ⟨h1, h2, h3, h4, h5, h6, h7, h8⟩
def excOne (K : PySem.W.Frag) (As : List Addr) (k : Nat) (C : Addr) (i : ExI) : Bool :=
  PySem.W.keepIn K (.ref C) && (k == 0 || i.two || PySem.W.excIn K C [.type "ValueError", .type "Exception", .type "BaseException", .type "object"] "ValueError.__new__") && ecB K C && PySem.W.typeIn K (.ref C) == some (.type "type") && (PySem.W.clsIn K C).isSome &&
  PySem.W.subIn K (.ref C) (.type "ValueError") == some true && PySem.W.findIn K (.ref C) "amount" == some none && PySem.W.findIn K (.ref C) "limit" == some none &&
  (List.range As.length).all fun j => match As[j]? with
    | some D => PySem.W.subIn K (.ref C) (.ref D) == some (k == j || j == 0)
    | none => true
def excAll (K : PySem.W.Frag) (es : List ExI) (As : List Addr) : Bool :=
  (List.range As.length).all fun k => match As[k]?, es[k]? with
    | some C, some i => excOne K As k C i
    | _, _ => false
theorem excs_of {K : PySem.W.Frag} {mg : Str → Option Value} {es : List ExI} (As : List Addr) (h : excAll K es As = true) (hat : ∀ (k : Nat) (i : ExI), es[k]? = some i → ∃ C, As[k]? = some C ∧ mg i.name = some (.ref C)) : ExcsOk K mg (fun k => es[k]?) fun k => As[k]? := by
  have one : ∀ k C, As[k]? = some C → ∃ i, es[k]? = some i ∧ excOne K As k C i = true := fun k C e => by
    have hk : k < As.length := by
      rcases Nat.lt_or_ge k As.length with q | q
      · exact q
      · rw [List.getElem?_eq_none q] at e
        cases e
    have h1 := List.all_eq_true.mp h k (List.mem_range.mpr hk)
    rw [e] at h1
    cases q : es[k]? with
    | none =>
      rw [q] at h1
      cases h1
    | some i =>
      rw [q] at h1
      exact ⟨i, rfl, h1⟩
  have parts : ∀ k C, As[k]? = some C → ∃ i, es[k]? = some i ∧ PySem.W.keepIn K (.ref C) = true ∧ (k ≠ 0 → i.two = false → PySem.W.excIn K C [.type "ValueError", .type "Exception", .type "BaseException", .type "object"] "ValueError.__new__" = true) ∧ ExcC K C ∧ PySem.W.typeIn K (.ref C) = some (.type "type") ∧ (PySem.W.clsIn K C).isSome = true ∧
      PySem.W.subIn K (.ref C) (.type "ValueError") = some true ∧ PySem.W.findIn K (.ref C) "amount" = some none ∧ PySem.W.findIn K (.ref C) "limit" = some none ∧ ∀ j D, As[j]? = some D → PySem.W.subIn K (.ref C) (.ref D) = some (k == j || j == 0) := fun k C e => by
    obtain ⟨i, hi, h1⟩ := one k C e
    unfold excOne at h1
    simp only [Bool.and_eq_true, beq_iff_eq] at h1
    obtain ⟨⟨⟨⟨⟨⟨⟨⟨p1, p2⟩, p3⟩, p4⟩, p5⟩, p6⟩, p7⟩, p8⟩, p9⟩ := h1
    refine ⟨i, hi, p1, fun n0 t0 => ?_, ecB_ok p3, p4, p5, p6, p7, p8, fun j D ej => ?_⟩
    · rw [t0, Bool.or_false, show (k == 0) = false from by simp [n0], Bool.false_or] at p2
      exact p2
    · have hj : j < As.length := by
        rcases Nat.lt_or_ge j As.length with q | q
        · exact q
        · rw [List.getElem?_eq_none q] at ej
          cases ej
      have h2 := List.all_eq_true.mp p9 j (List.mem_range.mpr hj)
      rw [ej] at h2
      exact beq_iff_eq.mp h2
  refine ⟨fun k i hi => ?_, fun k j C D hC hD => ?_, fun k C hC => ?_, fun k C hC => ?_, fun k C hC => ?_⟩
  · obtain ⟨C, hC, hm⟩ := hat k i hi
    obtain ⟨i', hi', p1, p2, _⟩ := parts k C hC
    rw [hi] at hi'
    cases hi'
    exact ⟨C, hC, hm, p1, p2⟩
  · obtain ⟨_, _, _, _, _, _, _, _, _, _, p⟩ := parts k C hC
    exact p j D hD
  · obtain ⟨_, _, _, _, p1, p2, p3, _⟩ := parts k C hC
    exact ⟨p1, p2, p3⟩
  · obtain ⟨_, _, _, _, _, _, _, p, _⟩ := parts k C hC
    exact p
  · obtain ⟨_, _, _, _, _, _, _, _, p1, p2, _⟩ := parts k C hC
    exact ⟨p1, p2⟩
theorem tabs_q1 {L : List (Addr × Addr × Str)} (nd : (L.map fun p => p.2.1).Nodup) : ∀ p ∈ L.map (fun p => p.2), (∃ q ∈ L.map (fun p => (p.1, p.2.1)), q.2 = p.1) ∧ ∀ r ∈ L.map (fun p => p.2), r.1 = p.1 → r.2 = p.2 := by
  intro p hp
  obtain ⟨x, hx, rfl⟩ := List.mem_map.mp hp
  refine ⟨⟨_, List.mem_map.mpr ⟨x, hx, rfl⟩, rfl⟩, fun r hr e => ?_⟩
  obtain ⟨y, hy, rfl⟩ := List.mem_map.mp hr
  have same : ∀ {L : List (Addr × Addr × Str)}, (L.map fun p => p.2.1).Nodup → x ∈ L → y ∈ L → y = x := by
    intro L
    induction L with
    | nil => exact fun _ h => nomatch h
    | cons z L ih =>
      intro nd h1 h2
      rw [List.map_cons, List.nodup_cons] at nd
      rcases List.mem_cons.mp h1 with q1 | q1
      · rcases List.mem_cons.mp h2 with q2 | q2
        · rw [q1, q2]
        · exact absurd (List.mem_map.mpr ⟨y, q2, by rw [← q1]; exact e⟩) nd.1
      · rcases List.mem_cons.mp h2 with q2 | q2
        · exact absurd (List.mem_map.mpr ⟨x, q1, by rw [← q2]; exact e.symm⟩) nd.1
        · exact ih nd.2 q1 q2
  rw [same nd hx hy]
theorem tabs_q2 {L : List (Addr × Addr × Str)} : ∀ p ∈ L.map (fun p => (p.1, p.2.1)), ∃ r ∈ L.map (fun p => p.2), r.1 = p.2 := by
  intro p hp
  obtain ⟨x, hx, rfl⟩ := List.mem_map.mp hp
  exact ⟨_, List.mem_map.mpr ⟨x, hx, rfl⟩, rfl⟩
/-! ### classes with their own __init__ -/
def clsDef (s : Stmt) (j : Nat) : Stmt := match s with
  | .ClassDef _ _ _ body _ _ _ _ _ _ _ => body.getD j (.Pass ⟨0, 0, 0, 0⟩)
  | s => s
def twoB (K : PySem.W.Frag) (C : Addr) : Bool :=
  PySem.W.findIn K (.ref C) "__setattr__" == some (some (.builtin "object.__setattr__")) && PySem.W.subIn K (.ref C) (.type "BaseException") == some true && PySem.W.typeIn K (.ref C) == some (.type "type") && PySem.W.keepIn K (.ref C) &&
  PySem.W.mroIn K C (.ref C) == some true && PySem.W.ks_superIn K C C "__init__" == some (some (.builtin "ValueError.__init__")) && PySem.W.subIn K (.ref C) (.type "ValueError") == some true && PySem.W.nsIn K cStatics "thirdparty.any" == some none &&
  PySem.W.findIn K (.ref C) "amount" == some none && PySem.W.findIn K (.ref C) "limit" == some none
theorem two_of {P : Program} {K : PySem.W.Frag} {mg : Str → Option Value} {C fI cc cda N : Addr} {cn cq qual x1 x2 fl : Str} {bs bm : List Value} {sn : List Str} {sub : List Value} {ab : Bool} {col : Option Bool} {dd : Option Addr} {k0 k1 k2 k3 k5 : Option Value} {kV dc pm ct oc ho cl : Value} {an od hd cld : Option Addr} {osl hs csl : Array (Option Value)} {hv : Array Value} {tf : Tok} {st : Stmt} {ar : PySem.Arg}
    (o : K.lookup C = some (excClassObj cn cq C N bs bm true sn sub ab col dd k0 k1 k2 k3 k5 "ValueError.__new__")) (r : PySem.HandSPX.refsVE bm = true) (tb : twoB K C = true)
    (iC : PySem.W.findIn K (.ref C) "__init__" = some (some (.ref fI))) (iT : PySem.W.typeIn K (.ref fI) = some (.type "function")) (iL : K.lookup fI = some ⟨oc, od, .func (PySem.W.ksFn "__init__" qual (defArgs st) (defBody st) (defScope st) .none kV dc pm an (.ref cda) ct cc), osl⟩) (iD : PySem.W.codeIn K (.ref cda) qual = true)
    (iB : L2.Binds K (PySem.W.ksFn "__init__" qual (defArgs st) (defBody st) (defScope st) .none kV dc pm an (.ref cda) ct cc) [ar.arg, x1, x2] []) (iH : ((defArgs st).posonlyargs ++ (defArgs st).args).head? = some ar) (iI : initB ar.arg x1 x2 (defBody st) = true)
    (iS : (defScope st).kind = .function ∧ (defScope st).isCoroutine = false ∧ (defScope st).isGenerator = false ∧ ∀ x ∈ (defScope st).names, x.2 ≠ .cell)
    (iN : (defScope st).names.lookup ("super" : Str) = some .globalImplicit ∧ (defScope st).names.lookup ("__class__" : Str) = some .free ∧ (defScope st).names.lookup ar.arg = some .local ∧ (defScope st).names.lookup x1 = some .local ∧ (defScope st).names.lookup x2 = some .local)
    (iO : [ar.arg, x1, x2].Nodup ∧ (nmOk ar.arg && nmOk x1 && nmOk x2) = true) (cL : K.lookup cda = some ⟨ho, hd, .fields hv, hs⟩) (cF : hv[2]? = some (.str fl tf)) (cE : ((P.main.file : Str) == fl) = true) (eL : K.lookup cc = some ⟨cl, cld, .cell (some (.ref C)), csl⟩)
    (zS : mg "super" = none) (tS : (P.main.scope.names.lookup ("super" : Str)).isSome = false) : Two P K mg C := by
  unfold twoB at tb
  simp only [Bool.and_eq_true, beq_iff_eq] at tb
  obtain ⟨⟨⟨⟨⟨⟨⟨⟨⟨t1, t2⟩, t3⟩, t4⟩, t5⟩, t6⟩, t7⟩, t8⟩, t9⟩, t10⟩ := tb
  exact ⟨⟨⟨⟨_, _, _, _, _, _, _, _, _, _, _, _, _, _, _, o, r⟩, t1, t2, t3, t4⟩, t5, t6, t7, t8, t9, t10⟩,
    fI, cc, cda, _, _, _, _, _, _, _, _, _, _, _, _, _, _, ar, x1, x2, iC, iT, iL, iD, iB, iH, iI, iS, iN, iO, ⟨_, _, _, _, cL, rfl, cF, cE⟩, ⟨_, _, _, eL⟩, zS, tS⟩
end Z

/-! ZT: typed programs, and that the machine does what they say. Nothing here speaks of the model. -/
namespace Z
open PySem (PyData)

abbrev P (α : Type) := Option (Out α)
def ok {α : Type} (a : α) : P α := some (.ok a)
def thr {α : Type} (x : Exc) : P α := some (.ex x)
def lf {α : Type} (o : Option α) : P α :=
  match o with
  | none => none
  | some a => some (.ok a)
def bd {α β : Type} (m : P α) (k : α → P β) : P β :=
  match m with
  | none => none
  | some (.ok a) => k a
  | some (.ex x) => some (.ex x)
def nx {α : Type} (m : P α) : P α :=
  match m with
  | none => none
  | some (.ok a) => some (.ok a)
  | some (.ex _) => none
def stop {α : Type} : P α := none

class Inj (ω : Type) where
  inj : Exc → ω
instance {α : Type} : Inj (Out α) := ⟨.ex⟩
instance : Inj Fl := ⟨.ex⟩
def bg {α ω : Type} [Inj ω] (r : R α) (k : α → Sg → Option (ω × Sg)) : Option (ω × Sg) :=
  match r with
  | none => none
  | some (.ok a, g) => k a g
  | some (.ex x, g) => some (Inj.inj x, g)
theorem bnd_bg {α β : Type} (r : R α) (k : α → Sg → R β) : bnd r k = bg r k := by
  rcases r with _ | ⟨a | x, g⟩ <;> rfl
theorem sbnd_bg {α : Type} (r : R α) (k : α → Sg → RS) : sbnd r k = bg r k := by
  rcases r with _ | ⟨a | x, g⟩ <;> rfl
theorem bg_bnd {α β ω : Type} [Inj ω] (r : R α) (k : α → Sg → R β) (K : β → Sg → Option (ω × Sg)) : bg (bnd r k) K = bg r fun a g => bg (k a g) K := by
  rcases r with _ | ⟨a | x, g⟩ <;> rfl
theorem bg_ret {α ω : Type} [Inj ω] (a : α) (g : Sg) (K : α → Sg → Option (ω × Sg)) : bg (ret a g) K = K a g := rfl
theorem bg_ite {α ω : Type} [Inj ω] (c : Prop) [Decidable c] (x y : R α) (K : α → Sg → Option (ω × Sg)) : bg (if c then x else y) K = if c then bg x K else bg y K := by
  by_cases h : c
  · rw [if_pos h, if_pos h]
  · rw [if_neg h, if_neg h]
theorem seq_seq (r : RS) (k k' : Sg → RS) : seq (seq r k) k' = seq r fun g => seq (k g) k' := by
  rcases r with _ | ⟨fl, g⟩
  · rfl
  · cases fl <;> rfl
theorem seq_bg {α : Type} (r : R α) (k : α → Sg → RS) (K : Sg → RS) : seq (bg r k) K = bg r fun a g => seq (k a g) K := by
  rcases r with _ | ⟨a | x, g⟩ <;> rfl

/-- the machine does what the typed program says -/
def SimD {ω ρ : Type} [Inj ω] (n : Sg → Prop) (r : Option (ω × Sg)) (m : P ρ) (Φ : ρ → ω → Sg → Prop) : Prop :=
  match m with
  | none => True
  | some (.ok x) => ∃ w g, r = some (w, g) ∧ Φ x w g
  | some (.ex x) => ∃ g, r = some (Inj.inj x, g) ∧ n g
structure Sim {ω ρ : Type} [Inj ω] (n : Sg → Prop) (r : Option (ω × Sg)) (m : P ρ) (Φ : ρ → ω → Sg → Prop) : Prop where
  out : SimD n r m Φ
/-- an operation of plain data -/
def OpD {α : Type} (o : Option Val) (m : P α) (V : α → Val) : Prop :=
  match m with
  | none => True
  | some (.ok x) => o = some (V x)
  | some (.ex _) => False
structure OpS {α : Type} (o : Option Val) (m : P α) (V : α → Val) : Prop where
  out : OpD o m V
/-- a def, called -/
def FD {ρ : Type} (k : Nat) (r : Option (Out Val × List (Option M))) (m : P ρ) (ψ : ρ → Val × List (Option M)) : Prop :=
  match m with
  | none => True
  | some (.ok x) => r = some (.ok (ψ x).1, (ψ x).2)
  | some (.ex x) => r = some (.ex x, List.replicate k none)
structure FS {ρ : Type} (k : Nat) (r : Option (Out Val × List (Option M))) (m : P ρ) (ψ : ρ → Val × List (Option M)) : Prop where
  out : FD k r m ψ

section
variable {ω ρ α β γ σ : Type} [Inj ω] {N : Sg → Prop} {Φ : ρ → ω → Sg → Prop}
theorem s_done {x : ρ} {w : ω} {g : Sg} (h : Φ x w g) : Sim N (some (w, g)) (ok x) Φ := ⟨w, g, rfl, h⟩
theorem s_stop {r : Option (ω × Sg)} : Sim N r stop Φ := ⟨trivial⟩
theorem Sim.imp {r : Option (ω × Sg)} {m : P ρ} {Ψ : ρ → ω → Sg → Prop} (h : Sim N r m Φ) (q : ∀ x w g, Φ x w g → Ψ x w g) : Sim N r m Ψ := by
  rcases m with _ | x | x
  · exact ⟨trivial⟩
  · obtain ⟨w, g, h1, h2⟩ := h
    exact ⟨w, g, h1, q _ _ _ h2⟩
  · exact ⟨h.out⟩
theorem s_congr {r : R α} {k k' : α → Sg → Option (ω × Sg)} {M : P ρ} (h : Sim N (bg r k') M Φ) (e : ∀ a g, k a g = k' a g) : Sim N (bg r k) M Φ := by
  have : k = k' := by
    funext a g
    exact e a g
  rw [this]
  exact h
/-- a join: the value comes of a block of its own -/
theorem s_blk {r : R α} {K : α → Sg → Option (ω × Sg)} {m : P β} {k : β → P ρ} {φ : β → Out α → Sg → Prop} (h : Sim N r m φ) (hφ : ∀ b w g, φ b w g → ∃ a, w = .ok a ∧ Sim N (K a g) (k b) Φ) : Sim N (bg r K) (bd m k) Φ := by
  rcases m with _ | b | x
  · exact ⟨trivial⟩
  · obtain ⟨w, g, rfl, h2⟩ := h
    obtain ⟨a, rfl, h3⟩ := hφ _ _ _ h2
    exact h3
  · obtain ⟨g, rfl, h2⟩ := h
    exact ⟨g, rfl, h2⟩
theorem s_opt {o : Option Val} {m : P α} {V : α → Val} {k : α → P ρ} {K : Val → Sg → Option (ω × Sg)} {g : Sg} (h : OpS o m V) (hk : ∀ x, Sim N (K (V x) g) (k x) Φ) : Sim N (bg (opt o g) K) (bd m k) Φ := by
  rcases m with _ | b | x
  · exact ⟨trivial⟩
  · have h : o = some (V b) := h.out
    subst h
    exact hk b
  · exact False.elim h.out
theorem s_optt {o : Option Val} {v : Val} {M : P ρ} {K : Val → Sg → Option (ω × Sg)} {g : Sg} (h : o = some v) (hk : Sim N (K v g) M Φ) : Sim N (bg (opt o g) K) M Φ := by
  subst h
  exact hk
/-- a value gets a name -/
theorem s_let {R : α → Option (ω × Sg)} {a : α} {k : α → P ρ} (h : ∀ x, Sim N (R x) (k x) Φ) : Sim N (R a) (bd (ok a) k) Φ := h a

variable {Γ : Call} {cs : List (PySem.Str × D)} {fu : Nat}
section
variable {K : Val → Sg → Option (ω × Sg)} {M : P ρ} {g : Sg}
theorem s_tot {c : C} {v : Val} (h : ev Γ cs c g = some (.ok v, g)) (hk : Sim N (K v g) M Φ) : Sim N (bg (ev Γ cs c g) K) M Φ := by
  rw [h]
  exact hk
theorem s_frz {i : Nat} {c : Z.M} {g' : Sg} (h : g[i]? = some (.ow c)) (hg : g.set i (.im c.toD) = g') (hk : Sim N (K (.v c.toD) g') M Φ) : Sim N (bg (ev Γ cs (.var i) g) K) M Φ := by
  have e : ev Γ cs (.var i) g = some (.ok (.v c.toD), g') := by
    subst hg
    show (match g[i]? with
    | some (.im d) => ret (Val.v d) g
    | some (.ow c) => ret (.v c.toD) (g.set i (.im c.toD))
    | _ => none) = _
    rw [h]
    rfl
  rw [e]
  exact hk
theorem s_bin {o : BOp} {a b : C} (h : Sim N (bg (ev Γ cs a g) fun x g => bg (ev Γ cs b g) fun y g => bg (opt (binD o x.toD y.toD) g) K) M Φ) : Sim N (bg (ev Γ cs (.bin o a b) g) K) M Φ := by
  show Sim N (bg (bnd _ _) K) M Φ
  simp only [bg_bnd]
  exact h
theorem s_cmp {o : COp} {a b : C} (h : Sim N (bg (ev Γ cs a g) fun x g => bg (ev Γ cs b g) fun y g => bg (opt ((cmpD o x.toD y.toD).map fun b => .v (.bool b)) g) K) M Φ) : Sim N (bg (ev Γ cs (.cmp o a b) g) K) M Φ := by
  show Sim N (bg (bnd _ _) K) M Φ
  simp only [bg_bnd]
  exact h
def kNeg' (K : Val → Sg → Option (ω × Sg)) (x : Val) (g : Sg) : Option (ω × Sg) :=
  match x with
  | .v (.int i) => K (.v (.int (-i))) g
  | _ => none
theorem s_neg {a : C} (h : Sim N (bg (ev Γ cs a g) (kNeg' K)) M Φ) : Sim N (bg (ev Γ cs (.neg a) g) K) M Φ := by
  show Sim N (bg (bnd _ _) K) M Φ
  rw [bg_bnd]
  refine s_congr h fun a g => ?_
  rcases a with d | m
  · cases d <;> rfl
  · rfl
def kNot' (K : Val → Sg → Option (ω × Sg)) (x : Val) (g : Sg) : Option (ω × Sg) := bg (opt ((truth x.toD).map fun b => .v (.bool (!b))) g) K
theorem s_not {a : C} (h : Sim N (bg (ev Γ cs a g) (kNot' K)) M Φ) : Sim N (bg (ev Γ cs (.not a) g) K) M Φ := by
  show Sim N (bg (bnd _ _) K) M Φ
  rw [bg_bnd]
  exact h
/-- and, or: the left one is known -/
def kAnd' (Γ : Call) (cs : List (PySem.Str × D)) (b : C) (K : Val → Sg → Option (ω × Sg)) (x : Val) (g : Sg) : Option (ω × Sg) :=
  match x with
  | .v (.bool true) => bg (ev Γ cs b g) K
  | .v (.bool false) => K (.v (.bool false)) g
  | _ => none
def kOr' (Γ : Call) (cs : List (PySem.Str × D)) (b : C) (K : Val → Sg → Option (ω × Sg)) (x : Val) (g : Sg) : Option (ω × Sg) :=
  match x with
  | .v (.bool true) => K (.v (.bool true)) g
  | .v (.bool false) => bg (ev Γ cs b g) K
  | _ => none
theorem s_and {a b : C} (h : Sim N (bg (ev Γ cs a g) (kAnd' Γ cs b K)) M Φ) : Sim N (bg (ev Γ cs (.and a b) g) K) M Φ := by
  show Sim N (bg (bnd _ _) K) M Φ
  rw [bg_bnd]
  refine s_congr h fun a g => ?_
  rcases a with d | m
  · cases d with
    | bool b => cases b <;> rfl
    | _ => rfl
  · rfl
theorem s_or {a b : C} (h : Sim N (bg (ev Γ cs a g) (kOr' Γ cs b K)) M Φ) : Sim N (bg (ev Γ cs (.or a b) g) K) M Φ := by
  show Sim N (bg (bnd _ _) K) M Φ
  rw [bg_bnd]
  refine s_congr h fun a g => ?_
  rcases a with d | m
  · cases d with
    | bool b => cases b <;> rfl
    | _ => rfl
  · rfl
/-- what a block of its own hands on: a value and the slots -/
abbrev Hd (φ : β → Val × Sg) : β → Out Val → Sg → Prop := fun b w g => w = .ok (φ b).1 ∧ g = (φ b).2
abbrev rK : Val → Sg → R Val := fun v g => some (.ok v, g)
theorem bg_rK (r : R Val) : bg r rK = r := by
  rcases r with _ | ⟨a | x, g⟩ <;> rfl
theorem f_and {t : Bool} {b : C} {mb : P β} {z : β} {φ : β → Val × Sg} {k : β → P ρ} (hb : Sim N (bg (ev Γ cs b g) rK) mb (Hd φ)) (hz : φ z = (.v (.bool false), g)) (hk : ∀ b, Sim N (K (φ b).1 (φ b).2) (k b) Φ) :
  Sim N (kAnd' Γ cs b K (.v (.bool t)) g) (bd (if t = true then mb else ok z) k) Φ := by
  rw [bg_rK] at hb
  cases t with
  | true => exact s_blk hb fun b w g h => ⟨_, h.1, h.2 ▸ hk b⟩
  | false =>
  have := hk z
  rw [hz] at this
  exact this
theorem f_or {t : Bool} {b : C} {mb : P β} {z : β} {φ : β → Val × Sg} {k : β → P ρ} (hb : Sim N (bg (ev Γ cs b g) rK) mb (Hd φ)) (hz : φ z = (.v (.bool true), g)) (hk : ∀ b, Sim N (K (φ b).1 (φ b).2) (k b) Φ) :
  Sim N (kOr' Γ cs b K (.v (.bool t)) g) (bd (if t = true then ok z else mb) k) Φ := by
  rw [bg_rK] at hb
  cases t with
  | false => exact s_blk hb fun b w g h => ⟨_, h.1, h.2 ▸ hk b⟩
  | true =>
  have := hk z
  rw [hz] at this
  exact this
def kIte' (Γ : Call) (cs : List (PySem.Str × D)) (a b : C) (K : Val → Sg → Option (ω × Sg)) (x : Val) (g : Sg) : Option (ω × Sg) :=
  match truth x.toD with
  | some true => bg (ev Γ cs a g) K
  | some false => bg (ev Γ cs b g) K
  | none => none
theorem s_ite {c a b : C} (h : Sim N (bg (ev Γ cs c g) (kIte' Γ cs a b K)) M Φ) : Sim N (bg (ev Γ cs (.ite c a b) g) K) M Φ := by
  show Sim N (bg (bnd _ _) K) M Φ
  rw [bg_bnd]
  refine s_congr h fun x g => ?_
  unfold kIte'
  rcases truth x.toD with _ | t
  · rfl
  · cases t <;> rfl
theorem f_ite {v : Val} {t : Bool} {a b : C} {ma mb : P β} {φ : β → Val × Sg} {k : β → P ρ} (ht : truth v.toD = some t) (ha : Sim N (bg (ev Γ cs a g) rK) ma (Hd φ)) (hb : Sim N (bg (ev Γ cs b g) rK) mb (Hd φ)) (hk : ∀ b, Sim N (K (φ b).1 (φ b).2) (k b) Φ) :
  Sim N (kIte' Γ cs a b K v g) (bd (if t = true then ma else mb) k) Φ := by
  rw [bg_rK] at ha hb
  unfold kIte'
  rw [ht]
  cases t with
  | true => exact s_blk ha fun b w g h => ⟨_, h.1, h.2 ▸ hk b⟩
  | false => exact s_blk hb fun b w g h => ⟨_, h.1, h.2 ▸ hk b⟩
/-- a chain of two comparisons -/
def kChain (Γ : Call) (cs : List (PySem.Str × D)) (o p : COp) (c : C) (x y : Val) (K : Val → Sg → Option (ω × Sg)) (g : Sg) : Option (ω × Sg) :=
  match cmpD o x.toD y.toD with
  | some true => bg (ev Γ cs c g) fun z g => bg (opt ((cmpD p y.toD z.toD).map fun b => .v (.bool b)) g) K
  | some false => K (.v (.bool false)) g
  | none => none
theorem s_chain {o p : COp} {a b c : C} (h : Sim N (bg (ev Γ cs a g) fun x g => bg (ev Γ cs b g) fun y g => kChain Γ cs o p c x y K g) M Φ) : Sim N (bg (ev Γ cs (.chain o p a b c) g) K) M Φ := by
  show Sim N (bg (bnd _ _) K) M Φ
  rw [bg_bnd]
  refine s_congr h fun x g => ?_
  rw [bg_bnd]
  congr 1
  funext y g
  unfold kChain
  rcases cmpD o x.toD y.toD with _ | t
  · rfl
  · cases t
    · rfl
    · exact bg_bnd _ _ _
/-- both comparisons of data that are known: the last one is total -/
theorem f_chain {o p : COp} {c : C} {x y z : Val} {s t : Bool} (h1 : cmpD o x.toD y.toD = some s) (hc : ev Γ cs c g = some (.ok z, g)) (h2 : cmpD p y.toD z.toD = some t) (hk : Sim N (K (.v (.bool (s && t))) g) M Φ) : Sim N (kChain Γ cs o p c x y K g) M Φ := by
  unfold kChain
  rw [h1, hc]
  cases s with
  | true =>
  show Sim N (bg (opt ((cmpD p y.toD z.toD).map fun b => .v (.bool b)) g) K) M Φ
  rw [h2]
  exact hk
  | false => exact hk
/-- .. the second one of open data -/
theorem f_chainP {o p : COp} {c : C} {x y z : Val} {m1 m2 : P Bool} {k : Bool → P ρ} (h1 : OpS ((cmpD o x.toD y.toD).map fun b => .v (.bool b)) m1 fun b => .v (.bool b)) (hc : ev Γ cs c g = some (.ok z, g)) (h2 : OpS ((cmpD p y.toD z.toD).map fun b => .v (.bool b)) m2 fun b => .v (.bool b))
    (hk : ∀ t, Sim N (K (.v (.bool t)) g) (k t) Φ) : Sim N (kChain Γ cs o p c x y K g) (bd (bd m1 fun s => if s = true then m2 else ok false) k) Φ := by
  unfold kChain
  rcases m1 with _ | s | x
  · exact ⟨trivial⟩
  · have h1 : (cmpD o x.toD y.toD).map (fun b => Val.v (.bool b)) = some (.v (.bool s)) := h1.out
    obtain ⟨s', h3, h4⟩ := Option.map_eq_some_iff.mp h1
    cases h4
    rw [h3]
    cases s with
    | true =>
      show Sim N (bg (ev Γ cs c g) _) (bd m2 k) Φ
      rw [hc]
      exact s_opt h2 hk
    | false => exact hk false
  · exact False.elim h1.out
theorem s_idx {a b : C} (h : Sim N (bg (ev Γ cs a g) fun x g => bg (ev Γ cs b g) fun y g => bg (opt ((idxD x.toD y.toD).map .v) g) K) M Φ) : Sim N (bg (ev Γ cs (.idx a b) g) K) M Φ := by
  show Sim N (bg (bnd _ _) K) M Φ
  simp only [bg_bnd]
  exact h
def kIxv' (i : Nat) (K : Val → Sg → Option (ω × Sg)) (y : Val) (g : Sg) : Option (ω × Sg) :=
  match rdM g[i]? with
  | some d => bg (opt ((idxD d y.toD).map .v) g) K
  | none => none
theorem s_idxv {i : Nat} {b : C} (hs : slotIn g i = true) (h : Sim N (bg (ev Γ cs b g) (kIxv' i K)) M Φ) : Sim N (bg (ev Γ cs (.idxv i b) g) K) M Φ := by
  show Sim N (bg (if slotIn g i = true then bnd _ _ else none) K) M Φ
  rw [if_pos hs, bg_bnd]
  refine s_congr h fun y g => ?_
  unfold kIxv'
  cases rdM g[i]? <;> rfl
theorem f_ixv {i : Nat} {d : D} {y : Val} (h : rdM g[i]? = some d) (hk : Sim N (bg (opt ((idxD d y.toD).map .v) g) K) M Φ) : Sim N (kIxv' i K y g) M Φ := by
  unfold kIxv'
  rw [h]
  exact hk
theorem s_slc {a : C} {lo hi : Co} (h : Sim N (bg (ev Γ cs a g) fun x g => bg (evo Γ cs lo g) fun l g => bg (evo Γ cs hi g) fun h g => bg (opt (slcD x.toD l h) g) K) M Φ) : Sim N (bg (ev Γ cs (.slc a lo hi) g) K) M Φ := by
  show Sim N (bg (bnd _ _) K) M Φ
  simp only [bg_bnd]
  exact h
theorem s_b1 {o : B1} {a : C} (h : Sim N (bg (ev Γ cs a g) fun x g => bg (opt (b1D o x.toD) g) K) M Φ) : Sim N (bg (ev Γ cs (.b1 o a) g) K) M Φ := by
  show Sim N (bg (bnd _ _) K) M Φ
  simp only [bg_bnd]
  exact h
theorem s_b2 {o : B2} {a b : C} (h : Sim N (bg (ev Γ cs a g) fun x g => bg (ev Γ cs b g) fun y g => bg (opt ((b2D o x.toD y.toD).map .v) g) K) M Φ) : Sim N (bg (ev Γ cs (.b2 o a b) g) K) M Φ := by
  show Sim N (bg (bnd _ _) K) M Φ
  simp only [bg_bnd]
  exact h
theorem s_isi {a : C} {t : Ty} (h : Sim N (bg (ev Γ cs a g) fun x g => K (.v (.bool (isiD x.toD t))) g) M Φ) : Sim N (bg (ev Γ cs (.isi a t) g) K) M Φ := by
  show Sim N (bg (bnd _ _) K) M Φ
  simp only [bg_bnd]
  exact h
def kMt' (Γ : Call) (cs : List (PySem.Str × D)) (o : MO) (b : C) (K : Val → Sg → Option (ω × Sg)) (x : Val) (g : Sg) : Option (ω × Sg) := if isLst x.toD = true then bg (ev Γ cs b g) fun y g => bg (opt ((mtD o x.toD y.toD).map .v) g) K else none
theorem s_mt {o : MO} {a b : C} (h : Sim N (bg (ev Γ cs a g) (kMt' Γ cs o b K)) M Φ) : Sim N (bg (ev Γ cs (.mt o a b) g) K) M Φ := by
  show Sim N (bg (bnd _ _) K) M Φ
  rw [bg_bnd]
  refine s_congr h fun x g => ?_
  unfold kMt'
  rw [bg_ite, bg_bnd]
  rfl
theorem f_mt {o : MO} {b : C} {x : Val} (h : isLst x.toD = true) (hk : Sim N (bg (ev Γ cs b g) fun y g => bg (opt ((mtD o x.toD y.toD).map .v) g) K) M Φ) : Sim N (kMt' Γ cs o b K x g) M Φ := by
  unfold kMt'
  rw [if_pos h]
  exact hk
def kTup' (K : Val → Sg → Option (ω × Sg)) (ds : List D) (g : Sg) : Option (ω × Sg) := if ds.length ≤ PySem.sizeLine then K (.v (.tuple ds)) g else none
def kLst' (K : Val → Sg → Option (ω × Sg)) (ds : List D) (g : Sg) : Option (ω × Sg) := if ds.length ≤ PySem.sizeLine then K (.m (.l ds)) g else none
theorem s_tup {es : Cs} (h : Sim N (bg (evs Γ cs es g) (kTup' K)) M Φ) : Sim N (bg (ev Γ cs (.tup es) g) K) M Φ := by
  show Sim N (bg (bnd _ _) K) M Φ
  simp only [bg_bnd, bg_ite]
  exact h
theorem s_lst {es : Cs} (h : Sim N (bg (evs Γ cs es g) (kLst' K)) M Φ) : Sim N (bg (ev Γ cs (.lst es) g) K) M Φ := by
  show Sim N (bg (bnd _ _) K) M Φ
  simp only [bg_bnd, bg_ite]
  exact h
theorem f_tup {ds : List D} (h : ds.length ≤ PySem.sizeLine) (hk : Sim N (K (.v (.tuple ds)) g) M Φ) : Sim N (kTup' K ds g) M Φ := by
  unfold kTup'
  rw [if_pos h]
  exact hk
theorem f_lst {ds : List D} (h : ds.length ≤ PySem.sizeLine) (hk : Sim N (K (.m (.l ds)) g) M Φ) : Sim N (kLst' K ds g) M Φ := by
  unfold kLst'
  rw [if_pos h]
  exact hk
end
/-! lists of parts, ends of slices, arguments -/
section
variable {M : P ρ} {g : Sg}
theorem s_es_nil {K : List D → Sg → Option (ω × Sg)} (h : Sim N (K [] g) M Φ) : Sim N (bg (evs Γ cs .nil g) K) M Φ := h
theorem s_es_cons {K : List D → Sg → Option (ω × Sg)} {e : C} {es : Cs} (h : Sim N (bg (ev Γ cs e g) fun x g => bg (evs Γ cs es g) fun xs g => K (x.toD :: xs) g) M Φ) : Sim N (bg (evs Γ cs (.cons e es) g) K) M Φ := by
  show Sim N (bg (bnd _ _) K) M Φ
  simp only [bg_bnd]
  exact h
theorem s_o_non {K : Option Int → Sg → Option (ω × Sg)} (h : Sim N (K none g) M Φ) : Sim N (bg (evo Γ cs .non g) K) M Φ := h
def kO' (K : Option Int → Sg → Option (ω × Sg)) (x : Val) (g : Sg) : Option (ω × Sg) :=
  match x with
  | .v (.int i) => K (some i) g
  | _ => none
theorem s_o_som {K : Option Int → Sg → Option (ω × Sg)} {a : C} (h : Sim N (bg (ev Γ cs a g) (kO' K)) M Φ) : Sim N (bg (evo Γ cs (.som a) g) K) M Φ := by
  show Sim N (bg (bnd _ _) K) M Φ
  rw [bg_bnd]
  refine s_congr h fun a g => ?_
  rcases a with d | m
  · cases d <;> rfl
  · rfl
theorem s_as_nil {K : List Ar → Sg → Option (ω × Sg)} (h : Sim N (K [] g) M Φ) : Sim N (bg (evas Γ cs .nil g) K) M Φ := h
theorem s_as_val {K : List Ar → Sg → Option (ω × Sg)} {e : C} {r : As} (h : Sim N (bg (ev Γ cs e g) fun x g => bg (evas Γ cs r g) fun xs g => K (.v x.toD :: xs) g) M Φ) : Sim N (bg (evas Γ cs (.val e r) g) K) M Φ := by
  show Sim N (bg (bnd _ _) K) M Φ
  simp only [bg_bnd]
  exact h
theorem s_as_bor {K : List Ar → Sg → Option (ω × Sg)} {i : Nat} {r : As} (hs : slotIn g i = true) (h : Sim N (bg (evas Γ cs r g) fun xs g => K (.b i :: xs) g) M Φ) : Sim N (bg (evas Γ cs (.bor i r) g) K) M Φ := by
  show Sim N (bg (if slotIn g i = true then bnd _ _ else none) K) M Φ
  rw [if_pos hs]
  simp only [bg_bnd]
  exact h
def kCall' (Γ : Call) (f n : Nat) (K : Val → Sg → Option (ω × Sg)) (rs : List Ar) (g : Sg) : Option (ω × Sg) := if rs.length = n then bg (callR Γ f rs g) K else none
theorem s_call {K : Val → Sg → Option (ω × Sg)} {f n : Nat} {as : As} (h : Sim N (bg (evas Γ cs as g) (kCall' Γ f n K)) M Φ) : Sim N (bg (ev Γ cs (.call f n as) g) K) M Φ := by
  show Sim N (bg (bnd _ _) K) M Φ
  simp only [bg_bnd, bg_ite]
  exact h
theorem f_call {K : Val → Sg → Option (ω × Sg)} {f n j : Nat} {rs : List Ar} {xs : List Arg} {m : P β} {k : β → P ρ} {ψ : β → Val × List (Option Z.M)} (hΓ : FS j (Γ f xs) m ψ) (hn : rs.length = n) (hb : noDup (borrowed rs) = true) (ha : argsOf g rs = some xs)
    (hback : ∀ x, backG rs (ψ x).2 g = some g) (hex : backG rs (List.replicate j none) g = some g) (hl : N g) (hk : ∀ x, Sim N (K (ψ x).1 g) (k x) Φ) : Sim N (kCall' Γ f n K rs g) (bd m k) Φ := by
  unfold kCall' callR
  rw [if_pos hn, if_pos hb, ha]
  rcases m with _ | x | x
  · exact ⟨trivial⟩
  · have h : Γ f xs = _ := hΓ.out
    show Sim N (bg ((Γ f xs).bind _) K) (k x) Φ
    rw [h]
    show Sim N (bg ((backG rs (ψ x).2 g).map _) K) (k x) Φ
    rw [hback]
    exact hk x
  · have h : Γ f xs = _ := hΓ.out
    show Sim N (bg ((Γ f xs).bind _) K) (some (.ex x)) Φ
    rw [h]
    show Sim N (bg ((backG rs (List.replicate j none) g).map _) K) (some (.ex x)) Φ
    rw [hex]
    exact ⟨g, rfl, hl⟩
theorem f_callM {K : Val → Sg → Option (ω × Sg)} {f n j : Nat} {rs : List Ar} {xs : List Arg} {m : P β} {k : β → P ρ} {ψ : β → Val × List (Option Z.M)} {g' : β → Sg} (hΓ : FS j (Γ f xs) (nx m) ψ) (hn : rs.length = n) (hb : noDup (borrowed rs) = true) (ha : argsOf g rs = some xs)
    (hback : ∀ x, backG rs (ψ x).2 g = some (g' x)) (hk : ∀ x, Sim N (K (ψ x).1 (g' x)) (k x) Φ) : Sim N (kCall' Γ f n K rs g) (bd (nx m) k) Φ := by
  unfold kCall' callR
  rw [if_pos hn, if_pos hb, ha]
  rcases m with _ | x | x
  · exact ⟨trivial⟩
  · have h : Γ f xs = _ := hΓ.out
    show Sim N (bg ((Γ f xs).bind _) K) (k x) Φ
    rw [h]
    show Sim N (bg ((backG rs (ψ x).2 g).map _) K) (k x) Φ
    rw [hback]
    exact hk x
  · exact ⟨trivial⟩
end
end
end Z

/-! ZU: statements, loops, comprehensions, defs of typed programs. -/
namespace Z
open PySem (PyData)

/-! ### what is total -/
section
variable {Γ : Call} {cs : List (PySem.Str × D)} {g : Sg} {a b c : C} {x y z v : Val}
theorem e_int {i : Int} : ev Γ cs (.int i) g = some (.ok (.v (.int i)), g) := rfl
theorem e_bl {i : Bool} : ev Γ cs (.bl i) g = some (.ok (.v (.bool i)), g) := rfl
theorem e_non : ev Γ cs .non g = some (.ok (.v .none), g) := rfl
theorem e_str {i : PySem.Str} : ev Γ cs (.str i) g = some (.ok (.v (.str i)), g) := rfl
theorem e_var {i : Nat} {d : D} (h : g[i]? = some (.im d)) : ev Γ cs (.var i) g = some (.ok (.v d), g) := by
  show (match g[i]? with
    | some (.im d) => ret (Val.v d) g
    | some (.ow c) => ret (.v c.toD) (g.set i (.im c.toD))
    | _ => none) = _
  rw [h]
  rfl
theorem e_glb {k : Nat} {p : PySem.Str × D} (h : cs[k]? = some p) : ev Γ cs (.glb k) g = some (.ok (.v p.2), g) := by
  show (match cs[k]? with
    | some p => ret (Val.v p.2) g
    | none => none) = _
  rw [h]
  rfl
theorem e_bin {o : BOp} (ha : ev Γ cs a g = some (.ok x, g)) (hb : ev Γ cs b g = some (.ok y, g)) (h : binD o x.toD y.toD = some v) : ev Γ cs (.bin o a b) g = some (.ok v, g) := by
  show bnd (ev Γ cs a g) _ = _
  rw [ha]
  show bnd (ev Γ cs b g) _ = _
  rw [hb]
  show opt (binD o x.toD y.toD) g = _
  rw [h]
  rfl
theorem e_neg {i : Int} (ha : ev Γ cs a g = some (.ok (.v (.int i)), g)) : ev Γ cs (.neg a) g = some (.ok (.v (.int (-i))), g) := by
  show bnd (ev Γ cs a g) _ = _
  rw [ha]
  rfl
theorem e_cmp {o : COp} {t : Bool} (ha : ev Γ cs a g = some (.ok x, g)) (hb : ev Γ cs b g = some (.ok y, g)) (h : cmpD o x.toD y.toD = some t) : ev Γ cs (.cmp o a b) g = some (.ok (.v (.bool t)), g) := by
  show bnd (ev Γ cs a g) _ = _
  rw [ha]
  show bnd (ev Γ cs b g) _ = _
  rw [hb]
  show opt ((cmpD o x.toD y.toD).map _) g = _
  rw [h]
  rfl
theorem e_chain {o p : COp} {s t : Bool} (ha : ev Γ cs a g = some (.ok x, g)) (hb : ev Γ cs b g = some (.ok y, g)) (hc : ev Γ cs c g = some (.ok z, g)) (h1 : cmpD o x.toD y.toD = some s) (h2 : cmpD p y.toD z.toD = some t) :
    ev Γ cs (.chain o p a b c) g = some (.ok (.v (.bool (s && t))), g) := by
  show bnd (ev Γ cs a g) _ = _
  rw [ha]
  show bnd (ev Γ cs b g) _ = _
  rw [hb]
  show (match cmpD o x.toD y.toD with
    | some true => bnd (ev Γ cs c g) fun z g => opt ((cmpD p y.toD z.toD).map fun b => Val.v (.bool b)) g
    | some false => ret (.v (.bool false)) g
    | none => none) = _
  rw [h1]
  cases s with
  | true =>
    show bnd (ev Γ cs c g) _ = _
    rw [hc]
    show opt ((cmpD p y.toD z.toD).map _) g = _
    rw [h2]
    rfl
  | false => rfl
theorem e_and {s t : Bool} (ha : ev Γ cs a g = some (.ok (.v (.bool s)), g)) (hb : ev Γ cs b g = some (.ok (.v (.bool t)), g)) : ev Γ cs (.and a b) g = some (.ok (.v (.bool (s && t))), g) := by
  show bnd (ev Γ cs a g) _ = _
  rw [ha]
  cases s
  · rfl
  · exact hb
theorem e_or {s t : Bool} (ha : ev Γ cs a g = some (.ok (.v (.bool s)), g)) (hb : ev Γ cs b g = some (.ok (.v (.bool t)), g)) : ev Γ cs (.or a b) g = some (.ok (.v (.bool (s || t))), g) := by
  show bnd (ev Γ cs a g) _ = _
  rw [ha]
  cases s
  · exact hb
  · rfl
theorem e_not {t : Bool} (ha : ev Γ cs a g = some (.ok x, g)) (h : truth x.toD = some t) : ev Γ cs (.not a) g = some (.ok (.v (.bool (!t))), g) := by
  show bnd (ev Γ cs a g) _ = _
  rw [ha]
  show opt ((truth x.toD).map _) g = _
  rw [h]
  rfl
theorem e_ite {α : Type} {t : Bool} {V : α → Val} {p q : α} (hc : ev Γ cs c g = some (.ok x, g)) (h : truth x.toD = some t) (ha : ev Γ cs a g = some (.ok (V p), g)) (hb : ev Γ cs b g = some (.ok (V q), g)) : ev Γ cs (.ite c a b) g = some (.ok (V (if t = true then p else q)), g) := by
  show bnd (ev Γ cs c g) _ = _
  rw [hc]
  show (match truth x.toD with
    | some true => ev Γ cs a g
    | some false => ev Γ cs b g
    | none => none) = _
  rw [h]
  cases t
  · exact hb
  · exact ha
theorem es_nil : evs Γ cs .nil g = some (.ok [], g) := rfl
theorem es_cons {es : Cs} {ds : List D} (ha : ev Γ cs a g = some (.ok x, g)) (hs : evs Γ cs es g = some (.ok ds, g)) : evs Γ cs (.cons a es) g = some (.ok (x.toD :: ds), g) := by
  show bnd (ev Γ cs a g) _ = _
  rw [ha]
  show bnd (evs Γ cs es g) _ = _
  rw [hs]
  rfl
theorem e_tup {es : Cs} {ds : List D} (h : evs Γ cs es g = some (.ok ds, g)) (hl : ds.length ≤ PySem.sizeLine) : ev Γ cs (.tup es) g = some (.ok (.v (.tuple ds)), g) := by
  show bnd (evs Γ cs es g) _ = _
  rw [h]
  show (if ds.length ≤ PySem.sizeLine then _ else _) = _
  rw [if_pos hl]
  rfl
theorem e_lst {es : Cs} {ds : List D} (h : evs Γ cs es g = some (.ok ds, g)) (hl : ds.length ≤ PySem.sizeLine) : ev Γ cs (.lst es) g = some (.ok (.m (.l ds)), g) := by
  show bnd (evs Γ cs es g) _ = _
  rw [h]
  show (if ds.length ≤ PySem.sizeLine then _ else _) = _
  rw [if_pos hl]
  rfl
theorem e_idx {d : D} (ha : ev Γ cs a g = some (.ok x, g)) (hb : ev Γ cs b g = some (.ok y, g)) (h : idxD x.toD y.toD = some d) : ev Γ cs (.idx a b) g = some (.ok (.v d), g) := by
  show bnd (ev Γ cs a g) _ = _
  rw [ha]
  show bnd (ev Γ cs b g) _ = _
  rw [hb]
  show opt ((idxD x.toD y.toD).map _) g = _
  rw [h]
  rfl
theorem e_idxv {i : Nat} {d d0 : D} (hs : slotIn g i = true) (hb : ev Γ cs b g = some (.ok y, g)) (hr : rdM g[i]? = some d0) (h : idxD d0 y.toD = some d) : ev Γ cs (.idxv i b) g = some (.ok (.v d), g) := by
  show (if slotIn g i = true then bnd (ev Γ cs b g) _ else none) = _
  rw [if_pos hs, hb]
  show (match rdM g[i]? with
      | some d => opt ((idxD d y.toD).map Val.v) g
      | none => none) = _
  rw [hr]
  show opt ((idxD d0 y.toD).map _) g = _
  rw [h]
  rfl
theorem e_lenv {i : Nat} {d l : D} (hr : rdM g[i]? = some d) (h : lenD d = some l) : ev Γ cs (.lenv i) g = some (.ok (.v l), g) := by
  show (match rdM g[i]? with
    | some d => opt ((lenD d).map Val.v) g
    | none => none) = _
  rw [hr]
  show opt ((lenD d).map _) g = _
  rw [h]
  rfl
theorem e_cpv {i : Nat} {ds : List D} (hr : rdM g[i]? = some (.list ds)) : ev Γ cs (.cpv i) g = some (.ok (.m (.l ds)), g) := by
  show (match rdM g[i]? with
    | some (.list ds) => ret (Val.m (M.l ds)) g
    | _ => none) = _
  rw [hr]
  rfl
theorem o_non : evo Γ cs .non g = some (.ok none, g) := rfl
theorem o_som {i : Int} (ha : ev Γ cs a g = some (.ok (.v (.int i)), g)) : evo Γ cs (.som a) g = some (.ok (some i), g) := by
  show bnd (ev Γ cs a g) _ = _
  rw [ha]
  rfl
theorem e_slc {lo hi : Co} {l h : Option Int} (ha : ev Γ cs a g = some (.ok x, g)) (hl : evo Γ cs lo g = some (.ok l, g)) (hh : evo Γ cs hi g = some (.ok h, g)) (e : slcD x.toD l h = some v) : ev Γ cs (.slc a lo hi) g = some (.ok v, g) := by
  show bnd (ev Γ cs a g) _ = _
  rw [ha]
  show bnd (evo Γ cs lo g) _ = _
  rw [hl]
  show bnd (evo Γ cs hi g) _ = _
  rw [hh]
  show opt (slcD x.toD l h) g = _
  rw [e]
  rfl
theorem e_b1 {o : B1} (ha : ev Γ cs a g = some (.ok x, g)) (h : b1D o x.toD = some v) : ev Γ cs (.b1 o a) g = some (.ok v, g) := by
  show bnd (ev Γ cs a g) _ = _
  rw [ha]
  show opt (b1D o x.toD) g = _
  rw [h]
  rfl
theorem e_b2 {o : B2} {d : D} (ha : ev Γ cs a g = some (.ok x, g)) (hb : ev Γ cs b g = some (.ok y, g)) (h : b2D o x.toD y.toD = some d) : ev Γ cs (.b2 o a b) g = some (.ok (.v d), g) := by
  show bnd (ev Γ cs a g) _ = _
  rw [ha]
  show bnd (ev Γ cs b g) _ = _
  rw [hb]
  show opt ((b2D o x.toD y.toD).map _) g = _
  rw [h]
  rfl
theorem e_isi {t : Ty} {b : Bool} (ha : ev Γ cs a g = some (.ok x, g)) (h : isiD x.toD t = b) : ev Γ cs (.isi a t) g = some (.ok (.v (.bool b)), g) := by
  subst h
  show bnd (ev Γ cs a g) _ = _
  rw [ha]
  rfl
theorem e_mt {o : MO} {d : D} (ha : ev Γ cs a g = some (.ok x, g)) (hx : isLst x.toD = true) (hb : ev Γ cs b g = some (.ok y, g)) (h : mtD o x.toD y.toD = some d) : ev Γ cs (.mt o a b) g = some (.ok (.v d), g) := by
  show bnd (ev Γ cs a g) _ = _
  rw [ha]
  show (if isLst x.toD = true then bnd (ev Γ cs b g) _ else none) = _
  rw [if_pos hx, hb]
  show opt ((mtD o x.toD y.toD).map _) g = _
  rw [h]
  rfl
end

/-! ### where turns come from -/
section
variable {ω ρ α β γ : Type} [Inj ω] {N : Sg → Prop} {Φ : ρ → ω → Sg → Prop} {Γ : Call} {cs : List (PySem.Str × D)} {fu : Nat} {M : P ρ} {g : Sg}
section
variable {K : List D → Sg → Option (ω × Sg)}
def kSeq' (K : List D → Sg → Option (ω × Sg)) (x : Val) (g : Sg) : Option (ω × Sg) :=
  match seqD x.toD with
  | some ds => K ds g
  | none => none
theorem s_r_seq {a : C} (h : Sim N (bg (ev Γ cs a g) (kSeq' K)) M Φ) : Sim N (bg (evr Γ cs (.seq a) g) K) M Φ := by
  show Sim N (bg (bnd _ _) K) M Φ
  rw [bg_bnd]
  refine s_congr h fun x g => ?_
  unfold kSeq'
  rcases seqD x.toD with _ | ds <;> rfl
theorem f_seq {x : Val} {ds : List D} (h : seqD x.toD = some ds) (hk : Sim N (K ds g) M Φ) : Sim N (kSeq' K x g) M Φ := by
  unfold kSeq'
  rw [h]
  exact hk
def rngI (lo : Int) (n : Nat) : List Int := (List.range n).map fun k => lo + (k : Nat)
def rgP (lo hi : Int) : P (List Int) := if rngOk lo = true ∧ rngOk hi = true then ok (rngI lo (hi - lo).toNat) else none
theorem rngL_I (lo : Int) (n : Nat) : rngL lo n = (rngI lo n).map PyData.int := by
  unfold rngL rngI
  rw [List.map_map]
  rfl
def kR1' (K : List D → Sg → Option (ω × Sg)) (x : Val) (g : Sg) : Option (ω × Sg) :=
  match x with
  | .v (.int j) => if rngOk j = true then K (rngL 0 j.toNat) g else none
  | _ => none
theorem s_r_rng1 {a : C} (h : Sim N (bg (ev Γ cs a g) (kR1' K)) M Φ) : Sim N (bg (evr Γ cs (.rng1 a) g) K) M Φ := by
  show Sim N (bg (bnd _ _) K) M Φ
  rw [bg_bnd]
  refine s_congr h fun x g => ?_
  rcases x with d | m
  · cases d with
    | int j =>
      show bg (if rngOk j = true then _ else _) K = (if rngOk j = true then _ else _)
      rw [bg_ite]
      rfl
    | _ => rfl
  · rfl
theorem f_rng1 {j : Int} {k : List Int → P ρ} (hk : ∀ xs, Sim N (K (xs.map PyData.int) g) (k xs) Φ) : Sim N (kR1' K (.v (.int j)) g) (bd (rgP 0 j) k) Φ := by
  show Sim N (if rngOk j = true then _ else _) _ _
  unfold rgP
  by_cases h : rngOk j = true
  · rw [if_pos h, if_pos ⟨by decide, h⟩, rngL_I, show (j - 0).toNat = j.toNat by omega]
    exact hk _
  · rw [if_neg h, if_neg (fun z => h z.2)]
    exact ⟨trivial⟩
/-- a written number of turns -/
theorem f_rng1t {j : Int} (h : rngOk j = true) (hk : Sim N (K ((rngI 0 j.toNat).map PyData.int) g) M Φ) : Sim N (kR1' K (.v (.int j)) g) M Φ := by
  show Sim N (if rngOk j = true then _ else _) _ _
  rw [if_pos h, rngL_I]
  exact hk
def kR2' (K : List D → Sg → Option (ω × Sg)) (x y : Val) (g : Sg) : Option (ω × Sg) :=
  match x, y with
  | .v (.int i), .v (.int j) => K (rngL i (j - i).toNat) g
  | _, _ => none
theorem s_r_rng2 {a b : C} (h : Sim N (bg (ev Γ cs a g) fun x g => bg (ev Γ cs b g) fun y g => kR2' K x y g) M Φ) : Sim N (bg (evr Γ cs (.rng2 a b) g) K) M Φ := by
  show Sim N (bg (bnd _ _) K) M Φ
  rw [bg_bnd]
  refine s_congr h fun x g => ?_
  rw [bg_bnd]
  congr 1
  funext y g
  rcases x with d | m
  · rcases y with e | m
    · cases d with
      | int i =>
        cases e with
        | int j =>
          rfl
        | _ => rfl
      | _ => rfl
    · cases d <;> rfl
  · rfl
theorem f_rng2 {i j : Int} {k : List Int → P ρ} (hk : ∀ xs, Sim N (K (xs.map PyData.int) g) (k xs) Φ) : Sim N (kR2' K (.v (.int i)) (.v (.int j)) g) (bd (rgP i j) k) Φ := by
  show Sim N (K (rngL i (j - i).toNat) g) _ _
  unfold rgP
  by_cases h : rngOk i = true ∧ rngOk j = true
  · rw [if_pos h, rngL_I]
    exact hk _
  · rw [if_neg h]
    exact ⟨trivial⟩
/-- numbers of any size -/
def rgW (lo hi : Int) : P (List Int) := ok (rngI lo (hi - lo).toNat)
theorem f_rngW {i j : Int} {k : List Int → P ρ} (hk : ∀ xs, Sim N (K (xs.map PyData.int) g) (k xs) Φ) : Sim N (kR2' K (.v (.int i)) (.v (.int j)) g) (bd (rgW i j) k) Φ := by
  show Sim N (K (rngL i (j - i).toNat) g) (k (rngI i (j - i).toNat)) Φ
  rw [rngL_I]
  exact hk _
def kZip' (K : List D → Sg → Option (ω × Sg)) (x y : Val) (g : Sg) : Option (ω × Sg) :=
  match zipD x.toD y.toD with
  | some ds => K ds g
  | none => none
theorem s_r_zip {a b : C} (h : Sim N (bg (ev Γ cs a g) fun x g => bg (ev Γ cs b g) fun y g => kZip' K x y g) M Φ) : Sim N (bg (evr Γ cs (.zip a b) g) K) M Φ := by
  show Sim N (bg (bnd _ _) K) M Φ
  rw [bg_bnd]
  refine s_congr h fun x g => ?_
  rw [bg_bnd]
  congr 1
  funext y g
  unfold kZip'
  rcases zipD x.toD y.toD with _ | ds <;> rfl
theorem f_zip {x y : Val} {ds : List D} (h : zipD x.toD y.toD = some ds) (hk : Sim N (K ds g) M Φ) : Sim N (kZip' K x y g) M Φ := by
  unfold kZip'
  rw [h]
  exact hk
def kEnu' (K : List D → Sg → Option (ω × Sg)) (x : Val) (g : Sg) : Option (ω × Sg) :=
  match enuD x.toD with
  | some ds => K ds g
  | none => none
theorem s_r_enu {a : C} (h : Sim N (bg (ev Γ cs a g) (kEnu' K)) M Φ) : Sim N (bg (evr Γ cs (.enu a) g) K) M Φ := by
  show Sim N (bg (bnd _ _) K) M Φ
  rw [bg_bnd]
  refine s_congr h fun x g => ?_
  unfold kEnu'
  rcases enuD x.toD with _ | ds <;> rfl
theorem f_enu {x : Val} {ds : List D} (h : enuD x.toD = some ds) (hk : Sim N (K ds g) M Φ) : Sim N (kEnu' K x g) M Φ := by
  unfold kEnu'
  rw [h]
  exact hk
/-- a source that is data already -/
theorem s_r_tot {s : Sr} {ds : List D} (h : evr Γ cs s g = some (.ok ds, g)) (hk : Sim N (K ds g) M Φ) : Sim N (bg (evr Γ cs s g) K) M Φ := by
  rw [h]
  exact hk
end
section
variable {a b : C} {x y : Val} {ds : List D}
theorem r_seq (ha : ev Γ cs a g = some (.ok x, g)) (h : seqD x.toD = some ds) : evr Γ cs (.seq a) g = some (.ok ds, g) := by
  show bnd (ev Γ cs a g) _ = _
  rw [ha]
  show opt (seqD x.toD) g = _
  rw [h]
  rfl
theorem r_rng1 {j : Int} (ha : ev Γ cs a g = some (.ok (.v (.int j)), g)) (h : rngOk j = true) : evr Γ cs (.rng1 a) g = some (.ok ((rngI 0 j.toNat).map PyData.int), g) := by
  show bnd (ev Γ cs a g) _ = _
  rw [ha]
  show (if rngOk j = true then _ else _) = _
  rw [if_pos h, rngL_I]
  rfl
theorem r_rng2 {i j : Int} (ha : ev Γ cs a g = some (.ok (.v (.int i)), g)) (hb : ev Γ cs b g = some (.ok (.v (.int j)), g)) (h : rngOk i = true) (h2 : rngOk j = true) : evr Γ cs (.rng2 a b) g = some (.ok ((rngI i (j - i).toNat).map PyData.int), g) := by
  show bnd (ev Γ cs a g) _ = _
  rw [ha]
  show bnd (ev Γ cs b g) _ = _
  rw [hb]
  show ret (rngL i (j - i).toNat) g = _
  rw [rngL_I]
  rfl
theorem r_zip (ha : ev Γ cs a g = some (.ok x, g)) (hb : ev Γ cs b g = some (.ok y, g)) (h : zipD x.toD y.toD = some ds) : evr Γ cs (.zip a b) g = some (.ok ds, g) := by
  show bnd (ev Γ cs a g) _ = _
  rw [ha]
  show bnd (ev Γ cs b g) _ = _
  rw [hb]
  show opt (zipD x.toD y.toD) g = _
  rw [h]
  rfl
theorem r_enu (ha : ev Γ cs a g = some (.ok x, g)) (h : enuD x.toD = some ds) : evr Γ cs (.enu a) g = some (.ok ds, g) := by
  show bnd (ev Γ cs a g) _ = _
  rw [ha]
  show opt (enuD x.toD) g = _
  rw [h]
  rfl
end

/-! ### comprehensions -/
def cBody (Γ : Call) (cs : List (PySem.Str × D)) (t : Tg) (q : Co) (e : C) (d : D) (g : Sg) : R (Option D) := (asg t d g).bind fun g => bnd (evq Γ cs q g) fun b g => if b then bnd (ev Γ cs e g) fun y g => ret (some y.toD) g else ret none g
def kComp (Γ : Call) (cs : List (PySem.Str × D)) (e : C) (t : Tg) (q : Co) (own : List Nat) (K : Val → Sg → Option (ω × Sg)) (xs : List D) (g : Sg) : Option (ω × Sg) :=
  if (own.all fun i => plainSl (g.getD i .no)) = true then
    match compGo own (cBody Γ cs t q e) [] xs g with
    | some (.ok ds, g') => K (.m (.l ds)) (restG g g' own)
    | _ => none
  else none
theorem s_comp {K : Val → Sg → Option (ω × Sg)} {e : C} {t : Tg} {s : Sr} {q : Co} {own : List Nat} (h : Sim N (bg (evr Γ cs s g) (kComp Γ cs e t q own K)) M Φ) : Sim N (bg (ev Γ cs (.comp e t s q own) g) K) M Φ := by
  show Sim N (bg (bnd _ _) K) M Φ
  rw [bg_bnd]
  refine s_congr h fun xs g => ?_
  unfold kComp
  rw [bg_ite]
  show _ = (if (own.all fun i => plainSl (g.getD i .no)) = true then
    match compGo own (cBody Γ cs t q e) [] xs g with
    | some (.ok ds, g') => K (.m (.l ds)) (restG g g' own)
    | _ => none
    else none)
  congr 1
  show bg (match compGo own (cBody Γ cs t q e) [] xs g with
      | some (.ok ds, g') => ret (Val.m (.l ds)) (restG g g' own)
      | _ => none) K = _
  rcases compGo own (cBody Γ cs t q e) [] xs g with _ | ⟨ds | x, g'⟩ <;> rfl
theorem getD_set (g : Sg) (i j : Nat) (x : Sl) : (g.set i x)[j]? = if i = j ∧ j < g.length then some x else g[j]? := by
  by_cases h : i = j
  · subst h
    by_cases l : i < g.length
    · rw [List.getElem?_set_self l, if_pos ⟨rfl, l⟩]
    · rw [if_neg (fun z => l z.2), List.getElem?_eq_none (by rw [List.length_set]; omega), List.getElem?_eq_none (by omega)]
  · rw [List.getElem?_set_ne h, if_neg (fun z => h z.1)]
theorem wipeG_len (g : Sg) : ∀ own : List Nat, (wipeG g own).length = g.length
  | [] => rfl
  | i :: r => by
    show ((wipeG g r).set i .no).length = _
    rw [List.length_set, wipeG_len g r]
theorem restG_len (g0 g : Sg) : ∀ own : List Nat, (restG g0 g own).length = g.length
  | [] => rfl
  | i :: r => by
    show ((restG g0 g r).set i _).length = _
    rw [List.length_set, restG_len g0 g r]
theorem wipeG_at (g : Sg) (j : Nat) : ∀ own : List Nat, (wipeG g own)[j]? = if j ∈ own ∧ j < g.length then some .no else g[j]?
  | [] => by rw [if_neg (fun z => nomatch z.1)]; rfl
  | i :: r => by
    show ((wipeG g r).set i .no)[j]? = _
    rw [getD_set, wipeG_len, wipeG_at g j r]
    by_cases l : j < g.length
    · by_cases h : i = j
      · rw [if_pos ⟨h, l⟩, if_pos ⟨by rw [h]; exact List.mem_cons_self, l⟩]
      · rw [if_neg (fun z => h z.1)]
        by_cases m : j ∈ r
        · rw [if_pos ⟨m, l⟩, if_pos ⟨List.mem_cons_of_mem _ m, l⟩]
        · rw [if_neg (fun z => m z.1), if_neg (fun z => by rcases List.mem_cons.mp z.1 with e | e; exact h e.symm; exact m e)]
    · rw [if_neg (fun z => l z.2), if_neg (fun z => l z.2), if_neg (fun z => l z.2)]
theorem restG_at (g0 g : Sg) (j : Nat) : ∀ own : List Nat, (restG g0 g own)[j]? = if j ∈ own ∧ j < g.length then some (g0.getD j .no) else g[j]?
  | [] => by rw [if_neg (fun z => nomatch z.1)]; rfl
  | i :: r => by
    show ((restG g0 g r).set i (g0.getD i .no))[j]? = _
    rw [getD_set, restG_len, restG_at g0 g j r]
    by_cases l : j < g.length
    · by_cases h : i = j
      · rw [if_pos ⟨h, l⟩, if_pos ⟨by rw [h]; exact List.mem_cons_self, l⟩, h]
      · rw [if_neg (fun z => h z.1)]
        by_cases m : j ∈ r
        · rw [if_pos ⟨m, l⟩, if_pos ⟨List.mem_cons_of_mem _ m, l⟩]
        · rw [if_neg (fun z => m z.1), if_neg (fun z => by rcases List.mem_cons.mp z.1 with e | e; exact h e.symm; exact m e)]
    · rw [if_neg (fun z => l z.2), if_neg (fun z => l z.2), if_neg (fun z => l z.2)]
/-- what is put back depends on the rest of the slots alone -/
theorem restG_wipe (g0 g : Sg) (own : List Nat) : restG g0 (wipeG g own) own = restG g0 g own := by
  refine List.ext_getElem? fun j => ?_
  rw [restG_at, restG_at, wipeG_len, wipeG_at]
  by_cases h : j ∈ own ∧ j < g.length
  · rw [if_pos h, if_pos h]
  · rw [if_neg h, if_neg h, if_neg h]
theorem restG_of {g0 g g' : Sg} {own : List Nat} (h : wipeG g own = wipeG g' own) : restG g0 g own = restG g0 g' own := by
  rw [← restG_wipe, h, restG_wipe]

/-- turns with a state -/
def compP {σ : Type} (f : α → σ → P (Option β × σ)) : List β → List α → σ → P (List β × σ)
  | acc, [], s => ok (acc, s)
  | acc, x :: xs, s => bd (nx (f x s)) fun r => if acc.length < PySem.sizeLine then compP f (match r.1 with | some d => acc ++ [d] | none => acc) xs r.2 else stop
/-- turns without one -/
def mapP (f : α → P (Option β)) : List β → List α → P (List β)
  | acc, [] => ok acc
  | acc, x :: xs => bd (nx (f x)) fun r => if acc.length < PySem.sizeLine then mapP f (match r with | some d => acc ++ [d] | none => acc) xs else stop
def mapT (h : α → β) (xs : List α) : P (List β) := if xs.length ≤ PySem.sizeLine then ok (xs.map h) else stop
def filT (p : α → Bool) (h : α → β) (xs : List α) : P (List β) := if xs.length ≤ PySem.sizeLine then ok ((xs.filter p).map h) else stop
theorem comp_go {σ : Type} {own : List Nat} {F : D → Sg → R (Option D)} {f : α → σ → P (Option β × σ)} {E : α → D} {e' : β → D} {G : σ → Sg}
    (hb : ∀ y s g, wipeG g own = wipeG (G s) own → Sim N (F (E y) (wipeG g own)) (f y s) fun o w g' => w = .ok (o.1.map e') ∧ wipeG g' own = wipeG (G o.2) own) :
    ∀ (ys : List α) (acc : List β) (s : σ) (g : Sg), wipeG g own = wipeG (G s) own → Sim N (compGo own F (acc.map e') (ys.map E) g) (compP f acc ys s) fun o w g' => w = .ok (o.1.map e') ∧ wipeG g' own = wipeG (G o.2) own
  | [], acc, s, g, h => ⟨_, g, rfl, rfl, h⟩
  | y :: ys, acc, s, g, h => by
    have h1 := hb y s g h
    rw [List.map_cons]
    unfold compGo compP
    generalize f y s = m at h1 ⊢
    rcases m with _ | ⟨o, s'⟩ | x
    · exact ⟨trivial⟩
    · obtain ⟨w, g', e1, rfl, e2⟩ := h1
      rw [e1]
      show Sim N _ (if acc.length < PySem.sizeLine then _ else stop) _
      dsimp only at e2 ⊢
      by_cases l : acc.length < PySem.sizeLine
      · rw [if_pos l, if_pos (by rw [List.length_map]; exact l)]
        cases o with
        | none => exact comp_go hb ys acc s' g' e2
        | some z =>
          have := comp_go hb ys (acc ++ [z]) s' g' e2
          rw [List.map_append] at this
          exact this
      · rw [if_neg l]
        exact ⟨trivial⟩
    · exact ⟨trivial⟩
theorem map_go {own : List Nat} {F : D → Sg → R (Option D)} {f : α → P (Option β)} {E : α → D} {e' : β → D} {g0 : Sg}
    (hb : ∀ y g, wipeG g own = wipeG g0 own → Sim N (F (E y) (wipeG g own)) (f y) fun o w g' => w = .ok (o.map e') ∧ wipeG g' own = wipeG g0 own) :
    ∀ (ys : List α) (acc : List β) (g : Sg), wipeG g own = wipeG g0 own → Sim N (compGo own F (acc.map e') (ys.map E) g) (mapP f acc ys) fun o w g' => w = .ok (o.map e') ∧ wipeG g' own = wipeG g0 own
  | [], acc, g, h => ⟨_, g, rfl, rfl, h⟩
  | y :: ys, acc, g, h => by
    have h1 := hb y g h
    rw [List.map_cons]
    unfold compGo mapP
    generalize f y = m at h1 ⊢
    rcases m with _ | o | x
    · exact ⟨trivial⟩
    · obtain ⟨w, g', e1, rfl, e2⟩ := h1
      rw [e1]
      show Sim N _ (if acc.length < PySem.sizeLine then _ else stop) _
      dsimp only at e2 ⊢
      by_cases l : acc.length < PySem.sizeLine
      · rw [if_pos l, if_pos (by rw [List.length_map]; exact l)]
        cases o with
        | none => exact map_go hb ys acc g' e2
        | some z =>
          have := map_go hb ys (acc ++ [z]) g' e2
          rw [List.map_append] at this
          exact this
      · rw [if_neg l]
        exact ⟨trivial⟩
    · exact ⟨trivial⟩
theorem f_comp {σ : Type} {K : Val → Sg → Option (ω × Sg)} {e : C} {t : Tg} {q : Co} {own : List Nat} {G : σ → Sg} {s0 : σ} {ys : List α} {E : α → D} {f : α → σ → P (Option β × σ)} {e' : β → D} {k : List β × σ → P ρ}
    (hown : ((own.all fun i => plainSl ((G s0).getD i .no)) = true)) (hw : ∀ y s, Sim N (cBody Γ cs t q e (E y) (wipeG (G s) own)) (f y s) fun o w g' => w = .ok (o.1.map e') ∧ wipeG g' own = wipeG (G o.2) own)
    (hr : ∀ s, restG (G s0) (G s) own = G s) (hk : ∀ z : List β × σ, Sim N (K (.m (.l (z.1.map e'))) (G z.2)) (k z) Φ) : Sim N (kComp Γ cs e t q own K (ys.map E) (G s0)) (bd (compP f [] ys s0) k) Φ := by
  unfold kComp
  rw [if_pos hown]
  have h := comp_go (N := N) (own := own) (F := cBody Γ cs t q e) (f := f) (E := E) (e' := e') (G := G) (fun y s g hg => by rw [hg]; exact hw y s) ys [] s0 (G s0) rfl
  rw [List.map_nil] at h
  generalize compP f [] ys s0 = m at h ⊢
  rcases m with _ | z | x
  · exact ⟨trivial⟩
  · obtain ⟨w, g', e1, rfl, e2⟩ := h
    rw [e1]
    show Sim N (K (.m (.l (z.1.map e'))) (restG (G s0) g' own)) (k z) Φ
    rw [restG_of e2, hr]
    exact hk z
  · obtain ⟨g', e1, _⟩ := h
    exfalso
    have nox : ∀ (ys : List α) (acc : List D) (g : Sg) (x : Exc) (g' : Sg), compGo own (cBody Γ cs t q e) acc (ys.map E) g = some (Inj.inj x, g') → False := by
      intro ys
      induction ys with
      | nil => intro acc g x g' h; cases h
      | cons y ys ih =>
        intro acc g x g' h
        rw [List.map_cons] at h
        unfold compGo at h
        split at h
        · split at h
          · exact ih _ _ _ _ h
          · cases h
        · cases h
    exact nox _ _ _ _ _ e1
theorem f_map {K : Val → Sg → Option (ω × Sg)} {e : C} {t : Tg} {q : Co} {own : List Nat} {ys : List α} {E : α → D} {f : α → P (Option β)} {e' : β → D} {k : List β → P ρ}
    (hown : ((own.all fun i => plainSl (g.getD i .no)) = true)) (hw : ∀ y, Sim N (cBody Γ cs t q e (E y) (wipeG g own)) (f y) fun o w g' => w = .ok (o.map e') ∧ wipeG g' own = wipeG g own)
    (hr : restG g g own = g) (hk : ∀ z : List β, Sim N (K (.m (.l (z.map e'))) g) (k z) Φ) : Sim N (kComp Γ cs e t q own K (ys.map E) g) (bd (mapP f [] ys) k) Φ := by
  unfold kComp
  rw [if_pos hown]
  have h := map_go (N := N) (own := own) (F := cBody Γ cs t q e) (f := f) (E := E) (e' := e') (g0 := g) (fun y g1 hg => by rw [hg]; exact hw y) ys [] g rfl
  rw [List.map_nil] at h
  generalize mapP f [] ys = m at h ⊢
  rcases m with _ | z | x
  · exact ⟨trivial⟩
  · obtain ⟨w, g', e1, rfl, e2⟩ := h
    rw [e1]
    show Sim N (K (.m (.l (z.map e'))) (restG g g' own)) (k z) Φ
    rw [restG_of e2, hr]
    exact hk z
  · obtain ⟨g', e1, _⟩ := h
    exfalso
    have nox : ∀ (ys : List α) (acc : List D) (g : Sg) (x : Exc) (g' : Sg), compGo own (cBody Γ cs t q e) acc (ys.map E) g = some (Inj.inj x, g') → False := by
      intro ys
      induction ys with
      | nil => intro acc g x g' h; cases h
      | cons y ys ih =>
        intro acc g x g' h
        rw [List.map_cons] at h
        unfold compGo at h
        split at h
        · split at h
          · exact ih _ _ _ _ h
          · cases h
        · cases h
    exact nox _ _ _ _ _ e1
/-- elements that are total -/
theorem fil_go {own : List Nat} {F : D → Sg → R (Option D)} {p : α → Bool} {h : α → β} {E : α → D} {e' : β → D} {g0 : Sg}
    (hb : ∀ y, ∃ g', F (E y) (wipeG g0 own) = some (.ok (if p y = true then some (e' (h y)) else none), g') ∧ wipeG g' own = wipeG g0 own) :
    ∀ (ys : List α) (acc : List D) (g : Sg), wipeG g own = wipeG g0 own → acc.length + ys.length ≤ PySem.sizeLine → ∃ g', compGo own F acc (ys.map E) g = some (.ok (acc ++ ((ys.filter p).map h).map e'), g') ∧ wipeG g' own = wipeG g0 own
  | [], acc, g, e, _ => ⟨g, by show _ = some (Out.ok (acc ++ []), g); rw [List.append_nil]; rfl, e⟩
  | y :: ys, acc, g, e, l => by
    rw [List.length_cons] at l
    obtain ⟨g1, h1, h2⟩ := hb y
    rw [List.map_cons, List.filter_cons]
    unfold compGo
    rw [e, h1]
    by_cases hp : p y = true
    · rw [if_pos hp, if_pos hp]
      dsimp only
      rw [if_pos (by omega)]
      obtain ⟨g2, h3, h4⟩ := fil_go hb ys (acc ++ [e' (h y)]) g1 h2 (by rw [List.length_append]; show acc.length + 1 + _ ≤ _; omega)
      exact ⟨g2, by rw [h3, List.map_cons, List.map_cons, List.append_assoc]; rfl, h4⟩
    · rw [if_neg hp, if_neg hp]
      dsimp only
      rw [if_pos (by omega)]
      exact fil_go hb ys acc g1 h2 (by omega)
theorem f_fil {K : Val → Sg → Option (ω × Sg)} {e : C} {t : Tg} {q : Co} {own : List Nat} {ys : List α} {E : α → D} {p : α → Bool} {h : α → β} {e' : β → D} {k : List β → P ρ}
    (hown : ((own.all fun i => plainSl (g.getD i .no)) = true)) (hw : ∀ y, ∃ g', cBody Γ cs t q e (E y) (wipeG g own) = some (.ok (if p y = true then some (e' (h y)) else none), g') ∧ wipeG g' own = wipeG g own)
    (hr : restG g g own = g) (hk : ∀ z : List β, Sim N (K (.m (.l (z.map e'))) g) (k z) Φ) : Sim N (kComp Γ cs e t q own K (ys.map E) g) (bd (filT p h ys) k) Φ := by
  unfold kComp filT
  rw [if_pos hown]
  by_cases l : ys.length ≤ PySem.sizeLine
  · rw [if_pos l]
    obtain ⟨g', e1, e2⟩ := fil_go hw ys [] g rfl (by show 0 + ys.length ≤ _; omega)
    rw [e1]
    show Sim N (K (.m (.l ([] ++ _))) (restG g g' own)) (k _) Φ
    rw [restG_of e2, hr, List.nil_append]
    exact hk _
  · rw [if_neg l]
    exact ⟨trivial⟩
theorem f_mapT {K : Val → Sg → Option (ω × Sg)} {e : C} {t : Tg} {q : Co} {own : List Nat} {ys : List α} {E : α → D} {h : α → β} {e' : β → D} {k : List β → P ρ}
    (hown : ((own.all fun i => plainSl (g.getD i .no)) = true)) (hw : ∀ y, ∃ g', cBody Γ cs t q e (E y) (wipeG g own) = some (.ok (some (e' (h y))), g') ∧ wipeG g' own = wipeG g own)
    (hr : restG g g own = g) (hk : ∀ z : List β, Sim N (K (.m (.l (z.map e'))) g) (k z) Φ) : Sim N (kComp Γ cs e t q own K (ys.map E) g) (bd (mapT h ys) k) Φ := by
  have e0 : mapT h ys = filT (fun _ => true) h ys := by
    unfold mapT filT
    rw [List.filter_eq_self.mpr (fun _ _ => rfl)]
  rw [e0]
  exact f_fil hown hw hr hk
theorem cb_non {t : Tg} {e : C} {d : D} {g1 : Sg} {v : Val} (ha : asg t d g = some g1) (he : ev Γ cs e g1 = some (.ok v, g1)) : cBody Γ cs t .non e d g = some (.ok (some v.toD), g1) := by
  unfold cBody
  rw [ha]
  show bnd (ev Γ cs e g1) _ = _
  rw [he]
  rfl
theorem cb_som {t : Tg} {e a : C} {d : D} {g1 : Sg} {v x : Val} {p : Bool} (ha : asg t d g = some g1) (hq : ev Γ cs a g1 = some (.ok x, g1)) (ht : truth x.toD = some p) (he : ev Γ cs e g1 = some (.ok v, g1)) :
    cBody Γ cs t (.som a) e d g = some (.ok (if p = true then some v.toD else none), g1) := by
  unfold cBody
  rw [ha]
  show bnd (bnd (ev Γ cs a g1) _) _ = _
  rw [hq]
  show bnd (opt (truth x.toD) g1) _ = _
  rw [ht]
  show (if p = true then bnd (ev Γ cs e g1) _ else _) = _
  rw [he]
  cases p <;> rfl
/-- elements that are not -/
theorem s_cb_non {t : Tg} {e : C} {d : D} {g1 : Sg} {Ψ : ρ → Out (Option D) → Sg → Prop} (ha : asg t d g = some g1) (h : Sim N (bg (ev Γ cs e g1) fun y g => some (.ok (some y.toD), g)) M Ψ) : Sim N (cBody Γ cs t .non e d g) M Ψ := by
  unfold cBody
  rw [ha]
  show Sim N (bnd (ev Γ cs e g1) _) M Ψ
  rw [bnd_bg]
  exact h
def kQ' (Γ : Call) (cs : List (PySem.Str × D)) (e : C) (x : Val) (g : Sg) : R (Option D) :=
  match truth x.toD with
  | some true => bg (ev Γ cs e g) fun y g => some (.ok (some y.toD), g)
  | some false => some (.ok none, g)
  | none => none
theorem s_cb_som {t : Tg} {e a : C} {d : D} {g1 : Sg} {Ψ : ρ → Out (Option D) → Sg → Prop} (ha : asg t d g = some g1) (h : Sim N (bg (ev Γ cs a g1) (kQ' Γ cs e)) M Ψ) : Sim N (cBody Γ cs t (.som a) e d g) M Ψ := by
  unfold cBody
  rw [ha]
  show Sim N (bnd (bnd (ev Γ cs a g1) _) _) M Ψ
  rw [bnd_bg, bg_bnd]
  refine s_congr h fun x g => ?_
  unfold kQ'
  rcases truth x.toD with _ | p
  · rfl
  · cases p
    · rfl
    · exact bnd_bg _ _
theorem f_q {v : Val} {p : Bool} {e : C} {z : ρ} {Ψ : ρ → Out (Option D) → Sg → Prop} (ht : truth v.toD = some p) (h : Sim N (bg (ev Γ cs e g) fun y g => some (.ok (some y.toD), g)) M Ψ) (hz : Ψ z (.ok none) g) : Sim N (kQ' Γ cs e v g) (if p = true then M else ok z) Ψ := by
  unfold kQ'
  rw [ht]
  cases p with
  | true => exact h
  | false => exact s_done hz

/-! ### statements -/
abbrev nxK : Sg → RS := fun g => some (.nx, g)
theorem seq_nxK (r : RS) : seq r nxK = r := by
  rcases r with _ | ⟨fl, g⟩
  · rfl
  · cases fl <;> rfl
variable {Φ : ρ → Fl → Sg → Prop} {K : Sg → RS} {r : Ss}
theorem ss_nil (h : Sim N (K g) M Φ) : Sim N (seq (evSs Γ cs fu .nil g) K) M Φ := h
theorem ss_kil {is : List Nat} {g' : Sg} (hg : wipeG g is = g') (h : Sim N (seq (evSs Γ cs fu r g') K) M Φ) : Sim N (seq (evSs Γ cs fu (.kil is r) g) K) M Φ := by
  subst hg
  exact h
theorem ss_frz {i : Nat} {g' : Sg} (hg : frzG g i = g') (h : Sim N (seq (evSs Γ cs fu r g') K) M Φ) : Sim N (seq (evSs Γ cs fu (.frz i r) g) K) M Φ := by
  subst hg
  exact h
def kG (Γ : Call) (cs : List (PySem.Str × D)) (fu : Nat) (r : Ss) (K : Sg → RS) (o : Option Sg) : RS :=
  match o with
  | some g => seq (evSs Γ cs fu r g) K
  | none => none
theorem f_G {o : Option Sg} {g' : Sg} (h : o = some g') (hk : Sim N (seq (evSs Γ cs fu r g') K) M Φ) : Sim N (kG Γ cs fu r K o) M Φ := by
  subst h
  exact hk
theorem seq_sopt (o : Option Sg) : seq (sopt o) (fun g => seq (evSs Γ cs fu r g) K) = kG Γ cs fu r K o := by
  cases o <;> rfl
theorem ss_set {i : Nat} {own : Bool} {e : C} (h : Sim N (bg (ev Γ cs e g) fun x g => kG Γ cs fu r K (setG g i (slOf own x))) M Φ) : Sim N (seq (evSs Γ cs fu (.cons (.set i own e) r) g) K) M Φ := by
  show Sim N (seq (seq (sbnd (ev Γ cs e g) _) _) K) M Φ
  rw [sbnd_bg, seq_seq, seq_bg]
  exact s_congr h fun x g => seq_sopt _
theorem ss_par {i j : Nat} {p q : Bool} {a b : C} (h : Sim N (bg (ev Γ cs a g) fun x g => bg (ev Γ cs b g) fun y g => kG Γ cs fu r K ((setG g i (slOf p x)).bind fun g => setG g j (slOf q y))) M Φ) : Sim N (seq (evSs Γ cs fu (.cons (.par i j p q a b) r) g) K) M Φ := by
  show Sim N (seq (seq (sbnd (ev Γ cs a g) _) _) K) M Φ
  rw [sbnd_bg, seq_seq, seq_bg]
  refine s_congr h fun x g => ?_
  rw [sbnd_bg, seq_bg]
  congr 1
  funext y g
  exact seq_sopt _
theorem ss_asg {t : Tg} {e : C} (h : Sim N (bg (ev Γ cs e g) fun x g => kG Γ cs fu r K (asg t x.toD g)) M Φ) : Sim N (seq (evSs Γ cs fu (.cons (.asg t e) r) g) K) M Φ := by
  show Sim N (seq (seq (sbnd (ev Γ cs e g) _) _) K) M Φ
  rw [sbnd_bg, seq_seq, seq_bg]
  exact s_congr h fun x g => seq_sopt _
def kPut1 (Γ : Call) (cs : List (PySem.Str × D)) (fu : Nat) (i : Nat) (k : C) (r : Ss) (K : Sg → RS) (y : Val) (g : Sg) : RS :=
  if isM g i = true then bg (ev Γ cs k g) fun x g => seq (upM g i fun c => putM c x.toD y.toD) fun g => seq (evSs Γ cs fu r g) K else none
theorem ss_put {i : Nat} {k e : C} (h : Sim N (bg (ev Γ cs e g) (kPut1 Γ cs fu i k r K)) M Φ) : Sim N (seq (evSs Γ cs fu (.cons (.put i k e) r) g) K) M Φ := by
  show Sim N (seq (seq (sbnd (ev Γ cs e g) _) _) K) M Φ
  rw [sbnd_bg, seq_seq, seq_bg]
  refine s_congr h fun x g => ?_
  unfold kPut1
  by_cases hm : isM g i = true
  · rw [if_pos hm, if_pos hm, sbnd_bg, seq_bg]
  · rw [if_neg hm, if_neg hm]
    rfl
theorem f_put1 {i : Nat} {k : C} {y : Val} (hm : isM g i = true) (h : Sim N (bg (ev Γ cs k g) fun x g => seq (upM g i fun c => putM c x.toD y.toD) fun g => seq (evSs Γ cs fu r g) K) M Φ) : Sim N (kPut1 Γ cs fu i k r K y g) M Φ := by
  unfold kPut1
  rw [if_pos hm]
  exact h
def setP (xs : List α) (i : Int) (v : α) : P (List α) := lf ((L2.ixN xs.length i).map fun j => xs.set j v)
def appP (xs : List α) (v : α) : P (List α) := if xs.length < PySem.sizeLine then ok (xs ++ [v]) else stop
theorem put_map (e : α → D) (xs : List α) (i : Int) (v : α) : putM (.l (xs.map e)) (.int i) (e v) = match setP xs i v with
    | some (.ok ys) => some (.l (ys.map e))
    | _ => none := by
  show (L2.ixN (xs.map e).length i).map (fun j => M.l ((xs.map e).set j (e v))) = _
  unfold setP
  rw [List.length_map]
  rcases L2.ixN xs.length i with _ | j
  · rfl
  · show some (M.l ((xs.map e).set j (e v))) = some (M.l ((xs.set j v).map e))
    rw [List.map_set]
theorem f_put2 {i : Nat} {e : α → D} {xs : List α} {v : α} {x : Int} {k : List α → P ρ} {g' : List α → Sg} {bo : Bool} (hg : g[i]? = some (if bo = true then .bo (.l (xs.map e)) else .ow (.l (xs.map e)))) (hs : ∀ ys, g.set i (if bo = true then .bo (.l (List.map e ys)) else .ow (.l (List.map e ys))) = g' ys)
    (hk : ∀ ys, Sim N (seq (evSs Γ cs fu r (g' ys)) K) (k ys) Φ) : Sim N (seq (upM g i fun c => putM c (.int x) (e v)) fun g => seq (evSs Γ cs fu r g) K) (bd (setP xs x v) k) Φ := by
  have h := put_map e xs x v
  unfold upM
  rw [hg]
  rcases hm : setP xs x v with _ | ys | y
  · exact ⟨trivial⟩
  · rw [hm] at h
    have hk := hk ys
    rw [← hs] at hk
    cases bo
    · show Sim N (seq ((putM (.l (xs.map e)) (.int x) (e v)).map _) _) (k ys) Φ
      rw [h]
      exact hk
    · show Sim N (seq ((putM (.l (xs.map e)) (.int x) (e v)).map _) _) (k ys) Φ
      rw [h]
      exact hk
  · unfold setP lf at hm
    split at hm <;> cases hm
def kApp1 (Γ : Call) (cs : List (PySem.Str × D)) (fu : Nat) (i : Nat) (r : Ss) (K : Sg → RS) (y : Val) (g : Sg) : RS := seq (upM g i fun c => appM c y.toD) fun g => seq (evSs Γ cs fu r g) K
theorem ss_app {i : Nat} {e : C} (hm : isM g i = true) (h : Sim N (bg (ev Γ cs e g) (kApp1 Γ cs fu i r K)) M Φ) : Sim N (seq (evSs Γ cs fu (.cons (.app i e) r) g) K) M Φ := by
  show Sim N (seq (seq (if isM g i = true then sbnd (ev Γ cs e g) _ else none) _) K) M Φ
  rw [if_pos hm, sbnd_bg, seq_seq, seq_bg]
  exact h
theorem f_app {i : Nat} {e : α → D} {xs : List α} {v : α} {y : Val} {k : List α → P ρ} {g' : List α → Sg} {bo : Bool} (hy : y.toD = e v) (hg : g[i]? = some (if bo = true then .bo (.l (xs.map e)) else .ow (.l (xs.map e)))) (hs : ∀ ys, g.set i (if bo = true then .bo (.l (List.map e ys)) else .ow (.l (List.map e ys))) = g' ys)
    (hk : ∀ ys, Sim N (seq (evSs Γ cs fu r (g' ys)) K) (k ys) Φ) : Sim N (kApp1 Γ cs fu i r K y g) (bd (appP xs v) k) Φ := by
  unfold kApp1 appP upM
  rw [hg, hy]
  by_cases l : xs.length < PySem.sizeLine
  · rw [if_pos l]
    have hk := hk (xs ++ [v])
    rw [← hs, List.map_append] at hk
    have ha : appM (.l (xs.map e)) (e v) = some (.l (xs.map e ++ [e v])) := if_pos (by rw [List.length_map]; exact l)
    cases bo
    · show Sim N (seq ((appM (.l (xs.map e)) (e v)).map _) _) (k (xs ++ [v])) Φ
      rw [ha]
      exact hk
    · show Sim N (seq ((appM (.l (xs.map e)) (e v)).map _) _) (k (xs ++ [v])) Φ
      rw [ha]
      exact hk
  · rw [if_neg l]
    exact ⟨trivial⟩
theorem ss_exp {e : C} (h : Sim N (bg (ev Γ cs e g) fun _ g => seq (evSs Γ cs fu r g) K) M Φ) : Sim N (seq (evSs Γ cs fu (.cons (.exp e) r) g) K) M Φ := by
  show Sim N (seq (seq (sbnd (ev Γ cs e g) _) _) K) M Φ
  rw [sbnd_bg, seq_seq, seq_bg]
  exact h
theorem ss_ret {e : C} (h : Sim N (bg (ev Γ cs e g) fun x g => some (.rt x, g)) M Φ) : Sim N (seq (evSs Γ cs fu (.cons (.ret e) r) g) K) M Φ := by
  show Sim N (seq (seq (sbnd (ev Γ cs e g) _) _) K) M Φ
  rw [sbnd_bg, seq_seq, seq_bg]
  exact h
theorem ss_retN (h : Sim N (some (.rt (.v .none), g)) M Φ) : Sim N (seq (evSs Γ cs fu (.cons .retN r) g) K) M Φ := h
theorem ss_pass (h : Sim N (seq (evSs Γ cs fu r g) K) M Φ) : Sim N (seq (evSs Γ cs fu (.cons .pass r) g) K) M Φ := h
theorem ss_brk (h : Sim N (some (.bk, g)) M Φ) : Sim N (seq (evSs Γ cs fu (.cons .brk r) g) K) M Φ := h
theorem ss_cont (h : Sim N (some (.ct, g)) M Φ) : Sim N (seq (evSs Γ cs fu (.cons .cont r) g) K) M Φ := h
def kIf' (Γ : Call) (cs : List (PySem.Str × D)) (fu : Nat) (a b r : Ss) (K : Sg → RS) (x : Val) (g : Sg) : RS :=
  match truth x.toD with
  | some true => seq (evSs Γ cs fu a g) fun g => seq (evSs Γ cs fu r g) K
  | some false => seq (evSs Γ cs fu b g) fun g => seq (evSs Γ cs fu r g) K
  | none => none
theorem ss_ite {c : C} {a b : Ss} (h : Sim N (bg (ev Γ cs c g) (kIf' Γ cs fu a b r K)) M Φ) : Sim N (seq (evSs Γ cs fu (.cons (.ite c a b) r) g) K) M Φ := by
  show Sim N (seq (seq (sbnd (ev Γ cs c g) _) _) K) M Φ
  rw [sbnd_bg, seq_seq, seq_bg]
  refine s_congr h fun x g => ?_
  unfold kIf'
  rcases truth x.toD with _ | t
  · rfl
  · cases t <;> rfl
theorem f_if {v : Val} {t : Bool} {a b : Ss} {Ma Mb : P ρ} (ht : truth v.toD = some t) (ha : Sim N (seq (evSs Γ cs fu a g) fun g => seq (evSs Γ cs fu r g) K) Ma Φ) (hb : Sim N (seq (evSs Γ cs fu b g) fun g => seq (evSs Γ cs fu r g) K) Mb Φ) :
    Sim N (kIf' Γ cs fu a b r K v g) (if t = true then Ma else Mb) Φ := by
  unfold kIf'
  rw [ht]
  cases t
  · exact hb
  · exact ha
/-- the end of a block that falls through to the slots of a state -/
abbrev Ft {σ : Type} (G : σ → Sg) : σ → Fl → Sg → Prop := fun s w g => w = .nx ∧ g = G s
theorem s_sq {σ : Type} {r1 : RS} {m : P σ} {G : σ → Sg} {K : Sg → RS} {k : σ → P ρ} (h : Sim N r1 m (Ft G)) (hk : ∀ s, Sim N (K (G s)) (k s) Φ) : Sim N (seq r1 K) (bd m k) Φ := by
  rcases m with _ | s | x
  · exact ⟨trivial⟩
  · obtain ⟨w, g, rfl, rfl, rfl⟩ := h
    exact hk s
  · obtain ⟨g, rfl, h2⟩ := h
    exact ⟨g, rfl, h2⟩
theorem f_ifJ {σ : Type} {v : Val} {t : Bool} {a b : Ss} {ma mb : P σ} {G : σ → Sg} {k : σ → P ρ} (ht : truth v.toD = some t) (ha : Sim N (seq (evSs Γ cs fu a g) nxK) ma (Ft G)) (hb : Sim N (seq (evSs Γ cs fu b g) nxK) mb (Ft G))
    (hk : ∀ s, Sim N (seq (evSs Γ cs fu r (G s)) K) (k s) Φ) : Sim N (kIf' Γ cs fu a b r K v g) (bd (if t = true then ma else mb) k) Φ := by
  rw [seq_nxK] at ha hb
  unfold kIf'
  rw [ht]
  cases t
  · exact s_sq hb hk
  · exact s_sq ha hk

/-! ### loops -/
inductive Lp (ρ σ : Type) where
  | go (s : σ)
  | br (s : σ)
  | rt (x : ρ)
def lpK {σ : Type} (o : Lp ρ σ) (k : σ → P ρ) : P ρ :=
  match o with
  | .go s => k s
  | .br s => k s
  | .rt x => ok x
def forS {σ : Type} (f : α → σ → P σ) : List α → σ → P σ
  | [], s => ok s
  | x :: xs, s => bd (f x s) fun s => forS f xs s
def forR {σ : Type} (f : α → σ → P (Lp ρ σ)) : List α → σ → P (Lp ρ σ)
  | [], s => ok (.go s)
  | x :: xs, s => bd (f x s) fun o => match o with
    | .go s => forR f xs s
    | .br s => ok (.br s)
    | .rt x => ok (.rt x)
def whlP {σ : Type} (c : σ → P Bool) (b : σ → P σ) : Nat → σ → P σ
  | 0, _ => stop
  | n + 1, s => bd (c s) fun t => if t = true then bd (b s) fun s => whlP c b n s else ok s
def whlR {σ : Type} (c : σ → P Bool) (b : σ → P (Lp ρ σ)) : Nat → σ → P (Lp ρ σ)
  | 0, _ => stop
  | n + 1, s => bd (c s) fun t => if t = true then bd (b s) fun o => match o with
      | .go s => whlR c b n s
      | .br s => ok (.br s)
      | .rt x => ok (.rt x)
    else ok (.go s)
/-- the end of a turn -/
abbrev Tn {σ : Type} (G : σ → Sg) : σ → Fl → Sg → Prop := fun s w g => (w = .nx ∨ w = .ct) ∧ g = G s
def TnR {σ : Type} (Φ : ρ → Fl → Sg → Prop) (G : σ → Sg) (o : Lp ρ σ) (w : Fl) (g : Sg) : Prop :=
  match o with
  | .go s => (w = .nx ∨ w = .ct) ∧ g = G s
  | .br s => w = .bk ∧ g = G s
  | .rt x => (∃ v, w = .rt v) ∧ Φ x w g
/-- the end of a loop -/
def LpR {σ : Type} (Φ : ρ → Fl → Sg → Prop) (G : σ → Sg) (o : Lp ρ σ) (w : Fl) (g : Sg) : Prop :=
  match o with
  | .go s => w = .nx ∧ g = G s
  | .br s => w = .nx ∧ g = G s
  | .rt x => (∃ v, w = .rt v) ∧ Φ x w g
theorem for_go {σ : Type} {t : Tg} {b : Sg → RS} {f : α → σ → P σ} {E : α → D} {G : σ → Sg} (hb : ∀ y s, ∃ g1, asg t (E y) (G s) = some g1 ∧ Sim N (b g1) (f y s) (Tn G)) : ∀ (ys : List α) (s : σ), Sim N (forGo t b (ys.map E) (G s)) (forS f ys s) (Ft G)
  | [], s => ⟨_, _, rfl, rfl, rfl⟩
  | y :: ys, s => by
    obtain ⟨g1, h1, h2⟩ := hb y s
    rw [List.map_cons]
    unfold forGo forS
    rw [h1, Option.bind_some]
    generalize f y s = m at h2 ⊢
    rcases m with _ | s' | x
    · exact ⟨trivial⟩
    · obtain ⟨w, g, e1, e2, e3⟩ := h2
      subst e3
      rw [e1]
      rcases e2 with rfl | rfl <;> exact for_go hb ys s'
    · obtain ⟨g, e1, e2⟩ := h2
      rw [e1]
      exact ⟨g, rfl, e2⟩
theorem for_goR {σ : Type} {t : Tg} {b : Sg → RS} {f : α → σ → P (Lp ρ σ)} {E : α → D} {G : σ → Sg} (hb : ∀ y s, ∃ g1, asg t (E y) (G s) = some g1 ∧ Sim N (b g1) (f y s) (TnR Φ G)) : ∀ (ys : List α) (s : σ), Sim N (forGo t b (ys.map E) (G s)) (forR f ys s) (LpR Φ G)
  | [], s => ⟨_, _, rfl, rfl, rfl⟩
  | y :: ys, s => by
    obtain ⟨g1, h1, h2⟩ := hb y s
    rw [List.map_cons]
    unfold forGo forR
    rw [h1, Option.bind_some]
    generalize f y s = m at h2 ⊢
    rcases m with _ | o | x
    · exact ⟨trivial⟩
    · obtain ⟨w, g, e1, e2⟩ := h2
      rw [e1]
      cases o with
      | go s' =>
        obtain ⟨e2, rfl⟩ := e2
        rcases e2 with rfl | rfl <;> exact for_goR hb ys s'
      | br s' =>
        obtain ⟨rfl, rfl⟩ := e2
        exact ⟨_, _, rfl, rfl, rfl⟩
      | rt x =>
        obtain ⟨⟨v, rfl⟩, e3⟩ := e2
        exact ⟨_, _, rfl, ⟨v, rfl⟩, e3⟩
    · obtain ⟨g, e1, e2⟩ := h2
      rw [e1]
      exact ⟨g, rfl, e2⟩
def kFor' (Γ : Call) (cs : List (PySem.Str × D)) (fu : Nat) (t : Tg) (b r : Ss) (K : Sg → RS) (xs : List D) (g : Sg) : RS := seq (forGo t (fun g => evSs Γ cs fu b g) xs g) fun g => seq (evSs Γ cs fu r g) K
theorem ss_for {t : Tg} {s : Sr} {b : Ss} (h : Sim N (bg (evr Γ cs s g) (kFor' Γ cs fu t b r K)) M Φ) : Sim N (seq (evSs Γ cs fu (.cons (.for t s b) r) g) K) M Φ := by
  show Sim N (seq (seq (sbnd (evr Γ cs s g) _) _) K) M Φ
  rw [sbnd_bg, seq_seq, seq_bg]
  exact h
theorem f_for {σ : Type} {t : Tg} {b : Ss} {f : α → σ → P σ} {E : α → D} {G : σ → Sg} {ys : List α} {s0 : σ} {k : σ → P ρ} (hb : ∀ y s, ∃ g1, asg t (E y) (G s) = some g1 ∧ Sim N (seq (evSs Γ cs fu b g1) nxK) (f y s) (Tn G)) (hk : ∀ s, Sim N (seq (evSs Γ cs fu r (G s)) K) (k s) Φ) :
    Sim N (kFor' Γ cs fu t b r K (ys.map E) (G s0)) (bd (forS f ys s0) k) Φ :=
  s_sq (for_go (fun y s => by obtain ⟨g1, h1, h2⟩ := hb y s; rw [seq_nxK] at h2; exact ⟨g1, h1, h2⟩) ys s0) hk
theorem s_sqR {σ : Type} {r1 : RS} {m : P (Lp ρ σ)} {G : σ → Sg} {K : Sg → RS} {k : σ → P ρ} (h : Sim N r1 m (LpR Φ G)) (hk : ∀ s, Sim N (K (G s)) (k s) Φ) : Sim N (seq r1 K) (bd m fun o => lpK o k) Φ := by
  rcases m with _ | o | x
  · exact ⟨trivial⟩
  · obtain ⟨w, g, rfl, e⟩ := h
    cases o with
    | go s =>
      obtain ⟨rfl, rfl⟩ := e
      exact hk s
    | br s =>
      obtain ⟨rfl, rfl⟩ := e
      exact hk s
    | rt x =>
      obtain ⟨⟨v, rfl⟩, e⟩ := e
      exact ⟨_, _, rfl, e⟩
  · obtain ⟨g, rfl, h2⟩ := h
    exact ⟨g, rfl, h2⟩
theorem f_forR {σ : Type} {t : Tg} {b : Ss} {f : α → σ → P (Lp ρ σ)} {E : α → D} {G : σ → Sg} {ys : List α} {s0 : σ} {k : σ → P ρ} (hb : ∀ y s, ∃ g1, asg t (E y) (G s) = some g1 ∧ Sim N (seq (evSs Γ cs fu b g1) nxK) (f y s) (TnR Φ G)) (hk : ∀ s, Sim N (seq (evSs Γ cs fu r (G s)) K) (k s) Φ) :
    Sim N (kFor' Γ cs fu t b r K (ys.map E) (G s0)) (bd (forR f ys s0) fun o => lpK o k) Φ :=
  s_sqR (for_goR (fun y s => by obtain ⟨g1, h1, h2⟩ := hb y s; rw [seq_nxK] at h2; exact ⟨g1, h1, h2⟩) ys s0) hk
/-- an if whose branches may return -/
theorem f_ifR {σ : Type} {v : Val} {t : Bool} {a b : Ss} {ma mb : P (Lp ρ σ)} {G : σ → Sg} {k : σ → P ρ} (ht : truth v.toD = some t) (ha : Sim N (seq (evSs Γ cs fu a g) nxK) ma (LpR Φ G)) (hb : Sim N (seq (evSs Γ cs fu b g) nxK) mb (LpR Φ G))
    (hk : ∀ s, Sim N (seq (evSs Γ cs fu r (G s)) K) (k s) Φ) : Sim N (kIf' Γ cs fu a b r K v g) (bd (if t = true then ma else mb) fun o => lpK o k) Φ := by
  rw [seq_nxK] at ha hb
  unfold kIf'
  rw [ht]
  cases t
  · exact s_sqR hb hk
  · exact s_sqR ha hk
abbrev kTr' : Val → Sg → R Bool := fun x g => opt (truth x.toD) g
theorem f_tr {v : Val} {t : Bool} {x : ρ} {Ψ : ρ → Out Bool → Sg → Prop} (h : truth v.toD = some t) (hΨ : Ψ x (.ok t) g) : Sim N (kTr' v g) (ok x) Ψ := by
  show Sim N (opt (truth v.toD) g) (ok x) Ψ
  rw [h]
  exact s_done hΨ
theorem whl_go {σ : Type} {c : Sg → R Bool} {b : Sg → RS} {fc : σ → P Bool} {fb : σ → P σ} {G : σ → Sg} (hc : ∀ s, Sim N (c (G s)) (fc s) fun t w g => w = .ok t ∧ g = G s) (hb : ∀ s, Sim N (b (G s)) (fb s) (Tn G)) : ∀ (n : Nat) (s : σ), Sim N (whlGo c b n (G s)) (whlP fc fb n s) (Ft G)
  | 0, s => ⟨trivial⟩
  | n + 1, s => by
    have h1 := hc s
    have h2 := hb s
    unfold whlGo whlP
    generalize fc s = m at h1 ⊢
    rcases m with _ | t | x
    · exact ⟨trivial⟩
    · obtain ⟨w, g, e1, rfl, rfl⟩ := h1
      rw [e1]
      cases t with
      | false => exact ⟨_, _, rfl, rfl, rfl⟩
      | true =>
        show Sim N (match b (G s) with
          | some (.nx, g) => whlGo c b n g
          | some (.ct, g) => whlGo c b n g
          | some (.bk, g) => some (.nx, g)
          | r => r) (bd (fb s) fun s => whlP fc fb n s) (Ft G)
        generalize fb s = m2 at h2 ⊢
        rcases m2 with _ | s' | x
        · exact ⟨trivial⟩
        · obtain ⟨w, g, e1, e2, rfl⟩ := h2
          rw [e1]
          rcases e2 with rfl | rfl <;> exact whl_go hc hb n s'
        · obtain ⟨g, e1, e2⟩ := h2
          rw [e1]
          exact ⟨g, rfl, e2⟩
    · obtain ⟨g, e1, e2⟩ := h1
      rw [e1]
      exact ⟨g, rfl, e2⟩
theorem whl_goR {σ : Type} {c : Sg → R Bool} {b : Sg → RS} {fc : σ → P Bool} {fb : σ → P (Lp ρ σ)} {G : σ → Sg} (hc : ∀ s, Sim N (c (G s)) (fc s) fun t w g => w = .ok t ∧ g = G s) (hb : ∀ s, Sim N (b (G s)) (fb s) (TnR Φ G)) : ∀ (n : Nat) (s : σ), Sim N (whlGo c b n (G s)) (whlR fc fb n s) (LpR Φ G)
  | 0, s => ⟨trivial⟩
  | n + 1, s => by
    have h1 := hc s
    have h2 := hb s
    unfold whlGo whlR
    generalize fc s = m at h1 ⊢
    rcases m with _ | t | x
    · exact ⟨trivial⟩
    · obtain ⟨w, g, e1, rfl, rfl⟩ := h1
      rw [e1]
      cases t with
      | false => exact ⟨_, _, rfl, rfl, rfl⟩
      | true =>
        show Sim N (match b (G s) with
          | some (.nx, g) => whlGo c b n g
          | some (.ct, g) => whlGo c b n g
          | some (.bk, g) => some (.nx, g)
          | r => r) (bd (fb s) fun o => match o with
            | .go s => whlR fc fb n s
            | .br s => ok (.br s)
            | .rt x => ok (.rt x)) (LpR Φ G)
        generalize fb s = m2 at h2 ⊢
        rcases m2 with _ | o | x
        · exact ⟨trivial⟩
        · obtain ⟨w, g, e1, e2⟩ := h2
          rw [e1]
          cases o with
          | go s' =>
            obtain ⟨e2, rfl⟩ := e2
            rcases e2 with rfl | rfl <;> exact whl_goR hc hb n s'
          | br s' =>
            obtain ⟨rfl, rfl⟩ := e2
            exact ⟨_, _, rfl, rfl, rfl⟩
          | rt x =>
            obtain ⟨⟨v, rfl⟩, e3⟩ := e2
            exact ⟨_, _, rfl, ⟨v, rfl⟩, e3⟩
        · obtain ⟨g, e1, e2⟩ := h2
          rw [e1]
          exact ⟨g, rfl, e2⟩
    · obtain ⟨g, e1, e2⟩ := h1
      rw [e1]
      exact ⟨g, rfl, e2⟩
theorem ss_whl {σ : Type} {c : C} {b : Ss} {fc : σ → P Bool} {fb : σ → P σ} {G : σ → Sg} {s0 : σ} {k : σ → P ρ} (hc : ∀ s, Sim N (bg (ev Γ cs c (G s)) kTr') (fc s) fun t w g => w = .ok t ∧ g = G s) (hb : ∀ s, Sim N (seq (evSs Γ cs fu b (G s)) nxK) (fb s) (Tn G))
    (hk : ∀ s, Sim N (seq (evSs Γ cs fu r (G s)) K) (k s) Φ) : Sim N (seq (evSs Γ cs fu (.cons (.whl c b) r) (G s0)) K) (bd (whlP fc fb fu s0) k) Φ := by
  show Sim N (seq (seq (whlGo _ _ fu (G s0)) _) K) _ Φ
  rw [seq_seq]
  exact s_sq (whl_go (fun s => by rw [bnd_bg]; exact hc s) (fun s => by have := hb s; rw [seq_nxK] at this; exact this) fu s0) hk
theorem ss_whlR {σ : Type} {c : C} {b : Ss} {fc : σ → P Bool} {fb : σ → P (Lp ρ σ)} {G : σ → Sg} {s0 : σ} {k : σ → P ρ} (hc : ∀ s, Sim N (bg (ev Γ cs c (G s)) kTr') (fc s) fun t w g => w = .ok t ∧ g = G s) (hb : ∀ s, Sim N (seq (evSs Γ cs fu b (G s)) nxK) (fb s) (TnR Φ G))
    (hk : ∀ s, Sim N (seq (evSs Γ cs fu r (G s)) K) (k s) Φ) : Sim N (seq (evSs Γ cs fu (.cons (.whl c b) r) (G s0)) K) (bd (whlR fc fb fu s0) fun o => lpK o k) Φ := by
  show Sim N (seq (seq (whlGo _ _ fu (G s0)) _) K) _ Φ
  rw [seq_seq]
  exact s_sqR (whl_goR (fun s => by rw [bnd_bg]; exact hc s) (fun s => by have := hb s; rw [seq_nxK] at this; exact this) fu s0) hk

/-! ### defs -/
def isVs : Arg → Bool
  | .m _ => false
  | _ => true
theorem run_eq {T : Tab} {n f : Nat} {i : FnI} {as : List Arg} {fu : Nat} (hf : T.fns[f]? = some i) (hm : i.lam = true → 2 ≤ n) : run T fu (n + 1) f as = runFn (run T fu n) T.cons fu i as := by
  rw [run]
  dsimp only
  rw [hf]
  dsimp only
  rw [if_neg fun h => absurd (hm h.1) (by omega)]
theorem outM_vs : ∀ {as : List Arg} {g : Sg}, as.all isVs = true → as.length ≤ g.length → outM as g = some (List.replicate as.length none)
  | [], _, _, _ => rfl
  | a :: as, [], _, h => by cases h
  | a :: as, s :: g, h, l => by
    rw [List.all_cons, Bool.and_eq_true] at h
    have e := outM_vs (as := as) (g := g) h.2 (by simpa using l)
    cases a with
    | v d =>
      show (outM as g).map _ = _
      rw [e]
      rfl
    | s ds =>
      show (outM as g).map _ = _
      rw [e]
      rfl
    | x _ =>
      show (outM as g).map _ = _
      rw [e]
      rfl
    | m c => exact absurd h.1 Bool.false_ne_true
/-- how a def ends -/
abbrev Fn (as : List Arg) (ψ : ρ → Val × List (Option Z.M)) : ρ → Fl → Sg → Prop := fun x w g => (w = .rt (ψ x).1 ∨ (w = .nx ∧ (ψ x).1 = .v .none)) ∧ outM as g = some (ψ x).2
theorem fn_in {T : Tab} {n f : Nat} {i : FnI} {as : List Arg} {m : P ρ} {ψ : ρ → Val × List (Option Z.M)} {g0 : Sg} (hf : T.fns[f]? = some i) (hl : as.length = i.ps.length) (hx : as.any isXA = i.hot) (hm : i.lam = true → 2 ≤ n) (hN : as.length ≤ i.N.length) (hv : as.all isVs = true)
    (hg : as.map envOf ++ List.replicate (i.N.length - as.length) .no = g0) (h : Sim (fun g => g.length = i.N.length) (seq (evSs (run T fu n) T.cons fu i.body g0) nxK) m (Fn as ψ)) : FS as.length (run T fu (n + 1) f as) m ψ := by
  rw [seq_nxK] at h
  rw [run_eq hf hm]
  unfold runFn
  rw [if_pos ⟨hl, hx⟩, hg]
  rcases m with _ | x | x
  · exact ⟨trivial⟩
  · obtain ⟨w, g, e1, e2, e3⟩ := h
    rw [e1]
    rcases e2 with rfl | ⟨rfl, e4⟩
    · refine ⟨?_⟩
      show (outM as g).map _ = _
      rw [e3]
      rfl
    · refine ⟨?_⟩
      show (outM as g).map (fun ms => (Out.ok (Val.v .none), ms)) = some (Out.ok (ψ x).1, (ψ x).2)
      rw [e3, e4]
      rfl
  · obtain ⟨g, e1, e2⟩ := h
    rw [e1]
    refine ⟨?_⟩
    show (outM as g).map _ = _
    rw [outM_vs hv (by rw [e2]; exact hN)]
    rfl
theorem fn_inM {T : Tab} {n f : Nat} {i : FnI} {as : List Arg} {m : P ρ} {ψ : ρ → Val × List (Option Z.M)} {g0 : Sg} (hf : T.fns[f]? = some i) (hl : as.length = i.ps.length) (hx : as.any isXA = i.hot) (hm : i.lam = true → 2 ≤ n)
    (hg : as.map envOf ++ List.replicate (i.N.length - as.length) .no = g0) (h : Sim (fun g => g.length = i.N.length) (seq (evSs (run T fu n) T.cons fu i.body g0) nxK) m (Fn as ψ)) : FS as.length (run T fu (n + 1) f as) (nx m) ψ := by
  rw [seq_nxK] at h
  rw [run_eq hf hm]
  unfold runFn
  rw [if_pos ⟨hl, hx⟩, hg]
  rcases m with _ | x | x
  · exact ⟨trivial⟩
  · obtain ⟨w, g, e1, e2, e3⟩ := h
    rw [e1]
    rcases e2 with rfl | ⟨rfl, e4⟩
    · refine ⟨?_⟩
      show (outM as g).map _ = _
      rw [e3]
      rfl
    · refine ⟨?_⟩
      show (outM as g).map (fun ms => (Out.ok (Val.v .none), ms)) = some (Out.ok (ψ x).1, (ψ x).2)
      rw [e3, e4]
      rfl
  · exact ⟨trivial⟩
end
end Z

/-! ZV: how typed values lie in plain data, and the operations on them. -/
namespace Z
open PySem (PyData)
open PySem PySem.Spec PyProof.Rows L2

abbrev eI : Int → D := PyData.int
abbrev eB : Bool → D := PyData.bool
abbrev eS : Str → D := PyData.str
abbrev eD : D → D := fun d => d
abbrev eU : Unit → D := fun _ => PyData.none
section
variable {α β γ : Type}
abbrev eL (e : α → D) (xs : List α) : D := .list (xs.map e)
abbrev eT (e : α → D) (xs : List α) : D := .tuple (xs.map e)
abbrev eP (a : α → D) (b : β → D) (p : α × β) : D := .tuple [a p.1, b p.2]
abbrev eP1 (a : α → D) (x : α) : D := .tuple [a x]
abbrev eP3 (a : α → D) (b : β → D) (c : γ → D) (p : α × β × γ) : D := .tuple [a p.1, b p.2.1, c p.2.2]
def eO (e : α → D) : Option α → D
  | none => .none
  | some x => e x
end

/-! ### equality -/
class EqE {α : Type} [DecidableEq α] (e : α → D) (k : outParam Nat) : Prop where
  eqv : ∀ x y, PyData.eqv (e x) (e y) = decide (x = y)
  lay : ∀ x, (e x).canLay0 = true
  dep : ∀ x, (e x).depth ≤ k
instance : EqE eI 0 := ⟨fun x y => by simp only [PyData.eqv]; rw [Bool.eq_iff_iff]; simp, fun x => by simp only [PyData.canLay0], fun x => by simp only [PyData.depth]; omega⟩
instance : EqE eB 0 := ⟨fun x y => by simp only [PyData.eqv]; cases x <;> cases y <;> rfl, fun x => by simp only [PyData.canLay0], fun x => by simp only [PyData.depth]; omega⟩
section
variable {α β γ : Type} [DecidableEq α] [DecidableEq β] [DecidableEq γ] {e : α → D} {e2 : β → D} {e3 : γ → D} {k l m : Nat}
theorem eqvAll_map [h : EqE e k] : ∀ xs ys : List α, PyData.eqvAll (xs.map e) (ys.map e) = decide (xs = ys)
  | [], [] => by simp only [List.map_nil, PyData.eqvAll]; rfl
  | [], y :: ys => by simp only [List.map_nil, List.map_cons, PyData.eqvAll]; rfl
  | x :: xs, [] => by simp only [List.map_nil, List.map_cons, PyData.eqvAll]; rfl
  | x :: xs, y :: ys => by
    simp only [List.map_cons, PyData.eqvAll, h.eqv, eqvAll_map xs ys]
    rw [Bool.eq_iff_iff]
    simp only [Bool.and_eq_true, decide_eq_true_eq, List.cons.injEq]
theorem layAll_map [h : EqE e k] : ∀ xs : List α, PyData.canLayAll0 (xs.map e) = true
  | [] => by simp only [List.map_nil, PyData.canLayAll0]
  | x :: xs => by simp only [List.map_cons, PyData.canLayAll0, h.lay, layAll_map xs, Bool.and_self]
theorem depAll_map [h : EqE e k] : ∀ xs : List α, PyData.depthAll (xs.map e) ≤ k
  | [] => by simp only [List.map_nil, PyData.depthAll]; omega
  | x :: xs => by
    have := h.dep x
    have := depAll_map xs
    simp only [List.map_cons, PyData.depthAll]
    omega
instance [EqE e k] : EqE (eL e) (k + 1) := ⟨fun x y => by simp only [PyData.eqv]; exact eqvAll_map x y, fun x => by simp only [PyData.canLay0]; exact layAll_map x, fun x => by simp only [PyData.depth]; have := depAll_map (e := e) x; omega⟩
instance [EqE e k] : EqE (eT e) (k + 1) := ⟨fun x y => by simp only [PyData.eqv]; exact eqvAll_map x y, fun x => by simp only [PyData.canLay0]; exact layAll_map x, fun x => by simp only [PyData.depth]; have := depAll_map (e := e) x; omega⟩
instance [h : EqE e k] [h2 : EqE e2 l] : EqE (eP e e2) (k + l + 1) := ⟨fun x y => by
    simp only [PyData.eqv, PyData.eqvAll, h.eqv, h2.eqv, Bool.and_true]
    rw [Bool.eq_iff_iff]
    simp only [Bool.and_eq_true, decide_eq_true_eq]
    exact ⟨fun h => Prod.ext h.1 h.2, fun h => by rw [h]; exact ⟨rfl, rfl⟩⟩,
  fun x => by simp only [PyData.canLay0, PyData.canLayAll0, h.lay, h2.lay, Bool.and_self],
  fun x => by
    have := h.dep x.1
    have := h2.dep x.2
    simp only [PyData.depth, PyData.depthAll]
    omega⟩
instance [h : EqE e k] [h2 : EqE e2 l] [h3 : EqE e3 m] : EqE (eP3 e e2 e3) (k + l + m + 1) := ⟨fun x y => by
    simp only [PyData.eqv, PyData.eqvAll, h.eqv, h2.eqv, h3.eqv, Bool.and_true]
    rw [Bool.eq_iff_iff]
    simp only [Bool.and_eq_true, decide_eq_true_eq]
    exact ⟨fun h => Prod.ext h.1 (Prod.ext h.2.1 h.2.2), fun h => by rw [h]; exact ⟨rfl, rfl, rfl⟩⟩,
  fun x => by simp only [PyData.canLay0, PyData.canLayAll0, h.lay, h2.lay, h3.lay, Bool.and_self],
  fun x => by
    have := h.dep x.1
    have := h2.dep x.2.1
    have := h3.dep x.2.2
    simp only [PyData.depth, PyData.depthAll]
    omega⟩
theorem EqE.sh [h : EqE e k] (hk : k ≤ 64) (x : α) : SeqAt.shaped (e x) = true := by
  unfold SeqAt.shaped
  rw [h.lay, decide_eq_true (Nat.le_trans (h.dep x) hk)]
  rfl
theorem cmpD_eq {d d' : D} (h : SeqAt.shaped d = true) (h' : SeqAt.shaped d' = true) : cmpD .eq d d' = some (PyData.eqv d d') := by
  have g : (if (SeqAt.shaped d && SeqAt.shaped d') = true then some (PyData.eqv d d') else none) = some (PyData.eqv d d') := by rw [h, h']; rfl
  cases d <;> cases d' <;> first
    | exact g
    | (simp only [cmpD, PyData.eqv]; rfl)
theorem cmpD_ne {d d' : D} (h : SeqAt.shaped d = true) (h' : SeqAt.shaped d' = true) : cmpD .ne d d' = some (!PyData.eqv d d') := by
  have g : (if (SeqAt.shaped d && SeqAt.shaped d') = true then some (!PyData.eqv d d') else none) = some (!PyData.eqv d d') := by rw [h, h']; rfl
  cases d <;> cases d' <;> first
    | exact g
    | (simp only [cmpD, PyData.eqv]; rfl)
theorem c_eq [h : EqE e k] (hk : k ≤ 64) (x y : α) : cmpD .eq (e x) (e y) = some (decide (x = y)) := by rw [cmpD_eq (h.sh hk x) (h.sh hk y), h.eqv]
theorem c_ne [h : EqE e k] (hk : k ≤ 64) (x y : α) : cmpD .ne (e x) (e y) = some (!decide (x = y)) := by rw [cmpD_ne (h.sh hk x) (h.sh hk y), h.eqv]
theorem any_mem [h : EqE e k] (x : α) : ∀ ys : List α, ((ys.map e).any fun z => PyData.eqv z (e x)) = decide (x ∈ ys)
  | [] => by simp
  | y :: ys => by
    rw [List.map_cons, List.any_cons, any_mem x ys, h.eqv, Bool.eq_iff_iff]
    simp only [Bool.or_eq_true, decide_eq_true_eq, List.mem_cons]
    constructor
    · rintro (h | h)
      · exact .inl h.symm
      · exact .inr h
    · rintro (h | h)
      · exact .inl h.symm
      · exact .inr h
theorem c_inn [h : EqE e k] (hk : k ≤ 63) (x : α) (ys : List α) {dm : Decidable (x ∈ ys)} : cmpD .inn (e x) (.list (ys.map e)) = some (decide (x ∈ ys)) := by
  show isIn (e x) (.list (ys.map e)) = _
  show (if (SeqAt.shaped (e x) && SeqAt.shaped (eL e ys)) = true then _ else _) = _
  rw [h.sh (by omega) x, EqE.sh (e := eL e) (by omega) ys, any_mem, if_pos (by decide)]
  congr
theorem c_nin [h : EqE e k] (hk : k ≤ 63) (x : α) (ys : List α) {dm : Decidable (x ∈ ys)} : cmpD .nin (e x) (.list (ys.map e)) = some (!decide (x ∈ ys)) := by
  have := c_inn (e := e) hk x ys (dm := dm)
  show (isIn (e x) (.list (ys.map e))).map _ = _
  rw [show isIn (e x) (.list (ys.map e)) = _ from this]
  rfl
theorem cnt_map [h : EqE e k] (x : α) (ys : List α) : (ys.map e).countP (fun z => PyData.eqv z (e x)) = ys.count x := by
  rw [List.countP_map]
  unfold List.count
  congr 1
  funext y
  show PyData.eqv (e y) (e x) = (y == x)
  rw [h.eqv]
  rfl
theorem m_count [h : EqE e k] (hk : k ≤ 63) (x : α) (ys : List α) : mtD .count (.list (ys.map e)) (e x) = some (.int (ys.count x : Nat)) := by
  show (if (SeqAt.shaped (eL e ys) && SeqAt.shaped (e x)) = true then _ else _) = _
  rw [h.sh (by omega) x, EqE.sh (e := eL e) (by omega) ys, cnt_map]
  rfl
def ixOfP (ys : List α) (x : α) : P Int := lf ((ys.findIdx? fun z => z == x).map fun j => ((j : Nat) : Int))
theorem m_index [h : EqE e k] (hk : k ≤ 63) (x : α) (ys : List α) : OpS ((mtD .index (.list (ys.map e)) (e x)).map .v) (ixOfP ys x) fun r => .v (eI r) := by
  refine ⟨?_⟩
  have e1 : mtD .index (.list (ys.map e)) (e x) = ((ys.map e).findIdx? fun z => PyData.eqv z (e x)).map fun j => .int (j : Nat) := by
    show (if (SeqAt.shaped (eL e ys) && SeqAt.shaped (e x)) = true then _ else _) = _
    rw [h.sh (by omega) x, EqE.sh (e := eL e) (by omega) ys]
    rfl
  have e2 : ((ys.map e).findIdx? fun z => PyData.eqv z (e x)) = ys.findIdx? fun z => z == x := by
    rw [List.findIdx?_map]
    congr 1
    funext y
    show PyData.eqv (e y) (e x) = (y == x)
    rw [h.eqv]
    rfl
  rw [e1, e2]
  unfold ixOfP
  rcases ys.findIdx? fun z => z == x with _ | j
  · trivial
  · rfl
end

/-! ### operations -/
/-- neither ints nor pairs of ints -/
class NoI {α : Type} (e : α → D) : Prop where
  no : ∀ x, intsD [e x] = none ∧ pairsD [e x] = none
instance {α β : Type} {e : α → D} {e2 : β → D} : NoI (eP (eP e e2) (eT (eP eI eI))) := ⟨fun _ => ⟨rfl, rfl⟩⟩

section
variable {α β γ : Type} {e : α → D} {e2 : β → D}
def mulP (i j : Int) : P Int := if mulOk i j = true then ok (i * j) else stop
def divP (i j : Int) : P Int := if divOk j = true then ok (i / j) else stop
def modP (i j : Int) : P Int := if 0 < j then ok (i % j) else stop
def powP (i j : Int) : P Int := if powOk i j = true then ok (i ^ j.toNat) else stop
theorem o_mul {i j : Int} : OpS (binD .mul (.int i) (.int j)) (mulP i j) fun r => .v (eI r) := by
  refine ⟨?_⟩
  show OpD (if mulOk i j = true then _ else _) _ _
  unfold mulP
  by_cases h : mulOk i j = true
  · rw [if_pos h, if_pos h]; rfl
  · rw [if_neg h, if_neg h]; trivial
theorem o_div {i j : Int} : OpS (binD .div (.int i) (.int j)) (divP i j) fun r => .v (eI r) := by
  refine ⟨?_⟩
  show OpD (if divOk j = true then _ else _) _ _
  unfold divP
  by_cases h : divOk j = true
  · rw [if_pos h, if_pos h]; rfl
  · rw [if_neg h, if_neg h]; trivial
theorem o_mod {i j : Int} : OpS (binD .mod (.int i) (.int j)) (modP i j) fun r => .v (eI r) := by
  refine ⟨?_⟩
  show OpD (if 0 < j then _ else _) _ _
  unfold modP
  by_cases h : 0 < j
  · rw [if_pos h, if_pos h]; rfl
  · rw [if_neg h, if_neg h]; trivial
theorem o_pow {i j : Int} : OpS (binD .pow (.int i) (.int j)) (powP i j) fun r => .v (eI r) := by
  refine ⟨?_⟩
  show OpD (if powOk i j = true then _ else _) _ _
  unfold powP
  by_cases h : powOk i j = true
  · rw [if_pos h, if_pos h]; rfl
  · rw [if_neg h, if_neg h]; trivial
/-- by a written number -/
theorem b_mulc {i j : Int} (h : (decide (-(2 ^ 64) < j) && decide (j < 2 ^ 64)) = true) : binD .mul (.int i) (.int j) = some (.v (.int (i * j))) := by
  show (if mulOk i j = true then _ else _) = _
  unfold mulOk
  rw [h, Bool.or_true, Bool.true_or]
  rfl
theorem b_mulc' {i j : Int} (h : (decide (-(2 ^ 64) < i) && decide (i < 2 ^ 64)) = true) : binD .mul (.int i) (.int j) = some (.v (.int (i * j))) := by
  show (if mulOk i j = true then _ else _) = _
  unfold mulOk
  rw [h, Bool.true_or, Bool.true_or]
  rfl
theorem b_divc {i j : Int} (h : divOk j = true) : binD .div (.int i) (.int j) = some (.v (.int (i / j))) := by
  show (if divOk j = true then _ else _) = _
  rw [if_pos h]
theorem b_modc {i j : Int} (h : 0 < j) : binD .mod (.int i) (.int j) = some (.v (.int (i % j))) := by
  show (if 0 < j then _ else _) = _
  rw [if_pos h]
theorem b_powc {i j : Int} (h : powOk i j = true) : binD .pow (.int i) (.int j) = some (.v (.int (i ^ j.toNat))) := by
  show (if powOk i j = true then _ else _) = _
  rw [if_pos h]
def addP (xs ys : List α) : P (List α) := if xs.length + ys.length ≤ sizeLine then ok (xs ++ ys) else stop
theorem o_addL {xs ys : List α} : OpS (binD .add (.list (xs.map e)) (.list (ys.map e))) (addP xs ys) fun r => .m (.l (r.map e)) := by
  refine ⟨?_⟩
  show OpD (if (xs.map e).length + (ys.map e).length ≤ sizeLine then _ else _) _ _
  unfold addP
  rw [List.length_map, List.length_map]
  by_cases h : xs.length + ys.length ≤ sizeLine
  · rw [if_pos h, if_pos h]
    show _ = some (Val.m (.l ((xs ++ ys).map e)))
    rw [List.map_append]
  · rw [if_neg h, if_neg h]; trivial
def repTP (xs : List α) (k : Int) : P (List α) := if repTOk xs.length k = true then ok (List.replicate k.toNat xs).flatten else stop
theorem o_repT {xs : List α} {k : Int} : OpS (binD .mul (.tuple (xs.map e)) (.int k)) (repTP xs k) fun r => .v (eT e r) := by
  refine ⟨?_⟩
  show OpD (if repTOk (xs.map e).length k = true then _ else _) _ _
  unfold repTP
  rw [List.length_map]
  by_cases h : repTOk xs.length k = true
  · rw [if_pos h, if_pos h]
    show _ = some (Val.v (.tuple ((List.replicate k.toNat xs).flatten.map e)))
    rw [List.map_flatten, List.map_replicate]
  · rw [if_neg h, if_neg h]; trivial
/-- sorted, of what cannot be compared here: at most one -/
def sort1P (xs : List α) : P (List α) := if xs.length ≤ 1 then ok xs else stop
theorem o_sort1 [h1 : NoI e] {xs : List α} : OpS (b1D .sorted (.list (xs.map e))) (sort1P xs) fun r => .m (.l (r.map e)) := by
  refine ⟨?_⟩
  unfold sort1P
  by_cases l : xs.length ≤ 1
  · rw [if_pos l]
    match xs, l with
    | [], _ => rfl
    | [x], _ =>
      show (match intsD [e x] with
        | some ns => some (Val.m (.l ((sortI ns).map .int)))
        | none => match pairsD [e x] with
          | some ps => some (Val.m (.l ((sortP ps).map prD)))
          | none => if ([e x] : List D).length ≤ 1 then some (Val.m (.l [e x])) else none) = _
      rw [(h1.no x).1, (h1.no x).2]
      rfl
  · rw [if_neg l]; trivial
theorem o_addT {xs ys : List α} : OpS (binD .add (.tuple (xs.map e)) (.tuple (ys.map e))) (addP xs ys) fun r => .v (eT e r) := by
  refine ⟨?_⟩
  show OpD (if (xs.map e).length + (ys.map e).length ≤ sizeLine then _ else _) _ _
  unfold addP
  rw [List.length_map, List.length_map]
  by_cases h : xs.length + ys.length ≤ sizeLine
  · rw [if_pos h, if_pos h]
    show _ = some (Val.v (.tuple ((xs ++ ys).map e)))
    rw [List.map_append]
  · rw [if_neg h, if_neg h]; trivial
def addSP (x y : Str) : P Str := if x.length + y.length ≤ sizeLine then ok (x ++ y) else stop
theorem o_addS {x y : Str} : OpS (binD .add (.str x) (.str y)) (addSP x y) fun r => .v (eS r) := by
  refine ⟨?_⟩
  show OpD (if x.length + y.length ≤ sizeLine then _ else _) _ _
  unfold addSP
  by_cases h : x.length + y.length ≤ sizeLine
  · rw [if_pos h, if_pos h]; rfl
  · rw [if_neg h, if_neg h]; trivial
def repP (xs : List α) (k : Int) : P (List α) := if repOk xs.length k = true then ok (List.replicate k.toNat xs).flatten else stop
theorem o_rep {xs : List α} {k : Int} : OpS (binD .mul (.list (xs.map e)) (.int k)) (repP xs k) fun r => .m (.l (r.map e)) := by
  refine ⟨?_⟩
  show OpD (if repOk (xs.map e).length k = true then _ else _) _ _
  unfold repP
  rw [List.length_map]
  by_cases h : repOk xs.length k = true
  · rw [if_pos h, if_pos h]
    show _ = some (Val.m (.l ((List.replicate k.toNat xs).flatten.map e)))
    rw [List.map_flatten, List.map_replicate]
  · rw [if_neg h, if_neg h]; trivial
theorem atI_map (xs : List α) (i : Int) : atI (xs.map e) i = (atI xs i).map e := by
  unfold atI
  rw [List.length_map]
  rcases ixN xs.length i with _ | j
  · rfl
  · exact List.getElem?_map
def atP (xs : List α) (i : Int) : P α := lf (atI xs i)
theorem o_atL {xs : List α} {i : Int} : OpS ((idxD (.list (xs.map e)) (.int i)).map .v) (atP xs i) fun r => .v (e r) := by
  refine ⟨?_⟩
  show OpD ((atI (xs.map e) i).map _) _ _
  rw [atI_map]
  unfold atP
  rcases atI xs i with _ | x
  · trivial
  · rfl
theorem o_atT {xs : List α} {i : Int} : OpS ((idxD (.tuple (xs.map e)) (.int i)).map .v) (atP xs i) fun r => .v (e r) := by
  refine ⟨?_⟩
  show OpD ((atI (xs.map e) i).map _) _ _
  rw [atI_map]
  unfold atP
  rcases atI xs i with _ | x
  · trivial
  · rfl
theorem l_len {xs : List α} : lenD (.list (xs.map e)) = some (.int xs.length) := by
  show some (PyData.int ((xs.map e).length : Nat)) = _
  rw [List.length_map]
theorem t_len {xs : List α} : lenD (.tuple (xs.map e)) = some (.int xs.length) := by
  show some (PyData.int ((xs.map e).length : Nat)) = _
  rw [List.length_map]
theorem b_lenL {xs : List α} : b1D .len (.list (xs.map e)) = some (.v (.int xs.length)) := by
  show (lenD (.list (xs.map e))).map Val.v = _
  rw [l_len]
  rfl
theorem b_lenT {xs : List α} : b1D .len (.tuple (xs.map e)) = some (.v (.int xs.length)) := by
  show (lenD (.tuple (xs.map e))).map Val.v = _
  rw [t_len]
  rfl
theorem tr_list {xs : List α} : truth (.list (xs.map e)) = some (!xs.isEmpty) := by
  show some (!(xs.map e).isEmpty) = _
  rw [List.isEmpty_map]
theorem tr_tup {xs : List α} : truth (.tuple (xs.map e)) = some (!xs.isEmpty) := by
  show some (!(xs.map e).isEmpty) = _
  rw [List.isEmpty_map]
theorem ints_map : ∀ ns : List Int, intsD (ns.map eI) = some ns
  | [] => rfl
  | n :: ns => by
    show (intsD (ns.map eI)).map _ = _
    rw [ints_map ns]
    rfl
theorem bools_map : ∀ ns : List Bool, boolsD (ns.map eB) = some ns
  | [] => rfl
  | n :: ns => by
    show (boolsD (ns.map eB)).map _ = _
    rw [bools_map ns]
    rfl
theorem pairs_map : ∀ ns : List (Int × Int), pairsD (ns.map (eP eI eI)) = some ns
  | [] => rfl
  | n :: ns => by
    show (pairsD (ns.map (eP eI eI))).map _ = _
    rw [pairs_map ns]
    rfl
theorem b_sum {xs : List Int} : b1D .sum (.list (xs.map eI)) = some (.v (.int xs.sum)) := by
  show (intsD (xs.map eI)).map _ = _
  rw [ints_map]
  rfl
def maxP (xs : List Int) : P Int := lf (maxL xs)
def minP (xs : List Int) : P Int := lf (minL xs)
theorem o_max {xs : List Int} : OpS (b1D .max (.list (xs.map eI))) (maxP xs) fun r => .v (eI r) := by
  refine ⟨?_⟩
  show OpD (((intsD (xs.map eI)).bind maxL).map _) _ _
  rw [ints_map]
  show OpD ((maxL xs).map _) (lf (maxL xs)) _
  rcases maxL xs with _ | x
  · trivial
  · rfl
theorem o_min {xs : List Int} : OpS (b1D .min (.list (xs.map eI))) (minP xs) fun r => .v (eI r) := by
  refine ⟨?_⟩
  show OpD (((intsD (xs.map eI)).bind minL).map _) _ _
  rw [ints_map]
  show OpD ((minL xs).map _) (lf (minL xs)) _
  rcases minL xs with _ | x
  · trivial
  · rfl
theorem b_all {xs : List Bool} : b1D .all (.list (xs.map eB)) = some (.v (.bool (xs.all id))) := by
  show (boolsD (xs.map eB)).map _ = _
  rw [bools_map]
  rfl
theorem b_any {xs : List Bool} : b1D .any (.list (xs.map eB)) = some (.v (.bool (xs.any id))) := by
  show (boolsD (xs.map eB)).map _ = _
  rw [bools_map]
  rfl
theorem b_sortI {xs : List Int} : b1D .sorted (.list (xs.map eI)) = some (.m (.l ((sortI xs).map eI))) := by
  show (match intsD (xs.map eI) with
    | some ns => some (Val.m (.l ((sortI ns).map .int)))
    | none => match pairsD (xs.map eI) with
      | some ps => some (Val.m (.l ((sortP ps).map prD)))
      | none => if (xs.map eI).length ≤ 1 then some (Val.m (.l (xs.map eI))) else none) = _
  rw [ints_map]
theorem b_sortP {xs : List (Int × Int)} : b1D .sorted (.list (xs.map (eP eI eI))) = some (.m (.l ((sortP xs).map (eP eI eI)))) := by
  show (match intsD (xs.map (eP eI eI)) with
    | some ns => some (Val.m (.l ((sortI ns).map .int)))
    | none => match pairsD (xs.map (eP eI eI)) with
      | some ps => some (Val.m (.l ((sortP ps).map prD)))
      | none => if (xs.map (eP eI eI)).length ≤ 1 then some (Val.m (.l (xs.map (eP eI eI)))) else none) = _
  cases xs with
  | nil => rfl
  | cons x xs =>
    have h : intsD ((x :: xs).map (eP eI eI)) = none := rfl
    rw [h, pairs_map]
    rfl
def reprP (d : D) : P Str :=
  match b1D .repr d with
  | some (.v (.str s)) => ok s
  | _ => stop
theorem o_repr {d : D} : OpS (b1D .repr d) (reprP d) fun s => .v (eS s) := by
  refine ⟨?_⟩
  unfold reprP
  split
  · rename_i s h
    exact h
  · trivial
def strP (d : D) : P Str :=
  match b1D .str d with
  | some (.v (.str s)) => ok s
  | _ => stop
theorem o_str {d : D} : OpS (b1D .str d) (strP d) fun s => .v (eS s) := by
  refine ⟨?_⟩
  unfold strP
  split
  · rename_i s h
    exact h
  · trivial
def cutA (xs : List α) (lo hi : Option Int) : List α := (xs.drop (HT.sIx xs.length 0 lo)).take (HT.sIx xs.length xs.length hi - HT.sIx xs.length 0 lo)
theorem cut_map (xs : List α) (lo hi : Option Int) : cutD (xs.map e) lo hi = (cutA xs lo hi).map e := by
  unfold cutD cutA
  rw [List.length_map, List.map_take, List.map_drop]
theorem l_slc {xs : List α} {lo hi : Option Int} : slcD (.list (xs.map e)) lo hi = some (.m (.l ((cutA xs lo hi).map e))) := by
  show some (Val.m (.l (cutD (xs.map e) lo hi))) = _
  rw [cut_map]
theorem t_slc {xs : List α} {lo hi : Option Int} : slcD (.tuple (xs.map e)) lo hi = some (.v (.tuple ((cutA xs lo hi).map e))) := by
  show some (Val.v (.tuple (cutD (xs.map e) lo hi))) = _
  rw [cut_map]
theorem zipL_map : ∀ (xs : List α) (ys : List β), zipL (xs.map e) (ys.map e2) = (xs.zip ys).map (eP e e2)
  | [], _ => by cases ‹List β› <;> rfl
  | _ :: _, [] => rfl
  | x :: xs, y :: ys => by
    show PyData.tuple [e x, e2 y] :: zipL (xs.map e) (ys.map e2) = _
    rw [zipL_map xs ys]
    rfl
theorem l_zip {xs : List α} {ys : List β} : zipD (.list (xs.map e)) (.list (ys.map e2)) = some ((xs.zip ys).map (eP e e2)) := by
  show some (zipL (xs.map e) (ys.map e2)) = _
  rw [zipL_map]
theorem t_zip {xs : List α} {ys : List β} : zipD (.tuple (xs.map e)) (.tuple (ys.map e2)) = some ((xs.zip ys).map (eP e e2)) := by
  show some (zipL (xs.map e) (ys.map e2)) = _
  rw [zipL_map]
def enumI : Nat → List α → List (Int × α)
  | _, [] => []
  | i, x :: xs => ((i : Nat), x) :: enumI (i + 1) xs
theorem enuL_map : ∀ (i : Nat) (xs : List α), enuL i (xs.map e) = (enumI i xs).map (eP eI e)
  | _, [] => rfl
  | i, x :: xs => by
    show PyData.tuple [.int (i : Nat), e x] :: enuL (i + 1) (xs.map e) = _
    rw [enuL_map (i + 1) xs]
    rfl
theorem l_enu {xs : List α} : enuD (.list (xs.map e)) = some ((enumI 0 xs).map (eP eI e)) := by
  show some (enuL 0 (xs.map e)) = _
  rw [enuL_map]
theorem t_enu {xs : List α} : enuD (.tuple (xs.map e)) = some ((enumI 0 xs).map (eP eI e)) := by
  show some (enuL 0 (xs.map e)) = _
  rw [enuL_map]
def mxI (i j : Int) : Int := if j > i then j else i
def mnI (i j : Int) : Int := if j < i then j else i
/-- pairs, as Python compares them -/
def ltP (x y : Int × Int) : Bool := if x.1 = y.1 then decide (x.2 < y.2) else decide (x.1 < y.1)
theorem c_ltP (x y : Int × Int) : cmpD .lt (eP eI eI x) (eP eI eI y) = some (ltP x y) := by
  show some (HT.lexLt [x.1, x.2] [y.1, y.2]) = _
  unfold ltP
  show some (if x.1 = y.1 then (if x.2 = y.2 then false else decide (x.2 < y.2)) else decide (x.1 < y.1)) = _
  by_cases h : x.1 = y.1
  · rw [if_pos h, if_pos h]
    by_cases h2 : x.2 = y.2
    · rw [if_pos h2, decide_eq_false (by omega)]
    · rw [if_neg h2]
  · rw [if_neg h, if_neg h]
theorem c_ltT (x y : List Int) : cmpD .lt (eT eI x) (eT eI y) = some (HT.lexLt x y) := by
  show ((intsD (x.map eI)).bind fun ns => (intsD (y.map eI)).map fun ms => HT.lexLt ns ms) = _
  rw [ints_map, ints_map]
  rfl
class NN (e : α → D) : Prop where
  nn : ∀ x, isNone (e x) = false
instance : NN eI := ⟨fun _ => rfl⟩
instance : NN eB := ⟨fun _ => rfl⟩
instance : NN eS := ⟨fun _ => rfl⟩
instance {e : α → D} : NN (eL e) := ⟨fun _ => rfl⟩
instance {e : α → D} : NN (eT e) := ⟨fun _ => rfl⟩
instance {e : α → D} {e2 : β → D} : NN (eP e e2) := ⟨fun _ => rfl⟩
instance {e : α → D} {e2 : β → D} {e3 : γ → D} : NN (eP3 e e2 e3) := ⟨fun _ => rfl⟩
theorem c_isN [h : NN e] (x : Option α) : cmpD .isN (eO e x) .none = some x.isNone := by
  have : cmpD .isN (eO e x) .none = some (isNone (eO e x)) := by
    rcases eO e x with _ | _ | _ | _ | _ | _ | _ <;> rfl
  rw [this]
  cases x with
  | none => rfl
  | some x => exact congrArg some (h.nn x)
theorem c_notN [h : NN e] (x : Option α) : cmpD .notN (eO e x) .none = some x.isSome := by
  have : cmpD .notN (eO e x) .none = some (!isNone (eO e x)) := by
    rcases eO e x with _ | _ | _ | _ | _ | _ | _ <;> rfl
  rw [this]
  cases x with
  | none => rfl
  | some x => 
    show some (!isNone (e x)) = _
    rw [h.nn x]
    rfl
def unP (o : Option α) : P α := lf o
/-! open data -/
def cmpP (o : COp) (x y : D) : P Bool := lf (cmpD o x y)
theorem o_cmpD {o : COp} {x y : D} : OpS ((cmpD o x y).map fun b => .v (.bool b)) (cmpP o x y) fun b => .v (eB b) := by
  refine ⟨?_⟩
  unfold cmpP
  rcases cmpD o x y with _ | b
  · trivial
  · rfl
def idxP (x y : D) : P D := lf (idxD x y)
theorem o_idxD {x y : D} : OpS ((idxD x y).map .v) (idxP x y) fun d => .v (eD d) := by
  refine ⟨?_⟩
  unfold idxP
  rcases idxD x y with _ | b
  · trivial
  · rfl
def lenP (x : D) : P Int :=
  match lenD x with
  | some (.int i) => ok i
  | _ => stop
theorem o_lenD {x : D} : OpS (b1D .len x) (lenP x) fun i => .v (eI i) := by
  refine ⟨?_⟩
  show OpD ((lenD x).map _) _ _
  unfold lenP
  split
  · rename_i i h
    rw [h]
    rfl
  · trivial
end
section
variable {ω ρ α β : Type} [Inj ω] {N : Sg → Prop} {Φ : ρ → ω → Sg → Prop} {Γ : Call} {cs : List (PySem.Str × D)} {g : Sg}
/-- a value that may not be there, read where it is -/
theorem s_un {K : Val → Sg → Option (ω × Sg)} {c : C} {e : α → D} {o : Option α} {k : α → P ρ} (h : ev Γ cs c g = some (.ok (.v (eO e o)), g)) (hk : ∀ x, Sim N (K (.v (e x)) g) (k x) Φ) : Sim N (bg (ev Γ cs c g) K) (bd (unP o) k) Φ := by
  rw [h]
  cases o with
  | none => exact ⟨trivial⟩
  | some x => exact hk x
def seqP (d : D) : P (List D) := lf (seqD d)
theorem f_seqD {K : List D → Sg → Option (ω × Sg)} {d : D} {k : List D → P ρ} (hk : ∀ xs : List D, Sim N (K xs g) (k xs) Φ) : Sim N (kSeq' K (.v d) g) (bd (seqP d) k) Φ := by
  unfold kSeq' seqP
  show Sim N (match seqD d with
  | some ds => K ds g
  | none => none) _ _
  rcases seqD d with _ | ds
  · exact ⟨trivial⟩
  · exact hk ds
theorem mapD (xs : List D) : xs.map eD = xs := List.map_id _
theorem f_seqDm {K : List D → Sg → Option (ω × Sg)} {d : D} {k : List D → P ρ} (hk : ∀ xs : List D, Sim N (K (List.map eD xs) g) (k xs) Φ) : Sim N (kSeq' K (.v d) g) (bd (seqP d) k) Φ :=
  f_seqD fun xs => by
    have := hk xs
    rwa [mapD] at this
def enumP (d : D) : P (List (Int × D)) := lf ((seqD d).map (enumI 0))
theorem f_enuD {K : List D → Sg → Option (ω × Sg)} {d : D} {k : List (Int × D) → P ρ} (hk : ∀ xs : List (Int × D), Sim N (K (List.map (eP eI eD) xs) g) (k xs) Φ) : Sim N (kEnu' K (.v d) g) (bd (enumP d) k) Φ := by
  unfold kEnu' enumP enuD
  show Sim N (match (seqD d).map (enuL 0) with
  | some ds => K ds g
  | none => none) _ _
  rcases seqD d with _ | ds
  · exact ⟨trivial⟩
  · have := hk (enumI 0 ds)
    rw [← enuL_map, mapD] at this
    exact this
theorem f_o {M : P ρ} {K : Option Int → Sg → Option (ω × Sg)} {i : Int} (h : Sim N (K (some i) g) M Φ) : Sim N (kO' K (.v (.int i)) g) M Φ := h
theorem f_neg {M : P ρ} {K : Val → Sg → Option (ω × Sg)} {i : Int} (h : Sim N (K (.v (.int (-i))) g) M Φ) : Sim N (kNeg' K (.v (.int i)) g) M Φ := h
theorem f_not {M : P ρ} {K : Val → Sg → Option (ω × Sg)} {v : Val} {t : Bool} (ht : truth v.toD = some t) (h : Sim N (K (.v (.bool (!t))) g) M Φ) : Sim N (kNot' K v g) M Φ := by
  unfold kNot'
  rw [ht]
  exact h
end
section
variable {ρ α σ : Type} {N : Sg → Prop} {Γ : Call} {cs : List (PySem.Str × D)} {fu : Nat} {g : Sg} {Φ : ρ → Fl → Sg → Prop} {K : Sg → RS} {r : Ss} {G : σ → Sg}
/-- a value gets a name and a slot -/
theorem f_GL {i : Nat} {own : Bool} {V : α → Val} {a : α} {k : α → P ρ} {g' : α → Sg} (h : ∀ x, setG g i (slOf own (V x)) = some (g' x)) (hk : ∀ x, Sim N (seq (evSs Γ cs fu r (g' x)) K) (k x) Φ) : Sim N (kG Γ cs fu r K (setG g i (slOf own (V a)))) (bd (ok a) k) Φ := f_G (h a) (hk a)
theorem f_GLt {t : Tg} {V : α → Val} {a : α} {k : α → P ρ} {g' : α → Sg} (h : ∀ x, asg t (V x).toD g = some (g' x)) (hk : ∀ x, Sim N (seq (evSs Γ cs fu r (g' x)) K) (k x) Φ) : Sim N (kG Γ cs fu r K (asg t (V a).toD g)) (bd (ok a) k) Φ := f_G (h a) (hk a)
theorem fin_ft {s : σ} (h : g = G s) : Sim N (some (.nx, g)) (ok s) (Ft G) := s_done ⟨rfl, h⟩
theorem fin_tn {s : σ} (h : g = G s) : Sim N (some (.nx, g)) (ok s) (Tn G) := s_done ⟨.inl rfl, h⟩
theorem fin_tnc {s : σ} (h : g = G s) : Sim N (some (.ct, g)) (ok s) (Tn G) := s_done ⟨.inr rfl, h⟩
theorem fin_go {s : σ} (h : g = G s) : Sim N (some (.nx, g)) (ok (.go s)) (TnR Φ G) := s_done ⟨.inl rfl, h⟩
theorem fin_goc {s : σ} (h : g = G s) : Sim N (some (.ct, g)) (ok (.go s)) (TnR Φ G) := s_done ⟨.inr rfl, h⟩
theorem fin_br {s : σ} (h : g = G s) : Sim N (some (.bk, g)) (ok (.br s)) (TnR Φ G) := s_done ⟨rfl, h⟩
theorem fin_lgo {s : σ} (h : g = G s) : Sim N (some (.nx, g)) (ok (.go s)) (LpR Φ G) := s_done ⟨rfl, h⟩
theorem rt_tn {x : ρ} {v : Val} (h : Φ x (.rt v) g) : TnR Φ G (.rt x) (.rt v) g := ⟨⟨v, rfl⟩, h⟩
theorem rt_lp {x : ρ} {v : Val} (h : Φ x (.rt v) g) : LpR Φ G (.rt x) (.rt v) g := ⟨⟨v, rfl⟩, h⟩
theorem rt_fn {as : List Arg} {ψ : ρ → Val × List (Option Z.M)} {x : ρ} {v : Val} (hv : v = (ψ x).1) (h : outM as g = some (ψ x).2) : Fn as ψ x (.rt v) g := ⟨.inl (by rw [hv]), h⟩
theorem fin_fn {as : List Arg} {ψ : ρ → Val × List (Option Z.M)} {x : ρ} (hv : (ψ x).1 = .v .none) (h : outM as g = some (ψ x).2) : Sim N (some (.nx, g)) (ok x) (Fn as ψ) := s_done ⟨.inr ⟨rfl, hv⟩, h⟩
theorem fin_hd {β : Type} {φ : β → Val × Sg} {x : β} {v : Val} (hv : v = (φ x).1) (h : g = (φ x).2) : Sim N (some (Out.ok v, g)) (ok x) (Hd φ) := s_done ⟨by rw [hv], h⟩
theorem fin_tr {t : Bool} : Sim N (some (Out.ok t, g)) (ok t) (fun t w g' => w = .ok t ∧ g' = g) := s_done ⟨rfl, rfl⟩
end
end Z

/-! ZW: comprehensions of two. -/
namespace Z
open PySem (PyData)
section
variable {ω ρ α β γ : Type} [Inj ω] {N : Sg → Prop} {Φ : ρ → ω → Sg → Prop} {Γ : Call} {cs : List (PySem.Str × D)} {g : Sg} {M : P ρ}
theorem s_frzE {K : Val → Sg → Option (ω × Sg)} {a : C} (h : Sim N (bg (ev Γ cs a g) fun x g => K (.v x.toD) g) M Φ) : Sim N (bg (ev Γ cs (.frz a) g) K) M Φ := by
  show Sim N (bg (bnd _ _) K) M Φ
  simp only [bg_bnd]
  exact h
def srcB (Γ : Call) (cs : List (PySem.Str × D)) (q : Co) (s1 : Sr) (g : Sg) : R (List D) := bnd (evq Γ cs q g) fun b g => if b then evr Γ cs s1 g else ret [] g
def c2Body (Γ : Call) (cs : List (PySem.Str × D)) (t : Tg) (q : Co) (s1 : Sr) (own1 : List Nat) (t1 : Tg) (q1 : Co) (e : C) (acc : List D) (d : D) (g : Sg) : R (List D) :=
  (asg t d g).bind fun g => bnd (evq Γ cs q g) fun b g => if b then bnd (evr Γ cs s1 g) fun ys g => compGo own1 (cBody Γ cs t1 q1 e) acc ys g else ret acc g
def kComp2 (Γ : Call) (cs : List (PySem.Str × D)) (e : C) (t : Tg) (q : Co) (t1 : Tg) (s1 : Sr) (q1 : Co) (own own1 : List Nat) (K : Val → Sg → Option (ω × Sg)) (xs : List D) (g : Sg) : Option (ω × Sg) :=
  if (own.all fun i => plainSl (g.getD i .no)) = true then
    match compGo2 own (c2Body Γ cs t q s1 own1 t1 q1 e) [] xs g with
    | some (.ok ds, g') => K (.m (.l ds)) (restG g g' own)
    | _ => none
  else none
theorem s_comp2 {K : Val → Sg → Option (ω × Sg)} {e : C} {t t1 : Tg} {s s1 : Sr} {q q1 : Co} {own own1 : List Nat} (h : Sim N (bg (evr Γ cs s g) (kComp2 Γ cs e t q t1 s1 q1 own own1 K)) M Φ) : Sim N (bg (ev Γ cs (.comp2 e t s q t1 s1 q1 own own1) g) K) M Φ := by
  show Sim N (bg (bnd _ _) K) M Φ
  rw [bg_bnd]
  refine s_congr h fun xs g => ?_
  unfold kComp2
  rw [bg_ite]
  show _ = (if (own.all fun i => plainSl (g.getD i .no)) = true then
    match compGo2 own (c2Body Γ cs t q s1 own1 t1 q1 e) [] xs g with
    | some (.ok ds, g') => K (.m (.l ds)) (restG g g' own)
    | _ => none
    else none)
  congr 1
  show bg (match compGo2 own (c2Body Γ cs t q s1 own1 t1 q1 e) [] xs g with
      | some (.ok ds, g') => ret (Val.m (.l ds)) (restG g g' own)
      | _ => none) K = _
  rcases compGo2 own (c2Body Γ cs t q s1 own1 t1 q1 e) [] xs g with _ | ⟨ds | x, g'⟩ <;> rfl
theorem c2_src {t t1 : Tg} {s1 : Sr} {q q1 : Co} {own1 : List Nat} {e : C} {acc : List D} {d : D} {g1 : Sg} (h : asg t d g = some g1) :
    c2Body Γ cs t q s1 own1 t1 q1 e acc d g = bnd (srcB Γ cs q s1 g1) fun ys g => compGo own1 (cBody Γ cs t1 q1 e) acc ys g := by
  unfold c2Body srcB
  rw [h]
  show bnd (evq Γ cs q g1) _ = _
  rcases evq Γ cs q g1 with _ | ⟨b | x, g2⟩
  · rfl
  · cases b with
    | true => rfl
    | false =>
      show ret acc g2 = compGo own1 (cBody Γ cs t1 q1 e) acc [] g2
      unfold compGo
      rfl
  · rfl
def comp2P (src : α → P (List β)) (f : α → β → P (Option γ)) : List γ → List α → P (List γ)
  | acc, [] => ok acc
  | acc, x :: xs => bd (nx (bd (src x) fun ys => mapP (f x) acc ys)) fun acc => comp2P src f acc xs
theorem mapP_nox {f : α → P (Option β)} {x : Exc} : ∀ {xs : List α} {acc : List β}, mapP f acc xs = some (.ex x) → False
  | [], _, h => by cases h
  | y :: ys, acc, h => by
    unfold mapP at h
    generalize f y = m at h
    rcases m with _ | o | z
    · cases h
    · simp only [bd, nx] at h
      split at h
      · exact mapP_nox h
      · cases h
    · cases h
theorem comp2P_nox {src : α → P (List β)} {f : α → β → P (Option γ)} {x : Exc} : ∀ {xs : List α} {acc : List γ}, comp2P src f acc xs = some (.ex x) → False
  | [], _, h => by cases h
  | y :: ys, acc, h => by
    unfold comp2P at h
    generalize (bd (src y) fun ys => mapP (f y) acc ys) = m at h
    rcases m with _ | o | z
    · cases h
    · exact comp2P_nox (xs := ys) (acc := o) h
    · cases h
theorem wipe_sub2 {g g' : Sg} {own own1 : List Nat} (hs : own1.all own.contains = true) (h : wipeG g own1 = wipeG g' own1) : wipeG g own = wipeG g' own := by
  have key : ∀ g : Sg, wipeG (wipeG g own1) own = wipeG g own := by
    intro g
    refine List.ext_getElem? fun j => ?_
    rw [wipeG_at, wipeG_at, wipeG_at, wipeG_len]
    by_cases l : j < g.length
    · by_cases m : j ∈ own
      · rw [if_pos ⟨m, l⟩, if_pos ⟨m, l⟩]
      · rw [if_neg (fun z => m z.1), if_neg (fun z => m (by
          have := List.all_eq_true.mp hs j z.1
          simpa using this)), if_neg (fun z => m z.1)]
    · rw [if_neg (fun z => l z.2), if_neg (fun z => l z.2), if_neg (fun z => l z.2)]
  rw [← key g, h, key g']
theorem comp2_go {own own1 : List Nat} {t t1 : Tg} {s1 : Sr} {q q1 : Co} {e : C} {src : α → P (List β)} {f : α → β → P (Option γ)} {E : α → D} {E1 : β → D} {e' : γ → D} {G : α → Sg} {g0 : Sg}
    (ha : ∀ y, asg t (E y) (wipeG g0 own) = some (G y)) (hsrc : ∀ y, Sim N (srcB Γ cs q s1 (G y)) (src y) fun ys w g' => w = .ok (ys.map E1) ∧ g' = G y)
    (hb : ∀ y z, Sim N (cBody Γ cs t1 q1 e (E1 z) (wipeG (G y) own1)) (f y z) fun o w g' => w = .ok (o.map e') ∧ wipeG g' own1 = wipeG (G y) own1)
    (hw : ∀ y, wipeG (G y) own = wipeG g0 own) (hs : own1.all own.contains = true) :
    ∀ (xs : List α) (acc : List γ) (g : Sg), wipeG g own = wipeG g0 own → Sim N (compGo2 own (c2Body Γ cs t q s1 own1 t1 q1 e) (acc.map e') (xs.map E) g) (comp2P src f acc xs) fun o w g' => w = .ok (o.map e') ∧ wipeG g' own = wipeG g0 own
  | [], acc, g, h => ⟨_, g, rfl, rfl, h⟩
  | x :: xs, acc, g, h => by
    rw [List.map_cons]
    unfold compGo2 comp2P
    rw [h, c2_src (ha x)]
    have h1 := hsrc x
    generalize src x = m at h1 ⊢
    rcases m with _ | ys | z
    · exact ⟨trivial⟩
    · obtain ⟨w, g1, e1, rfl, rfl⟩ := h1
      rw [e1]
      show Sim N (match compGo own1 (cBody Γ cs t1 q1 e) (acc.map e') (ys.map E1) (G x) with
        | some (.ok acc, g) => compGo2 own (c2Body Γ cs t q s1 own1 t1 q1 e) acc (xs.map E) g
        | _ => none) (bd (nx (mapP (f x) acc ys)) fun acc => comp2P src f acc xs) _
      have h2 := map_go (N := N) (own := own1) (F := cBody Γ cs t1 q1 e) (f := f x) (E := E1) (e' := e') (g0 := G x) (fun y g hg => by rw [hg]; exact hb x y) ys acc (G x) rfl
      have hn : ∀ z, mapP (f x) acc ys = some (.ex z) → False := fun z => mapP_nox
      generalize mapP (f x) acc ys = m at h2 hn ⊢
      rcases m with _ | acc' | z
      · exact ⟨trivial⟩
      · obtain ⟨w, g2, e2, rfl, e3⟩ := h2
        rw [e2]
        exact comp2_go ha hsrc hb hw hs xs acc' g2 ((wipe_sub2 hs e3).trans (hw x))
      · exact (hn z rfl).elim
    · exact ⟨trivial⟩
theorem f_comp2 {K : Val → Sg → Option (ω × Sg)} {own own1 : List Nat} {t t1 : Tg} {s1 : Sr} {q q1 : Co} {e : C} {src : α → P (List β)} {f : α → β → P (Option γ)} {E : α → D} {E1 : β → D} {e' : γ → D} {G : α → Sg} {xs : List α} {k : List γ → P ρ}
    (hown : (own.all fun i => plainSl (g.getD i .no)) = true) (hs : own1.all own.contains = true) (ha : ∀ y, asg t (E y) (wipeG g own) = some (G y)) (hsrc : ∀ y, Sim N (srcB Γ cs q s1 (G y)) (src y) fun ys w g' => w = .ok (ys.map E1) ∧ g' = G y)
    (hb : ∀ y z, Sim N (cBody Γ cs t1 q1 e (E1 z) (wipeG (G y) own1)) (f y z) fun o w g' => w = .ok (o.map e') ∧ wipeG g' own1 = wipeG (G y) own1)
    (hw : ∀ y, wipeG (G y) own = wipeG g own) (hr : restG g g own = g) (hk : ∀ z : List γ, Sim N (K (.m (.l (z.map e'))) g) (k z) Φ) :
    Sim N (kComp2 Γ cs e t q t1 s1 q1 own own1 K (xs.map E) g) (bd (comp2P src f [] xs) k) Φ := by
  unfold kComp2
  rw [if_pos hown]
  have h := comp2_go (N := N) ha hsrc hb hw hs xs [] g rfl
  have hn : ∀ z, comp2P src f [] xs = some (.ex z) → False := fun z => comp2P_nox
  rw [List.map_nil] at h
  generalize comp2P src f [] xs = m at h hn ⊢
  rcases m with _ | z | x
  · exact ⟨trivial⟩
  · obtain ⟨w, g', e1, rfl, e2⟩ := h
    rw [e1]
    show Sim N (K (.m (.l (z.map e'))) (restG g g' own)) (k z) Φ
    rw [restG_of e2, hr]
    exact hk z
  · exact (hn x rfl).elim
theorem s_qs_non {s1 : Sr} {Ψ : ρ → Out (List D) → Sg → Prop} (h : Sim N (bg (evr Γ cs s1 g) fun ys g => some (.ok ys, g)) M Ψ) : Sim N (srcB Γ cs .non s1 g) M Ψ := by
  have e : srcB Γ cs .non s1 g = bg (evr Γ cs s1 g) fun ys g => some (Out.ok ys, g) := by
    show evr Γ cs s1 g = _
    rcases evr Γ cs s1 g with _ | ⟨a | x, g⟩ <;> rfl
  rw [e]
  exact h
def kQS (Γ : Call) (cs : List (PySem.Str × D)) (s1 : Sr) (x : Val) (g : Sg) : R (List D) :=
  match truth x.toD with
  | some true => bg (evr Γ cs s1 g) fun ys g => some (.ok ys, g)
  | some false => some (.ok [], g)
  | none => none
theorem s_qs_som {a : C} {s1 : Sr} {Ψ : ρ → Out (List D) → Sg → Prop} (h : Sim N (bg (ev Γ cs a g) (kQS Γ cs s1)) M Ψ) : Sim N (srcB Γ cs (.som a) s1 g) M Ψ := by
  show Sim N (bnd (bnd (ev Γ cs a g) _) _) M Ψ
  rw [bnd_bg, bg_bnd]
  refine s_congr h fun x g => ?_
  unfold kQS
  rcases truth x.toD with _ | p
  · rfl
  · cases p
    · rfl
    · show evr Γ cs s1 g = _
      rcases evr Γ cs s1 g with _ | ⟨a | x, g⟩ <;> rfl
theorem f_qs {v : Val} {p : Bool} {s1 : Sr} {m : P (List β)} {Ψ : List β → Out (List D) → Sg → Prop} (ht : truth v.toD = some p) (h : Sim N (bg (evr Γ cs s1 g) fun ys g => some (.ok ys, g)) m Ψ) (hz : Ψ [] (.ok []) g) : Sim N (kQS Γ cs s1 v g) (if p = true then m else ok []) Ψ := by
  unfold kQS
  rw [ht]
  cases p with
  | true => exact h
  | false => exact s_done hz
/-- all that is total -/
def flatT (src : α → List β) (p : α → β → Bool) (h : α → β → γ) (xs : List α) : P (List γ) := if (xs.flatMap src).length ≤ PySem.sizeLine then ok (xs.flatMap fun x => ((src x).filter (p x)).map (h x)) else stop
theorem flat_go {own own1 : List Nat} {t t1 : Tg} {s1 : Sr} {q1 : Co} {e : C} {src : α → List β} {p : α → β → Bool} {h : α → β → γ} {E : α → D} {E1 : β → D} {e' : γ → D} {G : α → Sg} {g0 : Sg}
    (ha : ∀ y, asg t (E y) (wipeG g0 own) = some (G y)) (hsrc : ∀ y, evr Γ cs s1 (G y) = some (.ok ((src y).map E1), G y))
    (hb : ∀ y z, ∃ g', cBody Γ cs t1 q1 e (E1 z) (wipeG (G y) own1) = some (.ok (if p y z = true then some (e' (h y z)) else none), g') ∧ wipeG g' own1 = wipeG (G y) own1)
    (hw : ∀ y, wipeG (G y) own = wipeG g0 own) (hs : own1.all own.contains = true) :
    ∀ (xs : List α) (acc : List D) (g : Sg), wipeG g own = wipeG g0 own → acc.length + (xs.flatMap src).length ≤ PySem.sizeLine → ∃ g', compGo2 own (c2Body Γ cs t .non s1 own1 t1 q1 e) acc (xs.map E) g = some (.ok (acc ++ (xs.flatMap fun x => ((src x).filter (p x)).map (h x)).map e'), g') ∧ wipeG g' own = wipeG g0 own
  | [], acc, g, hg, _ => ⟨g, by show _ = some (Out.ok (acc ++ []), g); rw [List.append_nil]; rfl, hg⟩
  | x :: xs, acc, g, hg, l => by
    rw [List.flatMap_cons, List.length_append] at l
    rw [List.map_cons]
    unfold compGo2
    rw [hg, c2_src (ha x)]
    have e1 : srcB Γ cs .non s1 (G x) = some (.ok ((src x).map E1), G x) := hsrc x
    rw [e1]
    show ∃ g', (match compGo own1 (cBody Γ cs t1 q1 e) acc ((src x).map E1) (G x) with
        | some (.ok acc, g) => compGo2 own (c2Body Γ cs t .non s1 own1 t1 q1 e) acc (xs.map E) g
        | _ => none) = _ ∧ _
    obtain ⟨g2, e2, e3⟩ := fil_go (own := own1) (F := cBody Γ cs t1 q1 e) (p := p x) (h := h x) (E := E1) (e' := e') (g0 := G x) (hb x) (src x) acc (G x) rfl (by omega)
    rw [e2]
    have ln : (((src x).filter (p x)).map (h x)).length ≤ (src x).length := by
      rw [List.length_map]
      exact List.length_filter_le _ _
    obtain ⟨g3, e4, e5⟩ := flat_go ha hsrc hb hw hs xs (acc ++ (((src x).filter (p x)).map (h x)).map e') g2 ((wipe_sub2 hs e3).trans (hw x)) (by rw [List.length_append, List.length_map]; omega)
    refine ⟨g3, ?_, e5⟩
    show compGo2 own (c2Body Γ cs t .non s1 own1 t1 q1 e) _ (xs.map E) g2 = _
    rw [e4, List.flatMap_cons, List.map_append, List.append_assoc]
theorem f_flatT {K : Val → Sg → Option (ω × Sg)} {own own1 : List Nat} {t t1 : Tg} {s1 : Sr} {q1 : Co} {e : C} {src : α → List β} {p : α → β → Bool} {h : α → β → γ} {E : α → D} {E1 : β → D} {e' : γ → D} {G : α → Sg} {xs : List α} {k : List γ → P ρ}
    (hown : (own.all fun i => plainSl (g.getD i .no)) = true) (hs : own1.all own.contains = true) (ha : ∀ y, asg t (E y) (wipeG g own) = some (G y)) (hsrc : ∀ y, evr Γ cs s1 (G y) = some (.ok ((src y).map E1), G y))
    (hb : ∀ y z, ∃ g', cBody Γ cs t1 q1 e (E1 z) (wipeG (G y) own1) = some (.ok (if p y z = true then some (e' (h y z)) else none), g') ∧ wipeG g' own1 = wipeG (G y) own1)
    (hw : ∀ y, wipeG (G y) own = wipeG g own) (hr : restG g g own = g) (hk : ∀ z : List γ, Sim N (K (.m (.l (z.map e'))) g) (k z) Φ) :
    Sim N (kComp2 Γ cs e t .non t1 s1 q1 own own1 K (xs.map E) g) (bd (flatT src p h xs) k) Φ := by
  unfold kComp2 flatT
  rw [if_pos hown]
  by_cases l : (xs.flatMap src).length ≤ PySem.sizeLine
  · rw [if_pos l]
    obtain ⟨g', e1, e2⟩ := flat_go ha hsrc hb hw hs xs [] g rfl (by show 0 + _ ≤ _; omega)
    rw [e1]
    show Sim N (K (.m (.l ([] ++ _))) (restG g g' own)) (k _) Φ
    rw [restG_of e2, hr, List.nil_append]
    exact hk _
  · rw [if_neg l]
    exact ⟨trivial⟩
theorem cb_some {t : Tg} {e : C} {d : D} {g1 : Sg} {v : Val} (ha : asg t d g = some g1) (he : ev Γ cs e g1 = some (.ok v, g1)) : cBody Γ cs t .non e d g = some (.ok (if true = true then some v.toD else none), g1) := cb_non ha he
end
end Z

/-! ZY: starred parts, pop, extend of typed programs. -/
namespace Z
open PySem (PyData)
section
variable {ω ρ α β : Type} [Inj ω] {N : Sg → Prop} {Φ : ρ → ω → Sg → Prop} {Γ : Call} {cs : List (PySem.Str × D)} {g : Sg} {M : P ρ} {fu : Nat}
def kStar' (Γ : Call) (cs : List (PySem.Str × D)) (es : Cs) (K : List D → Sg → Option (ω × Sg)) (x : Val) (g : Sg) : Option (ω × Sg) :=
  match seqD x.toD with
  | some ds => bg (evs Γ cs es g) fun xs g => K (ds ++ xs) g
  | none => none
theorem s_es_star {K : List D → Sg → Option (ω × Sg)} {e : C} {es : Cs} (h : Sim N (bg (ev Γ cs e g) (kStar' Γ cs es K)) M Φ) : Sim N (bg (evs Γ cs (.star e es) g) K) M Φ := by
  show Sim N (bg (bnd _ _) K) M Φ
  rw [bg_bnd]
  refine s_congr h fun x g => ?_
  unfold kStar'
  rcases seqD x.toD with _ | ds
  · rfl
  · exact bg_bnd _ _ _
theorem f_star {K : List D → Sg → Option (ω × Sg)} {es : Cs} {x : Val} {ds : List D} (h : seqD x.toD = some ds) (hk : Sim N (bg (evs Γ cs es g) fun xs g => K (ds ++ xs) g) M Φ) : Sim N (kStar' Γ cs es K x g) M Φ := by
  unfold kStar'
  rw [h]
  exact hk
def szP (xs : List α) : P (List α) := if xs.length ≤ PySem.sizeLine then ok xs else stop
theorem f_lstP {K : Val → Sg → Option (ω × Sg)} {ds : List D} {e : α → D} {xs : List α} {k : List α → P ρ} (h : ds = xs.map e) (hk : ∀ l : List α, Sim N (K (.m (.l (l.map e))) g) (k l) Φ) : Sim N (kLst' K ds g) (bd (szP xs) k) Φ := by
  subst h
  unfold kLst' szP
  rw [List.length_map]
  by_cases l : xs.length ≤ PySem.sizeLine
  · rw [if_pos l, if_pos l]
    exact hk xs
  · rw [if_neg l, if_neg l]
    exact ⟨trivial⟩
theorem f_tupP {K : Val → Sg → Option (ω × Sg)} {ds : List D} {e : α → D} {xs : List α} {k : List α → P ρ} (h : ds = xs.map e) (hk : ∀ l : List α, Sim N (K (.v (.tuple (l.map e))) g) (k l) Φ) : Sim N (kTup' K ds g) (bd (szP xs) k) Φ := by
  subst h
  unfold kTup' szP
  rw [List.length_map]
  by_cases l : xs.length ≤ PySem.sizeLine
  · rw [if_pos l, if_pos l]
    exact hk xs
  · rw [if_neg l, if_neg l]
    exact ⟨trivial⟩
/-! pop -/
theorem map_erase (e : α → D) : ∀ (xs : List α) (m : Nat), (xs.map e).eraseIdx m = (xs.eraseIdx m).map e
  | [], _ => rfl
  | _ :: _, 0 => rfl
  | x :: xs, m + 1 => by
    show e x :: (xs.map e).eraseIdx m = e x :: (xs.eraseIdx m).map e
    rw [map_erase e xs m]
def popP (xs : List α) (i : Int) : P (α × List α) := if (decide (-(2 ^ 63) ≤ i) && decide (i < 2 ^ 63)) = true then lf ((L2.ixN xs.length i).bind fun j => (xs[j]?).map fun x => (x, xs.eraseIdx j)) else stop
def kPop' (i : Nat) (K : Val → Sg → Option (ω × Sg)) (x : Val) (g : Sg) : Option (ω × Sg) :=
  match popG g i x.toD with
  | some r => K (.v r.1) r.2
  | none => none
theorem s_pop {K : Val → Sg → Option (ω × Sg)} {i : Nat} {a : C} (hm : isM g i = true) (h : Sim N (bg (ev Γ cs a g) (kPop' i K)) M Φ) : Sim N (bg (ev Γ cs (.pop i a) g) K) M Φ := by
  show Sim N (bg (if isM g i = true then bnd _ _ else none) K) M Φ
  rw [if_pos hm, bg_bnd]
  refine s_congr h fun x g => ?_
  unfold kPop'
  rcases popG g i x.toD with _ | r <;> rfl
theorem f_pop {K : Val → Sg → Option (ω × Sg)} {i : Nat} {e : α → D} {xs : List α} {j : Int} {k : α × List α → P ρ} {g' : List α → Sg} {bo : Bool} (hg : g[i]? = some (if bo = true then .bo (.l (xs.map e)) else .ow (.l (xs.map e)))) (hs : ∀ ys, g.set i (if bo = true then .bo (.l (List.map e ys)) else .ow (.l (List.map e ys))) = g' ys)
    (hk : ∀ r : α × List α, Sim N (K (.v (e r.1)) (g' r.2)) (k r) Φ) : Sim N (kPop' i K (.v (.int j)) g) (bd (popP xs j) k) Φ := by
  have key : popM (.l (xs.map e)) (.int j) = match popP xs j with
      | some (.ok r) => some (e r.1, .l (r.2.map e))
      | _ => none := by
    show (if (decide (-(2 ^ 63) ≤ j) && decide (j < 2 ^ 63)) = true then _ else _) = _
    unfold popP
    by_cases b : (decide (-(2 ^ 63) ≤ j) && decide (j < 2 ^ 63)) = true
    · rw [if_pos b, if_pos b, List.length_map]
      rcases L2.ixN xs.length j with _ | m
      · rfl
      · show ((xs.map e)[m]?).map _ = _
        rw [List.getElem?_map]
        show _ = match lf ((xs[m]?).map fun x => (x, xs.eraseIdx m)) with
          | some (.ok r) => some (e r.1, M.l (r.2.map e))
          | _ => none
        rcases xs[m]? with _ | x
        · rfl
        · show some (e x, M.l ((xs.map e).eraseIdx m)) = some (e x, M.l ((xs.eraseIdx m).map e))
          rw [map_erase]
    · rw [if_neg b, if_neg b]
      rfl
  unfold kPop' popG
  rw [hg]
  rcases hp : popP xs j with _ | r | x
  · exact ⟨trivial⟩
  · rw [hp] at key
    have hk := hk r
    rw [← hs] at hk
    cases bo
    · show Sim N (match (popM (.l (xs.map e)) (.int j)).map fun r => (r.1, g.set i (.ow r.2)) with
        | some r => K (.v r.1) r.2
        | none => none) (k r) Φ
      rw [key]
      exact hk
    · show Sim N (match (popM (.l (xs.map e)) (.int j)).map fun r => (r.1, g.set i (.bo r.2)) with
        | some r => K (.v r.1) r.2
        | none => none) (k r) Φ
      rw [key]
      exact hk
  · exfalso
    unfold popP lf at hp
    split at hp
    · split at hp <;> cases hp
    · cases hp
theorem s_some {α : Type} {r : Option (ω × Sg)} {x : α} {k : α → P ρ} (h : Sim N r (k x) Φ) : Sim N r (bd (unP (some x)) k) Φ := h
def dedS (xs : List (Int × Int)) : P (List (Int × Int)) := if (decide (xs.length < 64) && xs.all inB) = true then ok (sortP (ddP xs)) else stop
theorem o_srtset {xs : List (Int × Int)} : OpS (srtSetD (.list (xs.map (eP eI eI)))) (dedS xs) fun r => .m (.l (r.map (eP eI eI))) := by
  refine ⟨?_⟩
  show OpD ((pairsD (xs.map (eP eI eI))).bind _) _ _
  rw [pairs_map]
  show OpD (if (decide (xs.length < 64) && xs.all inB) = true then _ else _) _ _
  unfold dedS
  by_cases h : (decide (xs.length < 64) && xs.all inB) = true
  · rw [if_pos h, if_pos h]
    rfl
  · rw [if_neg h, if_neg h]
    trivial
theorem o_srtsetT {xs : List (Int × Int)} : OpS (srtSetD (.tuple (xs.map (eP eI eI)))) (dedS xs) fun r => .m (.l (r.map (eP eI eI))) := ⟨(o_srtset (xs := xs)).out⟩
theorem b_sortT {xs : List (Int × Int)} : b1D .sorted (.tuple (xs.map (eP eI eI))) = some (.m (.l ((sortP xs).map (eP eI eI)))) := by
  show (pairsD (xs.map (eP eI eI))).map _ = _
  rw [pairs_map]
  rfl
theorem s_srtset {K : Val → Sg → Option (ω × Sg)} {a : C} (h : Sim N (bg (ev Γ cs a g) fun x g => bg (opt (srtSetD x.toD) g) K) M Φ) : Sim N (bg (ev Γ cs (.srtset a) g) K) M Φ := by
  show Sim N (bg (bnd _ _) K) M Φ
  simp only [bg_bnd]
  exact h
end
section
variable {ρ α : Type} {N : Sg → Prop} {Γ : Call} {cs : List (PySem.Str × D)} {g : Sg} {M : P ρ} {fu : Nat} {Φ : ρ → Fl → Sg → Prop} {K : Sg → RS} {r : Ss}
theorem f_GL2 {β : Type} {i j : Nat} {p q : Bool} {V : α → Val} {W : β → Val} {a : α} {b : β} {k : α × β → P ρ} {g' : α × β → Sg} (h : ∀ x : α × β, ((setG g i (slOf p (V x.1))).bind fun g => setG g j (slOf q (W x.2))) = some (g' x)) (hk : ∀ x, Sim N (seq (evSs Γ cs fu r (g' x)) K) (k x) Φ) :
    Sim N (kG Γ cs fu r K ((setG g i (slOf p (V a))).bind fun g => setG g j (slOf q (W b)))) (bd (ok (a, b)) k) Φ := f_G (h (a, b)) (hk (a, b))
def kExt1 (Γ : Call) (cs : List (PySem.Str × D)) (fu : Nat) (i : Nat) (r : Ss) (K : Sg → RS) (y : Val) (g : Sg) : RS := seq (upM g i fun c => extM c y.toD) fun g => seq (evSs Γ cs fu r g) K
theorem ss_ext {i : Nat} {e : C} (hm : isM g i = true) (h : Sim N (bg (ev Γ cs e g) (kExt1 Γ cs fu i r K)) M Φ) : Sim N (seq (evSs Γ cs fu (.cons (.ext i e) r) g) K) M Φ := by
  show Sim N (seq (seq (if isM g i = true then sbnd (ev Γ cs e g) _ else none) _) K) M Φ
  rw [if_pos hm, sbnd_bg, seq_seq, seq_bg]
  exact h
theorem f_ext {i : Nat} {e : α → D} {xs zs : List α} {y : Val} {k : List α → P ρ} {g' : List α → Sg} {bo : Bool} (hy : y.toD = .list (zs.map e)) (hg : g[i]? = some (if bo = true then .bo (.l (xs.map e)) else .ow (.l (xs.map e)))) (hs : ∀ ys, g.set i (if bo = true then .bo (.l (List.map e ys)) else .ow (.l (List.map e ys))) = g' ys)
    (hk : ∀ ys, Sim N (seq (evSs Γ cs fu r (g' ys)) K) (k ys) Φ) : Sim N (kExt1 Γ cs fu i r K y g) (bd (addP xs zs) k) Φ := by
  unfold kExt1 addP upM
  rw [hg, hy]
  by_cases l : xs.length + zs.length ≤ PySem.sizeLine
  · rw [if_pos l]
    have hk := hk (xs ++ zs)
    rw [← hs, List.map_append] at hk
    have ha : extM (.l (xs.map e)) (.list (zs.map e)) = some (.l (xs.map e ++ zs.map e)) := if_pos (by rw [List.length_map, List.length_map]; exact l)
    cases bo
    · show Sim N (seq ((extM (.l (xs.map e)) (.list (zs.map e))).map _) _) (k (xs ++ zs)) Φ
      rw [ha]
      exact hk
    · show Sim N (seq ((extM (.l (xs.map e)) (.list (zs.map e))).map _) _) (k (xs ++ zs)) Φ
      rw [ha]
      exact hk
  · rw [if_neg l]
    exact ⟨trivial⟩
end
section
variable {ω ρ β : Type} [Inj ω] {Γ : Call} {cs : List (PySem.Str × D)} {g : Sg} {M : P ρ} {N : Sg → Prop} {Φ : ρ → ω → Sg → Prop}
/-- a call by names -/
def kCallK (Γ : Call) (f n : Nat) (q : List Nat) (K : Val → Sg → Option (ω × Sg)) (rs : List Ar) (g : Sg) : Option (ω × Sg) := if rs.length = n ∧ q.length = n then bg (callR Γ f (q.map fun j => rs.getD j (.v .none)) g) K else none
theorem s_callK {K : Val → Sg → Option (ω × Sg)} {f n : Nat} {q : List Nat} {as : As} (h : Sim N (bg (evas Γ cs as g) (kCallK Γ f n q K)) M Φ) : Sim N (bg (ev Γ cs (.callK f n q as) g) K) M Φ := by
  show Sim N (bg (bnd _ _) K) M Φ
  rw [bg_bnd]
  refine s_congr h fun rs g => ?_
  unfold kCallK
  rw [bg_ite]
  rfl
theorem f_callK {K : Val → Sg → Option (ω × Sg)} {f n : Nat} {q : List Nat} {rs : List Ar} (h1 : rs.length = n) (h2 : q.length = n) (h : Sim N (kCall' Γ f n K (q.map fun j => rs.getD j (.v .none)) g) M Φ) : Sim N (kCallK Γ f n q K rs g) M Φ := by
  unfold kCallK
  rw [if_pos ⟨h1, h2⟩]
  unfold kCall' at h
  rw [if_pos (by rw [List.length_map]; exact h2)] at h
  exact h
def lenSP (xs : List Int) : P Int := if xs.length ≤ 4000 then ok ((metI xs).length : Int) else stop
theorem o_lenset {xs : List Int} : OpS (lenSetD (.list (xs.map eI))) (lenSP xs) fun r => .v (eI r) := by
  refine ⟨?_⟩
  show OpD ((intsD (xs.map eI)).bind _) _ _
  rw [ints_map]
  show OpD (if xs.length ≤ 4000 then _ else _) _ _
  unfold lenSP
  by_cases h : xs.length ≤ 4000
  · rw [if_pos h, if_pos h]
    rfl
  · rw [if_neg h, if_neg h]
    trivial
theorem s_lenset {K : Val → Sg → Option (ω × Sg)} {a : C} (h : Sim N (bg (ev Γ cs a g) fun x g => bg (opt (lenSetD x.toD) g) K) M Φ) : Sim N (bg (ev Γ cs (.lenset a) g) K) M Φ := by
  show Sim N (bg (bnd _ _) K) M Φ
  simp only [bg_bnd]
  exact h
end
end Z

/-! ZX: how typed programs are reasoned about. -/
namespace Z
open PySem (PyData)
section
variable {α β σ ρ : Type}
theorem bd_ok (a : α) (k : α → P β) : bd (ok a) k = k a := rfl
theorem bd_stop (k : α → P β) : bd stop k = stop := rfl
theorem nx_ok (a : α) : nx (ok a) = ok a := rfl
theorem bd_ret (m : P α) : bd m ok = m := by
  rcases m with _ | a | x <;> rfl
theorem bd_bd {γ : Type} (m : P α) (k : α → P β) (k' : β → P γ) : bd (bd m k) k' = bd m fun a => bd (k a) k' := by
  rcases m with _ | a | x <;> rfl
theorem FS.use {n : Nat} {r : Option (Out Val × List (Option M))} {m : P ρ} {ψ : ρ → Val × List (Option M)} {x : ρ} (h : FS n r m ψ) (e : m = ok x) : r = some (.ok (ψ x).1, (ψ x).2) := by
  subst e
  exact h.out
/-- it answers, and the answer is so -/
def Ok (m : P α) (Q : α → Prop) : Prop := ∃ a, m = ok a ∧ Q a
theorem Ok.mk {a : α} {Q : α → Prop} (h : Q a) : Ok (ok a) Q := ⟨a, rfl, h⟩
theorem Ok.of {m : P α} {a : α} {Q : α → Prop} (e : m = ok a) (h : Q a) : Ok m Q := ⟨a, e, h⟩
theorem Ok.bd {m : P α} {k : α → P β} {Q : α → Prop} {R : β → Prop} (h : Ok m Q) (hk : ∀ a, Q a → Ok (k a) R) : Ok (Z.bd m k) R := by
  obtain ⟨a, rfl, q⟩ := h
  exact hk a q
theorem Ok.nx {m : P α} {Q : α → Prop} (h : Ok m Q) : Ok (Z.nx m) Q := by
  obtain ⟨a, rfl, q⟩ := h
  exact ⟨a, rfl, q⟩
theorem Ok.imp {m : P α} {Q R : α → Prop} (h : Ok m Q) (q : ∀ a, Q a → R a) : Ok m R := by
  obtain ⟨a, e, h⟩ := h
  exact ⟨a, e, q a h⟩
theorem Ok.eq {m : P α} {a : α} (h : Ok m fun x => x = a) : m = ok a := by
  obtain ⟨b, e, rfl⟩ := h
  exact e
theorem Ok.ite {c : Prop} [Decidable c] {a b : P α} {Q : α → Prop} (ha : c → Ok a Q) (hb : ¬ c → Ok b Q) : Ok (if c then a else b) Q := by
  by_cases h : c
  · rw [if_pos h]; exact ha h
  · rw [if_neg h]; exact hb h
/-- loops by an invariant -/
theorem Ok.forS {f : α → σ → P σ} {J : σ → Prop} : ∀ {xs : List α} {s : σ}, (∀ x, x ∈ xs → ∀ s, J s → Ok (f x s) J) → J s → Ok (Z.forS f xs s) J
  | [], s, _, h => ⟨s, rfl, h⟩
  | x :: xs, s, hf, h => by
    unfold Z.forS
    exact (hf x List.mem_cons_self s h).bd fun s h => Ok.forS (fun y hy => hf y (List.mem_cons_of_mem _ hy)) h
/-- .. that knows what has been gone through -/
theorem Ok.forI {f : α → σ → P σ} {J : List α → σ → Prop} : ∀ {xs done : List α} {s : σ}, (∀ d x r s, done ++ xs = d ++ x :: r → J d s → Ok (f x s) (J (d ++ [x]))) → J done s → Ok (Z.forS f xs s) (J (done ++ xs))
  | [], done, s, _, h => ⟨s, rfl, by rw [List.append_nil]; exact h⟩
  | x :: xs, done, s, hf, h => by
    unfold Z.forS
    refine (hf done x xs s rfl h).bd fun s h => ?_
    have := Ok.forI (f := f) (J := J) (xs := xs) (done := done ++ [x]) (s := s) (fun d y r s e h => hf d y r s (by rw [List.append_assoc] at e; exact e) h) h
    rw [List.append_assoc] at this
    exact this
theorem forS_fold {f : α → σ → P σ} {g : σ → α → σ} : ∀ {xs : List α} {s : σ}, (∀ x, x ∈ xs → ∀ s, f x s = ok (g s x)) → Z.forS f xs s = ok (xs.foldl g s)
  | [], s, _ => rfl
  | x :: xs, s, h => by
    unfold Z.forS
    rw [h x List.mem_cons_self s, bd_ok, forS_fold (fun y hy => h y (List.mem_cons_of_mem _ hy))]
    rfl
/-- turns that all go on -/
theorem Ok.forR {f : α → σ → P (Lp ρ σ)} {J : σ → Prop} : ∀ {xs : List α} {s : σ}, (∀ x, x ∈ xs → ∀ s, J s → Ok (f x s) fun o => ∃ s', o = .go s' ∧ J s') → J s → Ok (Z.forR f xs s) fun o => ∃ s', o = .go s' ∧ J s'
  | [], s, _, h => ⟨_, rfl, s, rfl, h⟩
  | x :: xs, s, hf, h => by
    unfold Z.forR
    refine (hf x List.mem_cons_self s h).bd ?_
    rintro _ ⟨s', rfl, h'⟩
    exact Ok.forR (fun y hy => hf y (List.mem_cons_of_mem _ hy)) h'
theorem Ok.lpK {o : P (Lp ρ σ)} {k : σ → P ρ} {J : σ → Prop} {Q : ρ → Prop} (h : Ok o fun o => ∃ s', o = .go s' ∧ J s') (hk : ∀ s, J s → Ok (k s) Q) : Ok (Z.bd o fun o => Z.lpK o k) Q := by
  refine h.bd ?_
  rintro _ ⟨s', rfl, h'⟩
  exact hk s' h'
/-- comprehensions -/
theorem mapT_ok {h : α → β} {xs : List α} (l : xs.length ≤ PySem.sizeLine) : mapT h xs = ok (xs.map h) := if_pos l
theorem filT_ok {p : α → Bool} {h : α → β} {xs : List α} (l : xs.length ≤ PySem.sizeLine) : filT p h xs = ok ((xs.filter p).map h) := if_pos l
theorem mapP_ok {f : α → P (Option β)} {h : α → Option β} : ∀ {xs : List α} {acc : List β}, (∀ x, x ∈ xs → f x = ok (h x)) → acc.length + xs.length ≤ PySem.sizeLine → mapP f acc xs = ok (acc ++ xs.filterMap h)
  | [], acc, _, _ => by rw [List.filterMap_nil, List.append_nil]; rfl
  | x :: xs, acc, hf, l => by
    rw [List.length_cons] at l
    unfold mapP
    rw [hf x List.mem_cons_self, nx_ok, bd_ok, if_pos (by omega), List.filterMap_cons]
    cases e : h x with
    | none => exact mapP_ok (acc := acc) (fun y hy => hf y (List.mem_cons_of_mem _ hy)) (by omega)
    | some z =>
      dsimp only
      rw [mapP_ok (fun y hy => hf y (List.mem_cons_of_mem _ hy)) (by rw [List.length_append]; show acc.length + 1 + _ ≤ _; omega), List.append_assoc]
      rfl
theorem mapP_map {f : α → P (Option β)} {h : α → β} {xs : List α} (hf : ∀ x, x ∈ xs → f x = ok (some (h x))) (l : xs.length ≤ PySem.sizeLine) : mapP f [] xs = ok (xs.map h) := by
  rw [mapP_ok (h := fun x => some (h x)) hf (by show 0 + _ ≤ _; omega), List.nil_append]
  congr 1
  congr 1
  induction xs with
  | nil => rfl
  | cons x xs ih => rw [List.filterMap_cons, List.map_cons, ih (fun y hy => hf y (List.mem_cons_of_mem _ hy)) (by rw [List.length_cons] at l; omega)]
/-- a comprehension whose elements are so -/
theorem Ok.mapP {f : α → P (Option β)} {Q : α → β → Prop} : ∀ {xs : List α} {acc : List β}, (∀ x, x ∈ xs → Ok (f x) fun o => ∃ z, o = some z ∧ Q x z) → acc.length + xs.length ≤ PySem.sizeLine → Ok (Z.mapP f acc xs) fun l => ∃ zs : List β, l = acc ++ zs ∧ zs.length = xs.length ∧ ∀ (i : Nat) (x : α) (z : β), xs[i]? = some x → zs[i]? = some z → Q x z
  | [], acc, _, _ => ⟨acc, rfl, [], (List.append_nil _).symm, rfl, fun i x z h => by simp at h⟩
  | x :: xs, acc, hf, l => by
    rw [List.length_cons] at l
    unfold Z.mapP
    obtain ⟨_, e, z, rfl, q⟩ := hf x List.mem_cons_self
    rw [e, nx_ok, bd_ok, if_pos (by omega)]
    refine (Ok.mapP (fun y hy => hf y (List.mem_cons_of_mem _ hy)) (by rw [List.length_append]; show acc.length + 1 + _ ≤ _; omega)).imp ?_
    rintro l ⟨zs, rfl, h1, h2⟩
    refine ⟨z :: zs, by rw [List.append_assoc]; rfl, by rw [List.length_cons, List.length_cons, h1], fun i a b ha hb => ?_⟩
    cases i with
    | zero =>
      simp at ha hb
      subst ha
      subst hb
      exact q
    | succ i => exact h2 i a b (by simpa using ha) (by simpa using hb)
/-- .. that draws -/
theorem Ok.compP {f : α → σ → P (Option β × σ)} {J : σ → Prop} {Q : β → Prop} : ∀ {xs : List α} {acc : List β} {s : σ}, (∀ x, x ∈ xs → ∀ s, J s → Ok (f x s) fun o => (∃ z, o.1 = some z ∧ Q z) ∧ J o.2) → J s → acc.length + xs.length ≤ PySem.sizeLine → (∀ z, z ∈ acc → Q z) → Ok (Z.compP f acc xs s) fun o => o.1.length = acc.length + xs.length ∧ (∀ z, z ∈ o.1 → Q z) ∧ J o.2
  | [], acc, s, _, h, _, ha => ⟨_, rfl, rfl, ha, h⟩
  | x :: xs, acc, s, hf, h, l, ha => by
    rw [List.length_cons] at l
    unfold Z.compP
    obtain ⟨⟨o, s'⟩, e, ⟨z, e2, q⟩, h'⟩ := hf x List.mem_cons_self s h
    dsimp only at e2 h'
    subst e2
    rw [e, nx_ok, bd_ok, if_pos (by omega)]
    refine (Ok.compP (acc := acc ++ [z]) (fun y hy => hf y (List.mem_cons_of_mem _ hy)) h' (by rw [List.length_append]; show acc.length + 1 + _ ≤ _; omega) (fun w hw => by
      rcases List.mem_append.mp hw with hw | hw
      · exact ha w hw
      · rw [List.mem_singleton.mp hw]; exact q)).imp ?_
    rintro o ⟨h1, h2⟩
    refine ⟨?_, h2⟩
    rw [h1, List.length_append, List.length_cons, List.length_cons, List.length_nil]
    omega
theorem comp2P_ok {γ : Type} {src : α → P (List β)} {f : α → β → P (Option γ)} {S : α → List β} {h : α → β → Option γ} : ∀ {xs : List α} {acc : List γ}, (∀ x, x ∈ xs → src x = ok (S x)) → (∀ x, x ∈ xs → ∀ y, y ∈ S x → f x y = ok (h x y)) → acc.length + (xs.flatMap S).length ≤ PySem.sizeLine →
    comp2P src f acc xs = ok (acc ++ xs.flatMap fun x => (S x).filterMap (h x))
  | [], acc, _, _, _ => by rw [List.flatMap_nil, List.append_nil]; rfl
  | x :: xs, acc, hs, hf, l => by
    rw [List.flatMap_cons, List.length_append] at l
    unfold comp2P
    rw [hs x List.mem_cons_self, bd_ok, mapP_ok (hf x List.mem_cons_self) (by omega), nx_ok, bd_ok]
    have ln : ((S x).filterMap (h x)).length ≤ (S x).length := List.length_filterMap_le _ _
    rw [comp2P_ok (fun y hy => hs y (List.mem_cons_of_mem _ hy)) (fun y hy => hf y (List.mem_cons_of_mem _ hy)) (by rw [List.length_append]; omega), List.flatMap_cons, List.append_assoc]
theorem whlP_step {c : σ → P Bool} {b : σ → P σ} {n : Nat} {s s' : σ} (hc : c s = ok true) (hb : b s = ok s') : Z.whlP c b (n + 1) s = Z.whlP c b n s' := by
  rw [Z.whlP, hc, bd_ok, if_pos rfl, hb, bd_ok]
theorem whlP_end {c : σ → P Bool} {b : σ → P σ} {n : Nat} {s : σ} (hc : c s = ok false) : Z.whlP c b (n + 1) s = ok s := by
  rw [Z.whlP, hc, bd_ok, if_neg Bool.false_ne_true]
/-- a while by a measure -/
theorem Ok.whlP {c : σ → P Bool} {b : σ → P σ} {J : σ → Prop} {T : σ → Bool} {μ : σ → Nat} (hc : ∀ s, J s → c s = ok (T s)) (hb : ∀ s, J s → T s = true → Ok (b s) fun s' => J s' ∧ μ s' < μ s) : ∀ {n : Nat} {s : σ}, J s → μ s < n → Ok (Z.whlP c b n s) fun s => J s ∧ T s = false
  | 0, s, _, l => absurd l (Nat.not_lt_zero _)
  | n + 1, s, h, l => by
    unfold Z.whlP
    rw [hc s h, bd_ok]
    cases t : T s with
    | false => exact ⟨s, rfl, h, t⟩
    | true =>
      refine (hb s h t).bd fun s' h' => ?_
      exact Ok.whlP hc hb h'.1 (by omega)
end
end Z

/-! ZK: typed programs that raise and tell. Nothing here speaks of the model. -/
namespace Z
open PySem (PyData)
open PySem (Str)
/-- what is told of a value, or of what was raised -/
def saidP {α : Type} (m : P α) (e : α → D) (kd : Exc → P Str) : P Str :=
  match m with
  | none => none
  | some (.ok a) => reprP (e a)
  | some (.ex x) => match kd x with
    | some (.ok s) => if s.length + 2 ≤ PySem.sizeLine then ok (("! " : Str) ++ s) else stop
    | _ => stop
def fldP (x : Exc) (j : Nat) : P Int :=
  match x.fs[j]? with
  | some (.int i) => ok i
  | _ => stop
theorem o_fld {x : Exc} {j : Nat} : OpS ((x.fs[j]?).map Val.v) (fldP x j) fun i => .v (eI i) := by
  refine ⟨?_⟩
  unfold fldP
  split
  · rename_i i h
    show (x.fs[j]?).map Val.v = _
    rw [h]
    rfl
  · trivial
theorem run_down {T : Tab} {fu m f : Nat} (few : T.fns.length ≤ deepAt) : run T fu (m + 2) (f + deepAt) = run T fu m f := by
  funext as
  rw [run]
  have h : T.fns[f + deepAt]? = none := List.getElem?_eq_none (by omega)
  dsimp only
  rw [h]
  dsimp only
  rw [if_pos (by omega), Nat.add_sub_cancel]
theorem fs_deep {T : Tab} {fu m f k : Nat} {as : List Arg} {ρ : Type} {p : P ρ} {ψ : ρ → Val × List (Option Z.M)} (few : T.fns.length ≤ deepAt) (h : FS k (run T fu m f as) p ψ) : FS k (run T fu (m + 2) (f + deepAt) as) p ψ := by
  rw [run_down few]
  exact h
section
variable {ω ρ α β : Type} [Inj ω] {N : Sg → Prop} {Φ : ρ → ω → Sg → Prop} {Γ : Call} {cs : List (Str × D)} {g : Sg} {M : P ρ} {fu : Nat} {K : Val → Sg → Option (ω × Sg)}
def kCallF (Γ : Call) (f : Nat) (k : Int) (K : Val → Sg → Option (ω × Sg)) (x : Val) (g : Sg) : Option (ω × Sg) :=
  match x with
  | .m c => (Γ f [.m c, .v (.int k)]).bind fun r => bg (some (r.1, g)) K
  | .v _ => none
theorem s_callF {f : Nat} {a : C} {k : Int} (h : Sim N (bg (ev Γ cs a g) (kCallF Γ f k K)) M Φ) : Sim N (bg (ev Γ cs (.callF f a k) g) K) M Φ := by
  show Sim N (bg (bnd _ _) K) M Φ
  rw [bg_bnd]
  refine s_congr h fun x g => ?_
  cases x with
  | v d => rfl
  | m c =>
    unfold kCallF
    dsimp only
    cases Γ f [.m c, .v (.int k)] <;> rfl
theorem f_callF {f : Nat} {k : Int} {c : Z.M} {m : P β} {ψ : β → Val × List (Option Z.M)} {q : β → P ρ} (hΓ : FS 2 (Γ f [.m c, .v (.int k)]) (nx m) ψ) (hk : ∀ x, Sim N (K (ψ x).1 g) (q x) Φ) : Sim N (kCallF Γ f k K (.m c) g) (bd (nx m) q) Φ := by
  unfold kCallF
  dsimp only
  rcases m with _ | x | x
  · exact ⟨trivial⟩
  · have h : Γ f [.m c, .v (.int k)] = _ := hΓ.out
    rw [h]
    exact hk x
  · exact ⟨trivial⟩
theorem e_isx {i k : Nat} {x : Exc} (h : g[i]? = some (.xc x)) : ev Γ cs (.isx i k) g = some (.ok (.v (.bool (isK x k))), g) := by
  show (match g[i]? with
    | some (.xc x) => ret (Val.v (.bool (isK x k))) g
    | _ => none) = _
  rw [h]
  rfl
theorem e_isV {i : Nat} {x : Exc} (h : g[i]? = some (.xc x)) : ev Γ cs (.isV i) g = some (.ok (.v (.bool true)), g) := by
  show (match g[i]? with
    | some (.xc _) => ret (Val.v (.bool true)) g
    | _ => none) = _
  rw [h]
  rfl
theorem s_fld {i j : Nat} {x : Exc} (hx : g[i]? = some (.xc x)) (h : Sim N (bg (opt ((x.fs[j]?).map Val.v) g) K) M Φ) : Sim N (bg (ev Γ cs (.fld i j) g) K) M Φ := by
  have e : ev Γ cs (.fld i j) g = opt ((x.fs[j]?).map Val.v) g := by
    show (match g[i]? with
      | some (.xc x) => opt ((x.fs[j]?).map Val.v) g
      | _ => none) = _
    rw [hx]
  rw [e]
  exact h
theorem s_said {h : Nat} {a : C} {m : P β} {φ : β → Val} {e : β → D} {kd : Exc → P Str} {q : Str → P ρ} (ha : Sim (fun g' => g' = g) (bg (ev Γ cs a g) rK) m (Hd fun b => (φ b, g))) (he : ∀ b, (φ b).toD = e b)
    (hk : ∀ x, FS 1 (Γ h [.x x]) (kd x) fun s => (.v (eS s), [none])) (hq : ∀ s, Sim N (K (.v (eS s)) g) (q s) Φ) : Sim N (bg (ev Γ cs (.said h a) g) K) (bd (saidP m e kd) q) Φ := by
  rw [bg_rK] at ha
  have ev0 : ev Γ cs (.said h a) g = (match ev Γ cs a g with
    | some (.ok x, g) => opt (b1D .repr x.toD) g
    | some (.ex x, g) => opt (tellR (Γ h [.x x])) g
    | none => none) := rfl
  rw [ev0]
  rcases m with _ | b | x
  · exact ⟨trivial⟩
  · obtain ⟨w, g', e1, e2, e3⟩ := ha
    subst e2
    have e3 : g' = g := e3
    rw [e1, e3]
    show Sim N (bg (opt (b1D .repr (φ b).toD) g) K) (bd (reprP (e b)) q) Φ
    rw [he]
    exact s_opt o_repr hq
  · obtain ⟨g', e1, e2⟩ := ha
    have e2 : g' = g := e2
    rw [e1, e2]
    show Sim N (bg (opt (tellR (Γ h [.x x])) g) K) (bd (match kd x with
      | some (.ok s) => if s.length + 2 ≤ PySem.sizeLine then ok (("! " : Str) ++ s) else stop
      | _ => stop) q) Φ
    have hx := hk x
    cases hd : kd x with
    | none => exact ⟨trivial⟩
    | some o =>
      rw [hd] at hx
      cases o with
      | ex y => exact ⟨trivial⟩
      | ok s =>
        have h1 : Γ h [.x x] = some (.ok (.v (eS s)), [none]) := hx.out
        rw [h1]
        show Sim N (bg (opt (if s.length + 2 ≤ PySem.sizeLine then some (Val.v (.str (("! " : Str) ++ s))) else none) g) K) _ Φ
        dsimp only
        by_cases hl : s.length + 2 ≤ PySem.sizeLine
        · rw [if_pos hl, if_pos hl]
          exact hq _
        · rw [if_neg hl, if_neg hl]
          exact ⟨trivial⟩
end
section
variable {ρ : Type} {N : Sg → Prop} {Γ : Call} {cs : List (Str × D)} {g : Sg} {fu : Nat} {Φ : ρ → Fl → Sg → Prop} {K : Sg → RS} {r : Ss}
theorem ss_raise {k : Nat} (h : N g) : Sim N (seq (evSs Γ cs fu (.cons (.raise k) r) g) K) (thr ⟨k, []⟩) Φ := ⟨g, rfl, h⟩
theorem ss_raise2 {k : Nat} {a b : C} {i j : Int} (ha : ev Γ cs a g = some (.ok (.v (.int i)), g)) (hb : ev Γ cs b g = some (.ok (.v (.int j)), g)) (h : N g) : Sim N (seq (evSs Γ cs fu (.cons (.raise2 k a b) r) g) K) (thr ⟨k, [.int i, .int j]⟩) Φ := by
  refine ⟨g, ?_, h⟩
  show seq (seq (sbnd (ev Γ cs a g) fun x g => sbnd (ev Γ cs b g) fun y g => _) _) K = _
  rw [ha]
  show seq (seq (sbnd (ev Γ cs b g) _) _) K = _
  rw [hb]
  rfl
end
section
variable {ρ : Type} {N : Sg → Prop} {Γ : Call} {cs : List (Str × D)} {g : Sg} {fu : Nat} {Φ : ρ → Fl → Sg → Prop} {K : Sg → RS} {r : Ss} {M : P ρ}
def kRz (k : Nat) (x y : Val) (g : Sg) : RS :=
  match x, y with
  | .v (.int i), .v (.int j) => some (.ex ⟨k, [.int i, .int j]⟩, g)
  | _, _ => none
theorem kRz_seq (k : Nat) (x y : Val) (g : Sg) (K : Sg → RS) : seq (kRz k x y g) K = kRz k x y g := by
  unfold kRz
  split <;> rfl
theorem ss_raise2G {k : Nat} {a b : C} (h : Sim N (bg (ev Γ cs a g) fun x g => bg (ev Γ cs b g) fun y g => kRz k x y g) M Φ) : Sim N (seq (evSs Γ cs fu (.cons (.raise2 k a b) r) g) K) M Φ := by
  show Sim N (seq (seq (sbnd (ev Γ cs a g) fun x g => sbnd (ev Γ cs b g) fun y g => kRz k x y g) _) K) M Φ
  simp only [sbnd_bg, seq_bg, kRz_seq]
  exact h
theorem f_raise2 {k : Nat} {i j : Int} (h : N g) : Sim N (kRz k (.v (.int i)) (.v (.int j)) g) (thr ⟨k, [.int i, .int j]⟩) Φ := ⟨g, rfl, h⟩
end
/-- a part of a text -/
def slcSP (x : Str) (lo hi : Option Int) : P Str :=
  match slcD (.str x) lo hi with
  | some (.v (.str s)) => ok s
  | _ => stop
theorem o_slcS {x : Str} {lo hi : Option Int} : OpS (slcD (.str x) lo hi) (slcSP x lo hi) fun s => .v (eS s) := by
  refine ⟨?_⟩
  unfold slcSP
  split
  · rename_i s h
    exact h
  · trivial
/-- a range with a step -/
def rngJ (lo c : Int) (n : Nat) : List Int := (List.range n).map fun k => lo + (k : Nat) * c
def rg3P (lo hi c : Int) : P (List Int) := if rngOk lo = true ∧ rngOk hi = true ∧ stepOk c = true then ok (rngJ lo c (rngN lo hi c)) else none
section
variable {ω ρ : Type} [Inj ω] {N : Sg → Prop} {Φ : ρ → ω → Sg → Prop} {Γ : Call} {cs : List (Str × D)} {g : Sg} {M : P ρ}
def kR3' (K : List D → Sg → Option (ω × Sg)) (x y z : Val) (g : Sg) : Option (ω × Sg) :=
  match x, y, z with
  | .v (.int i), .v (.int j), .v (.int c) => if (rngOk i && rngOk j && stepOk c) = true then K (rngC i c (rngN i j c)) g else none
  | _, _, _ => none
theorem s_r_rng3 {K : List D → Sg → Option (ω × Sg)} {a b c : C} (h : Sim N (bg (ev Γ cs a g) fun x g => bg (ev Γ cs b g) fun y g => bg (ev Γ cs c g) fun z g => kR3' K x y z g) M Φ) : Sim N (bg (evr Γ cs (.rng3 a b c) g) K) M Φ := by
  show Sim N (bg (bnd _ _) K) M Φ
  rw [bg_bnd]
  refine s_congr h fun x g => ?_
  rw [bg_bnd]
  congr 1
  funext y g
  rw [bg_bnd]
  congr 1
  funext z g
  unfold kR3'
  rcases x with dx | mx
  · rcases y with dy | my
    · rcases z with dz | mz
      · cases dx with
        | int i =>
          cases dy with
          | int j =>
            cases dz with
            | int c =>
              dsimp only
              rw [bg_ite]
              rfl
            | _ => rfl
          | _ => rfl
        | _ => rfl
      · cases dx <;> first
          | rfl
          | (cases dy <;> rfl)
    · cases dx <;> rfl
  · rfl
theorem f_rng3 {K : List D → Sg → Option (ω × Sg)} {i j c : Int} {k : List Int → P ρ} (hk : ∀ xs, Sim N (K (xs.map PyData.int) g) (k xs) Φ) : Sim N (kR3' K (.v (.int i)) (.v (.int j)) (.v (.int c)) g) (bd (rg3P i j c) k) Φ := by
  unfold kR3' rg3P
  dsimp only
  by_cases h : rngOk i = true ∧ rngOk j = true ∧ stepOk c = true
  · rw [if_pos h, if_pos (by rw [h.1, h.2.1, h.2.2]; rfl)]
    have e : rngC i c (rngN i j c) = (rngJ i c (rngN i j c)).map PyData.int := by
      unfold rngC rngJ
      rw [List.map_map]
      rfl
    rw [e]
    exact hk _
  · rw [if_neg h]
    exact ⟨trivial⟩
end
end Z

/-! ZS: what repr can show. -/
namespace Z
open PySem (PyData)
theorem line_big : (16000000 : Nat) ≤ PySem.sizeLine := by decide
def Sm (d : D) (k w : Nat) : Prop := d.showable = true ∧ d.hasDict = false ∧ d.depth ≤ k ∧ d.leavesShort 13 = true ∧ d.weight ≤ w
theorem Sm.mono {d : D} {k w k' w' : Nat} (h : Sm d k w) (hk : k ≤ k') (hw : w ≤ w') : Sm d k' w' :=
  ⟨h.1, h.2.1, Nat.le_trans h.2.2.1 hk, h.2.2.2.1, Nat.le_trans h.2.2.2.2 hw⟩
theorem Sm.int {i : Int} (h : i.natAbs < 10 ^ 12) : Sm (.int i) 0 40 := by
  have hl : i.natAbs.log2 < 40 := by
    rcases Nat.eq_zero_or_pos i.natAbs with e | e
    · rw [e]; decide
    · exact (Nat.log2_lt (by omega)).mpr (Nat.lt_of_lt_of_le h (by decide))
  refine ⟨?_, by simp only [PyData.hasDict], by simp only [PyData.depth]; omega, ?_, ?_⟩
  · simp only [PyData.showable, decide_eq_true_eq]
    omega
  · simp only [PyData.leavesShort, decide_eq_true_eq]
    exact PyData.shown_int_le h
  · simp only [PyData.weight]
    split <;> omega
theorem Sm.bool (b : Bool) : Sm (.bool b) 0 0 :=
  ⟨by simp only [PyData.showable], by simp only [PyData.hasDict], by simp only [PyData.depth]; omega, by simp only [PyData.leavesShort], by simp only [PyData.weight]; omega⟩
theorem Sm.none : Sm .none 0 0 :=
  ⟨by simp only [PyData.showable], by simp only [PyData.hasDict], by simp only [PyData.depth]; omega, by simp only [PyData.leavesShort], by simp only [PyData.weight]; omega⟩
theorem Sm.str {x : PySem.Str} (h : ∀ c ∈ x.cps.toList, c < 16 ^ 8) : Sm (.str x) 0 x.cps.size :=
  ⟨by simp only [PyData.showable], by simp only [PyData.hasDict], by simp only [PyData.depth]; omega, by simpa only [PyData.leavesShort, List.all_eq_true, decide_eq_true_eq] using h, by simp only [PyData.weight]; omega⟩
theorem Sm.all {k w : Nat} : ∀ {ds : List D}, (∀ d, d ∈ ds → Sm d k w) → PyData.showableAll ds = true ∧ PyData.hasDictAll ds = false ∧ PyData.depthAll ds ≤ k ∧ PyData.leavesShortAll 13 ds = true ∧ PyData.weightAll ds ≤ ds.length * (w + 1)
  | [], _ => ⟨by simp only [PyData.showableAll], by simp only [PyData.hasDictAll], by simp only [PyData.depthAll]; omega, by simp only [PyData.leavesShortAll], by simp only [PyData.weightAll]; omega⟩
  | d :: ds, h => by
    obtain ⟨a1, a2, a3, a4, a5⟩ := h d List.mem_cons_self
    obtain ⟨b1, b2, b3, b4, b5⟩ := Sm.all (fun d hd => h d (List.mem_cons_of_mem _ hd))
    refine ⟨?_, ?_, ?_, ?_, ?_⟩
    · simp only [PyData.showableAll, a1, b1, Bool.and_self]
    · simp only [PyData.hasDictAll, a2, b2, Bool.or_self]
    · simp only [PyData.depthAll]; omega
    · simp only [PyData.leavesShortAll, a4, b4, Bool.and_self]
    · simp only [PyData.weightAll, List.length_cons, Nat.add_mul]; omega
theorem Sm.list {k w : Nat} {ds : List D} (h : ∀ d, d ∈ ds → Sm d k w) : Sm (.list ds) (k + 1) (ds.length * (w + 1)) := by
  obtain ⟨b1, b2, b3, b4, b5⟩ := Sm.all h
  exact ⟨by simpa only [PyData.showable] using b1, by simpa only [PyData.hasDict] using b2, by simp only [PyData.depth]; omega, by simpa only [PyData.leavesShort] using b4, by simpa only [PyData.weight] using b5⟩
theorem Sm.tuple {k w : Nat} {ds : List D} (h : ∀ d, d ∈ ds → Sm d k w) : Sm (.tuple ds) (k + 1) (ds.length * (w + 1)) := by
  obtain ⟨b1, b2, b3, b4, b5⟩ := Sm.all h
  exact ⟨by simpa only [PyData.showable] using b1, by simpa only [PyData.hasDict] using b2, by simp only [PyData.depth]; omega, by simpa only [PyData.leavesShort] using b4, by simpa only [PyData.weight] using b5⟩
theorem Sm.ok {d : D} {k w : Nat} (h : Sm d k w) (hk : k ≤ 60) (hw : w ≤ 2 ^ 20) : showOk d = true := by
  obtain ⟨a1, a2, a3, a4, a5⟩ := h
  have e := PyData.shown_fits (B := 13) (by decide) (by decide) a4 (Nat.le_trans a5 hw)
  unfold showOk
  simp only [a1, a2, e, decide_true, Bool.not_false, Bool.and_self, Nat.le_trans a3 hk]
end Z

/-! M1: turns and covers, in plain mathematics. -/
namespace Z
open PySem (PyData)

/-! ### divisors -/
theorem gcd_step {a b : Int} : Int.gcd b (a % b) = Int.gcd a b := by
  have h : a = a % b + b * (a / b) := by
    have := Int.mul_ediv_add_emod a b
    omega
  calc Int.gcd b (a % b) = Int.gcd b (a % b + b * (a / b)) := (Int.gcd_add_mul_left_right b (a % b) (a / b)).symm
    _ = Int.gcd b a := by rw [← h]
    _ = Int.gcd a b := Int.gcd_comm b a
theorem bezout : ∀ p q : Nat, ∃ x y : Int, (p : Int) * x + q * y = (Nat.gcd p q : Nat) := by
  intro p q
  induction p, q using Nat.gcd.induction with
  | H0 n => exact ⟨0, 1, by simp⟩
  | H1 m n hm ih =>
    obtain ⟨x, y, h⟩ := ih
    refine ⟨y - (n / m : Nat) * x, x, ?_⟩
    rw [Nat.gcd_rec, ← h]
    have e : (n : Int) = ((n % m : Nat) : Int) + m * ((n / m : Nat) : Int) := by
      have := Nat.mod_add_div n m
      omega
    calc (m : Int) * (y - (n / m : Nat) * x) + n * x = m * (y - (n / m : Nat) * x) + (((n % m : Nat) : Int) + m * ((n / m : Nat) : Int)) * x := by rw [← e]
      _ = ((n % m : Nat) : Int) * x + m * y := by
        rw [Int.mul_sub, Int.add_mul, Int.mul_assoc]
        omega
theorem bezoutI {p q : Int} (hp : 0 ≤ p) (hq : 0 ≤ q) : ∃ x y : Int, p * x + q * y = (Int.gcd p q : Nat) := by
  obtain ⟨x, y, h⟩ := bezout p.toNat q.toNat
  refine ⟨x, y, ?_⟩
  have e1 : ((p.toNat : Nat) : Int) = p := Int.toNat_of_nonneg hp
  have e2 : ((q.toNat : Nat) : Int) = q := Int.toNat_of_nonneg hq
  rw [e1, e2] at h
  rw [h]
  show ((Nat.gcd p.toNat q.toNat : Nat) : Int) = ((Nat.gcd p.natAbs q.natAbs : Nat) : Int)
  rw [show p.toNat = p.natAbs by omega, show q.toNat = q.natAbs by omega]
/-! ### turns -/
abbrev Turn := Int × Int
def hold (t : Turn) (n : Int) : Bool := decide (n % t.2 = t.1)
def Trn (t : Turn) : Prop := 0 ≤ t.1 ∧ t.1 < t.2
/-- they have some integer both -/
def meets (a b : Turn) : Bool := decide ((b.1 - a.1) % (Int.gcd a.2 b.2 : Nat) = 0)
theorem hold_iff {t : Turn} (h : Trn t) {n : Int} : hold t n = true ↔ t.2 ∣ n - t.1 := by
  unfold hold
  rw [decide_eq_true_eq]
  constructor
  · intro e
    have := Int.mul_ediv_add_emod n t.2
    exact ⟨n / t.2, by omega⟩
  · rintro ⟨k, hk⟩
    have e : n = t.1 + t.2 * k := by omega
    rw [e, Int.add_mul_emod_self_left]
    exact Int.emod_eq_of_lt h.1 h.2
theorem meets_of {a b : Turn} (ha : Trn a) (hb : Trn b) (h : meets a b = true) : ∃ n, hold a n = true ∧ hold b n = true := by
  unfold meets at h
  rw [decide_eq_true_eq] at h
  obtain ⟨k, hk⟩ := Int.dvd_of_emod_eq_zero h
  have := ha.1
  have := ha.2
  have := hb.1
  have := hb.2
  obtain ⟨x, y, e⟩ := bezoutI (p := a.2) (q := b.2) (by omega) (by omega)
  refine ⟨a.1 + a.2 * (x * k), (hold_iff ha).mpr ⟨x * k, by omega⟩, (hold_iff hb).mpr ⟨-(y * k), ?_⟩⟩
  have e2 : (a.2 * x + b.2 * y) * k = b.1 - a.1 := by rw [e, hk]
  rw [Int.add_mul, Int.mul_assoc, Int.mul_assoc] at e2
  rw [Int.mul_neg]
  omega
theorem meets_if {a b : Turn} (ha : Trn a) (hb : Trn b) {n : Int} (h1 : hold a n = true) (h2 : hold b n = true) : meets a b = true := by
  unfold meets
  rw [decide_eq_true_eq]
  have d1 := (hold_iff ha).mp h1
  have d2 := (hold_iff hb).mp h2
  have g1 : ((Int.gcd a.2 b.2 : Nat) : Int) ∣ n - a.1 := Int.dvd_trans (Int.gcd_dvd_left _ _) d1
  have g2 : ((Int.gcd a.2 b.2 : Nat) : Int) ∣ n - b.1 := Int.dvd_trans (Int.gcd_dvd_right _ _) d2
  have := Int.dvd_sub g1 g2
  rw [show n - a.1 - (n - b.1) = b.1 - a.1 by omega] at this
  exact Int.emod_eq_zero_of_dvd this
theorem meets_comm (a b : Turn) : meets a b = meets b a := by
  unfold meets
  rw [Int.gcd_comm]
  congr 1
  rw [eq_iff_iff]
  constructor
  · intro h
    have := Int.dvd_of_emod_eq_zero h
    have := (Int.dvd_neg).mpr this
    rw [show -(b.1 - a.1) = a.1 - b.1 by omega] at this
    exact Int.emod_eq_zero_of_dvd this
  · intro h
    have := Int.dvd_of_emod_eq_zero h
    have := (Int.dvd_neg).mpr this
    rw [show -(a.1 - b.1) = b.1 - a.1 by omega] at this
    exact Int.emod_eq_zero_of_dvd this
/-! ### covers -/
def cnt (c : List Turn) (n : Int) : Nat := c.countP fun t => hold t n
structure Cov (c : List Turn) : Prop where
  trn : ∀ t, t ∈ c → Trn t
  one : ∀ n, cnt c n = 1
theorem cnt_nil (n : Int) : cnt [] n = 0 := rfl
theorem cnt_cons (t : Turn) (c : List Turn) (n : Int) : cnt (t :: c) n = cnt c n + if hold t n = true then 1 else 0 := List.countP_cons
theorem cnt_append (c d : List Turn) (n : Int) : cnt (c ++ d) n = cnt c n + cnt d n := List.countP_append
theorem cnt_perm {c d : List Turn} (h : c.Perm d) (n : Int) : cnt c n = cnt d n := h.countP_eq _
theorem Cov.perm {c d : List Turn} (h : Cov c) (p : c.Perm d) : Cov d := ⟨fun t ht => h.trn t (p.mem_iff.mpr ht), fun n => by rw [← cnt_perm p, h.one]⟩
theorem cov_one : Cov [(0, 1)] := ⟨fun t ht => by rw [List.mem_singleton.mp ht]; exact ⟨by decide, by decide⟩, fun n => by
  rw [cnt_cons, cnt_nil, if_pos ((hold_iff (t := (0, 1)) ⟨by decide, by decide⟩).mpr (Int.one_dvd _))]⟩
theorem cnt_mem {c : List Turn} {t : Turn} {n : Int} (h : t ∈ c) (hn : hold t n = true) : 1 ≤ cnt c n := List.countP_pos_iff.mpr ⟨t, h, hn⟩
theorem apart_of : ∀ {c : List Turn}, (∀ n, cnt c n ≤ 1) → c.Pairwise fun a b => ∀ n, hold a n = true → hold b n = false
  | [], _ => .nil
  | a :: c, h => by
    refine .cons (fun b hb n ha => ?_) (apart_of fun n => by have := h n; rw [cnt_cons] at this; omega)
    cases e : hold b n with
    | false => rfl
    | true =>
      have h1 := cnt_mem hb e
      have h2 := h n
      rw [cnt_cons, if_pos ha] at h2
      omega
theorem Cov.apart {c : List Turn} (h : Cov c) : c.Pairwise fun a b => ∀ n, hold a n = true → hold b n = false := apart_of fun n => Nat.le_of_eq (h.one n)
theorem Cov.nomeet {c : List Turn} (h : Cov c) : c.Pairwise fun a b => meets a b = false := by
  have := h.apart
  refine List.Pairwise.imp_of_mem ?_ this
  intro a b ha hb q
  cases e : meets a b with
  | false => rfl
  | true =>
    obtain ⟨n, h1, h2⟩ := meets_of (h.trn a ha) (h.trn b hb) e
    rw [q n h1] at h2
    cases h2
theorem hold_self {t : Turn} (h : Trn t) : hold t t.1 = true := (hold_iff h).mpr ⟨0, by omega⟩
theorem Cov.nodup {c : List Turn} (h : Cov c) : c.Nodup := by
  have := h.apart
  refine List.Pairwise.imp_of_mem ?_ this
  intro a b ha hb q e
  subst e
  have := q a.1 (hold_self (h.trn a ha))
  rw [hold_self (h.trn a ha)] at this
  cases this
theorem Cov.ne_nil {c : List Turn} (h : Cov c) : c ≠ [] := fun e => by
  have := h.one 0
  rw [e] at this
  cases this

/-! ### counting -/
theorem rng_succ (n : Nat) : rngI 0 (n + 1) = rngI 0 n ++ [(n : Int)] := by
  unfold rngI
  rw [List.range_succ, List.map_append]
  show _ ++ [0 + (n : Int)] = _
  rw [Int.zero_add]
theorem rng_len (a : Int) (n : Nat) : (rngI a n).length = n := by
  unfold rngI
  rw [List.length_map, List.length_range]
theorem rng_mem {a : Int} {n : Nat} {x : Int} : x ∈ rngI a n ↔ a ≤ x ∧ x < a + n := by
  unfold rngI
  rw [List.mem_map]
  constructor
  · rintro ⟨k, hk, rfl⟩
    have := List.mem_range.mp hk
    omega
  · rintro ⟨h1, h2⟩
    exact ⟨(x - a).toNat, List.mem_range.mpr (by omega), by omega⟩
theorem rng_add (n m : Nat) : rngI 0 (n + m) = rngI 0 n ++ rngI (n : Int) m := by
  unfold rngI
  rw [List.range_add, List.map_append, List.map_map]
  congr 1
  refine List.map_congr_left fun k _ => ?_
  show (0 : Int) + ((n + k : Nat) : Int) = (n : Int) + (k : Int)
  omega
/-- a window of one period holds one -/
theorem cnt_window {p f : Int} (h : 0 ≤ f ∧ f < p) (a : Int) : (rngI a p.toNat).countP (fun n => decide (n % p = f)) = 1 := by
  have key : ∀ (m : Nat), (m : Int) ≤ p → (rngI a m).countP (fun n => decide (n % p = f)) = if (f - a) % p < m then 1 else 0 := by
    intro m
    induction m with
    | zero =>
      intro _
      have := Int.emod_nonneg (f - a) (show p ≠ 0 by omega)
      rw [if_neg (by omega)]
      rfl
    | succ m ih =>
      intro hm
      have e : rngI a (m + 1) = rngI a m ++ [a + (m : Int)] := by
        unfold rngI
        rw [List.range_succ, List.map_append]
        rfl
      rw [e, List.countP_append, ih (by omega), List.countP_singleton]
      have h0 := Int.emod_nonneg (f - a) (show p ≠ 0 by omega)
      have hl := Int.emod_lt_of_pos (f - a) (show 0 < p by omega)
      have q : (a + (m : Int)) % p = f ↔ (f - a) % p = m := by
        constructor
        · intro e1
          have e2 := Int.mul_ediv_add_emod (a + m) p
          have : f - a = m + p * (-((a + m) / p)) := by rw [Int.mul_neg]; omega
          rw [this, Int.add_mul_emod_self_left]
          exact Int.emod_eq_of_lt (by omega) (by omega)
        · intro e1
          have e2 := Int.mul_ediv_add_emod (f - a) p
          have : a + (m : Int) = f + p * (-((f - a) / p)) := by rw [Int.mul_neg]; omega
          rw [this, Int.add_mul_emod_self_left]
          exact Int.emod_eq_of_lt h.1 h.2
      by_cases c : (a + (m : Int)) % p = f
      · have := q.mp c
        rw [decide_eq_true c, if_pos rfl, if_neg (by omega), if_pos (by omega)]
      · have : (f - a) % p ≠ m := fun z => c (q.mpr z)
        rw [decide_eq_false c, if_neg Bool.false_ne_true]
        by_cases d : (f - a) % p < m
        · rw [if_pos d, if_pos (by omega)]
        · rw [if_neg d, if_neg (by omega)]
  have := key p.toNat (by omega)
  rw [this, if_pos]
  have := Int.emod_lt_of_pos (f - a) (show 0 < p by omega)
  omega
theorem cnt_windows {p f : Int} (h : 0 ≤ f ∧ f < p) : ∀ k : Nat, (rngI 0 (k * p.toNat)).countP (fun n => decide (n % p = f)) = k
  | 0 => by rw [Nat.zero_mul]; rfl
  | k + 1 => by rw [Nat.succ_mul, rng_add, List.countP_append, cnt_windows h k, cnt_window h]
theorem cnt_turn {t : Turn} (h : Trn t) {W : Int} (hW : 0 ≤ W) (hd : t.2 ∣ W) : (rngI 0 W.toNat).countP (fun n => hold t n) = (W / t.2).toNat := by
  obtain ⟨k, rfl⟩ := hd
  have h1 := h.1
  have h2 := h.2
  have hk : 0 ≤ k := by
    rcases Int.lt_or_le k 0 with q | q
    · have : t.2 * k ≤ t.2 * (-1) := Int.mul_le_mul_of_nonneg_left (by omega) (by omega)
      omega
    · exact q
  rw [Int.mul_ediv_cancel_left _ (by omega), show (t.2 * k).toNat = k.toNat * t.2.toNat by rw [Int.toNat_mul (by omega) hk, Nat.mul_comm]]
  exact cnt_windows h _
theorem sum_cnt (c : List Turn) : ∀ xs : List Int, (xs.map fun n => cnt c n).sum = (c.map fun t => xs.countP fun n => hold t n).sum := by
  induction c with
  | nil =>
    intro xs
    induction xs with
    | nil => rfl
    | cons x xs ih => rw [List.map_cons, List.sum_cons, ih]; rfl
  | cons t c ih =>
    intro xs
    rw [List.map_cons, List.sum_cons, ← ih xs]
    clear ih
    induction xs with
    | nil => rfl
    | cons x xs ih =>
      rw [List.map_cons, List.sum_cons, ih, cnt_cons, List.countP_cons, List.map_cons, List.sum_cons]
      omega
/-- the shares of a round -/
theorem cov_shares {c : List Turn} (h : Cov c) {W : Int} (hW : 0 ≤ W) (hd : ∀ t, t ∈ c → t.2 ∣ W) : (c.map fun t => W / t.2).sum = W := by
  have h1 := sum_cnt c (rngI 0 W.toNat)
  have h2 : ((rngI 0 W.toNat).map fun n => cnt c n).sum = W.toNat := by
    have : ∀ xs : List Int, (xs.map fun n => cnt c n).sum = xs.length := by
      intro xs
      induction xs with
      | nil => rfl
      | cons x xs ih => rw [List.map_cons, List.sum_cons, ih, h.one, List.length_cons]; omega
    rw [this, rng_len]
  rw [h2] at h1
  have h3 : ∀ d : List Turn, (∀ t, t ∈ d → Trn t ∧ t.2 ∣ W) → (((d.map fun t => (rngI 0 W.toNat).countP fun n => hold t n).sum : Nat) : Int) = (d.map fun t => W / t.2).sum := by
    intro d
    induction d with
    | nil => intro _; rfl
    | cons t d ih =>
      intro q
      obtain ⟨q1, q2⟩ := q t List.mem_cons_self
      rw [List.map_cons, List.sum_cons, List.map_cons, List.sum_cons, ← ih (fun s hs => q s (List.mem_cons_of_mem _ hs)), cnt_turn q1 hW q2]
      have : 0 ≤ W / t.2 := Int.ediv_nonneg hW (by have := q1.1; have := q1.2; omega)
      omega
  have h4 := h3 c fun t ht => ⟨h.trn t ht, hd t ht⟩
  omega

/-! ### splits -/
def pcs (t : Turn) (m : Nat) : List Turn := (rngI 0 m).map fun i => (t.1 + i * t.2, (m : Int) * t.2)
theorem pcs_trn {t : Turn} (h : Trn t) {m : Nat} : ∀ s, s ∈ pcs t m → Trn s := by
  intro s hs
  obtain ⟨i, hi, rfl⟩ := List.mem_map.mp hs
  obtain ⟨h0, h1⟩ := rng_mem.mp hi
  have a1 := h.1
  have a2 := h.2
  have b1 : 0 ≤ i * t.2 := Int.mul_nonneg h0 (by omega)
  have b2 : (i + 1) * t.2 ≤ m * t.2 := Int.mul_le_mul_of_nonneg_right (by omega) (by omega)
  rw [Int.add_mul] at b2
  exact ⟨show 0 ≤ t.1 + i * t.2 by omega, show t.1 + i * t.2 < m * t.2 by omega⟩
theorem count_one : ∀ {m : Nat} {j : Int}, 0 ≤ j → j < m → (rngI 0 m).countP (fun i => decide (i = j)) = 1
  | 0, j, h0, h1 => by omega
  | m + 1, j, h0, h1 => by
    rw [rng_succ, List.countP_append, List.countP_singleton]
    by_cases e : (m : Int) = j
    · have z : (rngI 0 m).countP (fun i => decide (i = j)) = 0 := by
        rw [List.countP_eq_zero]
        intro i hi
        have := rng_mem.mp hi
        rw [decide_eq_true_eq]
        omega
      rw [z, decide_eq_true e, if_pos rfl]
    · rw [count_one h0 (by omega), decide_eq_false e, if_neg Bool.false_ne_true]
theorem cnt_pcs {t : Turn} (h : Trn t) {m : Nat} (hm : 0 < m) (n : Int) : cnt (pcs t m) n = if hold t n = true then 1 else 0 := by
  have a1 := h.1
  have a2 := h.2
  have hp : 0 < (m : Int) * t.2 := Int.mul_pos (by omega) (by omega)
  unfold cnt pcs
  rw [List.countP_map]
  have key : ∀ i : Int, 0 ≤ i → i < m → (hold (t.1 + i * t.2, (m : Int) * t.2) n = true ↔ hold t n = true ∧ i = n % ((m : Int) * t.2) / t.2) := by
    intro i h0 h1
    unfold hold
    rw [decide_eq_true_eq, decide_eq_true_eq]
    show n % ((m : Int) * t.2) = t.1 + i * t.2 ↔ _
    have e : n % t.2 = n % ((m : Int) * t.2) % t.2 := (Int.emod_emod_of_dvd n (Int.dvd_mul_left _ _)).symm
    rw [e]
    generalize n % ((m : Int) * t.2) = r
    constructor
    · rintro rfl
      refine ⟨?_, ?_⟩
      · rw [Int.add_mul_emod_self_right]
        exact Int.emod_eq_of_lt a1 a2
      · rw [Int.add_mul_ediv_right _ _ (by omega), Int.ediv_eq_zero_of_lt a1 a2]
        omega
    · rintro ⟨e1, rfl⟩
      have := Int.mul_ediv_add_emod r t.2
      rw [Int.mul_comm]
      omega
  by_cases c : hold t n = true
  · rw [if_pos c]
    have j0 : 0 ≤ n % ((m : Int) * t.2) / t.2 := Int.ediv_nonneg (Int.emod_nonneg _ (by omega)) (by omega)
    have j1 : n % ((m : Int) * t.2) / t.2 < m := by
      have := Int.emod_lt_of_pos n hp
      exact Int.ediv_lt_of_lt_mul (by omega) this
    rw [← count_one j0 j1]
    refine List.countP_congr fun i hi => ?_
    obtain ⟨h0, h1⟩ := rng_mem.mp hi
    show hold (t.1 + i * t.2, (m : Int) * t.2) n = true ↔ _
    rw [key i h0 (by omega), decide_eq_true_eq]
    exact ⟨fun z => z.2, fun z => ⟨c, z⟩⟩
  · rw [if_neg c, List.countP_eq_zero]
    intro i hi
    obtain ⟨h0, h1⟩ := rng_mem.mp hi
    show ¬ hold (t.1 + i * t.2, (m : Int) * t.2) n = true
    rw [key i h0 (by omega)]
    exact fun z => c z.1
theorem Cov.split {l r : List Turn} {t : Turn} (h : Cov (l ++ t :: r)) {m : Nat} (hm : 0 < m) : Cov (l ++ (pcs t m ++ r)) := by
  have ht : Trn t := h.trn t (List.mem_append_right _ List.mem_cons_self)
  refine ⟨fun s hs => ?_, fun n => ?_⟩
  · rcases List.mem_append.mp hs with q | q
    · exact h.trn s (List.mem_append_left _ q)
    · rcases List.mem_append.mp q with q | q
      · exact pcs_trn ht s q
      · exact h.trn s (List.mem_append_right _ (List.mem_cons_of_mem _ q))
  · have := h.one n
    rw [cnt_append, cnt_cons] at this
    rw [cnt_append, cnt_append, cnt_pcs ht hm]
    omega
end Z

/-! M2: operations of typed programs, where they answer; orders; rounds. -/
namespace Z
open PySem (PyData)

/-! ### operations -/
theorem mulP_r {i j : Int} (h0 : -(2 ^ 64) < j) (h1 : j < 2 ^ 64) : mulP i j = ok (i * j) := by
  unfold mulP mulOk
  rw [decide_eq_true h0, decide_eq_true h1, Bool.and_self, Bool.or_true, Bool.true_or, if_pos rfl]
theorem mulP_l {i j : Int} (h0 : -(2 ^ 64) < i) (h1 : i < 2 ^ 64) : mulP i j = ok (i * j) := by
  unfold mulP mulOk
  rw [decide_eq_true h0, decide_eq_true h1, Bool.and_self, Bool.true_or, Bool.true_or, if_pos rfl]
theorem divP_ok {i j : Int} (h0 : 0 < j) (h1 : j < 2 ^ 62) : divP i j = ok (i / j) := by
  unfold divP divOk
  rw [decide_eq_true h0, decide_eq_true h1, Bool.true_or, Bool.and_self, if_pos rfl]
theorem modP_ok {i j : Int} (h0 : 0 < j) : modP i j = ok (i % j) := if_pos h0
theorem rgP_ok {a b : Int} (h0 : -(2 ^ 62) ≤ a) (h1 : a < 2 ^ 62) (h2 : -(2 ^ 62) ≤ b) (h3 : b < 2 ^ 62) : rgP a b = ok (rngI a (b - a).toNat) := by
  unfold rgP rngOk
  rw [decide_eq_true h0, decide_eq_true h1, decide_eq_true h2, decide_eq_true h3, if_pos ⟨rfl, rfl⟩]
theorem ixN_ok {n : Nat} {i : Int} (h0 : 0 ≤ i) (h1 : i < n) : L2.ixN n i = some i.toNat := by
  unfold L2.ixN
  rw [if_pos h0, if_pos h1]
section
variable {α : Type}
theorem atP_get {xs : List α} {i : Int} {x : α} (h0 : 0 ≤ i) (h : xs[i.toNat]? = some x) : atP xs i = ok x := by
  have l : i.toNat < xs.length := by
    rcases Nat.lt_or_ge i.toNat xs.length with q | q
    · exact q
    · rw [List.getElem?_eq_none q] at h; cases h
  unfold atP L2.atI
  rw [ixN_ok h0 (by omega), Option.bind_some, h]
  rfl
theorem atP_ok {xs : List α} {i : Int} (h0 : 0 ≤ i) (h1 : i < xs.length) : atP xs i = ok (xs[i.toNat]'(by omega)) := atP_get h0 (List.getElem?_eq_getElem _)
theorem atP_nat {xs : List α} {i : Nat} (h1 : i < xs.length) : atP xs (i : Int) = ok xs[i] := by
  rw [atP_ok (by omega) (by omega)]
  simp only [Int.toNat_natCast]
theorem atP_last {xs : List α} (h : xs ≠ []) : atP xs (-1) = ok (xs.getLast h) := by
  have l : 0 < xs.length := List.length_pos_iff.mpr h
  unfold atP L2.atI L2.ixN
  rw [if_neg (by decide), if_pos (by omega), Option.bind_some, show (-1 + (xs.length : Int)).toNat = xs.length - 1 by omega, List.getElem?_eq_getElem (by omega), List.getLast_eq_getElem h]
  rfl
theorem setP_ok {xs : List α} {i : Int} {v : α} (h0 : 0 ≤ i) (h1 : i < xs.length) : setP xs i v = ok (xs.set i.toNat v) := by
  unfold setP
  rw [ixN_ok h0 h1]
  rfl
theorem appP_ok {xs : List α} {v : α} (h : xs.length < 16000000) : appP xs v = ok (xs ++ [v]) := if_pos (Nat.lt_of_lt_of_le h line_big)
theorem addP_ok {xs ys : List α} (h : xs.length + ys.length ≤ 16000000) : addP xs ys = ok (xs ++ ys) := if_pos (Nat.le_trans h line_big)
theorem mapT_sz {β : Type} {h : α → β} {xs : List α} (l : xs.length ≤ 16000000) : mapT h xs = ok (xs.map h) := mapT_ok (Nat.le_trans l line_big)
theorem filT_sz {β : Type} {p : α → Bool} {h : α → β} {xs : List α} (l : xs.length ≤ 16000000) : filT p h xs = ok ((xs.filter p).map h) := filT_ok (Nat.le_trans l line_big)
theorem mapP_sz {β : Type} {f : α → P (Option β)} {h : α → β} {xs : List α} (hf : ∀ x, x ∈ xs → f x = ok (some (h x))) (l : xs.length ≤ 16000000) : mapP f [] xs = ok (xs.map h) := mapP_map hf (Nat.le_trans l line_big)
theorem cutA_to {xs : List α} {i : Int} (h0 : 0 ≤ i) : cutA xs none (some i) = xs.take i.toNat := by
  unfold cutA
  have : HT.sIx xs.length xs.length (some i) = min i.toNat xs.length := by
    show (if i < 0 then _ else _) = _
    rw [if_neg (by omega)]
  rw [this]
  show (xs.drop 0).take (min i.toNat xs.length - 0) = _
  rw [List.drop_zero, Nat.sub_zero, List.take_eq_take_iff]
  omega
theorem cutA_from {xs : List α} {i : Int} (h0 : 0 ≤ i) : cutA xs (some i) none = xs.drop i.toNat := by
  unfold cutA
  have : HT.sIx xs.length 0 (some i) = min i.toNat xs.length := by
    show (if i < 0 then _ else _) = _
    rw [if_neg (by omega)]
  rw [this]
  show (xs.drop (min i.toNat xs.length)).take (xs.length - min i.toNat xs.length) = _
  rcases Nat.le_total i.toNat xs.length with h | h
  · rw [Nat.min_eq_left h, List.take_of_length_le (by rw [List.length_drop]; omega)]
  · rw [Nat.min_eq_right h, List.drop_length, List.drop_of_length_le h, List.take_nil]
theorem enumI_len (k : Nat) (xs : List α) : (enumI k xs).length = xs.length := by
  induction xs generalizing k with
  | nil => rfl
  | cons x xs ih => show (enumI (k + 1) xs).length + 1 = _; rw [ih, List.length_cons]
theorem enumI_mem {k : Nat} {xs : List α} {p : Int × α} : p ∈ enumI k xs → ∃ j : Nat, p.1 = k + j ∧ xs[j]? = some p.2 := by
  induction xs generalizing k with
  | nil => intro h; cases h
  | cons x xs ih =>
    intro h
    rcases List.mem_cons.mp h with rfl | h
    · exact ⟨0, by show (k : Int) = _; omega, rfl⟩
    · obtain ⟨j, h1, h2⟩ := ih h
      exact ⟨j + 1, by rw [h1]; omega, by simpa using h2⟩
end

/-! ### orders -/
theorem ltP_iff {x y : Int × Int} : ltP x y = true ↔ x.1 < y.1 ∨ (x.1 = y.1 ∧ x.2 < y.2) := by
  unfold ltP
  by_cases h : x.1 = y.1
  · rw [if_pos h, decide_eq_true_eq]; omega
  · rw [if_neg h, decide_eq_true_eq]; omega
/-- strictly ascending -/
def Asc (c : List (Int × Int)) : Prop := c.Pairwise fun a b => ltP a b = true
theorem asc_sort {c : List (Int × Int)} (h : c.Nodup) : Asc (sortP c) := by
  have h1 := sortP_pair c
  have h2 : (sortP c).Nodup := (sortP_perm c).nodup_iff.mpr h
  refine List.Pairwise.imp ?_ (h1.and h2)
  rintro a b ⟨q1, q2⟩
  rw [leP_iff] at q1
  rw [ltP_iff]
  rcases q1 with q | ⟨q, r⟩
  · exact .inl q
  · refine .inr ⟨q, ?_⟩
    rcases Int.lt_or_le a.2 b.2 with z | z
    · exact z
    · exact absurd (Prod.ext q (by omega)) q2
theorem asc_leP {c : List (Int × Int)} (h : Asc c) : c.Pairwise fun a b => leP a b = true := by
  refine List.Pairwise.imp ?_ h
  intro a b q
  rw [ltP_iff] at q
  rw [leP_iff]
  omega
theorem sort_asc {c : List (Int × Int)} (h : Asc c) : sortP c = c := pairs_one (sortP_perm c) (sortP_pair c) (asc_leP h)
theorem sort_perm {c d : List (Int × Int)} (h : c.Perm d) : sortP c = sortP d := pairs_one ((sortP_perm c).trans (h.trans (sortP_perm d).symm)) (sortP_pair c) (sortP_pair d)
theorem adj_zip {α : Type} {r : α → α → Bool} : ∀ {xs : List α}, xs.Pairwise (fun a b => r a b = true) → ((xs.zip (xs.drop 1)).map fun p => r p.1 p.2).all id = true
  | [], _ => rfl
  | [x], _ => rfl
  | x :: y :: xs, h => by
    have h1 := (List.pairwise_cons.mp h).1 y List.mem_cons_self
    have h2 := adj_zip (xs := y :: xs) (List.pairwise_cons.mp h).2
    show (r x y && _) = true
    rw [h1, Bool.true_and]
    exact h2
theorem asc_adj {c : List (Int × Int)} (h : Asc c) : ((c.zip (cutA c (some 1) none)).map fun p => ltP p.1 p.2).all id = true := by
  rw [cutA_from (by decide)]
  exact adj_zip h

/-! ### rounds -/
def lcmI (a b : Int) : Int := a * b / (Int.gcd a b : Nat)
def lcmL (xs : List Int) : Int := xs.foldl lcmI 1
theorem gcd_pos {a b : Int} (h : 0 < b) : 0 < ((Int.gcd a b : Nat) : Int) := by
  have := Int.gcd_pos_of_ne_zero_right a (show b ≠ 0 by omega)
  omega
theorem lcmI_eq (a b : Int) : ((Int.gcd a b : Nat) : Int) * lcmI a b = a * b := by
  unfold lcmI
  exact Int.mul_ediv_cancel' (Int.dvd_trans (Int.gcd_dvd_left a b) (Int.dvd_mul_right a b))
theorem lcmI_pos {a b : Int} (ha : 0 < a) (hb : 0 < b) : 0 < lcmI a b := by
  have e := lcmI_eq a b
  have g := gcd_pos (a := a) hb
  have := Int.mul_pos ha hb
  rw [← e] at this
  rcases Int.lt_or_le 0 (lcmI a b) with q | q
  · exact q
  · have : ((Int.gcd a b : Nat) : Int) * lcmI a b ≤ ((Int.gcd a b : Nat) : Int) * 0 := Int.mul_le_mul_of_nonneg_left q (Int.le_of_lt g)
    omega
theorem lcmI_left {a b : Int} (hb : 0 < b) : a ∣ lcmI a b := by
  obtain ⟨k, hk⟩ := Int.gcd_dvd_right a b
  refine ⟨k, ?_⟩
  have g := gcd_pos (a := a) hb
  unfold lcmI
  have : a * b = ((Int.gcd a b : Nat) : Int) * (a * k) := by
    have : a * b = a * (((Int.gcd a b : Nat) : Int) * k) := by rw [← hk]
    rw [this, Int.mul_left_comm]
  rw [this, Int.mul_ediv_cancel_left _ (by omega)]
theorem lcmI_right {a b : Int} (hb : 0 < b) : b ∣ lcmI a b := by
  obtain ⟨k, hk⟩ := Int.gcd_dvd_left a b
  refine ⟨k, ?_⟩
  have g := gcd_pos (a := a) hb
  unfold lcmI
  have : a * b = ((Int.gcd a b : Nat) : Int) * (b * k) := by
    have : a * b = (((Int.gcd a b : Nat) : Int) * k) * b := by rw [← hk]
    rw [this, Int.mul_assoc, Int.mul_comm k b]
  rw [this, Int.mul_ediv_cancel_left _ (by omega)]
theorem lcmI_dvd {a b w : Int} (ha : 0 < a) (hb : 0 < b) (h1 : a ∣ w) (h2 : b ∣ w) : lcmI a b ∣ w := by
  obtain ⟨x, y, e⟩ := bezoutI (p := a) (q := b) (by omega) (by omega)
  have g := gcd_pos (a := a) hb
  obtain ⟨u, hu⟩ := h1
  obtain ⟨v, hv⟩ := h2
  have e2 := lcmI_eq a b
  refine ⟨x * v + y * u, ?_⟩
  have e3 : ((Int.gcd a b : Nat) : Int) * w = ((Int.gcd a b : Nat) : Int) * (lcmI a b * (x * v + y * u)) := by
    rw [← Int.mul_assoc, e2, ← e, Int.add_mul, Int.mul_add]
    have p1 : a * x * w = a * b * (x * v) := by rw [hv]; grind
    have p2 : b * y * w = a * b * (y * u) := by rw [hu]; grind
    rw [p1, p2]
  exact Int.eq_of_mul_eq_mul_left (by omega) e3
theorem lcm_go {xs : List Int} (hx : ∀ x, x ∈ xs → 0 < x) : ∀ {a : Int}, 0 < a → 0 < xs.foldl lcmI a ∧ a ∣ xs.foldl lcmI a ∧ (∀ x, x ∈ xs → x ∣ xs.foldl lcmI a) ∧ ∀ w, a ∣ w → (∀ x, x ∈ xs → x ∣ w) → xs.foldl lcmI a ∣ w := by
  induction xs with
  | nil => intro a ha; exact ⟨ha, Int.dvd_refl a, fun x h => (nomatch h), fun w h _ => h⟩
  | cons x xs ih =>
    intro a ha
    have px := hx x List.mem_cons_self
    obtain ⟨i1, i2, i3, i4⟩ := ih (fun y hy => hx y (List.mem_cons_of_mem _ hy)) (lcmI_pos ha px)
    refine ⟨i1, Int.dvd_trans (lcmI_left px) i2, fun y hy => ?_, fun w h1 h2 => i4 w (lcmI_dvd ha px h1 (h2 x List.mem_cons_self)) fun y hy => h2 y (List.mem_cons_of_mem _ hy)⟩
    rcases List.mem_cons.mp hy with rfl | hy
    · exact Int.dvd_trans (lcmI_right px) i2
    · exact i3 y hy
theorem lcmL_pos {xs : List Int} (hx : ∀ x, x ∈ xs → 0 < x) : 0 < lcmL xs := (lcm_go hx (by decide)).1
theorem dvd_lcmL {xs : List Int} (hx : ∀ x, x ∈ xs → 0 < x) {x : Int} (h : x ∈ xs) : x ∣ lcmL xs := (lcm_go hx (by decide)).2.2.1 x h
theorem lcmL_dvd {xs : List Int} (hx : ∀ x, x ∈ xs → 0 < x) {w : Int} (h : ∀ x, x ∈ xs → x ∣ w) : lcmL xs ∣ w := (lcm_go hx (by decide)).2.2.2 w (Int.one_dvd w) h
theorem lcmL_le {xs : List Int} (hx : ∀ x, x ∈ xs → 0 < x) {w : Int} (hw : 0 < w) (h : ∀ x, x ∈ xs → x ∣ w) : lcmL xs ≤ w := Int.le_of_dvd hw (lcmL_dvd hx h)
theorem le_lcmL {xs : List Int} (hx : ∀ x, x ∈ xs → 0 < x) {x : Int} (h : x ∈ xs) : x ≤ lcmL xs := Int.le_of_dvd (lcmL_pos hx) (dvd_lcmL hx h)
theorem lcmL_perm {xs ys : List Int} (hx : ∀ x, x ∈ xs → 0 < x) (p : xs.Perm ys) : lcmL xs = lcmL ys := by
  have hy : ∀ y, y ∈ ys → 0 < y := fun y h => hx y (p.mem_iff.mpr h)
  have a := lcmL_le hx (lcmL_pos hy) fun x h => dvd_lcmL hy (p.mem_iff.mp h)
  have b := lcmL_le hy (lcmL_pos hx) fun x h => dvd_lcmL hx (p.mem_iff.mpr h)
  omega
/-- the periods -/
def prs (c : List (Int × Int)) : List Int := c.map (·.2)
theorem prs_pos {c : List (Int × Int)} (h : ∀ t, t ∈ c → Trn t) : ∀ x, x ∈ prs c → 0 < x := by
  intro x hx
  obtain ⟨t, ht, rfl⟩ := List.mem_map.mp hx
  have := h t ht
  have := this.1
  have := (h t ht).2
  show 0 < t.2
  omega
/-- what the program takes for a cover -/
structure Good (c : List (Int × Int)) : Prop extends Cov c where
  asc : Asc c
  len : c.length ≤ 40
  rnd : lcmL (prs c) ≤ 5040
theorem Good.per {c : List (Int × Int)} (h : Good c) {t : Int × Int} (ht : t ∈ c) : 0 < t.2 ∧ t.2 ≤ 5040 := by
  have hp := prs_pos h.trn
  have hm : t.2 ∈ prs c := List.mem_map.mpr ⟨t, ht, rfl⟩
  exact ⟨hp _ hm, Int.le_trans (le_lcmL hp hm) h.rnd⟩
theorem good_sort {c : List (Int × Int)} (h : Cov c) (l : c.length ≤ 40) (r : lcmL (prs c) ≤ 5040) : Good (sortP c) := by
  have p := (sortP_perm c).symm
  refine ⟨h.perm p, asc_sort h.nodup, by rw [(sortP_perm c).length_eq]; exact l, ?_⟩
  have e : lcmL (prs c) = lcmL (prs (sortP c)) := lcmL_perm (prs_pos h.trn) (p.map _)
  rw [← e]
  exact r
end Z

/-! M3: primes by trial division. -/
namespace Z
open PySem (PyData)
/-- the primes by trial division, with the number of steps -/
inductive Fac : Int → Int → List Int → Nat → Prop
  | one {p : Int} : Fac 1 p [] 0
  | div {n p : Int} {l : List Int} {k : Nat} : 1 < n → n % p = 0 → Fac (n / p) p l k → Fac n p (p :: l) (k + 1)
  | inc {n p : Int} {l : List Int} {k : Nat} : 1 < n → n % p ≠ 0 → p < n → Fac n (p + 1) l k → Fac n p l (k + 1)
theorem div_fact {n p : Int} (hn : 1 < n) (hp : 2 ≤ p) (h : n % p = 0) : 1 ≤ n / p ∧ p * (n / p) = n := by
  have e : p * (n / p) = n := by
    have := Int.mul_ediv_add_emod n p
    omega
  refine ⟨?_, e⟩
  rcases Int.lt_or_le (n / p) 1 with h1 | h1
  · have h2 : p * (n / p) ≤ p * 0 := Int.mul_le_mul_of_nonneg_left (by omega) (by omega)
    omega
  · exact h1
theorem fac_ex : ∀ (k : Nat) (n p : Int), 1 ≤ n → 2 ≤ p → (∀ d : Int, 2 ≤ d → d ∣ n → p ≤ d) → (2 * n - p).toNat ≤ k → ∃ l j, Fac n p l j ∧ j ≤ k
  | k, n, p, hn, hp, hd, hk => by
    rcases Int.lt_or_le 1 n with h1 | h1
    · have hpn : p ≤ n := hd n (by omega) ⟨1, by omega⟩
      match k, hk with
      | 0, hk => exact absurd hk (by omega)
      | k + 1, hk =>
        by_cases h : n % p = 0
        · obtain ⟨g1, g2⟩ := div_fact h1 hp h
          have g3 : 2 * (n / p) ≤ p * (n / p) := Int.mul_le_mul_of_nonneg_right hp (by omega)
          obtain ⟨l, j, h2, h3⟩ := fac_ex k (n / p) p g1 hp (fun d hd1 hd2 => hd d hd1 (g2 ▸ Int.dvd_mul_of_dvd_right hd2)) (by omega)
          exact ⟨p :: l, j + 1, .div h1 h h2, by omega⟩
        · have hlt : p < n := by
            rcases Int.lt_or_le p n with h2 | h2
            · exact h2
            · have : n = p := by omega
              subst this
              exact absurd (Int.emod_self) h
          obtain ⟨l, j, h2, h3⟩ := fac_ex k n (p + 1) hn (by omega) (fun d hd1 hd2 => by
            have := hd d hd1 hd2
            rcases Int.lt_or_le p d with h3 | h3
            · omega
            · have : d = p := by omega
              subst this
              exact absurd (Int.emod_eq_zero_of_dvd hd2) h) (by omega)
          exact ⟨l, j + 1, .inc h1 h hlt h2, by omega⟩
    · have : n = 1 := by omega
      subst this
      exact ⟨[], 0, .one, by omega⟩
theorem fac_sum {n p : Int} {l : List Int} {k : Nat} (h : Fac n p l k) (hp : 2 ≤ p) : 0 ≤ (l.map (· - 1)).sum ∧ (l.map (· - 1)).sum ≤ n - 1 := by
  induction h with
  | one => exact ⟨by decide, by decide⟩
  | div h1 h2 h3 ih =>
    obtain ⟨i1, i2⟩ := ih hp
    obtain ⟨g1, g2⟩ := div_fact h1 hp h2
    rw [List.map_cons, List.sum_cons]
    refine ⟨by omega, ?_⟩
    rename_i n p l k
    have : 0 ≤ (p - 1) * (n / p - 1) := Int.mul_nonneg (by omega) (by omega)
    rw [Int.sub_mul, Int.mul_sub, g2] at this
    omega
  | inc h1 h2 h3 h4 ih =>
    exact ih (by omega)
theorem fac_len {n p : Int} {l : List Int} {k : Nat} (h : Fac n p l k) : l.length ≤ k := by
  induction h with
  | one => exact Nat.le_refl _
  | div h1 h2 h3 ih => rw [List.length_cons]; omega
  | inc h1 h2 h3 h4 ih => omega
/-- the loop of a program: divide where it can be done, else go on -/
theorem fac_loop {c : Int × List Int × Int → P Bool} {b : Int × List Int × Int → P (Int × List Int × Int)} (hc : ∀ n fs p, c (n, fs, p) = ok (decide (1 < n))) (hb1 : ∀ n fs p, 2 ≤ p → p < 2 ^ 62 → fs.length < 16000000 → n % p = 0 → b (n, fs, p) = ok (n / p, fs ++ [p], p)) (hb2 : ∀ n fs p, 2 ≤ p → n % p ≠ 0 → b (n, fs, p) = ok (n, fs, p + 1))
    {n p : Int} {l : List Int} {k : Nat} (h : Fac n p l k) (hp : 2 ≤ p) : ∀ (F : Nat) (fs : List Int), k < F → n < 2 ^ 62 → fs.length + k ≤ 100000 → ∃ q : Int, whlP c b F (n, fs, p) = ok (1, fs ++ l, q) := by
  induction h with
  | one =>
    rename_i p
    intro F fs hF _ _
    match F, hF with
    | F + 1, _ => exact ⟨p, by rw [whlP_end (hc _ _ _), List.append_nil]⟩
  | div h1 h2 h3 ih =>
    rename_i n p l k
    intro F fs hF hb hl
    obtain ⟨g1, g2⟩ := div_fact h1 hp h2
    match F, hF with
    | F + 1, hF =>
      have hpn : p ≤ n := by
        have : p * 1 ≤ p * (n / p) := Int.mul_le_mul_of_nonneg_left g1 (by omega)
        omega
      obtain ⟨q, hq⟩ := ih hp F (fs ++ [p]) (by omega) (by have : 2 * (n / p) ≤ p * (n / p) := Int.mul_le_mul_of_nonneg_right hp (by omega); omega) (by rw [List.length_append]; show fs.length + 1 + k ≤ _; omega)
      rw [List.append_assoc] at hq
      exact ⟨q, by rw [whlP_step ((hc _ _ _).trans (by rw [decide_eq_true h1])) (hb1 _ _ _ hp (by omega) (by omega) h2)]; exact hq⟩
  | inc h1 h2 h3 h4 ih =>
    rename_i n p l k
    intro F fs hF hb hl
    match F, hF with
    | F + 1, hF =>
      obtain ⟨q, hq⟩ := ih (by omega) F fs (by omega) hb (by omega)
      exact ⟨q, by rw [whlP_step ((hc _ _ _).trans (by rw [decide_eq_true h1])) (hb2 _ _ _ hp h2)]; exact hq⟩
/-- the loops of a law: the inner one divides -/
theorem fac_in {p : Int} {c : Int × List Int → P Bool} {b : Int × List Int → P (Int × List Int)} (hp : 2 ≤ p) (hc : ∀ n fs, c (n, fs) = ok (decide (n % p = 0))) (hb1 : ∀ n fs, p < 2 ^ 62 → fs.length < 16000000 → n % p = 0 → b (n, fs) = ok (n / p, fs ++ [p]))
    {n : Int} {l : List Int} {k : Nat} (h : Fac n p l k) : ∀ (F : Nat) (fs : List Int), k < F → n < 2 ^ 62 → fs.length + k ≤ 100000 → ∃ n' l1 l2 k', l = l1 ++ l2 ∧ Fac n' p l2 k' ∧ k' + l1.length ≤ k ∧ n' % p ≠ 0 ∧ n' ≤ n ∧ whlP c b F (n, fs) = ok (n', fs ++ l1) := by
  generalize hq : p = q at h
  induction h with
  | one =>
    rename_i q
    subst hq
    intro F fs hF _ _
    have e : (1 : Int) % p = 1 := Int.emod_eq_of_lt (by decide) (by omega)
    match F, hF with
    | F + 1, _ => exact ⟨1, [], [], 0, rfl, .one, Nat.le_refl _, by omega, Int.le_refl _, by rw [whlP_end ((hc _ _).trans (by rw [e]; rfl)), List.append_nil]⟩
  | div h1 h2 h3 ih =>
    rename_i n q l k
    subst hq
    intro F fs hF hb hl
    obtain ⟨g1, g2⟩ := div_fact h1 hp h2
    match F, hF with
    | F + 1, hF =>
      have g3 : 2 * (n / p) ≤ p * (n / p) := Int.mul_le_mul_of_nonneg_right hp (by omega)
      obtain ⟨n', l1, l2, k', a1, a2, a3, a4, a5, hq⟩ := ih rfl F (fs ++ [p]) (by omega) (by omega) (by rw [List.length_append]; show fs.length + 1 + k ≤ _; omega)
      rw [List.append_assoc] at hq
      have hpn : p ≤ n := by
        have : p * 1 ≤ p * (n / p) := Int.mul_le_mul_of_nonneg_left g1 (by omega)
        omega
      exact ⟨n', p :: l1, l2, k', by rw [a1]; rfl, a2, by rw [List.length_cons]; omega, a4, by omega, by rw [whlP_step ((hc _ _).trans (by rw [decide_eq_true h2])) (hb1 _ _ (by omega) (by omega) h2)]; exact hq⟩
  | inc h1 h2 h3 h4 ih =>
    rename_i n q l k
    subst hq
    intro F fs hF hb hl
    match F, hF with
    | F + 1, hF => exact ⟨n, [], l, k + 1, rfl, .inc h1 h2 h3 h4, Nat.le_refl _, h2, Int.le_refl _, by rw [whlP_end ((hc _ _).trans (by rw [decide_eq_false h2])), List.append_nil]⟩
theorem fac_out {c : Int × List Int × Int → P Bool} {b : Int × List Int × Int → P (Int × List Int × Int)} (hc : ∀ n fs p, c (n, fs, p) = ok (decide (p ≤ n))) (B : Nat)
    (hb : ∀ n fs p l k, 2 ≤ p → Fac n p l k → k < B → n < 2 ^ 62 → fs.length + k ≤ 100000 → ∃ n' l1 l2 k', l = l1 ++ l2 ∧ Fac n' p l2 k' ∧ k' + l1.length ≤ k ∧ n' % p ≠ 0 ∧ n' ≤ n ∧ b (n, fs, p) = ok (n', fs ++ l1, p + 1)) : ∀ (F k : Nat) (n p : Int) (l : List Int) (fs : List Int), Fac n p l k → 2 ≤ p → k < F → k < B → n < 2 ^ 62 → fs.length + k ≤ 100000 → ∃ q : Int,
    whlP c b F (n, fs, p) = ok (1, fs ++ l, q)
  | 0, k, n, p, l, fs, _, _, hk, _, _, _ => absurd hk (by omega)
  | F + 1, k, n, p, l, fs, h, hp, hk, hk0, hn, hl => by
    have go : 1 < n → p ≤ n → 0 < k → ∃ q : Int, whlP c b (F + 1) (n, fs, p) = ok (1, fs ++ l, q) := by
      intro h1 hpn k0
      obtain ⟨n', l1, l2, k', a1, a2, a3, a4, a5, hq⟩ := hb n fs p l k hp h hk0 hn hl
      have fin : ∃ k2, Fac n' (p + 1) l2 k2 ∧ k2 ≤ k - 1 ∧ k2 + l1.length ≤ k := by
        cases a2 with
        | one => exact ⟨0, .one, by omega, by omega⟩
        | div b1 b2 b3 => exact absurd b2 a4
        | inc b1 b2 b3 b4 => exact ⟨_, b4, by omega, by omega⟩
      obtain ⟨k2, b1, b2, b3⟩ := fin
      obtain ⟨q, hw⟩ := fac_out hc B hb F k2 n' (p + 1) l2 (fs ++ l1) b1 (by omega) (by omega) (by omega) (by omega) (by rw [List.length_append]; omega)
      refine ⟨q, ?_⟩
      rw [a1, ← List.append_assoc, whlP_step ((hc _ _ _).trans (by rw [decide_eq_true hpn])) hq]
      exact hw
    cases h with
    | one => exact ⟨p, by rw [whlP_end ((hc _ _ _).trans (by rw [decide_eq_false (by omega)])), List.append_nil]⟩
    | div b1 b2 b3 =>
      obtain ⟨g1, g2⟩ := div_fact b1 hp b2
      have hpn : p ≤ n := by
        have : p * 1 ≤ p * (n / p) := Int.mul_le_mul_of_nonneg_left g1 (by omega)
        omega
      exact go b1 hpn (by omega)
    | inc b1 b2 b3 b4 => exact go b1 (by omega) (by omega)
end Z

/-! M4: covers that are given; texts of values; greatest ones. -/
namespace Z
open PySem (PyData)
/-- a cover by a look at one round -/
def covB (W : Nat) (c : List (Int × Int)) : Bool := (c.all fun t => decide (0 ≤ t.1) && decide (t.1 < t.2) && decide ((W : Int) % t.2 = 0)) && (List.range W).all fun n => decide (cnt c (n : Nat) = 1)
theorem hold_mod {t : Int × Int} {W n : Int} (h : t.2 ∣ W) : hold t (n % W) = hold t n := by
  unfold hold
  rw [Int.emod_emod_of_dvd n h]
theorem cnt_mod {c : List (Int × Int)} {W n : Int} (h : ∀ t, t ∈ c → t.2 ∣ W) : cnt c (n % W) = cnt c n := by
  unfold cnt
  refine List.countP_congr fun t ht => ?_
  rw [hold_mod (h t ht)]
theorem covB_ok {W : Nat} {c : List (Int × Int)} (hW : 0 < W) (h : covB W c = true) : Cov c := by
  unfold covB at h
  rw [Bool.and_eq_true, List.all_eq_true, List.all_eq_true] at h
  have ht : ∀ t, t ∈ c → Trn t ∧ t.2 ∣ (W : Int) := fun t ht => by
    have := h.1 t ht
    simp only [Bool.and_eq_true, decide_eq_true_eq] at this
    exact ⟨⟨this.1.1, this.1.2⟩, Int.dvd_of_emod_eq_zero this.2⟩
  refine ⟨fun t q => (ht t q).1, fun n => ?_⟩
  rw [← cnt_mod (W := (W : Int)) fun t q => (ht t q).2]
  have h0 := Int.emod_nonneg n (show (W : Int) ≠ 0 by omega)
  have h1 := Int.emod_lt_of_pos n (show 0 < (W : Int) by omega)
  have := h.2 (n % W).toNat (List.mem_range.mpr (by omega))
  rw [decide_eq_true_eq, Int.toNat_of_nonneg h0] at this
  exact this
instance (c : List (Int × Int)) : Decidable (Asc c) := inferInstanceAs (Decidable (c.Pairwise fun a b => ltP a b = true))
theorem good_by {W : Nat} {c : List (Int × Int)} (hW : 0 < W) (hW2 : W ≤ 5040) (h : (covB W c && decide (Asc c) && decide (c.length ≤ 40)) = true) : Good c := by
  simp only [Bool.and_eq_true, decide_eq_true_eq] at h
  obtain ⟨⟨h1, h2⟩, h3⟩ := h
  have hc := covB_ok hW h1
  have hd : ∀ t, t ∈ c → t.2 ∣ (W : Int) := fun t ht => by
    unfold covB at h1
    rw [Bool.and_eq_true, List.all_eq_true] at h1
    have := h1.1 t ht
    simp only [Bool.and_eq_true, decide_eq_true_eq] at this
    exact Int.dvd_of_emod_eq_zero this.2
  refine ⟨hc, h2, h3, ?_⟩
  have := lcmL_le (prs_pos hc.trn) (show 0 < (W : Int) by omega) fun x hx => by
    obtain ⟨t, ht, rfl⟩ := List.mem_map.mp hx
    exact hd t ht
  omega

/-! ### texts -/
theorem reprP_list {ds : List D} (h : showOk (.list ds) = true) : reprP (.list ds) = ok (PyData.shown (.list ds)) := by
  unfold reprP
  have : b1D .repr (.list ds) = some (.v (.str (PyData.shown (.list ds)))) := by
    show (if showOk (.list ds) = true then _ else _) = _
    rw [if_pos h]
  rw [this]
theorem reprP_tup {ds : List D} (h : showOk (.tuple ds) = true) : reprP (.tuple ds) = ok (PyData.shown (.tuple ds)) := by
  unfold reprP
  have : b1D .repr (.tuple ds) = some (.v (.str (PyData.shown (.tuple ds)))) := by
    show (if showOk (.tuple ds) = true then _ else _) = _
    rw [if_pos h]
  rw [this]
theorem reprP_int {i : Int} (h : i.natAbs < 10 ^ 12) : reprP (.int i) = ok (toString i : PySem.Str) := by
  have h' := (Sm.int h).1
  rw [PyData.showable, decide_eq_true_eq] at h'
  have e : b1D .repr (.int i) = some (.v (.str (toString i))) := by
    show (if i.natAbs.log2 < 1920 then _ else _) = _
    rw [if_pos h']
  unfold reprP
  rw [e]
theorem Sm.ints {xs : List Int} (h : ∀ x, x ∈ xs → x.natAbs < 10 ^ 12) : Sm (eL eI xs) 1 (xs.length * 41) := by
  have := Sm.list (k := 0) (w := 40) (ds := xs.map eI) fun d hd => by
    obtain ⟨x, hx, rfl⟩ := List.mem_map.mp hd
    exact Sm.int (h x hx)
  rw [List.length_map] at this
  exact this
theorem Sm.pair {p : Int × Int} (h : p.1.natAbs < 10 ^ 12 ∧ p.2.natAbs < 10 ^ 12) : Sm (eP eI eI p) 1 82 := by
  have := Sm.tuple (k := 0) (w := 40) (ds := [eI p.1, eI p.2]) fun d hd => by
    rcases List.mem_cons.mp hd with rfl | hd
    · exact Sm.int h.1
    · rw [List.mem_singleton.mp hd]
      exact Sm.int h.2
  exact this
theorem Sm.pairs {c : List (Int × Int)} (h : ∀ t, t ∈ c → t.1.natAbs < 10 ^ 12 ∧ t.2.natAbs < 10 ^ 12) : Sm (eT (eP eI eI) c) 2 (c.length * 83) := by
  have := Sm.tuple (k := 1) (w := 82) (ds := c.map (eP eI eI)) fun d hd => by
    obtain ⟨x, hx, rfl⟩ := List.mem_map.mp hd
    exact Sm.pair (h x hx)
  rw [List.length_map] at this
  exact this
theorem Good.sm {c : List (Int × Int)} (h : Good c) : Sm (eT (eP eI eI) c) 2 3320 := (Sm.pairs fun t ht => by
  have := h.trn t ht
  have a1 := this.1
  have a2 := this.2
  have := h.per ht
  omega).mono (Nat.le_refl _) (by have := h.len; omega)
theorem Good.repr {c : List (Int × Int)} (h : Good c) : reprP (eT (eP eI eI) c) = ok (PyData.shown (eT (eP eI eI) c)) := reprP_tup (h.sm.ok (by decide) (by decide))
/-- the greatest one -/
theorem maxP_ok {xs : List Int} (h : xs ≠ []) : ∃ m, maxP xs = ok m ∧ ∀ k, k ∈ xs → (∀ y, y ∈ xs → y ≤ k) → k = m := by
  cases xs with
  | nil => exact absurd rfl h
  | cons x r =>
    refine ⟨r.foldl max x, rfl, ?_⟩
    exact (maxL_is (ns := x :: r) rfl).2
theorem last_most {xs : List Int} (h : sortI xs ≠ []) : (sortI xs).getLast h ∈ xs ∧ ∀ y, y ∈ xs → y ≤ (sortI xs).getLast h := by
  have p := sortI_perm xs
  refine ⟨p.mem_iff.mp (List.getLast_mem h), fun y hy => ?_⟩
  have hy := p.mem_iff.mpr hy
  obtain ⟨i, hi⟩ := List.mem_iff_getElem?.mp hy
  have li : i < (sortI xs).length := by
    rcases Nat.lt_or_ge i (sortI xs).length with q | q
    · exact q
    · rw [List.getElem?_eq_none q] at hi; cases hi
  rw [List.getElem?_eq_getElem li] at hi
  have hi := Option.some.inj hi
  rw [List.getLast_eq_getElem h, ← hi]
  by_cases e : i = (sortI xs).length - 1
  · subst e
    exact Int.le_refl _
  · exact List.pairwise_iff_getElem.mp (sortI_pair xs) i ((sortI xs).length - 1) li (by omega) (by omega)
theorem sortI_len (xs : List Int) : (sortI xs).length = xs.length := (sortI_perm xs).length_eq
/-- a pen -/
def Pen (p : List Int) : Prop := ∃ a b c : Int, p = [a, b, c] ∧ 0 ≤ b ∧ b < 2 ^ 31
theorem at30 (x y z : Int) : atP [x, y, z] 0 = ok x := rfl
theorem at31 (x y z : Int) : atP [x, y, z] 1 = ok y := rfl
theorem at32 (x y z : Int) : atP [x, y, z] 2 = ok z := rfl
theorem set30 (x y z v : Int) : setP [x, y, z] 0 v = ok [v, y, z] := rfl
theorem set31 (x y z v : Int) : setP [x, y, z] 1 v = ok [x, v, z] := rfl
theorem set32 (x y z v : Int) : setP [x, y, z] 2 v = ok [x, y, v] := rfl
end Z

/-! M5: families; fractions in lowest terms; long divisions. -/
namespace Z
open PySem (PyData)
/-- what the program takes for a family -/
structure Fam (c : List (Int × Int)) : Prop where
  trn : ∀ t, t ∈ c → Trn t
  asc : Asc c
  len : c.length ≤ 40
  rnd : lcmL (prs c) ≤ 5040
theorem Good.fam {c : List (Int × Int)} (h : Good c) : Fam c := ⟨h.trn, h.asc, h.len, h.rnd⟩
theorem Fam.per {c : List (Int × Int)} (h : Fam c) {t : Int × Int} (ht : t ∈ c) : 0 < t.2 ∧ t.2 ≤ 5040 := by
  have hp := prs_pos h.trn
  have hm : t.2 ∈ prs c := List.mem_map.mpr ⟨t, ht, rfl⟩
  exact ⟨hp _ hm, Int.le_trans (le_lcmL hp hm) h.rnd⟩
theorem Fam.sm {c : List (Int × Int)} (h : Fam c) : Sm (eT (eP eI eI) c) 2 3320 := (Sm.pairs fun t ht => by
  have := h.trn t ht
  have a1 := this.1
  have a2 := this.2
  have := h.per ht
  omega).mono (Nat.le_refl _) (by have := h.len; omega)
theorem Fam.repr {c : List (Int × Int)} (h : Fam c) : reprP (eT (eP eI eI) c) = ok (PyData.shown (eT (eP eI eI) c)) := reprP_tup (h.sm.ok (by decide) (by decide))
theorem fam_nil : Fam [] := ⟨fun t h => (nomatch h), .nil, by decide, by decide⟩
theorem inB_of {t : Int × Int} (h : Trn t) (l : t.2 ≤ 1000000) : inB t = true := by
  have := h.1
  have := h.2
  unfold inB
  rw [decide_eq_true (by omega), decide_eq_true (by omega), decide_eq_true (by omega), decide_eq_true (by omega)]
  rfl
theorem dedS_ok {c : List (Int × Int)} (h : ∀ t, t ∈ c → Trn t ∧ t.2 ≤ 1000000) (l : c.length < 64) : dedS c = ok (sortP (ddP c)) := by
  unfold dedS
  rw [if_pos]
  rw [decide_eq_true l, List.all_eq_true.mpr fun t ht => inB_of (h t ht).1 (h t ht).2]
  rfl
theorem dd_len : ∀ c : List (Int × Int), (ddP c).length ≤ c.length
  | [] => Nat.le_refl _
  | x :: r => by
    unfold ddP
    have := dd_len r
    by_cases h : x ∈ r
    · rw [if_pos h, List.length_cons]; omega
    · rw [if_neg h, List.length_cons, List.length_cons]; omega
theorem fam_ded {c : List (Int × Int)} (h : ∀ t, t ∈ c → Trn t) (l : c.length ≤ 40) {W : Int} (hW : 0 < W) (hW2 : W ≤ 5040) (hd : ∀ t, t ∈ c → t.2 ∣ W) : Fam (sortP (ddP c)) := by
  have hm : ∀ t, t ∈ sortP (ddP c) → t ∈ c := fun t ht => ddP_mem.mp ((sortP_perm _).mem_iff.mp ht)
  refine ⟨fun t ht => h t (hm t ht), asc_sort (ddP_nodup c), by rw [(sortP_perm _).length_eq]; have := dd_len c; omega, ?_⟩
  have := lcmL_le (prs_pos fun t ht => h t (hm t ht)) hW fun x hx => by
    obtain ⟨t, ht, rfl⟩ := List.mem_map.mp hx
    exact hd t (hm t ht)
  omega

/-! ### fractions -/
theorem dvd_cop {a b c : Int} (h : Int.gcd a b = 1) (hd : a ∣ b * c) : a ∣ c := by
  have h1 : Nat.Coprime a.natAbs b.natAbs := h
  have h2 : a.natAbs ∣ b.natAbs * c.natAbs := by rw [← Int.natAbs_mul]; exact Int.natAbs_dvd_natAbs.mpr hd
  exact Int.natAbs_dvd_natAbs.mp (h1.dvd_of_dvd_mul_left h2)
/-- lowest terms are one -/
theorem low_one {a b s w : Int} (hb : 0 < b) (hw : 0 < w) (hg : Int.gcd a b = 1) (e : a * w = b * s) : a = s / (Int.gcd w s : Nat) ∧ b = w / (Int.gcd w s : Nat) := by
  have g0 : 0 < ((Int.gcd w s : Nat) : Int) := by
    have := Int.gcd_pos_of_ne_zero_left s (show w ≠ 0 by omega)
    omega
  obtain ⟨w', hw'⟩ := Int.gcd_dvd_left w s
  obtain ⟨s', hs'⟩ := Int.gcd_dvd_right w s
  have hcop : Int.gcd w' s' = 1 := by
    have := Int.gcd_ediv_gcd_ediv_gcd (i := w) (j := s) (by omega)
    have e1 : w / ((Int.gcd w s : Nat) : Int) = w' := by conv => lhs; lhs; rw [hw']
                                                         exact Int.mul_ediv_cancel_left _ (by omega)
    have e2 : s / ((Int.gcd w s : Nat) : Int) = s' := by conv => lhs; lhs; rw [hs']
                                                         exact Int.mul_ediv_cancel_left _ (by omega)
    rw [e1, e2] at this
    exact this
  generalize ((Int.gcd w s : Nat) : Int) = g at *
  subst hw'
  subst hs'
  rw [Int.mul_ediv_cancel_left _ (by omega), Int.mul_ediv_cancel_left _ (by omega)]
  have e2 : a * w' = b * s' := by
    have : g * (a * w') = g * (b * s') := by grind
    exact Int.eq_of_mul_eq_mul_left (by omega) this
  have w0 : 0 < w' := by
    rcases Int.lt_or_le 0 w' with q | q
    · exact q
    · have : g * w' ≤ g * 0 := Int.mul_le_mul_of_nonneg_left q (by omega)
      omega
  have d1 : b ∣ w' := dvd_cop (b := a) (by rw [Int.gcd_comm]; exact hg) ⟨s', e2⟩
  have d2 : w' ∣ b := dvd_cop (b := s') hcop ⟨a, by rw [Int.mul_comm s', Int.mul_comm w', e2]⟩
  have l1 := Int.le_of_dvd w0 d1
  have l2 := Int.le_of_dvd hb d2
  have eb : b = w' := by omega
  subst eb
  refine ⟨?_, rfl⟩
  rw [Int.mul_comm] at e2
  exact Int.eq_of_mul_eq_mul_left (by omega) e2
/-- how long a division of this kind goes on -/
def gcdM (s : Int × Int) : Nat := if 0 < s.1.toNat * s.2.toNat then (s.1.toNat * s.2.toNat).log2 + 1 + (if s.1 < s.2 then 1 else 0) else 0
theorem gcdM_step {x y : Int} (hx : 0 ≤ x) (hy : 0 < y) (hxy : 0 < x) : gcdM (y, x % y) < gcdM (x, y) := by
  have e1 := Int.emod_nonneg x (show y ≠ 0 by omega)
  have e2 := Int.emod_lt_of_pos x hy
  have p0 : 0 < x.toNat * y.toNat := Nat.mul_pos (by omega) (by omega)
  unfold gcdM
  dsimp only
  rw [if_pos p0]
  by_cases hr : 0 < y.toNat * (x % y).toNat
  · rw [if_pos hr, if_neg (show ¬ y < x % y by omega)]
    by_cases lt : x < y
    · rw [if_pos lt, Int.emod_eq_of_lt hx lt, Nat.mul_comm]
      omega
    · rw [if_neg lt]
      have hq := Int.mul_ediv_add_emod x y
      have q1 : 1 ≤ x / y := by
        rcases Int.lt_or_le (x / y) 1 with q | q
        · have : y * (x / y) ≤ y * 0 := Int.mul_le_mul_of_nonneg_left (by omega) (by omega)
          omega
        · exact q
      have q2 : y * 1 ≤ y * (x / y) := Int.mul_le_mul_of_nonneg_left q1 (by omega)
      have half : 2 * (y.toNat * (x % y).toNat) ≤ x.toNat * y.toNat := by
        rw [Nat.mul_comm x.toNat, ← Nat.mul_assoc, Nat.mul_comm 2, Nat.mul_assoc]
        exact Nat.mul_le_mul_left _ (by omega)
      have h1 : (2 * (y.toNat * (x % y).toNat)).log2 = (y.toNat * (x % y).toNat).log2 + 1 := Nat.log2_two_mul (by omega)
      have h2 : (2 * (y.toNat * (x % y).toNat)).log2 ≤ (x.toNat * y.toNat).log2 := (Nat.le_log2 (by omega)).mpr (Nat.le_trans ((Nat.le_log2 (by omega)).mp (Nat.le_refl _)) half)
      omega
  · rw [if_neg hr]
    omega
theorem gcdM_le {x y : Int} {k : Nat} (h : x.toNat * y.toNat < 2 ^ k) : gcdM (x, y) ≤ k + 2 := by
  unfold gcdM
  dsimp only
  by_cases p : 0 < x.toNat * y.toNat
  · rw [if_pos p]
    have := (Nat.log2_lt (by omega)).mpr h
    split <;> omega
  · rw [if_neg p]
    omega
/-- a loop that finds the greatest common divisor, of any numbers -/
theorem gcd_loop {c : Int × Int → P Bool} {b : Int × Int → P (Int × Int)} (hc : ∀ x y, c (x, y) = ok (decide (0 < y))) (hb : ∀ x y, 0 < y → b (x, y) = ok (y, x % y)) {fu : Nat} {x y : Int} (hx : 0 < x) (hy : 0 ≤ y) {k : Nat} (h : x.toNat * y.toNat < 2 ^ k) (hf : k + 3 < fu) : ∃ z : Int, whlP c b fu (x, y) = ok (((Int.gcd x y : Nat) : Int), z) := by
  have key : Ok (whlP c b fu (x, y)) fun s => s.1 = ((Int.gcd x y : Nat) : Int) := by
    refine (Ok.whlP (J := fun s : Int × Int => 0 < s.1 ∧ 0 ≤ s.2 ∧ Int.gcd s.1 s.2 = Int.gcd x y) (T := fun s => decide (0 < s.2)) (μ := fun s => gcdM s) (fun s _ => hc s.1 s.2) ?_ ⟨hx, hy, rfl⟩ (by have := gcdM_le h; show gcdM (x, y) < fu; omega)).imp ?_
    · rintro ⟨u, v⟩ ⟨h1, h2, h3⟩ h4
      have h4 : 0 < v := of_decide_eq_true h4
      rw [hb u v h4]
      exact .mk ⟨⟨h4, Int.emod_nonneg u (by omega), by rw [← h3]; exact gcd_step⟩, gcdM_step (by omega) h4 h1⟩
    · rintro ⟨u, v⟩ ⟨⟨h1, h2, h3⟩, h4⟩
      have h4 : ¬ 0 < v := of_decide_eq_false h4
      have : v = 0 := by omega
      subst this
      show u = _
      rw [← h3, Int.gcd_zero]
      omega
  obtain ⟨⟨u, z⟩, e, h⟩ := key
  exact ⟨z, by rw [e, show u = _ from h]⟩
end Z

/-! M6: repr of long numbers. -/
namespace Z
open PySem (PyData)
def Sw (d : D) (k w : Nat) : Prop := d.showable = true ∧ d.hasDict = false ∧ d.depth ≤ k ∧ d.leavesShort 62 = true ∧ d.weight ≤ w
theorem Sw.mono {d : D} {k w k' w' : Nat} (h : Sw d k w) (hk : k ≤ k') (hw : w ≤ w') : Sw d k' w' :=
  ⟨h.1, h.2.1, Nat.le_trans h.2.2.1 hk, h.2.2.2.1, Nat.le_trans h.2.2.2.2 hw⟩
theorem Sw.int {i : Int} (h : i.natAbs < 10 ^ 60) : Sw (.int i) 0 200 := by
  have hl : i.natAbs.log2 < 200 := by
    rcases Nat.eq_zero_or_pos i.natAbs with e | e
    · rw [e]; decide
    · exact (Nat.log2_lt (by omega)).mpr (Nat.lt_of_lt_of_le h (by decide))
  refine ⟨?_, by simp only [PyData.hasDict], by simp only [PyData.depth]; omega, ?_, ?_⟩
  · simp only [PyData.showable, decide_eq_true_eq]
    omega
  · simp only [PyData.leavesShort, decide_eq_true_eq]
    have e := PySem.int_text_length_le10 (k := 60) (by decide) h
    show (PySem.Str.ofString (toString i)).length ≤ 62
    rw [PySem.ofString_length]
    omega
  · simp only [PyData.weight]
    split <;> omega
theorem Sw.bool (b : Bool) : Sw (.bool b) 0 0 :=
  ⟨by simp only [PyData.showable], by simp only [PyData.hasDict], by simp only [PyData.depth]; omega, by simp only [PyData.leavesShort], by simp only [PyData.weight]; omega⟩
theorem Sw.none : Sw .none 0 0 :=
  ⟨by simp only [PyData.showable], by simp only [PyData.hasDict], by simp only [PyData.depth]; omega, by simp only [PyData.leavesShort], by simp only [PyData.weight]; omega⟩
theorem Sw.all {k w : Nat} : ∀ {ds : List D}, (∀ d, d ∈ ds → Sw d k w) → PyData.showableAll ds = true ∧ PyData.hasDictAll ds = false ∧ PyData.depthAll ds ≤ k ∧ PyData.leavesShortAll 62 ds = true ∧ PyData.weightAll ds ≤ ds.length * (w + 1)
  | [], _ => ⟨by simp only [PyData.showableAll], by simp only [PyData.hasDictAll], by simp only [PyData.depthAll]; omega, by simp only [PyData.leavesShortAll], by simp only [PyData.weightAll]; omega⟩
  | d :: ds, h => by
    obtain ⟨a1, a2, a3, a4, a5⟩ := h d List.mem_cons_self
    obtain ⟨b1, b2, b3, b4, b5⟩ := Sw.all (fun d hd => h d (List.mem_cons_of_mem _ hd))
    refine ⟨?_, ?_, ?_, ?_, ?_⟩
    · simp only [PyData.showableAll, a1, b1, Bool.and_self]
    · simp only [PyData.hasDictAll, a2, b2, Bool.or_self]
    · simp only [PyData.depthAll]; omega
    · simp only [PyData.leavesShortAll, a4, b4, Bool.and_self]
    · simp only [PyData.weightAll, List.length_cons, Nat.add_mul]; omega
theorem Sw.list {k w : Nat} {ds : List D} (h : ∀ d, d ∈ ds → Sw d k w) : Sw (.list ds) (k + 1) (ds.length * (w + 1)) := by
  obtain ⟨b1, b2, b3, b4, b5⟩ := Sw.all h
  exact ⟨by simpa only [PyData.showable] using b1, by simpa only [PyData.hasDict] using b2, by simp only [PyData.depth]; omega, by simpa only [PyData.leavesShort] using b4, by simpa only [PyData.weight] using b5⟩
theorem Sw.tuple {k w : Nat} {ds : List D} (h : ∀ d, d ∈ ds → Sw d k w) : Sw (.tuple ds) (k + 1) (ds.length * (w + 1)) := by
  obtain ⟨b1, b2, b3, b4, b5⟩ := Sw.all h
  exact ⟨by simpa only [PyData.showable] using b1, by simpa only [PyData.hasDict] using b2, by simp only [PyData.depth]; omega, by simpa only [PyData.leavesShort] using b4, by simpa only [PyData.weight] using b5⟩
theorem Sw.ok {d : D} {k w : Nat} (h : Sw d k w) (hk : k ≤ 60) (hw : w ≤ 200000) : showOk d = true := by
  obtain ⟨a1, a2, a3, a4, a5⟩ := h
  have e := PyData.shown_le 62 (by decide) d a4
  have l := line_big
  have e2 : d.shown.length ≤ PySem.sizeLine := by omega
  unfold showOk
  simp only [a1, a2, e2, decide_true, Bool.not_false, Bool.and_self, Nat.le_trans a3 hk]
theorem Sw.pair {p : Int × Int} (h : p.1.natAbs < 10 ^ 60 ∧ p.2.natAbs < 10 ^ 60) : Sw (eP eI eI p) 1 402 := by
  have := Sw.tuple (k := 0) (w := 200) (ds := [eI p.1, eI p.2]) fun d hd => by
    rcases List.mem_cons.mp hd with rfl | hd
    · exact Sw.int h.1
    · rw [List.mem_singleton.mp hd]
      exact Sw.int h.2
  exact this
theorem Sw.pairs {c : List (Int × Int)} (h : ∀ t, t ∈ c → t.1.natAbs < 10 ^ 60 ∧ t.2.natAbs < 10 ^ 60) : Sw (eT (eP eI eI) c) 2 (c.length * 403) := by
  have := Sw.tuple (k := 1) (w := 402) (ds := c.map (eP eI eI)) fun d hd => by
    obtain ⟨x, hx, rfl⟩ := List.mem_map.mp hd
    exact Sw.pair (h x hx)
  rw [List.length_map] at this
  exact this
theorem big60 {i : Int} (h : i.natAbs < 10 ^ 12) : i.natAbs < 10 ^ 60 := Nat.lt_of_lt_of_le h (by decide)
theorem Fam.sw {c : List (Int × Int)} (h : Fam c) : Sw (eT (eP eI eI) c) 2 16120 := (Sw.pairs fun t ht => by
  have := h.trn t ht
  have a1 := this.1
  have a2 := this.2
  have := h.per ht
  exact ⟨big60 (by omega), big60 (by omega)⟩).mono (Nat.le_refl _) (by have := h.len; omega)
end Z

/-! M7: what is said of a value, of an exception. -/
namespace Z
open PySem (PyData)
open PySem (Str)
theorem Sm.len {d : D} {k w : Nat} (h : Sm d k w) : (PyData.shown d).length ≤ 15 * w + 13 := by
  have h1 := PyData.shown_le 13 (by decide) d h.2.2.2.1
  have h2 : 15 * d.weight ≤ 15 * w := Nat.mul_le_mul_left _ h.2.2.2.2
  omega
theorem addSP_ok {x y : Str} (h : x.length + y.length ≤ 16000000) : addSP x y = ok (x ++ y) := if_pos (Nat.le_trans h line_big)
theorem bd_thr {α β : Type} (x : Exc) (k : α → P β) : bd (thr x) k = thr x := rfl
theorem said_ok {α : Type} {m : P α} {a : α} {e : α → D} {kd : Exc → P Str} (h : m = ok a) : saidP m e kd = reprP (e a) := by
  subst h
  rfl
theorem said_thr {α : Type} {m : P α} {x : Exc} {e : α → D} {kd : Exc → P Str} {s : Str} (h : m = thr x) (hk : kd x = ok s) (l : s.length ≤ 1000000) : saidP m e kd = ok (("! " : Str) ++ s) := by
  subst h
  show (match kd x with
    | some (.ok s) => if s.length + 2 ≤ PySem.sizeLine then ok (("! " : Str) ++ s) else stop
    | _ => stop) = _
  rw [hk]
  exact if_pos (Nat.le_trans (by omega) line_big)
theorem repr_two {a b : Int} (ha : a.natAbs < 10 ^ 12) (hb : b.natAbs < 10 ^ 12) : reprP (.tuple [.int a, .int b]) = ok (PyData.shown (.tuple [.int a, .int b])) ∧ (PyData.shown (.tuple [.int a, .int b])).length ≤ 10000 := by
  have h : Sm (eP eI eI (a, b)) 1 82 := Sm.pair ⟨ha, hb⟩
  exact ⟨reprP_tup (h.ok (by decide) (by decide)), Nat.le_trans h.len (by decide)⟩
theorem eqv_strs : ∀ xs : List Str, PyData.eqvAll (xs.map eS) (xs.map eS) = true
  | [] => rfl
  | x :: xs => by
    rw [List.map_cons, PyData.eqvAll, eqv_strs xs]
    simp [eS, PyData.eqv]
/-- all signs are signs -/
def Low (x : Str) : Prop := ∀ k, k ∈ x.cps.toList → k < 0x110000
theorem Low.ok {x : Str} (h : Low x) : PyData.strOk x = true := by
  unfold PyData.strOk
  rw [← Array.all_toList, List.all_eq_true]
  exact fun k hk => decide_eq_true (h k hk)
theorem Low.app {x y : Str} (hx : Low x) (hy : Low y) : Low (x ++ y) := fun k hk => (PyProof.Rows.mem_cps_append.mp hk).elim (hx k) (hy k)
theorem low_int (i : Int) : Low (PyData.shown (.int i)) := fun k hk => by
  rcases Nat.lt_or_ge k 0x110000 with h | h
  · exact h
  · exact absurd hk (PyProof.Rows.shown_int_free' ⟨by omega, .inr (by omega)⟩ i)
theorem low_all : ∀ {ds : List D}, (∀ d, d ∈ ds → Low (PyData.shown d)) → ∀ t, t ∈ PyData.shownAll ds → Low t
  | [], _, t, ht => by
    rw [PyData.shownAll] at ht
    cases ht
  | d :: ds, h, t, ht => by
    rw [PyData.shownAll] at ht
    rcases List.mem_cons.mp ht with e | ht
    · rw [e]
      exact h d List.mem_cons_self
    · exact low_all (fun d hd => h d (List.mem_cons_of_mem _ hd)) t ht
theorem low_lit {x : Str} (h : PyData.strOk x = true) : Low x := fun k hk => by
  unfold PyData.strOk at h
  rw [← Array.all_toList, List.all_eq_true] at h
  exact of_decide_eq_true (h k hk)
theorem low_join {sep : Str} {ts : List Str} (hs : Low sep) (h : ∀ t, t ∈ ts → Low t) : Low (Str.join sep ts) := fun k hk => by
  rcases (PyProof.Rows.mem_join sep k ts).mp hk with ⟨t, h1, h2⟩ | ⟨_, h2⟩
  · exact h t h1 k h2
  · exact hs k h2
theorem low_tuple {ds : List D} (h : ∀ d, d ∈ ds → Low (PyData.shown d)) : Low (PyData.shown (.tuple ds)) := by
  rw [PyData.shown_tuple]
  refine Low.app (Low.app (low_lit (by decide +kernel)) (low_join (low_lit (by decide +kernel)) (low_all h))) ?_
  split <;> exact low_lit (by decide +kernel)
theorem low_list {ds : List D} (h : ∀ d, d ∈ ds → Low (PyData.shown d)) : Low (PyData.shown (.list ds)) := by
  rw [PyData.shown_list]
  exact Low.app (Low.app (low_lit (by decide +kernel)) (low_join (low_lit (by decide +kernel)) (low_all h))) (low_lit (by decide +kernel))
theorem low_pair (p : Int × Int) : Low (PyData.shown (eP eI eI p)) := low_tuple fun d hd => by
  rcases List.mem_cons.mp hd with rfl | hd
  · exact low_int _
  · rw [List.mem_singleton.mp hd]
    exact low_int _
theorem low_turns (c : List (Int × Int)) : Low (PyData.shown (eT (eP eI eI) c)) := low_tuple fun d hd => by
  obtain ⟨p, _, rfl⟩ := List.mem_map.mp hd
  exact low_pair p
theorem lay_strs : ∀ {xs : List Str}, (∀ x, x ∈ xs → Low x) → PyData.canLayAll0 (xs.map eS) = true ∧ PyData.depthAll (xs.map eS) ≤ 0
  | [], _ => ⟨rfl, by simp only [List.map_nil, PyData.depthAll]; omega⟩
  | x :: xs, h => by
    obtain ⟨h1, h2⟩ := lay_strs (xs := xs) fun y hy => h y (List.mem_cons_of_mem _ hy)
    rw [List.map_cons]
    refine ⟨?_, ?_⟩
    · simp only [PyData.canLayAll0, PyData.canLay0, eS, Bool.and_eq_true]
      exact ⟨(h x List.mem_cons_self).ok, h1⟩
    · show max (PyData.depth (.str x)) (PyData.depthAll (xs.map eS)) ≤ 0
      simp only [PyData.depth]
      omega
theorem cmp_strs {xs : List Str} (h : ∀ x, x ∈ xs → Low x) : cmpP .eq (eL eS xs) (eL eS xs) = ok true := by
  have hs : PySem.SeqAt.shaped (.list (xs.map eS)) = true := by
    obtain ⟨h1, h2⟩ := lay_strs h
    unfold PySem.SeqAt.shaped
    rw [Bool.and_eq_true]
    refine ⟨by simpa only [PyData.canLay0] using h1, decide_eq_true ?_⟩
    show PyData.depthAll (xs.map eS) + 1 ≤ 64
    omega
  show lf (if (PySem.SeqAt.shaped (.list (xs.map eS)) && PySem.SeqAt.shaped (.list (xs.map eS))) = true then some (PyData.eqv (.list (xs.map eS)) (.list (xs.map eS))) else none) = _
  rw [hs, Bool.and_self, if_pos rfl]
  show lf (some (PyData.eqvAll _ _)) = _
  rw [eqv_strs]
  rfl
def prodL (l : List Int) : Int := l.foldr (· * ·) 1
theorem fac_prod {n p : Int} {l : List Int} {k : Nat} (h : Fac n p l k) (hp : 2 ≤ p) : (∀ q, q ∈ l → 2 ≤ q) ∧ prodL l = n := by
  induction h with
  | one => exact ⟨(fun _ z => nomatch z), rfl⟩
  | div h1 h2 h3 ih =>
    obtain ⟨i1, i2⟩ := ih hp
    obtain ⟨g1, g2⟩ := div_fact h1 hp h2
    refine ⟨fun q hq => ?_, ?_⟩
    · rcases List.mem_cons.mp hq with rfl | hq
      · exact hp
      · exact i1 q hq
    · show _ * prodL _ = _
      rw [i2, g2]
  | inc h1 h2 h3 h4 ih => exact ih (by omega)
theorem prod_pos : ∀ {l : List Int}, (∀ q, q ∈ l → 2 ≤ q) → 1 ≤ prodL l
  | [], _ => by show (1 : Int) ≤ 1; omega
  | q :: l, h => by
    have h1 := h q List.mem_cons_self
    have h2 := prod_pos (l := l) fun x hx => h x (List.mem_cons_of_mem _ hx)
    have h3 : q * 1 ≤ q * prodL l := Int.mul_le_mul_of_nonneg_left h2 (by omega)
    show 1 ≤ q * prodL l
    omega
theorem str_int {i : Int} (h : i.natAbs < 10 ^ 12) : strP (.int i) = ok (PyData.shown (.int i)) ∧ (PyData.shown (.int i)).length ≤ 613 ∧ Low (PyData.shown (.int i)) := by
  have h' := (Sm.int h).1
  rw [PyData.showable, decide_eq_true_eq] at h'
  have e : b1D .str (.int i) = some (.v (.str (PyData.shown (.int i)))) := by
    show (if i.natAbs.log2 < 1920 then _ else _) = _
    rw [if_pos h']
    rfl
  refine ⟨?_, Nat.le_trans (Sm.int h).len (by decide), low_int i⟩
  unfold strP
  rw [e]
/-- a list grows by what is made of another one -/
theorem app_loop {α β : Type} {f : α → β} {body : α → List β → P (List β)} : ∀ {xs : List α} {s : List β}, (∀ x, x ∈ xs → ∀ s : List β, s.length ≤ 1000000 → body x s = ok (s ++ [f x])) → s.length + xs.length ≤ 1000000 → forS body xs s = ok (s ++ xs.map f)
  | [], s, _, _ => by
    rw [List.map_nil, List.append_nil]
    rfl
  | x :: xs, s, h, l => by
    rw [List.length_cons] at l
    unfold forS
    rw [h x List.mem_cons_self s (by omega), bd_ok, app_loop (fun y hy => h y (List.mem_cons_of_mem _ hy)) (by rw [List.length_append]; show s.length + 1 + _ ≤ _; omega), List.map_cons, List.append_assoc]
    rfl
theorem szP_ok {α : Type} {xs : List α} (h : xs.length ≤ 16000000) : szP xs = ok xs := if_pos (Nat.le_trans h line_big)
/-! ### a cover within a turn -/
def inn (t y : Int × Int) : Int × Int := (t.1 + t.2 * y.1, t.2 * y.2)
theorem inn_trn {t y : Int × Int} (ht : Trn t) (hy : Trn y) : Trn (inn t y) := by
  have t0 := ht.1
  have t1 := ht.2
  have y0 := hy.1
  have y1 := hy.2
  have h1 : 0 ≤ t.2 * y.1 := Int.mul_nonneg (by omega) y0
  have h2 : t.2 * (y.1 + 1) ≤ t.2 * y.2 := Int.mul_le_mul_of_nonneg_left (by omega) (by omega)
  rw [Int.mul_add, Int.mul_one] at h2
  exact ⟨by show 0 ≤ t.1 + t.2 * y.1; omega, by show t.1 + t.2 * y.1 < t.2 * y.2; omega⟩
theorem hold_inn {t y : Int × Int} (ht : Trn t) (hy : Trn y) {n : Int} : hold (inn t y) n = true ↔ ∃ q, n = t.1 + t.2 * q ∧ hold y q = true := by
  rw [hold_iff (inn_trn ht hy)]
  constructor
  · rintro ⟨k, hk⟩
    have hk : n - (t.1 + t.2 * y.1) = t.2 * y.2 * k := hk
    refine ⟨y.1 + y.2 * k, ?_, (hold_iff hy).mpr ⟨k, by omega⟩⟩
    rw [Int.mul_add, ← Int.mul_assoc]
    omega
  · rintro ⟨q, rfl, hq⟩
    obtain ⟨k, hk⟩ := (hold_iff hy).mp hq
    refine ⟨k, ?_⟩
    show t.1 + t.2 * q - (t.1 + t.2 * y.1) = t.2 * y.2 * k
    have e : q = y.1 + y.2 * k := by omega
    rw [e, Int.mul_add, Int.mul_assoc]
    omega
theorem cnt_inn {t : Int × Int} {c : List (Int × Int)} (ht : Trn t) (hc : Cov c) (n : Int) : cnt (c.map (inn t)) n = if hold t n = true then 1 else 0 := by
  have t0 := ht.1
  have t1 := ht.2
  by_cases h : hold t n = true
  · rw [if_pos h]
    obtain ⟨q, hq⟩ := (hold_iff ht).mp h
    rw [← hc.one q]
    unfold cnt
    rw [List.countP_map]
    refine List.countP_congr fun y hy => ?_
    show hold (inn t y) n = true ↔ hold y q = true
    rw [hold_inn ht (hc.trn y hy)]
    constructor
    · rintro ⟨p, hp, h2⟩
      have e : t.2 * p = t.2 * q := by omega
      rw [← Int.eq_of_mul_eq_mul_left (by omega) e]
      exact h2
    · exact fun h2 => ⟨q, by omega, h2⟩
  · rw [if_neg h]
    unfold cnt
    rw [List.countP_eq_zero]
    intro s hs hn
    obtain ⟨y, hy, rfl⟩ := List.mem_map.mp hs
    obtain ⟨q, hq, _⟩ := (hold_inn ht (hc.trn y hy)).mp hn
    exact h ((hold_iff ht).mpr ⟨q, by omega⟩)
theorem Cov.within {l r c : List (Int × Int)} {t : Int × Int} (h : Cov (l ++ t :: r)) (hc : Cov c) : Cov ((l ++ r) ++ c.map (inn t)) := by
  have ht : Trn t := h.trn t (List.mem_append_right _ List.mem_cons_self)
  refine ⟨fun s hs => ?_, fun n => ?_⟩
  · rcases List.mem_append.mp hs with q | q
    · rcases List.mem_append.mp q with q | q
      · exact h.trn s (List.mem_append_left _ q)
      · exact h.trn s (List.mem_append_right _ (List.mem_cons_of_mem _ q))
    · obtain ⟨y, hy, rfl⟩ := List.mem_map.mp q
      exact inn_trn ht (hc.trn y hy)
  · have := h.one n
    rw [cnt_append, cnt_cons] at this
    rw [cnt_append, cnt_append, cnt_inn ht hc]
    omega
end Z

/-! M8: where two turns meet first. -/
namespace Z
open PySem (PyData)
theorem least_of {p : Nat → Prop} [DecidablePred p] : ∀ {n : Nat}, (∃ k, k < n ∧ p k) → ∃ k, k < n ∧ p k ∧ ∀ j, j < k → ¬ p j
  | 0, ⟨_, h, _⟩ => absurd h (Nat.not_lt_zero _)
  | n + 1, ⟨k, h, hp⟩ => by
    by_cases q : ∃ k, k < n ∧ p k
    · obtain ⟨j, j1, j2, j3⟩ := least_of q
      exact ⟨j, by omega, j2, j3⟩
    · have e : k = n := by
        rcases Nat.lt_or_ge k n with h2 | h2
        · exact absurd ⟨k, h2, hp⟩ q
        · omega
      exact ⟨k, h, hp, fun j hj hq => q ⟨j, by omega, hq⟩⟩
/-- how often one turn is gone on with until both are met -/
def per2 (a b : Int × Int) : Int := b.2 / ((Int.gcd a.2 b.2 : Nat) : Int)
theorem per2_facts {a b : Int × Int} (ha : Trn a) (hb : Trn b) : 0 < per2 a b ∧ lcmI a.2 b.2 = a.2 * per2 a b ∧ per2 a b * ((Int.gcd a.2 b.2 : Nat) : Int) = b.2 ∧ per2 a b ≤ b.2 := by
  have a0 := ha.1
  have a1 := ha.2
  have b0 := hb.1
  have b1 := hb.2
  have g := gcd_pos (a := a.2) (b := b.2) (by omega)
  obtain ⟨q, hq⟩ := Int.gcd_dvd_right a.2 b.2
  have e : per2 a b = q := by
    unfold per2
    conv => lhs; lhs; rw [hq]
    exact Int.mul_ediv_cancel_left _ (by omega)
  have q0 : 0 < q := by
    rcases Int.lt_or_le 0 q with h | h
    · exact h
    · have : ((Int.gcd a.2 b.2 : Nat) : Int) * q ≤ ((Int.gcd a.2 b.2 : Nat) : Int) * 0 := Int.mul_le_mul_of_nonneg_left h (by omega)
      rw [Int.mul_zero, ← hq] at this
      omega
  have e3 : q * ((Int.gcd a.2 b.2 : Nat) : Int) = b.2 := by
    rw [Int.mul_comm]
    exact hq.symm
  rw [e]
  refine ⟨q0, ?_, e3, ?_⟩
  · have h := lcmI_eq a.2 b.2
    refine Int.eq_of_mul_eq_mul_left (a := ((Int.gcd a.2 b.2 : Nat) : Int)) (by omega) ?_
    rw [h, Int.mul_left_comm, ← hq]
  · have : q * 1 ≤ q * ((Int.gcd a.2 b.2 : Nat) : Int) := Int.mul_le_mul_of_nonneg_left (by omega) (by omega)
    omega
theorem hold_at {a : Int × Int} (ha : Trn a) (k : Int) : hold a (a.1 + k * a.2) = true := (hold_iff ha).mpr ⟨k, by rw [Int.mul_comm a.2 k]; omega⟩
/-- the first number that both hold, from a's first on -/
theorem meet_first {a b : Int × Int} (ha : Trn a) (hb : Trn b) (h : meets a b = true) : ∃ k : Nat, (k : Int) < per2 a b ∧ hold b (a.1 + (k : Int) * a.2) = true ∧ ∀ j : Nat, j < k → hold b (a.1 + (j : Int) * a.2) = false := by
  obtain ⟨n, n1, n2⟩ := meets_of ha hb h
  obtain ⟨p0, pW, pg, _⟩ := per2_facts ha hb
  obtain ⟨q, hq⟩ := (hold_iff ha).mp n1
  have hN : ∃ k : Nat, k < (per2 a b).toNat ∧ hold b (a.1 + (k : Int) * a.2) = true := by
    have m0 := Int.emod_nonneg q (Int.ne_of_gt p0)
    have m1 := Int.emod_lt_of_pos q p0
    refine ⟨(q % per2 a b).toNat, by omega, ?_⟩
    rw [Int.toNat_of_nonneg m0, hold_iff hb]
    obtain ⟨r, hr⟩ := (hold_iff hb).mp n2
    obtain ⟨s, hs⟩ := Int.gcd_dvd_left a.2 b.2
    have e := Int.mul_ediv_add_emod q (per2 a b)
    refine ⟨r - (q / per2 a b) * s, ?_⟩
    -- n = a.1 + a.2 * q, q = per2 * (q / per2) + q % per2
    have e1 : n = a.1 + a.2 * q := by omega
    have e2 : a.2 * q = a.2 * (per2 a b * (q / per2 a b)) + a.2 * (q % per2 a b) := by
      rw [← Int.mul_add, e]
    have e3 : a.2 * (per2 a b * (q / per2 a b)) = b.2 * ((q / per2 a b) * s) := by
      conv => lhs; rw [hs]
      conv => rhs; rw [← pg]
      simp only [Int.mul_assoc, Int.mul_left_comm, Int.mul_comm]
    rw [Int.mul_sub, ← hr, ← e3, Int.mul_comm (q % per2 a b) a.2]
    omega
  obtain ⟨k, k1, k2, k3⟩ := least_of (p := fun k : Nat => hold b (a.1 + (k : Int) * a.2) = true) hN
  exact ⟨k, by omega, k2, fun j hj => by simpa using k3 j hj⟩
theorem meet_less {a b : Int × Int} (ha : Trn a) (hb : Trn b) {k : Nat} (h : (k : Int) < per2 a b) : a.1 + (k : Int) * a.2 < lcmI a.2 b.2 := by
  obtain ⟨p0, pW, _, _⟩ := per2_facts ha hb
  have a0 := ha.1
  have a1 := ha.2
  have h1 : a.2 * ((k : Int) + 1) ≤ a.2 * per2 a b := Int.mul_le_mul_of_nonneg_left (by omega) (by omega)
  rw [Int.mul_add, Int.mul_one, Int.mul_comm a.2 (k : Int)] at h1
  rw [pW]
  omega
theorem meet_same {a b : Int × Int} (ha : Trn a) (hb : Trn b) {x y : Int} (x0 : 0 ≤ x) (x1 : x < lcmI a.2 b.2) (y0 : 0 ≤ y) (y1 : y < lcmI a.2 b.2) (hxa : hold a x = true) (hxb : hold b x = true) (hya : hold a y = true) (hyb : hold b y = true) : x = y := by
  have a0 := ha.1
  have a1 := ha.2
  have b0 := hb.1
  have b1 := hb.2
  have d : ∀ {t : Int × Int}, Trn t → hold t x = true → hold t y = true → t.2 ∣ x - y := fun ht h1 h2 => by
    obtain ⟨p, hp⟩ := (hold_iff ht).mp h1
    obtain ⟨q, hq⟩ := (hold_iff ht).mp h2
    exact ⟨p - q, by rw [Int.mul_sub]; omega⟩
  obtain ⟨z, hz⟩ := lcmI_dvd (by omega) (by omega) (d ha hxa hya) (d hb hxb hyb)
  have W0 : 0 < lcmI a.2 b.2 := lcmI_pos (by omega) (by omega)
  rcases Int.lt_trichotomy z 0 with h | h | h
  · have : lcmI a.2 b.2 * z ≤ lcmI a.2 b.2 * (-1) := Int.mul_le_mul_of_nonneg_left (by omega) (by omega)
    omega
  · rw [h, Int.mul_zero] at hz
    omega
  · have : lcmI a.2 b.2 * 1 ≤ lcmI a.2 b.2 * z := Int.mul_le_mul_of_nonneg_left (by omega) (by omega)
    omega
/-- a loop that goes on by steps until a test holds -/
theorem whl_find {step : Int} {f : Int → Bool} {c : Int → P Bool} {b : Int → P Int} (hc : ∀ x, c x = ok (!f x)) (hb : ∀ x, b x = ok (x + step)) : ∀ (k fu : Nat) (x : Int), (∀ j : Nat, j < k → f (x + (j : Int) * step) = false) → f (x + (k : Int) * step) = true → k < fu → whlP c b fu x = ok (x + (k : Int) * step)
  | 0, fu + 1, x, _, h, _ => by
    unfold whlP
    have e : x + ((0 : Nat) : Int) * step = x := by omega
    rw [e] at h ⊢
    rw [hc, bd_ok, h]
    rfl
  | k + 1, fu + 1, x, h0, h, l => by
    unfold whlP
    have f0 := h0 0 (Nat.succ_pos _)
    rw [show x + ((0 : Nat) : Int) * step = x from by omega] at f0
    have sh : ∀ j : Nat, x + ((j + 1 : Nat) : Int) * step = x + step + (j : Int) * step := fun j => by
      rw [show ((j + 1 : Nat) : Int) = (j : Int) + 1 from rfl, Int.add_mul, Int.one_mul]
      omega
    rw [hc, bd_ok, f0, Bool.not_false, if_pos rfl, hb, bd_ok, whl_find hc hb k fu (x + step) (fun j hj => by
      rw [← sh]
      exact h0 (j + 1) (by omega)) (by rw [← sh]; exact h) (by omega), sh]
end Z


/-! M10: trees of tuples, and the turns for which they stand. -/
namespace Z
open PySem (PyData)
/-- a tree so many deep at most -/
def Tre : Nat → D → Prop
  | 0, d => d = .none
  | k + 1, d => d = .none ∨ ∃ ds, d = .tuple ds ∧ 2 ≤ ds.length ∧ ds.length ≤ 40 ∧ ∀ x, x ∈ ds → Tre k x
def kid (n : Int) (i : Int) (t : Int × Int) : Int × Int := (i + n * t.1, n * t.2)
/-- its turns -/
def tof : Nat → D → List (Int × Int)
  | k + 1, .tuple ds => (enumI 0 ds).flatMap fun x => (tof k x.2).map (kid ds.length x.1)
  | _, _ => [(0, 1)]
theorem tof_none (k : Nat) : tof k .none = [(0, 1)] := by cases k <;> rfl
theorem tre_none (k : Nat) : Tre k .none := by
  cases k with
  | zero => rfl
  | succ k => exact .inl rfl
def treB : Nat → D → Bool
  | _, .none => true
  | k + 1, .tuple ds => decide (2 ≤ ds.length) && decide (ds.length ≤ 40) && ds.all (treB k)
  | _, _ => false
theorem tre_by : ∀ {k : Nat} {d : D}, treB k d = true → Tre k d
  | 0, d, h => by
    cases d <;> first | rfl | cases h
  | k + 1, d, h => by
    cases d with
    | none => exact .inl rfl
    | tuple ds =>
      unfold treB at h
      simp only [Bool.and_eq_true, decide_eq_true_eq, List.all_eq_true] at h
      exact .inr ⟨ds, rfl, h.1.1, h.1.2, fun x hx => tre_by (h.2 x hx)⟩
    | _ => cases h
theorem enum_flat_len {α β : Type} {f : Int × α → List β} : ∀ (ds : List α) (i : Nat), (∀ x, x ∈ enumI i ds → 1 ≤ (f x).length) → ds.length ≤ ((enumI i ds).flatMap f).length
  | [], _, _ => Nat.zero_le _
  | d :: ds, i, h => by
    show _ ≤ (((((i : Nat) : Int), d) :: enumI (i + 1) ds).flatMap f).length
    rw [List.flatMap_cons, List.length_append, List.length_cons]
    have := h (((i : Nat) : Int), d) List.mem_cons_self
    have := enum_flat_len ds (i + 1) fun x hx => h x (List.mem_cons_of_mem _ hx)
    omega
theorem tof_pos : ∀ (k : Nat) (d : D), Tre k d → 1 ≤ (tof k d).length
  | 0, d, h => by
    rw [show d = .none from h]
    exact Nat.le_refl _
  | k + 1, d, h => by
    rcases h with rfl | ⟨ds, rfl, l1, l2, h⟩
    · exact Nat.le_refl _
    · refine Nat.le_trans (Nat.le_trans (by omega) l1) (enum_flat_len ds 0 fun x hx => ?_)
      obtain ⟨j, _, hj⟩ := enumI_mem hx
      rw [List.length_map]
      exact tof_pos k x.2 (h x.2 (List.mem_of_getElem? hj))
theorem tof_trn : ∀ (k : Nat) (d : D), Tre k d → ∀ t, t ∈ tof k d → Trn t
  | 0, d, h, t, ht => by
    rw [show d = .none from h] at ht
    rw [List.mem_singleton.mp ht]
    exact ⟨by decide, by decide⟩
  | k + 1, d, h, t, ht => by
    rcases h with rfl | ⟨ds, rfl, l1, l2, h⟩
    · rw [List.mem_singleton.mp ht]
      exact ⟨by decide, by decide⟩
    · obtain ⟨x, hx, ht⟩ := List.mem_flatMap.mp ht
      obtain ⟨s, hs, rfl⟩ := List.mem_map.mp ht
      obtain ⟨j, hj1, hj⟩ := enumI_mem hx
      obtain ⟨s0, s1⟩ := tof_trn k x.2 (h x.2 (List.mem_of_getElem? hj)) s hs
      have hjl : j < ds.length := (List.getElem?_eq_some_iff.mp hj).1
      have a0 : 0 ≤ (ds.length : Int) * s.1 := Int.mul_nonneg (by omega) s0
      have a1 : (ds.length : Int) * (s.1 + 1) ≤ (ds.length : Int) * s.2 := Int.mul_le_mul_of_nonneg_left (by omega) (by omega)
      rw [Int.mul_add, Int.mul_one] at a1
      refine ⟨?_, ?_⟩
      · show 0 ≤ x.1 + (ds.length : Int) * s.1
        omega
      · show x.1 + (ds.length : Int) * s.1 < (ds.length : Int) * s.2
        omega
/-- the text is not long -/
theorem tre_sm : ∀ (k : Nat) (d : D), Tre k d → d.showable = true ∧ d.hasDict = false ∧ d.depth ≤ k ∧ d.leavesShort 13 = true ∧ d.weight + 2 ≤ 2 * (tof k d).length
  | 0, d, h => by
    rw [show d = .none from h]
    obtain ⟨a1, a2, a3, a4, a5⟩ := Sm.none
    exact ⟨a1, a2, a3, a4, by show _ ≤ 2 * 1; omega⟩
  | k + 1, d, h => by
    rcases h with rfl | ⟨ds, rfl, l1, l2, h⟩
    · obtain ⟨a1, a2, a3, a4, a5⟩ := Sm.none
      exact ⟨a1, a2, Nat.le_trans a3 (Nat.zero_le _), a4, by show _ ≤ 2 * 1; omega⟩
    · have key : ∀ (n : Int) (es : List D) (i : Nat), (∀ x, x ∈ es → Tre k x) → PyData.showableAll es = true ∧ PyData.hasDictAll es = false ∧ PyData.depthAll es ≤ k ∧ PyData.leavesShortAll 13 es = true ∧ PyData.weightAll es + es.length ≤ 2 * ((enumI i es).flatMap fun x => (tof k x.2).map (kid n x.1)).length := by
        intro n es
        induction es with
        | nil => exact fun i _ => ⟨by simp only [PyData.showableAll], by simp only [PyData.hasDictAll], by simp only [PyData.depthAll]; omega, by simp only [PyData.leavesShortAll], by simp only [PyData.weightAll]; exact Nat.zero_le _⟩
        | cons e es ih =>
          intro i he
          obtain ⟨a1, a2, a3, a4, a5⟩ := tre_sm k e (he e List.mem_cons_self)
          obtain ⟨b1, b2, b3, b4, b5⟩ := ih (i + 1) fun x hx => he x (List.mem_cons_of_mem _ hx)
          refine ⟨?_, ?_, ?_, ?_, ?_⟩
          · simp only [PyData.showableAll, a1, b1, Bool.and_self]
          · simp only [PyData.hasDictAll, a2, b2, Bool.or_self]
          · simp only [PyData.depthAll]; omega
          · simp only [PyData.leavesShortAll, a4, b4, Bool.and_self]
          · show PyData.weightAll (e :: es) + (es.length + 1) ≤ 2 * (((((i : Nat) : Int), e) :: enumI (i + 1) es).flatMap fun x => (tof k x.2).map (kid n x.1)).length
            rw [List.flatMap_cons, List.length_append, List.length_map]
            simp only [PyData.weightAll]
            omega
      obtain ⟨b1, b2, b3, b4, b5⟩ := key ds.length ds 0 h
      refine ⟨by simpa only [PyData.showable] using b1, by simpa only [PyData.hasDict] using b2, by simp only [PyData.depth]; omega, by simpa only [PyData.leavesShort] using b4, ?_⟩
      have b6 : (PyData.tuple ds).weight = PyData.weightAll ds := by simp only [PyData.weight]
      have b7 : PyData.weightAll ds + ds.length ≤ 2 * (tof (k + 1) (.tuple ds)).length := b5
      rw [b6]
      omega
theorem tre_repr {k : Nat} {d : D} (h : Tre k d) (hk : k ≤ 60) (l : (tof k d).length ≤ 100000) : ∃ s, reprP d = ok s := by
  obtain ⟨a1, a2, a3, a4, a5⟩ := tre_sm k d h
  have e := Sm.ok (d := d) (k := k) (w := 200000) ⟨a1, a2, a3, a4, by omega⟩ hk (by decide)
  cases k with
  | zero => exact ⟨_, by rw [show d = .none from h]; rfl⟩
  | succ k =>
    rcases h with rfl | ⟨ds, rfl, _⟩
    · exact ⟨_, rfl⟩
    · exact ⟨_, reprP_tup e⟩
theorem tre_lay : ∀ (k : Nat) (d : D), Tre k d → d.canLay0 = true ∧ d.depth ≤ k
  | 0, d, h => by
    rw [show d = .none from h]
    exact ⟨by simp only [PyData.canLay0], by simp only [PyData.depth]; omega⟩
  | k + 1, d, h => by
    rcases h with rfl | ⟨ds, rfl, l1, l2, h⟩
    · exact ⟨by simp only [PyData.canLay0], by simp only [PyData.depth]; omega⟩
    · have key : ∀ es : List D, (∀ x, x ∈ es → Tre k x) → PyData.canLayAll0 es = true ∧ PyData.depthAll es ≤ k := by
        intro es
        induction es with
        | nil => exact fun _ => ⟨by simp only [PyData.canLayAll0], by simp only [PyData.depthAll]; omega⟩
        | cons e es ih =>
          intro he
          obtain ⟨a1, a2⟩ := tre_lay k e (he e List.mem_cons_self)
          obtain ⟨b1, b2⟩ := ih fun x hx => he x (List.mem_cons_of_mem _ hx)
          exact ⟨by simp only [PyData.canLayAll0, a1, b1, Bool.and_self], by simp only [PyData.depthAll]; omega⟩
      obtain ⟨b1, b2⟩ := key ds h
      exact ⟨by simpa only [PyData.canLay0] using b1, by simp only [PyData.depth]; omega⟩
theorem tre_mono : ∀ {k : Nat} {d : D}, Tre k d → Tre (k + 1) d
  | 0, d, h => .inl h
  | k + 1, d, h => by
    rcases h with h | ⟨ds, e, l1, l2, h⟩
    · exact .inl h
    · exact .inr ⟨ds, e, l1, l2, fun x hx => tre_mono (h x hx)⟩
theorem tof_mono : ∀ {k : Nat} {d : D}, Tre k d → tof (k + 1) d = tof k d
  | 0, d, h => by
    rw [show d = .none from h]
    rfl
  | k + 1, d, h => by
    rcases h with rfl | ⟨ds, rfl, l1, l2, h⟩
    · rfl
    · show ((enumI 0 ds).flatMap fun x => (tof (k + 1) x.2).map (kid ds.length x.1)) = (enumI 0 ds).flatMap fun x => (tof k x.2).map (kid ds.length x.1)
      have : ∀ xs : List (Int × D), (∀ x, x ∈ xs → Tre k x.2) → (xs.flatMap fun x => (tof (k + 1) x.2).map (kid ds.length x.1)) = xs.flatMap fun x => (tof k x.2).map (kid ds.length x.1) := by
        intro xs
        induction xs with
        | nil => intro _; rfl
        | cons x xs ih =>
          intro hx
          rw [List.flatMap_cons, List.flatMap_cons, ih fun y hy => hx y (List.mem_cons_of_mem _ hy), tof_mono (hx x List.mem_cons_self)]
      exact this _ fun x hx => by
        obtain ⟨j, _, hj⟩ := enumI_mem hx
        exact h x.2 (List.mem_of_getElem? hj)
end Z

/-! M11: natural covers, as sets of turns. -/
namespace Z
open PySem (PyData)
/-- made by splits -/
inductive Nt : (Int × Int → Prop) → Prop
  | one : Nt fun t => t = (0, 1)
  | join (n : Nat) (hn : 1 ≤ n) (S : Nat → Int × Int → Prop) (h : ∀ i, i < n → Nt (S i)) : Nt fun t => ∃ i, i < n ∧ ∃ s, S i s ∧ t = kid n (i : Int) s
theorem Nt.cast {S T : Int × Int → Prop} (h : Nt S) (e : ∀ t, S t ↔ T t) : Nt T := by
  have : S = T := funext fun t => propext (e t)
  rw [← this]
  exact h
theorem hold_ext {s t : Int × Int} (hs : Trn s) (ht : Trn t) (h : ∀ x, hold s x = hold t x) : s = t := by
  have key : ∀ {s t : Int × Int}, Trn s → Trn t → (∀ x, hold s x = hold t x) → t.2 ∣ s.2 := by
    intro s t hs ht h
    have a : hold t s.1 = true := by rw [← h]; exact hold_self hs
    have b : hold t (s.1 + s.2) = true := by
      rw [← h]
      exact (hold_iff hs).mpr ⟨1, by omega⟩
    have := Int.dvd_sub ((hold_iff ht).mp b) ((hold_iff ht).mp a)
    rwa [show s.1 + s.2 - t.1 - (s.1 - t.1) = s.2 by omega] at this
  have h1 := key hs ht h
  have h2 := key ht hs fun x => (h x).symm
  have s1 := hs.1
  have s2 := hs.2
  have t1 := ht.1
  have t2 := ht.2
  have e2 : s.2 = t.2 := Int.le_antisymm (Int.le_of_dvd (by omega) h2) (Int.le_of_dvd (by omega) h1)
  have a : hold t s.1 = true := by rw [← h]; exact hold_self hs
  have a2 := of_decide_eq_true a
  rw [← e2, Int.emod_eq_of_lt s1 s2] at a2
  exact Prod.ext a2 e2
theorem kid_trn {n : Nat} {i : Nat} (h : i < n) {s : Int × Int} (hs : Trn s) : Trn (kid n i s) := by
  have := inn_trn (t := ((i : Int), (n : Int))) ⟨by show (0 : Int) ≤ i; omega, by show (i : Int) < n; omega⟩ hs
  exact this
theorem kid_back {n : Nat} {i : Nat} (h : i < n) {s : Int × Int} (hs : Trn (kid n i s)) : Trn s := by
  obtain ⟨h0, h1⟩ := hs
  have h0 : 0 ≤ (i : Int) + n * s.1 := h0
  have h1 : (i : Int) + n * s.1 < n * s.2 := h1
  constructor
  · rcases Int.lt_or_le s.1 0 with q | q
    · exfalso
      have := Int.mul_le_mul_of_nonneg_left (show s.1 ≤ -1 by omega) (show (0 : Int) ≤ n by omega)
      omega
    · exact q
  · rcases Int.lt_or_le s.1 s.2 with q | q
    · exact q
    · exfalso
      have := Int.mul_le_mul_of_nonneg_left q (show (0 : Int) ≤ n by omega)
      omega
theorem hold_kid {n : Nat} {i : Nat} (h : i < n) {s : Int × Int} (hs : Trn s) {x : Int} : hold (kid n i s) x = true ↔ ∃ q, x = (i : Int) + n * q ∧ hold s q = true :=
  hold_inn (t := ((i : Int), (n : Int))) ⟨by show (0 : Int) ≤ i; omega, by show (i : Int) < n; omega⟩ hs
theorem nt_trn {S : Int × Int → Prop} (h : Nt S) : ∀ t, S t → Trn t := by
  induction h with
  | one =>
    intro t ht
    rw [ht]
    exact ⟨by decide, by decide⟩
  | join n hn S _ ih =>
    rintro t ⟨i, hi, s, hs, rfl⟩
    exact kid_trn hi (ih i hi s hs)
theorem nt_ex {S : Int × Int → Prop} (h : Nt S) : ∃ t, S t := by
  induction h with
  | one => exact ⟨_, rfl⟩
  | join n hn S _ ih =>
    obtain ⟨t, ht⟩ := ih 0 hn
    exact ⟨_, 0, hn, t, ht, rfl⟩
/-- a natural one is whole, or falls -/
theorem nt_falls {S : Int × Int → Prop} (h : Nt S) : (∀ t, S t ↔ t = (0, 1)) ∨ ∃ n : Nat, 2 ≤ n ∧ ∀ t, S t → (n : Int) ∣ t.2 := by
  induction h with
  | one => exact .inl fun t => Iff.rfl
  | join n hn S hS ih =>
    rcases Nat.lt_or_ge 1 n with q | q
    · refine .inr ⟨n, q, ?_⟩
      rintro t ⟨i, hi, s, hs, rfl⟩
      exact ⟨s.2, rfl⟩
    · have e : n = 1 := by omega
      subst e
      have k1 : ∀ s : Int × Int, kid ((1 : Nat) : Int) ((0 : Nat) : Int) s = s := fun s => by
        show ((0 : Int) + 1 * s.1, (1 : Int) * s.2) = s
        rw [Int.one_mul, Int.one_mul, Int.zero_add]
      have same : ∀ t, (∃ i, i < 1 ∧ ∃ s, S i s ∧ t = kid ((1 : Nat) : Int) (i : Int) s) ↔ S 0 t := fun t => by
        constructor
        · rintro ⟨i, hi, s, hs, rfl⟩
          have : i = 0 := by omega
          subst this
          rw [k1]
          exact hs
        · intro ht
          exact ⟨0, Nat.lt_succ_self 0, t, ht, (k1 t).symm⟩
      rcases ih 0 (Nat.lt_succ_self 0) with a | ⟨m, hm, a⟩
      · exact .inl fun t => (same t).trans (a t)
      · exact .inr ⟨m, hm, fun t ht => a t ((same t).mp ht)⟩
/-! ### led back by x -> k x + b -/
theorem gcd_parts {a k : Int} (ha : 0 < a) : ∃ G w k1 : Int, 0 < G ∧ 0 < w ∧ a = G * w ∧ k = G * k1 ∧ Int.gcd w k1 = 1 := by
  have g0 : 0 < Int.gcd a k := Int.gcd_pos_of_ne_zero_left k (by omega)
  obtain ⟨w, hw⟩ : ((Int.gcd a k : Nat) : Int) ∣ a := Int.gcd_dvd_left ..
  obtain ⟨k1, hk1⟩ : ((Int.gcd a k : Nat) : Int) ∣ k := Int.gcd_dvd_right ..
  have w0 : 0 < w := by
    rcases Int.lt_or_le 0 w with q | q
    · exact q
    · exfalso
      have := Int.mul_le_mul_of_nonneg_left q (show (0 : Int) ≤ ((Int.gcd a k : Nat) : Int) by omega)
      rw [Int.mul_zero] at this
      omega
  refine ⟨_, w, k1, by omega, w0, hw, hk1, ?_⟩
  have e := Int.gcd_mul_left ((Int.gcd a k : Nat) : Int) w k1
  rw [← hw, ← hk1, Int.natAbs_natCast] at e
  exact Nat.eq_of_mul_eq_mul_left g0 (by rw [Nat.mul_one]; exact e.symm)
theorem back_of {a k G w k1 : Int} (hG : 0 < G) (ea : a = G * w) (ek : k = G * k1) (cop : Int.gcd w k1 = 1) {z : Int} : a ∣ k * z ↔ w ∣ z := by
  subst ea ek
  constructor
  · rintro ⟨y, hy⟩
    refine dvd_cop cop ⟨y, ?_⟩
    rw [Int.mul_assoc, Int.mul_assoc] at hy
    exact Int.eq_of_mul_eq_mul_left (by omega) hy
  · rintro ⟨y, rfl⟩
    exact ⟨k1 * y, by ac_rfl⟩
theorem pull_ex {t : Int × Int} (ht : Trn t) {k b : Int} (hk : k ≠ 0) {x0 : Int} (h0 : hold t (k * x0 + b) = true) : ∃ s, Trn s ∧ s.2 ∣ t.2 ∧ ∀ x, hold s x = hold t (k * x + b) := by
  have t0 := ht.1
  have t1 := ht.2
  obtain ⟨G, w, k1, G0, w0, ea, ek, cop⟩ := gcd_parts (k := k) (show 0 < t.2 by omega)
  have hs : Trn (x0 % w, w) := ⟨Int.emod_nonneg _ (by omega), Int.emod_lt_of_pos _ w0⟩
  refine ⟨(x0 % w, w), hs, ⟨G, by rw [Int.mul_comm]; exact ea⟩, fun x => ?_⟩
  rw [Bool.eq_iff_iff, hold_iff hs, hold_iff ht]
  have d0 := (hold_iff ht).mp h0
  have m0 : w ∣ x0 - x0 % w := Int.dvd_self_sub_emod
  have key : t.2 ∣ k * (x - x0) ↔ w ∣ x - x0 := back_of G0 ea ek cop
  constructor
  · intro h
    have h1 : w ∣ x - x0 := by
      have := Int.dvd_sub h m0
      rwa [show x - (x0 % w, w).1 - (x0 - x0 % w) = x - x0 by show x - x0 % w - (x0 - x0 % w) = _; omega] at this
    have := Int.dvd_add (key.mpr h1) d0
    rwa [show k * (x - x0) + (k * x0 + b - t.1) = k * x + b - t.1 by rw [Int.mul_sub]; omega] at this
  · intro h
    have h2 : t.2 ∣ k * (x - x0) := by
      have := Int.dvd_sub h d0
      rwa [show k * x + b - t.1 - (k * x0 + b - t.1) = k * (x - x0) by rw [Int.mul_sub]; omega] at this
    have := Int.dvd_add (key.mp h2) m0
    rwa [show x - x0 + (x0 - x0 % w) = x - (x0 % w, w).1 by show _ = x - x0 % w; omega] at this
/-- the turns of the integers that are led into those of S -/
def Pl (k b : Int) (S : Int × Int → Prop) (s : Int × Int) : Prop := ∃ t, S t ∧ Trn t ∧ Trn s ∧ ∀ x, hold s x = hold t (k * x + b)
theorem nt_pull {S : Int × Int → Prop} (h : Nt S) : ∀ {k : Int} (b : Int), k ≠ 0 → Nt (Pl k b S) := by
  induction h with
  | one =>
    intro k b hk
    refine Nt.one.cast fun s => ?_
    have o : Trn (0, 1) := ⟨by decide, by decide⟩
    have all : ∀ x, hold (0, 1) x = true := fun x => (hold_iff o).mpr (Int.one_dvd _)
    constructor
    · rintro rfl
      exact ⟨(0, 1), rfl, o, o, fun x => by rw [all, all]⟩
    · rintro ⟨t, rfl, _, hs, h⟩
      exact hold_ext hs o fun x => by rw [h, all, all]
  | join n hn S hS ih =>
    intro k b hk
    obtain ⟨G, wi, k1, G0, w0, ea, ek, cop⟩ := gcd_parts (k := k) (show (0 : Int) < n by omega)
    obtain ⟨w, ew⟩ : ∃ w : Nat, (w : Int) = wi := ⟨wi.toNat, Int.toNat_of_nonneg (by omega)⟩
    subst ew
    have k10 : k1 ≠ 0 := by
      intro e
      subst e
      rw [Int.mul_zero] at ek
      exact hk ek
    have kw : k * (w : Int) = n * k1 := by
      rw [ea, ek]
      ac_rfl
    have back : ∀ z : Int, (n : Int) ∣ k * z → (w : Int) ∣ z := fun z => (back_of G0 ea ek cop).mp
    let ix : Nat → Nat := fun j => ((k * j + b) % n).toNat
    have ixI : ∀ j, ((ix j : Nat) : Int) = (k * j + b) % n := fun j => Int.toNat_of_nonneg (Int.emod_nonneg _ (by omega))
    have ixL : ∀ j, ix j < n := fun j => by
      have := Int.emod_lt_of_pos (k * (j : Int) + b) (show (0 : Int) < n by omega)
      have := ixI j
      omega
    have bq : ∀ j : Nat, k * (j : Int) + b = (ix j : Nat) + n * ((k * j + b) / n) := fun j => by
      rw [ixI]
      have := Int.emod_add_mul_ediv (k * (j : Int) + b) n
      omega
    -- one turn, both ways
    have eqv : ∀ (j : Nat) (u v : Int × Int), j < w → Trn u → Trn v → (∀ y, hold v y = hold u (k1 * y + (k * j + b) / n)) → ∀ x, hold (kid w j v) x = hold (kid n (ix j) u) (k * x + b) := by
      intro j u v hj hu hv h x
      rw [Bool.eq_iff_iff, hold_kid hj hv, hold_kid (ixL j) hu]
      constructor
      · rintro ⟨y, rfl, hy⟩
        rw [h] at hy
        refine ⟨_, ?_, hy⟩
        have e1 : k * ((j : Int) + w * y) = k * j + n * (k1 * y) := by
          rw [Int.mul_add, ← Int.mul_assoc, kw, Int.mul_assoc]
        rw [e1, Int.mul_add]
        have := bq j
        omega
      · rintro ⟨q, hq, hu2⟩
        have e0 : (n : Int) ∣ k * (x - j) := by
          refine ⟨q - (k * j + b) / n, ?_⟩
          have := bq j
          rw [Int.mul_sub, Int.mul_sub]
          omega
        obtain ⟨y, hy⟩ := back _ e0
        refine ⟨y, by omega, ?_⟩
        rw [h]
        have e1 : k * x = k * j + n * (k1 * y) := by
          rw [show x = (j : Int) + w * y by omega, Int.mul_add, ← Int.mul_assoc, kw, Int.mul_assoc]
        have e2 : (n : Int) * (k1 * y + (k * j + b) / n) = n * q := by
          have := bq j
          rw [Int.mul_add]
          omega
        rw [Int.eq_of_mul_eq_mul_left (by omega) e2]
        exact hu2
    refine (Nt.join w (by omega) (fun j => Pl k1 ((k * (j : Int) + b) / n) (S (ix j))) fun j _ => ih (ix j) (ixL j) _ k10).cast fun s => ?_
    constructor
    · rintro ⟨j, hj, v, ⟨u, hu, tu, tv, h⟩, rfl⟩
      exact ⟨_, ⟨ix j, ixL j, u, hu, rfl⟩, kid_trn (ixL j) tu, kid_trn hj tv, eqv j u v hj tu tv h⟩
    · rintro ⟨_, ⟨i, hi, u, hu, rfl⟩, tt, ts, h⟩
      have tu := kid_back hi tt
      have hs := hold_self ts
      rw [h] at hs
      obtain ⟨q, hq, hu2⟩ := (hold_kid hi tu).mp hs
      obtain ⟨j, ej⟩ : ∃ j : Nat, (j : Int) = s.1 % w := ⟨(s.1 % w).toNat, Int.toNat_of_nonneg (Int.emod_nonneg _ (by omega))⟩
      have hj : j < w := by
        have := Int.emod_lt_of_pos s.1 (show (0 : Int) < w by omega)
        omega
      have es : s.1 = (j : Int) + w * (s.1 / w) := by
        rw [ej]
        have := Int.emod_add_mul_ediv s.1 w
        omega
      have e1 : k * s.1 = k * j + n * (k1 * (s.1 / w)) := by
        conv => lhs; rw [es]
        rw [Int.mul_add, ← Int.mul_assoc, kw, Int.mul_assoc]
      have ei : ix j = i := by
        have a := bq j
        have b1 : ((ix j : Nat) : Int) - i = n * (q - k1 * (s.1 / w) - (k * j + b) / n) := by
          rw [Int.mul_sub, Int.mul_sub]
          omega
        have l1 := ixL j
        generalize q - k1 * (s.1 / w) - (k * j + b) / n = z at b1
        have z0 : z = 0 := by
          rcases Int.lt_trichotomy z 0 with c | c | c
          · exfalso
            have := Int.mul_le_mul_of_nonneg_left (show z ≤ -1 by omega) (show (0 : Int) ≤ n by omega)
            omega
          · exact c
          · exfalso
            have := Int.mul_le_mul_of_nonneg_left (show 1 ≤ z by omega) (show (0 : Int) ≤ n by omega)
            omega
        subst z0
        omega
      subst ei
      have e2 : k1 * (s.1 / w) + (k * j + b) / n = q := by
        have a := bq j
        have : (n : Int) * (k1 * (s.1 / w) + (k * j + b) / n) = n * q := by
          rw [Int.mul_add]
          omega
        exact Int.eq_of_mul_eq_mul_left (by omega) this
      rw [← e2] at hu2
      obtain ⟨v, tv, _, hv⟩ := pull_ex tu k10 hu2
      refine ⟨j, hj, v, ⟨u, hu, tu, tv, hv⟩, ?_⟩
      exact hold_ext ts (kid_trn hj tv) fun x => by rw [h, eqv j u v hj tu tv hv]
/-! ### put into turns -/
theorem inn_kid {n i : Int} {u y : Int × Int} : inn (kid n i u) y = kid n i (inn u y) := by
  show (i + n * u.1 + n * u.2 * y.1, n * u.2 * y.2) = (i + n * (u.1 + u.2 * y.1), n * (u.2 * y.2))
  rw [Int.mul_add, Int.mul_assoc, Int.mul_assoc, Int.add_assoc]
theorem nt_sub {S : Int × Int → Prop} (h : Nt S) : ∀ {F : Int × Int → Int × Int → Prop}, (∀ t, S t → Nt (F t)) → Nt fun x => ∃ t, S t ∧ ∃ y, F t y ∧ x = inn t y := by
  induction h with
  | one =>
    intro F hF
    have i1 : ∀ y : Int × Int, inn (0, 1) y = y := fun y => by
      show ((0 : Int) + 1 * y.1, (1 : Int) * y.2) = y
      rw [Int.one_mul, Int.one_mul, Int.zero_add]
    refine (hF (0, 1) rfl).cast fun x => ?_
    constructor
    · intro hx
      exact ⟨_, rfl, x, hx, (i1 x).symm⟩
    · rintro ⟨t, rfl, y, hy, rfl⟩
      rw [i1]
      exact hy
  | join n hn S hS ih =>
    intro F hF
    refine (Nt.join n hn (fun i x => ∃ u, S i u ∧ ∃ y, F (kid n i u) y ∧ x = inn u y) fun i hi => ih i hi (F := fun u => F (kid n i u)) fun u hu => hF _ ⟨i, hi, u, hu, rfl⟩).cast fun x => ?_
    constructor
    · rintro ⟨i, hi, s, ⟨u, hu, y, hy, rfl⟩, rfl⟩
      exact ⟨_, ⟨i, hi, u, hu, rfl⟩, y, hy, inn_kid.symm⟩
    · rintro ⟨_, ⟨i, hi, u, hu, rfl⟩, y, hy, rfl⟩
      exact ⟨i, hi, _, ⟨u, hu, y, hy, rfl⟩, inn_kid⟩
/-- led there and back -/
theorem pl_pl {S : Int × Int → Prop} {k b l c : Int} (hS : ∀ t, S t → Trn t) (hk : k ≠ 0) (hl : l ≠ 0) (e : ∀ x, k * (l * x + c) + b = x) {t : Int × Int} : Pl l c (Pl k b S) t ↔ S t := by
  have kl : k * l = 1 := by
    have a := e 0
    have b1 := e 1
    rw [Int.mul_add] at a b1
    rw [Int.mul_zero, Int.mul_zero] at a
    rw [Int.mul_one] at b1
    omega
  have e2 : ∀ x, l * (k * x + b) + c = x := fun x => by
    have a := e (l * (k * x + b) + c)
    have a0 := e 0
    have h1 : k * (l * (l * (k * x + b) + c) + c) = l * (k * x + b) + c - b := by omega
    have h2 : k * (l * (l * (k * x + b) + c)) = l * (k * x + b) + c := by rw [← Int.mul_assoc, kl, Int.one_mul]
    have h3 : l * (k * x) = x := by rw [← Int.mul_assoc, Int.mul_comm l k, kl, Int.one_mul]
    have h4 : k * c + b = 0 := by rw [Int.mul_zero, Int.zero_add] at a0; exact a0
    have h5 : l * (k * c + b) = 0 := by rw [h4, Int.mul_zero]
    rw [Int.mul_add, ← Int.mul_assoc, Int.mul_comm l k, kl, Int.one_mul] at h5
    rw [Int.mul_add, h3]
    omega
  constructor
  · rintro ⟨s, ⟨u, hu, tu, ts, h⟩, _, tt, h2⟩
    have : t = u := hold_ext tt tu fun x => by rw [h2, h, e]
    rw [this]
    exact hu
  · intro ht
    have tt := hS t ht
    obtain ⟨s, ts, _, h⟩ := pull_ex (t := t) tt hk (x0 := l * t.1 + c) (b := b) (by rw [e]; exact hold_self tt)
    exact ⟨s, ⟨t, ht, tt, ts, h⟩, ts, tt, fun x => by rw [h, e]⟩
end Z

/-! M12: covers led back, put into turns, cut into parts. -/
namespace Z
open PySem (PyData)
theorem good_eq {c d : List (Int × Int)} (hc : Good c) (hd : Good d) (h : ∀ t, t ∈ c ↔ t ∈ d) : c = d := by
  have p : c.Perm d := (List.perm_ext_iff_of_nodup hc.toCov.nodup hd.toCov.nodup).mpr h
  rw [← sort_asc hc.asc, ← sort_asc hd.asc]
  exact sort_perm p
theorem sortP_mem {c : List (Int × Int)} {t : Int × Int} : t ∈ sortP c ↔ t ∈ c := (sortP_perm c).mem_iff
/-- f leads the turn back by x -> k x + b -/
structure Bk (k b : Int) (f : Int × Int → Option (Int × Int)) (t : Int × Int) : Prop where
  yes : ∀ s, f t = some s → Trn s ∧ s.2 ∣ t.2 ∧ ∀ x, hold s x = hold t (k * x + b)
  no : f t = none → ∀ x, hold t (k * x + b) = false
theorem bk_cnt {k b : Int} {f : Int × Int → Option (Int × Int)} (x : Int) : ∀ {c : List (Int × Int)}, (∀ t, t ∈ c → Bk k b f t) → cnt (c.filterMap f) x = cnt c (k * x + b)
  | [], _ => rfl
  | t :: c, h => by
    have ih := bk_cnt x fun s hs => h s (List.mem_cons_of_mem t hs)
    have h1 := h t List.mem_cons_self
    rw [cnt_cons, ← ih]
    cases e : f t with
    | none =>
      rw [List.filterMap_cons_none e, h1.no e, if_neg Bool.false_ne_true]
      rfl
    | some s =>
      rw [List.filterMap_cons_some e, cnt_cons, (h1.yes s e).2.2]
theorem bk_cov {k b : Int} {f : Int × Int → Option (Int × Int)} {c : List (Int × Int)} (hc : Cov c) (h : ∀ t, t ∈ c → Bk k b f t) : Cov (c.filterMap f) := by
  refine ⟨fun s hs => ?_, fun x => by rw [bk_cnt x h, hc.one]⟩
  obtain ⟨t, ht, e⟩ := List.mem_filterMap.mp hs
  exact ((h t ht).yes s e).1
theorem bk_per {k b : Int} {f : Int × Int → Option (Int × Int)} {c : List (Int × Int)} (hc : Good c) (h : ∀ t, t ∈ c → Bk k b f t) : ∀ x, x ∈ prs (c.filterMap f) → 0 < x ∧ x ∣ lcmL (prs c) := fun x hx => by
  obtain ⟨s, hs, rfl⟩ := List.mem_map.mp hx
  obtain ⟨t, ht, e⟩ := List.mem_filterMap.mp hs
  obtain ⟨⟨a1, a2⟩, e2, _⟩ := (h t ht).yes s e
  exact ⟨by omega, Int.dvd_trans e2 (dvd_lcmL (prs_pos hc.trn) (List.mem_map.mpr ⟨t, ht, rfl⟩))⟩
theorem bk_good {k b : Int} {f : Int × Int → Option (Int × Int)} {c : List (Int × Int)} (hc : Good c) (h : ∀ t, t ∈ c → Bk k b f t) : Good (sortP (c.filterMap f)) ∧ (sortP (c.filterMap f)).length ≤ c.length ∧ lcmL (prs (sortP (c.filterMap f))) ≤ lcmL (prs c) := by
  have l : (c.filterMap f).length ≤ c.length := List.length_filterMap_le ..
  have hp := bk_per hc h
  have w := lcmL_le (fun x hx => (hp x hx).1) (lcmL_pos (prs_pos hc.trn)) fun x hx => (hp x hx).2
  have := hc.len
  have := hc.rnd
  refine ⟨good_sort (bk_cov hc.toCov h) (by omega) (by omega), ?_, ?_⟩
  · rw [(sortP_perm _).length_eq]
    exact l
  · rw [show lcmL (prs (sortP (c.filterMap f))) = lcmL (prs (c.filterMap f)) from (lcmL_perm (fun x hx => (hp x hx).1) ((sortP_perm _).symm.map _)).symm]
    exact w
theorem bk_pl {k b : Int} {f : Int × Int → Option (Int × Int)} {c : List (Int × Int)} (hc : Cov c) (h : ∀ t, t ∈ c → Bk k b f t) {s : Int × Int} : Pl k b (fun t => t ∈ c) s ↔ s ∈ sortP (c.filterMap f) := by
  rw [sortP_mem, List.mem_filterMap]
  constructor
  · rintro ⟨t, ht, tt, ts, hs⟩
    refine ⟨t, ht, ?_⟩
    cases e : f t with
    | none =>
      have := (h t ht).no e s.1
      rw [← hs, hold_self ts] at this
      cases this
    | some u =>
      obtain ⟨tu, _, hu⟩ := (h t ht).yes u e
      rw [hold_ext tu ts fun x => by rw [hu, hs]]
  · rintro ⟨t, ht, e⟩
    obtain ⟨tu, _, hu⟩ := (h t ht).yes s e
    exact ⟨t, ht, hc.trn t ht, tu, hu⟩
/-! ### splits and puts keep what is natural -/
theorem kid_one {m : Nat} {i : Int} : kid m i (0, 1) = ((0 : Int) + i * 1, (m : Int) * 1) := by
  show (i + (m : Int) * 0, (m : Int) * 1) = _
  rw [Int.mul_zero, Int.add_zero, Int.mul_one, Int.zero_add, Int.mul_one]
theorem nt_ones {m : Nat} (hm : 1 ≤ m) : Nt fun t => t ∈ pcs (0, 1) m := by
  refine (Nt.join m hm (fun _ t => t = (0, 1)) fun _ _ => Nt.one).cast fun t => ?_
  unfold pcs
  rw [List.mem_map]
  constructor
  · rintro ⟨i, hi, s, rfl, rfl⟩
    exact ⟨(i : Int), rng_mem.mpr ⟨by omega, by omega⟩, kid_one.symm⟩
  · rintro ⟨i, hi, rfl⟩
    obtain ⟨i0, i1⟩ := rng_mem.mp hi
    refine ⟨i.toNat, by omega, _, rfl, ?_⟩
    rw [Int.toNat_of_nonneg i0]
    exact kid_one.symm
theorem nt_put {l r d : List (Int × Int)} {t : Int × Int} (hc : Cov (l ++ t :: r)) (h : Nt fun s => s ∈ l ++ t :: r) (hd : Nt fun s => s ∈ d) : Nt fun s => s ∈ (l ++ r) ++ d.map (inn t) := by
  have i1 : ∀ u : Int × Int, inn u (0, 1) = u := fun u => by
    show (u.1 + u.2 * 0, u.2 * 1) = u
    rw [Int.mul_zero, Int.mul_one, Int.add_zero]
  have nd : t ∉ l ++ r := by
    have := hc.nodup
    have p : (l ++ t :: r).Perm (t :: (l ++ r)) := List.perm_middle
    exact (List.nodup_cons.mp (p.nodup_iff.mp this)).1
  refine (nt_sub h (F := fun u y => if u = t then y ∈ d else y = (0, 1)) fun u hu => ?_).cast fun x => ?_
  · by_cases e : u = t
    · simp only [e, if_true]
      exact hd
    · simp only [e, if_false]
      exact Nt.one
  · rw [List.mem_append, List.mem_map]
    constructor
    · rintro ⟨u, hu, y, hy, rfl⟩
      by_cases e : u = t
      · rw [if_pos e] at hy
        exact .inr ⟨y, hy, by rw [e]⟩
      · rw [if_neg e] at hy
        subst hy
        rw [i1]
        rcases List.mem_append.mp hu with q | q
        · exact .inl (List.mem_append_left _ q)
        · exact .inl (List.mem_append_right _ ((List.mem_cons.mp q).resolve_left e))
    · rintro (q | ⟨y, hy, rfl⟩)
      · refine ⟨x, ?_, (0, 1), ?_, (i1 x).symm⟩
        · rcases List.mem_append.mp q with q | q
          · exact List.mem_append_left _ q
          · exact List.mem_append_right _ (List.mem_cons_of_mem _ q)
        · rw [if_neg (by rintro rfl; exact nd q)]
      · exact ⟨t, List.mem_append_right _ List.mem_cons_self, y, by rw [if_pos rfl]; exact hy, rfl⟩
theorem nt_split {l r : List (Int × Int)} {t : Int × Int} (hc : Cov (l ++ t :: r)) (h : Nt fun s => s ∈ l ++ t :: r) {m : Nat} (hm : 1 ≤ m) : Nt fun s => s ∈ l ++ (pcs t m ++ r) := by
  refine (nt_put hc h (nt_ones hm)).cast fun s => ?_
  have e : (pcs (0, 1) m).map (inn t) = pcs t m := by
    unfold pcs
    rw [List.map_map]
    refine List.map_congr_left fun i _ => ?_
    show (t.1 + t.2 * (0 + i * 1), t.2 * ((m : Int) * 1)) = (t.1 + i * t.2, (m : Int) * t.2)
    rw [Int.zero_add, Int.mul_one, Int.mul_one, Int.mul_comm t.2, Int.mul_comm t.2]
  rw [e]
  simp only [List.mem_append]
  constructor
  · rintro ((q | q) | q)
    · exact .inl q
    · exact .inr (.inr q)
    · exact .inr (.inl q)
  · rintro (q | q | q)
    · exact .inl (.inl q)
    · exact .inr q
    · exact .inl (.inr q)
/-- what was put in, led out again -/
theorem pl_put {l r d : List (Int × Int)} {t : Int × Int} (hc : Cov (l ++ t :: r)) (hd : Cov d) {s : Int × Int} : Pl t.2 t.1 (fun u => u ∈ (l ++ r) ++ d.map (inn t)) s ↔ s ∈ d := by
  have ht : Trn t := hc.trn t (List.mem_append_right _ List.mem_cons_self)
  have t0 := ht.1
  have t1 := ht.2
  have on : ∀ x, hold t (t.2 * x + t.1) = true := fun x => (hold_iff ht).mpr ⟨x, by omega⟩
  have hin : ∀ y, Trn y → ∀ x, hold (inn t y) (t.2 * x + t.1) = hold y x := fun y hy x => by
    rw [Bool.eq_iff_iff, hold_inn ht hy]
    constructor
    · rintro ⟨q, e, h⟩
      have : t.2 * x = t.2 * q := by omega
      rw [Int.eq_of_mul_eq_mul_left (by omega) this]
      exact h
    · intro h
      exact ⟨x, by omega, h⟩
  constructor
  · rintro ⟨u, hu, tu, ts, h⟩
    rcases List.mem_append.mp hu with q | q
    · exfalso
      have h1 := h s.1
      rw [hold_self ts] at h1
      have h2 := on s.1
      have two : 2 ≤ cnt (l ++ t :: r) (t.2 * s.1 + t.1) := by
        rw [cnt_append, cnt_cons, if_pos h2]
        rcases List.mem_append.mp q with q | q
        · have := cnt_mem q h1.symm
          omega
        · have := cnt_mem q h1.symm
          omega
      rw [hc.one] at two
      omega
    · obtain ⟨y, hy, rfl⟩ := List.mem_map.mp q
      have ty := hd.trn y hy
      rw [hold_ext ts ty fun x => by rw [h, hin y ty]]
      exact hy
  · intro hs
    have ty := hd.trn s hs
    exact ⟨inn t s, List.mem_append_right _ (List.mem_map.mpr ⟨s, hs, rfl⟩), inn_trn ht ty, ty, fun x => (hin s ty x).symm⟩
/-! ### parts -/
def part (p j : Int) (c : List (Int × Int)) : List (Int × Int) := (c.filter fun t => decide (t.1 % p = j)).map fun t => (t.1 / p, t.2 / p)
theorem part_mem {p j : Int} {c : List (Int × Int)} {s : Int × Int} : s ∈ part p j c ↔ ∃ t, t ∈ c ∧ t.1 % p = j ∧ s = (t.1 / p, t.2 / p) := by
  unfold part
  rw [List.mem_map]
  constructor
  · rintro ⟨t, ht, rfl⟩
    rw [List.mem_filter, decide_eq_true_eq] at ht
    exact ⟨t, ht.1, ht.2, rfl⟩
  · rintro ⟨t, h1, h2, rfl⟩
    exact ⟨t, List.mem_filter.mpr ⟨h1, decide_eq_true h2⟩, rfl⟩
theorem part_kid {p : Int} {t : Int × Int} (hp : p ∣ t.2) : kid p (t.1 % p) (t.1 / p, t.2 / p) = t := by
  show (t.1 % p + p * (t.1 / p), p * (t.2 / p)) = t
  rw [Int.emod_add_mul_ediv, Int.mul_ediv_cancel' hp]
theorem part_trn {p : Nat} (hp : 0 < p) {t : Int × Int} (ht : Trn t) (hd : (p : Int) ∣ t.2) : Trn (t.1 / (p : Int), t.2 / (p : Int)) := by
  have i0 := Int.emod_nonneg t.1 (show (p : Int) ≠ 0 by omega)
  have i1 := Int.emod_lt_of_pos t.1 (show (0 : Int) < p by omega)
  have e := part_kid (t := t) hd
  refine kid_back (n := p) (i := (t.1 % p).toNat) (by omega) ?_
  rw [Int.toNat_of_nonneg i0, e]
  exact ht
theorem kid_hold {p : Nat} {i : Nat} (hi : i < p) {s : Int × Int} (hs : Trn s) (x : Int) : hold (kid p i s) ((p : Int) * x + i) = hold s x := by
  rw [Bool.eq_iff_iff, hold_kid hi hs]
  constructor
  · rintro ⟨q, e, h⟩
    have : (p : Int) * x = p * q := by omega
    rw [Int.eq_of_mul_eq_mul_left (by omega) this]
    exact h
  · intro h
    exact ⟨x, by omega, h⟩
theorem part_pl {p : Nat} {c : List (Int × Int)} (hc : ∀ t, t ∈ c → Trn t) (hd : ∀ t, t ∈ c → (p : Int) ∣ t.2) {j : Nat} (hj : j < p) {s : Int × Int} : Pl p j (fun t => t ∈ c) s ↔ s ∈ part p j c := by
  rw [part_mem]
  have fact : ∀ t, t ∈ c → t.1 % (p : Int) = j → kid p j (t.1 / (p : Int), t.2 / (p : Int)) = t := fun t ht e => by
    rw [← e]
    exact part_kid (hd t ht)
  constructor
  · rintro ⟨t, ht, tt, ts, h⟩
    have h1 := h s.1
    rw [hold_self ts] at h1
    have h2 := (hold_iff tt).mp h1.symm
    have e : t.1 % (p : Int) = j := by
      have h3 := Int.dvd_trans (hd t ht) h2
      obtain ⟨q, hq⟩ := h3
      have : t.1 = j + p * (s.1 - q) := by rw [Int.mul_sub]; omega
      rw [this, Int.add_mul_emod_self_left]
      exact Int.emod_eq_of_lt (by omega) (by omega)
    refine ⟨t, ht, e, ?_⟩
    have tp := part_trn (p := p) (by omega) tt (hd t ht)
    refine hold_ext ts tp fun x => ?_
    have := kid_hold hj tp x
    rw [fact t ht e] at this
    rw [h, this]
  · rintro ⟨t, ht, e, rfl⟩
    have tp := part_trn (p := p) (by omega) (hc t ht) (hd t ht)
    refine ⟨t, ht, hc t ht, tp, fun x => ?_⟩
    have := kid_hold hj tp x
    rw [fact t ht e] at this
    exact this.symm
theorem part_cov {p : Nat} (hp : 0 < p) {c : List (Int × Int)} (hc : Cov c) (hd : ∀ t, t ∈ c → (p : Int) ∣ t.2) {j : Nat} (hj : j < p) : Cov (part p j c) := by
  refine ⟨fun s hs => ?_, fun x => ?_⟩
  · obtain ⟨t, ht, _, rfl⟩ := part_mem.mp hs
    exact part_trn hp (hc.trn t ht) (hd t ht)
  · rw [← hc.one ((p : Int) * x + j)]
    have key : ∀ e : List (Int × Int), (∀ t, t ∈ e → t ∈ c) → cnt (part p j e) x = cnt e ((p : Int) * x + j) := by
      intro e
      induction e with
      | nil => intro _; rfl
      | cons t e ih =>
        intro he
        have ht := he t List.mem_cons_self
        have tt := hc.trn t ht
        have i1 := ih fun s hs => he s (List.mem_cons_of_mem _ hs)
        rw [cnt_cons, ← i1]
        by_cases q : t.1 % (p : Int) = j
        · have e1 : part p j (t :: e) = (t.1 / (p : Int), t.2 / (p : Int)) :: part p j e := by
            unfold part
            rw [List.filter_cons_of_pos (by rw [decide_eq_true_eq]; exact q), List.map_cons]
          have tp := part_trn hp tt (hd t ht)
          have hk := kid_hold hj tp x
          have ek : kid p j (t.1 / (p : Int), t.2 / (p : Int)) = t := by rw [← q]; exact part_kid (hd t ht)
          rw [ek] at hk
          rw [e1, cnt_cons, hk]
        · have e1 : part p j (t :: e) = part p j e := by
            unfold part
            rw [List.filter_cons_of_neg (by rw [decide_eq_true_eq]; exact q)]
          rw [e1, if_neg]
          · rfl
          · intro h
            have h2 := (hold_iff tt).mp h
            obtain ⟨z, hz⟩ := Int.dvd_trans (hd t ht) h2
            apply q
            have : t.1 = j + p * (x - z) := by rw [Int.mul_sub]; omega
            rw [this, Int.add_mul_emod_self_left]
            exact Int.emod_eq_of_lt (by omega) (by omega)
    exact key c fun _ h => h
theorem part_len {p j : Int} {c : List (Int × Int)} : (part p j c).length ≤ c.length := by
  unfold part
  rw [List.length_map]
  exact List.length_filter_le _ _
theorem part_nt {p : Nat} (hp : 1 ≤ p) {c : List (Int × Int)} (hc : ∀ t, t ∈ c → Trn t) (hd : ∀ t, t ∈ c → (p : Int) ∣ t.2) : (Nt fun t => t ∈ c) ↔ ∀ j : Nat, j < p → Nt fun s => s ∈ part p j c := by
  constructor
  · intro h j hj
    exact (nt_pull h (k := p) (j : Int) (by omega)).cast fun s => part_pl hc hd hj
  · intro h
    refine (Nt.join p hp (fun j s => s ∈ part p j c) h).cast fun t => ?_
    constructor
    · rintro ⟨i, hi, s, hs, rfl⟩
      obtain ⟨t, ht, e, rfl⟩ := part_mem.mp hs
      rw [← e, part_kid (hd t ht)]
      exact ht
    · intro ht
      have i0 := Int.emod_nonneg t.1 (show (p : Int) ≠ 0 by omega)
      have i1 := Int.emod_lt_of_pos t.1 (show (0 : Int) < p by omega)
      have ei : (((t.1 % (p : Int)).toNat : Nat) : Int) = t.1 % (p : Int) := Int.toNat_of_nonneg i0
      refine ⟨(t.1 % (p : Int)).toNat, by omega, (t.1 / (p : Int), t.2 / (p : Int)), part_mem.mpr ⟨t, ht, ei.symm, rfl⟩, ?_⟩
      rw [ei, part_kid (hd t ht)]
/-- a natural cover is whole, or all its periods have a divisor in common -/
theorem nt_no {c : List (Int × Int)} (hc : Cov c) (h1 : c ≠ [(0, 1)]) (h2 : ∀ n : Nat, 2 ≤ n → ¬ ∀ t, t ∈ c → (n : Int) ∣ t.2) : ¬ Nt fun t => t ∈ c := fun h => by
  rcases nt_falls h with q | ⟨n, hn, q⟩
  · apply h1
    have p : c.Perm [(0, 1)] := (List.perm_ext_iff_of_nodup hc.nodup (List.nodup_cons.mpr ⟨List.not_mem_nil, List.nodup_nil⟩)).mpr fun t => by
      rw [q t, List.mem_singleton]
    exact List.perm_singleton.mp p
  · exact h2 n hn q
end Z

/-! M13: what is left when a cover falls into parts. -/
namespace Z
open PySem (PyData)
theorem inn_one (W : Int × Int) : inn W (0, 1) = W := by
  show (W.1 + W.2 * 0, W.2 * 1) = W
  rw [Int.mul_zero, Int.mul_one, Int.add_zero]
theorem one_inn (y : Int × Int) : inn (0, 1) y = y := by
  show ((0 : Int) + 1 * y.1, (1 : Int) * y.2) = y
  rw [Int.one_mul, Int.one_mul, Int.zero_add]
theorem cov_uniq {o : List (Int × Int)} (ho : Cov o) {s t : Int × Int} (hs : s ∈ o) (ht : t ∈ o) {n : Int} (h1 : hold s n = true) (h2 : hold t n = true) : s = t := by
  by_cases e : s = t
  · exact e
  · exfalso
    obtain ⟨l, r, rfl⟩ := List.append_of_mem hs
    have h := ho.one n
    rw [cnt_append, cnt_cons, if_pos h1] at h
    rcases List.mem_append.mp ht with q | q
    · have := cnt_mem q h2
      omega
    · rcases List.mem_cons.mp q with q | q
      · exact e q.symm
      · have := cnt_mem q h2
        omega
/-- c is o with k in the place of t -/
def Put (c o : List (Int × Int)) (t : Int × Int) (k : List (Int × Int)) : Prop := ∀ s, s ∈ c ↔ (s ∈ o ∧ s ≠ t) ∨ ∃ y, y ∈ k ∧ s = inn t y
theorem inn_in {t y : Int × Int} (ht : Trn t) (hy : Trn y) : hold t (inn t y).1 = true := (hold_iff ht).mpr ⟨y.1, by show t.1 + t.2 * y.1 - t.1 = _; omega⟩
theorem inn_not {o : List (Int × Int)} (ho : Cov o) {s t y : Int × Int} (hs : s ∈ o) (ht : t ∈ o) (hy : Trn y) (e : s = inn t y) : s = t := by
  have tt := ho.trn t ht
  have h1 : hold s s.1 = true := hold_self (ho.trn s hs)
  have h2 : hold t s.1 = true := by rw [e]; exact inn_in tt hy
  exact cov_uniq ho hs ht h1 h2
theorem inn_inj {t y z : Int × Int} (ht : Trn t) (e : inn t y = inn t z) : y = z := by
  have t0 := ht.1
  have t1 := ht.2
  have e1 : t.1 + t.2 * y.1 = t.1 + t.2 * z.1 := congrArg Prod.fst e
  have e2 : t.2 * y.2 = t.2 * z.2 := congrArg Prod.snd e
  exact Prod.ext (Int.eq_of_mul_eq_mul_left (show t.2 ≠ 0 by omega) (by omega)) (Int.eq_of_mul_eq_mul_left (show t.2 ≠ 0 by omega) e2)
theorem nt_put2 {o k c : List (Int × Int)} {t : Int × Int} (h : Nt fun s => s ∈ o) (ht : t ∈ o) (hk : Nt fun s => s ∈ k) (hp : Put c o t k) : Nt fun s => s ∈ c := by
  refine (nt_sub h (F := fun u y => if u = t then y ∈ k else y = (0, 1)) fun u hu => ?_).cast fun x => ?_
  · by_cases e : u = t
    · simp only [e, if_true]
      exact hk
    · simp only [e, if_false]
      exact Nt.one
  · rw [hp x]
    constructor
    · rintro ⟨u, hu, y, hy, rfl⟩
      by_cases e : u = t
      · rw [if_pos e] at hy
        exact .inr ⟨y, hy, by rw [e]⟩
      · rw [if_neg e] at hy
        subst hy
        rw [inn_one]
        exact .inl ⟨hu, e⟩
    · rintro (⟨q, e⟩ | ⟨y, hy, rfl⟩)
      · exact ⟨x, q, (0, 1), by rw [if_neg e], (inn_one x).symm⟩
      · exact ⟨t, ht, y, by rw [if_pos rfl]; exact hy, rfl⟩
theorem put_list {l r k : List (Int × Int)} {t : Int × Int} (nd : (l ++ t :: r).Nodup) : Put ((l ++ r) ++ k.map (inn t)) (l ++ t :: r) t k := fun s => by
  have nt : t ∉ l ++ r := by
    have p : (l ++ t :: r).Perm (t :: (l ++ r)) := List.perm_middle
    exact (List.nodup_cons.mp (p.nodup_iff.mp nd)).1
  rw [List.mem_append, List.mem_map]
  constructor
  · rintro (q | ⟨y, hy, rfl⟩)
    · refine .inl ⟨?_, by rintro rfl; exact nt q⟩
      rcases List.mem_append.mp q with q | q
      · exact List.mem_append_left _ q
      · exact List.mem_append_right _ (List.mem_cons_of_mem _ q)
    · exact .inr ⟨y, hy, rfl⟩
  · rintro (⟨q, e⟩ | ⟨y, hy, rfl⟩)
    · refine .inl ?_
      rcases List.mem_append.mp q with q | q
      · exact List.mem_append_left _ q
      · exact List.mem_append_right _ ((List.mem_cons.mp q).resolve_left e)
    · exact .inr ⟨y, hy, rfl⟩
theorem split_mem {l r : List (Int × Int)} {t s : Int × Int} {m : Nat} (nd : (l ++ t :: r).Nodup) : s ∈ (l ++ r) ++ pcs t m ↔ (s ∈ l ++ t :: r ∧ s ≠ t) ∨ s ∈ pcs t m := by
  have nt : t ∉ l ++ r := by
    have p : (l ++ t :: r).Perm (t :: (l ++ r)) := List.perm_middle
    exact (List.nodup_cons.mp (p.nodup_iff.mp nd)).1
  rw [List.mem_append]
  constructor
  · rintro (q | q)
    · refine .inl ⟨?_, by rintro rfl; exact nt q⟩
      rcases List.mem_append.mp q with q | q
      · exact List.mem_append_left _ q
      · exact List.mem_append_right _ (List.mem_cons_of_mem _ q)
    · exact .inr q
  · rintro (⟨q, e⟩ | q)
    · refine .inl ?_
      rcases List.mem_append.mp q with q | q
      · exact List.mem_append_left _ q
      · exact List.mem_append_right _ ((List.mem_cons.mp q).resolve_left e)
    · exact .inr q
/-- it falls no further -/
structure Fix (k : List (Int × Int)) : Prop where
  no : ∀ n : Nat, 2 ≤ n → ¬ ∀ y, y ∈ k → (n : Int) ∣ y.2
  big : ∃ y, y ∈ k ∧ 2 ≤ y.2
theorem Fix.not {k : List (Int × Int)} (h : Fix k) (hk : Cov k) : ¬ Nt fun s => s ∈ k := by
  obtain ⟨y, hy, y2⟩ := h.big
  refine nt_no hk ?_ h.no
  rintro rfl
  rw [List.mem_singleton.mp hy] at y2
  revert y2
  decide
theorem fall_turn {k : List (Int × Int)} (hk : Fix k) {p : Nat} (hp : 0 < p) {T : Int} (h : ∀ y, y ∈ k → (p : Int) ∣ T * y.2) : (p : Int) ∣ T := by
  obtain ⟨G, w, k1, G0, w0, ea, ek, cop⟩ := gcd_parts (k := T) (show (0 : Int) < p by omega)
  have hw : ∀ y, y ∈ k → w ∣ y.2 := fun y hy => (back_of G0 ea ek cop).mp (h y hy)
  have w1 : w = 1 := by
    rcases Int.lt_or_le w 2 with q | q
    · omega
    · exact absurd (fun y hy => by rw [Int.toNat_of_nonneg (by omega)]; exact hw y hy) (hk.no w.toNat (by omega))
  subst w1
  rw [Int.mul_one] at ea
  exact ⟨k1, by rw [ea]; exact ek⟩
theorem part_other {p : Nat} {j : Nat} {c o k : List (Int × Int)} {t : Int × Int} (hp : Put c o t k) (hd : (p : Int) ∣ t.2) (hj : t.1 % (p : Int) ≠ j) (s : Int × Int) : s ∈ part p j o ↔ s ∈ part p j c := by
  rw [part_mem, part_mem]
  constructor
  · rintro ⟨u, hu, e, rfl⟩
    exact ⟨u, (hp u).mpr (.inl ⟨hu, by rintro rfl; exact hj e⟩), e, rfl⟩
  · rintro ⟨u, hu, e, rfl⟩
    rcases (hp u).mp hu with ⟨q, _⟩ | ⟨y, hy, rfl⟩
    · exact ⟨u, q, e, rfl⟩
    · exfalso
      apply hj
      obtain ⟨z, hz⟩ := hd
      have e : (t.1 + t.2 * y.1) % (p : Int) = j := e
      rw [hz, Int.mul_assoc, Int.add_mul_emod_self_left] at e
      exact e
theorem part_same {p : Nat} (p0 : 0 < p) {j : Nat} {c o k : List (Int × Int)} {t : Int × Int} (hp : Put c o t k) (ht : t ∈ o) (hd : ∀ u, u ∈ o → (p : Int) ∣ u.2) (hj : t.1 % (p : Int) = j) : Put (part p j c) (part p j o) (t.1 / (p : Int), t.2 / (p : Int)) k := by
  have below : ∀ y : Int × Int, inn (t.1 / (p : Int), t.2 / (p : Int)) y = ((inn t y).1 / (p : Int), (inn t y).2 / (p : Int)) := fun y => by
    obtain ⟨z, hz⟩ := hd t ht
    show (t.1 / (p : Int) + t.2 / (p : Int) * y.1, t.2 / (p : Int) * y.2) = ((t.1 + t.2 * y.1) / (p : Int), t.2 * y.2 / (p : Int))
    rw [hz, Int.mul_ediv_cancel_left _ (show (p : Int) ≠ 0 by omega), Int.mul_assoc, Int.mul_assoc, Int.add_mul_ediv_left _ _ (show (p : Int) ≠ 0 by omega), Int.mul_ediv_cancel_left _ (show (p : Int) ≠ 0 by omega)]
  have rest : ∀ y : Int × Int, (inn t y).1 % (p : Int) = j := fun y => by
    obtain ⟨z, hz⟩ := hd t ht
    show (t.1 + t.2 * y.1) % (p : Int) = j
    rw [hz, Int.mul_assoc, Int.add_mul_emod_self_left]
    exact hj
  intro s
  rw [part_mem, part_mem]
  constructor
  · rintro ⟨u, hu, e, rfl⟩
    rcases (hp u).mp hu with ⟨q, ne⟩ | ⟨y, hy, rfl⟩
    · refine .inl ⟨⟨u, q, e, rfl⟩, fun z => ne ?_⟩
      have a := part_kid (hd u q)
      have b := part_kid (hd t ht)
      rw [← a, ← b, e, hj, z]
    · exact .inr ⟨y, hy, (below y).symm⟩
  · rintro (⟨⟨u, hu, e, rfl⟩, ne⟩ | ⟨y, hy, rfl⟩)
    · exact ⟨u, (hp u).mpr (.inl ⟨hu, by rintro rfl; exact ne rfl⟩), e, rfl⟩
    · exact ⟨inn t y, (hp _).mpr (.inr ⟨y, hy, rfl⟩), rest y, below y⟩
/-! natural, by computation -/
def natB : Nat → List (Int × Int) → Bool
  | 0, _ => false
  | k + 1, c => decide (c = [(0, 1)]) || (List.range 6).any fun p => decide (2 ≤ p) && (c.all fun t => decide (t.2 % (p : Int) = 0)) && (List.range p).all fun j => natB k (part p j c)
theorem natB_ok : ∀ {k : Nat} {c : List (Int × Int)}, (∀ t, t ∈ c → Trn t) → natB k c = true → Nt fun t => t ∈ c
  | 0, _, _, h => by cases h
  | k + 1, c, hc, h => by
    unfold natB at h
    rcases (Bool.or_eq_true _ _).mp h with h | h
    · rw [of_decide_eq_true h]
      exact Nt.one.cast fun t => List.mem_singleton.symm
    · obtain ⟨p, hp, h⟩ := List.any_eq_true.mp h
      rw [Bool.and_eq_true, Bool.and_eq_true, decide_eq_true_eq, List.all_eq_true, List.all_eq_true] at h
      obtain ⟨⟨p2, h1⟩, h2⟩ := h
      have hd : ∀ t, t ∈ c → (p : Int) ∣ t.2 := fun t ht => Int.dvd_of_emod_eq_zero (of_decide_eq_true (h1 t ht))
      refine (part_nt (by omega) hc hd).mpr fun j hj => natB_ok (fun s hs => ?_) (h2 j (List.mem_range.mpr hj))
      obtain ⟨t, ht, _, rfl⟩ := part_mem.mp hs
      exact part_trn (by omega) (hc t ht) (hd t ht)
/-! loops that bring one item at most -/
theorem one_loop {α β : Type} {f : α → List β} {body : α → List β → P (List β)} : ∀ {xs : List α} {s : List β}, (∀ x, x ∈ xs → ∀ s : List β, s.length ≤ 1 → (f x).length ≤ 1 → body x s = ok (s ++ f x)) → (s ++ xs.flatMap f).length ≤ 1 → forS body xs s = ok (s ++ xs.flatMap f)
  | [], s, _, _ => by
    rw [List.flatMap_nil, List.append_nil]
    rfl
  | x :: xs, s, h, l => by
    rw [List.flatMap_cons, ← List.append_assoc] at l ⊢
    have l2 := l
    rw [List.length_append, List.length_append] at l2
    unfold forS
    rw [h x List.mem_cons_self s (by omega) (by omega), bd_ok]
    exact one_loop (fun y hy => h y (List.mem_cons_of_mem _ hy)) l
theorem one_flat {β : Type} {v : β} {i : Int} : ∀ n : Nat, ((rngI 0 n).flatMap fun x => if x = i then [v] else []) = if 0 ≤ i ∧ i < n then [v] else []
  | 0 => by
    rw [if_neg (by omega)]
    rfl
  | n + 1 => by
    rw [rng_succ, List.flatMap_append, one_flat n, List.flatMap_cons, List.flatMap_nil, List.append_nil]
    by_cases e : (n : Int) = i
    · rw [if_neg (by omega), if_pos e, if_pos (by omega), List.nil_append]
    · rw [if_neg e, List.append_nil]
      by_cases q : 0 ≤ i ∧ i < n
      · rw [if_pos q, if_pos (by omega)]
      · rw [if_neg q, if_neg (by omega)]
theorem nil_flat {α β : Type} : ∀ xs : List α, (xs.flatMap fun _ => ([] : List β)) = []
  | [] => rfl
  | x :: xs => by rw [List.flatMap_cons, nil_flat xs]; rfl
end Z

namespace Law
open PySem PySem.Spec PyProof.Rows L2 Z
def f0 : FnI := { name := "is_integer", ps := ["thing"], N := ["thing"], body := (.cons (.ret (.and (.isi (.var 0) .int) (.not (.isi (.var 0) .bool))))
    .nil) }
def f1 : FnI := { name := "is_between", ps := ["thing", "low", "high"], N := ["thing", "low", "high"], body := (.cons (.ret (.and (.call 0 1 (.val (.var 0) .nil)) (.chain .le .le (.var 1) (.var 0) (.var 2))))
    .nil) }
def f2_b0 : Ss := (.cons (.par 0 1 false false (.var 1) (.bin .mod (.var 0) (.var 1)))
    .nil)
def f2 : FnI := { name := "common_part", ps := ["one", "other"], N := ["one", "other"], body := (.cons (.whl (.cmp .gt (.var 1) (.int 0)) f2_b0)
    (.cons (.ret (.var 0))
    .nil)) }
def f3 : FnI := { name := "is_turn", ps := ["thing"], N := ["thing"], body := (.cons (.ite (.or (.not (.isi (.var 0) .tuple)) (.or (.cmp .ne (.b1 .len (.var 0)) (.int 2)) (.not (.call 1 3 (.val (.idx (.var 0) (.int 1)) (.val (.int 1) (.val (.glb 0) .nil))))))) (.cons (.ret (.bl false))
    .nil) .nil)
    (.cons (.ret (.call 1 3 (.val (.idx (.var 0) (.int 0)) (.val (.int 0) (.val (.bin .sub (.idx (.var 0) (.int 1)) (.int 1)) .nil)))))
    .nil)) }
def f4_b0 : Ss := (.cons (.set 1 false (.bin .div (.bin .mul (.var 1) (.var 2)) (.call 2 2 (.val (.var 1) (.val (.var 2) .nil)))))
    (.kil [2] .nil))
def f4 : FnI := { name := "round_by", ps := ["numbers"], N := ["numbers", "found", "number"], body := (.cons (.set 1 false (.int 1))
    (.cons (.for (.n 2) (.seq (.var 0)) f4_b0)
    (.cons (.ret (.var 1))
    .nil))) }
def f5 : FnI := { name := "is_family", ps := ["thing"], N := ["thing", "one", "other", "first", "period"], body := (.cons (.ite (.or (.not (.isi (.var 0) .tuple)) (.or (.cmp .gt (.b1 .len (.var 0)) (.glb 1)) (.not (.b1 .all (.comp (.call 3 1 (.val (.var 1) .nil)) (.n 1) (.seq (.var 0)) .non [1]))))) (.cons (.ret (.bl false))
    .nil) .nil)
    (.cons (.ite (.not (.b1 .all (.comp (.cmp .lt (.var 1) (.var 2)) (.t (.cons (.n 1) (.cons (.n 2) .nil))) (.zip (.var 0) (.slc (.var 0) (.som (.int 1)) .non)) .non [1, 2]))) (.cons (.ret (.bl false))
    .nil) .nil)
    (.cons (.ret (.cmp .le (.call 4 1 (.val (.comp (.var 4) (.t (.cons (.n 3) (.cons (.n 4) .nil))) (.seq (.var 0)) .non [3, 4]) .nil)) (.glb 0)))
    .nil))) }
def f6 : FnI := { name := "need_integer", ps := ["number"], N := ["number"], body := (.cons (.ite (.not (.call 0 1 (.val (.var 0) .nil))) (.cons .never
    .nil) (.kil [0] .nil))
    .nil) }
def f7 : FnI := { name := "does_hold", ps := ["turn", "number"], N := ["turn", "number"], body := (.cons (.ret (.cmp .eq (.bin .mod (.var 1) (.idx (.var 0) (.int 1))) (.idx (.var 0) (.int 0))))
    .nil) }
def f8 : FnI := { name := "lowest", ps := ["top", "bottom"], N := ["top", "bottom", "part"], body := (.cons (.set 2 false (.call 2 2 (.val (.var 1) (.val (.var 0) .nil))))
    (.cons (.ret (.tup (.cons (.bin .div (.var 0) (.var 2)) (.cons (.bin .div (.var 1) (.var 2)) .nil))))
    .nil)) }
def f9 : FnI := { name := "weight_by", ps := ["numbers"], N := ["numbers", "whole", "number"], body := (.cons (.set 1 false (.call 4 1 (.val (.var 0) .nil)))
    (.cons (.ret (.call 8 2 (.val (.b1 .sum (.comp (.bin .div (.var 1) (.var 2)) (.n 2) (.seq (.var 0)) .non [2])) (.val (.var 1) .nil))))
    .nil)) }
def f10 : FnI := { name := "do_meet", ps := ["one", "other"], N := ["one", "other"], body := (.cons (.ret (.cmp .eq (.bin .mod (.bin .sub (.idx (.var 1) (.int 0)) (.idx (.var 0) (.int 0))) (.call 2 2 (.val (.idx (.var 0) (.int 1)) (.val (.idx (.var 1) (.int 1)) .nil)))) (.int 0)))
    .nil) }
def f11 : FnI := { name := "is_cover", ps := ["thing"], N := ["thing", "first", "period", "at", "one", "other"], body := (.cons (.ite (.or (.not (.call 5 1 (.val (.var 0) .nil))) (.cmp .ne (.call 9 1 (.val (.comp (.var 2) (.t (.cons (.n 1) (.cons (.n 2) .nil))) (.seq (.var 0)) .non [1, 2]) .nil)) (.tup (.cons (.int 1) (.cons (.int 1) .nil))))) (.cons (.ret (.bl false))
    .nil) .nil)
    (.cons (.ret (.not (.b1 .any (.comp2 (.call 10 2 (.val (.var 4) (.val (.var 5) .nil))) (.t (.cons (.n 3) (.cons (.n 4) .nil))) (.enu (.var 0)) .non (.n 5) (.seq (.slc (.var 0) .non (.som (.var 3)))) .non [3, 4, 5] [5]))))
    .nil)) }
def f12 : FnI := { name := "need_cover", ps := ["cover"], N := ["cover"], body := (.cons (.ite (.not (.call 11 1 (.val (.var 0) .nil))) (.cons .never
    .nil) (.kil [0] .nil))
    .nil) }
def f13 : FnI := { name := "holder_of", ps := ["cover", "number"], N := ["cover", "number", "place", "turn"], body := (.cons (.ret (.idx (.comp (.var 2) (.t (.cons (.n 2) (.cons (.n 3) .nil))) (.enu (.var 0)) (.som (.call 7 2 (.val (.var 3) (.val (.var 1) .nil)))) [2, 3]) (.int 0)))
    .nil) }
def f14 : FnI := { name := "holder", ps := ["cover", "number"], N := ["cover", "number"], body := (.cons (.exp (.call 12 1 (.val (.var 0) .nil)))
    (.cons (.exp (.call 6 1 (.val (.var 1) .nil)))
    (.cons (.ret (.call 13 2 (.val (.var 0) (.val (.var 1) .nil))))
    .nil))) }
def f15 : FnI := { name := "row", ps := ["cover", "begin", "long"], N := ["cover", "begin", "long", "number"], body := (.cons (.exp (.call 12 1 (.val (.var 0) .nil)))
    (.cons (.exp (.call 6 1 (.val (.var 1) .nil)))
    (.cons (.ite (.not (.call 1 3 (.val (.var 2) (.val (.int 0) (.val (.glb 2) .nil))))) (.cons .never
    .nil) .nil)
    (.cons (.ret (.b1 .tuple (.comp (.call 13 2 (.val (.var 0) (.val (.var 3) .nil))) (.n 3) (.rng2 (.var 1) (.bin .add (.var 1) (.var 2))) .non [3])))
    .nil)))) }
def f16 : FnI := { name := "periods", ps := ["cover"], N := ["cover", "first", "period"], body := (.cons (.exp (.call 12 1 (.val (.var 0) .nil)))
    (.cons (.ret (.b1 .tuple (.b1 .sorted (.comp (.var 2) (.t (.cons (.n 1) (.cons (.n 2) .nil))) (.seq (.var 0)) .non [1, 2]))))
    .nil)) }
def f17 : FnI := { name := "_law_cell", ps := ["_law_script", "_law_k"], N := ["_law_script", "_law_k"], body := (.cons (.ret (.ite (.cmp .lt (.var 1) (.lenv 0)) (.idxv 0 (.var 1)) (.int 0)))
    .nil) }
def f18 : FnI := { name := "_law_pen", ps := ["_law_cell_here"], N := ["_law_cell_here"], body := (.cons (.ret (.lst (.cons (.b2 .max (.int 0) (.bin .sub (.var 0) (.bin .pow (.int 10) (.int 18)))) (.cons (.bin .add (.bin .mod (.var 0) (.int 2147483629)) (.int 1)) (.cons (.int 0) .nil)))))
    .nil) }
def f19 : FnI := { name := "_law_draw", ps := ["_law_pen_here", "_law_upto"], N := ["_law_pen_here", "_law_upto", "_law_found", "_law_stirred"], body := (.cons (.ite (.cmp .gt (.idxv 0 (.int 0)) (.int 0)) (.cons (.set 2 false (.bin .mod (.idxv 0 (.int 0)) (.var 1)))
    (.cons (.put 0 (.int 0) (.bin .div (.idxv 0 (.int 0)) (.var 1)))
    (.cons (.ret (.var 2))
    .nil))) .nil)
    (.cons (.put 0 (.int 2) (.bin .add (.idxv 0 (.int 2)) (.int 1)))
    (.cons (.put 0 (.int 1) (.bin .mod (.bin .add (.bin .add (.bin .mul (.idxv 0 (.int 1)) (.int 48271)) (.bin .mul (.int 1009) (.idxv 0 (.int 2)))) (.int 7)) (.int 2147483647)))
    (.cons (.set 3 false (.bin .mod (.bin .add (.bin .add (.bin .mul (.idxv 0 (.int 1)) (.idxv 0 (.int 1))) (.bin .mul (.int 69621) (.idxv 0 (.int 1)))) (.int 11)) (.int 2147483629)))
    (.cons (.set 3 false (.bin .mod (.bin .add (.bin .mul (.var 3) (.var 3)) (.bin .mul (.int 40014) (.var 3))) (.int 2147483587)))
    (.cons (.ret (.bin .mod (.bin .div (.var 3) (.int 16)) (.var 1)))
    .nil)))))) }
def f20 : FnI := { name := "_law_pick", ps := ["_law_pen_here", "_law_some"], N := ["_law_pen_here", "_law_some"], body := (.cons (.ret (.idx (.var 1) (.call 19 2 (.bor 0 (.val (.b1 .len (.var 1)) .nil)))))
    .nil) }
def f21 : FnI := { name := "_law_same", ps := ["_law_found", "_law_due"], N := ["_law_found", "_law_due"], body := (.cons (.ret (.cmp .eq (.b1 .repr (.var 0)) (.b1 .repr (.var 1))))
    .nil) }
def f22_b0 : Ss := (.cons (.par 0 1 false false (.var 1) (.bin .mod (.var 0) (.var 1)))
    .nil)
def f22 : FnI := { name := "_law_gcd", ps := ["_law_a", "_law_b"], N := ["_law_a", "_law_b"], body := (.cons (.whl (.cmp .gt (.var 1) (.int 0)) f22_b0)
    (.cons (.ret (.var 0))
    .nil)) }
def f23_b0 : Ss := (.cons (.set 1 false (.bin .div (.bin .mul (.var 1) (.var 2)) (.call 22 2 (.val (.var 1) (.val (.var 2) .nil)))))
    (.kil [2] .nil))
def f23 : FnI := { name := "_law_lcm", ps := ["_law_sizes"], N := ["_law_sizes", "_law_found", "_law_size"], body := (.cons (.set 1 false (.int 1))
    (.cons (.for (.n 2) (.seq (.var 0)) f23_b0)
    (.cons (.ret (.var 1))
    .nil))) }
def f24 : FnI := { name := "_law_cut", ps := ["_law_lot", "_law_spot", "_law_upto"], N := ["_law_lot", "_law_spot", "_law_upto", "_law_first", "_law_size", "_law_more", "_law_at"], body := (.cons (.asg (.t (.cons (.n 3) (.cons (.n 4) .nil))) (.idx (.var 0) (.var 1)))
    (.cons (.set 5 false (.comp (.tup (.cons (.bin .add (.var 3) (.bin .mul (.var 6) (.var 4))) (.cons (.bin .mul (.var 2) (.var 4)) .nil))) (.n 6) (.rng1 (.var 2)) .non [6]))
    (.cons (.ret (.b1 .tuple (.b1 .sorted (.bin .add (.b1 .list (.bin .add (.slc (.var 0) .non (.som (.var 1))) (.slc (.var 0) (.som (.bin .add (.var 1) (.int 1))) .non))) (.var 5)))))
    .nil))) }
def f25_b0 : Ss := (.cons (.par 5 6 false false (.call 19 2 (.bor 0 (.val (.b1 .len (.var 3)) .nil))) (.call 20 2 (.bor 0 (.val (.lst (.cons (.int 2) (.cons (.int 2) (.cons (.int 3) (.cons (.int 2) (.cons (.int 4) (.cons (.int 5) .nil))))))) .nil))))
    (.cons (.ite (.cmp .le (.bin .sub (.bin .add (.b1 .len (.var 3)) (.var 6)) (.int 1)) (.var 1)) (.cons (.set 7 false (.call 24 3 (.val (.var 3) (.val (.var 5) (.val (.var 6) .nil)))))
    (.cons (.set 3 false (.ite (.cmp .le (.call 23 1 (.val (.comp (.var 9) (.t (.cons (.n 8) (.cons (.n 9) .nil))) (.seq (.var 7)) .non [8, 9]) .nil)) (.var 2)) (.var 7) (.var 3)))
    (.kil [4, 5, 6, 7] .nil))) (.kil [4, 5, 6] .nil))
    .nil))
def f25 : FnI := { name := "_law_plan", ps := ["_law_pen_here", "_law_most", "_law_far"], N := ["_law_pen_here", "_law_most", "_law_far", "_law_lot", "_law_turning", "_law_spot", "_law_upto", "_law_later", "_law_first", "_law_size"], body := (.cons (.set 3 false (.tup (.cons (.tup (.cons (.int 0) (.cons (.int 1) .nil))) .nil)))
    (.cons (.for (.n 4) (.rng1 (.bin .add (.int 1) (.call 19 2 (.bor 0 (.val (.int 5) .nil))))) f25_b0)
    (.cons (.ret (.var 3))
    .nil))) }
def f26 : FnI := { name := "_law_hard", ps := [], N := ["_law_begun", "_law_rest", "_law_spot", "_law_first", "_law_size"], body := (.cons (.set 0 false (.lst (.cons (.tup (.cons (.int 0) (.cons (.int 6) .nil))) (.cons (.tup (.cons (.int 1) (.cons (.int 10) .nil))) (.cons (.tup (.cons (.int 2) (.cons (.int 15) .nil))) .nil)))))
    (.cons (.set 1 false (.comp (.var 2) (.n 2) (.rng1 (.int 30)) (.som (.cmp .eq (.comp (.int 1) (.t (.cons (.n 3) (.cons (.n 4) .nil))) (.seq (.var 0)) (.som (.cmp .eq (.bin .mod (.var 2) (.var 4)) (.var 3))) [3, 4]) (.lst .nil))) [2]))
    (.cons (.ret (.b1 .tuple (.b1 .sorted (.bin .add (.var 0) (.comp (.tup (.cons (.var 2) (.cons (.int 30) .nil))) (.n 2) (.seq (.var 1)) .non [2])))))
    .nil))) }
def f27 : FnI := { name := "_law_shifted", ps := ["_law_lot", "_law_by"], N := ["_law_lot", "_law_by", "_law_first", "_law_size"], body := (.cons (.ret (.b1 .tuple (.b1 .sorted (.comp (.tup (.cons (.bin .mod (.bin .add (.var 2) (.var 1)) (.var 3)) (.cons (.var 3) .nil))) (.t (.cons (.n 2) (.cons (.n 3) .nil))) (.seq (.var 0)) .non [2, 3]))))
    .nil) }
def f28 : FnI := { name := "_law_within", ps := ["_law_lot", "_law_spot", "_law_inner"], N := ["_law_lot", "_law_spot", "_law_inner", "_law_first", "_law_size", "_law_more", "_law_its", "_law_own"], body := (.cons (.asg (.t (.cons (.n 3) (.cons (.n 4) .nil))) (.idx (.var 0) (.var 1)))
    (.cons (.set 5 false (.comp (.tup (.cons (.bin .add (.var 3) (.bin .mul (.var 4) (.var 6))) (.cons (.bin .mul (.var 4) (.var 7)) .nil))) (.t (.cons (.n 6) (.cons (.n 7) .nil))) (.seq (.var 2)) .non [6, 7]))
    (.cons (.ret (.b1 .tuple (.b1 .sorted (.bin .add (.b1 .list (.bin .add (.slc (.var 0) .non (.som (.var 1))) (.slc (.var 0) (.som (.bin .add (.var 1) (.int 1))) .non))) (.var 5)))))
    .nil))) }
def f29 : FnI := { name := "_law_hard_plan", ps := ["_law_pen_here"], N := ["_law_pen_here", "_law_inner", "_law_outer"], body := (.cons (.set 1 false (.call 27 2 (.val (.call 26 0 .nil) (.val (.call 19 2 (.bor 0 (.val (.int 30) .nil))) .nil))))
    (.cons (.set 2 false (.call 25 3 (.bor 0 (.val (.int 4) (.val (.int 12) .nil)))))
    (.cons (.ret (.call 28 3 (.val (.var 2) (.val (.call 19 2 (.bor 0 (.val (.b1 .len (.var 2)) .nil))) (.val (.var 1) .nil)))))
    .nil))) }
def f30 : FnI := { name := "_law_place", ps := ["_law_lot", "_law_spot"], N := ["_law_lot", "_law_spot", "_law_at", "_law_duty"], body := (.cons (.ret (.idx (.comp (.var 2) (.t (.cons (.n 2) (.cons (.n 3) .nil))) (.enu (.var 0)) (.som (.cmp .eq (.bin .mod (.bin .sub (.var 1) (.idx (.var 3) (.int 0))) (.idx (.var 3) (.int 1))) (.int 0))) [2, 3]) (.int 0)))
    .nil) }
def f31_b0 : Ss := (.cons (.ite (.not (.call 21 2 (.val (.lst (.cons (.call 14 2 (.val (.var 0) (.val (.var 1) .nil))) (.cons (.call 15 3 (.val (.var 0) (.val (.var 1) (.val (.var 2) .nil)))) (.cons (.call 16 1 (.val (.var 0) .nil)) .nil)))) (.val (.var 4) .nil)))) (.cons (.ret (.bl false))
    .nil) (.kil [5] .nil))
    .nil)
def f31 : FnI := { name := "_law_right", ps := ["_law_lot", "_law_begun", "_law_count"], N := ["_law_lot", "_law_begun", "_law_count", "_law_kept", "_law_due", "_law_lap", "_law_far", "_law_first", "_law_size"], body := (.cons (.set 3 false (.b1 .repr (.tup (.cons (.var 0) (.cons (.var 1) (.cons (.var 2) .nil))))))
    (.cons (.set 4 true (.lst (.cons (.call 30 2 (.val (.var 0) (.val (.var 1) .nil))) (.cons (.b1 .tuple (.comp (.call 30 2 (.val (.var 0) (.val (.bin .add (.var 1) (.var 6)) .nil))) (.n 6) (.rng1 (.var 2)) .non [6])) .nil))))
    (.cons (.app 4 (.b1 .tuple (.b1 .sorted (.comp (.var 8) (.t (.cons (.n 7) (.cons (.n 8) .nil))) (.seq (.var 0)) .non [7, 8]))))
    (.frz 4 (.cons (.for (.n 5) (.rng1 (.int 2)) f31_b0)
    (.cons (.ret (.cmp .eq (.b1 .repr (.tup (.cons (.var 0) (.cons (.var 1) (.cons (.var 2) .nil))))) (.var 3)))
    .nil)))))) }
def f32_b0 : Ss := (.cons (.set 4 false (.ite (.cmp .eq (.var 3) (.int 4)) (.call 29 1 (.bor 2 .nil)) (.call 25 3 (.bor 2 (.val (.int 14) (.val (.int 120) .nil))))))
    (.cons (.set 5 false (.call 20 2 (.bor 2 (.val (.lst (.cons (.int 0) (.cons (.bin .sub (.call 19 2 (.bor 2 (.val (.int 99) .nil))) (.int 50)) (.cons (.bin .sub (.bin .pow (.int 10) (.int 39)) (.call 19 2 (.bor 2 (.val (.int 99) .nil)))) (.cons (.neg (.bin .pow (.int 10) (.int 20))) .nil))))) .nil))))
    (.cons (.ite (.not (.call 31 3 (.val (.var 4) (.val (.var 5) (.val (.call 20 2 (.bor 2 (.val (.lst (.cons (.int 0) (.cons (.int 1) (.cons (.call 19 2 (.bor 2 (.val (.int 30) .nil))) .nil)))) .nil))) .nil))))) (.cons (.ret (.bl false))
    .nil) (.kil [3, 4, 5] .nil))
    .nil)))
def f32_b1 : Ss := (.cons (.set 2 true (.call 18 1 (.val (.call 17 2 (.bor 0 (.val (.var 1) .nil))) .nil)))
    (.kil [1] (.cons (.for (.n 3) (.rng1 (.int 5)) f32_b0)
    (.kil [2] .nil))))
def f32 : FnI := { name := "law", ps := ["_law_script"], N := ["_law_script", "_law_k", "_law_pen_here", "_law_lap", "_law_lot", "_law_begun"], body := (.cons (.ite (.or (.not (.call 31 3 (.val (.tup (.cons (.tup (.cons (.int 0) (.cons (.int 2) .nil))) (.cons (.tup (.cons (.int 1) (.cons (.int 4) .nil))) (.cons (.tup (.cons (.int 3) (.cons (.int 4) .nil))) .nil)))) (.val (.neg (.int 7)) (.val (.int 500) .nil))))) (.not (.call 31 3 (.val (.tup (.cons (.tup (.cons (.int 0) (.cons (.int 1) .nil))) .nil)) (.val (.int 5) (.val (.int 0) .nil)))))) (.cons (.ret (.bl false))
    .nil) .nil)
    (.cons (.for (.n 1) (.rng1 (.b2 .max (.int 1) (.b2 .min (.lenv 0) (.int 3)))) f32_b1)
    (.cons (.ret (.bl true))
    .nil))) }
def tab : Tab := { fns := [f0, f1, f2, f3, f4, f5, f6, f7, f8, f9, f10, f11, f12, f13, f14, f15, f16, f17, f18, f19, f20, f21, f22, f23, f24, f25, f26, f27, f28, f29, f30, f31, f32], cons := [("LONGEST", .int 5040), ("MOST_TURNS", .int 40), ("MOST_ROW", .int 500)], excs := [] }
theorem tc0 : tab.cons[0]? = some (("LONGEST" : PySem.Str), (.int 5040 : PyData)) := rfl
theorem tc1 : tab.cons[1]? = some (("MOST_TURNS" : PySem.Str), (.int 40 : PyData)) := rfl
theorem tc2 : tab.cons[2]? = some (("MOST_ROW" : PySem.Str), (.int 500 : PyData)) := rfl
end Law

namespace Law
open Z
open PySem (PyData)
def F_is_integer (thing : Int) : P Bool :=
ok (true && (!false))
def F_common_part (fu : Nat) (one_ : Int) (other : Int) : P Int :=
bd (whlP (fun (s1 : (Int × Int)) => ok (decide ((0 : Int) < s1.2))) (fun s1 => bd (modP s1.1 s1.2) fun r2 =>
ok (s1.2, r2)) fu (one_, other)) fun s1 =>
ok s1.1
def F_does_hold (turn : (Int × Int)) (number : Int) : P Bool :=
bd (modP number turn.2) fun r1 =>
ok (decide (r1 = turn.1))
def FL_cell (script : (List Int)) (k : Int) : P Int :=
bd (if (decide (k < (script.length : Int))) = true then (bd (atP script k) fun r2 =>
ok r2) else (ok (0 : Int))) fun r1 =>
ok r1
def FL_pen (cell_here : Int) : P (List Int) :=
ok [(mxI (0 : Int) (cell_here - ((10 : Int) ^ (18 : Nat)))), ((cell_here % (2147483629 : Int)) + (1 : Int)), (0 : Int)]
def FL_draw (pen_here : (List Int)) (upto : Int) : P (Int × (List Int)) :=
bd (atP pen_here (0 : Int)) fun r1 =>
if (decide ((0 : Int) < r1)) = true then (bd (atP pen_here (0 : Int)) fun r2 =>
bd (modP r2 upto) fun found3 =>
bd (atP pen_here (0 : Int)) fun r4 =>
bd (divP r4 upto) fun r5 =>
bd (setP pen_here (0 : Int) r5) fun pen_here6 =>
ok (found3, pen_here6))
else (bd (atP pen_here (2 : Int)) fun r7 =>
bd (setP pen_here (2 : Int) (r7 + (1 : Int))) fun pen_here8 =>
bd (atP pen_here8 (1 : Int)) fun r9 =>
bd (atP pen_here8 (2 : Int)) fun r10 =>
bd (setP pen_here8 (1 : Int) ((((r9 * (48271 : Int)) + ((1009 : Int) * r10)) + (7 : Int)) % (2147483647 : Int))) fun pen_here11 =>
bd (atP pen_here11 (1 : Int)) fun r12 =>
bd (atP pen_here11 (1 : Int)) fun r13 =>
bd (mulP r12 r13) fun r14 =>
bd (atP pen_here11 (1 : Int)) fun r15 =>
bd (ok ((((r14 + ((69621 : Int) * r15)) + (11 : Int)) % (2147483629 : Int)) : Int)) fun stirred16 =>
bd (mulP stirred16 stirred16) fun r17 =>
bd (ok (((r17 + ((40014 : Int) * stirred16)) % (2147483587 : Int)) : Int)) fun stirred18 =>
bd (modP (stirred18 / (16 : Int)) upto) fun r19 =>
ok (r19, pen_here11))
def FL_same (found : (List D)) (due : (List D)) : P Bool :=
bd (reprP ((eL eD) found)) fun r1 =>
bd (reprP ((eL eD) due)) fun r2 =>
ok (decide (r1 = r2))
def FL_gcd (fu : Nat) (a : Int) (b : Int) : P Int :=
bd (whlP (fun (s1 : (Int × Int)) => ok (decide ((0 : Int) < s1.2))) (fun s1 => bd (modP s1.1 s1.2) fun r2 =>
ok (s1.2, r2)) fu (a, b)) fun s1 =>
ok s1.1
def FL_cut (lot : (List (Int × Int))) (spot : Int) (upto : Int) : P (List (Int × Int)) :=
bd (atP lot spot) fun r1 =>
bd (rgP 0 upto) fun xs2 =>
bd (mapP (fun at_3 => bd (mulP at_3 r1.2) fun r5 =>
bd (mulP upto r1.2) fun r6 =>
ok (some ((r1.1 + r5), r6))) [] xs2) fun more7 =>
bd (addP (cutA lot none (some spot)) (cutA lot (some (spot + (1 : Int))) none)) fun r8 =>
bd (addP r8 more7) fun r9 =>
ok (sortP r9)
def FL_hard  : P (List (Int × Int)) :=
bd (ok ([((0 : Int), (6 : Int)), ((1 : Int), (10 : Int)), ((2 : Int), (15 : Int))] : (List (Int × Int)))) fun begun1 =>
bd (mapP (fun spot2 => bd (mapP (fun y4 => bd (modP spot2 y4.2) fun r6 =>
if (decide (r6 = y4.1)) = true then (ok (some (1 : Int))) else ok none) [] begun1) fun l7 =>
if (decide (l7 = [])) = true then (ok (some spot2)) else ok none) [] (rngI 0 30)) fun rest_8 =>
bd (mapT (fun spot9 => (spot9, (30 : Int))) rest_8) fun l10 =>
bd (addP begun1 l10) fun r11 =>
ok (sortP r11)
def FL_shifted (lot : (List (Int × Int))) (by_ : Int) : P (List (Int × Int)) :=
bd (mapP (fun y1 => bd (modP (y1.1 + by_) y1.2) fun r3 =>
ok (some (r3, y1.2))) [] lot) fun l4 =>
ok (sortP l4)
def FL_within (lot : (List (Int × Int))) (spot : Int) (inner : (List (Int × Int))) : P (List (Int × Int)) :=
bd (atP lot spot) fun r1 =>
bd (mapP (fun y2 => bd (mulP r1.2 y2.1) fun r4 =>
bd (mulP r1.2 y2.2) fun r5 =>
ok (some ((r1.1 + r4), r5))) [] inner) fun more6 =>
bd (addP (cutA lot none (some spot)) (cutA lot (some (spot + (1 : Int))) none)) fun r7 =>
bd (addP r7 more6) fun r8 =>
ok (sortP r8)
def FL_place (lot : (List (Int × Int))) (spot : Int) : P Int :=
bd (mapP (fun y1 => bd (modP (spot - y1.2.1) y1.2.2) fun r3 =>
if (decide (r3 = (0 : Int))) = true then (ok (some y1.1)) else ok none) [] (enumI 0 lot)) fun l4 =>
bd (atP l4 (0 : Int)) fun r5 =>
ok r5
def F_is_between (thing : Int) (low : Int) (high : Int) : P Bool :=
bd (F_is_integer thing) fun r1 =>
bd (if r1 = true then (ok ((decide (low ≤ thing)) && (decide (thing ≤ high)))) else ok false) fun t2 =>
ok t2
def F_round_by (fu : Nat) (numbers : (List Int)) : P Int :=
bd (forS (fun number1 (s2 : Int) => bd (mulP s2 number1) fun r3 =>
bd (F_common_part fu s2 number1) fun r4 =>
bd (divP r3 r4) fun found5 =>
ok found5) numbers (1 : Int)) fun s2 =>
ok s2
def F_need_integer (number : Int) : P Unit :=
bd (F_is_integer number) fun r1 =>
if (!r1) = true then (stop)
else (ok ())
def F_lowest (fu : Nat) (top : Int) (bottom : Int) : P (Int × Int) :=
bd (F_common_part fu bottom top) fun part1 =>
bd (divP top part1) fun r2 =>
bd (divP bottom part1) fun r3 =>
ok (r2, r3)
def F_do_meet (fu : Nat) (one_ : (Int × Int)) (other : (Int × Int)) : P Bool :=
bd (F_common_part fu one_.2 other.2) fun r1 =>
bd (modP (other.1 - one_.1) r1) fun r2 =>
ok (decide (r2 = (0 : Int)))
def F_holder_of (cover : (List (Int × Int))) (number : Int) : P Int :=
bd (mapP (fun y1 => bd (F_does_hold y1.2 number) fun r3 =>
if r3 = true then (ok (some y1.1)) else ok none) [] (enumI 0 cover)) fun l4 =>
bd (atP l4 (0 : Int)) fun r5 =>
ok r5
def FL_pick (pen_here : (List Int)) (some_ : (List Int)) : P (Int × (List Int)) :=
bd (nx (FL_draw pen_here (some_.length : Int))) fun r1 =>
bd (atP some_ r1.1) fun r2 =>
ok (r2, r1.2)
def FL_lcm (fu : Nat) (sizes : (List Int)) : P Int :=
bd (forS (fun size1 (s2 : Int) => bd (mulP s2 size1) fun r3 =>
bd (FL_gcd fu s2 size1) fun r4 =>
bd (divP r3 r4) fun found5 =>
ok found5) sizes (1 : Int)) fun s2 =>
ok s2
def F_is_turn (thing : (Int × Int)) : P Bool :=
bd (if (!true) = true then ok true else (bd (if (!decide ((2 : Int) = (2 : Int))) = true then ok true else (bd (F_is_between thing.2 (1 : Int) (5040 : Int)) fun r3 =>
ok (!r3))) fun t2 =>
ok t2)) fun t1 =>
if t1 = true then (ok false)
else (bd (F_is_between thing.1 (0 : Int) (thing.2 - (1 : Int))) fun r4 =>
ok r4)
def F_weight_by (fu : Nat) (numbers : (List Int)) : P (Int × Int) :=
bd (F_round_by fu numbers) fun whole1 =>
bd (mapP (fun number2 => bd (divP whole1 number2) fun r4 =>
ok (some r4)) [] numbers) fun l5 =>
bd (F_lowest fu (List.sum l5) whole1) fun r6 =>
ok r6
def FL_plan (fu : Nat) (pen_here : (List Int)) (most : Int) (far : Int) : P ((List (Int × Int)) × (List Int)) :=
bd (ok ([((0 : Int), (1 : Int))] : (List (Int × Int)))) fun lot1 =>
bd (nx (FL_draw pen_here (5 : Int))) fun r2 =>
bd (rgP 0 ((1 : Int) + r2.1)) fun xs3 =>
bd (forS (fun turning4 (s5 : ((List Int) × (List (Int × Int)))) => bd (nx (FL_draw s5.1 (s5.2.length : Int))) fun r6 =>
bd (nx (FL_pick r6.2 [(2 : Int), (2 : Int), (3 : Int), (2 : Int), (4 : Int), (5 : Int)])) fun r7 =>
if (decide ((((s5.2.length : Int) + r7.1) - (1 : Int)) ≤ most)) = true then (bd (FL_cut s5.2 r6.1 r7.1) fun later8 =>
bd (mapT (fun y9 => y9.2) later8) fun l10 =>
bd (FL_lcm fu l10) fun r11 =>
bd (if (decide (r11 ≤ far)) = true then (ok later8) else (ok s5.2)) fun lot12 =>
ok (r7.2, lot12))
else (ok (r7.2, s5.2))) xs3 (r2.2, lot1)) fun s5 =>
ok (s5.2, s5.1)
def F_is_family (fu : Nat) (thing : (List (Int × Int))) : P Bool :=
bd (if (!true) = true then ok true else (bd (if (decide ((40 : Int) < (thing.length : Int))) = true then ok true else (bd (mapP (fun one_3 => bd (F_is_turn one_3) fun r5 =>
ok (some r5)) [] thing) fun l6 =>
ok (!(List.all l6 id)))) fun t2 =>
ok t2)) fun t1 =>
if t1 = true then (ok false)
else (bd (mapT (fun y7 => (ltP y7.1 y7.2)) (List.zip thing (cutA thing (some (1 : Int)) none))) fun l8 =>
if (!(List.all l8 id)) = true then (ok false)
else (bd (mapT (fun y9 => y9.2) thing) fun l10 =>
bd (F_round_by fu l10) fun r11 =>
ok (decide (r11 ≤ (5040 : Int)))))
def FL_hard_plan (fu : Nat) (pen_here : (List Int)) : P ((List (Int × Int)) × (List Int)) :=
bd (FL_hard ) fun r1 =>
bd (nx (FL_draw pen_here (30 : Int))) fun r2 =>
bd (FL_shifted r1 r2.1) fun inner3 =>
bd (nx (FL_plan fu r2.2 (4 : Int) (12 : Int))) fun outer4 =>
bd (nx (FL_draw outer4.2 (outer4.1.length : Int))) fun r5 =>
bd (FL_within outer4.1 r5.1 inner3) fun r6 =>
ok (r6, r5.2)
def F_is_cover (fu : Nat) (thing : (List (Int × Int))) : P Bool :=
bd (F_is_family fu thing) fun r1 =>
bd (if (!r1) = true then ok true else (bd (mapT (fun y3 => y3.2) thing) fun l4 =>
bd (F_weight_by fu l4) fun r5 =>
ok (!decide (r5 = ((1 : Int), (1 : Int)))))) fun t2 =>
if t2 = true then (ok false)
else (bd (comp2P (fun y6 => ok (cutA thing none (some y6.1))) (fun y6 other8 => bd (F_do_meet fu y6.2 other8) fun r9 =>
ok (some r9)) [] (enumI 0 thing)) fun l10 =>
ok (!(List.any l10 id)))
def F_need_cover (fu : Nat) (cover : (List (Int × Int))) : P Unit :=
bd (F_is_cover fu cover) fun r1 =>
if (!r1) = true then (stop)
else (ok ())
def F_holder (fu : Nat) (cover : (List (Int × Int))) (number : Int) : P Int :=
bd (F_need_cover fu cover) fun u1 =>
bd (F_need_integer number) fun u2 =>
bd (F_holder_of cover number) fun r3 =>
ok r3
def F_row (fu : Nat) (cover : (List (Int × Int))) (begin : Int) (long : Int) : P (List Int) :=
bd (F_need_cover fu cover) fun u1 =>
bd (F_need_integer begin) fun u2 =>
bd (F_is_between long (0 : Int) (500 : Int)) fun r3 =>
if (!r3) = true then (stop)
else (bd (rgW begin (begin + long)) fun xs4 =>
bd (mapP (fun number5 => bd (F_holder_of cover number5) fun r7 =>
ok (some r7)) [] xs4) fun l8 =>
ok l8)
def F_periods (fu : Nat) (cover : (List (Int × Int))) : P (List Int) :=
bd (F_need_cover fu cover) fun u1 =>
bd (mapT (fun y2 => y2.2) cover) fun l3 =>
ok (sortI l3)
def FL_right (fu : Nat) (lot : (List (Int × Int))) (begun : Int) (count : Int) : P Bool :=
bd (reprP ((eP3 (eT (eP eI eI)) eI eI) (lot, begun, count))) fun kept1 =>
bd (FL_place lot begun) fun r2 =>
bd (rgP 0 count) fun xs3 =>
bd (mapP (fun far4 => bd (FL_place lot (begun + far4)) fun r6 =>
ok (some r6)) [] xs3) fun l7 =>
bd (ok ([(eI r2), ((eT eI) l7)] : (List D))) fun due8 =>
bd (mapT (fun y9 => y9.2) lot) fun l10 =>
bd (appP due8 ((eT eI) (sortI l10))) fun due11 =>
bd (forR (fun lap18 (s19 : Unit) => bd (F_holder fu lot begun) fun r20 =>
bd (F_row fu lot begun count) fun r21 =>
bd (F_periods fu lot) fun r22 =>
bd (FL_same [(eI r20), ((eT eI) r21), ((eT eI) r22)] due11) fun r23 =>
if (!r23) = true then (ok (.rt false))
else (ok (.go ()))) (rngI 0 2) ()) fun o => lpK o fun s19 =>
bd (reprP ((eP3 (eT (eP eI eI)) eI eI) (lot, begun, count))) fun r24 =>
ok (decide (r24 = kept1))
def F_law (fu : Nat) (script : (List Int)) : P Bool :=
bd (FL_right fu [((0 : Int), (2 : Int)), ((1 : Int), (4 : Int)), ((3 : Int), (4 : Int))] (-7 : Int) (500 : Int)) fun r1 =>
bd (if (!r1) = true then ok true else (bd (FL_right fu [((0 : Int), (1 : Int))] (5 : Int) (0 : Int)) fun r3 =>
ok (!r3))) fun t2 =>
if t2 = true then (ok false)
else (bd (rgP 0 (mxI (1 : Int) (mnI (script.length : Int) (3 : Int)))) fun xs4 =>
bd (forR (fun k5 (s6 : Unit) => bd (FL_cell script k5) fun r7 =>
bd (FL_pen r7) fun pen_here8 =>
bd (forR (fun lap9 (s10 : (List Int)) => bd (if (decide (lap9 = (4 : Int))) = true then (bd (nx (FL_hard_plan fu s10)) fun r12 =>
ok (r12.1, r12.2)) else (bd (nx (FL_plan fu s10 (14 : Int) (120 : Int))) fun r13 =>
ok (r13.1, r13.2))) fun lot11 =>
bd (nx (FL_draw lot11.2 (99 : Int))) fun r14 =>
bd (nx (FL_draw r14.2 (99 : Int))) fun r15 =>
bd (nx (FL_pick r15.2 [(0 : Int), (r14.1 - (50 : Int)), (((10 : Int) ^ (39 : Nat)) - r15.1), (-((10 : Int) ^ (20 : Nat)))])) fun begun16 =>
bd (nx (FL_draw begun16.2 (30 : Int))) fun r17 =>
bd (nx (FL_pick r17.2 [(0 : Int), (1 : Int), r17.1])) fun r18 =>
bd (FL_right fu lot11.1 begun16.1 r18.1) fun r19 =>
if (!r19) = true then (ok (.rt (.rt false)))
else (ok (.go r18.2))) (rngI 0 5) pen_here8) fun o => lpK o fun s10 =>
ok (.go ())) xs4 ()) fun o => lpK o fun s6 =>
ok true)
end Law

namespace Law
open Z
open PySem (PyData)
theorem K_is_integer (fu n : Nat) (thing : Int) : FS 1 (run tab fu (n + 1) 0 [.v (eI thing)]) (F_is_integer thing) (fun r => ((.v (eB r)), [none])) := by
  refine fn_in (i := f0) (as := [.v (eI thing)]) (g0 := [.im (eI thing)]) rfl rfl rfl (fun z => absurd z (by decide)) (Nat.le_of_ble_eq_true rfl) rfl rfl ?_
  unfold F_is_integer
  refine ss_ret ?_
  refine s_tot (v := (.v (eB (true && (!false))))) (e_and (s := true) (t := (!false)) (e_isi (x := (.v (eI thing))) (e_var rfl) rfl) (e_not (x := (.v (eB false))) (t := false) (e_isi (x := (.v (eI thing))) (e_var rfl) rfl) rfl)) ?_
  exact s_done (rt_fn rfl rfl)
theorem K_common_part (fu n : Nat) (one_ : Int) (other : Int) : FS 2 (run tab fu (n + 1) 2 [.v (eI one_), .v (eI other)]) (F_common_part fu one_ other) (fun r => ((.v (eI r)), [none, none])) := by
  refine fn_in (i := f2) (as := [.v (eI one_), .v (eI other)]) (g0 := [.im (eI one_), .im (eI other)]) rfl rfl rfl (fun z => absurd z (by decide)) (Nat.le_of_ble_eq_true rfl) rfl rfl ?_
  unfold F_common_part
  refine ss_whl (G := fun s1 => [.im (eI s1.1), .im (eI s1.2)]) (s0 := (one_, other)) (fun s1 => ?_) (fun s1 => ?_) fun s1 => ?_
  · refine s_tot (v := (.v (eB (decide ((0 : Int) < s1.2))))) (e_cmp (x := (.v (eI s1.2))) (y := (.v (eI (0 : Int)))) (t := (decide ((0 : Int) < s1.2))) (e_var rfl) e_int (rfl)) ?_
    exact f_tr (t := (decide ((0 : Int) < s1.2))) rfl ⟨rfl, rfl⟩
  · refine ss_par ?_
    refine s_tot (v := (.v (eI s1.2))) (e_var rfl) ?_
    refine s_bin ?_
    refine s_tot (v := (.v (eI s1.1))) (e_var rfl) ?_
    refine s_tot (v := (.v (eI s1.2))) (e_var rfl) ?_
    refine s_opt (V := fun r2 => (.v (eI r2))) (o_mod) fun r2 => ?_
    refine f_G (g' := [.im (eI s1.2), .im (eI r2)]) rfl ?_
    refine ss_nil ?_
    exact fin_tn (s := (s1.2, r2)) rfl
  refine ss_ret ?_
  refine s_tot (v := (.v (eI s1.1))) (e_var rfl) ?_
  exact s_done (rt_fn rfl rfl)
theorem K_does_hold (fu n : Nat) (turn : (Int × Int)) (number : Int) : FS 2 (run tab fu (n + 1) 7 [.v ((eP eI eI) turn), .v (eI number)]) (F_does_hold turn number) (fun r => ((.v (eB r)), [none, none])) := by
  refine fn_in (i := f7) (as := [.v ((eP eI eI) turn), .v (eI number)]) (g0 := [.im ((eP eI eI) turn), .im (eI number)]) rfl rfl rfl (fun z => absurd z (by decide)) (Nat.le_of_ble_eq_true rfl) rfl rfl ?_
  unfold F_does_hold
  refine ss_ret ?_
  refine s_cmp ?_
  refine s_bin ?_
  refine s_tot (v := (.v (eI number))) (e_var rfl) ?_
  refine s_tot (v := (.v (eI turn.2))) (e_idx (x := (.v ((eP eI eI) turn))) (y := (.v (eI (1 : Int)))) (d := eI turn.2) (e_var rfl) e_int (rfl)) ?_
  refine s_opt (V := fun r1 => (.v (eI r1))) (o_mod) fun r1 => ?_
  refine s_tot (v := (.v (eI turn.1))) (e_idx (x := (.v ((eP eI eI) turn))) (y := (.v (eI (0 : Int)))) (d := eI turn.1) (e_var rfl) e_int (rfl)) ?_
  refine s_optt (v := .v (.bool (decide (r1 = turn.1)))) (congrArg (Option.map _) (rfl)) ?_
  exact s_done (rt_fn rfl rfl)
theorem KL_cell (fu n : Nat) (script : (List Int)) (k : Int) : FS 2 (run tab fu (n + 1) 17 [.s (List.map eI script), .v (eI k)]) (FL_cell script k) (fun r => ((.v (eI r)), [none, none])) := by
  refine fn_in (i := f17) (as := [.s (List.map eI script), .v (eI k)]) (g0 := [.sc (List.map eI script), .im (eI k)]) rfl rfl rfl (fun z => absurd z (by decide)) (Nat.le_of_ble_eq_true rfl) rfl rfl ?_
  unfold FL_cell
  refine ss_ret ?_
  refine s_ite ?_
  refine s_tot (v := (.v (eB (decide (k < (script.length : Int)))))) (e_cmp (x := (.v (eI k))) (y := (.v (eI (script.length : Int)))) (t := (decide (k < (script.length : Int)))) (e_var rfl) (e_lenv rfl (l_len (e := eI) (xs := script))) (rfl)) ?_
  refine f_ite (t := (decide (k < (script.length : Int)))) (φ := fun r1 => ((.v (eI r1)), [.sc (List.map eI script), .im (eI k)])) rfl ?_ ?_ fun r1 => ?_
  · refine s_idxv rfl ?_
    refine s_tot (v := (.v (eI k))) (e_var rfl) ?_
    refine f_ixv rfl ?_
    refine s_opt (V := fun r2 => (.v (eI r2))) ((o_atL (e := eI) (xs := script) (i := k))) fun r2 => ?_
    exact fin_hd rfl rfl
  · refine s_tot (v := (.v (eI (0 : Int)))) e_int ?_
    exact fin_hd rfl rfl
  exact s_done (rt_fn rfl rfl)
theorem KL_pen (fu n : Nat) (cell_here : Int) : FS 1 (run tab fu (n + 1) 18 [.v (eI cell_here)]) (FL_pen cell_here) (fun r => ((.m (.l (List.map eI r))), [none])) := by
  refine fn_in (i := f18) (as := [.v (eI cell_here)]) (g0 := [.im (eI cell_here)]) rfl rfl rfl (fun z => absurd z (by decide)) (Nat.le_of_ble_eq_true rfl) rfl rfl ?_
  unfold FL_pen
  refine ss_ret ?_
  refine s_tot (v := (.m (.l (List.map eI [(mxI (0 : Int) (cell_here - ((10 : Int) ^ (18 : Nat)))), ((cell_here % (2147483629 : Int)) + (1 : Int)), (0 : Int)])))) (e_lst (es_cons (x := (.v (eI (mxI (0 : Int) (cell_here - ((10 : Int) ^ (18 : Nat))))))) (e_b2 (x := (.v (eI (0 : Int)))) (y := (.v (eI (cell_here - ((10 : Int) ^ (18 : Nat)))))) (d := eI (mxI (0 : Int) (cell_here - ((10 : Int) ^ (18 : Nat))))) e_int (e_bin (x := (.v (eI cell_here))) (y := (.v (eI ((10 : Int) ^ (18 : Nat))))) (v := (.v (eI (cell_here - ((10 : Int) ^ (18 : Nat)))))) (e_var rfl) (e_bin (x := (.v (eI (10 : Int)))) (y := (.v (eI (18 : Int)))) (v := (.v (eI ((10 : Int) ^ (18 : Nat))))) e_int e_int (b_powc (i := (10 : Int)) (j := (18 : Int)) (by decide))) (rfl)) rfl) (es_cons (x := (.v (eI ((cell_here % (2147483629 : Int)) + (1 : Int))))) (e_bin (x := (.v (eI (cell_here % (2147483629 : Int))))) (y := (.v (eI (1 : Int)))) (v := (.v (eI ((cell_here % (2147483629 : Int)) + (1 : Int))))) (e_bin (x := (.v (eI cell_here))) (y := (.v (eI (2147483629 : Int)))) (v := (.v (eI (cell_here % (2147483629 : Int))))) (e_var rfl) e_int (b_modc (i := cell_here) (j := (2147483629 : Int)) (by decide))) e_int (rfl)) (es_cons (x := (.v (eI (0 : Int)))) e_int es_nil))) (Nat.le_of_ble_eq_true rfl)) ?_
  exact s_done (rt_fn rfl rfl)
theorem KL_draw (fu n : Nat) (pen_here : (List Int)) (upto : Int) : FS 2 (run tab fu (n + 1) 19 [.m (.l (List.map eI pen_here)), .v (eI upto)]) (nx (FL_draw pen_here upto)) (fun r => ((.v (eI r.1)), [some (.l (List.map eI r.2)), none])) := by
  refine fn_inM (i := f19) (as := [.m (.l (List.map eI pen_here)), .v (eI upto)]) (g0 := [.bo (.l (List.map eI pen_here)), .im (eI upto), .no, .no]) rfl rfl rfl (fun z => absurd z (by decide)) rfl ?_
  unfold FL_draw
  refine ss_ite ?_
  refine s_cmp ?_
  refine s_idxv rfl ?_
  refine s_tot (v := (.v (eI (0 : Int)))) e_int ?_
  refine f_ixv rfl ?_
  refine s_opt (V := fun r1 => (.v (eI r1))) ((o_atL (e := eI) (xs := pen_here) (i := (0 : Int)))) fun r1 => ?_
  refine s_tot (v := (.v (eI (0 : Int)))) e_int ?_
  refine s_optt (v := .v (.bool (decide ((0 : Int) < r1)))) (congrArg (Option.map _) (rfl)) ?_
  refine f_if (t := (decide ((0 : Int) < r1))) rfl ?_ ?_
  · refine ss_set ?_
    refine s_bin ?_
    refine s_idxv rfl ?_
    refine s_tot (v := (.v (eI (0 : Int)))) e_int ?_
    refine f_ixv rfl ?_
    refine s_opt (V := fun r2 => (.v (eI r2))) ((o_atL (e := eI) (xs := pen_here) (i := (0 : Int)))) fun r2 => ?_
    refine s_tot (v := (.v (eI upto))) (e_var rfl) ?_
    refine s_opt (V := fun found3 => (.v (eI found3))) (o_mod) fun found3 => ?_
    refine f_G (g' := [.bo (.l (List.map eI pen_here)), .im (eI upto), .im (eI found3), .no]) rfl ?_
    refine ss_put ?_
    refine s_bin ?_
    refine s_idxv rfl ?_
    refine s_tot (v := (.v (eI (0 : Int)))) e_int ?_
    refine f_ixv rfl ?_
    refine s_opt (V := fun r4 => (.v (eI r4))) ((o_atL (e := eI) (xs := pen_here) (i := (0 : Int)))) fun r4 => ?_
    refine s_tot (v := (.v (eI upto))) (e_var rfl) ?_
    refine s_opt (V := fun r5 => (.v (eI r5))) (o_div) fun r5 => ?_
    refine f_put1 rfl ?_
    refine s_tot (v := (.v (eI (0 : Int)))) e_int ?_
    refine f_put2 (bo := true) (e := eI) (v := r5) (g' := fun pen_here6 => [.bo (.l (List.map eI pen_here6)), .im (eI upto), .im (eI found3), .no]) rfl (fun _ => rfl) fun pen_here6 => ?_
    refine ss_ret ?_
    refine s_tot (v := (.v (eI found3))) (e_var rfl) ?_
    exact s_done (rt_fn rfl rfl)
  · refine ss_nil ?_
    refine ss_put ?_
    refine s_bin ?_
    refine s_idxv rfl ?_
    refine s_tot (v := (.v (eI (2 : Int)))) e_int ?_
    refine f_ixv rfl ?_
    refine s_opt (V := fun r7 => (.v (eI r7))) ((o_atL (e := eI) (xs := pen_here) (i := (2 : Int)))) fun r7 => ?_
    refine s_tot (v := (.v (eI (1 : Int)))) e_int ?_
    refine s_optt (v := (.v (eI (r7 + (1 : Int))))) (rfl) ?_
    refine f_put1 rfl ?_
    refine s_tot (v := (.v (eI (2 : Int)))) e_int ?_
    refine f_put2 (bo := true) (e := eI) (v := (r7 + (1 : Int))) (g' := fun pen_here8 => [.bo (.l (List.map eI pen_here8)), .im (eI upto), .no, .no]) rfl (fun _ => rfl) fun pen_here8 => ?_
    refine ss_put ?_
    refine s_bin ?_
    refine s_bin ?_
    refine s_bin ?_
    refine s_bin ?_
    refine s_idxv rfl ?_
    refine s_tot (v := (.v (eI (1 : Int)))) e_int ?_
    refine f_ixv rfl ?_
    refine s_opt (V := fun r9 => (.v (eI r9))) ((o_atL (e := eI) (xs := pen_here8) (i := (1 : Int)))) fun r9 => ?_
    refine s_tot (v := (.v (eI (48271 : Int)))) e_int ?_
    refine s_optt (v := (.v (eI (r9 * (48271 : Int))))) (b_mulc (i := r9) (j := (48271 : Int)) (by decide)) ?_
    refine s_bin ?_
    refine s_tot (v := (.v (eI (1009 : Int)))) e_int ?_
    refine s_idxv rfl ?_
    refine s_tot (v := (.v (eI (2 : Int)))) e_int ?_
    refine f_ixv rfl ?_
    refine s_opt (V := fun r10 => (.v (eI r10))) ((o_atL (e := eI) (xs := pen_here8) (i := (2 : Int)))) fun r10 => ?_
    refine s_optt (v := (.v (eI ((1009 : Int) * r10)))) (b_mulc' (i := (1009 : Int)) (j := r10) (by decide)) ?_
    refine s_optt (v := (.v (eI ((r9 * (48271 : Int)) + ((1009 : Int) * r10))))) (rfl) ?_
    refine s_tot (v := (.v (eI (7 : Int)))) e_int ?_
    refine s_optt (v := (.v (eI (((r9 * (48271 : Int)) + ((1009 : Int) * r10)) + (7 : Int))))) (rfl) ?_
    refine s_tot (v := (.v (eI (2147483647 : Int)))) e_int ?_
    refine s_optt (v := (.v (eI ((((r9 * (48271 : Int)) + ((1009 : Int) * r10)) + (7 : Int)) % (2147483647 : Int))))) (b_modc (i := (((r9 * (48271 : Int)) + ((1009 : Int) * r10)) + (7 : Int))) (j := (2147483647 : Int)) (by decide)) ?_
    refine f_put1 rfl ?_
    refine s_tot (v := (.v (eI (1 : Int)))) e_int ?_
    refine f_put2 (bo := true) (e := eI) (v := ((((r9 * (48271 : Int)) + ((1009 : Int) * r10)) + (7 : Int)) % (2147483647 : Int))) (g' := fun pen_here11 => [.bo (.l (List.map eI pen_here11)), .im (eI upto), .no, .no]) rfl (fun _ => rfl) fun pen_here11 => ?_
    refine ss_set ?_
    refine s_bin ?_
    refine s_bin ?_
    refine s_bin ?_
    refine s_bin ?_
    refine s_idxv rfl ?_
    refine s_tot (v := (.v (eI (1 : Int)))) e_int ?_
    refine f_ixv rfl ?_
    refine s_opt (V := fun r12 => (.v (eI r12))) ((o_atL (e := eI) (xs := pen_here11) (i := (1 : Int)))) fun r12 => ?_
    refine s_idxv rfl ?_
    refine s_tot (v := (.v (eI (1 : Int)))) e_int ?_
    refine f_ixv rfl ?_
    refine s_opt (V := fun r13 => (.v (eI r13))) ((o_atL (e := eI) (xs := pen_here11) (i := (1 : Int)))) fun r13 => ?_
    refine s_opt (V := fun r14 => (.v (eI r14))) (o_mul) fun r14 => ?_
    refine s_bin ?_
    refine s_tot (v := (.v (eI (69621 : Int)))) e_int ?_
    refine s_idxv rfl ?_
    refine s_tot (v := (.v (eI (1 : Int)))) e_int ?_
    refine f_ixv rfl ?_
    refine s_opt (V := fun r15 => (.v (eI r15))) ((o_atL (e := eI) (xs := pen_here11) (i := (1 : Int)))) fun r15 => ?_
    refine s_optt (v := (.v (eI ((69621 : Int) * r15)))) (b_mulc' (i := (69621 : Int)) (j := r15) (by decide)) ?_
    refine s_optt (v := (.v (eI (r14 + ((69621 : Int) * r15))))) (rfl) ?_
    refine s_tot (v := (.v (eI (11 : Int)))) e_int ?_
    refine s_optt (v := (.v (eI ((r14 + ((69621 : Int) * r15)) + (11 : Int))))) (rfl) ?_
    refine s_tot (v := (.v (eI (2147483629 : Int)))) e_int ?_
    refine s_optt (v := (.v (eI (((r14 + ((69621 : Int) * r15)) + (11 : Int)) % (2147483629 : Int))))) (b_modc (i := ((r14 + ((69621 : Int) * r15)) + (11 : Int))) (j := (2147483629 : Int)) (by decide)) ?_
    refine f_GL (V := fun stirred16 => (.v (eI stirred16))) (a := (((r14 + ((69621 : Int) * r15)) + (11 : Int)) % (2147483629 : Int))) (g' := fun stirred16 => [.bo (.l (List.map eI pen_here11)), .im (eI upto), .no, .im (eI stirred16)]) (fun _ => rfl) fun stirred16 => ?_
    refine ss_set ?_
    refine s_bin ?_
    refine s_bin ?_
    refine s_bin ?_
    refine s_tot (v := (.v (eI stirred16))) (e_var rfl) ?_
    refine s_tot (v := (.v (eI stirred16))) (e_var rfl) ?_
    refine s_opt (V := fun r17 => (.v (eI r17))) (o_mul) fun r17 => ?_
    refine s_tot (v := (.v (eI ((40014 : Int) * stirred16)))) (e_bin (x := (.v (eI (40014 : Int)))) (y := (.v (eI stirred16))) (v := (.v (eI ((40014 : Int) * stirred16)))) e_int (e_var rfl) (b_mulc' (i := (40014 : Int)) (j := stirred16) (by decide))) ?_
    refine s_optt (v := (.v (eI (r17 + ((40014 : Int) * stirred16))))) (rfl) ?_
    refine s_tot (v := (.v (eI (2147483587 : Int)))) e_int ?_
    refine s_optt (v := (.v (eI ((r17 + ((40014 : Int) * stirred16)) % (2147483587 : Int))))) (b_modc (i := (r17 + ((40014 : Int) * stirred16))) (j := (2147483587 : Int)) (by decide)) ?_
    refine f_GL (V := fun stirred18 => (.v (eI stirred18))) (a := ((r17 + ((40014 : Int) * stirred16)) % (2147483587 : Int))) (g' := fun stirred18 => [.bo (.l (List.map eI pen_here11)), .im (eI upto), .no, .im (eI stirred18)]) (fun _ => rfl) fun stirred18 => ?_
    refine ss_ret ?_
    refine s_bin ?_
    refine s_tot (v := (.v (eI (stirred18 / (16 : Int))))) (e_bin (x := (.v (eI stirred18))) (y := (.v (eI (16 : Int)))) (v := (.v (eI (stirred18 / (16 : Int))))) (e_var rfl) e_int (b_divc (i := stirred18) (j := (16 : Int)) (by decide))) ?_
    refine s_tot (v := (.v (eI upto))) (e_var rfl) ?_
    refine s_opt (V := fun r19 => (.v (eI r19))) (o_mod) fun r19 => ?_
    exact s_done (rt_fn rfl rfl)
theorem KL_same (fu n : Nat) (found : (List D)) (due : (List D)) : FS 2 (run tab fu (n + 1) 21 [.v ((eL eD) found), .v ((eL eD) due)]) (FL_same found due) (fun r => ((.v (eB r)), [none, none])) := by
  refine fn_in (i := f21) (as := [.v ((eL eD) found), .v ((eL eD) due)]) (g0 := [.im ((eL eD) found), .im ((eL eD) due)]) rfl rfl rfl (fun z => absurd z (by decide)) (Nat.le_of_ble_eq_true rfl) rfl rfl ?_
  unfold FL_same
  refine ss_ret ?_
  refine s_cmp ?_
  refine s_b1 ?_
  refine s_tot (v := (.v ((eL eD) found))) (e_var rfl) ?_
  refine s_opt (V := fun r1 => (.v (eS r1))) (o_repr) fun r1 => ?_
  refine s_b1 ?_
  refine s_tot (v := (.v ((eL eD) due))) (e_var rfl) ?_
  refine s_opt (V := fun r2 => (.v (eS r2))) (o_repr) fun r2 => ?_
  refine s_optt (v := .v (.bool (decide (r1 = r2)))) (congrArg (Option.map _) (rfl)) ?_
  exact s_done (rt_fn rfl rfl)
theorem KL_gcd (fu n : Nat) (a : Int) (b : Int) : FS 2 (run tab fu (n + 1) 22 [.v (eI a), .v (eI b)]) (FL_gcd fu a b) (fun r => ((.v (eI r)), [none, none])) := by
  refine fn_in (i := f22) (as := [.v (eI a), .v (eI b)]) (g0 := [.im (eI a), .im (eI b)]) rfl rfl rfl (fun z => absurd z (by decide)) (Nat.le_of_ble_eq_true rfl) rfl rfl ?_
  unfold FL_gcd
  refine ss_whl (G := fun s1 => [.im (eI s1.1), .im (eI s1.2)]) (s0 := (a, b)) (fun s1 => ?_) (fun s1 => ?_) fun s1 => ?_
  · refine s_tot (v := (.v (eB (decide ((0 : Int) < s1.2))))) (e_cmp (x := (.v (eI s1.2))) (y := (.v (eI (0 : Int)))) (t := (decide ((0 : Int) < s1.2))) (e_var rfl) e_int (rfl)) ?_
    exact f_tr (t := (decide ((0 : Int) < s1.2))) rfl ⟨rfl, rfl⟩
  · refine ss_par ?_
    refine s_tot (v := (.v (eI s1.2))) (e_var rfl) ?_
    refine s_bin ?_
    refine s_tot (v := (.v (eI s1.1))) (e_var rfl) ?_
    refine s_tot (v := (.v (eI s1.2))) (e_var rfl) ?_
    refine s_opt (V := fun r2 => (.v (eI r2))) (o_mod) fun r2 => ?_
    refine f_G (g' := [.im (eI s1.2), .im (eI r2)]) rfl ?_
    refine ss_nil ?_
    exact fin_tn (s := (s1.2, r2)) rfl
  refine ss_ret ?_
  refine s_tot (v := (.v (eI s1.1))) (e_var rfl) ?_
  exact s_done (rt_fn rfl rfl)
theorem KL_cut (fu n : Nat) (lot : (List (Int × Int))) (spot : Int) (upto : Int) : FS 3 (run tab fu (n + 1) 24 [.v ((eT (eP eI eI)) lot), .v (eI spot), .v (eI upto)]) (FL_cut lot spot upto) (fun r => ((.v ((eT (eP eI eI)) r)), [none, none, none])) := by
  refine fn_in (i := f24) (as := [.v ((eT (eP eI eI)) lot), .v (eI spot), .v (eI upto)]) (g0 := [.im ((eT (eP eI eI)) lot), .im (eI spot), .im (eI upto), .no, .no, .no, .no]) rfl rfl rfl (fun z => absurd z (by decide)) (Nat.le_of_ble_eq_true rfl) rfl rfl ?_
  unfold FL_cut
  refine ss_asg ?_
  refine s_idx ?_
  refine s_tot (v := (.v ((eT (eP eI eI)) lot))) (e_var rfl) ?_
  refine s_tot (v := (.v (eI spot))) (e_var rfl) ?_
  refine s_opt (V := fun r1 => (.v ((eP eI eI) r1))) ((o_atT (e := (eP eI eI)) (xs := lot) (i := spot))) fun r1 => ?_
  refine f_G (g' := [.im ((eT (eP eI eI)) lot), .im (eI spot), .im (eI upto), .im (eI r1.1), .im (eI r1.2), .no, .no]) rfl ?_
  refine ss_set ?_
  refine s_comp ?_
  refine s_r_rng1 ?_
  refine s_tot (v := (.v (eI upto))) (e_var rfl) ?_
  refine f_rng1 fun xs2 => ?_
  refine f_map (E := eI) (e' := (eP eI eI)) rfl (fun at_3 => ?_) rfl fun more7 => ?_
  · refine s_cb_non (g1 := [.im ((eT (eP eI eI)) lot), .im (eI spot), .im (eI upto), .im (eI r1.1), .im (eI r1.2), .no, .im (eI at_3)]) rfl ?_
    refine s_tup ?_
    refine s_es_cons ?_
    refine s_bin ?_
    refine s_tot (v := (.v (eI r1.1))) (e_var rfl) ?_
    refine s_bin ?_
    refine s_tot (v := (.v (eI at_3))) (e_var rfl) ?_
    refine s_tot (v := (.v (eI r1.2))) (e_var rfl) ?_
    refine s_opt (V := fun r5 => (.v (eI r5))) (o_mul) fun r5 => ?_
    refine s_optt (v := (.v (eI (r1.1 + r5)))) (rfl) ?_
    refine s_es_cons ?_
    refine s_bin ?_
    refine s_tot (v := (.v (eI upto))) (e_var rfl) ?_
    refine s_tot (v := (.v (eI r1.2))) (e_var rfl) ?_
    refine s_opt (V := fun r6 => (.v (eI r6))) (o_mul) fun r6 => ?_
    refine s_es_nil ?_
    refine f_tup (Nat.le_of_ble_eq_true rfl) ?_
    exact s_done ⟨rfl, rfl⟩
  refine f_G (g' := [.im ((eT (eP eI eI)) lot), .im (eI spot), .im (eI upto), .im (eI r1.1), .im (eI r1.2), .im ((eL (eP eI eI)) more7), .no]) rfl ?_
  refine ss_ret ?_
  refine s_b1 ?_
  refine s_b1 ?_
  refine s_bin ?_
  refine s_b1 ?_
  refine s_bin ?_
  refine s_tot (v := (.v ((eT (eP eI eI)) (cutA lot none (some spot))))) (e_slc (x := (.v ((eT (eP eI eI)) lot))) (e_var rfl) o_non (o_som (i := spot) (e_var rfl)) (t_slc (e := (eP eI eI)) (xs := lot) (lo := none) (hi := (some spot)))) ?_
  refine s_tot (v := (.v ((eT (eP eI eI)) (cutA lot (some (spot + (1 : Int))) none)))) (e_slc (x := (.v ((eT (eP eI eI)) lot))) (e_var rfl) (o_som (i := (spot + (1 : Int))) (e_bin (x := (.v (eI spot))) (y := (.v (eI (1 : Int)))) (v := (.v (eI (spot + (1 : Int))))) (e_var rfl) e_int (rfl))) o_non (t_slc (e := (eP eI eI)) (xs := lot) (lo := (some (spot + (1 : Int)))) (hi := none))) ?_
  refine s_opt (V := fun r8 => (.v ((eT (eP eI eI)) r8))) ((o_addT (e := (eP eI eI)) (xs := (cutA lot none (some spot))) (ys := (cutA lot (some (spot + (1 : Int))) none)))) fun r8 => ?_
  refine s_optt (v := (.m (.l (List.map (eP eI eI) r8)))) (rfl) ?_
  refine s_tot (v := (.v ((eL (eP eI eI)) more7))) (e_var rfl) ?_
  refine s_opt (V := fun r9 => (.m (.l (List.map (eP eI eI) r9)))) ((o_addL (e := (eP eI eI)) (xs := r8) (ys := more7))) fun r9 => ?_
  refine s_optt (v := (.m (.l (List.map (eP eI eI) (sortP r9))))) (b_sortP (xs := r9)) ?_
  refine s_optt (v := (.v ((eT (eP eI eI)) (sortP r9)))) (rfl) ?_
  exact s_done (rt_fn rfl rfl)
theorem KL_hard (fu n : Nat)  : FS 0 (run tab fu (n + 1) 26 []) (FL_hard ) (fun r => ((.v ((eT (eP eI eI)) r)), [])) := by
  refine fn_in (i := f26) (as := []) (g0 := [.no, .no, .no, .no, .no]) rfl rfl rfl (fun z => absurd z (by decide)) (Nat.le_of_ble_eq_true rfl) rfl rfl ?_
  unfold FL_hard
  refine ss_set ?_
  refine s_tot (v := (.m (.l (List.map (eP eI eI) [((0 : Int), (6 : Int)), ((1 : Int), (10 : Int)), ((2 : Int), (15 : Int))])))) (e_lst (es_cons (x := (.v ((eP eI eI) ((0 : Int), (6 : Int))))) (e_tup (es_cons (x := (.v (eI (0 : Int)))) e_int (es_cons (x := (.v (eI (6 : Int)))) e_int es_nil)) (Nat.le_of_ble_eq_true rfl)) (es_cons (x := (.v ((eP eI eI) ((1 : Int), (10 : Int))))) (e_tup (es_cons (x := (.v (eI (1 : Int)))) e_int (es_cons (x := (.v (eI (10 : Int)))) e_int es_nil)) (Nat.le_of_ble_eq_true rfl)) (es_cons (x := (.v ((eP eI eI) ((2 : Int), (15 : Int))))) (e_tup (es_cons (x := (.v (eI (2 : Int)))) e_int (es_cons (x := (.v (eI (15 : Int)))) e_int es_nil)) (Nat.le_of_ble_eq_true rfl)) es_nil))) (Nat.le_of_ble_eq_true rfl)) ?_
  refine f_GL (V := fun begun1 => (.m (.l (List.map (eP eI eI) begun1)))) (a := [((0 : Int), (6 : Int)), ((1 : Int), (10 : Int)), ((2 : Int), (15 : Int))]) (g' := fun begun1 => [.im ((eL (eP eI eI)) begun1), .no, .no, .no, .no]) (fun _ => rfl) fun begun1 => ?_
  refine ss_set ?_
  refine s_comp ?_
  refine s_r_rng1 ?_
  refine s_tot (v := (.v (eI (30 : Int)))) e_int ?_
  refine f_rng1t (by decide) ?_
  refine f_map (E := eI) (e' := eI) rfl (fun spot2 => ?_) rfl fun rest_8 => ?_
  · refine s_cb_som (g1 := [.im ((eL (eP eI eI)) begun1), .no, .im (eI spot2), .no, .no]) rfl ?_
    refine s_cmp ?_
    refine s_comp ?_
    refine s_r_seq ?_
    refine s_tot (v := (.v ((eL (eP eI eI)) begun1))) (e_var rfl) ?_
    refine f_seq (ds := List.map (eP eI eI) begun1) rfl ?_
    refine f_map (E := (eP eI eI)) (e' := eI) rfl (fun y4 => ?_) rfl fun l7 => ?_
    · refine s_cb_som (g1 := [.im ((eL (eP eI eI)) begun1), .no, .im (eI spot2), .im (eI y4.1), .im (eI y4.2)]) rfl ?_
      refine s_cmp ?_
      refine s_bin ?_
      refine s_tot (v := (.v (eI spot2))) (e_var rfl) ?_
      refine s_tot (v := (.v (eI y4.2))) (e_var rfl) ?_
      refine s_opt (V := fun r6 => (.v (eI r6))) (o_mod) fun r6 => ?_
      refine s_tot (v := (.v (eI y4.1))) (e_var rfl) ?_
      refine s_optt (v := .v (.bool (decide (r6 = y4.1)))) (congrArg (Option.map _) (rfl)) ?_
      refine f_q (p := (decide (r6 = y4.1))) rfl ?_ ⟨rfl, rfl⟩
      refine s_tot (v := (.v (eI (1 : Int)))) e_int ?_
      exact s_done ⟨rfl, rfl⟩
    refine s_tot (v := (.m (.l (List.map eI [])))) (e_lst es_nil (Nat.le_of_ble_eq_true rfl)) ?_
    refine s_optt (v := .v (.bool (decide (l7 = [])))) (congrArg (Option.map _) (c_eq (e := (eL eI)) (by decide) l7 [])) ?_
    refine f_q (p := (decide (l7 = []))) rfl ?_ ⟨rfl, rfl⟩
    refine s_tot (v := (.v (eI spot2))) (e_var rfl) ?_
    exact s_done ⟨rfl, rfl⟩
  refine f_G (g' := [.im ((eL (eP eI eI)) begun1), .im ((eL eI) rest_8), .no, .no, .no]) rfl ?_
  refine ss_ret ?_
  refine s_b1 ?_
  refine s_b1 ?_
  refine s_bin ?_
  refine s_tot (v := (.v ((eL (eP eI eI)) begun1))) (e_var rfl) ?_
  refine s_comp ?_
  refine s_r_seq ?_
  refine s_tot (v := (.v ((eL eI) rest_8))) (e_var rfl) ?_
  refine f_seq (ds := List.map eI rest_8) rfl ?_
  refine f_mapT (E := eI) (e' := (eP eI eI)) (h := fun spot9 => (spot9, (30 : Int))) rfl (fun spot9 => ⟨[.im ((eL (eP eI eI)) begun1), .im ((eL eI) rest_8), .im (eI spot9), .no, .no], cb_non (v := (.v ((eP eI eI) (spot9, (30 : Int))))) rfl (e_tup (es_cons (x := (.v (eI spot9))) (e_var rfl) (es_cons (x := (.v (eI (30 : Int)))) e_int es_nil)) (Nat.le_of_ble_eq_true rfl)), rfl⟩) rfl fun l10 => ?_
  refine s_opt (V := fun r11 => (.m (.l (List.map (eP eI eI) r11)))) ((o_addL (e := (eP eI eI)) (xs := begun1) (ys := l10))) fun r11 => ?_
  refine s_optt (v := (.m (.l (List.map (eP eI eI) (sortP r11))))) (b_sortP (xs := r11)) ?_
  refine s_optt (v := (.v ((eT (eP eI eI)) (sortP r11)))) (rfl) ?_
  exact s_done (rt_fn rfl rfl)
theorem KL_shifted (fu n : Nat) (lot : (List (Int × Int))) (by_ : Int) : FS 2 (run tab fu (n + 1) 27 [.v ((eT (eP eI eI)) lot), .v (eI by_)]) (FL_shifted lot by_) (fun r => ((.v ((eT (eP eI eI)) r)), [none, none])) := by
  refine fn_in (i := f27) (as := [.v ((eT (eP eI eI)) lot), .v (eI by_)]) (g0 := [.im ((eT (eP eI eI)) lot), .im (eI by_), .no, .no]) rfl rfl rfl (fun z => absurd z (by decide)) (Nat.le_of_ble_eq_true rfl) rfl rfl ?_
  unfold FL_shifted
  refine ss_ret ?_
  refine s_b1 ?_
  refine s_b1 ?_
  refine s_comp ?_
  refine s_r_seq ?_
  refine s_tot (v := (.v ((eT (eP eI eI)) lot))) (e_var rfl) ?_
  refine f_seq (ds := List.map (eP eI eI) lot) rfl ?_
  refine f_map (E := (eP eI eI)) (e' := (eP eI eI)) rfl (fun y1 => ?_) rfl fun l4 => ?_
  · refine s_cb_non (g1 := [.im ((eT (eP eI eI)) lot), .im (eI by_), .im (eI y1.1), .im (eI y1.2)]) rfl ?_
    refine s_tup ?_
    refine s_es_cons ?_
    refine s_bin ?_
    refine s_tot (v := (.v (eI (y1.1 + by_)))) (e_bin (x := (.v (eI y1.1))) (y := (.v (eI by_))) (v := (.v (eI (y1.1 + by_)))) (e_var rfl) (e_var rfl) (rfl)) ?_
    refine s_tot (v := (.v (eI y1.2))) (e_var rfl) ?_
    refine s_opt (V := fun r3 => (.v (eI r3))) (o_mod) fun r3 => ?_
    refine s_es_cons ?_
    refine s_tot (v := (.v (eI y1.2))) (e_var rfl) ?_
    refine s_es_nil ?_
    refine f_tup (Nat.le_of_ble_eq_true rfl) ?_
    exact s_done ⟨rfl, rfl⟩
  refine s_optt (v := (.m (.l (List.map (eP eI eI) (sortP l4))))) (b_sortP (xs := l4)) ?_
  refine s_optt (v := (.v ((eT (eP eI eI)) (sortP l4)))) (rfl) ?_
  exact s_done (rt_fn rfl rfl)
theorem KL_within (fu n : Nat) (lot : (List (Int × Int))) (spot : Int) (inner : (List (Int × Int))) : FS 3 (run tab fu (n + 1) 28 [.v ((eT (eP eI eI)) lot), .v (eI spot), .v ((eT (eP eI eI)) inner)]) (FL_within lot spot inner) (fun r => ((.v ((eT (eP eI eI)) r)), [none, none, none])) := by
  refine fn_in (i := f28) (as := [.v ((eT (eP eI eI)) lot), .v (eI spot), .v ((eT (eP eI eI)) inner)]) (g0 := [.im ((eT (eP eI eI)) lot), .im (eI spot), .im ((eT (eP eI eI)) inner), .no, .no, .no, .no, .no]) rfl rfl rfl (fun z => absurd z (by decide)) (Nat.le_of_ble_eq_true rfl) rfl rfl ?_
  unfold FL_within
  refine ss_asg ?_
  refine s_idx ?_
  refine s_tot (v := (.v ((eT (eP eI eI)) lot))) (e_var rfl) ?_
  refine s_tot (v := (.v (eI spot))) (e_var rfl) ?_
  refine s_opt (V := fun r1 => (.v ((eP eI eI) r1))) ((o_atT (e := (eP eI eI)) (xs := lot) (i := spot))) fun r1 => ?_
  refine f_G (g' := [.im ((eT (eP eI eI)) lot), .im (eI spot), .im ((eT (eP eI eI)) inner), .im (eI r1.1), .im (eI r1.2), .no, .no, .no]) rfl ?_
  refine ss_set ?_
  refine s_comp ?_
  refine s_r_seq ?_
  refine s_tot (v := (.v ((eT (eP eI eI)) inner))) (e_var rfl) ?_
  refine f_seq (ds := List.map (eP eI eI) inner) rfl ?_
  refine f_map (E := (eP eI eI)) (e' := (eP eI eI)) rfl (fun y2 => ?_) rfl fun more6 => ?_
  · refine s_cb_non (g1 := [.im ((eT (eP eI eI)) lot), .im (eI spot), .im ((eT (eP eI eI)) inner), .im (eI r1.1), .im (eI r1.2), .no, .im (eI y2.1), .im (eI y2.2)]) rfl ?_
    refine s_tup ?_
    refine s_es_cons ?_
    refine s_bin ?_
    refine s_tot (v := (.v (eI r1.1))) (e_var rfl) ?_
    refine s_bin ?_
    refine s_tot (v := (.v (eI r1.2))) (e_var rfl) ?_
    refine s_tot (v := (.v (eI y2.1))) (e_var rfl) ?_
    refine s_opt (V := fun r4 => (.v (eI r4))) (o_mul) fun r4 => ?_
    refine s_optt (v := (.v (eI (r1.1 + r4)))) (rfl) ?_
    refine s_es_cons ?_
    refine s_bin ?_
    refine s_tot (v := (.v (eI r1.2))) (e_var rfl) ?_
    refine s_tot (v := (.v (eI y2.2))) (e_var rfl) ?_
    refine s_opt (V := fun r5 => (.v (eI r5))) (o_mul) fun r5 => ?_
    refine s_es_nil ?_
    refine f_tup (Nat.le_of_ble_eq_true rfl) ?_
    exact s_done ⟨rfl, rfl⟩
  refine f_G (g' := [.im ((eT (eP eI eI)) lot), .im (eI spot), .im ((eT (eP eI eI)) inner), .im (eI r1.1), .im (eI r1.2), .im ((eL (eP eI eI)) more6), .no, .no]) rfl ?_
  refine ss_ret ?_
  refine s_b1 ?_
  refine s_b1 ?_
  refine s_bin ?_
  refine s_b1 ?_
  refine s_bin ?_
  refine s_tot (v := (.v ((eT (eP eI eI)) (cutA lot none (some spot))))) (e_slc (x := (.v ((eT (eP eI eI)) lot))) (e_var rfl) o_non (o_som (i := spot) (e_var rfl)) (t_slc (e := (eP eI eI)) (xs := lot) (lo := none) (hi := (some spot)))) ?_
  refine s_tot (v := (.v ((eT (eP eI eI)) (cutA lot (some (spot + (1 : Int))) none)))) (e_slc (x := (.v ((eT (eP eI eI)) lot))) (e_var rfl) (o_som (i := (spot + (1 : Int))) (e_bin (x := (.v (eI spot))) (y := (.v (eI (1 : Int)))) (v := (.v (eI (spot + (1 : Int))))) (e_var rfl) e_int (rfl))) o_non (t_slc (e := (eP eI eI)) (xs := lot) (lo := (some (spot + (1 : Int)))) (hi := none))) ?_
  refine s_opt (V := fun r7 => (.v ((eT (eP eI eI)) r7))) ((o_addT (e := (eP eI eI)) (xs := (cutA lot none (some spot))) (ys := (cutA lot (some (spot + (1 : Int))) none)))) fun r7 => ?_
  refine s_optt (v := (.m (.l (List.map (eP eI eI) r7)))) (rfl) ?_
  refine s_tot (v := (.v ((eL (eP eI eI)) more6))) (e_var rfl) ?_
  refine s_opt (V := fun r8 => (.m (.l (List.map (eP eI eI) r8)))) ((o_addL (e := (eP eI eI)) (xs := r7) (ys := more6))) fun r8 => ?_
  refine s_optt (v := (.m (.l (List.map (eP eI eI) (sortP r8))))) (b_sortP (xs := r8)) ?_
  refine s_optt (v := (.v ((eT (eP eI eI)) (sortP r8)))) (rfl) ?_
  exact s_done (rt_fn rfl rfl)
theorem KL_place (fu n : Nat) (lot : (List (Int × Int))) (spot : Int) : FS 2 (run tab fu (n + 1) 30 [.v ((eT (eP eI eI)) lot), .v (eI spot)]) (FL_place lot spot) (fun r => ((.v (eI r)), [none, none])) := by
  refine fn_in (i := f30) (as := [.v ((eT (eP eI eI)) lot), .v (eI spot)]) (g0 := [.im ((eT (eP eI eI)) lot), .im (eI spot), .no, .no]) rfl rfl rfl (fun z => absurd z (by decide)) (Nat.le_of_ble_eq_true rfl) rfl rfl ?_
  unfold FL_place
  refine ss_ret ?_
  refine s_idx ?_
  refine s_comp ?_
  refine s_r_enu ?_
  refine s_tot (v := (.v ((eT (eP eI eI)) lot))) (e_var rfl) ?_
  refine f_enu (t_enu (e := (eP eI eI)) (xs := lot)) ?_
  refine f_map (E := (eP eI (eP eI eI))) (e' := eI) rfl (fun y1 => ?_) rfl fun l4 => ?_
  · refine s_cb_som (g1 := [.im ((eT (eP eI eI)) lot), .im (eI spot), .im (eI y1.1), .im ((eP eI eI) y1.2)]) rfl ?_
    refine s_cmp ?_
    refine s_bin ?_
    refine s_tot (v := (.v (eI (spot - y1.2.1)))) (e_bin (x := (.v (eI spot))) (y := (.v (eI y1.2.1))) (v := (.v (eI (spot - y1.2.1)))) (e_var rfl) (e_idx (x := (.v ((eP eI eI) y1.2))) (y := (.v (eI (0 : Int)))) (d := eI y1.2.1) (e_var rfl) e_int (rfl)) (rfl)) ?_
    refine s_tot (v := (.v (eI y1.2.2))) (e_idx (x := (.v ((eP eI eI) y1.2))) (y := (.v (eI (1 : Int)))) (d := eI y1.2.2) (e_var rfl) e_int (rfl)) ?_
    refine s_opt (V := fun r3 => (.v (eI r3))) (o_mod) fun r3 => ?_
    refine s_tot (v := (.v (eI (0 : Int)))) e_int ?_
    refine s_optt (v := .v (.bool (decide (r3 = (0 : Int))))) (congrArg (Option.map _) (rfl)) ?_
    refine f_q (p := (decide (r3 = (0 : Int)))) rfl ?_ ⟨rfl, rfl⟩
    refine s_tot (v := (.v (eI y1.1))) (e_var rfl) ?_
    exact s_done ⟨rfl, rfl⟩
  refine s_tot (v := (.v (eI (0 : Int)))) e_int ?_
  refine s_opt (V := fun r5 => (.v (eI r5))) ((o_atL (e := eI) (xs := l4) (i := (0 : Int)))) fun r5 => ?_
  exact s_done (rt_fn rfl rfl)
theorem K_is_between (fu n : Nat) (thing : Int) (low : Int) (high : Int) : FS 3 (run tab fu (n + 2) 1 [.v (eI thing), .v (eI low), .v (eI high)]) (F_is_between thing low high) (fun r => ((.v (eB r)), [none, none, none])) := by
  refine fn_in (i := f1) (as := [.v (eI thing), .v (eI low), .v (eI high)]) (g0 := [.im (eI thing), .im (eI low), .im (eI high)]) rfl rfl rfl (fun z => absurd z (by decide)) (Nat.le_of_ble_eq_true rfl) rfl rfl ?_
  unfold F_is_between
  refine ss_ret ?_
  refine s_and ?_
  refine s_call ?_
  refine s_as_val ?_
  refine s_tot (v := (.v (eI thing))) (e_var rfl) ?_
  refine s_as_nil ?_
  refine f_call (K_is_integer fu (n) thing) rfl rfl rfl (fun _ => rfl) rfl rfl fun r1 => ?_
  refine f_and (φ := fun t2 => (.v (.bool t2), [.im (eI thing), .im (eI low), .im (eI high)])) (z := false) ?_ rfl fun t2 => ?_
  · refine s_tot (v := (.v (eB ((decide (low ≤ thing)) && (decide (thing ≤ high)))))) (e_chain (x := (.v (eI low))) (y := (.v (eI thing))) (z := (.v (eI high))) (s := (decide (low ≤ thing))) (t := (decide (thing ≤ high))) (e_var rfl) (e_var rfl) (e_var rfl) (rfl) (rfl)) ?_
    exact fin_hd rfl rfl
  exact s_done (rt_fn rfl rfl)
theorem K_round_by (fu n : Nat) (numbers : (List Int)) : FS 1 (run tab fu (n + 2) 4 [.v ((eL eI) numbers)]) (F_round_by fu numbers) (fun r => ((.v (eI r)), [none])) := by
  refine fn_in (i := f4) (as := [.v ((eL eI) numbers)]) (g0 := [.im ((eL eI) numbers), .no, .no]) rfl rfl rfl (fun z => absurd z (by decide)) (Nat.le_of_ble_eq_true rfl) rfl rfl ?_
  unfold F_round_by
  refine ss_set ?_
  refine s_tot (v := (.v (eI (1 : Int)))) e_int ?_
  refine f_G (g' := [.im ((eL eI) numbers), .im (eI (1 : Int)), .no]) rfl ?_
  refine ss_for ?_
  refine s_r_seq ?_
  refine s_tot (v := (.v ((eL eI) numbers))) (e_var rfl) ?_
  refine f_seq (ds := List.map eI numbers) rfl ?_
  refine f_for (G := fun s2 => [.im ((eL eI) numbers), .im (eI s2), .no]) (s0 := (1 : Int)) (E := eI) (fun number1 s2 => ?_) fun s2 => ?_
  · refine ⟨[.im ((eL eI) numbers), .im (eI s2), .im (eI number1)], rfl, ?_⟩
    refine ss_set ?_
    refine s_bin ?_
    refine s_bin ?_
    refine s_tot (v := (.v (eI s2))) (e_var rfl) ?_
    refine s_tot (v := (.v (eI number1))) (e_var rfl) ?_
    refine s_opt (V := fun r3 => (.v (eI r3))) (o_mul) fun r3 => ?_
    refine s_call ?_
    refine s_as_val ?_
    refine s_tot (v := (.v (eI s2))) (e_var rfl) ?_
    refine s_as_val ?_
    refine s_tot (v := (.v (eI number1))) (e_var rfl) ?_
    refine s_as_nil ?_
    refine f_call (K_common_part fu (n) s2 number1) rfl rfl rfl (fun _ => rfl) rfl rfl fun r4 => ?_
    refine s_opt (V := fun found5 => (.v (eI found5))) (o_div) fun found5 => ?_
    refine f_G (g' := [.im ((eL eI) numbers), .im (eI found5), .im (eI number1)]) rfl ?_
    refine ss_kil (g' := [.im ((eL eI) numbers), .im (eI found5), .no]) rfl ?_
    refine ss_nil ?_
    exact fin_tn (s := found5) rfl
  refine ss_ret ?_
  refine s_tot (v := (.v (eI s2))) (e_var rfl) ?_
  exact s_done (rt_fn rfl rfl)
theorem K_need_integer (fu n : Nat) (number : Int) : FS 1 (run tab fu (n + 2) 6 [.v (eI number)]) (F_need_integer number) (fun r => ((.v (eU r)), [none])) := by
  refine fn_in (i := f6) (as := [.v (eI number)]) (g0 := [.im (eI number)]) rfl rfl rfl (fun z => absurd z (by decide)) (Nat.le_of_ble_eq_true rfl) rfl rfl ?_
  unfold F_need_integer
  refine ss_ite ?_
  refine s_not ?_
  refine s_call ?_
  refine s_as_val ?_
  refine s_tot (v := (.v (eI number))) (e_var rfl) ?_
  refine s_as_nil ?_
  refine f_call (K_is_integer fu (n) number) rfl rfl rfl (fun _ => rfl) rfl rfl fun r1 => ?_
  refine f_not (t := r1) rfl ?_
  refine f_if (t := (!r1)) rfl ?_ ?_
  · exact s_stop
  · refine ss_kil (g' := [.no]) rfl ?_
    refine ss_nil ?_
    refine ss_nil ?_
    exact fin_fn rfl rfl
theorem K_lowest (fu n : Nat) (top : Int) (bottom : Int) : FS 2 (run tab fu (n + 2) 8 [.v (eI top), .v (eI bottom)]) (F_lowest fu top bottom) (fun r => ((.v ((eP eI eI) r)), [none, none])) := by
  refine fn_in (i := f8) (as := [.v (eI top), .v (eI bottom)]) (g0 := [.im (eI top), .im (eI bottom), .no]) rfl rfl rfl (fun z => absurd z (by decide)) (Nat.le_of_ble_eq_true rfl) rfl rfl ?_
  unfold F_lowest
  refine ss_set ?_
  refine s_call ?_
  refine s_as_val ?_
  refine s_tot (v := (.v (eI bottom))) (e_var rfl) ?_
  refine s_as_val ?_
  refine s_tot (v := (.v (eI top))) (e_var rfl) ?_
  refine s_as_nil ?_
  refine f_call (K_common_part fu (n) bottom top) rfl rfl rfl (fun _ => rfl) rfl rfl fun part1 => ?_
  refine f_G (g' := [.im (eI top), .im (eI bottom), .im (eI part1)]) rfl ?_
  refine ss_ret ?_
  refine s_tup ?_
  refine s_es_cons ?_
  refine s_bin ?_
  refine s_tot (v := (.v (eI top))) (e_var rfl) ?_
  refine s_tot (v := (.v (eI part1))) (e_var rfl) ?_
  refine s_opt (V := fun r2 => (.v (eI r2))) (o_div) fun r2 => ?_
  refine s_es_cons ?_
  refine s_bin ?_
  refine s_tot (v := (.v (eI bottom))) (e_var rfl) ?_
  refine s_tot (v := (.v (eI part1))) (e_var rfl) ?_
  refine s_opt (V := fun r3 => (.v (eI r3))) (o_div) fun r3 => ?_
  refine s_es_nil ?_
  refine f_tup (Nat.le_of_ble_eq_true rfl) ?_
  exact s_done (rt_fn rfl rfl)
theorem K_do_meet (fu n : Nat) (one_ : (Int × Int)) (other : (Int × Int)) : FS 2 (run tab fu (n + 2) 10 [.v ((eP eI eI) one_), .v ((eP eI eI) other)]) (F_do_meet fu one_ other) (fun r => ((.v (eB r)), [none, none])) := by
  refine fn_in (i := f10) (as := [.v ((eP eI eI) one_), .v ((eP eI eI) other)]) (g0 := [.im ((eP eI eI) one_), .im ((eP eI eI) other)]) rfl rfl rfl (fun z => absurd z (by decide)) (Nat.le_of_ble_eq_true rfl) rfl rfl ?_
  unfold F_do_meet
  refine ss_ret ?_
  refine s_cmp ?_
  refine s_bin ?_
  refine s_tot (v := (.v (eI (other.1 - one_.1)))) (e_bin (x := (.v (eI other.1))) (y := (.v (eI one_.1))) (v := (.v (eI (other.1 - one_.1)))) (e_idx (x := (.v ((eP eI eI) other))) (y := (.v (eI (0 : Int)))) (d := eI other.1) (e_var rfl) e_int (rfl)) (e_idx (x := (.v ((eP eI eI) one_))) (y := (.v (eI (0 : Int)))) (d := eI one_.1) (e_var rfl) e_int (rfl)) (rfl)) ?_
  refine s_call ?_
  refine s_as_val ?_
  refine s_tot (v := (.v (eI one_.2))) (e_idx (x := (.v ((eP eI eI) one_))) (y := (.v (eI (1 : Int)))) (d := eI one_.2) (e_var rfl) e_int (rfl)) ?_
  refine s_as_val ?_
  refine s_tot (v := (.v (eI other.2))) (e_idx (x := (.v ((eP eI eI) other))) (y := (.v (eI (1 : Int)))) (d := eI other.2) (e_var rfl) e_int (rfl)) ?_
  refine s_as_nil ?_
  refine f_call (K_common_part fu (n) one_.2 other.2) rfl rfl rfl (fun _ => rfl) rfl rfl fun r1 => ?_
  refine s_opt (V := fun r2 => (.v (eI r2))) (o_mod) fun r2 => ?_
  refine s_tot (v := (.v (eI (0 : Int)))) e_int ?_
  refine s_optt (v := .v (.bool (decide (r2 = (0 : Int))))) (congrArg (Option.map _) (rfl)) ?_
  exact s_done (rt_fn rfl rfl)
theorem K_holder_of (fu n : Nat) (cover : (List (Int × Int))) (number : Int) : FS 2 (run tab fu (n + 2) 13 [.v ((eT (eP eI eI)) cover), .v (eI number)]) (F_holder_of cover number) (fun r => ((.v (eI r)), [none, none])) := by
  refine fn_in (i := f13) (as := [.v ((eT (eP eI eI)) cover), .v (eI number)]) (g0 := [.im ((eT (eP eI eI)) cover), .im (eI number), .no, .no]) rfl rfl rfl (fun z => absurd z (by decide)) (Nat.le_of_ble_eq_true rfl) rfl rfl ?_
  unfold F_holder_of
  refine ss_ret ?_
  refine s_idx ?_
  refine s_comp ?_
  refine s_r_enu ?_
  refine s_tot (v := (.v ((eT (eP eI eI)) cover))) (e_var rfl) ?_
  refine f_enu (t_enu (e := (eP eI eI)) (xs := cover)) ?_
  refine f_map (E := (eP eI (eP eI eI))) (e' := eI) rfl (fun y1 => ?_) rfl fun l4 => ?_
  · refine s_cb_som (g1 := [.im ((eT (eP eI eI)) cover), .im (eI number), .im (eI y1.1), .im ((eP eI eI) y1.2)]) rfl ?_
    refine s_call ?_
    refine s_as_val ?_
    refine s_tot (v := (.v ((eP eI eI) y1.2))) (e_var rfl) ?_
    refine s_as_val ?_
    refine s_tot (v := (.v (eI number))) (e_var rfl) ?_
    refine s_as_nil ?_
    refine f_call (K_does_hold fu (n) y1.2 number) rfl rfl rfl (fun _ => rfl) rfl rfl fun r3 => ?_
    refine f_q (p := r3) rfl ?_ ⟨rfl, rfl⟩
    refine s_tot (v := (.v (eI y1.1))) (e_var rfl) ?_
    exact s_done ⟨rfl, rfl⟩
  refine s_tot (v := (.v (eI (0 : Int)))) e_int ?_
  refine s_opt (V := fun r5 => (.v (eI r5))) ((o_atL (e := eI) (xs := l4) (i := (0 : Int)))) fun r5 => ?_
  exact s_done (rt_fn rfl rfl)
theorem KL_pick (fu n : Nat) (pen_here : (List Int)) (some_ : (List Int)) : FS 2 (run tab fu (n + 2) 20 [.m (.l (List.map eI pen_here)), .v ((eL eI) some_)]) (nx (FL_pick pen_here some_)) (fun r => ((.v (eI r.1)), [some (.l (List.map eI r.2)), none])) := by
  refine fn_inM (i := f20) (as := [.m (.l (List.map eI pen_here)), .v ((eL eI) some_)]) (g0 := [.bo (.l (List.map eI pen_here)), .im ((eL eI) some_)]) rfl rfl rfl (fun z => absurd z (by decide)) rfl ?_
  unfold FL_pick
  refine ss_ret ?_
  refine s_idx ?_
  refine s_tot (v := (.v ((eL eI) some_))) (e_var rfl) ?_
  refine s_call ?_
  refine s_as_bor rfl ?_
  refine s_as_val ?_
  refine s_tot (v := (.v (eI (some_.length : Int)))) (e_b1 (x := (.v ((eL eI) some_))) (v := (.v (eI (some_.length : Int)))) (e_var rfl) (b_lenL (e := eI) (xs := some_))) ?_
  refine s_as_nil ?_
  refine f_callM (g' := fun r1 => [.bo (.l (List.map eI r1.2)), .im ((eL eI) some_)]) (KL_draw fu (n) pen_here (some_.length : Int)) rfl rfl rfl (fun _ => rfl) fun r1 => ?_
  refine s_opt (V := fun r2 => (.v (eI r2))) ((o_atL (e := eI) (xs := some_) (i := r1.1))) fun r2 => ?_
  exact s_done (rt_fn rfl rfl)
theorem KL_lcm (fu n : Nat) (sizes : (List Int)) : FS 1 (run tab fu (n + 2) 23 [.v ((eL eI) sizes)]) (FL_lcm fu sizes) (fun r => ((.v (eI r)), [none])) := by
  refine fn_in (i := f23) (as := [.v ((eL eI) sizes)]) (g0 := [.im ((eL eI) sizes), .no, .no]) rfl rfl rfl (fun z => absurd z (by decide)) (Nat.le_of_ble_eq_true rfl) rfl rfl ?_
  unfold FL_lcm
  refine ss_set ?_
  refine s_tot (v := (.v (eI (1 : Int)))) e_int ?_
  refine f_G (g' := [.im ((eL eI) sizes), .im (eI (1 : Int)), .no]) rfl ?_
  refine ss_for ?_
  refine s_r_seq ?_
  refine s_tot (v := (.v ((eL eI) sizes))) (e_var rfl) ?_
  refine f_seq (ds := List.map eI sizes) rfl ?_
  refine f_for (G := fun s2 => [.im ((eL eI) sizes), .im (eI s2), .no]) (s0 := (1 : Int)) (E := eI) (fun size1 s2 => ?_) fun s2 => ?_
  · refine ⟨[.im ((eL eI) sizes), .im (eI s2), .im (eI size1)], rfl, ?_⟩
    refine ss_set ?_
    refine s_bin ?_
    refine s_bin ?_
    refine s_tot (v := (.v (eI s2))) (e_var rfl) ?_
    refine s_tot (v := (.v (eI size1))) (e_var rfl) ?_
    refine s_opt (V := fun r3 => (.v (eI r3))) (o_mul) fun r3 => ?_
    refine s_call ?_
    refine s_as_val ?_
    refine s_tot (v := (.v (eI s2))) (e_var rfl) ?_
    refine s_as_val ?_
    refine s_tot (v := (.v (eI size1))) (e_var rfl) ?_
    refine s_as_nil ?_
    refine f_call (KL_gcd fu (n) s2 size1) rfl rfl rfl (fun _ => rfl) rfl rfl fun r4 => ?_
    refine s_opt (V := fun found5 => (.v (eI found5))) (o_div) fun found5 => ?_
    refine f_G (g' := [.im ((eL eI) sizes), .im (eI found5), .im (eI size1)]) rfl ?_
    refine ss_kil (g' := [.im ((eL eI) sizes), .im (eI found5), .no]) rfl ?_
    refine ss_nil ?_
    exact fin_tn (s := found5) rfl
  refine ss_ret ?_
  refine s_tot (v := (.v (eI s2))) (e_var rfl) ?_
  exact s_done (rt_fn rfl rfl)
theorem K_is_turn (fu n : Nat) (thing : (Int × Int)) : FS 1 (run tab fu (n + 3) 3 [.v ((eP eI eI) thing)]) (F_is_turn thing) (fun r => ((.v (eB r)), [none])) := by
  refine fn_in (i := f3) (as := [.v ((eP eI eI) thing)]) (g0 := [.im ((eP eI eI) thing)]) rfl rfl rfl (fun z => absurd z (by decide)) (Nat.le_of_ble_eq_true rfl) rfl rfl ?_
  unfold F_is_turn
  refine ss_ite ?_
  refine s_or ?_
  refine s_tot (v := (.v (eB (!true)))) (e_not (x := (.v (eB true))) (t := true) (e_isi (x := (.v ((eP eI eI) thing))) (e_var rfl) rfl) rfl) ?_
  refine f_or (φ := fun t1 => (.v (.bool t1), [.im ((eP eI eI) thing)])) (z := true) ?_ rfl fun t1 => ?_
  · refine s_or ?_
    refine s_tot (v := (.v (eB (!decide ((2 : Int) = (2 : Int)))))) (e_cmp (x := (.v (eI (2 : Int)))) (y := (.v (eI (2 : Int)))) (t := (!decide ((2 : Int) = (2 : Int)))) (e_b1 (x := (.v ((eP eI eI) thing))) (v := (.v (eI (2 : Int)))) (e_var rfl) (rfl)) e_int (rfl)) ?_
    refine f_or (φ := fun t2 => (.v (.bool t2), [.im ((eP eI eI) thing)])) (z := true) ?_ rfl fun t2 => ?_
    · refine s_not ?_
      refine s_call ?_
      refine s_as_val ?_
      refine s_tot (v := (.v (eI thing.2))) (e_idx (x := (.v ((eP eI eI) thing))) (y := (.v (eI (1 : Int)))) (d := eI thing.2) (e_var rfl) e_int (rfl)) ?_
      refine s_as_val ?_
      refine s_tot (v := (.v (eI (1 : Int)))) e_int ?_
      refine s_as_val ?_
      refine s_tot (v := (.v (eI (5040 : Int)))) (e_glb tc0) ?_
      refine s_as_nil ?_
      refine f_call (K_is_between fu (n) thing.2 (1 : Int) (5040 : Int)) rfl rfl rfl (fun _ => rfl) rfl rfl fun r3 => ?_
      refine f_not (t := r3) rfl ?_
      exact fin_hd rfl rfl
    exact fin_hd rfl rfl
  refine f_if (t := t1) rfl ?_ ?_
  · refine ss_ret ?_
    refine s_tot (v := (.v (eB false))) e_bl ?_
    exact s_done (rt_fn rfl rfl)
  · refine ss_nil ?_
    refine ss_ret ?_
    refine s_call ?_
    refine s_as_val ?_
    refine s_tot (v := (.v (eI thing.1))) (e_idx (x := (.v ((eP eI eI) thing))) (y := (.v (eI (0 : Int)))) (d := eI thing.1) (e_var rfl) e_int (rfl)) ?_
    refine s_as_val ?_
    refine s_tot (v := (.v (eI (0 : Int)))) e_int ?_
    refine s_as_val ?_
    refine s_tot (v := (.v (eI (thing.2 - (1 : Int))))) (e_bin (x := (.v (eI thing.2))) (y := (.v (eI (1 : Int)))) (v := (.v (eI (thing.2 - (1 : Int))))) (e_idx (x := (.v ((eP eI eI) thing))) (y := (.v (eI (1 : Int)))) (d := eI thing.2) (e_var rfl) e_int (rfl)) e_int (rfl)) ?_
    refine s_as_nil ?_
    refine f_call (K_is_between fu (n) thing.1 (0 : Int) (thing.2 - (1 : Int))) rfl rfl rfl (fun _ => rfl) rfl rfl fun r4 => ?_
    exact s_done (rt_fn rfl rfl)
theorem K_weight_by (fu n : Nat) (numbers : (List Int)) : FS 1 (run tab fu (n + 3) 9 [.v ((eL eI) numbers)]) (F_weight_by fu numbers) (fun r => ((.v ((eP eI eI) r)), [none])) := by
  refine fn_in (i := f9) (as := [.v ((eL eI) numbers)]) (g0 := [.im ((eL eI) numbers), .no, .no]) rfl rfl rfl (fun z => absurd z (by decide)) (Nat.le_of_ble_eq_true rfl) rfl rfl ?_
  unfold F_weight_by
  refine ss_set ?_
  refine s_call ?_
  refine s_as_val ?_
  refine s_tot (v := (.v ((eL eI) numbers))) (e_var rfl) ?_
  refine s_as_nil ?_
  refine f_call (K_round_by fu (n) numbers) rfl rfl rfl (fun _ => rfl) rfl rfl fun whole1 => ?_
  refine f_G (g' := [.im ((eL eI) numbers), .im (eI whole1), .no]) rfl ?_
  refine ss_ret ?_
  refine s_call ?_
  refine s_as_val ?_
  refine s_b1 ?_
  refine s_comp ?_
  refine s_r_seq ?_
  refine s_tot (v := (.v ((eL eI) numbers))) (e_var rfl) ?_
  refine f_seq (ds := List.map eI numbers) rfl ?_
  refine f_map (E := eI) (e' := eI) rfl (fun number2 => ?_) rfl fun l5 => ?_
  · refine s_cb_non (g1 := [.im ((eL eI) numbers), .im (eI whole1), .im (eI number2)]) rfl ?_
    refine s_bin ?_
    refine s_tot (v := (.v (eI whole1))) (e_var rfl) ?_
    refine s_tot (v := (.v (eI number2))) (e_var rfl) ?_
    refine s_opt (V := fun r4 => (.v (eI r4))) (o_div) fun r4 => ?_
    exact s_done ⟨rfl, rfl⟩
  refine s_optt (v := (.v (eI (List.sum l5)))) (b_sum (xs := l5)) ?_
  refine s_as_val ?_
  refine s_tot (v := (.v (eI whole1))) (e_var rfl) ?_
  refine s_as_nil ?_
  refine f_call (K_lowest fu (n) (List.sum l5) whole1) rfl rfl rfl (fun _ => rfl) rfl rfl fun r6 => ?_
  exact s_done (rt_fn rfl rfl)
theorem KL_plan (fu n : Nat) (pen_here : (List Int)) (most : Int) (far : Int) : FS 3 (run tab fu (n + 3) 25 [.m (.l (List.map eI pen_here)), .v (eI most), .v (eI far)]) (nx (FL_plan fu pen_here most far)) (fun r => ((.v ((eT (eP eI eI)) r.1)), [some (.l (List.map eI r.2)), none, none])) := by
  refine fn_inM (i := f25) (as := [.m (.l (List.map eI pen_here)), .v (eI most), .v (eI far)]) (g0 := [.bo (.l (List.map eI pen_here)), .im (eI most), .im (eI far), .no, .no, .no, .no, .no, .no, .no]) rfl rfl rfl (fun z => absurd z (by decide)) rfl ?_
  unfold FL_plan
  refine ss_set ?_
  refine s_tot (v := (.v ((eT (eP eI eI)) [((0 : Int), (1 : Int))]))) (e_tup (es_cons (x := (.v ((eP eI eI) ((0 : Int), (1 : Int))))) (e_tup (es_cons (x := (.v (eI (0 : Int)))) e_int (es_cons (x := (.v (eI (1 : Int)))) e_int es_nil)) (Nat.le_of_ble_eq_true rfl)) es_nil) (Nat.le_of_ble_eq_true rfl)) ?_
  refine f_GL (V := fun lot1 => (.v ((eT (eP eI eI)) lot1))) (a := [((0 : Int), (1 : Int))]) (g' := fun lot1 => [.bo (.l (List.map eI pen_here)), .im (eI most), .im (eI far), .im ((eT (eP eI eI)) lot1), .no, .no, .no, .no, .no, .no]) (fun _ => rfl) fun lot1 => ?_
  refine ss_for ?_
  refine s_r_rng1 ?_
  refine s_bin ?_
  refine s_tot (v := (.v (eI (1 : Int)))) e_int ?_
  refine s_call ?_
  refine s_as_bor rfl ?_
  refine s_as_val ?_
  refine s_tot (v := (.v (eI (5 : Int)))) e_int ?_
  refine s_as_nil ?_
  refine f_callM (g' := fun r2 => [.bo (.l (List.map eI r2.2)), .im (eI most), .im (eI far), .im ((eT (eP eI eI)) lot1), .no, .no, .no, .no, .no, .no]) (KL_draw fu (n + 1) pen_here (5 : Int)) rfl rfl rfl (fun _ => rfl) fun r2 => ?_
  refine s_optt (v := (.v (eI ((1 : Int) + r2.1)))) (rfl) ?_
  refine f_rng1 fun xs3 => ?_
  refine f_for (G := fun s5 => [.bo (.l (List.map eI s5.1)), .im (eI most), .im (eI far), .im ((eT (eP eI eI)) s5.2), .no, .no, .no, .no, .no, .no]) (s0 := (r2.2, lot1)) (E := eI) (fun turning4 s5 => ?_) fun s5 => ?_
  · refine ⟨[.bo (.l (List.map eI s5.1)), .im (eI most), .im (eI far), .im ((eT (eP eI eI)) s5.2), .im (eI turning4), .no, .no, .no, .no, .no], rfl, ?_⟩
    refine ss_par ?_
    refine s_call ?_
    refine s_as_bor rfl ?_
    refine s_as_val ?_
    refine s_tot (v := (.v (eI (s5.2.length : Int)))) (e_b1 (x := (.v ((eT (eP eI eI)) s5.2))) (v := (.v (eI (s5.2.length : Int)))) (e_var rfl) (b_lenT (e := (eP eI eI)) (xs := s5.2))) ?_
    refine s_as_nil ?_
    refine f_callM (g' := fun r6 => [.bo (.l (List.map eI r6.2)), .im (eI most), .im (eI far), .im ((eT (eP eI eI)) s5.2), .im (eI turning4), .no, .no, .no, .no, .no]) (KL_draw fu (n + 1) s5.1 (s5.2.length : Int)) rfl rfl rfl (fun _ => rfl) fun r6 => ?_
    refine s_call ?_
    refine s_as_bor rfl ?_
    refine s_as_val ?_
    refine s_tot (v := (.m (.l (List.map eI [(2 : Int), (2 : Int), (3 : Int), (2 : Int), (4 : Int), (5 : Int)])))) (e_lst (es_cons (x := (.v (eI (2 : Int)))) e_int (es_cons (x := (.v (eI (2 : Int)))) e_int (es_cons (x := (.v (eI (3 : Int)))) e_int (es_cons (x := (.v (eI (2 : Int)))) e_int (es_cons (x := (.v (eI (4 : Int)))) e_int (es_cons (x := (.v (eI (5 : Int)))) e_int es_nil)))))) (Nat.le_of_ble_eq_true rfl)) ?_
    refine s_as_nil ?_
    refine f_callM (g' := fun r7 => [.bo (.l (List.map eI r7.2)), .im (eI most), .im (eI far), .im ((eT (eP eI eI)) s5.2), .im (eI turning4), .no, .no, .no, .no, .no]) (KL_pick fu (n) r6.2 [(2 : Int), (2 : Int), (3 : Int), (2 : Int), (4 : Int), (5 : Int)]) rfl rfl rfl (fun _ => rfl) fun r7 => ?_
    refine f_G (g' := [.bo (.l (List.map eI r7.2)), .im (eI most), .im (eI far), .im ((eT (eP eI eI)) s5.2), .im (eI turning4), .im (eI r6.1), .im (eI r7.1), .no, .no, .no]) rfl ?_
    refine ss_ite ?_
    refine s_tot (v := (.v (eB (decide ((((s5.2.length : Int) + r7.1) - (1 : Int)) ≤ most))))) (e_cmp (x := (.v (eI (((s5.2.length : Int) + r7.1) - (1 : Int))))) (y := (.v (eI most))) (t := (decide ((((s5.2.length : Int) + r7.1) - (1 : Int)) ≤ most))) (e_bin (x := (.v (eI ((s5.2.length : Int) + r7.1)))) (y := (.v (eI (1 : Int)))) (v := (.v (eI (((s5.2.length : Int) + r7.1) - (1 : Int))))) (e_bin (x := (.v (eI (s5.2.length : Int)))) (y := (.v (eI r7.1))) (v := (.v (eI ((s5.2.length : Int) + r7.1)))) (e_b1 (x := (.v ((eT (eP eI eI)) s5.2))) (v := (.v (eI (s5.2.length : Int)))) (e_var rfl) (b_lenT (e := (eP eI eI)) (xs := s5.2))) (e_var rfl) (rfl)) e_int (rfl)) (e_var rfl) (rfl)) ?_
    refine f_if (t := (decide ((((s5.2.length : Int) + r7.1) - (1 : Int)) ≤ most))) rfl ?_ ?_
    · refine ss_set ?_
      refine s_call ?_
      refine s_as_val ?_
      refine s_tot (v := (.v ((eT (eP eI eI)) s5.2))) (e_var rfl) ?_
      refine s_as_val ?_
      refine s_tot (v := (.v (eI r6.1))) (e_var rfl) ?_
      refine s_as_val ?_
      refine s_tot (v := (.v (eI r7.1))) (e_var rfl) ?_
      refine s_as_nil ?_
      refine f_call (KL_cut fu (n + 1) s5.2 r6.1 r7.1) rfl rfl rfl (fun _ => rfl) rfl rfl fun later8 => ?_
      refine f_G (g' := [.bo (.l (List.map eI r7.2)), .im (eI most), .im (eI far), .im ((eT (eP eI eI)) s5.2), .im (eI turning4), .im (eI r6.1), .im (eI r7.1), .im ((eT (eP eI eI)) later8), .no, .no]) rfl ?_
      refine ss_set ?_
      refine s_ite ?_
      refine s_cmp ?_
      refine s_call ?_
      refine s_as_val ?_
      refine s_comp ?_
      refine s_r_seq ?_
      refine s_tot (v := (.v ((eT (eP eI eI)) later8))) (e_var rfl) ?_
      refine f_seq (ds := List.map (eP eI eI) later8) rfl ?_
      refine f_mapT (E := (eP eI eI)) (e' := eI) (h := fun y9 => y9.2) rfl (fun y9 => ⟨[.bo (.l (List.map eI r7.2)), .im (eI most), .im (eI far), .im ((eT (eP eI eI)) s5.2), .im (eI turning4), .im (eI r6.1), .im (eI r7.1), .im ((eT (eP eI eI)) later8), .im (eI y9.1), .im (eI y9.2)], cb_non (v := (.v (eI y9.2))) rfl (e_var rfl), rfl⟩) rfl fun l10 => ?_
      refine s_as_nil ?_
      refine f_call (KL_lcm fu (n) l10) rfl rfl rfl (fun _ => rfl) rfl rfl fun r11 => ?_
      refine s_tot (v := (.v (eI far))) (e_var rfl) ?_
      refine s_optt (v := .v (.bool (decide (r11 ≤ far)))) (congrArg (Option.map _) (rfl)) ?_
      refine f_ite (t := (decide (r11 ≤ far))) (φ := fun lot12 => ((.v ((eT (eP eI eI)) lot12)), [.bo (.l (List.map eI r7.2)), .im (eI most), .im (eI far), .im ((eT (eP eI eI)) s5.2), .im (eI turning4), .im (eI r6.1), .im (eI r7.1), .im ((eT (eP eI eI)) later8), .no, .no])) rfl ?_ ?_ fun lot12 => ?_
      · refine s_tot (v := (.v ((eT (eP eI eI)) later8))) (e_var rfl) ?_
        exact fin_hd rfl rfl
      · refine s_tot (v := (.v ((eT (eP eI eI)) s5.2))) (e_var rfl) ?_
        exact fin_hd rfl rfl
      refine f_G (g' := [.bo (.l (List.map eI r7.2)), .im (eI most), .im (eI far), .im ((eT (eP eI eI)) lot12), .im (eI turning4), .im (eI r6.1), .im (eI r7.1), .im ((eT (eP eI eI)) later8), .no, .no]) rfl ?_
      refine ss_kil (g' := [.bo (.l (List.map eI r7.2)), .im (eI most), .im (eI far), .im ((eT (eP eI eI)) lot12), .no, .no, .no, .no, .no, .no]) rfl ?_
      refine ss_nil ?_
      refine ss_nil ?_
      exact fin_tn (s := (r7.2, lot12)) rfl
    · refine ss_kil (g' := [.bo (.l (List.map eI r7.2)), .im (eI most), .im (eI far), .im ((eT (eP eI eI)) s5.2), .no, .no, .no, .no, .no, .no]) rfl ?_
      refine ss_nil ?_
      refine ss_nil ?_
      exact fin_tn (s := (r7.2, s5.2)) rfl
  refine ss_ret ?_
  refine s_tot (v := (.v ((eT (eP eI eI)) s5.2))) (e_var rfl) ?_
  exact s_done (rt_fn rfl rfl)
theorem K_is_family (fu n : Nat) (thing : (List (Int × Int))) : FS 1 (run tab fu (n + 4) 5 [.v ((eT (eP eI eI)) thing)]) (F_is_family fu thing) (fun r => ((.v (eB r)), [none])) := by
  refine fn_in (i := f5) (as := [.v ((eT (eP eI eI)) thing)]) (g0 := [.im ((eT (eP eI eI)) thing), .no, .no, .no, .no]) rfl rfl rfl (fun z => absurd z (by decide)) (Nat.le_of_ble_eq_true rfl) rfl rfl ?_
  unfold F_is_family
  refine ss_ite ?_
  refine s_or ?_
  refine s_tot (v := (.v (eB (!true)))) (e_not (x := (.v (eB true))) (t := true) (e_isi (x := (.v ((eT (eP eI eI)) thing))) (e_var rfl) rfl) rfl) ?_
  refine f_or (φ := fun t1 => (.v (.bool t1), [.im ((eT (eP eI eI)) thing), .no, .no, .no, .no])) (z := true) ?_ rfl fun t1 => ?_
  · refine s_or ?_
    refine s_tot (v := (.v (eB (decide ((40 : Int) < (thing.length : Int)))))) (e_cmp (x := (.v (eI (thing.length : Int)))) (y := (.v (eI (40 : Int)))) (t := (decide ((40 : Int) < (thing.length : Int)))) (e_b1 (x := (.v ((eT (eP eI eI)) thing))) (v := (.v (eI (thing.length : Int)))) (e_var rfl) (b_lenT (e := (eP eI eI)) (xs := thing))) (e_glb tc1) (rfl)) ?_
    refine f_or (φ := fun t2 => (.v (.bool t2), [.im ((eT (eP eI eI)) thing), .no, .no, .no, .no])) (z := true) ?_ rfl fun t2 => ?_
    · refine s_not ?_
      refine s_b1 ?_
      refine s_comp ?_
      refine s_r_seq ?_
      refine s_tot (v := (.v ((eT (eP eI eI)) thing))) (e_var rfl) ?_
      refine f_seq (ds := List.map (eP eI eI) thing) rfl ?_
      refine f_map (E := (eP eI eI)) (e' := eB) rfl (fun one_3 => ?_) rfl fun l6 => ?_
      · refine s_cb_non (g1 := [.im ((eT (eP eI eI)) thing), .im ((eP eI eI) one_3), .no, .no, .no]) rfl ?_
        refine s_call ?_
        refine s_as_val ?_
        refine s_tot (v := (.v ((eP eI eI) one_3))) (e_var rfl) ?_
        refine s_as_nil ?_
        refine f_call (K_is_turn fu (n) one_3) rfl rfl rfl (fun _ => rfl) rfl rfl fun r5 => ?_
        exact s_done ⟨rfl, rfl⟩
      refine s_optt (v := (.v (eB (List.all l6 id)))) (b_all (xs := l6)) ?_
      refine f_not (t := (List.all l6 id)) rfl ?_
      exact fin_hd rfl rfl
    exact fin_hd rfl rfl
  refine f_if (t := t1) rfl ?_ ?_
  · refine ss_ret ?_
    refine s_tot (v := (.v (eB false))) e_bl ?_
    exact s_done (rt_fn rfl rfl)
  · refine ss_nil ?_
    refine ss_ite ?_
    refine s_not ?_
    refine s_b1 ?_
    refine s_comp ?_
    refine s_r_zip ?_
    refine s_tot (v := (.v ((eT (eP eI eI)) thing))) (e_var rfl) ?_
    refine s_tot (v := (.v ((eT (eP eI eI)) (cutA thing (some (1 : Int)) none)))) (e_slc (x := (.v ((eT (eP eI eI)) thing))) (e_var rfl) (o_som (i := (1 : Int)) e_int) o_non (t_slc (e := (eP eI eI)) (xs := thing) (lo := (some (1 : Int))) (hi := none))) ?_
    refine f_zip (t_zip (e := (eP eI eI)) (e2 := (eP eI eI)) (xs := thing) (ys := (cutA thing (some (1 : Int)) none))) ?_
    refine f_mapT (E := (eP (eP eI eI) (eP eI eI))) (e' := eB) (h := fun y7 => (ltP y7.1 y7.2)) rfl (fun y7 => ⟨[.im ((eT (eP eI eI)) thing), .im ((eP eI eI) y7.1), .im ((eP eI eI) y7.2), .no, .no], cb_non (v := (.v (eB (ltP y7.1 y7.2)))) rfl (e_cmp (x := (.v ((eP eI eI) y7.1))) (y := (.v ((eP eI eI) y7.2))) (t := (ltP y7.1 y7.2)) (e_var rfl) (e_var rfl) (c_ltP y7.1 y7.2)), rfl⟩) rfl fun l8 => ?_
    refine s_optt (v := (.v (eB (List.all l8 id)))) (b_all (xs := l8)) ?_
    refine f_not (t := (List.all l8 id)) rfl ?_
    refine f_if (t := (!(List.all l8 id))) rfl ?_ ?_
    · refine ss_ret ?_
      refine s_tot (v := (.v (eB false))) e_bl ?_
      exact s_done (rt_fn rfl rfl)
    · refine ss_nil ?_
      refine ss_ret ?_
      refine s_cmp ?_
      refine s_call ?_
      refine s_as_val ?_
      refine s_comp ?_
      refine s_r_seq ?_
      refine s_tot (v := (.v ((eT (eP eI eI)) thing))) (e_var rfl) ?_
      refine f_seq (ds := List.map (eP eI eI) thing) rfl ?_
      refine f_mapT (E := (eP eI eI)) (e' := eI) (h := fun y9 => y9.2) rfl (fun y9 => ⟨[.im ((eT (eP eI eI)) thing), .no, .no, .im (eI y9.1), .im (eI y9.2)], cb_non (v := (.v (eI y9.2))) rfl (e_var rfl), rfl⟩) rfl fun l10 => ?_
      refine s_as_nil ?_
      refine f_call (K_round_by fu (n + 1) l10) rfl rfl rfl (fun _ => rfl) rfl rfl fun r11 => ?_
      refine s_tot (v := (.v (eI (5040 : Int)))) (e_glb tc0) ?_
      refine s_optt (v := .v (.bool (decide (r11 ≤ (5040 : Int))))) (congrArg (Option.map _) (rfl)) ?_
      exact s_done (rt_fn rfl rfl)
theorem KL_hard_plan (fu n : Nat) (pen_here : (List Int)) : FS 1 (run tab fu (n + 4) 29 [.m (.l (List.map eI pen_here))]) (nx (FL_hard_plan fu pen_here)) (fun r => ((.v ((eT (eP eI eI)) r.1)), [some (.l (List.map eI r.2))])) := by
  refine fn_inM (i := f29) (as := [.m (.l (List.map eI pen_here))]) (g0 := [.bo (.l (List.map eI pen_here)), .no, .no]) rfl rfl rfl (fun z => absurd z (by decide)) rfl ?_
  unfold FL_hard_plan
  refine ss_set ?_
  refine s_call ?_
  refine s_as_val ?_
  refine s_call ?_
  refine s_as_nil ?_
  refine f_call (KL_hard fu (n + 2) ) rfl rfl rfl (fun _ => rfl) rfl rfl fun r1 => ?_
  refine s_as_val ?_
  refine s_call ?_
  refine s_as_bor rfl ?_
  refine s_as_val ?_
  refine s_tot (v := (.v (eI (30 : Int)))) e_int ?_
  refine s_as_nil ?_
  refine f_callM (g' := fun r2 => [.bo (.l (List.map eI r2.2)), .no, .no]) (KL_draw fu (n + 2) pen_here (30 : Int)) rfl rfl rfl (fun _ => rfl) fun r2 => ?_
  refine s_as_nil ?_
  refine f_call (KL_shifted fu (n + 2) r1 r2.1) rfl rfl rfl (fun _ => rfl) rfl rfl fun inner3 => ?_
  refine f_G (g' := [.bo (.l (List.map eI r2.2)), .im ((eT (eP eI eI)) inner3), .no]) rfl ?_
  refine ss_set ?_
  refine s_call ?_
  refine s_as_bor rfl ?_
  refine s_as_val ?_
  refine s_tot (v := (.v (eI (4 : Int)))) e_int ?_
  refine s_as_val ?_
  refine s_tot (v := (.v (eI (12 : Int)))) e_int ?_
  refine s_as_nil ?_
  refine f_callM (g' := fun outer4 => [.bo (.l (List.map eI outer4.2)), .im ((eT (eP eI eI)) inner3), .no]) (KL_plan fu (n) r2.2 (4 : Int) (12 : Int)) rfl rfl rfl (fun _ => rfl) fun outer4 => ?_
  refine f_G (g' := [.bo (.l (List.map eI outer4.2)), .im ((eT (eP eI eI)) inner3), .im ((eT (eP eI eI)) outer4.1)]) rfl ?_
  refine ss_ret ?_
  refine s_call ?_
  refine s_as_val ?_
  refine s_tot (v := (.v ((eT (eP eI eI)) outer4.1))) (e_var rfl) ?_
  refine s_as_val ?_
  refine s_call ?_
  refine s_as_bor rfl ?_
  refine s_as_val ?_
  refine s_tot (v := (.v (eI (outer4.1.length : Int)))) (e_b1 (x := (.v ((eT (eP eI eI)) outer4.1))) (v := (.v (eI (outer4.1.length : Int)))) (e_var rfl) (b_lenT (e := (eP eI eI)) (xs := outer4.1))) ?_
  refine s_as_nil ?_
  refine f_callM (g' := fun r5 => [.bo (.l (List.map eI r5.2)), .im ((eT (eP eI eI)) inner3), .im ((eT (eP eI eI)) outer4.1)]) (KL_draw fu (n + 2) outer4.2 (outer4.1.length : Int)) rfl rfl rfl (fun _ => rfl) fun r5 => ?_
  refine s_as_val ?_
  refine s_tot (v := (.v ((eT (eP eI eI)) inner3))) (e_var rfl) ?_
  refine s_as_nil ?_
  refine f_call (KL_within fu (n + 2) outer4.1 r5.1 inner3) rfl rfl rfl (fun _ => rfl) rfl rfl fun r6 => ?_
  exact s_done (rt_fn rfl rfl)
theorem K_is_cover (fu n : Nat) (thing : (List (Int × Int))) : FS 1 (run tab fu (n + 5) 11 [.v ((eT (eP eI eI)) thing)]) (F_is_cover fu thing) (fun r => ((.v (eB r)), [none])) := by
  refine fn_in (i := f11) (as := [.v ((eT (eP eI eI)) thing)]) (g0 := [.im ((eT (eP eI eI)) thing), .no, .no, .no, .no, .no]) rfl rfl rfl (fun z => absurd z (by decide)) (Nat.le_of_ble_eq_true rfl) rfl rfl ?_
  unfold F_is_cover
  refine ss_ite ?_
  refine s_or ?_
  refine s_not ?_
  refine s_call ?_
  refine s_as_val ?_
  refine s_tot (v := (.v ((eT (eP eI eI)) thing))) (e_var rfl) ?_
  refine s_as_nil ?_
  refine f_call (K_is_family fu (n) thing) rfl rfl rfl (fun _ => rfl) rfl rfl fun r1 => ?_
  refine f_not (t := r1) rfl ?_
  refine f_or (φ := fun t2 => (.v (.bool t2), [.im ((eT (eP eI eI)) thing), .no, .no, .no, .no, .no])) (z := true) ?_ rfl fun t2 => ?_
  · refine s_cmp ?_
    refine s_call ?_
    refine s_as_val ?_
    refine s_comp ?_
    refine s_r_seq ?_
    refine s_tot (v := (.v ((eT (eP eI eI)) thing))) (e_var rfl) ?_
    refine f_seq (ds := List.map (eP eI eI) thing) rfl ?_
    refine f_mapT (E := (eP eI eI)) (e' := eI) (h := fun y3 => y3.2) rfl (fun y3 => ⟨[.im ((eT (eP eI eI)) thing), .im (eI y3.1), .im (eI y3.2), .no, .no, .no], cb_non (v := (.v (eI y3.2))) rfl (e_var rfl), rfl⟩) rfl fun l4 => ?_
    refine s_as_nil ?_
    refine f_call (K_weight_by fu (n + 1) l4) rfl rfl rfl (fun _ => rfl) rfl rfl fun r5 => ?_
    refine s_tot (v := (.v ((eP eI eI) ((1 : Int), (1 : Int))))) (e_tup (es_cons (x := (.v (eI (1 : Int)))) e_int (es_cons (x := (.v (eI (1 : Int)))) e_int es_nil)) (Nat.le_of_ble_eq_true rfl)) ?_
    refine s_optt (v := .v (.bool (!decide (r5 = ((1 : Int), (1 : Int)))))) (congrArg (Option.map _) (c_ne (e := (eP eI eI)) (by decide) r5 ((1 : Int), (1 : Int)))) ?_
    exact fin_hd rfl rfl
  refine f_if (t := t2) rfl ?_ ?_
  · refine ss_ret ?_
    refine s_tot (v := (.v (eB false))) e_bl ?_
    exact s_done (rt_fn rfl rfl)
  · refine ss_nil ?_
    refine ss_ret ?_
    refine s_not ?_
    refine s_b1 ?_
    refine s_comp2 ?_
    refine s_r_enu ?_
    refine s_tot (v := (.v ((eT (eP eI eI)) thing))) (e_var rfl) ?_
    refine f_enu (t_enu (e := (eP eI eI)) (xs := thing)) ?_
    refine f_comp2 (E := (eP eI (eP eI eI))) (E1 := (eP eI eI)) (e' := eB) (G := fun y6 => [.im ((eT (eP eI eI)) thing), .no, .no, .im (eI y6.1), .im ((eP eI eI) y6.2), .no]) rfl rfl (fun _ => rfl) (fun y6 => ?_) (fun y6 other8 => ?_) (fun _ => rfl) rfl fun l10 => ?_
    · refine s_qs_non ?_
      refine s_r_seq ?_
      refine s_tot (v := (.v ((eT (eP eI eI)) (cutA thing none (some y6.1))))) (e_slc (x := (.v ((eT (eP eI eI)) thing))) (e_var rfl) o_non (o_som (i := y6.1) (e_var rfl)) (t_slc (e := (eP eI eI)) (xs := thing) (lo := none) (hi := (some y6.1)))) ?_
      refine f_seq (ds := List.map (eP eI eI) (cutA thing none (some y6.1))) rfl ?_
      exact s_done ⟨rfl, rfl⟩
    · refine s_cb_non (g1 := [.im ((eT (eP eI eI)) thing), .no, .no, .im (eI y6.1), .im ((eP eI eI) y6.2), .im ((eP eI eI) other8)]) rfl ?_
      refine s_call ?_
      refine s_as_val ?_
      refine s_tot (v := (.v ((eP eI eI) y6.2))) (e_var rfl) ?_
      refine s_as_val ?_
      refine s_tot (v := (.v ((eP eI eI) other8))) (e_var rfl) ?_
      refine s_as_nil ?_
      refine f_call (K_do_meet fu (n + 2) y6.2 other8) rfl rfl rfl (fun _ => rfl) rfl rfl fun r9 => ?_
      exact s_done ⟨rfl, rfl⟩
    refine s_optt (v := (.v (eB (List.any l10 id)))) (b_any (xs := l10)) ?_
    refine f_not (t := (List.any l10 id)) rfl ?_
    exact s_done (rt_fn rfl rfl)
theorem K_need_cover (fu n : Nat) (cover : (List (Int × Int))) : FS 1 (run tab fu (n + 6) 12 [.v ((eT (eP eI eI)) cover)]) (F_need_cover fu cover) (fun r => ((.v (eU r)), [none])) := by
  refine fn_in (i := f12) (as := [.v ((eT (eP eI eI)) cover)]) (g0 := [.im ((eT (eP eI eI)) cover)]) rfl rfl rfl (fun z => absurd z (by decide)) (Nat.le_of_ble_eq_true rfl) rfl rfl ?_
  unfold F_need_cover
  refine ss_ite ?_
  refine s_not ?_
  refine s_call ?_
  refine s_as_val ?_
  refine s_tot (v := (.v ((eT (eP eI eI)) cover))) (e_var rfl) ?_
  refine s_as_nil ?_
  refine f_call (K_is_cover fu (n) cover) rfl rfl rfl (fun _ => rfl) rfl rfl fun r1 => ?_
  refine f_not (t := r1) rfl ?_
  refine f_if (t := (!r1)) rfl ?_ ?_
  · exact s_stop
  · refine ss_kil (g' := [.no]) rfl ?_
    refine ss_nil ?_
    refine ss_nil ?_
    exact fin_fn rfl rfl
theorem K_holder (fu n : Nat) (cover : (List (Int × Int))) (number : Int) : FS 2 (run tab fu (n + 7) 14 [.v ((eT (eP eI eI)) cover), .v (eI number)]) (F_holder fu cover number) (fun r => ((.v (eI r)), [none, none])) := by
  refine fn_in (i := f14) (as := [.v ((eT (eP eI eI)) cover), .v (eI number)]) (g0 := [.im ((eT (eP eI eI)) cover), .im (eI number)]) rfl rfl rfl (fun z => absurd z (by decide)) (Nat.le_of_ble_eq_true rfl) rfl rfl ?_
  unfold F_holder
  refine ss_exp ?_
  refine s_call ?_
  refine s_as_val ?_
  refine s_tot (v := (.v ((eT (eP eI eI)) cover))) (e_var rfl) ?_
  refine s_as_nil ?_
  refine f_call (K_need_cover fu (n) cover) rfl rfl rfl (fun _ => rfl) rfl rfl fun u1 => ?_
  refine ss_exp ?_
  refine s_call ?_
  refine s_as_val ?_
  refine s_tot (v := (.v (eI number))) (e_var rfl) ?_
  refine s_as_nil ?_
  refine f_call (K_need_integer fu (n + 4) number) rfl rfl rfl (fun _ => rfl) rfl rfl fun u2 => ?_
  refine ss_ret ?_
  refine s_call ?_
  refine s_as_val ?_
  refine s_tot (v := (.v ((eT (eP eI eI)) cover))) (e_var rfl) ?_
  refine s_as_val ?_
  refine s_tot (v := (.v (eI number))) (e_var rfl) ?_
  refine s_as_nil ?_
  refine f_call (K_holder_of fu (n + 4) cover number) rfl rfl rfl (fun _ => rfl) rfl rfl fun r3 => ?_
  exact s_done (rt_fn rfl rfl)
theorem K_row (fu n : Nat) (cover : (List (Int × Int))) (begin : Int) (long : Int) : FS 3 (run tab fu (n + 7) 15 [.v ((eT (eP eI eI)) cover), .v (eI begin), .v (eI long)]) (F_row fu cover begin long) (fun r => ((.v ((eT eI) r)), [none, none, none])) := by
  refine fn_in (i := f15) (as := [.v ((eT (eP eI eI)) cover), .v (eI begin), .v (eI long)]) (g0 := [.im ((eT (eP eI eI)) cover), .im (eI begin), .im (eI long), .no]) rfl rfl rfl (fun z => absurd z (by decide)) (Nat.le_of_ble_eq_true rfl) rfl rfl ?_
  unfold F_row
  refine ss_exp ?_
  refine s_call ?_
  refine s_as_val ?_
  refine s_tot (v := (.v ((eT (eP eI eI)) cover))) (e_var rfl) ?_
  refine s_as_nil ?_
  refine f_call (K_need_cover fu (n) cover) rfl rfl rfl (fun _ => rfl) rfl rfl fun u1 => ?_
  refine ss_exp ?_
  refine s_call ?_
  refine s_as_val ?_
  refine s_tot (v := (.v (eI begin))) (e_var rfl) ?_
  refine s_as_nil ?_
  refine f_call (K_need_integer fu (n + 4) begin) rfl rfl rfl (fun _ => rfl) rfl rfl fun u2 => ?_
  refine ss_ite ?_
  refine s_not ?_
  refine s_call ?_
  refine s_as_val ?_
  refine s_tot (v := (.v (eI long))) (e_var rfl) ?_
  refine s_as_val ?_
  refine s_tot (v := (.v (eI (0 : Int)))) e_int ?_
  refine s_as_val ?_
  refine s_tot (v := (.v (eI (500 : Int)))) (e_glb tc2) ?_
  refine s_as_nil ?_
  refine f_call (K_is_between fu (n + 4) long (0 : Int) (500 : Int)) rfl rfl rfl (fun _ => rfl) rfl rfl fun r3 => ?_
  refine f_not (t := r3) rfl ?_
  refine f_if (t := (!r3)) rfl ?_ ?_
  · exact s_stop
  · refine ss_nil ?_
    refine ss_ret ?_
    refine s_b1 ?_
    refine s_comp ?_
    refine s_r_rng2 ?_
    refine s_tot (v := (.v (eI begin))) (e_var rfl) ?_
    refine s_tot (v := (.v (eI (begin + long)))) (e_bin (x := (.v (eI begin))) (y := (.v (eI long))) (v := (.v (eI (begin + long)))) (e_var rfl) (e_var rfl) (rfl)) ?_
    refine f_rngW fun xs4 => ?_
    refine f_map (E := eI) (e' := eI) rfl (fun number5 => ?_) rfl fun l8 => ?_
    · refine s_cb_non (g1 := [.im ((eT (eP eI eI)) cover), .im (eI begin), .im (eI long), .im (eI number5)]) rfl ?_
      refine s_call ?_
      refine s_as_val ?_
      refine s_tot (v := (.v ((eT (eP eI eI)) cover))) (e_var rfl) ?_
      refine s_as_val ?_
      refine s_tot (v := (.v (eI number5))) (e_var rfl) ?_
      refine s_as_nil ?_
      refine f_call (K_holder_of fu (n + 4) cover number5) rfl rfl rfl (fun _ => rfl) rfl rfl fun r7 => ?_
      exact s_done ⟨rfl, rfl⟩
    refine s_optt (v := (.v ((eT eI) l8))) (rfl) ?_
    exact s_done (rt_fn rfl rfl)
theorem K_periods (fu n : Nat) (cover : (List (Int × Int))) : FS 1 (run tab fu (n + 7) 16 [.v ((eT (eP eI eI)) cover)]) (F_periods fu cover) (fun r => ((.v ((eT eI) r)), [none])) := by
  refine fn_in (i := f16) (as := [.v ((eT (eP eI eI)) cover)]) (g0 := [.im ((eT (eP eI eI)) cover), .no, .no]) rfl rfl rfl (fun z => absurd z (by decide)) (Nat.le_of_ble_eq_true rfl) rfl rfl ?_
  unfold F_periods
  refine ss_exp ?_
  refine s_call ?_
  refine s_as_val ?_
  refine s_tot (v := (.v ((eT (eP eI eI)) cover))) (e_var rfl) ?_
  refine s_as_nil ?_
  refine f_call (K_need_cover fu (n) cover) rfl rfl rfl (fun _ => rfl) rfl rfl fun u1 => ?_
  refine ss_ret ?_
  refine s_b1 ?_
  refine s_b1 ?_
  refine s_comp ?_
  refine s_r_seq ?_
  refine s_tot (v := (.v ((eT (eP eI eI)) cover))) (e_var rfl) ?_
  refine f_seq (ds := List.map (eP eI eI) cover) rfl ?_
  refine f_mapT (E := (eP eI eI)) (e' := eI) (h := fun y2 => y2.2) rfl (fun y2 => ⟨[.im ((eT (eP eI eI)) cover), .im (eI y2.1), .im (eI y2.2)], cb_non (v := (.v (eI y2.2))) rfl (e_var rfl), rfl⟩) rfl fun l3 => ?_
  refine s_optt (v := (.m (.l (List.map eI (sortI l3))))) (b_sortI (xs := l3)) ?_
  refine s_optt (v := (.v ((eT eI) (sortI l3)))) (rfl) ?_
  exact s_done (rt_fn rfl rfl)
theorem KL_right (fu n : Nat) (lot : (List (Int × Int))) (begun : Int) (count : Int) : FS 3 (run tab fu (n + 8) 31 [.v ((eT (eP eI eI)) lot), .v (eI begun), .v (eI count)]) (FL_right fu lot begun count) (fun r => ((.v (eB r)), [none, none, none])) := by
  refine fn_in (i := f31) (as := [.v ((eT (eP eI eI)) lot), .v (eI begun), .v (eI count)]) (g0 := [.im ((eT (eP eI eI)) lot), .im (eI begun), .im (eI count), .no, .no, .no, .no, .no, .no]) rfl rfl rfl (fun z => absurd z (by decide)) (Nat.le_of_ble_eq_true rfl) rfl rfl ?_
  unfold FL_right
  refine ss_set ?_
  refine s_b1 ?_
  refine s_tot (v := (.v ((eP3 (eT (eP eI eI)) eI eI) (lot, begun, count)))) (e_tup (es_cons (x := (.v ((eT (eP eI eI)) lot))) (e_var rfl) (es_cons (x := (.v (eI begun))) (e_var rfl) (es_cons (x := (.v (eI count))) (e_var rfl) es_nil))) (Nat.le_of_ble_eq_true rfl)) ?_
  refine s_opt (V := fun kept1 => (.v (eS kept1))) (o_repr) fun kept1 => ?_
  refine f_G (g' := [.im ((eT (eP eI eI)) lot), .im (eI begun), .im (eI count), .im (eS kept1), .no, .no, .no, .no, .no]) rfl ?_
  refine ss_set ?_
  refine s_lst ?_
  refine s_es_cons ?_
  refine s_call ?_
  refine s_as_val ?_
  refine s_tot (v := (.v ((eT (eP eI eI)) lot))) (e_var rfl) ?_
  refine s_as_val ?_
  refine s_tot (v := (.v (eI begun))) (e_var rfl) ?_
  refine s_as_nil ?_
  refine f_call (KL_place fu (n + 6) lot begun) rfl rfl rfl (fun _ => rfl) rfl rfl fun r2 => ?_
  refine s_es_cons ?_
  refine s_b1 ?_
  refine s_comp ?_
  refine s_r_rng1 ?_
  refine s_tot (v := (.v (eI count))) (e_var rfl) ?_
  refine f_rng1 fun xs3 => ?_
  refine f_map (E := eI) (e' := eI) rfl (fun far4 => ?_) rfl fun l7 => ?_
  · refine s_cb_non (g1 := [.im ((eT (eP eI eI)) lot), .im (eI begun), .im (eI count), .im (eS kept1), .no, .no, .im (eI far4), .no, .no]) rfl ?_
    refine s_call ?_
    refine s_as_val ?_
    refine s_tot (v := (.v ((eT (eP eI eI)) lot))) (e_var rfl) ?_
    refine s_as_val ?_
    refine s_tot (v := (.v (eI (begun + far4)))) (e_bin (x := (.v (eI begun))) (y := (.v (eI far4))) (v := (.v (eI (begun + far4)))) (e_var rfl) (e_var rfl) (rfl)) ?_
    refine s_as_nil ?_
    refine f_call (KL_place fu (n + 6) lot (begun + far4)) rfl rfl rfl (fun _ => rfl) rfl rfl fun r6 => ?_
    exact s_done ⟨rfl, rfl⟩
  refine s_optt (v := (.v ((eT eI) l7))) (rfl) ?_
  refine s_es_nil ?_
  refine f_lst (Nat.le_of_ble_eq_true rfl) ?_
  refine f_GL (V := fun due8 => (.m (.l (List.map eD due8)))) (a := [(eI r2), ((eT eI) l7)]) (g' := fun due8 => [.im ((eT (eP eI eI)) lot), .im (eI begun), .im (eI count), .im (eS kept1), .ow (.l (List.map eD due8)), .no, .no, .no, .no]) (fun _ => rfl) fun due8 => ?_
  refine ss_app rfl ?_
  refine s_b1 ?_
  refine s_b1 ?_
  refine s_comp ?_
  refine s_r_seq ?_
  refine s_tot (v := (.v ((eT (eP eI eI)) lot))) (e_var rfl) ?_
  refine f_seq (ds := List.map (eP eI eI) lot) rfl ?_
  refine f_mapT (E := (eP eI eI)) (e' := eI) (h := fun y9 => y9.2) rfl (fun y9 => ⟨[.im ((eT (eP eI eI)) lot), .im (eI begun), .im (eI count), .im (eS kept1), .ow (.l (List.map eD due8)), .no, .no, .im (eI y9.1), .im (eI y9.2)], cb_non (v := (.v (eI y9.2))) rfl (e_var rfl), rfl⟩) rfl fun l10 => ?_
  refine s_optt (v := (.m (.l (List.map eI (sortI l10))))) (b_sortI (xs := l10)) ?_
  refine s_optt (v := (.v ((eT eI) (sortI l10)))) (rfl) ?_
  refine f_app (bo := false) (e := eD) (v := ((eT eI) (sortI l10))) (g' := fun due11 => [.im ((eT (eP eI eI)) lot), .im (eI begun), .im (eI count), .im (eS kept1), .ow (.l (List.map eD due11)), .no, .no, .no, .no]) rfl rfl (fun _ => rfl) fun due11 => ?_
  refine ss_frz (g' := [.im ((eT (eP eI eI)) lot), .im (eI begun), .im (eI count), .im (eS kept1), .im ((eL eD) due11), .no, .no, .no, .no]) rfl ?_
  refine ss_for ?_
  refine s_r_rng1 ?_
  refine s_tot (v := (.v (eI (2 : Int)))) e_int ?_
  refine f_rng1t (by decide) ?_
  refine f_forR (G := fun s19 => [.im ((eT (eP eI eI)) lot), .im (eI begun), .im (eI count), .im (eS kept1), .im ((eL eD) due11), .no, .no, .no, .no]) (s0 := ()) (E := eI) (fun lap18 s19 => ?_) fun s19 => ?_
  · refine ⟨[.im ((eT (eP eI eI)) lot), .im (eI begun), .im (eI count), .im (eS kept1), .im ((eL eD) due11), .im (eI lap18), .no, .no, .no], rfl, ?_⟩
    refine ss_ite ?_
    refine s_not ?_
    refine s_call ?_
    refine s_as_val ?_
    refine s_lst ?_
    refine s_es_cons ?_
    refine s_call ?_
    refine s_as_val ?_
    refine s_tot (v := (.v ((eT (eP eI eI)) lot))) (e_var rfl) ?_
    refine s_as_val ?_
    refine s_tot (v := (.v (eI begun))) (e_var rfl) ?_
    refine s_as_nil ?_
    refine f_call (K_holder fu (n) lot begun) rfl rfl rfl (fun _ => rfl) rfl rfl fun r20 => ?_
    refine s_es_cons ?_
    refine s_call ?_
    refine s_as_val ?_
    refine s_tot (v := (.v ((eT (eP eI eI)) lot))) (e_var rfl) ?_
    refine s_as_val ?_
    refine s_tot (v := (.v (eI begun))) (e_var rfl) ?_
    refine s_as_val ?_
    refine s_tot (v := (.v (eI count))) (e_var rfl) ?_
    refine s_as_nil ?_
    refine f_call (K_row fu (n) lot begun count) rfl rfl rfl (fun _ => rfl) rfl rfl fun r21 => ?_
    refine s_es_cons ?_
    refine s_call ?_
    refine s_as_val ?_
    refine s_tot (v := (.v ((eT (eP eI eI)) lot))) (e_var rfl) ?_
    refine s_as_nil ?_
    refine f_call (K_periods fu (n) lot) rfl rfl rfl (fun _ => rfl) rfl rfl fun r22 => ?_
    refine s_es_nil ?_
    refine f_lst (Nat.le_of_ble_eq_true rfl) ?_
    refine s_as_val ?_
    refine s_tot (v := (.v ((eL eD) due11))) (e_var rfl) ?_
    refine s_as_nil ?_
    refine f_call (KL_same fu (n + 6) [(eI r20), ((eT eI) r21), ((eT eI) r22)] due11) rfl rfl rfl (fun _ => rfl) rfl rfl fun r23 => ?_
    refine f_not (t := r23) rfl ?_
    refine f_if (t := (!r23)) rfl ?_ ?_
    · refine ss_ret ?_
      refine s_tot (v := (.v (eB false))) e_bl ?_
      exact s_done (rt_tn (rt_fn rfl rfl))
    · refine ss_kil (g' := [.im ((eT (eP eI eI)) lot), .im (eI begun), .im (eI count), .im (eS kept1), .im ((eL eD) due11), .no, .no, .no, .no]) rfl ?_
      refine ss_nil ?_
      refine ss_nil ?_
      exact fin_go (s := ()) rfl
  refine ss_ret ?_
  refine s_cmp ?_
  refine s_b1 ?_
  refine s_tot (v := (.v ((eP3 (eT (eP eI eI)) eI eI) (lot, begun, count)))) (e_tup (es_cons (x := (.v ((eT (eP eI eI)) lot))) (e_var rfl) (es_cons (x := (.v (eI begun))) (e_var rfl) (es_cons (x := (.v (eI count))) (e_var rfl) es_nil))) (Nat.le_of_ble_eq_true rfl)) ?_
  refine s_opt (V := fun r24 => (.v (eS r24))) (o_repr) fun r24 => ?_
  refine s_tot (v := (.v (eS kept1))) (e_var rfl) ?_
  refine s_optt (v := .v (.bool (decide (r24 = kept1)))) (congrArg (Option.map _) (rfl)) ?_
  exact s_done (rt_fn rfl rfl)
theorem K_law (fu n : Nat) (script : (List Int)) : FS 1 (run tab fu (n + 9) 32 [.s (List.map eI script)]) (F_law fu script) (fun r => ((.v (eB r)), [none])) := by
  refine fn_in (i := f32) (as := [.s (List.map eI script)]) (g0 := [.sc (List.map eI script), .no, .no, .no, .no, .no]) rfl rfl rfl (fun z => absurd z (by decide)) (Nat.le_of_ble_eq_true rfl) rfl rfl ?_
  unfold F_law
  refine ss_ite ?_
  refine s_or ?_
  refine s_not ?_
  refine s_call ?_
  refine s_as_val ?_
  refine s_tot (v := (.v ((eT (eP eI eI)) [((0 : Int), (2 : Int)), ((1 : Int), (4 : Int)), ((3 : Int), (4 : Int))]))) (e_tup (es_cons (x := (.v ((eP eI eI) ((0 : Int), (2 : Int))))) (e_tup (es_cons (x := (.v (eI (0 : Int)))) e_int (es_cons (x := (.v (eI (2 : Int)))) e_int es_nil)) (Nat.le_of_ble_eq_true rfl)) (es_cons (x := (.v ((eP eI eI) ((1 : Int), (4 : Int))))) (e_tup (es_cons (x := (.v (eI (1 : Int)))) e_int (es_cons (x := (.v (eI (4 : Int)))) e_int es_nil)) (Nat.le_of_ble_eq_true rfl)) (es_cons (x := (.v ((eP eI eI) ((3 : Int), (4 : Int))))) (e_tup (es_cons (x := (.v (eI (3 : Int)))) e_int (es_cons (x := (.v (eI (4 : Int)))) e_int es_nil)) (Nat.le_of_ble_eq_true rfl)) es_nil))) (Nat.le_of_ble_eq_true rfl)) ?_
  refine s_as_val ?_
  refine s_tot (v := (.v (eI (-7 : Int)))) (e_neg (i := (7 : Int)) e_int) ?_
  refine s_as_val ?_
  refine s_tot (v := (.v (eI (500 : Int)))) e_int ?_
  refine s_as_nil ?_
  refine f_call (KL_right fu (n) [((0 : Int), (2 : Int)), ((1 : Int), (4 : Int)), ((3 : Int), (4 : Int))] (-7 : Int) (500 : Int)) rfl rfl rfl (fun _ => rfl) rfl rfl fun r1 => ?_
  refine f_not (t := r1) rfl ?_
  refine f_or (φ := fun t2 => (.v (.bool t2), [.sc (List.map eI script), .no, .no, .no, .no, .no])) (z := true) ?_ rfl fun t2 => ?_
  · refine s_not ?_
    refine s_call ?_
    refine s_as_val ?_
    refine s_tot (v := (.v ((eT (eP eI eI)) [((0 : Int), (1 : Int))]))) (e_tup (es_cons (x := (.v ((eP eI eI) ((0 : Int), (1 : Int))))) (e_tup (es_cons (x := (.v (eI (0 : Int)))) e_int (es_cons (x := (.v (eI (1 : Int)))) e_int es_nil)) (Nat.le_of_ble_eq_true rfl)) es_nil) (Nat.le_of_ble_eq_true rfl)) ?_
    refine s_as_val ?_
    refine s_tot (v := (.v (eI (5 : Int)))) e_int ?_
    refine s_as_val ?_
    refine s_tot (v := (.v (eI (0 : Int)))) e_int ?_
    refine s_as_nil ?_
    refine f_call (KL_right fu (n) [((0 : Int), (1 : Int))] (5 : Int) (0 : Int)) rfl rfl rfl (fun _ => rfl) rfl rfl fun r3 => ?_
    refine f_not (t := r3) rfl ?_
    exact fin_hd rfl rfl
  refine f_if (t := t2) rfl ?_ ?_
  · refine ss_ret ?_
    refine s_tot (v := (.v (eB false))) e_bl ?_
    exact s_done (rt_fn rfl rfl)
  · refine ss_nil ?_
    refine ss_for ?_
    refine s_r_rng1 ?_
    refine s_tot (v := (.v (eI (mxI (1 : Int) (mnI (script.length : Int) (3 : Int)))))) (e_b2 (x := (.v (eI (1 : Int)))) (y := (.v (eI (mnI (script.length : Int) (3 : Int))))) (d := eI (mxI (1 : Int) (mnI (script.length : Int) (3 : Int)))) e_int (e_b2 (x := (.v (eI (script.length : Int)))) (y := (.v (eI (3 : Int)))) (d := eI (mnI (script.length : Int) (3 : Int))) (e_lenv rfl (l_len (e := eI) (xs := script))) e_int rfl) rfl) ?_
    refine f_rng1 fun xs4 => ?_
    refine f_forR (G := fun s6 => [.sc (List.map eI script), .no, .no, .no, .no, .no]) (s0 := ()) (E := eI) (fun k5 s6 => ?_) fun s6 => ?_
    · refine ⟨[.sc (List.map eI script), .im (eI k5), .no, .no, .no, .no], rfl, ?_⟩
      refine ss_set ?_
      refine s_call ?_
      refine s_as_val ?_
      refine s_call ?_
      refine s_as_bor rfl ?_
      refine s_as_val ?_
      refine s_tot (v := (.v (eI k5))) (e_var rfl) ?_
      refine s_as_nil ?_
      refine f_call (KL_cell fu (n + 7) script k5) rfl rfl rfl (fun _ => rfl) rfl rfl fun r7 => ?_
      refine s_as_nil ?_
      refine f_call (KL_pen fu (n + 7) r7) rfl rfl rfl (fun _ => rfl) rfl rfl fun pen_here8 => ?_
      refine f_G (g' := [.sc (List.map eI script), .im (eI k5), .ow (.l (List.map eI pen_here8)), .no, .no, .no]) rfl ?_
      refine ss_kil (g' := [.sc (List.map eI script), .no, .ow (.l (List.map eI pen_here8)), .no, .no, .no]) rfl ?_
      refine ss_for ?_
      refine s_r_rng1 ?_
      refine s_tot (v := (.v (eI (5 : Int)))) e_int ?_
      refine f_rng1t (by decide) ?_
      refine f_forR (G := fun s10 => [.sc (List.map eI script), .no, .ow (.l (List.map eI s10)), .no, .no, .no]) (s0 := pen_here8) (E := eI) (fun lap9 s10 => ?_) fun s10 => ?_
      · refine ⟨[.sc (List.map eI script), .no, .ow (.l (List.map eI s10)), .im (eI lap9), .no, .no], rfl, ?_⟩
        refine ss_set ?_
        refine s_ite ?_
        refine s_tot (v := (.v (eB (decide (lap9 = (4 : Int)))))) (e_cmp (x := (.v (eI lap9))) (y := (.v (eI (4 : Int)))) (t := (decide (lap9 = (4 : Int)))) (e_var rfl) e_int (rfl)) ?_
        refine f_ite (t := (decide (lap9 = (4 : Int)))) (φ := fun lot11 => ((.v ((eT (eP eI eI)) lot11.1)), [.sc (List.map eI script), .no, .ow (.l (List.map eI lot11.2)), .im (eI lap9), .no, .no])) rfl ?_ ?_ fun lot11 => ?_
        · refine s_call ?_
          refine s_as_bor rfl ?_
          refine s_as_nil ?_
          refine f_callM (g' := fun r12 => [.sc (List.map eI script), .no, .ow (.l (List.map eI r12.2)), .im (eI lap9), .no, .no]) (KL_hard_plan fu (n + 4) s10) rfl rfl rfl (fun _ => rfl) fun r12 => ?_
          exact fin_hd rfl rfl
        · refine s_call ?_
          refine s_as_bor rfl ?_
          refine s_as_val ?_
          refine s_tot (v := (.v (eI (14 : Int)))) e_int ?_
          refine s_as_val ?_
          refine s_tot (v := (.v (eI (120 : Int)))) e_int ?_
          refine s_as_nil ?_
          refine f_callM (g' := fun r13 => [.sc (List.map eI script), .no, .ow (.l (List.map eI r13.2)), .im (eI lap9), .no, .no]) (KL_plan fu (n + 5) s10 (14 : Int) (120 : Int)) rfl rfl rfl (fun _ => rfl) fun r13 => ?_
          exact fin_hd rfl rfl
        refine f_G (g' := [.sc (List.map eI script), .no, .ow (.l (List.map eI lot11.2)), .im (eI lap9), .im ((eT (eP eI eI)) lot11.1), .no]) rfl ?_
        refine ss_set ?_
        refine s_call ?_
        refine s_as_bor rfl ?_
        refine s_as_val ?_
        refine s_lst ?_
        refine s_es_cons ?_
        refine s_tot (v := (.v (eI (0 : Int)))) e_int ?_
        refine s_es_cons ?_
        refine s_bin ?_
        refine s_call ?_
        refine s_as_bor rfl ?_
        refine s_as_val ?_
        refine s_tot (v := (.v (eI (99 : Int)))) e_int ?_
        refine s_as_nil ?_
        refine f_callM (g' := fun r14 => [.sc (List.map eI script), .no, .ow (.l (List.map eI r14.2)), .im (eI lap9), .im ((eT (eP eI eI)) lot11.1), .no]) (KL_draw fu (n + 7) lot11.2 (99 : Int)) rfl rfl rfl (fun _ => rfl) fun r14 => ?_
        refine s_tot (v := (.v (eI (50 : Int)))) e_int ?_
        refine s_optt (v := (.v (eI (r14.1 - (50 : Int))))) (rfl) ?_
        refine s_es_cons ?_
        refine s_bin ?_
        refine s_tot (v := (.v (eI ((10 : Int) ^ (39 : Nat))))) (e_bin (x := (.v (eI (10 : Int)))) (y := (.v (eI (39 : Int)))) (v := (.v (eI ((10 : Int) ^ (39 : Nat))))) e_int e_int (b_powc (i := (10 : Int)) (j := (39 : Int)) (by decide))) ?_
        refine s_call ?_
        refine s_as_bor rfl ?_
        refine s_as_val ?_
        refine s_tot (v := (.v (eI (99 : Int)))) e_int ?_
        refine s_as_nil ?_
        refine f_callM (g' := fun r15 => [.sc (List.map eI script), .no, .ow (.l (List.map eI r15.2)), .im (eI lap9), .im ((eT (eP eI eI)) lot11.1), .no]) (KL_draw fu (n + 7) r14.2 (99 : Int)) rfl rfl rfl (fun _ => rfl) fun r15 => ?_
        refine s_optt (v := (.v (eI (((10 : Int) ^ (39 : Nat)) - r15.1)))) (rfl) ?_
        refine s_es_cons ?_
        refine s_tot (v := (.v (eI (-((10 : Int) ^ (20 : Nat)))))) (e_neg (i := ((10 : Int) ^ (20 : Nat))) (e_bin (x := (.v (eI (10 : Int)))) (y := (.v (eI (20 : Int)))) (v := (.v (eI ((10 : Int) ^ (20 : Nat))))) e_int e_int (b_powc (i := (10 : Int)) (j := (20 : Int)) (by decide)))) ?_
        refine s_es_nil ?_
        refine f_lst (Nat.le_of_ble_eq_true rfl) ?_
        refine s_as_nil ?_
        refine f_callM (g' := fun begun16 => [.sc (List.map eI script), .no, .ow (.l (List.map eI begun16.2)), .im (eI lap9), .im ((eT (eP eI eI)) lot11.1), .no]) (KL_pick fu (n + 6) r15.2 [(0 : Int), (r14.1 - (50 : Int)), (((10 : Int) ^ (39 : Nat)) - r15.1), (-((10 : Int) ^ (20 : Nat)))]) rfl rfl rfl (fun _ => rfl) fun begun16 => ?_
        refine f_G (g' := [.sc (List.map eI script), .no, .ow (.l (List.map eI begun16.2)), .im (eI lap9), .im ((eT (eP eI eI)) lot11.1), .im (eI begun16.1)]) rfl ?_
        refine ss_ite ?_
        refine s_not ?_
        refine s_call ?_
        refine s_as_val ?_
        refine s_tot (v := (.v ((eT (eP eI eI)) lot11.1))) (e_var rfl) ?_
        refine s_as_val ?_
        refine s_tot (v := (.v (eI begun16.1))) (e_var rfl) ?_
        refine s_as_val ?_
        refine s_call ?_
        refine s_as_bor rfl ?_
        refine s_as_val ?_
        refine s_lst ?_
        refine s_es_cons ?_
        refine s_tot (v := (.v (eI (0 : Int)))) e_int ?_
        refine s_es_cons ?_
        refine s_tot (v := (.v (eI (1 : Int)))) e_int ?_
        refine s_es_cons ?_
        refine s_call ?_
        refine s_as_bor rfl ?_
        refine s_as_val ?_
        refine s_tot (v := (.v (eI (30 : Int)))) e_int ?_
        refine s_as_nil ?_
        refine f_callM (g' := fun r17 => [.sc (List.map eI script), .no, .ow (.l (List.map eI r17.2)), .im (eI lap9), .im ((eT (eP eI eI)) lot11.1), .im (eI begun16.1)]) (KL_draw fu (n + 7) begun16.2 (30 : Int)) rfl rfl rfl (fun _ => rfl) fun r17 => ?_
        refine s_es_nil ?_
        refine f_lst (Nat.le_of_ble_eq_true rfl) ?_
        refine s_as_nil ?_
        refine f_callM (g' := fun r18 => [.sc (List.map eI script), .no, .ow (.l (List.map eI r18.2)), .im (eI lap9), .im ((eT (eP eI eI)) lot11.1), .im (eI begun16.1)]) (KL_pick fu (n + 6) r17.2 [(0 : Int), (1 : Int), r17.1]) rfl rfl rfl (fun _ => rfl) fun r18 => ?_
        refine s_as_nil ?_
        refine f_call (KL_right fu (n) lot11.1 begun16.1 r18.1) rfl rfl rfl (fun _ => rfl) rfl rfl fun r19 => ?_
        refine f_not (t := r19) rfl ?_
        refine f_if (t := (!r19)) rfl ?_ ?_
        · refine ss_ret ?_
          refine s_tot (v := (.v (eB false))) e_bl ?_
          exact s_done (rt_tn (rt_tn (rt_fn rfl rfl)))
        · refine ss_kil (g' := [.sc (List.map eI script), .no, .ow (.l (List.map eI r18.2)), .no, .no, .no]) rfl ?_
          refine ss_nil ?_
          refine ss_nil ?_
          exact fin_go (s := r18.2) rfl
      refine ss_kil (g' := [.sc (List.map eI script), .no, .no, .no, .no, .no]) rfl ?_
      refine ss_nil ?_
      exact fin_go (s := ()) rfl
    refine ss_ret ?_
    refine s_tot (v := (.v (eB true))) e_bl ?_
    exact s_done (rt_fn rfl rfl)
theorem law_of (ns : List Int) (h : F_law 1000000 ns = ok true) : run tab 1000000 9 32 [.s (ns.map PyData.int)] = some (.ok (.v (.bool true)), [none]) :=
  (K_law 1000000 0 ns).use h
end Law

namespace Law
open PySem PySem.Spec PyProof.Rows L2 Z
def topS (i : Nat) : Stmt := PySem.Challenge.pw_onceapiece_k09_holders_and_rows.main.body.getD i (.Pass ⟨0, 0, 0, 0⟩)
abbrev s0 : Stmt := topS 8
theorem sc0 : FnScope f0.N f0.ps (defScope s0) := ⟨rfl, rfl, rfl, by decide +kernel, rfl, by decide +kernel, by decide +kernel⟩
theorem ck0 : chkSs (tab.ce f0) f0.N (defScope s0) (defScope s0) f0.body (defBody s0) = true := by decide +kernel
abbrev s1 : Stmt := topS 9
theorem sc1 : FnScope f1.N f1.ps (defScope s1) := ⟨rfl, rfl, rfl, by decide +kernel, rfl, by decide +kernel, by decide +kernel⟩
theorem ck1 : chkSs (tab.ce f1) f1.N (defScope s1) (defScope s1) f1.body (defBody s1) = true := by decide +kernel
abbrev s2 : Stmt := topS 10
theorem sc2 : FnScope f2.N f2.ps (defScope s2) := ⟨rfl, rfl, rfl, by decide +kernel, rfl, by decide +kernel, by decide +kernel⟩
theorem ck2 : chkSs (tab.ce f2) f2.N (defScope s2) (defScope s2) f2.body (defBody s2) = true := by decide +kernel
abbrev s3 : Stmt := topS 11
theorem sc3 : FnScope f3.N f3.ps (defScope s3) := ⟨rfl, rfl, rfl, by decide +kernel, rfl, by decide +kernel, by decide +kernel⟩
theorem ck3 : chkSs (tab.ce f3) f3.N (defScope s3) (defScope s3) f3.body (defBody s3) = true := by decide +kernel
abbrev s4 : Stmt := topS 12
theorem sc4 : FnScope f4.N f4.ps (defScope s4) := ⟨rfl, rfl, rfl, by decide +kernel, rfl, by decide +kernel, by decide +kernel⟩
theorem ck4 : chkSs (tab.ce f4) f4.N (defScope s4) (defScope s4) f4.body (defBody s4) = true := by decide +kernel
abbrev s5 : Stmt := topS 13
theorem sc5 : FnScope f5.N f5.ps (defScope s5) := ⟨rfl, rfl, rfl, by decide +kernel, rfl, by decide +kernel, by decide +kernel⟩
theorem ck5 : chkSs (tab.ce f5) f5.N (defScope s5) (defScope s5) f5.body (defBody s5) = true := by decide +kernel
abbrev s6 : Stmt := topS 14
theorem sc6 : FnScope f6.N f6.ps (defScope s6) := ⟨rfl, rfl, rfl, by decide +kernel, rfl, by decide +kernel, by decide +kernel⟩
theorem ck6 : chkSs (tab.ce f6) f6.N (defScope s6) (defScope s6) f6.body (defBody s6) = true := by decide +kernel
abbrev s7 : Stmt := topS 15
theorem sc7 : FnScope f7.N f7.ps (defScope s7) := ⟨rfl, rfl, rfl, by decide +kernel, rfl, by decide +kernel, by decide +kernel⟩
theorem ck7 : chkSs (tab.ce f7) f7.N (defScope s7) (defScope s7) f7.body (defBody s7) = true := by decide +kernel
abbrev s8 : Stmt := topS 16
theorem sc8 : FnScope f8.N f8.ps (defScope s8) := ⟨rfl, rfl, rfl, by decide +kernel, rfl, by decide +kernel, by decide +kernel⟩
theorem ck8 : chkSs (tab.ce f8) f8.N (defScope s8) (defScope s8) f8.body (defBody s8) = true := by decide +kernel
abbrev s9 : Stmt := topS 17
theorem sc9 : FnScope f9.N f9.ps (defScope s9) := ⟨rfl, rfl, rfl, by decide +kernel, rfl, by decide +kernel, by decide +kernel⟩
theorem ck9 : chkSs (tab.ce f9) f9.N (defScope s9) (defScope s9) f9.body (defBody s9) = true := by decide +kernel
abbrev s10 : Stmt := topS 20
theorem sc10 : FnScope f10.N f10.ps (defScope s10) := ⟨rfl, rfl, rfl, by decide +kernel, rfl, by decide +kernel, by decide +kernel⟩
theorem ck10 : chkSs (tab.ce f10) f10.N (defScope s10) (defScope s10) f10.body (defBody s10) = true := by decide +kernel
abbrev s11 : Stmt := topS 21
theorem sc11 : FnScope f11.N f11.ps (defScope s11) := ⟨rfl, rfl, rfl, by decide +kernel, rfl, by decide +kernel, by decide +kernel⟩
theorem ck11 : chkSs (tab.ce f11) f11.N (defScope s11) (defScope s11) f11.body (defBody s11) = true := by decide +kernel
abbrev s12 : Stmt := topS 22
theorem sc12 : FnScope f12.N f12.ps (defScope s12) := ⟨rfl, rfl, rfl, by decide +kernel, rfl, by decide +kernel, by decide +kernel⟩
theorem ck12 : chkSs (tab.ce f12) f12.N (defScope s12) (defScope s12) f12.body (defBody s12) = true := by decide +kernel
abbrev s13 : Stmt := topS 23
theorem sc13 : FnScope f13.N f13.ps (defScope s13) := ⟨rfl, rfl, rfl, by decide +kernel, rfl, by decide +kernel, by decide +kernel⟩
theorem ck13 : chkSs (tab.ce f13) f13.N (defScope s13) (defScope s13) f13.body (defBody s13) = true := by decide +kernel
abbrev s14 : Stmt := topS 24
theorem sc14 : FnScope f14.N f14.ps (defScope s14) := ⟨rfl, rfl, rfl, by decide +kernel, rfl, by decide +kernel, by decide +kernel⟩
theorem ck14 : chkSs (tab.ce f14) f14.N (defScope s14) (defScope s14) f14.body (defBody s14) = true := by decide +kernel
abbrev s15 : Stmt := topS 25
theorem sc15 : FnScope f15.N f15.ps (defScope s15) := ⟨rfl, rfl, rfl, by decide +kernel, rfl, by decide +kernel, by decide +kernel⟩
theorem ck15 : chkSs (tab.ce f15) f15.N (defScope s15) (defScope s15) f15.body (defBody s15) = true := by decide +kernel
abbrev s16 : Stmt := topS 26
theorem sc16 : FnScope f16.N f16.ps (defScope s16) := ⟨rfl, rfl, rfl, by decide +kernel, rfl, by decide +kernel, by decide +kernel⟩
theorem ck16 : chkSs (tab.ce f16) f16.N (defScope s16) (defScope s16) f16.body (defBody s16) = true := by decide +kernel
abbrev s17 : Stmt := topS 28
theorem sc17 : FnScope f17.N f17.ps (defScope s17) := ⟨rfl, rfl, rfl, by decide +kernel, rfl, by decide +kernel, by decide +kernel⟩
theorem ck17 : chkSs (tab.ce f17) f17.N (defScope s17) (defScope s17) f17.body (defBody s17) = true := by decide +kernel
abbrev s18 : Stmt := topS 29
theorem sc18 : FnScope f18.N f18.ps (defScope s18) := ⟨rfl, rfl, rfl, by decide +kernel, rfl, by decide +kernel, by decide +kernel⟩
theorem ck18 : chkSs (tab.ce f18) f18.N (defScope s18) (defScope s18) f18.body (defBody s18) = true := by decide +kernel
abbrev s19 : Stmt := topS 30
theorem sc19 : FnScope f19.N f19.ps (defScope s19) := ⟨rfl, rfl, rfl, by decide +kernel, rfl, by decide +kernel, by decide +kernel⟩
theorem ck19 : chkSs (tab.ce f19) f19.N (defScope s19) (defScope s19) f19.body (defBody s19) = true := by decide +kernel
abbrev s20 : Stmt := topS 31
theorem sc20 : FnScope f20.N f20.ps (defScope s20) := ⟨rfl, rfl, rfl, by decide +kernel, rfl, by decide +kernel, by decide +kernel⟩
theorem ck20 : chkSs (tab.ce f20) f20.N (defScope s20) (defScope s20) f20.body (defBody s20) = true := by decide +kernel
abbrev s21 : Stmt := topS 32
theorem sc21 : FnScope f21.N f21.ps (defScope s21) := ⟨rfl, rfl, rfl, by decide +kernel, rfl, by decide +kernel, by decide +kernel⟩
theorem ck21 : chkSs (tab.ce f21) f21.N (defScope s21) (defScope s21) f21.body (defBody s21) = true := by decide +kernel
abbrev s22 : Stmt := topS 33
theorem sc22 : FnScope f22.N f22.ps (defScope s22) := ⟨rfl, rfl, rfl, by decide +kernel, rfl, by decide +kernel, by decide +kernel⟩
theorem ck22 : chkSs (tab.ce f22) f22.N (defScope s22) (defScope s22) f22.body (defBody s22) = true := by decide +kernel
abbrev s23 : Stmt := topS 34
theorem sc23 : FnScope f23.N f23.ps (defScope s23) := ⟨rfl, rfl, rfl, by decide +kernel, rfl, by decide +kernel, by decide +kernel⟩
theorem ck23 : chkSs (tab.ce f23) f23.N (defScope s23) (defScope s23) f23.body (defBody s23) = true := by decide +kernel
abbrev s24 : Stmt := topS 35
theorem sc24 : FnScope f24.N f24.ps (defScope s24) := ⟨rfl, rfl, rfl, by decide +kernel, rfl, by decide +kernel, by decide +kernel⟩
theorem ck24 : chkSs (tab.ce f24) f24.N (defScope s24) (defScope s24) f24.body (defBody s24) = true := by decide +kernel
abbrev s25 : Stmt := topS 36
theorem sc25 : FnScope f25.N f25.ps (defScope s25) := ⟨rfl, rfl, rfl, by decide +kernel, rfl, by decide +kernel, by decide +kernel⟩
theorem ck25 : chkSs (tab.ce f25) f25.N (defScope s25) (defScope s25) f25.body (defBody s25) = true := by decide +kernel
abbrev s26 : Stmt := topS 37
theorem sc26 : FnScope f26.N f26.ps (defScope s26) := ⟨rfl, rfl, rfl, by decide +kernel, rfl, by decide +kernel, by decide +kernel⟩
theorem ck26 : chkSs (tab.ce f26) f26.N (defScope s26) (defScope s26) f26.body (defBody s26) = true := by decide +kernel
abbrev s27 : Stmt := topS 38
theorem sc27 : FnScope f27.N f27.ps (defScope s27) := ⟨rfl, rfl, rfl, by decide +kernel, rfl, by decide +kernel, by decide +kernel⟩
theorem ck27 : chkSs (tab.ce f27) f27.N (defScope s27) (defScope s27) f27.body (defBody s27) = true := by decide +kernel
abbrev s28 : Stmt := topS 39
theorem sc28 : FnScope f28.N f28.ps (defScope s28) := ⟨rfl, rfl, rfl, by decide +kernel, rfl, by decide +kernel, by decide +kernel⟩
theorem ck28 : chkSs (tab.ce f28) f28.N (defScope s28) (defScope s28) f28.body (defBody s28) = true := by decide +kernel
abbrev s29 : Stmt := topS 40
theorem sc29 : FnScope f29.N f29.ps (defScope s29) := ⟨rfl, rfl, rfl, by decide +kernel, rfl, by decide +kernel, by decide +kernel⟩
theorem ck29 : chkSs (tab.ce f29) f29.N (defScope s29) (defScope s29) f29.body (defBody s29) = true := by decide +kernel
abbrev s30 : Stmt := topS 41
theorem sc30 : FnScope f30.N f30.ps (defScope s30) := ⟨rfl, rfl, rfl, by decide +kernel, rfl, by decide +kernel, by decide +kernel⟩
theorem ck30 : chkSs (tab.ce f30) f30.N (defScope s30) (defScope s30) f30.body (defBody s30) = true := by decide +kernel
abbrev s31 : Stmt := topS 42
theorem sc31 : FnScope f31.N f31.ps (defScope s31) := ⟨rfl, rfl, rfl, by decide +kernel, rfl, by decide +kernel, by decide +kernel⟩
theorem ck31 : chkSs (tab.ce f31) f31.N (defScope s31) (defScope s31) f31.body (defBody s31) = true := by decide +kernel
abbrev s32 : Stmt := topS 43
theorem sc32 : FnScope f32.N f32.ps (defScope s32) := ⟨rfl, rfl, rfl, by decide +kernel, rfl, by decide +kernel, by decide +kernel⟩
theorem ck32 : chkSs (tab.ce f32) f32.N (defScope s32) (defScope s32) f32.body (defBody s32) = true := by decide +kernel
set_option maxHeartbeats 0 in
theorem all_mk {l : PySem.W.OpenLaw} {w : World} {K : PySem.W.Frag} {h : Heap} {mg : Str → Option Value} {fa f0_ f1_ f2_ f3_ f4_ f5_ f6_ f7_ f8_ f9_ f10_ f11_ f12_ f13_ f14_ f15_ f16_ f17_ f18_ f19_ f20_ f21_ f22_ f23_ f24_ f25_ f26_ f27_ f28_ f29_ f30_ f31_ f32_ : Addr} (X : K.In h) (G : h.Ns mainGlobals mg) (hfa : mg "law" = some (.ref fa))
    {od0 an0 od1 an1 od2 an2 od3 an3 od4 an4 od5 an5 od6 an6 od7 an7 od8 an8 od9 an9 od10 an10 od11 an11 od12 an12 od13 an13 od14 an14 od15 an15 od16 an16 od17 an17 od18 an18 od19 an19 od20 an20 od21 an21 od22 an22 od23 an23 od24 an24 od25 an25 od26 an26 od27 an27 od28 an28 od29 an29 od30 an30 od31 an31 od32 an32 : Option Addr} {sl0 sl1 sl2 sl3 sl4 sl5 sl6 sl7 sl8 sl9 sl10 sl11 sl12 sl13 sl14 sl15 sl16 sl17 sl18 sl19 sl20 sl21 sl22 sl23 sl24 sl25 sl26 sl27 sl28 sl29 sl30 sl31 sl32 : Array (Option Value)} {oc0 kV0 dc0 pm0 ct0 cd0 oc1 kV1 dc1 pm1 ct1 cd1 oc2 kV2 dc2 pm2 ct2 cd2 oc3 kV3 dc3 pm3 ct3 cd3 oc4 kV4 dc4 pm4 ct4 cd4 oc5 kV5 dc5 pm5 ct5 cd5 oc6 kV6 dc6 pm6 ct6 cd6 oc7 kV7 dc7 pm7 ct7 cd7 oc8 kV8 dc8 pm8 ct8 cd8 oc9 kV9 dc9 pm9 ct9 cd9 oc10 kV10 dc10 pm10 ct10 cd10 oc11 kV11 dc11 pm11 ct11 cd11 oc12 kV12 dc12 pm12 ct12 cd12 oc13 kV13 dc13 pm13 ct13 cd13 oc14 kV14 dc14 pm14 ct14 cd14 oc15 kV15 dc15 pm15 ct15 cd15 oc16 kV16 dc16 pm16 ct16 cd16 oc17 kV17 dc17 pm17 ct17 cd17 oc18 kV18 dc18 pm18 ct18 cd18 oc19 kV19 dc19 pm19 ct19 cd19 oc20 kV20 dc20 pm20 ct20 cd20 oc21 kV21 dc21 pm21 ct21 cd21 oc22 kV22 dc22 pm22 ct22 cd22 oc23 kV23 dc23 pm23 ct23 cd23 oc24 kV24 dc24 pm24 ct24 cd24 oc25 kV25 dc25 pm25 ct25 cd25 oc26 kV26 dc26 pm26 ct26 cd26 oc27 kV27 dc27 pm27 ct27 cd27 oc28 kV28 dc28 pm28 ct28 cd28 oc29 kV29 dc29 pm29 ct29 cd29 oc30 kV30 dc30 pm30 ct30 cd30 oc31 kV31 dc31 pm31 ct31 cd31 oc32 kV32 dc32 pm32 ct32 cd32 : Value}
    {t0 t1 t2 : Tok}
    (a0 : PySem.W.nsIn K mainGlobals "is_integer" = some (some (.ref f0_)))
    (l0 : K.lookup f0_ = some ⟨oc0, od0, .func (PySem.W.fnOf "is_integer" "is_integer" (defArgs s0) (defBody s0) (defScope s0) .none kV0 dc0 pm0 an0 cd0 ct0), sl0⟩)
    (c0 : PySem.W.codeIn K cd0 "is_integer" = true)
    (k0 : PySem.W.keepIn K (.ref f0_) = true)
    (a1 : PySem.W.nsIn K mainGlobals "is_between" = some (some (.ref f1_)))
    (l1 : K.lookup f1_ = some ⟨oc1, od1, .func (PySem.W.fnOf "is_between" "is_between" (defArgs s1) (defBody s1) (defScope s1) .none kV1 dc1 pm1 an1 cd1 ct1), sl1⟩)
    (c1 : PySem.W.codeIn K cd1 "is_between" = true)
    (k1 : PySem.W.keepIn K (.ref f1_) = true)
    (a2 : PySem.W.nsIn K mainGlobals "common_part" = some (some (.ref f2_)))
    (l2 : K.lookup f2_ = some ⟨oc2, od2, .func (PySem.W.fnOf "common_part" "common_part" (defArgs s2) (defBody s2) (defScope s2) .none kV2 dc2 pm2 an2 cd2 ct2), sl2⟩)
    (c2 : PySem.W.codeIn K cd2 "common_part" = true)
    (k2 : PySem.W.keepIn K (.ref f2_) = true)
    (a3 : PySem.W.nsIn K mainGlobals "is_turn" = some (some (.ref f3_)))
    (l3 : K.lookup f3_ = some ⟨oc3, od3, .func (PySem.W.fnOf "is_turn" "is_turn" (defArgs s3) (defBody s3) (defScope s3) .none kV3 dc3 pm3 an3 cd3 ct3), sl3⟩)
    (c3 : PySem.W.codeIn K cd3 "is_turn" = true)
    (k3 : PySem.W.keepIn K (.ref f3_) = true)
    (a4 : PySem.W.nsIn K mainGlobals "round_by" = some (some (.ref f4_)))
    (l4 : K.lookup f4_ = some ⟨oc4, od4, .func (PySem.W.fnOf "round_by" "round_by" (defArgs s4) (defBody s4) (defScope s4) .none kV4 dc4 pm4 an4 cd4 ct4), sl4⟩)
    (c4 : PySem.W.codeIn K cd4 "round_by" = true)
    (k4 : PySem.W.keepIn K (.ref f4_) = true)
    (a5 : PySem.W.nsIn K mainGlobals "is_family" = some (some (.ref f5_)))
    (l5 : K.lookup f5_ = some ⟨oc5, od5, .func (PySem.W.fnOf "is_family" "is_family" (defArgs s5) (defBody s5) (defScope s5) .none kV5 dc5 pm5 an5 cd5 ct5), sl5⟩)
    (c5 : PySem.W.codeIn K cd5 "is_family" = true)
    (k5 : PySem.W.keepIn K (.ref f5_) = true)
    (a6 : PySem.W.nsIn K mainGlobals "need_integer" = some (some (.ref f6_)))
    (l6 : K.lookup f6_ = some ⟨oc6, od6, .func (PySem.W.fnOf "need_integer" "need_integer" (defArgs s6) (defBody s6) (defScope s6) .none kV6 dc6 pm6 an6 cd6 ct6), sl6⟩)
    (c6 : PySem.W.codeIn K cd6 "need_integer" = true)
    (k6 : PySem.W.keepIn K (.ref f6_) = true)
    (a7 : PySem.W.nsIn K mainGlobals "does_hold" = some (some (.ref f7_)))
    (l7 : K.lookup f7_ = some ⟨oc7, od7, .func (PySem.W.fnOf "does_hold" "does_hold" (defArgs s7) (defBody s7) (defScope s7) .none kV7 dc7 pm7 an7 cd7 ct7), sl7⟩)
    (c7 : PySem.W.codeIn K cd7 "does_hold" = true)
    (k7 : PySem.W.keepIn K (.ref f7_) = true)
    (a8 : PySem.W.nsIn K mainGlobals "lowest" = some (some (.ref f8_)))
    (l8 : K.lookup f8_ = some ⟨oc8, od8, .func (PySem.W.fnOf "lowest" "lowest" (defArgs s8) (defBody s8) (defScope s8) .none kV8 dc8 pm8 an8 cd8 ct8), sl8⟩)
    (c8 : PySem.W.codeIn K cd8 "lowest" = true)
    (k8 : PySem.W.keepIn K (.ref f8_) = true)
    (a9 : PySem.W.nsIn K mainGlobals "weight_by" = some (some (.ref f9_)))
    (l9 : K.lookup f9_ = some ⟨oc9, od9, .func (PySem.W.fnOf "weight_by" "weight_by" (defArgs s9) (defBody s9) (defScope s9) .none kV9 dc9 pm9 an9 cd9 ct9), sl9⟩)
    (c9 : PySem.W.codeIn K cd9 "weight_by" = true)
    (k9 : PySem.W.keepIn K (.ref f9_) = true)
    (a10 : PySem.W.nsIn K mainGlobals "do_meet" = some (some (.ref f10_)))
    (l10 : K.lookup f10_ = some ⟨oc10, od10, .func (PySem.W.fnOf "do_meet" "do_meet" (defArgs s10) (defBody s10) (defScope s10) .none kV10 dc10 pm10 an10 cd10 ct10), sl10⟩)
    (c10 : PySem.W.codeIn K cd10 "do_meet" = true)
    (k10 : PySem.W.keepIn K (.ref f10_) = true)
    (a11 : PySem.W.nsIn K mainGlobals "is_cover" = some (some (.ref f11_)))
    (l11 : K.lookup f11_ = some ⟨oc11, od11, .func (PySem.W.fnOf "is_cover" "is_cover" (defArgs s11) (defBody s11) (defScope s11) .none kV11 dc11 pm11 an11 cd11 ct11), sl11⟩)
    (c11 : PySem.W.codeIn K cd11 "is_cover" = true)
    (k11 : PySem.W.keepIn K (.ref f11_) = true)
    (a12 : PySem.W.nsIn K mainGlobals "need_cover" = some (some (.ref f12_)))
    (l12 : K.lookup f12_ = some ⟨oc12, od12, .func (PySem.W.fnOf "need_cover" "need_cover" (defArgs s12) (defBody s12) (defScope s12) .none kV12 dc12 pm12 an12 cd12 ct12), sl12⟩)
    (c12 : PySem.W.codeIn K cd12 "need_cover" = true)
    (k12 : PySem.W.keepIn K (.ref f12_) = true)
    (a13 : PySem.W.nsIn K mainGlobals "holder_of" = some (some (.ref f13_)))
    (l13 : K.lookup f13_ = some ⟨oc13, od13, .func (PySem.W.fnOf "holder_of" "holder_of" (defArgs s13) (defBody s13) (defScope s13) .none kV13 dc13 pm13 an13 cd13 ct13), sl13⟩)
    (c13 : PySem.W.codeIn K cd13 "holder_of" = true)
    (k13 : PySem.W.keepIn K (.ref f13_) = true)
    (a14 : PySem.W.nsIn K mainGlobals "holder" = some (some (.ref f14_)))
    (l14 : K.lookup f14_ = some ⟨oc14, od14, .func (PySem.W.fnOf "holder" "holder" (defArgs s14) (defBody s14) (defScope s14) .none kV14 dc14 pm14 an14 cd14 ct14), sl14⟩)
    (c14 : PySem.W.codeIn K cd14 "holder" = true)
    (k14 : PySem.W.keepIn K (.ref f14_) = true)
    (a15 : PySem.W.nsIn K mainGlobals "row" = some (some (.ref f15_)))
    (l15 : K.lookup f15_ = some ⟨oc15, od15, .func (PySem.W.fnOf "row" "row" (defArgs s15) (defBody s15) (defScope s15) .none kV15 dc15 pm15 an15 cd15 ct15), sl15⟩)
    (c15 : PySem.W.codeIn K cd15 "row" = true)
    (k15 : PySem.W.keepIn K (.ref f15_) = true)
    (a16 : PySem.W.nsIn K mainGlobals "periods" = some (some (.ref f16_)))
    (l16 : K.lookup f16_ = some ⟨oc16, od16, .func (PySem.W.fnOf "periods" "periods" (defArgs s16) (defBody s16) (defScope s16) .none kV16 dc16 pm16 an16 cd16 ct16), sl16⟩)
    (c16 : PySem.W.codeIn K cd16 "periods" = true)
    (k16 : PySem.W.keepIn K (.ref f16_) = true)
    (a17 : PySem.W.nsIn K mainGlobals "_law_cell" = some (some (.ref f17_)))
    (l17 : K.lookup f17_ = some ⟨oc17, od17, .func (PySem.W.fnOf "_law_cell" "_law_cell" (defArgs s17) (defBody s17) (defScope s17) .none kV17 dc17 pm17 an17 cd17 ct17), sl17⟩)
    (c17 : PySem.W.codeIn K cd17 "_law_cell" = true)
    (k17 : PySem.W.keepIn K (.ref f17_) = true)
    (a18 : PySem.W.nsIn K mainGlobals "_law_pen" = some (some (.ref f18_)))
    (l18 : K.lookup f18_ = some ⟨oc18, od18, .func (PySem.W.fnOf "_law_pen" "_law_pen" (defArgs s18) (defBody s18) (defScope s18) .none kV18 dc18 pm18 an18 cd18 ct18), sl18⟩)
    (c18 : PySem.W.codeIn K cd18 "_law_pen" = true)
    (k18 : PySem.W.keepIn K (.ref f18_) = true)
    (a19 : PySem.W.nsIn K mainGlobals "_law_draw" = some (some (.ref f19_)))
    (l19 : K.lookup f19_ = some ⟨oc19, od19, .func (PySem.W.fnOf "_law_draw" "_law_draw" (defArgs s19) (defBody s19) (defScope s19) .none kV19 dc19 pm19 an19 cd19 ct19), sl19⟩)
    (c19 : PySem.W.codeIn K cd19 "_law_draw" = true)
    (k19 : PySem.W.keepIn K (.ref f19_) = true)
    (a20 : PySem.W.nsIn K mainGlobals "_law_pick" = some (some (.ref f20_)))
    (l20 : K.lookup f20_ = some ⟨oc20, od20, .func (PySem.W.fnOf "_law_pick" "_law_pick" (defArgs s20) (defBody s20) (defScope s20) .none kV20 dc20 pm20 an20 cd20 ct20), sl20⟩)
    (c20 : PySem.W.codeIn K cd20 "_law_pick" = true)
    (k20 : PySem.W.keepIn K (.ref f20_) = true)
    (a21 : PySem.W.nsIn K mainGlobals "_law_same" = some (some (.ref f21_)))
    (l21 : K.lookup f21_ = some ⟨oc21, od21, .func (PySem.W.fnOf "_law_same" "_law_same" (defArgs s21) (defBody s21) (defScope s21) .none kV21 dc21 pm21 an21 cd21 ct21), sl21⟩)
    (c21 : PySem.W.codeIn K cd21 "_law_same" = true)
    (k21 : PySem.W.keepIn K (.ref f21_) = true)
    (a22 : PySem.W.nsIn K mainGlobals "_law_gcd" = some (some (.ref f22_)))
    (l22 : K.lookup f22_ = some ⟨oc22, od22, .func (PySem.W.fnOf "_law_gcd" "_law_gcd" (defArgs s22) (defBody s22) (defScope s22) .none kV22 dc22 pm22 an22 cd22 ct22), sl22⟩)
    (c22 : PySem.W.codeIn K cd22 "_law_gcd" = true)
    (k22 : PySem.W.keepIn K (.ref f22_) = true)
    (a23 : PySem.W.nsIn K mainGlobals "_law_lcm" = some (some (.ref f23_)))
    (l23 : K.lookup f23_ = some ⟨oc23, od23, .func (PySem.W.fnOf "_law_lcm" "_law_lcm" (defArgs s23) (defBody s23) (defScope s23) .none kV23 dc23 pm23 an23 cd23 ct23), sl23⟩)
    (c23 : PySem.W.codeIn K cd23 "_law_lcm" = true)
    (k23 : PySem.W.keepIn K (.ref f23_) = true)
    (a24 : PySem.W.nsIn K mainGlobals "_law_cut" = some (some (.ref f24_)))
    (l24 : K.lookup f24_ = some ⟨oc24, od24, .func (PySem.W.fnOf "_law_cut" "_law_cut" (defArgs s24) (defBody s24) (defScope s24) .none kV24 dc24 pm24 an24 cd24 ct24), sl24⟩)
    (c24 : PySem.W.codeIn K cd24 "_law_cut" = true)
    (k24 : PySem.W.keepIn K (.ref f24_) = true)
    (a25 : PySem.W.nsIn K mainGlobals "_law_plan" = some (some (.ref f25_)))
    (l25 : K.lookup f25_ = some ⟨oc25, od25, .func (PySem.W.fnOf "_law_plan" "_law_plan" (defArgs s25) (defBody s25) (defScope s25) .none kV25 dc25 pm25 an25 cd25 ct25), sl25⟩)
    (c25 : PySem.W.codeIn K cd25 "_law_plan" = true)
    (k25 : PySem.W.keepIn K (.ref f25_) = true)
    (a26 : PySem.W.nsIn K mainGlobals "_law_hard" = some (some (.ref f26_)))
    (l26 : K.lookup f26_ = some ⟨oc26, od26, .func (PySem.W.fnOf "_law_hard" "_law_hard" (defArgs s26) (defBody s26) (defScope s26) .none kV26 dc26 pm26 an26 cd26 ct26), sl26⟩)
    (c26 : PySem.W.codeIn K cd26 "_law_hard" = true)
    (k26 : PySem.W.keepIn K (.ref f26_) = true)
    (a27 : PySem.W.nsIn K mainGlobals "_law_shifted" = some (some (.ref f27_)))
    (l27 : K.lookup f27_ = some ⟨oc27, od27, .func (PySem.W.fnOf "_law_shifted" "_law_shifted" (defArgs s27) (defBody s27) (defScope s27) .none kV27 dc27 pm27 an27 cd27 ct27), sl27⟩)
    (c27 : PySem.W.codeIn K cd27 "_law_shifted" = true)
    (k27 : PySem.W.keepIn K (.ref f27_) = true)
    (a28 : PySem.W.nsIn K mainGlobals "_law_within" = some (some (.ref f28_)))
    (l28 : K.lookup f28_ = some ⟨oc28, od28, .func (PySem.W.fnOf "_law_within" "_law_within" (defArgs s28) (defBody s28) (defScope s28) .none kV28 dc28 pm28 an28 cd28 ct28), sl28⟩)
    (c28 : PySem.W.codeIn K cd28 "_law_within" = true)
    (k28 : PySem.W.keepIn K (.ref f28_) = true)
    (a29 : PySem.W.nsIn K mainGlobals "_law_hard_plan" = some (some (.ref f29_)))
    (l29 : K.lookup f29_ = some ⟨oc29, od29, .func (PySem.W.fnOf "_law_hard_plan" "_law_hard_plan" (defArgs s29) (defBody s29) (defScope s29) .none kV29 dc29 pm29 an29 cd29 ct29), sl29⟩)
    (c29 : PySem.W.codeIn K cd29 "_law_hard_plan" = true)
    (k29 : PySem.W.keepIn K (.ref f29_) = true)
    (a30 : PySem.W.nsIn K mainGlobals "_law_place" = some (some (.ref f30_)))
    (l30 : K.lookup f30_ = some ⟨oc30, od30, .func (PySem.W.fnOf "_law_place" "_law_place" (defArgs s30) (defBody s30) (defScope s30) .none kV30 dc30 pm30 an30 cd30 ct30), sl30⟩)
    (c30 : PySem.W.codeIn K cd30 "_law_place" = true)
    (k30 : PySem.W.keepIn K (.ref f30_) = true)
    (a31 : PySem.W.nsIn K mainGlobals "_law_right" = some (some (.ref f31_)))
    (l31 : K.lookup f31_ = some ⟨oc31, od31, .func (PySem.W.fnOf "_law_right" "_law_right" (defArgs s31) (defBody s31) (defScope s31) .none kV31 dc31 pm31 an31 cd31 ct31), sl31⟩)
    (c31 : PySem.W.codeIn K cd31 "_law_right" = true)
    (k31 : PySem.W.keepIn K (.ref f31_) = true)
    (a32 : PySem.W.nsIn K mainGlobals "law" = some (some (.ref f32_)))
    (l32 : K.lookup f32_ = some ⟨oc32, od32, .func (PySem.W.fnOf "law" "law" (defArgs s32) (defBody s32) (defScope s32) .none kV32 dc32 pm32 an32 cd32 ct32), sl32⟩)
    (c32 : PySem.W.codeIn K cd32 "law" = true)
    (k32 : PySem.W.keepIn K (.ref f32_) = true)
    (gc0 : PySem.W.nsIn K mainGlobals "LONGEST" = some (some (.int 5040 t0)))
    (gc1 : PySem.W.nsIn K mainGlobals "MOST_TURNS" = some (some (.int 40 t1)))
    (gc2 : PySem.W.nsIn K mainGlobals "MOST_ROW" = some (some (.int 500 t2)))
    (z0 : PySem.W.nsIn K mainGlobals "len" = some none)
    (z1 : PySem.W.nsIn K mainGlobals "sum" = some none)
    (z2 : PySem.W.nsIn K mainGlobals "max" = some none)
    (z3 : PySem.W.nsIn K mainGlobals "min" = some none)
    (z4 : PySem.W.nsIn K mainGlobals "all" = some none)
    (z5 : PySem.W.nsIn K mainGlobals "any" = some none)
    (z6 : PySem.W.nsIn K mainGlobals "int" = some none)
    (z7 : PySem.W.nsIn K mainGlobals "str" = some none)
    (z8 : PySem.W.nsIn K mainGlobals "repr" = some none)
    (z9 : PySem.W.nsIn K mainGlobals "tuple" = some none)
    (z10 : PySem.W.nsIn K mainGlobals "list" = some none)
    (z11 : PySem.W.nsIn K mainGlobals "bool" = some none)
    (z12 : PySem.W.nsIn K mainGlobals "abs" = some none)
    (z13 : PySem.W.nsIn K mainGlobals "sorted" = some none)
    (z14 : PySem.W.nsIn K mainGlobals "isinstance" = some none)
    (z15 : PySem.W.nsIn K mainGlobals "dict" = some none)
    (z16 : PySem.W.nsIn K mainGlobals "range" = some none)
    (z17 : PySem.W.nsIn K mainGlobals "enumerate" = some none)
    (z18 : PySem.W.nsIn K mainGlobals "zip" = some none)
    (z19 : PySem.W.nsIn K mainGlobals "set" = some none)
    (z20 : PySem.W.nsIn K mainGlobals "ValueError" = some none)
    (hlaw : ∀ ns : List Int, ns.length ≤ 63 → run tab 1000000 9 32 [.s (ns.map PyData.int)] = some (.ok (.v (.bool true)), [none])) :
    LawG l.prog w K 63 9 "_law_script" mg fa h := by
  have e := hfa.symm.trans (PySem.W.mg_of X G a32)
  cases e
  have F0 := fun_mk (st := s0) l0 c0 k0
  have F1 := fun_mk (st := s1) l1 c1 k1
  have F2 := fun_mk (st := s2) l2 c2 k2
  have F3 := fun_mk (st := s3) l3 c3 k3
  have F4 := fun_mk (st := s4) l4 c4 k4
  have F5 := fun_mk (st := s5) l5 c5 k5
  have F6 := fun_mk (st := s6) l6 c6 k6
  have F7 := fun_mk (st := s7) l7 c7 k7
  have F8 := fun_mk (st := s8) l8 c8 k8
  have F9 := fun_mk (st := s9) l9 c9 k9
  have F10 := fun_mk (st := s10) l10 c10 k10
  have F11 := fun_mk (st := s11) l11 c11 k11
  have F12 := fun_mk (st := s12) l12 c12 k12
  have F13 := fun_mk (st := s13) l13 c13 k13
  have F14 := fun_mk (st := s14) l14 c14 k14
  have F15 := fun_mk (st := s15) l15 c15 k15
  have F16 := fun_mk (st := s16) l16 c16 k16
  have F17 := fun_mk (st := s17) l17 c17 k17
  have F18 := fun_mk (st := s18) l18 c18 k18
  have F19 := fun_mk (st := s19) l19 c19 k19
  have F20 := fun_mk (st := s20) l20 c20 k20
  have F21 := fun_mk (st := s21) l21 c21 k21
  have F22 := fun_mk (st := s22) l22 c22 k22
  have F23 := fun_mk (st := s23) l23 c23 k23
  have F24 := fun_mk (st := s24) l24 c24 k24
  have F25 := fun_mk (st := s25) l25 c25 k25
  have F26 := fun_mk (st := s26) l26 c26 k26
  have F27 := fun_mk (st := s27) l27 c27 k27
  have F28 := fun_mk (st := s28) l28 c28 k28
  have F29 := fun_mk (st := s29) l29 c29 k29
  have F30 := fun_mk (st := s30) l30 c30 k30
  have F31 := fun_mk (st := s31) l31 c31 k31
  have F32 := fun_mk (st := s32) l32 c32 k32
  let L : List (Addr × Addr × Str) := []
  let exs : EX := { cl := fun _ => none, tb := L.map fun p => p.2, bt := fun _ => none, hx := none }
  have top : TopOk l.prog K mg tab (L.map fun p => (p.1, p.2.1)) exs := by
    refine ⟨fun k x d hk => ?_, fun x hx => ?_, fun f i hf => ?_, ?_, Nat.le_of_ble_eq_true rfl, fun f i hf hl => ?_, fun k i C hk ht hC => ?_⟩
    · match k, hk with
      | 0, hk => cases hk; exact ⟨_, .int _, PySem.W.mg_of X G gc0, ⟨_, rfl⟩, fun B => .int _⟩
      | 1, hk => cases hk; exact ⟨_, .int _, PySem.W.mg_of X G gc1, ⟨_, rfl⟩, fun B => .int _⟩
      | 2, hk => cases hk; exact ⟨_, .int _, PySem.W.mg_of X G gc2, ⟨_, rfl⟩, fun B => .int _⟩
      | _ + 3, hk => cases hk
    · simp only [biNames, List.mem_cons, List.not_mem_nil, or_false] at hx
      rcases hx with rfl | rfl | rfl | rfl | rfl | rfl | rfl | rfl | rfl | rfl | rfl | rfl | rfl | rfl | rfl | rfl | rfl | rfl | rfl | rfl | rfl
      · exact PySem.W.mg_none_of X G z0
      · exact PySem.W.mg_none_of X G z1
      · exact PySem.W.mg_none_of X G z2
      · exact PySem.W.mg_none_of X G z3
      · exact PySem.W.mg_none_of X G z4
      · exact PySem.W.mg_none_of X G z5
      · exact PySem.W.mg_none_of X G z6
      · exact PySem.W.mg_none_of X G z7
      · exact PySem.W.mg_none_of X G z8
      · exact PySem.W.mg_none_of X G z9
      · exact PySem.W.mg_none_of X G z10
      · exact PySem.W.mg_none_of X G z11
      · exact PySem.W.mg_none_of X G z12
      · exact PySem.W.mg_none_of X G z13
      · exact PySem.W.mg_none_of X G z14
      · exact PySem.W.mg_none_of X G z15
      · exact PySem.W.mg_none_of X G z16
      · exact PySem.W.mg_none_of X G z17
      · exact PySem.W.mg_none_of X G z18
      · exact PySem.W.mg_none_of X G z19
      · exact PySem.W.mg_none_of X G z20
    · match f, hf with
      | 0, hf => cases hf; exact ⟨s0, _, _, F0, PySem.W.mg_of X G a0, ⟨F0.binds (ps := f0.ps) (fun _ _ _ _ _ _ us hl => match us, hl with | [_], _ => rfl), (fun q hq => nomatch hq)⟩, sc0, ck0, fun z => absurd z (by decide)⟩
      | 1, hf => cases hf; exact ⟨s1, _, _, F1, PySem.W.mg_of X G a1, ⟨F1.binds (ps := f1.ps) (fun _ _ _ _ _ _ us hl => match us, hl with | [_, _, _], _ => rfl), (fun q hq => nomatch hq)⟩, sc1, ck1, fun z => absurd z (by decide)⟩
      | 2, hf => cases hf; exact ⟨s2, _, _, F2, PySem.W.mg_of X G a2, ⟨F2.binds (ps := f2.ps) (fun _ _ _ _ _ _ us hl => match us, hl with | [_, _], _ => rfl), (fun q hq => nomatch hq)⟩, sc2, ck2, fun z => absurd z (by decide)⟩
      | 3, hf => cases hf; exact ⟨s3, _, _, F3, PySem.W.mg_of X G a3, ⟨F3.binds (ps := f3.ps) (fun _ _ _ _ _ _ us hl => match us, hl with | [_], _ => rfl), (fun q hq => nomatch hq)⟩, sc3, ck3, fun z => absurd z (by decide)⟩
      | 4, hf => cases hf; exact ⟨s4, _, _, F4, PySem.W.mg_of X G a4, ⟨F4.binds (ps := f4.ps) (fun _ _ _ _ _ _ us hl => match us, hl with | [_], _ => rfl), (fun q hq => nomatch hq)⟩, sc4, ck4, fun z => absurd z (by decide)⟩
      | 5, hf => cases hf; exact ⟨s5, _, _, F5, PySem.W.mg_of X G a5, ⟨F5.binds (ps := f5.ps) (fun _ _ _ _ _ _ us hl => match us, hl with | [_], _ => rfl), (fun q hq => nomatch hq)⟩, sc5, ck5, fun z => absurd z (by decide)⟩
      | 6, hf => cases hf; exact ⟨s6, _, _, F6, PySem.W.mg_of X G a6, ⟨F6.binds (ps := f6.ps) (fun _ _ _ _ _ _ us hl => match us, hl with | [_], _ => rfl), (fun q hq => nomatch hq)⟩, sc6, ck6, fun z => absurd z (by decide)⟩
      | 7, hf => cases hf; exact ⟨s7, _, _, F7, PySem.W.mg_of X G a7, ⟨F7.binds (ps := f7.ps) (fun _ _ _ _ _ _ us hl => match us, hl with | [_, _], _ => rfl), (fun q hq => nomatch hq)⟩, sc7, ck7, fun z => absurd z (by decide)⟩
      | 8, hf => cases hf; exact ⟨s8, _, _, F8, PySem.W.mg_of X G a8, ⟨F8.binds (ps := f8.ps) (fun _ _ _ _ _ _ us hl => match us, hl with | [_, _], _ => rfl), (fun q hq => nomatch hq)⟩, sc8, ck8, fun z => absurd z (by decide)⟩
      | 9, hf => cases hf; exact ⟨s9, _, _, F9, PySem.W.mg_of X G a9, ⟨F9.binds (ps := f9.ps) (fun _ _ _ _ _ _ us hl => match us, hl with | [_], _ => rfl), (fun q hq => nomatch hq)⟩, sc9, ck9, fun z => absurd z (by decide)⟩
      | 10, hf => cases hf; exact ⟨s10, _, _, F10, PySem.W.mg_of X G a10, ⟨F10.binds (ps := f10.ps) (fun _ _ _ _ _ _ us hl => match us, hl with | [_, _], _ => rfl), (fun q hq => nomatch hq)⟩, sc10, ck10, fun z => absurd z (by decide)⟩
      | 11, hf => cases hf; exact ⟨s11, _, _, F11, PySem.W.mg_of X G a11, ⟨F11.binds (ps := f11.ps) (fun _ _ _ _ _ _ us hl => match us, hl with | [_], _ => rfl), (fun q hq => nomatch hq)⟩, sc11, ck11, fun z => absurd z (by decide)⟩
      | 12, hf => cases hf; exact ⟨s12, _, _, F12, PySem.W.mg_of X G a12, ⟨F12.binds (ps := f12.ps) (fun _ _ _ _ _ _ us hl => match us, hl with | [_], _ => rfl), (fun q hq => nomatch hq)⟩, sc12, ck12, fun z => absurd z (by decide)⟩
      | 13, hf => cases hf; exact ⟨s13, _, _, F13, PySem.W.mg_of X G a13, ⟨F13.binds (ps := f13.ps) (fun _ _ _ _ _ _ us hl => match us, hl with | [_, _], _ => rfl), (fun q hq => nomatch hq)⟩, sc13, ck13, fun z => absurd z (by decide)⟩
      | 14, hf => cases hf; exact ⟨s14, _, _, F14, PySem.W.mg_of X G a14, ⟨F14.binds (ps := f14.ps) (fun _ _ _ _ _ _ us hl => match us, hl with | [_, _], _ => rfl), (fun q hq => nomatch hq)⟩, sc14, ck14, fun z => absurd z (by decide)⟩
      | 15, hf => cases hf; exact ⟨s15, _, _, F15, PySem.W.mg_of X G a15, ⟨F15.binds (ps := f15.ps) (fun _ _ _ _ _ _ us hl => match us, hl with | [_, _, _], _ => rfl), (fun q hq => nomatch hq)⟩, sc15, ck15, fun z => absurd z (by decide)⟩
      | 16, hf => cases hf; exact ⟨s16, _, _, F16, PySem.W.mg_of X G a16, ⟨F16.binds (ps := f16.ps) (fun _ _ _ _ _ _ us hl => match us, hl with | [_], _ => rfl), (fun q hq => nomatch hq)⟩, sc16, ck16, fun z => absurd z (by decide)⟩
      | 17, hf => cases hf; exact ⟨s17, _, _, F17, PySem.W.mg_of X G a17, ⟨F17.binds (ps := f17.ps) (fun _ _ _ _ _ _ us hl => match us, hl with | [_, _], _ => rfl), (fun q hq => nomatch hq)⟩, sc17, ck17, fun z => absurd z (by decide)⟩
      | 18, hf => cases hf; exact ⟨s18, _, _, F18, PySem.W.mg_of X G a18, ⟨F18.binds (ps := f18.ps) (fun _ _ _ _ _ _ us hl => match us, hl with | [_], _ => rfl), (fun q hq => nomatch hq)⟩, sc18, ck18, fun z => absurd z (by decide)⟩
      | 19, hf => cases hf; exact ⟨s19, _, _, F19, PySem.W.mg_of X G a19, ⟨F19.binds (ps := f19.ps) (fun _ _ _ _ _ _ us hl => match us, hl with | [_, _], _ => rfl), (fun q hq => nomatch hq)⟩, sc19, ck19, fun z => absurd z (by decide)⟩
      | 20, hf => cases hf; exact ⟨s20, _, _, F20, PySem.W.mg_of X G a20, ⟨F20.binds (ps := f20.ps) (fun _ _ _ _ _ _ us hl => match us, hl with | [_, _], _ => rfl), (fun q hq => nomatch hq)⟩, sc20, ck20, fun z => absurd z (by decide)⟩
      | 21, hf => cases hf; exact ⟨s21, _, _, F21, PySem.W.mg_of X G a21, ⟨F21.binds (ps := f21.ps) (fun _ _ _ _ _ _ us hl => match us, hl with | [_, _], _ => rfl), (fun q hq => nomatch hq)⟩, sc21, ck21, fun z => absurd z (by decide)⟩
      | 22, hf => cases hf; exact ⟨s22, _, _, F22, PySem.W.mg_of X G a22, ⟨F22.binds (ps := f22.ps) (fun _ _ _ _ _ _ us hl => match us, hl with | [_, _], _ => rfl), (fun q hq => nomatch hq)⟩, sc22, ck22, fun z => absurd z (by decide)⟩
      | 23, hf => cases hf; exact ⟨s23, _, _, F23, PySem.W.mg_of X G a23, ⟨F23.binds (ps := f23.ps) (fun _ _ _ _ _ _ us hl => match us, hl with | [_], _ => rfl), (fun q hq => nomatch hq)⟩, sc23, ck23, fun z => absurd z (by decide)⟩
      | 24, hf => cases hf; exact ⟨s24, _, _, F24, PySem.W.mg_of X G a24, ⟨F24.binds (ps := f24.ps) (fun _ _ _ _ _ _ us hl => match us, hl with | [_, _, _], _ => rfl), (fun q hq => nomatch hq)⟩, sc24, ck24, fun z => absurd z (by decide)⟩
      | 25, hf => cases hf; exact ⟨s25, _, _, F25, PySem.W.mg_of X G a25, ⟨F25.binds (ps := f25.ps) (fun _ _ _ _ _ _ us hl => match us, hl with | [_, _, _], _ => rfl), (fun q hq => nomatch hq)⟩, sc25, ck25, fun z => absurd z (by decide)⟩
      | 26, hf => cases hf; exact ⟨s26, _, _, F26, PySem.W.mg_of X G a26, ⟨F26.binds (ps := f26.ps) (fun _ _ _ _ _ _ us hl => match us, hl with | [], _ => rfl), (fun q hq => nomatch hq)⟩, sc26, ck26, fun z => absurd z (by decide)⟩
      | 27, hf => cases hf; exact ⟨s27, _, _, F27, PySem.W.mg_of X G a27, ⟨F27.binds (ps := f27.ps) (fun _ _ _ _ _ _ us hl => match us, hl with | [_, _], _ => rfl), (fun q hq => nomatch hq)⟩, sc27, ck27, fun z => absurd z (by decide)⟩
      | 28, hf => cases hf; exact ⟨s28, _, _, F28, PySem.W.mg_of X G a28, ⟨F28.binds (ps := f28.ps) (fun _ _ _ _ _ _ us hl => match us, hl with | [_, _, _], _ => rfl), (fun q hq => nomatch hq)⟩, sc28, ck28, fun z => absurd z (by decide)⟩
      | 29, hf => cases hf; exact ⟨s29, _, _, F29, PySem.W.mg_of X G a29, ⟨F29.binds (ps := f29.ps) (fun _ _ _ _ _ _ us hl => match us, hl with | [_], _ => rfl), (fun q hq => nomatch hq)⟩, sc29, ck29, fun z => absurd z (by decide)⟩
      | 30, hf => cases hf; exact ⟨s30, _, _, F30, PySem.W.mg_of X G a30, ⟨F30.binds (ps := f30.ps) (fun _ _ _ _ _ _ us hl => match us, hl with | [_, _], _ => rfl), (fun q hq => nomatch hq)⟩, sc30, ck30, fun z => absurd z (by decide)⟩
      | 31, hf => cases hf; exact ⟨s31, _, _, F31, PySem.W.mg_of X G a31, ⟨F31.binds (ps := f31.ps) (fun _ _ _ _ _ _ us hl => match us, hl with | [_, _, _], _ => rfl), (fun q hq => nomatch hq)⟩, sc31, ck31, fun z => absurd z (by decide)⟩
      | 32, hf => cases hf; exact ⟨s32, _, _, F32, PySem.W.mg_of X G a32, ⟨F32.binds (ps := f32.ps) (fun _ _ _ _ _ _ us hl => match us, hl with | [_], _ => rfl), (fun q hq => nomatch hq)⟩, sc32, ck32, fun z => absurd z (by decide)⟩
      | _ + 33, hf => cases hf
    · exact ⟨fun k i z => (nomatch z), fun k j C D z => (nomatch z), fun k C z => (nomatch z), fun k C z => (nomatch z), fun k C z => (nomatch z)⟩
    · exfalso; match f, hf with
      | 0, hf => cases hf; exact absurd hl (by decide)
      | 1, hf => cases hf; exact absurd hl (by decide)
      | 2, hf => cases hf; exact absurd hl (by decide)
      | 3, hf => cases hf; exact absurd hl (by decide)
      | 4, hf => cases hf; exact absurd hl (by decide)
      | 5, hf => cases hf; exact absurd hl (by decide)
      | 6, hf => cases hf; exact absurd hl (by decide)
      | 7, hf => cases hf; exact absurd hl (by decide)
      | 8, hf => cases hf; exact absurd hl (by decide)
      | 9, hf => cases hf; exact absurd hl (by decide)
      | 10, hf => cases hf; exact absurd hl (by decide)
      | 11, hf => cases hf; exact absurd hl (by decide)
      | 12, hf => cases hf; exact absurd hl (by decide)
      | 13, hf => cases hf; exact absurd hl (by decide)
      | 14, hf => cases hf; exact absurd hl (by decide)
      | 15, hf => cases hf; exact absurd hl (by decide)
      | 16, hf => cases hf; exact absurd hl (by decide)
      | 17, hf => cases hf; exact absurd hl (by decide)
      | 18, hf => cases hf; exact absurd hl (by decide)
      | 19, hf => cases hf; exact absurd hl (by decide)
      | 20, hf => cases hf; exact absurd hl (by decide)
      | 21, hf => cases hf; exact absurd hl (by decide)
      | 22, hf => cases hf; exact absurd hl (by decide)
      | 23, hf => cases hf; exact absurd hl (by decide)
      | 24, hf => cases hf; exact absurd hl (by decide)
      | 25, hf => cases hf; exact absurd hl (by decide)
      | 26, hf => cases hf; exact absurd hl (by decide)
      | 27, hf => cases hf; exact absurd hl (by decide)
      | 28, hf => cases hf; exact absurd hl (by decide)
      | 29, hf => cases hf; exact absurd hl (by decide)
      | 30, hf => cases hf; exact absurd hl (by decide)
      | 31, hf => cases hf; exact absurd hl (by decide)
      | 32, hf => cases hf; exact absurd hl (by decide)
      | _ + 33, hf => cases hf
    · exact nomatch hk
  refine ⟨_, L.map fun p => (p.1, p.2.1), exs, run tab 1000000 9 32, ?_, ?_, ?_, tabs_q1 (L := L) .nil, tabs_q2 (L := L), fun s v => .of_eq rfl, fun base _ _ hT => all_G top hT 9 32 f32 rfl F32 (PySem.W.mg_of X G a32) sc32 ck32 (fun z => absurd z (by decide)), hlaw⟩
  · intro p hp
    simp only [L, List.map_cons, List.map_nil, List.mem_cons, List.not_mem_nil, or_false] at hp
  · intro p hp
    simp only [L, List.map_cons, List.map_nil, List.mem_cons, List.not_mem_nil, or_false] at hp
  · intro p hp
    simp only [L, List.map_cons, List.map_nil, List.mem_cons, List.not_mem_nil, or_false] at hp
end Law

namespace Law
open Z
open PySem (PyData)
theorem is_between_i {x a b : Int} : F_is_between x a b = ok (decide (a ≤ x) && decide (x ≤ b)) := rfl
theorem common_part_ok {fu : Nat} {a b : Int} (ha : 0 ≤ a) (hb : 0 ≤ b) (hf : b.toNat < fu) : F_common_part fu a b = ok ((Int.gcd a b : Nat) : Int) := by
  unfold F_common_part
  refine Ok.eq ?_
  refine (Ok.whlP (J := fun (s : Int × Int) => 0 ≤ s.1 ∧ 0 ≤ s.2 ∧ Int.gcd s.1 s.2 = Int.gcd a b) (T := fun (s : Int × Int) => decide (0 < s.2)) (μ := fun (s : Int × Int) => s.2.toNat) (fun s _ => rfl) ?_ ⟨ha, hb, rfl⟩ hf).bd ?_
  · rintro ⟨x, y⟩ ⟨h1, h2, h3⟩ h4
    have h4 : 0 < y := of_decide_eq_true h4
    show Ok (bd (modP x y) _) _
    rw [modP_ok h4, bd_ok]
    have e1 := Int.emod_nonneg x (show y ≠ 0 by omega)
    have e2 := Int.emod_lt_of_pos x h4
    exact .mk ⟨⟨h2, e1, by rw [← h3]; exact gcd_step⟩, show (x % y).toNat < y.toNat by omega⟩
  · rintro ⟨x, y⟩ ⟨⟨h1, h2, h3⟩, h4⟩
    have h4 : ¬ 0 < y := of_decide_eq_false h4
    have : y = 0 := by omega
    subst this
    refine .mk ?_
    show x = _
    rw [← h3, Int.gcd_zero]
    omega
theorem round_by_ok {fu : Nat} {xs : List Int} (hx : ∀ x, x ∈ xs → 0 < x ∧ x < 1000000) (hf : 1000000 ≤ fu) : F_round_by fu xs = ok (lcmL xs) := by
  unfold F_round_by
  have key : ∀ (xs : List Int) (a : Int), (∀ x, x ∈ xs → 0 < x ∧ x < 1000000) → 0 < a → forS (fun number1 (s2 : Int) => bd (mulP s2 number1) fun r3 => bd (F_common_part fu s2 number1) fun r4 => bd (divP r3 r4) fun found5 => ok found5) xs a = ok (xs.foldl lcmI a) := by
    intro xs
    induction xs with
    | nil => intro a _ _; rfl
    | cons x xs ih =>
      intro a h ha
      obtain ⟨h1, h2⟩ := h x List.mem_cons_self
      have g := gcd_pos (a := a) h1
      have g2 : ((Int.gcd a x : Nat) : Int) ≤ x := Int.gcd_le_right _ h1
      unfold forS
      rw [mulP_r (by omega) (by omega), bd_ok, common_part_ok (by omega) (by omega) (by omega), bd_ok, divP_ok g (by omega), bd_ok, bd_ok]
      exact ih (lcmI a x) (fun y hy => h y (List.mem_cons_of_mem _ hy)) (lcmI_pos ha h1)
  rw [key xs 1 hx (by decide), bd_ok]
  rfl
theorem is_turn_ok {t : Int × Int} (h : Trn t) (h2 : t.2 ≤ 5040) : F_is_turn t = ok true := by
  unfold F_is_turn
  have := h.1
  have := h.2
  simp only [is_between_i, bd_ok, bd_ret, Bool.not_true, if_false, Bool.false_eq_true, decide_true, Bool.not_true, show (1 : Int) ≤ t.2 from by omega, h2, show 0 ≤ t.1 from by omega, show t.1 ≤ t.2 - 1 from by omega, Bool.and_self]
theorem all_true {α : Type} : ∀ xs : List α, ((xs.map fun _ => true).all id) = true
  | [] => rfl
  | x :: xs => by rw [List.map_cons, List.all_cons, all_true xs]; rfl
theorem is_family_ok {fu : Nat} {c : List (Int × Int)} (h : Good c) (hf : 1000000 ≤ fu) : F_is_family fu c = ok true := by
  unfold F_is_family
  have l := h.len
  have l2 : (List.zip c (cutA c (some 1) none)).length ≤ 16000000 := by
    rw [List.length_zip]; omega
  have hm : mapP (fun one_3 => bd (F_is_turn one_3) fun r5 => ok (some r5)) [] c = ok (c.map fun _ => true) := mapP_sz (fun t ht => by rw [is_turn_ok (h.trn t ht) (h.per ht).2, bd_ok]) (by omega)
  have hr : F_round_by fu (c.map fun y => y.2) = ok (lcmL (prs c)) := round_by_ok (fun x hx => by
    obtain ⟨t, ht, rfl⟩ := List.mem_map.mp hx
    have := h.per ht
    omega) hf
  have ha := asc_adj h.asc
  simp only [hm, bd_ok, bd_ret, Bool.not_true, if_false, Bool.false_eq_true, show ¬ (40 : Int) < (c.length : Int) from by omega, decide_false, mapT_sz l2, ha, mapT_sz (show c.length ≤ 16000000 by omega), hr, h.rnd, decide_true, all_true]
theorem lowest_same {fu : Nat} {w : Int} (h0 : 0 < w) (h1 : w < 1000000) (hf : 1000000 ≤ fu) : F_lowest fu w w = ok (1, 1) := by
  unfold F_lowest
  have : ((Int.gcd w w : Nat) : Int) = w := by rw [Int.gcd_self]; omega
  simp only [common_part_ok (show 0 ≤ w by omega) (show 0 ≤ w by omega) (show w.toNat < fu by omega), this, divP_ok h0 (show w < 2 ^ 62 by omega), bd_ok, Int.ediv_self (show w ≠ 0 by omega)]
theorem weight_one {fu : Nat} {c : List (Int × Int)} (h : Good c) (hf : 1000000 ≤ fu) : F_weight_by fu (prs c) = ok (1, 1) := by
  unfold F_weight_by
  have hp := prs_pos h.trn
  have l := h.len
  have hl : (prs c).length = c.length := List.length_map _
  have hb : ∀ x, x ∈ prs c → 0 < x ∧ x ≤ 5040 := fun x hx => by
    obtain ⟨t, ht, rfl⟩ := List.mem_map.mp hx
    exact h.per ht
  have w0 := lcmL_pos hp
  have w1 := h.rnd
  have hm : mapP (fun number2 => bd (divP (lcmL (prs c)) number2) fun r4 => ok (some r4)) [] (prs c) = ok ((prs c).map fun x => lcmL (prs c) / x) := mapP_sz (fun x hx => by
    have := hb x hx
    rw [divP_ok (by omega) (by omega), bd_ok]) (by omega)
  have hs : ((prs c).map fun x => lcmL (prs c) / x).sum = lcmL (prs c) := by
    have := cov_shares h.toCov (W := lcmL (prs c)) (by omega) fun t ht => dvd_lcmL hp (List.mem_map.mpr ⟨t, ht, rfl⟩)
    unfold prs at this ⊢
    rw [List.map_map]
    exact this
  rw [round_by_ok (fun x hx => by have := hb x hx; omega) hf, bd_ok, hm, bd_ok, hs, lowest_same w0 (by omega) hf]
  rfl
theorem do_meet_ok {fu : Nat} {a b : Int × Int} (ha : Trn a) (hb : Trn b) (l : b.2 < 1000000) (hf : 1000000 ≤ fu) : F_do_meet fu a b = ok (meets a b) := by
  unfold F_do_meet
  have := ha.1
  have := ha.2
  have := hb.1
  have := hb.2
  rw [common_part_ok (by omega) (by omega) (by omega), bd_ok, modP_ok (gcd_pos (by omega)), bd_ok]
  rfl
theorem is_cover_ok {fu : Nat} {c : List (Int × Int)} (h : Good c) (hf : 1000000 ≤ fu) : F_is_cover fu c = ok true := by
  unfold F_is_cover
  have l := h.len
  have hw := weight_one h hf
  have e : c.map (fun y => y.2) = prs c := rfl
  have hn := h.nomeet
  have q : comp2P (fun y6 => ok (cutA c none (some y6.1))) (fun y6 other8 => bd (F_do_meet fu y6.2 other8) fun r9 => ok (some r9)) [] (enumI 0 c) = ok ([] ++ (enumI 0 c).flatMap fun (x : Int × (Int × Int)) => (cutA c none (some x.1)).filterMap fun y => some (meets x.2 y)) := by
    refine comp2P_ok (S := fun (x : Int × (Int × Int)) => cutA c none (some x.1)) (h := fun x y => some (meets x.2 y)) (fun x _ => rfl) (fun x hx y hy => ?_) ?_
    · obtain ⟨j, h1, h2⟩ := enumI_mem hx
      rw [cutA_to (by omega)] at hy
      have m1 : x.2 ∈ c := List.mem_of_getElem? h2
      have m2 : y ∈ c := List.mem_of_mem_take hy
      have := h.per m2
      rw [do_meet_ok (h.trn _ m1) (h.trn _ m2) (by omega) hf, bd_ok]
    · refine Nat.le_trans ?_ line_big
      have : ∀ (xs : List (Int × (Int × Int))), (xs.flatMap fun x => cutA c none (some x.1)).length ≤ xs.length * c.length := by
        intro xs
        induction xs with
        | nil => simp
        | cons x xs ih =>
          rw [List.flatMap_cons, List.length_append, List.length_cons, Nat.succ_mul]
          have : (cutA c none (some x.1)).length ≤ c.length := by
            unfold cutA
            rw [List.length_take, List.length_drop]
            omega
          omega
      have h1 := this (enumI 0 c)
      rw [enumI_len] at h1
      have h2 : c.length * c.length ≤ 40 * 40 := Nat.mul_le_mul l l
      show 0 + _ ≤ _
      omega
  have q2 : ((enumI 0 c).flatMap fun x => (cutA c none (some x.1)).filterMap fun y => some (meets x.2 y)).any id = false := by
    rw [List.any_eq_false]
    intro b hb
    obtain ⟨x, hx, hb⟩ := List.mem_flatMap.mp hb
    obtain ⟨y, hy, e⟩ := List.mem_filterMap.mp hb
    cases e
    obtain ⟨j, h1, h2⟩ := enumI_mem hx
    rw [cutA_to (by omega)] at hy
    obtain ⟨i, hi⟩ := List.mem_iff_getElem?.mp hy
    rw [List.getElem?_take] at hi
    split at hi
    · rename_i hlt
      have lj : j < c.length := by
        rcases Nat.lt_or_ge j c.length with z | z
        · exact z
        · rw [List.getElem?_eq_none z] at h2; cases h2
      have li : i < c.length := by omega
      have := List.pairwise_iff_getElem.mp hn i j li lj (by omega)
      rw [List.getElem?_eq_getElem li] at hi
      rw [List.getElem?_eq_getElem lj] at h2
      cases hi
      have h2 := Option.some.inj h2
      rw [h2, meets_comm] at this
      rw [this]
      exact fun z => nomatch z
    · cases hi
  simp only [is_family_ok h hf, bd_ok, bd_ret, Bool.not_true, Bool.false_eq_true, if_false, mapT_sz (show c.length ≤ 16000000 by omega), e, hw, decide_true, q, q2, List.nil_append, Bool.not_false]
theorem need_cover_ok {fu : Nat} {c : List (Int × Int)} (h : Good c) (hf : 1000000 ≤ fu) : F_need_cover fu c = ok () := by
  unfold F_need_cover
  rw [is_cover_ok h hf]
  rfl
theorem pen_ok (c : Int) : Ok (FL_pen c) Pen := by
  refine ⟨_, rfl, _, _, _, rfl, ?_, ?_⟩ <;> omega
theorem draw_ok {p : List Int} (hp : Pen p) {m : Int} (h0 : 0 < m) (h1 : m < 2 ^ 62) : Ok (FL_draw p m) fun r => 0 ≤ r.1 ∧ r.1 < m ∧ Pen r.2 := by
  obtain ⟨a, b, c, rfl, hb0, hb1⟩ := hp
  unfold FL_draw
  simp only [at30, at31, at32, set30, set31, set32, bd_ok]
  by_cases ha : 0 < a
  · simp only [ha, decide_true, if_true, modP_ok h0, divP_ok h0 h1, bd_ok, set30]
    exact .mk ⟨Int.emod_nonneg _ (by omega), Int.emod_lt_of_pos _ h0, _, _, _, rfl, hb0, hb1⟩
  · simp only [ha, decide_false, Bool.false_eq_true, if_false]
    have q1 := Int.emod_nonneg (b * 48271 + 1009 * (c + 1) + 7) (show (2147483647 : Int) ≠ 0 by decide)
    have q2 := Int.emod_lt_of_pos (b * 48271 + 1009 * (c + 1) + 7) (show (0 : Int) < 2147483647 by decide)
    generalize (b * 48271 + 1009 * (c + 1) + 7) % 2147483647 = b' at q1 q2
    rw [mulP_r (by omega) (by omega), bd_ok]
    have s1 := Int.emod_nonneg (b' * b' + 69621 * b' + 11) (show (2147483629 : Int) ≠ 0 by decide)
    have s2 := Int.emod_lt_of_pos (b' * b' + 69621 * b' + 11) (show (0 : Int) < 2147483629 by decide)
    generalize (b' * b' + 69621 * b' + 11) % 2147483629 = s at s1 s2
    rw [mulP_r (by omega) (by omega), bd_ok, modP_ok h0, bd_ok]
    exact .mk ⟨Int.emod_nonneg _ (by omega), Int.emod_lt_of_pos _ h0, _, _, _, rfl, q1, by omega⟩
theorem pick_ok {p : List Int} (hp : Pen p) {xs : List Int} (h : xs ≠ []) (l : xs.length < 100000) : Ok (FL_pick p xs) fun r => r.1 ∈ xs ∧ Pen r.2 := by
  unfold FL_pick
  have := List.length_pos_iff.mpr h
  refine (draw_ok hp (m := (xs.length : Int)) (by omega) (by omega)).nx.bd ?_
  rintro ⟨v, p'⟩ ⟨h0, h1, h2⟩
  dsimp only at h0 h1 h2 ⊢
  rw [atP_ok h0 h1, bd_ok]
  exact .mk ⟨List.getElem_mem _, h2⟩
theorem cell_ok {ns : List Int} {k : Int} (h0 : 0 ≤ k) : Ok (FL_cell ns k) fun _ => True := by
  unfold FL_cell
  by_cases h : k < (ns.length : Int)
  · rw [decide_eq_true h, if_pos rfl, atP_ok h0 h]
    exact .mk trivial
  · rw [decide_eq_false h, if_neg Bool.false_ne_true]
    exact .mk trivial
theorem mem_pcs {t s : Int × Int} {m : Nat} (h : s ∈ pcs t m) : s.2 = (m : Int) * t.2 := by
  obtain ⟨i, _, rfl⟩ := List.mem_map.mp h
  rfl
theorem lcm_ok {fu : Nat} {xs : List Int} (hx : ∀ x, x ∈ xs → 0 < x ∧ x < 1000000) (hf : 1000000 ≤ fu) : FL_lcm fu xs = ok (lcmL xs) := round_by_ok hx hf
theorem hold_ok (t : Int × Int) (n : Int) (h : 0 < t.2) : F_does_hold t n = ok (hold t n) := by
  unfold F_does_hold
  rw [modP_ok h, bd_ok]
  rfl
/-- what is to be told of two turns -/
def Told (a b : Int × Int) (o : Option (Int × Int)) : Prop := (meets a b = false → o = none) ∧ (meets a b = true → ∃ x, o = some (x, lcmI a.2 b.2) ∧ 0 ≤ x ∧ x < lcmI a.2 b.2 ∧ hold a x = true ∧ hold b x = true)
theorem Told.one {a b : Int × Int} (ha : Trn a) (hb : Trn b) {o o' : Option (Int × Int)} (h : Told a b o) (h' : Told a b o') : o = o' := by
  cases q : meets a b with
  | false => rw [h.1 q, h'.1 q]
  | true =>
    obtain ⟨x, rfl, x0, x1, x2, x3⟩ := h.2 q
    obtain ⟨y, rfl, y0, y1, y2, y3⟩ := h'.2 q
    rw [meet_same ha hb x0 x1 y0 y1 x2 x3 y2 y3]
theorem cut_big {c : List (Int × Int)} {spot m : Int} (s0 : 0 ≤ spot) (s1 : spot < c.length) (m0 : 1 ≤ m) (m1 : m ≤ 100) (hc : Good c) (hl : c.length ≤ 40) : Ok (FL_cut c spot m) fun r => ∃ d, r = sortP d ∧ d = (c.take spot.toNat ++ c.drop (spot + 1).toNat) ++ pcs (c.getD spot.toNat (0, 1)) m.toNat ∧ Cov d ∧ (d.length : Int) = c.length + m - 1 ∧ ∀ t, t ∈ d → t.2 ≤ 504000 := by
  unfold FL_cut
  have hat := atP_ok (xs := c) s0 s1
  have htm : c[spot.toNat]'(by omega) ∈ c := List.getElem_mem _
  generalize ht : c[spot.toNat]'(by omega) = t at hat htm
  have trn := hc.trn t htm
  have per := hc.per htm
  have lp : (pcs t m.toNat).length = m.toNat := by unfold pcs; rw [List.length_map, rng_len]
  have lt : (c.take spot.toNat).length = spot.toNat := by rw [List.length_take]; omega
  have ld : (c.drop (spot + 1).toNat).length = c.length - (spot + 1).toNat := List.length_drop
  rw [hat, bd_ok, rgP_ok (by decide) (by decide) (by omega) (by omega), bd_ok]
  have hm : mapP (fun at_3 => bd (mulP at_3 t.2) fun r5 => bd (mulP m t.2) fun r6 => ok (some ((t.1 + r5), r6))) [] (rngI 0 (m - 0).toNat) = ok (pcs t m.toNat) := by
    rw [mapP_sz (h := fun i => (t.1 + i * t.2, m * t.2)) (fun x hx => by rw [mulP_r (by omega) (by omega), bd_ok, mulP_r (by omega) (by omega), bd_ok]) (by rw [rng_len]; omega), Int.sub_zero]
    unfold pcs
    rw [Int.toNat_of_nonneg (by omega)]
  rw [hm, bd_ok, cutA_to s0, cutA_from (by omega), addP_ok (by omega), bd_ok, addP_ok (by rw [List.length_append]; omega), bd_ok]
  have ec : c = c.take spot.toNat ++ t :: c.drop (spot + 1).toNat := by
    rw [show (spot + 1).toNat = spot.toNat + 1 by omega, ← ht, List.getElem_cons_drop, List.take_append_drop]
  have hs := (ec ▸ hc.toCov : Cov (c.take spot.toNat ++ t :: c.drop (spot + 1).toNat)).split (m := m.toNat) (by omega)
  refine .mk ⟨_, rfl, by rw [List.getD_eq_getElem?_getD, List.getElem?_eq_getElem (by omega), ht]; rfl, hs.perm ?_, ?_, ?_⟩
  · rw [List.append_assoc]
    exact List.Perm.append_left _ List.perm_append_comm
  · rw [List.length_append, List.length_append]
    omega
  · intro s hs
    rcases List.mem_append.mp hs with hs | hs
    · have : s ∈ c := by
        rcases List.mem_append.mp hs with hs | hs
        · exact List.mem_of_mem_take hs
        · exact List.mem_of_mem_drop hs
      have := hc.per this
      omega
    · rw [mem_pcs hs, Int.toNat_of_nonneg (by omega)]
      have : m * t.2 ≤ 100 * t.2 := Int.mul_le_mul_of_nonneg_right m1 (by omega)
      omega
theorem plan_big {fu : Nat} {p : List Int} (hp : Pen p) {most far : Int} (h1 : 1 ≤ most) (h2 : most ≤ 14) (h3 : 1 ≤ far) (h4 : far ≤ 120) (hf : 1000000 ≤ fu) : Ok (FL_plan fu p most far) fun r => Good r.1 ∧ Pen r.2 ∧ (r.1.length : Int) ≤ most ∧ lcmL (prs r.1) ≤ far := by
  unfold FL_plan
  rw [bd_ok]
  refine (draw_ok hp (m := 5) (by decide) (by decide)).nx.bd ?_
  rintro ⟨v, p1⟩ ⟨v0, v1, hp1⟩
  dsimp only at v0 v1 hp1 ⊢
  rw [rgP_ok (by decide) (by decide) (by omega) (by omega), bd_ok]
  refine (Ok.forS (J := fun s : List Int × List (Int × Int) => Pen s.1 ∧ Good s.2 ∧ (s.2.length : Int) ≤ most ∧ lcmL (prs s.2) ≤ far) ?_ (show Pen p1 ∧ Good [(0, 1)] ∧ _ from ⟨hp1, good_by (W := 1) (by decide) (by decide) (by decide +kernel), h1, h3⟩)).bd ?_
  · rintro lap _ ⟨q, c⟩ ⟨hq, hc, hlen, hfar⟩
    dsimp only at hq hc hlen hfar ⊢
    have hpos : 0 < c.length := List.length_pos_iff.mpr hc.toCov.ne_nil
    refine (draw_ok hq (m := (c.length : Int)) (by omega) (by omega)).nx.bd ?_
    rintro ⟨at_, q1⟩ ⟨a0, a1, hq1⟩
    dsimp only at a0 a1 hq1 ⊢
    refine (pick_ok hq1 (xs := [2, 2, 3, 2, 4, 5]) (by decide) (by decide)).nx.bd ?_
    rintro ⟨m, q2⟩ ⟨m0, hq2⟩
    dsimp only at m0 hq2 ⊢
    have hm : m = 2 ∨ m = 3 ∨ m = 4 ∨ m = 5 := by
      rcases (by simpa using m0 : m = 2 ∨ m = 3 ∨ m = 2 ∨ m = 4 ∨ m = 5) with h | h | h | h | h <;> omega
    by_cases l1 : (c.length : Int) + m - 1 ≤ most
    · rw [decide_eq_true l1, if_pos rfl]
      refine (cut_big a0 a1 (by omega) (by omega) hc (by omega)).bd ?_
      rintro _ ⟨d, rfl, _, hd, ld, hb⟩
      have lsd : (sortP d).length = d.length := (sortP_perm d).length_eq
      have hds : Cov (sortP d) := hd.perm (sortP_perm d).symm
      rw [mapT_sz (by omega), bd_ok]
      have e : ((sortP d).map fun y => y.2) = prs (sortP d) := rfl
      rw [e, lcm_ok (fun x hx => by
        obtain ⟨t, ht, rfl⟩ := List.mem_map.mp hx
        have := hb t ((sortP_perm d).mem_iff.mp ht)
        have := (hds.trn t ht).1
        have := (hds.trn t ht).2
        omega) hf, bd_ok]
      by_cases l2 : lcmL (prs (sortP d)) ≤ far
      · rw [decide_eq_true l2, if_pos rfl, bd_ok]
        refine .mk ⟨hq2, good_sort hd (by omega) ?_, by rw [lsd, ld]; exact l1, l2⟩
        have := lcmL_le (prs_pos hd.trn) (lcmL_pos (prs_pos hds.trn)) fun x hx => by
          obtain ⟨t, ht, rfl⟩ := List.mem_map.mp hx
          exact dvd_lcmL (prs_pos hds.trn) (List.mem_map.mpr ⟨t, (sortP_perm d).mem_iff.mpr ht, rfl⟩)
        omega
      · rw [decide_eq_false l2, if_neg Bool.false_ne_true, bd_ok]
        exact .mk ⟨hq2, hc, hlen, hfar⟩
    · rw [decide_eq_false l1, if_neg Bool.false_ne_true]
      exact .mk ⟨hq2, hc, hlen, hfar⟩
  · rintro ⟨q, c⟩ ⟨hq, hc, hlen, hfar⟩
    exact .mk ⟨hc, hq, hlen, hfar⟩
def shB (b : Nat) : Bool :=
  match FL_hard with
  | some (.ok c) => match FL_shifted c (b : Int) with
    | some (.ok d) => covB 30 d && decide (d.length ≤ 36)
    | _ => false
  | _ => false
theorem sh_all : (List.range 30).all shB = true := by decide +kernel
theorem shifted_ok {b : Int} (h0 : 0 ≤ b) (h1 : b < 30) : ∃ c, FL_hard = ok c ∧ ∃ d, FL_shifted c b = ok d ∧ Cov d ∧ d.length ≤ 36 ∧ ∀ t, t ∈ d → t.2 ∣ 30 := by
  have h := List.all_eq_true.mp sh_all b.toNat (List.mem_range.mpr (by omega))
  unfold shB at h
  rw [Int.toNat_of_nonneg h0] at h
  split at h
  · rename_i c e
    split at h
    · rename_i d e2
      rw [Bool.and_eq_true] at h
      refine ⟨c, e, d, e2, covB_ok (by decide) h.1, of_decide_eq_true h.2, fun t ht => ?_⟩
      have h2 := h.1
      unfold covB at h2
      rw [Bool.and_eq_true, List.all_eq_true] at h2
      have h3 := h2.1 t ht
      simp only [Bool.and_eq_true, decide_eq_true_eq] at h3
      exact Int.dvd_of_emod_eq_zero h3.2
    · cases h
  · cases h
theorem hard_ok {fu : Nat} {p : List Int} (hp : Pen p) (hf : 1000000 ≤ fu) : Ok (FL_hard_plan fu p) fun r => Good r.1 ∧ Pen r.2 := by
  unfold FL_hard_plan
  obtain ⟨h, eh, _⟩ := shifted_ok (b := 0) (by decide) (by decide)
  rw [eh, bd_ok]
  refine (draw_ok hp (m := 30) (by decide) (by decide)).nx.bd ?_
  rintro ⟨b, q1⟩ ⟨b0, b1, hq1⟩
  dsimp only at b0 b1 hq1 ⊢
  obtain ⟨h', eh', d, ed, hd, ld, hdv⟩ := shifted_ok b0 b1
  rw [eh] at eh'
  cases eh'
  rw [ed, bd_ok]
  refine (plan_big hq1 (most := 4) (far := 12) (by decide) (by decide) (by decide) (by decide) hf).nx.bd ?_
  rintro ⟨c, q2⟩ ⟨hc, hq2, lc, fc⟩
  dsimp only at hc hq2 lc fc ⊢
  have c0 : 0 < c.length := List.length_pos_iff.mpr hc.ne_nil
  refine (draw_ok hq2 (m := (c.length : Int)) (by omega) (by omega)).nx.bd ?_
  rintro ⟨at_, q3⟩ ⟨a0, a1, hq3⟩
  dsimp only at a0 a1 hq3 ⊢
  obtain ⟨n, rfl⟩ : ∃ n : Nat, at_ = n := ⟨at_.toNat, by omega⟩
  have hn : n < c.length := by omega
  generalize ht : c[n] = t
  have htm : t ∈ c := ht ▸ List.getElem_mem _
  have hat : atP c (n : Int) = ok t := by rw [atP_nat hn, ht]
  have pt := hc.per htm
  have e1 : cutA c none (some (n : Int)) = c.take n := cutA_to (by omega)
  have e2 : cutA c (some ((n : Int) + 1)) none = c.drop (n + 1) := by
    rw [cutA_from (by omega)]
    rfl
  have ec : c = c.take n ++ t :: c.drop (n + 1) := by
    rw [← ht, List.getElem_cons_drop, List.take_append_drop]
  have hw := (ec ▸ hc.toCov : Cov (c.take n ++ t :: c.drop (n + 1))).within hd
  have l1 : (c.take n ++ c.drop (n + 1)).length = c.length - 1 := by
    rw [List.length_append, List.length_take, List.length_drop]
    omega
  have lw : ((c.take n ++ c.drop (n + 1)) ++ d.map (inn t)).length ≤ 40 := by
    rw [List.length_append, l1, List.length_map]
    omega
  have pw : 0 < lcmL (prs c) := lcmL_pos (prs_pos hc.trn)
  have rw_ : lcmL (prs ((c.take n ++ c.drop (n + 1)) ++ d.map (inn t))) ≤ lcmL (prs c) * 30 := lcmL_le (prs_pos hw.trn) (Int.mul_pos pw (by decide)) fun x hx => by
    obtain ⟨s, hs, rfl⟩ := List.mem_map.mp hx
    rcases List.mem_append.mp hs with hs | hs
    · have hsc : s ∈ c := by
        rcases List.mem_append.mp hs with hs | hs
        · exact List.mem_of_mem_take hs
        · exact List.mem_of_mem_drop hs
      exact Int.dvd_trans (dvd_lcmL (prs_pos hc.trn) (List.mem_map.mpr ⟨s, hsc, rfl⟩)) (Int.dvd_mul_right _ _)
    · obtain ⟨y, hy, rfl⟩ := List.mem_map.mp hs
      exact Int.mul_dvd_mul (dvd_lcmL (prs_pos hc.trn) (List.mem_map.mpr ⟨t, htm, rfl⟩)) (hdv y hy)
  unfold FL_within
  rw [hat, bd_ok, mapP_sz (h := inn t) (fun y hy => by
    rw [mulP_l (by omega) (by omega), bd_ok, mulP_l (by omega) (by omega), bd_ok]
    rfl) (by omega), bd_ok, e1, e2, addP_ok (by rw [List.length_take, List.length_drop]; omega), bd_ok, addP_ok (by rw [l1, List.length_map]; omega), bd_ok, bd_ok]
  exact .mk ⟨good_sort hw lw (by omega), hq3⟩
set_option maxHeartbeats 0 in
theorem some_holds {c : List (Int × Int)} (h : Cov c) (n : Int) : ∃ (j : Nat) (s : Int × Int), c[j]? = some s ∧ hold s n = true := by
  have h1 := h.one n
  obtain ⟨s, hs, hn⟩ := List.countP_pos_iff.mp (show 0 < c.countP fun t => hold t n by unfold cnt at h1; omega)
  obtain ⟨j, hj⟩ := List.mem_iff_getElem?.mp hs
  exact ⟨j, s, hj, hn⟩
theorem enum_head {p : Int × Int → Bool} : ∀ (c : List (Int × Int)) (k : Nat), (∃ s, s ∈ c ∧ p s = true) → ((enumI k c).filterMap fun y => if p y.2 = true then some y.1 else none).head? = some ((k + c.findIdx p : Nat) : Int)
  | [], _, h => by
    obtain ⟨s, hs, _⟩ := h
    cases hs
  | s :: c, k, h => by
    show (((((k : Nat) : Int), s) :: enumI (k + 1) c).filterMap _).head? = _
    by_cases q : p s = true
    · rw [List.filterMap_cons_some (b := ((k : Nat) : Int)) (by show (if p s = true then _ else _) = _; rw [if_pos q])]
      rw [List.findIdx_cons, q]
      rfl
    · rw [List.filterMap_cons_none (by show (if p s = true then _ else _) = _; rw [if_neg q]), enum_head c (k + 1) (by
        obtain ⟨s', hs, hp⟩ := h
        rcases List.mem_cons.mp hs with rfl | hs
        · exact absurd hp q
        · exact ⟨s', hs, hp⟩), List.findIdx_cons]
      rw [show p s = false from Bool.eq_false_iff.mpr q]
      show some (((k + 1 + c.findIdx p : Nat)) : Int) = some (((k + (c.findIdx p + 1) : Nat)) : Int)
      congr 2
      omega
def within (t s : Int × Int) : Bool := decide (t.2 % s.2 = 0) && decide (t.1 % s.2 = s.1)
end Law

namespace Law
open Z
open PySem (PyData)
theorem holder_is {c : List (Int × Int)} (h : Good c) (n : Int) : F_holder_of c n = ok ((c.findIdx (fun s => hold s n) : Nat) : Int) := by
  have l := h.len
  unfold F_holder_of
  have hm : mapP (fun y1 : Int × (Int × Int) => bd (F_does_hold y1.2 n) fun r3 => if r3 = true then (ok (some y1.1)) else ok none) [] (enumI 0 c) = ok ((enumI 0 c).filterMap fun y => if hold y.2 n = true then some y.1 else none) := by
    have e := mapP_ok (f := fun y1 : Int × (Int × Int) => bd (F_does_hold y1.2 n) fun r3 => if r3 = true then (ok (some y1.1)) else ok none) (h := fun y => if hold y.2 n = true then some y.1 else none) (xs := enumI 0 c) (acc := []) (fun y hy => by
      obtain ⟨j, _, hj⟩ := enumI_mem hy
      have ht := h.trn y.2 (List.mem_of_getElem? hj)
      have ht0 := ht.1
      have ht1 := ht.2
      rw [hold_ok y.2 n (by omega), bd_ok]
      cases hold y.2 n <;> rfl) (Nat.le_trans (by rw [enumI_len]; show 0 + c.length ≤ 16000000; omega) line_big)
    rw [e, List.nil_append]
  obtain ⟨j, s, hj, hn⟩ := some_holds h.toCov n
  have hh := enum_head (p := fun s => hold s n) c 0 ⟨s, List.mem_of_getElem? hj, hn⟩
  rw [hm, bd_ok, atP_get (by decide) (x := ((c.findIdx (fun s => hold s n) : Nat) : Int)) (by
    rw [show ((0 : Int)).toNat = 0 from rfl, ← List.head?_eq_getElem?, hh, Nat.zero_add]), bd_ok]
theorem place_is {c : List (Int × Int)} (h : Good c) (n : Int) : FL_place c n = ok ((c.findIdx (fun s => hold s n) : Nat) : Int) := by
  have l := h.len
  unfold FL_place
  have hm : mapP (fun y1 : Int × (Int × Int) => bd (modP (n - y1.2.1) y1.2.2) fun r3 => if (decide (r3 = (0 : Int))) = true then (ok (some y1.1)) else ok none) [] (enumI 0 c) = ok ((enumI 0 c).filterMap fun y => if hold y.2 n = true then some y.1 else none) := by
    have e := mapP_ok (f := fun y1 : Int × (Int × Int) => bd (modP (n - y1.2.1) y1.2.2) fun r3 => if (decide (r3 = (0 : Int))) = true then (ok (some y1.1)) else ok none) (h := fun y => if hold y.2 n = true then some y.1 else none) (xs := enumI 0 c) (acc := []) (fun y hy => by
      obtain ⟨j, _, hj⟩ := enumI_mem hy
      have ht := h.trn y.2 (List.mem_of_getElem? hj)
      have ht0 := ht.1
      have ht1 := ht.2
      have e : decide ((n - y.2.1) % y.2.2 = 0) = hold y.2 n := by
        rw [Bool.eq_iff_iff, decide_eq_true_eq, hold_iff ht]
        exact ⟨Int.dvd_of_emod_eq_zero, Int.emod_eq_zero_of_dvd⟩
      rw [modP_ok (by omega), bd_ok, e]
      cases hold y.2 n <;> rfl) (Nat.le_trans (by rw [enumI_len]; show 0 + c.length ≤ 16000000; omega) line_big)
    rw [e, List.nil_append]
  obtain ⟨j, s, hj, hn⟩ := some_holds h.toCov n
  have hh := enum_head (p := fun s => hold s n) c 0 ⟨s, List.mem_of_getElem? hj, hn⟩
  rw [hm, bd_ok, atP_get (by decide) (x := ((c.findIdx (fun s => hold s n) : Nat) : Int)) (by
    rw [show ((0 : Int)).toNat = 0 from rfl, ← List.head?_eq_getElem?, hh, Nat.zero_add]), bd_ok]
theorem sortI_len (xs : List Int) : (sortI xs).length = xs.length := (sortI_perm xs).length_eq
theorem ints_sm {xs : List Int} (h : ∀ x, x ∈ xs → x.natAbs < 10 ^ 12) : Sm (eT eI xs) 1 (xs.length * 41) := by
  have := Sm.tuple (k := 0) (w := 40) (ds := xs.map eI) fun d hd => by
    obtain ⟨x, hx, rfl⟩ := List.mem_map.mp hd
    exact Sm.int (h x hx)
  rw [List.length_map] at this
  exact this
theorem right_ok {c : List (Int × Int)} {b n : Int} (h : Good c) (hb : b.natAbs < 10 ^ 60) (n0 : 0 ≤ n) (n1 : n ≤ 500) : FL_right 1000000 c b n = ok true := by
  have l := h.len
  have s2 : Sw (.tuple [eT (eP eI eI) c, eI b, eI n]) 3 (3 * (16120 + 1)) := Sw.tuple (k := 2) (w := 16120) (ds := [eT (eP eI eI) c, eI b, eI n]) fun d hd => by
    simp only [List.mem_cons, List.not_mem_nil, or_false] at hd
    rcases hd with rfl | rfl | rfl
    · exact h.fam.sw
    · exact (Sw.int hb).mono (by decide) (by decide)
    · exact (Sw.int (big60 (by omega))).mono (by decide) (by decide)
  have kept := reprP_tup (ds := [eT (eP eI eI) c, eI b, eI n]) (s2.ok (by decide) (by decide))
  have fl : ∀ x : Int, (((c.findIdx fun s => hold s x : Nat)) : Int).natAbs < 10 ^ 12 := fun x => by
    have := List.findIdx_le_length (p := fun s => hold s x) (xs := c)
    have e : (((c.findIdx fun s => hold s x : Nat)) : Int).natAbs = c.findIdx fun s => hold s x := Int.natAbs_natCast _
    omega
  have due : ∀ xs : List Int, xs.length ≤ 500 → (∀ x, x ∈ xs → x.natAbs < 10 ^ 12) → reprP (eL eD [eI ((c.findIdx fun s => hold s b : Nat) : Int), eT eI xs, eT eI (sortI (c.map fun y => y.2))]) = ok (PyData.shown (eL eD [eI ((c.findIdx fun s => hold s b : Nat) : Int), eT eI xs, eT eI (sortI (c.map fun y => y.2))])) := fun xs lx hx => by
    have s3 : Sm (.list [eI ((c.findIdx fun s => hold s b : Nat) : Int), eT eI xs, eT eI (sortI (c.map fun y => y.2))]) 2 (3 * (20500 + 1)) := Sm.list (k := 1) (w := 20500) fun d hd => by
      simp only [List.mem_cons, List.not_mem_nil, or_false] at hd
      rcases hd with rfl | rfl | rfl
      · exact (Sm.int (fl b)).mono (by decide) (by decide)
      · exact (ints_sm hx).mono (Nat.le_refl _) (by omega)
      · refine (ints_sm fun x hx => ?_).mono (Nat.le_refl _) (by rw [sortI_len, List.length_map]; omega)
        obtain ⟨t, ht, rfl⟩ := List.mem_map.mp ((sortI_perm _).mem_iff.mp hx)
        have := h.per ht
        omega
    have := reprP_list (ds := [eI ((c.findIdx fun s => hold s b : Nat) : Int), eT eI xs, eT eI (sortI (c.map fun y => y.2))]) (s3.ok (by decide) (by decide))
    exact this
  have rows : ∀ g : Int → P Int, (∀ x, g x = ok ((c.findIdx fun s => hold s x : Nat) : Int)) → ∀ (a : Int) (f : Int → Int) , mapP (fun x => bd (g (f x)) fun r => ok (some r)) [] (rngI a n.toNat) = ok ((rngI a n.toNat).map fun x => ((c.findIdx fun s => hold s (f x) : Nat) : Int)) := fun g hg a f => mapP_sz (fun x hx => by rw [hg, bd_ok]) (by rw [rng_len]; omega)
  have shift : (rngI b n.toNat).map (fun x => ((c.findIdx fun s => hold s x : Nat) : Int)) = (rngI 0 n.toNat).map fun x => ((c.findIdx fun s => hold s (b + x) : Nat) : Int) := by
    unfold rngI
    rw [List.map_map, List.map_map]
    refine List.map_congr_left fun k _ => ?_
    show ((c.findIdx fun s => hold s (b + (k : Int)) : Nat) : Int) = ((c.findIdx fun s => hold s (b + (0 + (k : Int))) : Nat) : Int)
    rw [Int.zero_add]
  have hrow : F_row 1000000 c b n = ok ((rngI 0 n.toNat).map fun x => ((c.findIdx fun s => hold s (b + x) : Nat) : Int)) := by
    unfold F_row F_need_integer F_is_integer
    rw [need_cover_ok h (by decide), bd_ok, bd_ok, if_neg (by decide), bd_ok, is_between_i, bd_ok, decide_eq_true n0, decide_eq_true n1, if_neg (by decide)]
    unfold rgW
    rw [bd_ok, show b + n - b = n by omega, rows (F_holder_of c) (holder_is h) b fun x => x, bd_ok, shift]
  have hhold : F_holder 1000000 c b = ok ((c.findIdx fun s => hold s b : Nat) : Int) := by
    unfold F_holder F_need_integer F_is_integer
    rw [need_cover_ok h (by decide), bd_ok, bd_ok, if_neg (by decide), bd_ok, holder_is h, bd_ok]
  have hper : F_periods 1000000 c = ok (sortI (c.map fun y => y.2)) := by
    unfold F_periods
    rw [need_cover_ok h (by decide), bd_ok, mapT_sz (by omega), bd_ok]
  have hdue := due ((rngI 0 n.toNat).map fun x => ((c.findIdx fun s => hold s (b + x) : Nat) : Int)) (by rw [List.length_map, rng_len]; omega) fun x hx => by
    obtain ⟨y, _, rfl⟩ := List.mem_map.mp hx
    exact fl _
  unfold FL_right
  rw [show eP3 (eT (eP eI eI)) eI eI (c, b, n) = .tuple [eT (eP eI eI) c, eI b, eI n] from rfl, kept, bd_ok, place_is h, bd_ok, rgP_ok (by decide) (by decide) (by omega) (by omega), bd_ok, Int.sub_zero, rows (FL_place c) (place_is h) 0 fun x => b + x, bd_ok, bd_ok, mapT_sz (by omega), bd_ok, appP_ok (Nat.lt_of_succ_le (Nat.le_of_ble_eq_true rfl)), bd_ok]
  refine Ok.eq ?_
  refine Ok.lpK (J := fun _ => True) (Ok.forR (fun lap _ _ _ => ?_) trivial) fun _ _ => ?_
  · rw [hhold, bd_ok, hrow, bd_ok, hper, bd_ok]
    unfold FL_same
    show Ok (bd (bd (reprP _) fun r1 => bd (reprP (eL eD [_, _, _])) fun r2 => ok (decide (r1 = r2))) _) _
    rw [hdue, bd_ok, bd_ok, decide_eq_true rfl, bd_ok, if_neg (by decide)]
    exact .mk ⟨(), rfl, trivial⟩
  · rw [bd_ok, decide_eq_true rfl]
    exact .mk rfl
theorem law_gen (ns : List Int) (hn : ns.length ≤ 63) : F_law 1000000 ns = ok true := by
  have g1 : Good [((0 : Int), (2 : Int)), ((1 : Int), (4 : Int)), ((3 : Int), (4 : Int))] := good_by (W := 4) (by decide) (by decide) (by decide +kernel)
  have g2 : Good [((0 : Int), (1 : Int))] := good_by (W := 1) (by decide) (by decide) (by decide +kernel)
  unfold F_law
  rw [right_ok g1 (by decide) (by decide) (by decide), bd_ok, if_neg (by decide), right_ok g2 (by decide) (by decide) (by decide), bd_ok, bd_ok, if_neg (by decide)]
  refine Ok.eq ?_
  have hmx : mxI 1 (mnI (ns.length : Int) 3) ≤ 3 ∧ 1 ≤ mxI 1 (mnI (ns.length : Int) 3) := by
    unfold mxI mnI
    split <;> split <;> omega
  rw [rgP_ok (by decide) (by decide) (by omega) (by omega), bd_ok]
  refine Ok.lpK (J := fun _ => True) (Ok.forR (fun k hk _ _ => ?_) trivial) fun _ _ => .mk rfl
  have hk0 := (rng_mem.mp hk).1
  refine (cell_ok hk0).bd fun cl _ => (pen_ok cl).bd fun p hp => ?_
  refine Ok.lpK (J := Pen) (Ok.forR (fun lap _ q hq => ?_) hp) fun s _ => .mk ⟨(), rfl, trivial⟩
  refine Ok.bd (Q := fun r : List (Int × Int) × List Int => Good r.1 ∧ Pen r.2) (Ok.ite (fun _ => ?_) fun _ => ?_) ?_
  · refine (hard_ok hq (by decide)).nx.bd ?_
    rintro ⟨c, q1⟩ ⟨hc, hq1⟩
    exact .mk ⟨hc, hq1⟩
  · refine (plan_big hq (most := 14) (far := 120) (by decide) (by decide) (by decide) (by decide) (by decide)).nx.bd ?_
    rintro ⟨c, q1⟩ ⟨hc, hq1, _, _⟩
    exact .mk ⟨hc, hq1⟩
  rintro ⟨c, q1⟩ ⟨hc, hq1⟩
  dsimp only at hc hq1 ⊢
  refine (draw_ok hq1 (m := 99) (by decide) (by decide)).nx.bd ?_
  rintro ⟨u, q2⟩ ⟨u0, u1, hq2⟩
  dsimp only at u0 u1 hq2 ⊢
  refine (draw_ok hq2 (m := 99) (by decide) (by decide)).nx.bd ?_
  rintro ⟨v, q3⟩ ⟨v0, v1, hq3⟩
  dsimp only at v0 v1 hq3 ⊢
  refine (pick_ok hq3 (xs := [0, u - 50, 10 ^ 39 - v, -(10 ^ 20)]) (by simp) (Nat.lt_of_succ_le (Nat.le_of_ble_eq_true rfl))).nx.bd ?_
  rintro ⟨b, q4⟩ ⟨hb, hq4⟩
  dsimp only at hb hq4 ⊢
  have hb2 : b.natAbs < 10 ^ 60 := by
    simp only [List.mem_cons, List.not_mem_nil, or_false] at hb
    rcases hb with rfl | rfl | rfl | rfl <;> omega
  refine (draw_ok hq4 (m := 30) (by decide) (by decide)).nx.bd ?_
  rintro ⟨w, q5⟩ ⟨w0, w1, hq5⟩
  dsimp only at w0 w1 hq5 ⊢
  refine (pick_ok hq5 (xs := [0, 1, w]) (by simp) (Nat.lt_of_succ_le (Nat.le_of_ble_eq_true rfl))).nx.bd ?_
  rintro ⟨n, q6⟩ ⟨hn, hq6⟩
  dsimp only at hn hq6 ⊢
  have hn2 : 0 ≤ n ∧ n ≤ 500 := by
    simp only [List.mem_cons, List.not_mem_nil, or_false] at hn
    rcases hn with rfl | rfl | rfl <;> omega
  rw [right_ok hc hb2 hn2.1 hn2.2, bd_ok, if_neg (by decide)]
  exact .mk ⟨q6, rfl, hq6⟩
theorem law_true (ns : List Int) (h : ns.length ≤ 63) : run tab 1000000 9 32 [.s (ns.map PyData.int)] = some (.ok (.v (.bool true)), [none]) := law_of ns (law_gen ns h)
end Law

open PySem PySem.W PyProof.Rows
set_option maxRecDepth 100000 in
set_option maxHeartbeats 0 in
theorem PySem.Challenge.cw_onceapiece_k09_holders_and_rows_holds : PySem.Challenge.rw_onceapiece_k09_holders_and_rows.Holds := by
  w_on; o_law; k_head; (case hw => w_witness2)
  k_fill
  refine Z.walkG (l := PySem.Challenge.rw_onceapiece_k09_holders_and_rows) (n := 63) (k := 9) (x := "_law_script") rfl (by decide) rfl ⟨rfl, by decide, by decide⟩ (fun w h Y => PySem.W.kIn_of Y) ?F
  case F =>
    intro w mg fa h Y KX G hmg
    refine' Law.all_mk KX G hmg ?a0 ?l0 ?c0 ?k0 ?a1 ?l1 ?c1 ?k1 ?a2 ?l2 ?c2 ?k2 ?a3 ?l3 ?c3 ?k3 ?a4 ?l4 ?c4 ?k4 ?a5 ?l5 ?c5 ?k5 ?a6 ?l6 ?c6 ?k6 ?a7 ?l7 ?c7 ?k7 ?a8 ?l8 ?c8 ?k8 ?a9 ?l9 ?c9 ?k9 ?a10 ?l10 ?c10 ?k10 ?a11 ?l11 ?c11 ?k11 ?a12 ?l12 ?c12 ?k12 ?a13 ?l13 ?c13 ?k13 ?a14 ?l14 ?c14 ?k14 ?a15 ?l15 ?c15 ?k15 ?a16 ?l16 ?c16 ?k16 ?a17 ?l17 ?c17 ?k17 ?a18 ?l18 ?c18 ?k18 ?a19 ?l19 ?c19 ?k19 ?a20 ?l20 ?c20 ?k20 ?a21 ?l21 ?c21 ?k21 ?a22 ?l22 ?c22 ?k22 ?a23 ?l23 ?c23 ?k23 ?a24 ?l24 ?c24 ?k24 ?a25 ?l25 ?c25 ?k25 ?a26 ?l26 ?c26 ?k26 ?a27 ?l27 ?c27 ?k27 ?a28 ?l28 ?c28 ?k28 ?a29 ?l29 ?c29 ?k29 ?a30 ?l30 ?c30 ?k30 ?a31 ?l31 ?c31 ?k31 ?a32 ?l32 ?c32 ?k32 ?gc0 ?gc1 ?gc2 ?z0 ?z1 ?z2 ?z3 ?z4 ?z5 ?z6 ?z7 ?z8 ?z9 ?z10 ?z11 ?z12 ?z13 ?z14 ?z15 ?z16 ?z17 ?z18 ?z19 ?z20 Law.law_true
    (case a0 => k_is); (case l0 => k_is); (case c0 => k_is); (case k0 => k_is); (case a1 => k_is); (case l1 => k_is); (case c1 => k_is); (case k1 => k_is); (case a2 => k_is); (case l2 => k_is); (case c2 => k_is); (case k2 => k_is); (case a3 => k_is); (case l3 => k_is); (case c3 => k_is); (case k3 => k_is); (case a4 => k_is); (case l4 => k_is); (case c4 => k_is); (case k4 => k_is); (case a5 => k_is); (case l5 => k_is); (case c5 => k_is); (case k5 => k_is); (case a6 => k_is); (case l6 => k_is); (case c6 => k_is); (case k6 => k_is); (case a7 => k_is); (case l7 => k_is); (case c7 => k_is); (case k7 => k_is); (case a8 => k_is); (case l8 => k_is); (case c8 => k_is); (case k8 => k_is); (case a9 => k_is); (case l9 => k_is); (case c9 => k_is); (case k9 => k_is); (case a10 => k_is); (case l10 => k_is); (case c10 => k_is); (case k10 => k_is); (case a11 => k_is); (case l11 => k_is); (case c11 => k_is); (case k11 => k_is); (case a12 => k_is); (case l12 => k_is); (case c12 => k_is); (case k12 => k_is); (case a13 => k_is); (case l13 => k_is); (case c13 => k_is); (case k13 => k_is); (case a14 => k_is); (case l14 => k_is); (case c14 => k_is); (case k14 => k_is); (case a15 => k_is); (case l15 => k_is); (case c15 => k_is); (case k15 => k_is); (case a16 => k_is); (case l16 => k_is); (case c16 => k_is); (case k16 => k_is); (case a17 => k_is); (case l17 => k_is); (case c17 => k_is); (case k17 => k_is); (case a18 => k_is); (case l18 => k_is); (case c18 => k_is); (case k18 => k_is); (case a19 => k_is); (case l19 => k_is); (case c19 => k_is); (case k19 => k_is); (case a20 => k_is); (case l20 => k_is); (case c20 => k_is); (case k20 => k_is); (case a21 => k_is); (case l21 => k_is); (case c21 => k_is); (case k21 => k_is); (case a22 => k_is); (case l22 => k_is); (case c22 => k_is); (case k22 => k_is); (case a23 => k_is); (case l23 => k_is); (case c23 => k_is); (case k23 => k_is); (case a24 => k_is); (case l24 => k_is); (case c24 => k_is); (case k24 => k_is); (case a25 => k_is); (case l25 => k_is); (case c25 => k_is); (case k25 => k_is); (case a26 => k_is); (case l26 => k_is); (case c26 => k_is); (case k26 => k_is); (case a27 => k_is); (case l27 => k_is); (case c27 => k_is); (case k27 => k_is); (case a28 => k_is); (case l28 => k_is); (case c28 => k_is); (case k28 => k_is); (case a29 => k_is); (case l29 => k_is); (case c29 => k_is); (case k29 => k_is); (case a30 => k_is); (case l30 => k_is); (case c30 => k_is); (case k30 => k_is); (case a31 => k_is); (case l31 => k_is); (case c31 => k_is); (case k31 => k_is); (case a32 => k_is); (case l32 => k_is); (case c32 => k_is); (case k32 => k_is); (case gc0 => k_is); (case gc1 => k_is); (case gc2 => k_is); (case z0 => k_is); (case z1 => k_is); (case z2 => k_is); (case z3 => k_is); (case z4 => k_is); (case z5 => k_is); (case z6 => k_is); (case z7 => k_is); (case z8 => k_is); (case z9 => k_is); (case z10 => k_is); (case z11 => k_is); (case z12 => k_is); (case z13 => k_is); (case z14 => k_is); (case z15 => k_is); (case z16 => k_is); (case z17 => k_is); (case z18 => k_is); (case z19 => k_is); (case z20 => k_is)
