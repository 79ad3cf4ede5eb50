import PyProof.Rows.All
import Wide.All
import OpenK.AllK
import Wide.FinOn
import HandS.ForMost
import HandS.TupAny
import HandS.AnyAll
import HandS.IsInst
import HandS.Walk
import KE.GoesMore
import KE.GoesEnum
import HandS.GenList
import HandS.EndTab
import PySem.Challenge.RW_heapsparted_k69_whole_places_of_commands
set_option Elab.async false
set_option linter.all false
set_option maxRecDepth 100000
/-! EvA: a small language over plain data, its evaluator, and the way into it from the model's syntax. -/
namespace Ev
open PySem
abbrev Key := L2.Key

/-- plain data; dic: keys and values in order; ref: a list that is changed in place, by its number -/
inductive D where
  | non | bl (b : Bool) | int (i : Int) | str (x : Str) | tup (l : List D) | lst (l : List D)
  | dic (ks : List Key) (vs : List D) | ref (n : Nat)
  deriving Inhabited
/-- what a name or an expression holds: nothing, data, a list that nobody else has -/
inductive Rv where
  | un | val (d : D) | mls (l : List D)
  deriving Inhabited
abbrev Mem := List (List D)
structure S where
  σ : List Rv
  M : Mem
/-- an exception: its class by number, what it was made with -/
structure Xc where
  cls : Nat
  args : List D
inductive Res (α : Type) where
  | ok (a : α) | exc (x : Xc) | bad
def Res.bind {α β : Type} : Res α → (α → Res β) → Res β
  | .ok a, f => f a
  | .exc x, _ => .exc x
  | .bad, _ => .bad
def Res.b2 {α β : Type} : Res (α × S) → (α → S → Res β) → Res β
  | .ok (a, s), f => f a s
  | .exc x, _ => .exc x
  | .bad, _ => .bad
def Rv.fz : Rv → D
  | .val d => d
  | .mls l => .lst l
  | .un => .non

inductive Bop where | add | sub | mul | fdiv | mod
  deriving DecidableEq, Repr
inductive Cop where | eq | ne | lt | le | gt | ge | isin | notin
  deriving DecidableEq, Repr
inductive Bi where | len | tuple | list | int | sum | all
  deriving DecidableEq, Repr
inductive Ty where | int | bool | str | tuple | list | dict
  deriving DecidableEq, Repr
mutual
/-- targets -/
inductive Tg where | nm (i : Nat) | tp (ts : Tgs)
inductive Tgs where | nil | cons (t : Tg) (ts : Tgs)
end
mutual
inductive E where
  | none | bl (b : Bool) | int (i : Int) | str (x : Str) | cst (n : Nat) | v (i : Nat)
  | tup (es : Es) | lst (es : Es) | rls (es : Es) | rlist (a : E) | dsp (ps : Es)
  | neg (a : E) | bin (o : Bop) (a b : E) | cmp (o : Cop) (a b : E) | chn (o p : Cop) (a b c : E)
  | isn (a : E) | notn (a : E)
  | and (a b : E) | or (a b : E) | not (a : E) | ife (c : B) (a b : E)
  | ix (a b : E) | sl (a lo hi : E) | isi (a : E) (t : Ty)
  | call (f : Nat) (es : Es) | bi (f : Bi) (a : E) | get2 (a k d : E) | pop0 (a : E)
  | lc (vs : List Nat) (tg : Tg) (it : I) (c : B) (elt : E)
  | ga (al : Bool) (cs : List Nat) (tg : Tg) (it : I) (c : B) (elt : E)
inductive Es where | nil | cons (e : E) (es : Es)
/-- what is walked -/
inductive I where | of (e : E) | rng1 (a : E) | rng2 (a b : E) | rng3 (a b c : E) | enm (a : E)
/-- a test -/
inductive B where | of (e : E) | and (a b : B) | or (a b : B) | not (a : B) | yes
end
mutual
inductive T where
  | asg (tg : Tg) (e : E) | aug (i : Nat) (o : Bop) (e : E) | setix (a i e : E)
  | app (i : Nat) (e : E) | ext (i : Nat) (e : E) | ex (e : E)
  | ret (e : E) | rtv (i : Nat) | retn | pass | brk | cnt
  | iff (c : B) (a b : Ts) | fr (tg : Tg) (it : I) (b : Ts) | wh (c : B) (b : Ts)
inductive Ts where | nil | cons (t : T) (ts : Ts)
end

/-! ### operations on data -/
abbrev seqLine : Nat := sizeLine
def cutD (xs : List D) (lo hi : Option Int) : List D :=
  (xs.drop (HT.sIx xs.length 0 lo)).take (HT.sIx xs.length xs.length hi - HT.sIx xs.length 0 lo)
mutual
def toPy : D → PyData
  | .non => .none
  | .bl b => .bool b
  | .int i => .int i
  | .str x => .str x
  | .tup l => .tuple (toPys l)
  | .lst l => .list (toPys l)
  | .dic _ _ => .none
  | .ref _ => .none
def toPys : List D → List PyData
  | [] => []
  | x :: xs => toPy x :: toPys xs
end
mutual
def pyOk : D → Bool
  | .tup l => pyOks l
  | .lst l => pyOks l
  | .dic _ _ => false
  | .ref _ => false
  | _ => true
def pyOks : List D → Bool
  | [] => true
  | x :: xs => pyOk x && pyOks xs
end
/-- == -/
def eqD : D → D → Option Bool
  | .non, .non => some true
  | .non, .bl _ => some false
  | .non, .int _ => some false
  | .non, .str _ => some false
  | .bl _, .non => some false
  | .bl a, .bl b => some (a == b)
  | .bl _, .str _ => some false
  | .int _, .non => some false
  | .int a, .int b => some (decide (a = b))
  | .int _, .str _ => some false
  | .str _, .non => some false
  | .str _, .bl _ => some false
  | .str _, .int _ => some false
  | .str a, .str b => some (decide (a = b))
  | x, y => if (pyOk x && pyOk y && SeqAt.shaped (toPy x) && SeqAt.shaped (toPy y)) = true then some (PyData.eqv (toPy x) (toPy y)) else none
/-- what == tells apart by itself -/
def flatD : D → Option L2.V
  | .non => some .non
  | .bl b => some (.bl b)
  | .int i => some (.int i)
  | .str x => some (.str x)
  | _ => none
def flatDs : List D → Option (List L2.V)
  | [] => some []
  | x :: xs => (flatD x).bind fun v => (flatDs xs).map fun vs => v :: vs
def inSeq (x : D) (l : List D) : Option Bool := (flatD x).bind fun v => (flatDs l).map fun vs => L2.inV v vs
def inD (x : D) : D → Option Bool
  | .tup l => inSeq x l
  | .lst l => inSeq x l
  | _ => none
def cmpD : Cop → D → D → Option Bool
  | .eq, x, y => eqD x y
  | .ne, x, y => (eqD x y).map fun b => !b
  | .isin, x, y => inD x y
  | .notin, x, y => (inD x y).map fun b => !b
  | .lt, .int a, .int b => some (decide (a < b))
  | .le, .int a, .int b => some (decide (a ≤ b))
  | .gt, .int a, .int b => some (decide (b < a))
  | .ge, .int a, .int b => some (decide (b ≤ a))
  | _, _, _ => none
def two64 (i : Int) : Bool := decide (-(2 ^ 64) < i) && decide (i < 2 ^ 64)
def binD : Bop → D → D → Option Rv
  | .add, .int a, .int b => some (.val (.int (a + b)))
  | .add, .str a, .str b => if a.length + b.length ≤ seqLine then some (.val (.str (a ++ b))) else none
  | .add, .tup a, .tup b => if a.length + b.length ≤ seqLine then some (.val (.tup (a ++ b))) else none
  | .add, .lst a, .lst b => if a.length + b.length ≤ seqLine then some (.mls (a ++ b)) else none
  | .sub, .int a, .int b => some (.val (.int (a - b)))
  | .mul, .int a, .int b => if (two64 a || two64 b) = true then some (.val (.int (a * b))) else none
  | .fdiv, .int a, .int b => if 0 < b ∧ b < 1073741824 then some (.val (.int (a / b))) else none
  | .mod, .int a, .int b => if 0 < b then some (.val (.int (a % b))) else none
  | _, _, _ => none
def isTy : Ty → D → Option Bool
  | _, .ref _ => none
  | .int, .int _ => some true
  | .int, .bl _ => some true
  | .bool, .bl _ => some true
  | .str, .str _ => some true
  | .tuple, .tup _ => some true
  | .list, .lst _ => some true
  | .dict, .dic _ _ => some true
  | _, _ => some false
def seqOf (M : Mem) : D → Option (List D)
  | .tup l => some l
  | .lst l => some l
  | .ref n => M[n]?
  | _ => none
def ixD (M : Mem) (a b : D) : Option D := match b with
  | .int i => (seqOf M a).bind fun l => L2.atI l i
  | _ => none
def isNo : E → Bool
  | .none => true
  | _ => false
/-- a slice's part: not written, or an int -/
def partD (no : Bool) : D → Option (Option Int)
  | .non => if no = true then some none else none
  | .int i => if no = true then none else some (some i)
  | _ => none
def slD (a : D) (l h : Option Int) : Option Rv := match a with
  | .tup xs => some (.val (.tup (cutD xs l h)))
  | .lst xs => some (.mls (cutD xs l h))
  | _ => none
def intsOf : List D → Option (List Int)
  | [] => some []
  | .int i :: xs => (intsOf xs).map fun r => i :: r
  | _ :: _ => none
def blsOf : List D → Option (List Bool)
  | [] => some []
  | .bl i :: xs => (blsOf xs).map fun r => i :: r
  | _ :: _ => none
def biD (M : Mem) : Bi → D → Option Rv
  | .len, a => (seqOf M a).map fun l => .val (.int l.length)
  | .tuple, .tup l => some (.val (.tup l))
  | .tuple, .lst l => some (.val (.tup l))
  | .list, .tup l => some (.mls l)
  | .list, .lst l => some (.mls l)
  | .int, .int i => some (.val (.int i))
  | .sum, .lst l => (intsOf l).map fun r => .val (.int r.sum)
  | .all, .lst l => (blsOf l).map fun r => .val (.bl (r.all id))
  | _, _ => none
def keyD : D → Option Key
  | .int i => some (.inl i)
  | .str x => some (.inr x)
  | _ => none
def lkD : List Key → List D → Key → Option D
  | k :: ks, v :: vs, x => if k = x then some v else lkD ks vs x
  | _, _, _ => none
def keysD : List D → Option (List Key)
  | [] => some []
  | x :: xs => (keyD x).bind fun k => (keysD xs).map fun ks => k :: ks
def getD2 (a k d : D) : Option D := match a with
  | .dic ks vs => (keyD k).map fun k => (lkD ks vs k).getD d
  | _ => none
def splitD : List D → Option (List Key × List D)
  | [] => some ([], [])
  | k :: v :: r => (keyD k).bind fun k => (splitD r).map fun p => (k :: p.1, v :: p.2)
  | _ => none
/-- a display of a dict, key by value: all keys different -/
def dspD (l : List D) : Option D := (splitD l).bind fun p => if p.1.Nodup ∧ p.1.length ≤ 15 ∧ p.1 ≠ [] then some (.dic p.1 p.2) else none
/-- lo, lo + c, .. (n of them) -/
def rngD (lo c : Int) : Nat → List D
  | 0 => []
  | n + 1 => .int lo :: rngD (lo + c) c n
def smallI (i : Int) : Bool := decide (i.natAbs.log2 < 61)
def rng2D (a b : D) : Option (List D) := match a, b with
  | .int i, .int j => if (smallI i && smallI j) = true then some (rngD i 1 (j - i).toNat) else none
  | _, _ => none
def rng3D (a b c : D) : Option (List D) := match a, b, c with
  | .int i, .int j, .int k => if k ≠ 0 ∧ k.natAbs < 1073741824 ∧ Builtin.Range.small i j k = true ∧ 0 ≤ Builtin.Range.rangeSize i j k then some (rngD i k (Builtin.Range.rangeSize i j k).toNat) else none
  | _, _, _ => none
def enmL (i : Nat) : List D → List D
  | [] => []
  | x :: xs => .tup [.int i, x] :: enmL (i + 1) xs
def itD : D → Option (List D)
  | .tup l => some l
  | .lst l => some l
  | _ => none
mutual
def asgT : Tg → Rv → List Rv → Option (List Rv)
  | .nm i, r, σ => if i < σ.length then some (σ.set i r) else none
  | .tp ts, .val (.tup l), σ => asgTs ts l σ
  | .tp _, _, _ => none
def asgTs : Tgs → List D → List Rv → Option (List Rv)
  | .nil, [], σ => some σ
  | .cons t ts, x :: xs, σ => (asgT t (.val x) σ).bind fun σ => asgTs ts xs σ
  | _, _, _ => none
end
def wipeR (σ : List Rv) : List Nat → List Rv
  | [] => σ
  | i :: is => (wipeR σ is).set i .un
def backR (σ0 σ : List Rv) : List Nat → List Rv
  | [] => σ
  | i :: is => (backR σ0 σ is).set i (σ0.getD i .un)
def noOwn (σ : List Rv) (is : List Nat) : Bool := is.all fun i => match σ.getD i .un with
  | .mls _ => false
  | _ => true
def opt {α : Type} (o : Option α) : Res α := match o with
  | some a => .ok a
  | none => .bad

/-! ### the evaluator -/
abbrev Calls := Nat → List D → Mem → Res (Rv × Mem)
/-- a comprehension's turns -/
def lcL (step : D → S → Res (Option D × S)) : List D → S → List D → Res (List D × S)
  | [], s, acc => .ok (acc, s)
  | x :: xs, s, acc => (step x s).b2 fun y s => match y with
    | some y => lcL step xs s (acc ++ [y])
    | none => lcL step xs s acc
/-- any, all of a generator expression -/
def gaL (al : Bool) (step : D → S → Res (Option Bool × S)) : List D → S → Res (Bool × S)
  | [], s => .ok (al, s)
  | x :: xs, s => (step x s).b2 fun o s => match o with
    | some b => if b = al then gaL al step xs s else .ok (b, s)
    | none => gaL al step xs s
/-- captured names: their lists are shared from now on -/
def shr : List Nat → List Rv → List Rv
  | [], σ => σ
  | i :: is, σ => match (shr is σ)[i]? with
    | some (.mls l) => (shr is σ).set i (.val (.lst l))
    | _ => shr is σ
/-- what a generator expression sees -/
def mskR (cs : List Nat) (σ : List Rv) : List Rv := σ.mapIdx fun i x => if i ∈ cs then x else .un
inductive Out where
  | nx | ret (r : Rv) | brk | cnt
def forL (step : D → S → Res (Out × S)) : List D → S → Res (Out × S)
  | [], s => .ok (.nx, s)
  | x :: xs, s => (step x s).b2 fun o s => match o with
    | .nx => forL step xs s
    | .cnt => forL step xs s
    | .brk => .ok (.nx, s)
    | .ret r => .ok (.ret r, s)
def whL (test : S → Res (Bool × S)) (step : S → Res (Out × S)) : Nat → S → Res (Out × S)
  | 0, _ => .bad
  | n + 1, s => (test s).b2 fun b s => if b = true then (step s).b2 fun o s => match o with
      | .nx => whL test step n s
      | .cnt => whL test step n s
      | .brk => .ok (.nx, s)
      | .ret r => .ok (.ret r, s)
    else .ok (.nx, s)
/-- how many turns a while may take -/
def whMost : Nat := 4194304
def isNon : D → Bool
  | .non => true
  | _ => false
/-- a value's truth -/
def truD (M : Mem) : D → Option Bool
  | .non => some false
  | .bl b => some b
  | .int i => some (i != 0)
  | .str x => if x.length ≤ sizeLine then some ((x.length : Int) != 0) else none
  | .tup l => some (!l.isEmpty)
  | .lst l => some (!l.isEmpty)
  | .dic _ _ => none
  | .ref n => M[n]?.map fun l => !l.isEmpty
def blOf : Rv → Res Bool
  | .val (.bl b) => .ok b
  | _ => .bad
/-- a name read: a list that is owned is shared from now on -/
def rdV (i : Nat) (s : S) : Res (Rv × S) := match s.σ[i]? with
  | some (.val d) => .ok (.val d, s)
  | some (.mls l) => .ok (.val (.lst l), { s with σ := s.σ.set i (.val (.lst l)) })
  | _ => .bad
variable (C : Calls) (K : Nat → D)
mutual
def evE : E → S → Res (Rv × S)
  | .none, s => .ok (.val .non, s)
  | .bl b, s => .ok (.val (.bl b), s)
  | .int i, s => .ok (.val (.int i), s)
  | .str x, s => .ok (.val (.str x), s)
  | .cst n, s => .ok (.val (K n), s)
  | .v i, s => rdV i s
  | .tup es, s => (evEs es s).b2 fun l s => if l.length ≤ seqLine then .ok (.val (.tup l), s) else .bad
  | .lst es, s => (evEs es s).b2 fun l s => if l.length ≤ seqLine then .ok (.mls l, s) else .bad
  | .rls es, s => (evEs es s).b2 fun l s => if l.length ≤ seqLine then .ok (.val (.ref s.M.length), { s with M := s.M ++ [l] }) else .bad
  | .rlist a, s => (evE a s).b2 fun x s => match x.fz with
    | .lst l => .ok (.val (.ref s.M.length), { s with M := s.M ++ [l] })
    | _ => .bad
  | .dsp ps, s => (evEs ps s).b2 fun l s => (opt (dspD l)).bind fun d => .ok (.val d, s)
  | .neg a, s => (evE a s).b2 fun x s => match x with
    | .val (.int i) => .ok (.val (.int (-i)), s)
    | _ => .bad
  | .bin o a b, s => (evE a s).b2 fun x s => (evE b s).b2 fun y s => (opt (binD o x.fz y.fz)).bind fun r => .ok (r, s)
  | .cmp o a b, s => (evE a s).b2 fun x s => (evE b s).b2 fun y s => (opt (cmpD o x.fz y.fz)).bind fun r => .ok (.val (.bl r), s)
  | .chn o p a b c, s => (evE a s).b2 fun x s => (evE b s).b2 fun y s => (opt (cmpD o x.fz y.fz)).bind fun r =>
      if r = true then (evE c s).b2 fun z s => (opt (cmpD p y.fz z.fz)).bind fun r => .ok (.val (.bl r), s) else .ok (.val (.bl false), s)
  | .isn a, s => (evE a s).b2 fun x s => .ok (.val (.bl (isNon x.fz)), s)
  | .notn a, s => (evE a s).b2 fun x s => .ok (.val (.bl (!isNon x.fz)), s)
  | .and a b, s => (evE a s).b2 fun x s => (blOf x).bind fun k => if k = true then evE b s else .ok (.val (.bl false), s)
  | .or a b, s => (evE a s).b2 fun x s => (blOf x).bind fun k => if k = true then .ok (.val (.bl true), s) else evE b s
  | .not a, s => (evE a s).b2 fun x s => (blOf x).bind fun k => .ok (.val (.bl (!k)), s)
  | .ife c a b, s => (evB c s).b2 fun k s => if k = true then evE a s else evE b s
  | .ix a b, s => (evE a s).b2 fun x s => (evE b s).b2 fun y s => (opt (ixD s.M x.fz y.fz)).bind fun r => .ok (.val r, s)
  | .sl a lo hi, s => (evE a s).b2 fun x s => ((evE lo s).b2 fun y s => (opt (partD (isNo lo) y.fz)).bind fun l => .ok (l, s)).b2 fun l s =>
      ((evE hi s).b2 fun z s => (opt (partD (isNo hi) z.fz)).bind fun h => .ok (h, s)).b2 fun h s => (opt (slD x.fz l h)).bind fun r => .ok (r, s)
  | .isi a t, s => (evE a s).b2 fun x s => (opt (isTy t x.fz)).bind fun r => .ok (.val (.bl r), s)
  | .call f es, s => (evEs es s).b2 fun l s => (C f l s.M).bind fun r => .ok (r.1, { s with M := r.2 })
  | .bi f a, s => (evE a s).b2 fun x s => (opt (biD s.M f x.fz)).bind fun r => .ok (r, s)
  | .get2 a k d, s => (evE a s).b2 fun x s => (evE k s).b2 fun y s => (evE d s).b2 fun z s => (opt (getD2 x.fz y.fz z.fz)).bind fun r => .ok (.val r, s)
  | .pop0 a, s => (evE a s).b2 fun x s => match x.fz with
    | .ref n => (match s.M[n]? with
      | some (y :: ys) => .ok (.val y, { s with M := s.M.set n ys })
      | _ => .bad)
    | _ => .bad
  | .lc vs tg it c elt, s => (evI it s).b2 fun l s => if noOwn s.σ vs = true ∧ l.length ≤ seqLine then
      (lcL (fun x s => (opt (asgT tg (.val x) (wipeR s.σ vs))).bind fun σ => (evB c { s with σ := σ }).b2 fun k s =>
          if k = true then (evE elt s).b2 fun y s => .ok (some y.fz, { s with σ := wipeR s.σ vs }) else .ok (none, { s with σ := wipeR s.σ vs })) l s []).b2 fun r s' =>
        .ok (.mls r, { s' with σ := backR s.σ s'.σ vs })
      else .bad
  | .ga al cs tg it c elt, s => (evI it s).b2 fun l s => if noOwn (shr cs s.σ) cs = true then
      (gaL al (fun x t => (opt (asgT tg (.val x) (mskR cs (shr cs s.σ)))).bind fun σ => (evB c { t with σ := σ }).b2 fun k t =>
          if k = true then (evE elt t).b2 fun y t => (blOf y).bind fun b => .ok (some b, t) else .ok (none, t)) l s).b2 fun k t =>
        .ok (.val (.bl k), { t with σ := shr cs s.σ })
      else .bad
def evEs : Es → S → Res (List D × S)
  | .nil, s => .ok ([], s)
  | .cons e es, s => (evE e s).b2 fun x s => (evEs es s).b2 fun xs s => .ok (x.fz :: xs, s)
/-- what is walked -/
def evI : I → S → Res (List D × S)
  | .rng1 a, s => (evE a s).b2 fun x s => (opt (rng2D (.int 0) x.fz)).bind fun l => .ok (l, s)
  | .rng2 a b, s => (evE a s).b2 fun x s => (evE b s).b2 fun y s => (opt (rng2D x.fz y.fz)).bind fun l => .ok (l, s)
  | .rng3 a b c, s => (evE a s).b2 fun x s => (evE b s).b2 fun y s => (evE c s).b2 fun z s => (opt (rng3D x.fz y.fz z.fz)).bind fun l => .ok (l, s)
  | .enm a, s => (evE a s).b2 fun x s => (opt (itD x.fz)).bind fun l => .ok (enmL 0 l, s)
  | .of e, s => (evE e s).b2 fun x s => (opt (itD x.fz)).bind fun l => .ok (l, s)
/-- a test -/
def evB : B → S → Res (Bool × S)
  | .of e, s => (evE e s).b2 fun x s => (opt (truD s.M x.fz)).bind fun k => .ok (k, s)
  | .and a b, s => (evB a s).b2 fun k s => if k = true then evB b s else .ok (false, s)
  | .or a b, s => (evB a s).b2 fun k s => if k = true then .ok (true, s) else evB b s
  | .not a, s => (evB a s).b2 fun k s => .ok (!k, s)
  | .yes, s => .ok (true, s)
end
/-- a list of a name's own, or by number -/
def isL (s : S) (i : Nat) : Bool := match s.σ[i]? with
  | some (.mls _) => true
  | some (.val (.ref n)) => decide (n < s.M.length)
  | _ => false
mutual
def evS : T → S → Res (Out × S)
  | .asg tg e, s => (evE C K e s).b2 fun x s => (opt (asgT tg x s.σ)).bind fun σ => .ok (.nx, { s with σ := σ })
  | .aug i o e, s => match s.σ[i]? with
    | some (.val (.int a)) => (evE C K e s).b2 fun y s => (match o, y with
      | .add, .val (.int b) => .ok (.nx, { s with σ := s.σ.set i (.val (.int (a + b))) })
      | .sub, .val (.int b) => .ok (.nx, { s with σ := s.σ.set i (.val (.int (a - b))) })
      | _, _ => .bad)
    | _ => .bad
  | .setix a i e, s => (evE C K e s).b2 fun z s => (evE C K a s).b2 fun x s => (evE C K i s).b2 fun y s => match x.fz, y.fz with
    | .ref n, .int k => (match s.M[n]? with
      | some l => (match L2.ixN l.length k with
        | some j => .ok (.nx, { s with M := s.M.set n (l.set j z.fz) })
        | none => .bad)
      | none => .bad)
    | _, _ => .bad
  | .app i e, s => if isL s i = true then (evE C K e s).b2 fun y s => match s.σ[i]? with
    | some (.mls l) => if l.length < seqLine then .ok (.nx, { s with σ := s.σ.set i (.mls (l ++ [y.fz])) }) else .bad
    | some (.val (.ref n)) => (match s.M[n]? with
      | some l => if l.length < seqLine then .ok (.nx, { s with M := s.M.set n (l ++ [y.fz]) }) else .bad
      | none => .bad)
    | _ => .bad
    else .bad
  | .ext i e, s => if isL s i = true then (evE C K e s).b2 fun y s => match s.σ[i]?, y with
    | some (.mls l), .mls z => if l.length + z.length ≤ seqLine then .ok (.nx, { s with σ := s.σ.set i (.mls (l ++ z)) }) else .bad
    | _, _ => .bad
    else .bad
  | .ex e, s => (evE C K e s).b2 fun _ s => .ok (.nx, s)
  | .ret e, s => (evE C K e s).b2 fun x s => .ok (.ret x, s)
  | .rtv i, s => match s.σ[i]? with
    | some (.val d) => .ok (.ret (.val d), s)
    | some (.mls l) => .ok (.ret (.mls l), { s with σ := s.σ.set i .un })
    | _ => .bad
  | .retn, s => .ok (.ret (.val .non), s)
  | .pass, s => .ok (.nx, s)
  | .brk, s => .ok (.brk, s)
  | .cnt, s => .ok (.cnt, s)
  | .iff c a b, s => (evB C K c s).b2 fun k s => if k = true then evSs a s else evSs b s
  | .fr tg it b, s => (evI C K it s).b2 fun l s => forL (fun x s => (opt (asgT tg (.val x) s.σ)).bind fun σ => evSs b { s with σ := σ }) l s
  | .wh c b, s => whL (evB C K c) (evSs b) whMost s
def evSs : Ts → S → Res (Out × S)
  | .nil, s => .ok (.nx, s)
  | .cons t ts, s => (evS t s).b2 fun o s => match o with
    | .nx => evSs ts s
    | o => .ok (o, s)
end
/-- a def: how many parameters, how many names, its body -/
structure Fd where
  ar : Nat
  ns : Nat
  body : Ts
def runF (C : Calls) (K : Nat → D) (f : Fd) (ds : List D) (M : Mem) : Res (Rv × Mem) :=
  if ds.length = f.ar then
    match evSs C K f.body ⟨ds.map Rv.val ++ List.replicate (f.ns - ds.length) .un, M⟩ with
    | .ok (.nx, s) => .ok (.val .non, s.M)
    | .ok (.ret r, s) => .ok (r, s.M)
    | .ok _ => .bad
    | .exc x => .exc x
    | .bad => .bad
  else .bad
def calls (P : List Fd) (K : Nat → D) : Nat → Calls
  | 0, _, _, _ => .bad
  | n + 1, f, ds, M => match P[f]? with
    | some fd => runF (calls P K n) K fd ds M
    | none => .bad

/-! ### from the model's syntax -/
/-- what a global name is: a def by its number, data by its number, a built-in -/
inductive Gv where | fn (i ar : Nat) | cst (n : Nat) | blt
structure Cc where
  N : List Str
  sc : Scope
  fn : Str → Bool
  gt : List (Str × Gv)
  /-- new lists are told by number -/
  rf : Bool
  /-- how deep generator expressions may stand here -/
  gl : Nat
def idx (x : Str) : List Str → Option Nat
  | [] => none
  | y :: ys => if y = x then some 0 else (idx x ys).map (· + 1)
def visB (sc : Scope) (x : Str) : Bool := match sc.names.lookup x with
  | some .local => true
  | some .cell => true
  | some .free => true
  | _ => false
def okName (x : Str) : Bool := !(x == ("__debug__" : Str)) && !(x == ("__classdict__" : Str)) && !(x == ("__name__" : Str))
/-- the slot of a name of the def's own -/
def slotR (c : Cc) (x : Str) : Option Nat := if (visB c.sc x && okName x) = true then idx x c.N else none
/-- .. that may be stored -/
def locB (c : Cc) (x : Str) : Bool := match c.sc.names.lookup x with
  | some .local => true
  | some .cell => c.fn x
  | _ => false
def slotW (c : Cc) (x : Str) : Option Nat := if (locB c x && okName x) = true then idx x c.N else none
def globV (c : Cc) (x : Str) : Option Gv := if okName x = true then (match c.sc.names.lookup x with | some .globalImplicit => c.gt.lookup x | _ => none) else none
/-- is it that built-in -/
def isBlt (c : Cc) (x y : Str) : Bool := decide (x = y) && (match globV c x with | some .blt => true | _ => false)
def mapO {α β : Type} (f : α → Option β) : List α → Option (List β)
  | [] => some []
  | x :: xs => (f x).bind fun y => (mapO f xs).map fun ys => y :: ys
def toEs : List E → Es
  | [] => .nil
  | e :: es => .cons e (toEs es)
def bopO : Operator → Option Bop
  | .Add => some .add | .Sub => some .sub | .Mult => some .mul | .FloorDiv => some .fdiv | .Mod => some .mod | _ => none
def copO : CmpOp → Option Cop
  | .Eq => some .eq | .NotEq => some .ne | .Lt => some .lt | .LtE => some .le | .Gt => some .gt | .GtE => some .ge | .In => some .isin | .NotIn => some .notin | _ => none
def biO (x : Str) : Option Bi :=
  if x = "len" then some .len else if x = "tuple" then some .tuple else if x = "list" then some .list else if x = "int" then some .int
  else if x = "sum" then some .sum else if x = "all" then some .all else none
def tyO (x : Str) : Option Ty :=
  if x = "int" then some .int else if x = "bool" then some .bool else if x = "str" then some .str else if x = "tuple" then some .tuple
  else if x = "list" then some .list else if x = "dict" then some .dict else none
def isSet : Expr → Bool
  | .Set .. => true
  | _ => false
def isStar : Expr → Bool
  | .Starred .. => true
  | _ => false
def isSlice : Expr → Bool
  | .Slice .. => true
  | _ => false
/-- the names of a comprehension's own, with their slots -/
def ownOf (c : Cc) (scope : Scope) : List (Str × Nat) := scope.names.filterMap fun y => match y.2 with
  | .local => (idx y.1 c.N).map fun i => (y.1, i)
  | .cell => (idx y.1 c.N).map fun i => (y.1, i)
  | _ => none
def inner (c : Cc) (scope : Scope) : Cc := { c with sc := L2.relS scope c.sc, fn := fun x => scope.names.lookup x == some .cell }
def isTup : Expr → Bool
  | .Tuple .. => true
  | _ => false
def baseOk : Expr → Bool
  | .Call (.Name _ _) [] [] _ => false
  | _ => true
def isLst : Expr → Bool
  | .List .. => true
  | _ => false
/-- a generator expression's names; those that it captures -/
def innerG (c : Cc) (scope : Scope) : Cc := { c with sc := scope, fn := fun _ => false, gl := 0 }
def capsOf (c : Cc) (scope : Scope) : List Nat := scope.names.filterMap fun y => match y.2 with
  | .free => idx y.1 c.N
  | _ => none
def gscB (c : Cc) (scope : Scope) : Bool :=
  (match scope.kind with | .function => true | _ => false) && !scope.isCoroutine && (scope.names.all fun y => !(y.2 == .cell)) && (scope.names.lookup (".0" : Str) == some .local) &&
    (scope.names.all fun y => scope.names.lookup y.1 == some y.2) && (scope.names.all fun y => !(y.2 == .free) || c.sc.names.lookup y.1 == some .cell || c.sc.names.lookup y.1 == some .free)
mutual
def cTg (c : Cc) : Nat → Expr → Option Tg
  | n + 1, .Name x _ => (slotW c x).map .nm
  | n + 1, .Tuple es _ _ => (cTgs c n es).map .tp
  | _, _ => none
def cTgs (c : Cc) : Nat → List Expr → Option Tgs
  | n + 1, [] => some .nil
  | n + 1, e :: es => (cTg c n e).bind fun t => (cTgs c n es).map fun ts => .cons t ts
  | _, _ => none
end
mutual
def slots : Tg → List Nat
  | .nm i => [i]
  | .tp ts => slotss ts
def slotss : Tgs → List Nat
  | .nil => []
  | .cons t ts => slots t ++ slotss ts
end
mutual
def cE : Nat → Cc → Expr → Option E
  | n + 1, _, .Constant .none _ _ => some .none
  | n + 1, _, .Constant (.bool b) _ _ => some (.bl b)
  | n + 1, _, .Constant (.int i) _ _ => some (.int i)
  | n + 1, _, .Constant (.str x) _ _ => some (.str x)
  | n + 1, c, .Name x _ => match slotR c x with
    | some i => some (.v i)
    | none => (match globV c x with
      | some (.cst i) => some (.cst i)
      | _ => none)
  | n + 1, c, .Tuple es _ _ => (cEs n c es).map .tup
  | n + 1, c, .List es _ => (cEs n c es).map fun es => if c.rf = true then .rls es else .lst es
  | n + 1, c, .UnaryOp .USub a _ => (cE n c a).map .neg
  | n + 1, c, .UnaryOp .Not a _ => (cE n c a).map .not
  | n + 1, c, .BinOp a o b _ => (bopO o).bind fun o => (cE n c a).bind fun a => (cE n c b).map fun b => .bin o a b
  | n + 1, c, .Compare a [.Is] [.Constant .none _ _] _ => (cE n c a).map .isn
  | n + 1, c, .Compare a [.IsNot] [.Constant .none _ _] _ => (cE n c a).map .notn
  | n + 1, c, .Compare a [o] [b] _ => if isSet b = true then none else (copO o).bind fun o => (cE n c a).bind fun a => (cE n c b).map fun b => .cmp o a b
  | n + 1, c, .BoolOp .And [a, b] _ => (cE n c a).bind fun a => (cE n c b).map fun b => .and a b
  | n + 1, c, .BoolOp .And (a :: b :: d :: r) p => (cE n c a).bind fun a => (cE n c (.BoolOp .And (b :: d :: r) p)).map fun b => .and a b
  | n + 1, c, .BoolOp .Or [a, b] _ => (cE n c a).bind fun a => (cE n c b).map fun b => .or a b
  | n + 1, c, .BoolOp .Or (a :: b :: d :: r) p => (cE n c a).bind fun a => (cE n c (.BoolOp .Or (b :: d :: r) p)).map fun b => .or a b
  | n + 1, c, .IfExp t a b _ => (cB n c t).bind fun t => (cE n c a).bind fun a => (cE n c b).map fun b => .ife t a b
  | n + 1, c, .Subscript a (.Slice lo hi none _) _ => (cE n c a).bind fun a => (cO n c lo).bind fun lo => (cO n c hi).map fun hi => .sl a lo hi
  | n + 1, c, .Subscript a b _ => if isSlice b = true then none else (cE n c a).bind fun a => (cE n c b).map fun b => .ix a b
  | n + 1, c, .Call (.Name f _) [.GeneratorExp elt [⟨tg, it, ifs, 0⟩] scope _] [] _ =>
    if (isBlt c f "all" || isBlt c f "any") = true then (if gscB c scope = true ∧ c.gl = 1 ∧ (isSet it || isLst it) = false then
        (cI n c tg it).bind fun it => (cTg (innerG c scope) n tg).bind fun tg => if (slots tg).all (fun i => !(capsOf c scope).contains i) = true then
          (match ifs with
            | [] => (cE n (innerG c scope) elt).map fun elt => .ga (f == "all") (capsOf c scope) tg it .yes elt
            | [t] => (cB n (innerG c scope) t).bind fun t => (cE n (innerG c scope) elt).map fun elt => .ga (f == "all") (capsOf c scope) tg it t elt
            | _ => none)
          else none
        else none)
      else none
  | n + 1, c, .Call (.Name f _) [a, .Name t tp] [] _ => if isBlt c f "isinstance" = true ∧ isBlt c t t = true then (if isStar a = true then none else (cE n c a).bind fun a => (tyO t).map fun t => .isi a t)
    else (match globV c f with
      | some (.fn i ar) => if ar = 2 then (cEs n c [a, .Name t tp]).map fun es => .call i es else none
      | _ => none)
  | n + 1, c, .Call (.Name f _) args [] _ => match globV c f with
    | some (.fn i ar) => if ar = args.length then (cEs n c args).map fun es => .call i es else none
    | some .blt => (match args with
      | [a] => if isStar a = true then none else (biO f).bind fun f => (cE n c a).map fun a => if (c.rf && f == .list) = true then .rlist a else .bi f a
      | _ => none)
    | _ => none
  | n + 1, c, .Call (.Attribute o "get" ap) [k, d] [] cp => if (ap.endLine == cp.line) = true ∧ (isStar k || isStar d) = false ∧ baseOk o = true then (cE n c o).bind fun o => (cE n c k).bind fun k => (cE n c d).map fun d => .get2 o k d else none
  | n + 1, c, .Call (.Attribute o "pop" ap) [.Constant (.int 0) _ _] [] cp => if (ap.endLine == cp.line) = true ∧ baseOk o = true then (cE n c o).map .pop0 else none
  | n + 1, c, .Dict ks vs _ => if ks.all (·.isSome) = true ∧ ks.length = vs.length ∧ ks.isEmpty = false ∧ ks.length ≤ 15 then (cPs n c ks vs).map .dsp else none
  | n + 1, c, .ListComp elt [⟨tg, it, ifs, 0⟩] scope _ => (cI n c tg it).bind fun it => (cTg (inner c scope) n tg).bind fun tg =>
      if L2.blkC c.N c.sc scope (ownOf c scope) = true ∧ (slots tg).all (fun i => ((ownOf c scope).map (·.2)).contains i) = true then
        (match ifs with
          | [] => (cE n (inner c scope) elt).map fun elt => .lc ((ownOf c scope).map (·.2)) tg it .yes elt
          | [t] => (cB n (inner c scope) t).bind fun t => (cE n (inner c scope) elt).map fun elt => .lc ((ownOf c scope).map (·.2)) tg it t elt
          | _ => none)
      else none
  | _, _, _ => none
def cEs : Nat → Cc → List Expr → Option Es
  | n + 1, _, [] => some .nil
  | n + 1, c, e :: es => if isStar e = true then none else (cE n c e).bind fun e => (cEs n c es).map fun es => .cons e es
  | _, _, _ => none
def cPs : Nat → Cc → List (Option Expr) → List Expr → Option Es
  | n + 1, _, [], [] => some .nil
  | n + 1, c, some k :: ks, v :: vs => (cE n c k).bind fun k => (cE n c v).bind fun v => (cPs n c ks vs).map fun r => .cons k (.cons v r)
  | _, _, _, _ => none
def cO : Nat → Cc → Option Expr → Option E
  | n + 1, _, none => some .none
  | n + 1, c, some e => (cE n c e).bind fun i => if isNo i = true then none else some i
  | _, _, _ => none
def cB : Nat → Cc → Expr → Option B
  | n + 1, c, .BoolOp .And [a, b] _ => (cB n c a).bind fun a => (cB n c b).map fun b => .and a b
  | n + 1, c, .BoolOp .And (a :: b :: d :: r) p => (cB n c a).bind fun a => (cB n c (.BoolOp .And (b :: d :: r) p)).map fun b => .and a b
  | n + 1, c, .BoolOp .Or [a, b] _ => (cB n c a).bind fun a => (cB n c b).map fun b => .or a b
  | n + 1, c, .BoolOp .Or (a :: b :: d :: r) p => (cB n c a).bind fun a => (cB n c (.BoolOp .Or (b :: d :: r) p)).map fun b => .or a b
  | n + 1, c, .UnaryOp .Not a _ => (cB n c a).map .not
  | n + 1, c, .IfExp .. => none
  | n + 1, c, e => (cE n c e).map .of
  | _, _, _ => none
def cI : Nat → Cc → Expr → Expr → Option I
  | n + 1, c, tg, .Call (.Name f p) args [] q =>
    if isBlt c f "range" = true then (match args with
      | [a] => if isStar a = true then none else (cE n c a).map .rng1
      | [a, b] => if (isStar a || isStar b) = true then none else (cE n c a).bind fun a => (cE n c b).map fun b => .rng2 a b
      | [a, b, d] => if (isStar a || isStar b || isStar d) = true then none else (cE n c a).bind fun a => (cE n c b).bind fun b => (cE n c d).map fun d => .rng3 a b d
      | _ => none)
    else if isBlt c f "enumerate" = true then (match args with
      | [a] => if isStar a = true ∨ isTup tg = false then none else (cE n c a).map .enm
      | _ => none)
    else (cE n c (.Call (.Name f p) args [] q)).map .of
  | n + 1, c, _, e => if isSet e = true then none else (cE n c e).map .of
  | _, _, _, _ => none
end
/-- may the target be stored the usual way: value, target, statement's line -/
def isComp : Expr → Bool
  | .SetComp .. => true
  | .DictComp .. => true
  | .GeneratorExp .. => true
  | _ => false
mutual
def cT : Nat → Cc → Stmt → Option T
  | n + 1, c, .Assign [.Name x _] e _ => if isComp e = true then none else (slotW c x).bind fun i => (cE n c e).map fun e => .asg (.nm i) e
  | n + 1, c, .Assign [.Tuple ts k p] e _ => if (isComp e || isTup e) = true then none else (cTg c n (.Tuple ts k p)).bind fun tg => (cE n c e).map fun e => .asg tg e
  | n + 1, c, .Assign [.Subscript o i _] e _ => if (isComp e || isSlice i) = true then none else (cE n c o).bind fun o => (cE n c i).bind fun i => (cE n c e).map fun e => .setix o i e
  | n + 1, c, .AugAssign (.Name x _) o e _ => (slotW c x).bind fun i => (bopO o).bind fun o => (cE n c e).map fun e => .aug i o e
  | n + 1, c, .Expr (.Call (.Attribute (.Name x _) m ap) [e] [] cp) _ =>
    if (ap.endLine == cp.line) = true ∧ isStar e = false then (if m = "append" then (slotR c x).bind fun i => (cE n c e).map fun e => .app i e
      else if m = "extend" then (slotR c x).bind fun i => (cE n c e).map fun e => .ext i e else none)
    else none
  | n + 1, c, .Expr (.Call f as ks p) _ => (cE n c (.Call f as ks p)).map .ex
  | n + 1, c, .Return (some (.Name x p)) _ => match slotR c x with
    | some i => some (.rtv i)
    | none => (cE n c (.Name x p)).map .ret
  | n + 1, c, .Return (some e) _ => (cE n c e).map .ret
  | n + 1, _, .Return none _ => some .retn
  | n + 1, _, .Pass _ => some .pass
  | n + 1, _, .Break _ => some .brk
  | n + 1, _, .Continue _ => some .cnt
  | n + 1, c, .If t a b _ => (cB n c t).bind fun t => (cTs n c a).bind fun a => (cTs n c b).map fun b => .iff t a b
  | n + 1, c, .For tg it b [] _ => (cI n c tg it).bind fun it => (cTg c n tg).bind fun tg => (cTs n c b).map fun b => .fr tg it b
  | n + 1, c, .While t b [] _ => (cB n c t).bind fun t => (cTs n c b).map fun b => .wh t b
  | _, _, _ => none
def cTs : Nat → Cc → List Stmt → Option Ts
  | n + 1, _, [] => some .nil
  | n + 1, c, s :: ss => (cT n c s).bind fun t => (cTs n c ss).map fun ts => .cons t ts
  | _, _, _ => none
end
/-- the scope's side of a def: N all its names, parameters first -/
def scopeB (N ps : List Str) (sc : Scope) : Bool :=
  (match sc.kind with | .function => true | _ => false) && !sc.isCoroutine && !sc.isGenerator && decide N.Nodup && decide (N.take ps.length = ps) &&
    (ps.all fun x => match sc.names.lookup x with | some .local => true | some .cell => true | _ => false) && (sc.names.all fun y => match y.2 with | .free => false | _ => true)
/-- plain parameters -/
def plainArgs (a : Arguments) (ps : List Str) : Bool :=
  a.posonlyargs.isEmpty && decide (a.args.map (·.arg) = ps) && a.vararg.isNone && a.kwonlyargs.isEmpty && a.kwarg.isNone && a.defaults.isEmpty
def cDef (gt : List (Str × Gv)) (rf : Bool) (gl : Nat) (N : List Str) (ar : Nat) (st : Stmt) : Option Fd :=
  let sc := L2.defScope st
  if (scopeB N (N.take ar) sc && plainArgs (L2.defArgs st) (N.take ar) && decide (ar ≤ N.length)) = true then
    (cTs 60 ⟨N, sc, fun _ => true, gt, rf, gl⟩ (L2.defBody st)).map fun b => ⟨ar, N.length, b⟩
  else none
end Ev


set_option Elab.async false
set_option linter.all false
set_option maxRecDepth 100000
set_option maxHeartbeats 1000000
/-! EvB: plain data in the abstract heap. -/
namespace Ev
open PySem
open L2 (V Hp HO SqL SqT Rd upd upd_same upd_ne Same)
section
variable (K : PySem.W.Frag) (ρ : List Addr) (F : Addr → Prop) (H : Hp)
/-- a list that is shared: nobody changes it any more -/
def ShL (a : Addr) (xs : List V) : Prop := (F a ∧ Rd H a (.lst xs)) ∨ SqL K (fun _ => none) a xs
theorem sq_none {K : PySem.W.Frag} {H : Hp} {a : Addr} {xs : List V} (h : SqL K (fun _ => none) a xs) : SqL K H a xs := by
  rcases h with h | h
  · rcases h with h | ⟨o, h⟩ <;> cases h
  · exact .inr h
theorem ShL.sq {a : Addr} {xs : List V} (h : ShL K F H a xs) : SqL K H a xs := h.elim (fun h => .inl h.2) sq_none
theorem shL_of {a : Addr} {xs : List V} (f : F a) (h : SqL K H a xs) : ShL K F H a xs := h.elim (fun h => .inl ⟨f, h⟩) fun h => .inr (.inr h)
mutual
/-- v stands for the data -/
def Rep : D → V → Prop
  | .non, v => v = .non
  | .bl b, v => v = .bl b
  | .int i, v => v = .int i
  | .str x, v => v = .str x
  | .tup l, v => ∃ a vs, v = .ref a ∧ SqT K H a vs ∧ Reps l vs
  | .lst l, v => ∃ a vs, v = .ref a ∧ ShL K F H a vs ∧ Reps l vs
  | .dic ks xs, v => ∃ a kvs, v = .ref a ∧ F a ∧ Rd H a (.dK kvs) ∧ kvs.map (·.1) = ks ∧ Reps xs (kvs.map (·.2))
  | .ref n, v => ∃ a, ρ[n]? = some a ∧ v = .ref a
def Reps : List D → List V → Prop
  | [], vs => vs = []
  | d :: ds, vs => ∃ v r, vs = v :: r ∧ Rep d v ∧ Reps ds r
end
end
/-- may be changed in place -/
def Chg : HO → Prop
  | .lst _ => True
  | .dK _ => True
  | .tbl _ => True
  | _ => False
/-- a def's table -/
def IsTb : HO → Prop
  | .tbl _ => True
  | _ => False
/-- from a statement to a later one -/
structure ExS (ρ : List Addr) (F : Addr → Prop) (H : Hp) (ρ' : List Addr) (F' : Addr → Prop) (H' : Hp) : Prop where
  pre : ∀ (n : Nat) a, ρ[n]? = some a → ρ'[n]? = some a
  fz : ∀ a, F a → F' a
  keep : ∀ a o, H a = some o → F a ∨ ¬ Chg o → H' a = some o
/-- .. within an expression: but for the lists by number nothing changes -/
structure ExE (ρ : List Addr) (F : Addr → Prop) (H : Hp) (ρ' : List Addr) (F' : Addr → Prop) (H' : Hp) : Prop where
  pre : ∀ (n : Nat) a, ρ[n]? = some a → ρ'[n]? = some a
  fz : ∀ a, F a → F' a
  all : ∀ a o, H a = some o → a ∉ ρ → ¬ IsTb o → H' a = some o
  tbl : ∀ a o, H a = some o → IsTb o → ∃ o', H' a = some o' ∧ IsTb o'
  rn : ∀ a, a ∈ ρ' → a ∈ ρ ∨ H a = none
section
variable {K : PySem.W.Frag} {ρ ρ' ρ2 : List Addr} {F F' F2 : Addr → Prop} {H H' H2 : Hp}
theorem ExS.refl : ExS ρ F H ρ F H := ⟨fun _ _ h => h, fun _ h => h, fun _ _ h _ => h⟩
theorem ExS.trans (a : ExS ρ F H ρ' F' H') (b : ExS ρ' F' H' ρ2 F2 H2) : ExS ρ F H ρ2 F2 H2 :=
  ⟨fun n c h => b.pre n c (a.pre n c h), fun c h => b.fz c (a.fz c h), fun c o h k => b.keep c o (a.keep c o h k) (k.imp (a.fz c) id)⟩
theorem ExE.refl : ExE ρ F H ρ F H := ⟨fun _ _ h => h, fun _ h => h, fun _ _ h _ _ => h, fun _ o h t => ⟨o, h, t⟩, fun _ h => .inl h⟩
theorem Rd.mono (x : ExS ρ F H ρ' F' H') {a : Addr} {u : HO} (r : Rd H a u) (h : F a ∨ ¬ Chg u) : Rd H' a u := by
  rcases r with r | ⟨o, r⟩
  · exact .inl (x.keep a u r h)
  · exact .inr ⟨o, x.keep a _ r (.inr (by intro z; exact z))⟩
theorem SqT.mono (x : ExS ρ F H ρ' F' H') {a : Addr} {vs : List V} (h : SqT K H a vs) : SqT K H' a vs := by
  rcases h with h | h
  · exact .inl (Rd.mono x h (.inr (by intro z; exact z)))
  · exact .inr h
theorem ShL.mono (x : ExS ρ F H ρ' F' H') {a : Addr} {vs : List V} (h : ShL K F H a vs) : ShL K F' H' a vs := h.elim (fun h => .inl ⟨x.fz a h.1, Rd.mono x h.2 (.inl h.1)⟩) .inr
mutual
theorem Rep.mono (x : ExS ρ F H ρ' F' H') : ∀ (d : D) (v : V), Rep K ρ F H d v → Rep K ρ' F' H' d v
  | .non, _, h => by simpa only [Rep] using h
  | .bl _, _, h => by simpa only [Rep] using h
  | .int _, _, h => by simpa only [Rep] using h
  | .str _, _, h => by simpa only [Rep] using h
  | .tup l, _, h => by
    simp only [Rep] at h ⊢
    obtain ⟨a, vs, e, s, r⟩ := h
    exact ⟨a, vs, e, SqT.mono x s, Reps.mono x l vs r⟩
  | .lst l, _, h => by
    simp only [Rep] at h ⊢
    obtain ⟨a, vs, e, s, r⟩ := h
    exact ⟨a, vs, e, ShL.mono x s, Reps.mono x l vs r⟩
  | .dic ks l, _, h => by
    simp only [Rep] at h ⊢
    obtain ⟨a, kvs, e, f, s, k, r⟩ := h
    exact ⟨a, kvs, e, x.fz a f, Rd.mono x s (.inl f), k, Reps.mono x l _ r⟩
  | .ref n, _, h => by
    simp only [Rep] at h ⊢
    obtain ⟨a, e, q⟩ := h
    exact ⟨a, x.pre n a e, q⟩
theorem Reps.mono (x : ExS ρ F H ρ' F' H') : ∀ (ds : List D) (vs : List V), Reps K ρ F H ds vs → Reps K ρ' F' H' ds vs
  | [], _, h => by simpa only [Reps] using h
  | d :: ds, _, h => by
    simp only [Reps] at h ⊢
    obtain ⟨v, r, e, h1, h2⟩ := h
    exact ⟨v, r, e, Rep.mono x d v h1, Reps.mono x ds r h2⟩
end
theorem Reps.length : ∀ {ds : List D} {vs : List V}, Reps K ρ F H ds vs → vs.length = ds.length
  | [], vs, h => by simp only [Reps] at h; subst h; rfl
  | d :: ds, vs, h => by
    simp only [Reps] at h
    obtain ⟨v, r, e, _, h2⟩ := h
    subst e
    simp only [List.length_cons, Reps.length h2]
theorem Reps.get : ∀ {ds : List D} {vs : List V} {i : Nat} {d : D}, Reps K ρ F H ds vs → ds[i]? = some d → ∃ v, vs[i]? = some v ∧ Rep K ρ F H d v
  | [], _, _, _, _, e => by simp at e
  | d :: ds, vs, i, d', h, e => by
    simp only [Reps] at h
    obtain ⟨v, r, q, h1, h2⟩ := h
    subst q
    cases i with
    | zero => simp at e; subst e; exact ⟨v, by simp, h1⟩
    | succ i => simpa using Reps.get h2 (by simpa using e)
theorem Reps.append : ∀ {ds es : List D} {vs us : List V}, Reps K ρ F H ds vs → Reps K ρ F H es us → Reps K ρ F H (ds ++ es) (vs ++ us)
  | [], _, _, _, h, g => by simp only [Reps] at h; subst h; exact g
  | d :: ds, es, vs, us, h, g => by
    simp only [Reps] at h
    obtain ⟨v, r, q, h1, h2⟩ := h
    subst q
    simp only [List.cons_append, Reps]
    exact ⟨v, _, rfl, h1, Reps.append h2 g⟩
theorem Reps.drop : ∀ {ds : List D} {vs : List V} (n : Nat), Reps K ρ F H ds vs → Reps K ρ F H (ds.drop n) (vs.drop n)
  | _, _, 0, h => by simpa using h
  | [], vs, n + 1, h => by simp only [Reps] at h; subst h; simp [Reps]
  | d :: ds, vs, n + 1, h => by
    simp only [Reps] at h
    obtain ⟨v, r, q, h1, h2⟩ := h
    subst q
    simpa using Reps.drop n h2
theorem Reps.take : ∀ {ds : List D} {vs : List V} (n : Nat), Reps K ρ F H ds vs → Reps K ρ F H (ds.take n) (vs.take n)
  | _, _, 0, h => by simp [Reps]
  | [], vs, n + 1, h => by simp only [Reps] at h; subst h; simp [Reps]
  | d :: ds, vs, n + 1, h => by
    simp only [Reps] at h
    obtain ⟨v, r, q, h1, h2⟩ := h
    subst q
    simp only [List.take_succ_cons, Reps]
    exact ⟨v, _, rfl, h1, Reps.take n h2⟩
theorem Reps.set : ∀ {ds : List D} {vs : List V} {d : D} {v : V} (n : Nat), Reps K ρ F H ds vs → Rep K ρ F H d v → Reps K ρ F H (ds.set n d) (vs.set n v)
  | [], vs, _, _, n, h, _ => by simp only [Reps] at h; subst h; simp [Reps]
  | d :: ds, vs, d', v', n, h, g => by
    simp only [Reps] at h
    obtain ⟨v, r, q, h1, h2⟩ := h
    subst q
    cases n with
    | zero => simp only [List.set_cons_zero, Reps]; exact ⟨v', r, rfl, g, h2⟩
    | succ n => simp only [List.set_cons_succ, Reps]; exact ⟨v, _, rfl, h1, Reps.set n h2 g⟩
theorem Reps.one {d : D} {v : V} (h : Rep K ρ F H d v) : Reps K ρ F H [d] [v] := by
  simp only [Reps]
  exact ⟨v, [], rfl, h, rfl⟩
theorem Reps.nil : Reps K ρ F H [] [] := by simp only [Reps]
theorem Reps.cons {d : D} {v : V} {ds : List D} {vs : List V} (h : Rep K ρ F H d v) (g : Reps K ρ F H ds vs) : Reps K ρ F H (d :: ds) (v :: vs) := by
  simp only [Reps]
  exact ⟨v, vs, rfl, h, g⟩
end

/-- what stays the same through a def's (or a block's) run: at its entry the lists by number, the shared ones, the heap; what is not to be touched -/
structure Bx where
  ρ : List Addr
  F : Addr → Prop
  H : Hp
  Pr : Addr → Prop
/-- a list that only one place has -/
structure Own (K : PySem.W.Frag) (b : Bx) (ρ : List Addr) (F : Addr → Prop) (H : Hp) (a : Addr) (l : List D) (vs : List V) : Prop where
  at_ : H a = some (.lst vs)
  reps : Reps K ρ F H l vs
  nf : ¬ F a
  nr : a ∉ ρ
  new : b.H a = none
  np : ¬ b.Pr a
/-- the names' slots and the lists by number stand in the abstract heap -/
structure Rl (K : PySem.W.Frag) (Tb : Addr → Prop) (b : Bx) (σV : L2.St) (ρ : List Addr) (F : Addr → Prop) (H : Hp) (s : S) : Prop where
  len : s.σ.length = σV.length
  val : ∀ (i : Nat) d, s.σ[i]? = some (.val d) → ∃ v, σV[i]? = some (some v) ∧ Rep K ρ F H d v
  own : ∀ (i : Nat) l, s.σ[i]? = some (.mls l) → ∃ a vs, σV[i]? = some (some (.ref a)) ∧ Own K b ρ F H a l vs
  apart : ∀ (i j : Nat) l l' a, s.σ[i]? = some (.mls l) → s.σ[j]? = some (.mls l') → σV[i]? = some (some (.ref a)) → σV[j]? = some (some (.ref a)) → i = j
  mem : ∀ (n : Nat) l, s.M[n]? = some l → ∃ a vs, ρ[n]? = some a ∧ H a = some (.lst vs) ∧ Reps K ρ F H l vs
  ml : ρ.length = s.M.length
  nd : ρ.Nodup
  rf : ∀ a, a ∈ ρ → ¬ F a ∧ ¬ b.Pr a
  rn : ∀ a, a ∈ ρ → a ∈ b.ρ ∨ b.H a = none
  ft : ∀ a, F a → ∃ o, H a = some o ∧ ¬ IsTb o
  fn : ∀ a, F a → b.F a ∨ b.H a = none
  old : ∀ a o, b.H a = some o → a ∉ b.ρ → ¬ IsTb o → H a = some o
  oldT : ∀ a o, b.H a = some o → IsTb o → ∃ o', H a = some o' ∧ IsTb o'
  pt : ∀ a, b.Pr a → ¬ F a ∧ ∃ o, H a = some o ∧ ¬ IsTb o
  bp : ∀ a, a ∈ b.ρ → a ∈ ρ
  tab : ∀ P, Tb P → GxR.TabG H P
/-- a value that an expression has made -/
def RepR (K : PySem.W.Frag) (b : Bx) (σV : L2.St) (ρ : List Addr) (F : Addr → Prop) (H : Hp) (s : S) : Rv → V → Prop
  | .un, _ => False
  | .val d, v => Rep K ρ F H d v
  | .mls l, v => ∃ a vs, v = .ref a ∧ Own K b ρ F H a l vs ∧ ∀ (i : Nat) l', s.σ[i]? = some (.mls l') → σV[i]? ≠ some (some (.ref a))
section
variable {K : PySem.W.Frag} {Tb : Addr → Prop} {b : Bx} {σV : L2.St} {ρ ρ' : List Addr} {F F' : Addr → Prop} {H H' : Hp} {s : S}
theorem Rl.mem_at (r : Rl K Tb b σV ρ F H s) {a : Addr} (h : a ∈ ρ) : ∃ vs, H a = some (.lst vs) := by
  obtain ⟨n, hn, e⟩ := List.getElem_of_mem h
  have hl : n < s.M.length := by rw [← r.ml]; exact hn
  obtain ⟨c, vs, e1, e2, _⟩ := r.mem n s.M[n] (by simp [hl])
  have : c = a := by
    have : ρ[n]? = some a := by rw [← e]; simp [hn]
    rw [this] at e1
    exact (Option.some.inj e1).symm
  exact ⟨vs, this ▸ e2⟩
/-- within an expression: a case of the former -/
theorem ExE.toS (x : ExE ρ F H ρ' F' H') (r : Rl K Tb b σV ρ F H s) : ExS ρ F H ρ' F' H' where
  pre := x.pre
  fz := x.fz
  keep := fun a o h k => x.all a o h (fun m => by
    rcases k with k | k
    · exact (r.rf a m).1 k
    · obtain ⟨vs, e⟩ := r.mem_at m
      rw [h] at e
      cases e
      exact k trivial) fun t => by
    rcases k with k | k
    · obtain ⟨u, e, n⟩ := r.ft a k
      rw [h] at e
      cases e
      exact n t
    · cases o <;> first | exact t | exact k trivial
theorem ExE.trans {ρ2 : List Addr} {F2 : Addr → Prop} {H2 : Hp} (a : ExE ρ F H ρ' F' H') (e : ExE ρ' F' H' ρ2 F2 H2) : ExE ρ F H ρ2 F2 H2 where
  pre := fun n c h => e.pre n c (a.pre n c h)
  fz := fun c h => e.fz c (a.fz c h)
  all := fun c o h k t => e.all c o (a.all c o h k t) (fun m => by
    rcases a.rn c m with z | z
    · exact k z
    · rw [h] at z; cases z) t
  tbl := fun c o h t => by
    obtain ⟨o1, h1, t1⟩ := a.tbl c o h t
    exact e.tbl c o1 h1 t1
  rn := fun c m => by
    rcases e.rn c m with z | z
    · exact a.rn c z
    · by_cases k : c ∈ ρ
      · exact .inl k
      · cases q : H c with
        | none => exact .inr rfl
        | some o =>
          by_cases t : IsTb o
          · obtain ⟨o1, h1, _⟩ := a.tbl c o q t
            rw [h1] at z; cases z
          · rw [a.all c o q k t] at z; cases z
/-- all that was there is as it was -/
theorem ExE.same (h : Same H H') : ExE ρ F H ρ F H' := ⟨fun _ _ h => h, fun _ h => h, fun a o q _ _ => h a o q, fun a o q t => ⟨o, h a o q, t⟩, fun _ h => .inl h⟩
theorem ExE.more (h : ∀ a, F a → F' a) : ExE ρ F H ρ F' H := ⟨fun _ _ h => h, h, fun _ _ q _ _ => q, fun a o q t => ⟨o, q, t⟩, fun _ h => .inl h⟩
theorem ExS.same (h : Same H H') : ExS ρ F H ρ F H' := ⟨fun _ _ h => h, fun _ h => h, fun a o q _ => h a o q⟩
theorem ExS.more (h : ∀ a, F a → F' a) : ExS ρ F H ρ F' H := ⟨fun _ _ h => h, h, fun _ _ q _ => q⟩
theorem Own.mono {a : Addr} {l : List D} {vs : List V} (x : ExS ρ F H ρ' F' H') (o : Own K b ρ F H a l vs) (h : H' a = some (.lst vs)) (nf : ¬ F' a) (nr : a ∉ ρ') : Own K b ρ' F' H' a l vs :=
  ⟨h, Reps.mono x _ _ o.reps, nf, nr, o.new, o.np⟩
/-- the heap grows -/
theorem Rl.same (r : Rl K Tb b σV ρ F H s) (h : Same H H') : Rl K Tb b σV ρ F H' s where
  len := r.len
  val := fun i d e => let ⟨v, q, p⟩ := r.val i d e; ⟨v, q, Rep.mono (ExS.same h) _ _ p⟩
  own := fun i l e => let ⟨a, vs, q, o⟩ := r.own i l e; ⟨a, vs, q, o.mono (ExS.same h) (h _ _ o.at_) o.nf o.nr⟩
  apart := r.apart
  mem := fun n l e => let ⟨a, vs, q, p, t⟩ := r.mem n l e; ⟨a, vs, q, h _ _ p, Reps.mono (ExS.same h) _ _ t⟩
  ml := r.ml
  nd := r.nd
  rf := r.rf
  rn := r.rn
  ft := fun a f => let ⟨o, q, t⟩ := r.ft a f; ⟨o, h _ _ q, t⟩
  fn := r.fn
  old := fun a o q n t => h _ _ (r.old a o q n t)
  oldT := fun a o q t => let ⟨o1, q1, t1⟩ := r.oldT a o q t; ⟨o1, h _ _ q1, t1⟩
  pt := fun a p => ⟨(r.pt a p).1, let ⟨o, q, t⟩ := (r.pt a p).2; ⟨o, h _ _ q, t⟩⟩
  bp := r.bp
  tab := fun P q => let ⟨ps, e, t⟩ := r.tab P q; ⟨ps, h _ _ e, t⟩
theorem same_upd {p : Addr} {o : HO} (hp : H p = none) : Same H (upd H p o) := fun c u q => by
  rw [upd_ne (L2.ne_of_none q hp)]; exact q
/-- an object of one's own is shared from now on -/
theorem Rl.share (r : Rl K Tb b σV ρ F H s) {a : Addr} (ho : ∃ o, H a = some o ∧ ¬ IsTb o) (nr : a ∉ ρ) (new : b.H a = none) (np : ¬ b.Pr a) (ns : ∀ (i : Nat) l', s.σ[i]? = some (.mls l') → σV[i]? ≠ some (some (.ref a))) :
    Rl K Tb b σV ρ (fun c => F c ∨ c = a) H s where
  len := r.len
  val := fun i d e => let ⟨v, q, p⟩ := r.val i d e; ⟨v, q, Rep.mono (ExS.more fun _ => .inl) _ _ p⟩
  own := fun i l e => by
    obtain ⟨c, vs, q, o⟩ := r.own i l e
    refine ⟨c, vs, q, o.mono (ExS.more fun _ => .inl) o.at_ (fun z => ?_) o.nr⟩
    rcases z with z | z
    · exact o.nf z
    · subst z; exact ns i l e q
  apart := r.apart
  mem := fun n l e => let ⟨a, vs, q, p, t⟩ := r.mem n l e; ⟨a, vs, q, p, Reps.mono (ExS.more fun _ => .inl) _ _ t⟩
  ml := r.ml
  nd := r.nd
  rf := fun c m => ⟨fun z => z.elim (r.rf c m).1 fun z => nr (z ▸ m), (r.rf c m).2⟩
  rn := r.rn
  ft := fun c f => f.elim (r.ft c) fun z => z ▸ ho
  fn := fun c f => f.elim (r.fn c) fun z => .inr (z ▸ new)
  old := r.old
  oldT := r.oldT
  pt := fun c p => ⟨fun z => z.elim (r.pt c p).1 fun z => np (z ▸ p), (r.pt c p).2⟩
  bp := r.bp
  tab := r.tab
/-- a value as data -/
theorem RepR.fz (r : Rl K Tb b σV ρ F H s) {rv : Rv} {v : V} (h : RepR K b σV ρ F H s rv v) : ∃ F', (∀ a, F a → F' a) ∧ Rl K Tb b σV ρ F' H s ∧ Rep K ρ F' H rv.fz v := by
  cases rv with
  | un => exact h.elim
  | val d => exact ⟨F, fun _ z => z, r, h⟩
  | mls l =>
    obtain ⟨a, vs, rfl, o, ns⟩ := h
    refine ⟨fun c => F c ∨ c = a, fun _ => .inl, r.share ⟨_, o.at_, id⟩ o.nr o.new o.np ns, ?_⟩
    show Rep K ρ _ H (.lst l) (.ref a)
    simp only [Rep]
    exact ⟨a, vs, rfl, .inl ⟨.inr rfl, .inl o.at_⟩, Reps.mono (ExS.more fun _ => .inl) _ _ o.reps⟩
/-- a new object is no one's -/
theorem Rl.free (r : Rl K Tb b σV ρ F H s) {p : Addr} (hp : H p = none) : ¬ F p ∧ p ∉ ρ ∧ b.H p = none ∧ ¬ b.Pr p ∧ ∀ (i : Nat) l', s.σ[i]? = some (.mls l') → σV[i]? ≠ some (some (.ref p)) := by
  refine ⟨fun f => ?_, fun m => ?_, ?_, fun q => ?_, fun i l' e q => ?_⟩
  · obtain ⟨o, z, _⟩ := r.ft p f; rw [hp] at z; cases z
  · obtain ⟨vs, z⟩ := r.mem_at m; rw [hp] at z; cases z
  · by_cases m : p ∈ b.ρ
    · obtain ⟨vs, z⟩ := r.mem_at (r.bp p m); rw [hp] at z; cases z
    · cases q : b.H p with
      | none => rfl
      | some o =>
        by_cases t : IsTb o
        · obtain ⟨o1, z, _⟩ := r.oldT p o q t; rw [hp] at z; cases z
        · have := r.old p o q m t; rw [hp] at this; cases this
  · obtain ⟨_, o, z, _⟩ := r.pt p q; rw [hp] at z; cases z
  · obtain ⟨a, vs, e1, o⟩ := r.own i l' e
    rw [e1] at q
    cases q
    have := o.at_
    rw [hp] at this
    cases this
end
end Ev


set_option Elab.async false
set_option linter.all false
set_option maxRecDepth 100000
set_option maxHeartbeats 1000000
/-! EvC: what the evaluator yields of expressions, the model yields. -/
namespace Ev
open PySem
open L2 (V Hp HO SqL SqT Rd upd upd_same upd_ne Same TE VK PE PT PW PA XK Sp FnOk Binds Room CX0 E0 Cx OpR)

/-- the run at large -/
structure Gd where
  P : Program
  w : World
  K : PySem.W.Frag
  Tb : Addr → Prop
  mg : Str → Option Value
  base : Heap
  k : Nat
  C : Calls
  D : Nat → D
/-- where a piece of code runs -/
structure XOk (g : Gd) (c : Cc) (X : Cx) : Prop where
  P : X.prog = g.P
  w : X.w = g.w
  K : X.K = g.K
  mg : X.mg = g.mg
  base : X.base = g.base
  N : X.N = c.N
  nd : c.N.Nodup
  sc : X.env.scope = c.sc
  fn : ∀ x, c.fn x = true → X.fn x = true
  calm : X.calm = true
  room : Room (g.k + c.gl) X.A
  code : 0 < c.gl → ∃ (cd P : Addr), X.env.code = .ref cd ∧ GxR.TabB X.base X.mg cd P ∧ g.Tb P
/-- what is wanted of a result, R telling how it is stood for -/
def WG {α β : Type} (K : PySem.W.Frag) (Tb : Addr → Prop) (b : Bx) (σV : L2.St) (ρ : List Addr) (F : Addr → Prop) (H : Hp) (R : List Addr → (Addr → Prop) → Hp → S → α → β → Prop) (Q : β → Hp → Prop) : Res (α × S) → Prop
  | .ok (a, s') => ∀ v ρ' F' H', ExE ρ F H ρ' F' H' → Rl K Tb b σV ρ' F' H' s' → R ρ' F' H' s' a v → Q v H'
  | _ => False
section
variable {α β γ : Type} {K : PySem.W.Frag} {Tb : Addr → Prop} {b : Bx} {σV : L2.St} {ρ ρ' : List Addr} {F F' : Addr → Prop} {H H' : Hp} {R : List Addr → (Addr → Prop) → Hp → S → α → β → Prop} {Q : β → Hp → Prop} {r : Res (α × S)} {s : S}
theorem WG.later (h : WG K Tb b σV ρ F H R Q r) (x : ExE ρ F H ρ' F' H') : WG K Tb b σV ρ' F' H' R Q r := by
  cases r with
  | ok p => exact fun v ρ2 F2 H2 e q t => h v ρ2 F2 H2 (x.trans e) q t
  | exc _ => exact h
  | bad => exact h
/-- a part of an expression, its value shared -/
theorem WG.step {r : Res (Rv × S)} {f : Rv → S → Res (α × S)} {T : VK → Prop} {Kt : VK} (h : WG K Tb b σV ρ F H R Q (r.b2 f)) (ha : ∀ Q', WG K Tb b σV ρ F H (RepR K b σV) Q' r → T Q')
    (hk : ∀ rv s1 v ρ1 F1 H1, r = .ok (rv, s1) → ExE ρ F H ρ1 F1 H1 → Rl K Tb b σV ρ1 F1 H1 s1 → Rep K ρ1 F1 H1 rv.fz v → WG K Tb b σV ρ1 F1 H1 R Q (f rv s1) → Kt v H1) : T Kt := by
  refine ha _ ?_
  cases r with
  | ok p =>
    obtain ⟨rv, s1⟩ := p
    intro v ρ1 F1 H1 e q t
    obtain ⟨F2, m, q2, p⟩ := RepR.fz q t
    exact hk rv s1 v ρ1 F2 H1 rfl (e.trans (ExE.more m)) q2 p (WG.later h (e.trans (ExE.more m)))
  | exc _ => exact h.elim
  | bad => exact h.elim
/-- a part, as it is -/
theorem WG.part {α' β' : Type} {R' : List Addr → (Addr → Prop) → Hp → S → α' → β' → Prop} {r : Res (α' × S)} {f : α' → S → Res (α × S)} {T : (β' → Hp → Prop) → Prop} {Kt : β' → Hp → Prop} (h : WG K Tb b σV ρ F H R Q (r.b2 f)) (ha : ∀ Q', WG K Tb b σV ρ F H R' Q' r → T Q')
    (hk : ∀ a s1 v ρ1 F1 H1, r = .ok (a, s1) → ExE ρ F H ρ1 F1 H1 → Rl K Tb b σV ρ1 F1 H1 s1 → R' ρ1 F1 H1 s1 a v → WG K Tb b σV ρ1 F1 H1 R Q (f a s1) → Kt v H1) : T Kt := by
  refine ha _ ?_
  cases r with
  | ok p =>
    obtain ⟨rv, s1⟩ := p
    intro v ρ1 F1 H1 e q t
    exact hk rv s1 v ρ1 F1 H1 rfl e q t (WG.later h e)
  | exc _ => exact h.elim
  | bad => exact h.elim
/-- the end of an expression -/
theorem WG.fin {a : α} {v : β} (h : WG K Tb b σV ρ F H R Q (.ok (a, s))) (q : Rl K Tb b σV ρ F H s) (t : R ρ F H s a v) : Q v H := h v ρ F H ExE.refl q t
theorem WG.fin' {a : α} {v : β} (h : WG K Tb b σV ρ F H R Q (.ok (a, s))) (x : Same H H') (q : Rl K Tb b σV ρ F H s) (t : R ρ F H' s a v) : Q v H' := h v ρ F H' (ExE.same x) (q.same x) t
theorem WG.opt {o : Option γ} {f : γ → Res (α × S)} (h : WG K Tb b σV ρ F H R Q ((opt o).bind f)) : ∃ c, o = some c ∧ WG K Tb b σV ρ F H R Q (f c) := by
  cases o with
  | none => exact h.elim
  | some c => exact ⟨c, rfl, h⟩
theorem WG.ite {p : Prop} [Decidable p] {x : Res (α × S)} (h : WG K Tb b σV ρ F H R Q (if p then x else .bad)) : p ∧ WG K Tb b σV ρ F H R Q x := by
  by_cases k : p
  · rw [if_pos k] at h; exact ⟨k, h⟩
  · rw [if_neg k] at h; exact h.elim
end
/-- a new list, nobody else's -/
theorem RepR.new {K : PySem.W.Frag} {Tb : Addr → Prop} {b : Bx} {σV : L2.St} {ρ : List Addr} {F : Addr → Prop} {H : Hp} {s : S} {p : Addr} {l : List D} {vs : List V} (r : Rl K Tb b σV ρ F H s) (hp : H p = none) (h : Reps K ρ F H l vs) :
    RepR K b σV ρ F (upd H p (.lst vs)) s (.mls l) (.ref p) := by
  obtain ⟨h1, h2, h3, h4, h5⟩ := r.free hp
  exact ⟨p, vs, rfl, ⟨upd_same, Reps.mono (ExS.same (same_upd hp)) _ _ h, h1, h2, h3, h4⟩, h5⟩
theorem Rep.newT {K : PySem.W.Frag} {ρ : List Addr} {F : Addr → Prop} {H : Hp} {p : Addr} {l : List D} {vs : List V} (hp : H p = none) (h : Reps K ρ F H l vs) : Rep K ρ F (upd H p (.tup vs)) (.tup l) (.ref p) := by
  simp only [Rep]
  exact ⟨p, vs, rfl, SqT.of upd_same, Reps.mono (ExS.same (same_upd hp)) _ _ h⟩

/-! ### the judgements: code and what it is in the small language -/
def SE (g : Gd) (c : Cc) (e : Expr) (ir : E) : Prop := ∃ t : TE, (∀ X, XOk g c X → PE X e t) ∧
  ∀ b σV ρ F H s Q, Rl g.K g.Tb b σV ρ F H s → WG g.K g.Tb b σV ρ F H (RepR g.K b σV) Q (evE g.C g.D ir s) → t σV H Q
def SEs (g : Gd) (c : Cc) (es : List Expr) (ir : Es) : Prop := ∃ t : L2.TA, (∀ X, XOk g c X → PA X es t) ∧
  ∀ b σV ρ F H s Q, Rl g.K g.Tb b σV ρ F H s → WG g.K g.Tb b σV ρ F H (fun ρ F H _ l vs => Reps g.K ρ F H l vs) Q (evEs g.C g.D ir s) → t σV H Q
def SB (g : Gd) (c : Cc) (e : Expr) (ir : B) : Prop := ∃ t : L2.TT, (∀ X, XOk g c X → PT X e t) ∧
  ∀ b σV ρ F H s Q, Rl g.K g.Tb b σV ρ F H s → WG g.K g.Tb b σV ρ F H (fun _ _ _ _ k k' => k' = k) Q (evB g.C g.D ir s) → t σV H Q

/-- what a def promises: what the evaluator's calls yield -/
def MemOk (K : PySem.W.Frag) (Tb : Addr → Prop) (ρ : List Addr) (F : Addr → Prop) (H : Hp) (M : Mem) : Prop :=
  (∀ (n : Nat) l, M[n]? = some l → ∃ a vs, ρ[n]? = some a ∧ H a = some (.lst vs) ∧ Reps K ρ F H l vs) ∧ ρ.length = M.length ∧ ρ.Nodup ∧ (∀ a, a ∈ ρ → ¬ F a) ∧ (∀ a, F a → ∃ o, H a = some o ∧ ¬ IsTb o) ∧ ∀ P, Tb P → GxR.TabG H P
/-- a value handed back -/
def RepC (K : PySem.W.Frag) (H0 : Hp) (ρ : List Addr) (F : Addr → Prop) (H : Hp) : Rv → V → Prop
  | .un, _ => False
  | .val d, v => Rep K ρ F H d v
  | .mls l, v => ∃ a vs, v = .ref a ∧ H a = some (.lst vs) ∧ Reps K ρ F H l vs ∧ ¬ F a ∧ a ∉ ρ ∧ H0 a = none
def WC (K : PySem.W.Frag) (Tb : Addr → Prop) (ρ : List Addr) (F : Addr → Prop) (H : Hp) (Q : VK) : Res (Rv × Mem) → Prop
  | .ok (rv, M') => ∀ v ρ' F' H', ExE ρ F H ρ' F' H' → (∀ a, F' a → F a ∨ H a = none) → MemOk K Tb ρ' F' H' M' → RepC K H ρ' F' H' rv v → Q v H'
  | _ => False
def spOf (K : PySem.W.Frag) (Tb : Addr → Prop) (C : Calls) (i ar : Nat) : Sp := fun vs H Q _ => vs.length = ar ∧ ∃ ds ρ F M, Reps K ρ F H ds vs ∧ MemOk K Tb ρ F H M ∧ WC K Tb ρ F H Q (C i ds M)
/-- the global names are what the table tells -/
structure GOk (g : Gd) (gt : List (Str × Gv)) : Prop where
  fn : ∀ x i ar, gt.lookup x = some (.fn i ar) → ∃ f fd ps, g.mg x = some (.ref f) ∧ PySem.W.keepIn g.K (.ref f) = true ∧ FnOk g.P g.w g.K g.mg g.base CX0 g.k f fd ps (spOf g.K g.Tb g.C i ar) ∧ Binds g.K fd ps [] ∧ ps.length = ar
  cst : ∀ x n, gt.lookup x = some (.cst n) → ∃ v u, g.mg x = some u ∧ L2.RelV v u ∧ ∀ ρ F H, Rep g.K ρ F H (g.D n) v
  blt : ∀ x, gt.lookup x = some .blt → g.mg x = none

section
variable {g : Gd} {c : Cc} {pos : Pos}
theorem se_none {j : Nat} : SE g c (.Constant .none j pos) .none := ⟨_, fun _ _ => L2.pe_non, fun b σV ρ F H s Q rl h => by
  simp only [evE] at h
  exact h.fin rl (by simp only [RepR, Rep])⟩
theorem se_bl {k : Bool} {j : Nat} : SE g c (.Constant (.bool k) j pos) (.bl k) := ⟨_, fun _ _ => L2.pe_bl, fun b σV ρ F H s Q rl h => by
  simp only [evE] at h
  exact h.fin rl (by simp only [RepR, Rep])⟩
theorem se_int {i : Int} {j : Nat} : SE g c (.Constant (.int i) j pos) (.int i) := ⟨_, fun _ _ => L2.pe_int, fun b σV ρ F H s Q rl h => by
  simp only [evE] at h
  exact h.fin rl (by simp only [RepR, Rep])⟩
theorem se_str {x : Str} {j : Nat} : SE g c (.Constant (.str x) j pos) (.str x) := ⟨_, fun _ _ => L2.pe_str, fun b σV ρ F H s Q rl h => by
  simp only [evE] at h
  exact h.fin rl (by simp only [RepR, Rep])⟩

/-! ### names -/
theorem idx_at {x : Str} : ∀ {N : List Str} {i : Nat}, idx x N = some i → N[i]? = some x
  | [], _, h => by simp [idx] at h
  | y :: ys, i, h => by
    unfold idx at h
    by_cases e : y = x
    · rw [if_pos e] at h; cases h; simp [e]
    · rw [if_neg e] at h
      cases q : idx x ys with
      | none => rw [q] at h; simp at h
      | some j =>
        rw [q] at h
        simp only [Option.map_some, Option.some.injEq] at h
        subst h
        simpa using idx_at q
theorem okName_of {x : Str} (h : okName x = true) : (x == ("__debug__" : Str)) = false ∧ (x == ("__classdict__" : Str)) = false ∧ x ≠ ("__name__" : Str) := by
  unfold okName at h
  simp only [Bool.and_eq_true, Bool.not_eq_true'] at h
  exact ⟨h.1.1, h.1.2, by simpa using h.2⟩
theorem vis_of {sc : Scope} {x : Str} (h : visB sc x = true) : L2.Vis sc x := by
  unfold visB at h
  unfold L2.Vis
  split at h <;> first | exact .inl (by assumption) | exact .inr (.inl (by assumption)) | exact .inr (.inr (by assumption)) | cases h
theorem slotR_of {x : Str} {i : Nat} (h : slotR c x = some i) : c.N[i]? = some x ∧ L2.Vis c.sc x ∧ okName x = true := by
  unfold slotR at h
  by_cases k : (visB c.sc x && okName x) = true
  · rw [if_pos k] at h
    obtain ⟨k1, k2⟩ := Bool.and_eq_true_iff.mp k
    exact ⟨idx_at h, vis_of k1, k2⟩
  · rw [if_neg k] at h; cases h
theorem locB_of {x : Str} (h : locB c x = true) : L2.Loc c.sc x ∧ (c.fn x = true ∨ c.sc.names.lookup x = some .local) := by
  unfold locB at h
  unfold L2.Loc
  split at h
  · exact ⟨.inl (by assumption), .inr (by assumption)⟩
  · exact ⟨.inr (by assumption), .inl h⟩
  · cases h
theorem slotW_of {x : Str} {i : Nat} (h : slotW c x = some i) : c.N[i]? = some x ∧ L2.Loc c.sc x ∧ okName x = true ∧ (c.fn x = true ∨ c.sc.names.lookup x = some .local) := by
  unfold slotW at h
  by_cases k : (locB c x && okName x) = true
  · rw [if_pos k] at h
    obtain ⟨k1, k2⟩ := Bool.and_eq_true_iff.mp k
    obtain ⟨k3, k4⟩ := locB_of k1
    exact ⟨idx_at h, k3, k2, k4⟩
  · rw [if_neg k] at h; cases h
theorem globV_of {x : Str} {v : Gv} (h : globV c x = some v) : c.sc.names.lookup x = some .globalImplicit ∧ c.gt.lookup x = some v ∧ okName x = true := by
  unfold globV at h
  by_cases k : okName x = true
  · rw [if_pos k] at h
    split at h
    · exact ⟨by assumption, h, k⟩
    · cases h
  · rw [if_neg k] at h; cases h
theorem isBlt_of {x y : Str} (h : isBlt c x y = true) : x = y ∧ globV c x = some .blt := by
  unfold isBlt at h
  obtain ⟨h1, h2⟩ := Bool.and_eq_true_iff.mp h
  refine ⟨of_decide_eq_true h1, ?_⟩
  split at h2
  · assumption
  · cases h2
theorem XOk.gl {X : Cx} (h : XOk g c X) {x : Str} {v : Gv} (q : globV c x = some v) : L2.Gl X x := by
  have := (globV_of q).1
  show X.env.scope.names.lookup x = _
  rw [h.sc]
  exact this

theorem set_same {α : Type} : ∀ {l : List α} {i : Nat} {x : α}, l[i]? = some x → l.set i x = l
  | [], _, _, h => by simp at h
  | y :: ys, 0, x, h => by simp at h; subst h; rfl
  | y :: ys, i + 1, x, h => by simp only [List.set_cons_succ]; rw [set_same (by simpa using h)]
theorem get_set {α : Type} {l : List α} {i j : Nat} {x y : α} (h : (l.set i x)[j]? = some y) : (i = j ∧ y = x) ∨ (i ≠ j ∧ l[j]? = some y) := by
  by_cases e : i = j
  · subst e
    by_cases hl : i < l.length
    · rw [List.getElem?_set_self hl] at h; exact .inl ⟨rfl, (Option.some.inj h).symm⟩
    · rw [List.getElem?_eq_none (by simpa using hl)] at h; cases h
  · rw [List.getElem?_set_ne e] at h; exact .inr ⟨e, h⟩
end
section
variable {K : PySem.W.Frag} {Tb : Addr → Prop} {b : Bx} {σV : L2.St} {ρ ρ' : List Addr} {F F' : Addr → Prop} {H H' : Hp} {s : S}
/-- a name is stored -/
theorem Rl.put (r : Rl K Tb b σV ρ F H s) {i : Nat} {rv : Rv} {v : V} (h : RepR K b σV ρ F H s rv v) (hi : i < s.σ.length) : Rl K Tb b (σV.set i (some v)) ρ F H { s with σ := s.σ.set i rv } where
  len := by simp [r.len]
  val := fun j d e => by
    rcases get_set e with ⟨rfl, q⟩ | ⟨ne, q⟩
    · subst q
      exact ⟨v, by rw [List.getElem?_set_self (by rw [← r.len]; exact hi)], h⟩
    · obtain ⟨u, q1, q2⟩ := r.val j d q
      exact ⟨u, by rw [List.getElem?_set_ne ne]; exact q1, q2⟩
  own := fun j l e => by
    rcases get_set e with ⟨rfl, q⟩ | ⟨ne, q⟩
    · subst q
      obtain ⟨a, vs, rfl, o, _⟩ := h
      exact ⟨a, vs, by rw [List.getElem?_set_self (by rw [← r.len]; exact hi)], o⟩
    · obtain ⟨u, vs, q1, q2⟩ := r.own j l q
      exact ⟨u, vs, by rw [List.getElem?_set_ne ne]; exact q1, q2⟩
  apart := fun j k l l' a e1 e2 e3 e4 => by
    rcases get_set e1 with ⟨rfl, q⟩ | ⟨ne, q⟩
    · subst q
      rcases get_set e2 with ⟨rfl, q⟩ | ⟨ne, q⟩
      · rfl
      · obtain ⟨a', vs, rfl, o, ns⟩ := h
        rw [List.getElem?_set_self (by rw [← r.len]; exact hi)] at e3
        cases e3
        rw [List.getElem?_set_ne ne] at e4
        exact absurd e4 (ns k l' q)
    · rw [List.getElem?_set_ne ne] at e3
      rcases get_set e2 with ⟨rfl, q2⟩ | ⟨ne2, q2⟩
      · subst q2
        obtain ⟨a', vs, rfl, o, ns⟩ := h
        rw [List.getElem?_set_self (by rw [← r.len]; exact hi)] at e4
        cases e4
        exact absurd e3 (ns j l q)
      · rw [List.getElem?_set_ne ne2] at e4
        exact r.apart j k l l' a q q2 e3 e4
  mem := r.mem
  ml := r.ml
  nd := r.nd
  rf := r.rf
  rn := r.rn
  ft := r.ft
  fn := r.fn
  old := r.old
  oldT := r.oldT
  pt := r.pt
  bp := r.bp
  tab := r.tab
/-- slots forgotten, or known anew -/
theorem Rl.slots (r : Rl K Tb b σV ρ F H s) {σ' : List Rv} (hl : σ'.length = s.σ.length) (h : ∀ (i : Nat) x, σ'[i]? = some x → x = .un ∨ s.σ[i]? = some x ∨ ∃ d v, x = .val d ∧ σV[i]? = some (some v) ∧ Rep K ρ F H d v) :
    Rl K Tb b σV ρ F H { s with σ := σ' } where
  len := by rw [← r.len]; exact hl
  val := fun i d e => by
    rcases h i _ e with z | z | ⟨d', v, z, q, p⟩
    · cases z
    · exact r.val i d z
    · cases z; exact ⟨v, q, p⟩
  own := fun i l e => by
    rcases h i _ e with z | z | ⟨d', v, z, q, p⟩
    · cases z
    · exact r.own i l z
    · cases z
  apart := fun i j l l' a e1 e2 e3 e4 => by
    rcases h i _ e1 with z | z | ⟨d', v, z, q, p⟩
    · cases z
    · rcases h j _ e2 with z2 | z2 | ⟨d', v, z2, q, p⟩
      · cases z2
      · exact r.apart i j l l' a z z2 e3 e4
      · cases z2
    · cases z
  mem := r.mem
  ml := r.ml
  nd := r.nd
  rf := r.rf
  rn := r.rn
  ft := r.ft
  fn := r.fn
  old := r.old
  oldT := r.oldT
  pt := r.pt
  bp := r.bp
  tab := r.tab
/-- a name's own list is read: shared from now on -/
theorem Rl.read (r : Rl K Tb b σV ρ F H s) {i : Nat} {l : List D} (e : s.σ[i]? = some (.mls l)) : ∃ a F', σV[i]? = some (some (.ref a)) ∧ (∀ c, F c → F' c) ∧ Rl K Tb b σV ρ F' H { s with σ := s.σ.set i (.val (.lst l)) } ∧ Rep K ρ F' H (.lst l) (.ref a) := by
  obtain ⟨a, vs, q, o⟩ := r.own i l e
  have r1 : Rl K Tb b σV ρ F H { s with σ := s.σ.set i .un } := r.slots (by simp) fun j x h => by
    rcases get_set h with ⟨rfl, z⟩ | ⟨ne, z⟩
    · exact .inl z
    · exact .inr (.inl z)
  have r2 := r1.share ⟨_, o.at_, id⟩ o.nr o.new o.np fun j l' h z => by
    rcases get_set h with ⟨rfl, w⟩ | ⟨ne, w⟩
    · cases w
    · exact ne (r.apart i j l l' a e w q z)
  have p : Rep K ρ (fun c => F c ∨ c = a) H (.lst l) (.ref a) := by
    simp only [Rep]
    exact ⟨a, vs, rfl, .inl ⟨.inr rfl, .inl o.at_⟩, Reps.mono (ExS.more fun _ => .inl) _ _ o.reps⟩
  refine ⟨a, _, q, fun _ => .inl, ?_, p⟩
  have := r2.slots (σ' := s.σ.set i (.val (.lst l))) (by simp) fun j x h => by
    rcases get_set h with ⟨rfl, z⟩ | ⟨ne, z⟩
    · exact .inr (.inr ⟨_, _, z, q, p⟩)
    · exact .inr (.inl (by show (s.σ.set i .un)[j]? = some x; rw [List.getElem?_set_ne ne]; exact z))
  exact this
end
section
variable {g : Gd} {c : Cc} {pos : Pos} {e e2 e3 : Expr} {i i2 i3 : E}
theorem se_v {x : Str} {i : Nat} (h : slotR c x = some i) : SE g c (.Name x pos) (.v i) := by
  obtain ⟨h1, h2, h3⟩ := slotR_of h
  obtain ⟨h4, h5, _⟩ := okName_of h3
  refine ⟨_, fun X hX => L2.pe_var (i := i) (by rw [hX.N]; exact h1) (by rw [hX.sc]; exact h2) h4 h5, fun b σV ρ F H s Q rl h => ?_⟩
  simp only [evE, rdV] at h
  split at h
  · rename_i d q
    obtain ⟨v, p, t⟩ := rl.val i d q
    exact ⟨v, p, h.fin rl t⟩
  · rename_i l q
    obtain ⟨a, F', p, m, r2, t⟩ := rl.read q
    exact ⟨_, p, (h.later (ExE.more m)).fin r2 t⟩
  · exact h.elim
theorem se_cst {gt : List (Str × Gv)} (gk : GOk g gt) (hc : c.gt = gt) {x : Str} {n : Nat} (h : globV c x = some (.cst n)) : SE g c (.Name x pos) (.cst n) := by
  obtain ⟨h1, h2, h3⟩ := globV_of h
  obtain ⟨h4, h5, _⟩ := okName_of h3
  obtain ⟨v, u, h6, h7, h8⟩ := gk.cst x n (hc ▸ h2)
  refine ⟨_, fun X hX => L2.pe_glob (hX.gl h) (by rw [hX.mg]; exact h6) h7 h4, fun b σV ρ F H s Q rl h => ?_⟩
  simp only [evE] at h
  exact h.fin rl (h8 _ _ _)

/-! ### argument lists, displays -/
theorem star_no (h : isStar e = false) (es : List Expr) (env : Env) : starEach (e :: es) env = (false, eval e env) :: starEach es env := by
  cases e <;> first | rfl | cases h
theorem ses_nil : SEs g c [] .nil := ⟨_, fun _ _ => L2.pa_nil, fun b σV ρ F H s Q rl h => by
  simp only [evEs] at h
  exact h.fin rl Reps.nil⟩
theorem ses_cons {es : List Expr} {is : Es} (h : isStar e = false) (he : SE g c e i) (hs : SEs g c es is) : SEs g c (e :: es) (.cons i is) := by
  obtain ⟨t, h1, h2⟩ := he
  obtain ⟨t', h3, h4⟩ := hs
  refine ⟨_, fun X hX => L2.pa_cons (h1 X hX) (h3 X hX) (star_no h es _), fun b σV ρ F H s Q rl h => ?_⟩
  simp only [evEs] at h
  refine h.step (T := fun Q' => t σV H Q') (fun Q' q => h2 _ _ _ _ _ _ _ rl q) fun x s1 v ρ1 F1 H1 _ e1 r1 p1 q1 => ?_
  refine q1.part (T := fun Q' => t' σV H1 Q') (fun Q' q => h4 _ _ _ _ _ _ _ r1 q) fun xs s2 vs ρ2 F2 H2 _ e2 r2 p2 q2 => ?_
  exact q2.fin r2 (Reps.cons (Rep.mono (e2.toS r1) _ _ p1) p2)
theorem se_tup {es : List Expr} {k : Nat} {is : Es} (hs : SEs g c es is) : SE g c (.Tuple es k pos) (.tup is) := by
  obtain ⟨t, h1, h2⟩ := hs
  refine ⟨_, fun X hX => L2.pe_tup (h1 X hX), fun b σV ρ F H s Q rl h => ?_⟩
  simp only [evE] at h
  refine h.part (T := fun Q' => t σV H Q') (fun Q' q => h2 _ _ _ _ _ _ _ rl q) fun l s1 vs ρ1 F1 H1 _ e1 r1 p1 q1 => ?_
  obtain ⟨q1, q2⟩ := q1.ite
  exact ⟨by rw [p1.length]; exact q1, fun p hp => q2.fin' (same_upd hp) r1 (Rep.newT hp p1)⟩
theorem se_lst {es : List Expr} {is : Es} (hs : SEs g c es is) : SE g c (.List es pos) (.lst is) := by
  obtain ⟨t, h1, h2⟩ := hs
  refine ⟨_, fun X hX => L2.pe_lst (h1 X hX), fun b σV ρ F H s Q rl h => ?_⟩
  simp only [evE] at h
  refine h.part (T := fun Q' => t σV H Q') (fun Q' q => h2 _ _ _ _ _ _ _ rl q) fun l s1 vs ρ1 F1 H1 _ e1 r1 p1 q1 => ?_
  obtain ⟨q1, q2⟩ := q1.ite
  exact ⟨by rw [p1.length]; exact q1, fun p hp => q2.fin' (same_upd hp) r1 (RepR.new r1 hp p1)⟩
end
section
variable {K : PySem.W.Frag} {Tb : Addr → Prop} {b : Bx} {σV : L2.St} {ρ ρ' : List Addr} {F F' : Addr → Prop} {H H' : Hp} {s : S}
theorem get_push {α : Type} {l : List α} {x y : α} {n : Nat} (h : (l ++ [x])[n]? = some y) : l[n]? = some y ∨ (n = l.length ∧ y = x) := by
  by_cases k : n < l.length
  · rw [List.getElem?_append_left k] at h; exact .inl h
  · rw [List.getElem?_append_right (by omega)] at h
    by_cases e : n = l.length
    · subst e; simp at h; exact .inr ⟨rfl, h.symm⟩
    · rw [List.getElem?_eq_none (by simp; omega)] at h; cases h
theorem exE_ref {p : Addr} {o : HO} (hp : H p = none) : ExE ρ F H (ρ ++ [p]) F (upd H p o) :=
  ⟨fun n a h => by rw [List.getElem?_append_left (List.getElem?_eq_some_iff.mp h).1]; exact h, fun _ h => h, fun a o h _ _ => same_upd hp a o h, fun a o h t => ⟨o, same_upd hp a o h, t⟩, fun a m => by
    rcases List.mem_append.mp m with z | z
    · exact .inl z
    · rw [List.mem_singleton.mp z]; exact .inr hp⟩
/-- a new list by number -/
theorem Rl.newRef (r : Rl K Tb b σV ρ F H s) {p : Addr} {l : List D} {vs : List V} (hp : H p = none) (h : Reps K ρ F H l vs) : Rl K Tb b σV (ρ ++ [p]) F (upd H p (.lst vs)) { s with M := s.M ++ [l] } := by
  obtain ⟨h1, h2, h3, h4, h5⟩ := r.free hp
  have x : ExS ρ F H (ρ ++ [p]) F (upd H p (.lst vs)) := (exE_ref hp).toS r
  have sm : Same H (upd H p (.lst vs)) := same_upd hp
  refine ⟨r.len, fun i d e => ?_, fun i l e => ?_, r.apart, fun n l' e => ?_, by simp [r.ml], ?_, fun a m => ?_, fun a m => ?_, fun a f => ?_, r.fn, fun a o e n t => sm _ _ (r.old a o e n t), fun a o q t => (let ⟨o1, q1, t1⟩ := r.oldT a o q t; ⟨o1, sm _ _ q1, t1⟩), fun a q => ?_, fun a m => List.mem_append_left _ (r.bp a m), fun P q => (let ⟨ps, e, t⟩ := r.tab P q; ⟨ps, sm _ _ e, t⟩)⟩
  · obtain ⟨v, q, t⟩ := r.val i d e
    exact ⟨v, q, Rep.mono x _ _ t⟩
  · obtain ⟨a, us, q, o⟩ := r.own i l e
    refine ⟨a, us, q, o.mono x (sm _ _ o.at_) o.nf fun m => ?_⟩
    rcases List.mem_append.mp m with z | z
    · exact o.nr z
    · rw [List.mem_singleton.mp z] at q; exact h5 i l e q
  · rcases get_push e with z | ⟨z1, z2⟩
    · obtain ⟨a, us, q, t, w⟩ := r.mem n l' z
      exact ⟨a, us, x.pre n a q, sm _ _ t, Reps.mono x _ _ w⟩
    · subst z2
      exact ⟨p, vs, by rw [z1, ← r.ml]; simp, upd_same, Reps.mono x _ _ h⟩
  · rw [List.nodup_append]
    exact ⟨r.nd, by simp, fun a m q n => by rw [List.mem_singleton.mp n]; rintro rfl; exact h2 m⟩
  · rcases List.mem_append.mp m with z | z
    · exact r.rf a z
    · rw [List.mem_singleton.mp z]; exact ⟨h1, h4⟩
  · rcases List.mem_append.mp m with z | z
    · exact r.rn a z
    · rw [List.mem_singleton.mp z]; exact .inr h3
  · obtain ⟨o, q, t⟩ := r.ft a f
    exact ⟨o, sm _ _ q, t⟩
  · obtain ⟨z1, o, q, t⟩ := r.pt a q
    exact ⟨z1, o, sm _ _ q, t⟩
end
section
variable {g : Gd} {c : Cc} {pos : Pos} {e e2 e3 : Expr} {i i2 i3 : E}
theorem se_rls {es : List Expr} {is : Es} (hs : SEs g c es is) : SE g c (.List es pos) (.rls is) := by
  obtain ⟨t, h1, h2⟩ := hs
  refine ⟨_, fun X hX => L2.pe_lst (h1 X hX), fun b σV ρ F H s Q rl h => ?_⟩
  simp only [evE] at h
  refine h.part (T := fun Q' => t σV H Q') (fun Q' q => h2 _ _ _ _ _ _ _ rl q) fun l s1 vs ρ1 F1 H1 _ e1 r1 p1 q1 => ?_
  obtain ⟨q1, q2⟩ := q1.ite
  refine ⟨by rw [p1.length]; exact q1, fun p hp => q2 _ _ _ _ (exE_ref hp) (r1.newRef hp p1) ?_⟩
  simp only [RepR, Rep]
  exact ⟨p, by rw [← r1.ml]; simp, rfl⟩
end
end Ev


set_option Elab.async false
set_option linter.all false
set_option maxRecDepth 100000
set_option maxHeartbeats 1000000
/-! EvD: operators, calls of built-ins. -/
namespace Ev
open PySem
open L2 (V Hp HO SqL SqT Rd upd upd_same upd_ne Same TE VK PE PT PW PA XK Sp FnOk Binds Room CX0 E0 Cx OpR CallR R2)

theorem or_op {X : Cx} {f : Value → Value → Sem Value} {r r' : R2} (h : OpR X f r) (h' : OpR X f r') : OpR X f (fun x y H Q => r x y H Q ∨ r' x y H Q) := fun pins s σ H x y v u Q I rx ry q =>
  q.elim (h pins s σ H x y v u Q I rx ry) (h' pins s σ H x y v u Q I rx ry)
def rAddS : R2 := fun x y H Q => ∃ i j, x = .str i ∧ y = .str j ∧ i.length + j.length ≤ sizeLine ∧ Q (.str (i ++ j)) H
/-- list + list, whoever else has them -/
def rCatR (K : PySem.W.Frag) : R2 := fun x y H Q => ∃ l m xs zs, x = .ref l ∧ y = .ref m ∧ SqL K H l xs ∧ SqL K H m zs ∧ xs.length + zs.length ≤ sizeLine ∧ ∀ p, H p = none → Q (.ref p) (upd H p (.lst (xs ++ zs)))
theorem op_catR {X : Cx} : OpR X (binaryOp .Add) (rCatR X.K) := by
  intro pins s σ H x y v u Q I rx ry h
  obtain ⟨l, m, xs, zs, rfl, rfl, h1, h2, hz, q⟩ := h
  cases rx
  cases ry
  obtain ⟨as, r, ⟨⟨c1, d1, dt1, sl1⟩, n, e, hc1, hd1, ht1⟩, _⟩ := I.list h1
  obtain ⟨bs, r2, ⟨⟨c2, d2, dt2, sl2⟩, k, e2, hc2, hd2, ht2⟩, _⟩ := I.list h2
  simp only at hc1 hd1 ht1 hc2 hd2 ht2
  subst hc1 hd1 ht1 hc2 hd2 ht2
  have la := r.length
  have lb := r2.length
  have ea : as.toArray ++ bs.toArray = (as ++ bs).toArray := by simp
  refine concat_meets ⟨_, e, rfl⟩ ⟨_, e2, rfl⟩ noFill_list_add seq_list_add PySem.F.slot_list_add PySem.F.entry_list_add (PySem.F.args_list_add_2 _ _)
    (PyProof.Rows.list_addW l m as.toArray bs.toArray n k none none sl1 sl2 (by simp only [List.size_toArray]; omega)) ⟨e, e2, ?_⟩
  rw [ea]
  exact ⟨.ref _, _, L2.Inv.lnew (t' := s.toks) I (r.append r2) (by simp only [List.length_append]; omega), rfl, q _ (L2.Inv.fresh I)⟩
def rBin (K : PySem.W.Frag) : Bop → R2
  | .add => fun x y H Q => (L2.rI0 (fun i j => .int (i + j)) x y H Q ∨ rAddS x y H Q) ∨ (L2.rCatA K x y H Q ∨ rCatR K x y H Q)
  | .sub => L2.rI0 fun i j => .int (i - j)
  | .mul => L2.rI L2.CMul fun i j => .int (i * j)
  | .fdiv => L2.rI L2.CDiv fun i j => .int (i / j)
  | .mod => L2.rI (fun _ j => 0 < j) fun i j => .int (i % j)
theorem op_bin {X : Cx} {o : Operator} {p : Bop} (h : bopO o = some p) : OpR X (binaryOp o) (rBin X.K p) := by
  unfold bopO at h
  split at h
  · cases h; exact or_op (or_op L2.op_add L2.op_add_str) (or_op L2.op_catA op_catR)
  · cases h; exact L2.op_sub
  · cases h; exact L2.op_mul
  · cases h; exact L2.op_fdiv
  · cases h; exact L2.op_mod
  · cases h
section
variable {K : PySem.W.Frag} {Tb : Addr → Prop} {b : Bx} {σV : L2.St} {ρ : List Addr} {F : Addr → Prop} {H : Hp} {s : S} {Q : VK}
theorem two64_of {i : Int} (h : two64 i = true) : -(2 ^ 64) < i ∧ i < 2 ^ 64 := by
  unfold two64 at h
  simpa using h
theorem bin_ok {o : Bop} {x y : D} {v u : V} {rv : Rv} (rl : Rl K Tb b σV ρ F H s) (p : Rep K ρ F H x v) (q : Rep K ρ F H y u) (e : binD o x y = some rv) (h : WG K Tb b σV ρ F H (RepR K b σV) Q (.ok (rv, s))) : rBin K o v u H Q := by
  unfold binD at e
  split at e
  · simp only [Rep] at p q
    subst p q
    cases e
    exact .inl (.inl ⟨_, _, rfl, rfl, h.fin rl (by simp only [RepR, Rep])⟩)
  · simp only [Rep] at p q
    subst p q
    split at e
    · cases e
      exact .inl (.inr ⟨_, _, rfl, rfl, by assumption, h.fin rl (by simp only [RepR, Rep])⟩)
    · cases e
  · simp only [Rep] at p q
    obtain ⟨a, vs, rfl, h1, h2⟩ := p
    obtain ⟨c, us, rfl, h3, h4⟩ := q
    split at e
    · rename_i hz
      cases e
      have e1 := h2.length
      have e2 := h4.length
      refine .inr (.inl ⟨a, c, vs, us, rfl, rfl, h1, h3, by rw [e1, e2]; exact hz, fun z => ?_, fun _ z => ?_, fun _ _ p hp => ?_⟩)
      · refine h.fin rl ?_
        simp only [RepR, Rep]
        refine ⟨c, us, rfl, h3, ?_⟩
        have := Reps.append h2 h4
        rw [z] at this
        exact this
      · refine h.fin rl ?_
        simp only [RepR, Rep]
        refine ⟨a, vs, rfl, h1, ?_⟩
        have := Reps.append h2 h4
        rw [z, List.append_nil] at this
        exact this
      · exact h.fin' (same_upd hp) rl (Rep.newT hp (Reps.append h2 h4))
    · cases e
  · simp only [Rep] at p q
    obtain ⟨a, vs, rfl, h1, h2⟩ := p
    obtain ⟨c, us, rfl, h3, h4⟩ := q
    split at e
    · rename_i hz
      cases e
      have e1 := h2.length
      have e2 := h4.length
      exact .inr (.inr ⟨a, c, vs, us, rfl, rfl, h1.sq K F H, h3.sq K F H, by rw [e1, e2]; exact hz, fun p hp => h.fin' (same_upd hp) rl (RepR.new rl hp (Reps.append h2 h4))⟩)
    · cases e
  all_goals try simp only [Rep] at p q
  all_goals try subst p q
  · cases e
    exact ⟨_, _, rfl, rfl, h.fin rl (by simp only [RepR, Rep])⟩
  · split at e
    · rename_i hz
      cases e
      refine ⟨_, _, rfl, rfl, ?_, h.fin rl (by simp only [RepR, Rep])⟩
      rcases Bool.or_eq_true_iff.mp hz with z | z
      · exact .inl (two64_of z)
      · exact .inr (two64_of z)
    · cases e
  · split at e
    · rename_i hz
      cases e
      exact ⟨_, _, rfl, rfl, hz, h.fin rl (by simp only [RepR, Rep])⟩
    · cases e
  · split at e
    · rename_i hz
      cases e
      exact ⟨_, _, rfl, rfl, hz, h.fin rl (by simp only [RepR, Rep])⟩
    · cases e
  · cases e
end
section
variable {g : Gd} {c : Cc} {pos : Pos} {e e2 e3 : Expr} {i i2 i3 : E}
theorem se_bin {o : Operator} {p : Bop} (h : bopO o = some p) (ha : SE g c e i) (hb : SE g c e2 i2) : SE g c (.BinOp e o e2 pos) (.bin p i i2) := by
  obtain ⟨t, h1, h2⟩ := ha
  obtain ⟨t', h3, h4⟩ := hb
  refine ⟨L2.tOp (rBin g.K p) t t', fun X hX => L2.pe_op (by rw [← hX.K]; exact op_bin h) (h1 X hX) (h3 X hX), fun b σV ρ F H s Q rl h => ?_⟩
  simp only [evE] at h
  refine h.step (T := fun Q' => t σV H Q') (fun Q' q => h2 _ _ _ _ _ _ _ rl q) fun x s1 v ρ1 F1 H1 _ e1 r1 p1 q1 => ?_
  refine q1.step (T := fun Q' => t' σV H1 Q') (fun Q' q => h4 _ _ _ _ _ _ _ r1 q) fun y s2 u ρ2 F2 H2 _ e2 r2 p2 q2 => ?_
  obtain ⟨rv, e3, q3⟩ := q2.opt
  exact bin_ok r2 (Rep.mono (e2.toS r1) _ _ p1) p2 e3 q3
/-! ### comparisons -/
mutual
theorem Rep.dp {K : PySem.W.Frag} {ρ : List Addr} {F : Addr → Prop} {H : Hp} : ∀ (d : D) (v : V), pyOk d = true → Rep K ρ F H d v → L2.Dp K H v (toPy d)
  | .non, _, _, h => by simp only [Rep] at h; subst h; exact .non
  | .bl _, _, _, h => by simp only [Rep] at h; subst h; exact .bl _
  | .int _, _, _, h => by simp only [Rep] at h; subst h; exact .int _
  | .str _, _, _, h => by simp only [Rep] at h; subst h; exact .str _
  | .tup l, _, k, h => by
    simp only [Rep] at h
    obtain ⟨a, vs, rfl, h1, h2⟩ := h
    exact .tup h1 (Reps.dp l vs k h2)
  | .lst l, _, k, h => by
    simp only [Rep] at h
    obtain ⟨a, vs, rfl, h1, h2⟩ := h
    exact .lst (h1.sq K F H) (Reps.dp l vs k h2)
  | .dic _ _, _, k, _ => by cases k
  | .ref _, _, k, _ => by cases k
theorem Reps.dp {K : PySem.W.Frag} {ρ : List Addr} {F : Addr → Prop} {H : Hp} : ∀ (ds : List D) (vs : List V), pyOks ds = true → Reps K ρ F H ds vs → L2.DpAll K H vs (toPys ds)
  | [], _, _, h => by simp only [Reps] at h; subst h; exact .nil
  | d :: ds, _, k, h => by
    simp only [Reps] at h
    obtain ⟨v, r, rfl, h1, h2⟩ := h
    simp only [pyOks, Bool.and_eq_true] at k
    exact .cons (Rep.dp d v k.1 h1) (Reps.dp ds r k.2 h2)
end
theorem flat_rep {K : PySem.W.Frag} {ρ : List Addr} {F : Addr → Prop} {H : Hp} {d : D} {v w : V} (h : Rep K ρ F H d v) (e : flatD d = some w) : v = w ∧ L2.flatV w = true := by
  cases d <;> first | (cases e; done) | (simp only [Rep] at h; cases e; exact ⟨h, rfl⟩)
theorem flats_rep {K : PySem.W.Frag} {ρ : List Addr} {F : Addr → Prop} {H : Hp} : ∀ {ds : List D} {vs ws : List V}, Reps K ρ F H ds vs → flatDs ds = some ws → vs = ws ∧ ws.all L2.flatV = true
  | [], _, _, h, e => by simp only [Reps] at h; cases e; exact ⟨h, rfl⟩
  | d :: ds, _, ws, h, e => by
    simp only [Reps] at h
    obtain ⟨v, r, rfl, h1, h2⟩ := h
    simp only [flatDs] at e
    cases q : flatD d with
    | none => rw [q] at e; cases e
    | some w =>
      rw [q] at e
      cases q2 : flatDs ds with
      | none => rw [q2] at e; cases e
      | some us =>
        rw [q2] at e
        cases e
        obtain ⟨k1, k2⟩ := flat_rep h1 q
        obtain ⟨k3, k4⟩ := flats_rep h2 q2
        exact ⟨by rw [k1, k3], by rw [List.all_cons, k2, k4]; rfl⟩
def rLt (p : Int → Int → Bool) : R2 := L2.rI0 fun i j => .bl (p i j)
def rCmp (K : PySem.W.Frag) : Cop → R2
  | .eq => fun x y H Q => L2.rEq x y H Q ∨ L2.rEqD K x y H Q
  | .ne => fun x y H Q => L2.rNe x y H Q ∨ L2.rNeD K x y H Q
  | .lt => rLt fun i j => decide (i < j)
  | .le => rLt fun i j => decide (i ≤ j)
  | .gt => rLt fun i j => decide (j < i)
  | .ge => rLt fun i j => decide (j ≤ i)
  | .isin => L2.rIn K false
  | .notin => L2.rIn K true
theorem op_cmp {X : Cx} {o : CmpOp} {p : Cop} (hu : X.A.units + 64 < cLine) (h : copO o = some p) : OpR X (compareOp o) (rCmp X.K p) := by
  unfold copO at h
  split at h
  · cases h; exact or_op L2.op_eq (L2.op_eqD hu)
  · cases h; exact or_op L2.op_ne (L2.op_neD hu)
  · cases h; exact L2.op_lt
  · cases h; exact L2.op_le
  · cases h; exact L2.op_gt
  · cases h; exact L2.op_ge
  · cases h; exact L2.op_in_seq
  · cases h; exact L2.op_notIn_seq
  · cases h
section
variable {K : PySem.W.Frag} {Tb : Addr → Prop} {b : Bx} {σV : L2.St} {ρ : List Addr} {F : Addr → Prop} {H : Hp} {s : S} {Q : VK}
theorem eq_ok {x y : D} {v u : V} {k : Bool} (p : Rep K ρ F H x v) (q : Rep K ρ F H y u) (e : eqD x y = some k) : (L2.scal v u = true ∧ decide (v = u) = k) ∨ ∃ d f, L2.Dp K H v d ∧ L2.Dp K H u f ∧ SeqAt.shaped d = true ∧ SeqAt.shaped f = true ∧ PyData.eqv d f = k := by
  unfold eqD at e
  split at e
  case h_15 =>
    split at e
    · rename_i hz
      simp only [Bool.and_eq_true] at hz
      cases e
      exact .inr ⟨_, _, Rep.dp _ _ hz.1.1.1 p, Rep.dp _ _ hz.1.1.2 q, hz.1.2, hz.2, rfl⟩
    · cases e
  all_goals
    simp only [Rep] at p q
    subst p q
    cases e
    refine .inl ⟨rfl, ?_⟩
    first
      | rfl
      | (apply decide_eq_false; intro z; cases z; done)
      | (rw [L2.dec_bl]; done)
      | (simp; done)
theorem in_ok {x y : D} {v u : V} {k : Bool} (p : Rep K ρ F H x v) (q : Rep K ρ F H y u) (e : inD x y = some k) : ∃ a xs, u = .ref a ∧ (SqL K H a xs ∨ SqT K H a xs) ∧ L2.flatV v = true ∧ xs.all L2.flatV = true ∧ L2.inV v xs = k := by
  have go : ∀ (l : List D) (vs : List V), Reps K ρ F H l vs → inSeq x l = some k → L2.flatV v = true ∧ vs.all L2.flatV = true ∧ L2.inV v vs = k := fun l vs r e => by
    unfold inSeq at e
    cases q1 : flatD x with
    | none => rw [q1] at e; cases e
    | some w =>
      rw [q1] at e
      cases q2 : flatDs l with
      | none => rw [q2] at e; cases e
      | some ws =>
        rw [q2] at e
        cases e
        obtain ⟨k1, k2⟩ := flat_rep p q1
        obtain ⟨k3, k4⟩ := flats_rep r q2
        exact ⟨by rw [k1]; exact k2, by rw [k3]; exact k4, by rw [k1, k3]⟩
  unfold inD at e
  split at e
  · simp only [Rep] at q
    obtain ⟨a, vs, rfl, h1, h2⟩ := q
    obtain ⟨k1, k2, k3⟩ := go _ _ h2 e
    exact ⟨a, vs, rfl, .inr h1, k1, k2, k3⟩
  · simp only [Rep] at q
    obtain ⟨a, vs, rfl, h1, h2⟩ := q
    obtain ⟨k1, k2, k3⟩ := go _ _ h2 e
    exact ⟨a, vs, rfl, .inl (h1.sq K F H), k1, k2, k3⟩
  · cases e
theorem cmp_ok {o : Cop} {x y : D} {v u : V} {k : Bool} (p : Rep K ρ F H x v) (q : Rep K ρ F H y u) (e : cmpD o x y = some k) (h : Q (.bl k) H) : rCmp K o v u H Q := by
  unfold cmpD at e
  split at e
  · rcases eq_ok p q e with ⟨k1, k2⟩ | ⟨d, f, k1, k2, k3, k4, k5⟩
    · exact .inl ⟨k1, by rw [k2]; exact h⟩
    · exact .inr ⟨d, f, k1, k2, k3, k4, by rw [k5]; exact h⟩
  · cases q1 : eqD _ _ with
    | none => rw [q1] at e; cases e
    | some k' =>
      rw [q1] at e
      cases e
      rcases eq_ok p q q1 with ⟨k1, k2⟩ | ⟨d, f, k1, k2, k3, k4, k5⟩
      · exact .inl ⟨k1, by rw [k2]; exact h⟩
      · exact .inr ⟨d, f, k1, k2, k3, k4, by rw [k5]; exact h⟩
  · obtain ⟨a, xs, k1, k2, k3, k4, k5⟩ := in_ok p q e
    exact ⟨a, xs, k1, k2, k3, k4, by rw [k5]; exact h⟩
  · cases q1 : inD _ _ with
    | none => rw [q1] at e; cases e
    | some k' =>
      rw [q1] at e
      cases e
      obtain ⟨a, xs, k1, k2, k3, k4, k5⟩ := in_ok p q q1
      exact ⟨a, xs, k1, k2, k3, k4, by rw [k5]; exact h⟩
  · simp only [Rep] at p q
    subst p q
    cases e
    exact ⟨_, _, rfl, rfl, h⟩
  · simp only [Rep] at p q
    subst p q
    cases e
    exact ⟨_, _, rfl, rfl, h⟩
  · simp only [Rep] at p q
    subst p q
    cases e
    exact ⟨_, _, rfl, rfl, h⟩
  · simp only [Rep] at p q
    subst p q
    cases e
    exact ⟨_, _, rfl, rfl, h⟩
  · cases e
end
theorem mark_no {e : Expr} (h : isSet e = false) (o : CmpOp) : behindInMarks o e = false := by
  cases e <;> first | rfl | cases h
theorem se_cmp {o : CmpOp} {p : Cop} (h : copO o = some p) (hm : isSet e2 = false) (ha : SE g c e i) (hb : SE g c e2 i2) : SE g c (.Compare e [o] [e2] pos) (.cmp p i i2) := by
  obtain ⟨t, h1, h2⟩ := ha
  obtain ⟨t', h3, h4⟩ := hb
  refine ⟨L2.tOp (rCmp g.K p) t t', fun X hX => L2.pe_cmpR (by rw [← hX.K]; exact op_cmp hX.room.units h) (h1 X hX) (h3 X hX) (mark_no hm o), fun b σV ρ F H s Q rl h => ?_⟩
  simp only [evE] at h
  refine h.step (T := fun Q' => t σV H Q') (fun Q' q => h2 _ _ _ _ _ _ _ rl q) fun x s1 v ρ1 F1 H1 _ e1 r1 p1 q1 => ?_
  refine q1.step (T := fun Q' => t' σV H1 Q') (fun Q' q => h4 _ _ _ _ _ _ _ r1 q) fun y s2 u ρ2 F2 H2 _ e2 r2 p2 q2 => ?_
  obtain ⟨rv, e3, q3⟩ := q2.opt
  exact cmp_ok (Rep.mono (e2.toS r1) _ _ p1) p2 e3 (q3.fin r2 (by simp only [RepR, Rep]))
/-- as a test -/
theorem sb_cmp {o : CmpOp} {p : Cop} (h : copO o = some p) (hm : isSet e2 = false) (ha : SE g c e i) (hb : SE g c e2 i2) : SB g c (.Compare e [o] [e2] pos) (.of (.cmp p i i2)) := by
  obtain ⟨t, h1, h2⟩ := ha
  obtain ⟨t', h3, h4⟩ := hb
  refine ⟨L2.tTest (L2.tOp (rCmp g.K p) t t'), fun X hX => L2.pt_cmpR (by rw [← hX.K]; exact op_cmp hX.room.units h) (h1 X hX) (h3 X hX) (mark_no hm o), fun b σV ρ F H s Q rl h => ?_⟩
  simp only [evB, evE] at h
  have h' : WG g.K g.Tb b σV ρ F H (fun _ _ _ _ k k' => k' = k) Q ((evE g.C g.D i s).b2 fun x s => (evE g.C g.D i2 s).b2 fun y s => (opt (cmpD p x.fz y.fz)).bind fun r => .ok (r, s)) := by
    cases z : evE g.C g.D i s with
    | ok q =>
      obtain ⟨x, s1⟩ := q
      rw [z] at h
      simp only [Res.b2] at h ⊢
      cases z2 : evE g.C g.D i2 s1 with
      | ok q =>
        obtain ⟨y, s2⟩ := q
        rw [z2] at h
        simp only [Res.b2] at h ⊢
        cases z3 : cmpD p x.fz y.fz with
        | none => rw [z3] at h; exact h.elim
        | some k => rw [z3] at h; exact h
      | exc _ => rw [z2] at h; exact h.elim
      | bad => rw [z2] at h; exact h.elim
    | exc _ => rw [z] at h; exact h.elim
    | bad => rw [z] at h; exact h.elim
  refine h'.step (T := fun Q' => t σV H Q') (fun Q' q => h2 _ _ _ _ _ _ _ rl q) fun x s1 v ρ1 F1 H1 _ e1 r1 p1 q1 => ?_
  refine q1.step (T := fun Q' => t' σV H1 Q') (fun Q' q => h4 _ _ _ _ _ _ _ r1 q) fun y s2 u ρ2 F2 H2 _ e2 r2 p2 q2 => ?_
  obtain ⟨rv, e3, q3⟩ := q2.opt
  exact cmp_ok (Rep.mono (e2.toS r1) _ _ p1) p2 e3 ⟨_, rfl, q3.fin r2 rfl⟩

/-! ### is None; and, or, not; a if t else b -/
theorem rep_non {K : PySem.W.Frag} {ρ : List Addr} {F : Addr → Prop} {H : Hp} {d : D} {v : V} (h : Rep K ρ F H d v) : decide (v = V.non) = isNon d := by
  cases d with
  | non => simp only [Rep] at h; subst h; rfl
  | bl _ => simp only [Rep] at h; subst h; rfl
  | int _ => simp only [Rep] at h; subst h; rfl
  | str _ => simp only [Rep] at h; subst h; rfl
  | tup _ => simp only [Rep] at h; obtain ⟨a, vs, rfl, _⟩ := h; rfl
  | lst _ => simp only [Rep] at h; obtain ⟨a, vs, rfl, _⟩ := h; rfl
  | dic _ _ => simp only [Rep] at h; obtain ⟨a, vs, rfl, _⟩ := h; rfl
  | ref _ => simp only [Rep] at h; obtain ⟨a, _, rfl⟩ := h; rfl
theorem se_isn {j : Nat} {p2 : Pos} (ha : SE g c e i) : SE g c (.Compare e [.Is] [.Constant .none j p2] pos) (.isn i) := by
  obtain ⟨t, h1, h2⟩ := ha
  refine ⟨L2.tIsN t, fun X hX => L2.pe_cmp (L2.pc_isN (h1 X hX)) rfl, fun b σV ρ F H s Q rl h => ?_⟩
  simp only [evE] at h
  refine h.step (T := fun Q' => t σV H Q') (fun Q' q => h2 _ _ _ _ _ _ _ rl q) fun x s1 v ρ1 F1 H1 _ e1 r1 p1 q1 => ?_
  rw [rep_non p1]
  exact q1.fin r1 (by simp only [RepR, Rep])
theorem se_notn {j : Nat} {p2 : Pos} (ha : SE g c e i) : SE g c (.Compare e [.IsNot] [.Constant .none j p2] pos) (.notn i) := by
  obtain ⟨t, h1, h2⟩ := ha
  refine ⟨L2.tNotN t, fun X hX => L2.pe_cmp (L2.pc_notN (h1 X hX)) rfl, fun b σV ρ F H s Q rl h => ?_⟩
  simp only [evE] at h
  refine h.step (T := fun Q' => t σV H Q') (fun Q' q => h2 _ _ _ _ _ _ _ rl q) fun x s1 v ρ1 F1 H1 _ e1 r1 p1 q1 => ?_
  rw [rep_non p1]
  exact q1.fin r1 (by simp only [RepR, Rep])
/-- as tests -/
theorem sb_isn {j : Nat} {p2 : Pos} (ha : SE g c e i) : SB g c (.Compare e [.Is] [.Constant .none j p2] pos) (.of (.isn i)) := by
  obtain ⟨t, h1, h2⟩ := ha
  refine ⟨L2.tB (L2.tIsN t), fun X hX => L2.pt_cmp (L2.pc_isN (h1 X hX)) rfl, fun b σV ρ F H s Q rl h => ?_⟩
  simp only [evB, evE] at h
  have h' : WG g.K g.Tb b σV ρ F H (fun _ _ _ _ k k' => k' = k) Q ((evE g.C g.D i s).b2 fun x s => .ok (isNon x.fz, s)) := by
    cases z : evE g.C g.D i s with
    | ok q => rw [z] at h; exact h
    | exc _ => rw [z] at h; exact h.elim
    | bad => rw [z] at h; exact h.elim
  refine h'.step (T := fun Q' => t σV H Q') (fun Q' q => h2 _ _ _ _ _ _ _ rl q) fun x s1 v ρ1 F1 H1 _ e1 r1 p1 q1 => ?_
  rw [rep_non p1]
  exact ⟨_, rfl, q1.fin r1 rfl⟩
theorem sb_notn {j : Nat} {p2 : Pos} (ha : SE g c e i) : SB g c (.Compare e [.IsNot] [.Constant .none j p2] pos) (.of (.notn i)) := by
  obtain ⟨t, h1, h2⟩ := ha
  refine ⟨L2.tB (L2.tNotN t), fun X hX => L2.pt_cmp (L2.pc_notN (h1 X hX)) rfl, fun b σV ρ F H s Q rl h => ?_⟩
  simp only [evB, evE] at h
  have h' : WG g.K g.Tb b σV ρ F H (fun _ _ _ _ k k' => k' = k) Q ((evE g.C g.D i s).b2 fun x s => .ok (!isNon x.fz, s)) := by
    cases z : evE g.C g.D i s with
    | ok q => rw [z] at h; exact h
    | exc _ => rw [z] at h; exact h.elim
    | bad => rw [z] at h; exact h.elim
  refine h'.step (T := fun Q' => t σV H Q') (fun Q' q => h2 _ _ _ _ _ _ _ rl q) fun x s1 v ρ1 F1 H1 _ e1 r1 p1 q1 => ?_
  rw [rep_non p1]
  exact ⟨_, rfl, q1.fin r1 rfl⟩
theorem blOf_of {α β : Type} {K : PySem.W.Frag} {Tb : Addr → Prop} {b : Bx} {σV : L2.St} {ρ : List Addr} {F : Addr → Prop} {H : Hp} {R : List Addr → (Addr → Prop) → Hp → S → α → β → Prop} {Q : β → Hp → Prop} {x : Rv} {f : Bool → Res (α × S)} (h : WG K Tb b σV ρ F H R Q ((blOf x).bind f)) :
    ∃ k, x = .val (.bl k) ∧ WG K Tb b σV ρ F H R Q (f k) := by
  unfold blOf at h
  split at h
  · exact ⟨_, rfl, h⟩
  · exact h.elim
theorem se_one {o : BoolOp} (ha : SE g c e i) : SE g c (.BoolOp o [e] pos) i := by
  obtain ⟨t, h1, h2⟩ := ha
  exact ⟨t, fun X hX => L2.pe_one (h1 X hX), h2⟩
theorem se_and {r : List Expr} (ha : SE g c e i) (hb : SE g c (.BoolOp .And (e2 :: r) pos) i2) : SE g c (.BoolOp .And (e :: e2 :: r) pos) (.and i i2) := by
  obtain ⟨t, h1, h2⟩ := ha
  obtain ⟨t', h3, h4⟩ := hb
  refine ⟨L2.tAndV t t', fun X hX => L2.pe_and (h1 X hX) (h3 X hX), fun b σV ρ F H s Q rl h => ?_⟩
  simp only [evE] at h
  refine h.step (T := fun Q' => t σV H Q') (fun Q' q => h2 _ _ _ _ _ _ _ rl q) fun x s1 v ρ1 F1 H1 _ e1 r1 p1 q1 => ?_
  obtain ⟨k, rfl, q2⟩ := blOf_of q1
  simp only [Rv.fz, Rep] at p1
  refine ⟨k, p1, ?_⟩
  cases k with
  | true => exact h4 _ _ _ _ _ _ _ r1 q2
  | false => exact q2.fin r1 (by simp only [RepR, Rep])
theorem se_or {r : List Expr} (ha : SE g c e i) (hb : SE g c (.BoolOp .Or (e2 :: r) pos) i2) : SE g c (.BoolOp .Or (e :: e2 :: r) pos) (.or i i2) := by
  obtain ⟨t, h1, h2⟩ := ha
  obtain ⟨t', h3, h4⟩ := hb
  refine ⟨L2.tOrV t t', fun X hX => L2.pe_or (h1 X hX) (h3 X hX), fun b σV ρ F H s Q rl h => ?_⟩
  simp only [evE] at h
  refine h.step (T := fun Q' => t σV H Q') (fun Q' q => h2 _ _ _ _ _ _ _ rl q) fun x s1 v ρ1 F1 H1 _ e1 r1 p1 q1 => ?_
  obtain ⟨k, rfl, q2⟩ := blOf_of q1
  simp only [Rv.fz, Rep] at p1
  refine ⟨k, p1, ?_⟩
  cases k with
  | true => exact q2.fin r1 (by simp only [RepR, Rep])
  | false => exact h4 _ _ _ _ _ _ _ r1 q2
theorem se_not (ha : SE g c e i) : SE g c (.UnaryOp .Not e pos) (.not i) := by
  obtain ⟨t, h1, h2⟩ := ha
  refine ⟨L2.tNotV t, fun X hX => L2.pe_not (h1 X hX), fun b σV ρ F H s Q rl h => ?_⟩
  simp only [evE] at h
  refine h.step (T := fun Q' => t σV H Q') (fun Q' q => h2 _ _ _ _ _ _ _ rl q) fun x s1 v ρ1 F1 H1 _ e1 r1 p1 q1 => ?_
  obtain ⟨k, rfl, q2⟩ := blOf_of q1
  simp only [Rv.fz, Rep] at p1
  exact ⟨k, p1, q2.fin r1 (by simp only [RepR, Rep])⟩
theorem se_neg (ha : SE g c e i) : SE g c (.UnaryOp .USub e pos) (.neg i) := by
  obtain ⟨t, h1, h2⟩ := ha
  refine ⟨_, fun X hX => L2.pe_un L2.un_neg (h1 X hX), fun b σV ρ F H s Q rl h => ?_⟩
  simp only [evE] at h
  refine h.step (T := fun Q' => t σV H Q') (fun Q' q => h2 _ _ _ _ _ _ _ rl q) fun x s1 v ρ1 F1 H1 _ e1 r1 p1 q1 => ?_
  split at q1
  · simp only [Rv.fz, Rep] at p1
    exact ⟨_, p1, q1.fin r1 (by simp only [RepR, Rep])⟩
  · exact q1.elim
theorem se_ife {b : B} (hc : SB g c e b) (ha : SE g c e2 i2) (hb : SE g c e3 i3) : SE g c (.IfExp e e2 e3 pos) (.ife b i2 i3) := by
  obtain ⟨t, h1, h2⟩ := hc
  obtain ⟨t', h3, h4⟩ := ha
  obtain ⟨t2, h5, h6⟩ := hb
  refine ⟨_, fun X hX => L2.pe_ifExp (h1 X hX) (h3 X hX) (h5 X hX), fun b σV ρ F H s Q rl h => ?_⟩
  simp only [evE] at h
  refine h.part (T := fun Q' => t σV H Q') (fun Q' q => h2 _ _ _ _ _ _ _ rl q) fun k s1 k' ρ1 F1 H1 _ e1 r1 p1 q1 => ?_
  subst p1
  cases k' with
  | true => exact h4 _ _ _ _ _ _ _ r1 q1
  | false => exact h6 _ _ _ _ _ _ _ r1 q1
/-! ### tests -/
theorem sb_and1 (ha : SB g c e b) : SB g c e b := ha
def SW (g : Gd) (c : Cc) (e : Expr) (ir : B) : Prop := ∃ t : L2.TT, (∀ X, XOk g c X → L2.PW X e t) ∧
  ∀ b σV ρ F H s Q, Rl g.K g.Tb b σV ρ F H s → WG g.K g.Tb b σV ρ F H (fun _ _ _ _ k k' => k' = k) Q (evB g.C g.D ir s) → t σV H Q
theorem SW.b {b : B} (h : SW g c e b) : SB g c e b := let ⟨t, h1, h2⟩ := h; ⟨t, fun X hX => (h1 X hX).pt, h2⟩
theorem sw_and1 {b : B} (ha : SB g c e b) : SW g c (.BoolOp .And [e] pos) b := let ⟨t, h1, h2⟩ := ha; ⟨t, fun X hX => L2.pw_and1 (h1 X hX), h2⟩
theorem sw_or1 {b : B} (ha : SB g c e b) : SW g c (.BoolOp .Or [e] pos) b := let ⟨t, h1, h2⟩ := ha; ⟨t, fun X hX => L2.pw_or1 (h1 X hX), h2⟩
theorem sw_and {b b2 : B} {r : List Expr} (ha : SB g c e b) (hb : SW g c (.BoolOp .And (e2 :: r) pos) b2) : SW g c (.BoolOp .And (e :: e2 :: r) pos) (.and b b2) := by
  obtain ⟨t, h1, h2⟩ := ha
  obtain ⟨t', h3, h4⟩ := hb
  refine ⟨_, fun X hX => L2.pw_and (h1 X hX) (h3 X hX), fun b σV ρ F H s Q rl h => ?_⟩
  simp only [evB] at h
  refine h.part (T := fun Q' => t σV H Q') (fun Q' q => h2 _ _ _ _ _ _ _ rl q) fun k s1 k' ρ1 F1 H1 _ e1 r1 p1 q1 => ?_
  subst p1
  cases k' with
  | true => exact h4 _ _ _ _ _ _ _ r1 q1
  | false => exact q1.fin r1 rfl
theorem sw_or {b b2 : B} {r : List Expr} (ha : SB g c e b) (hb : SW g c (.BoolOp .Or (e2 :: r) pos) b2) : SW g c (.BoolOp .Or (e :: e2 :: r) pos) (.or b b2) := by
  obtain ⟨t, h1, h2⟩ := ha
  obtain ⟨t', h3, h4⟩ := hb
  refine ⟨_, fun X hX => L2.pw_or (h1 X hX) (h3 X hX), fun b σV ρ F H s Q rl h => ?_⟩
  simp only [evB] at h
  refine h.part (T := fun Q' => t σV H Q') (fun Q' q => h2 _ _ _ _ _ _ _ rl q) fun k s1 k' ρ1 F1 H1 _ e1 r1 p1 q1 => ?_
  subst p1
  cases k' with
  | true => exact q1.fin r1 rfl
  | false => exact h4 _ _ _ _ _ _ _ r1 q1
theorem sb_not {b : B} (ha : SB g c e b) : SB g c (.UnaryOp .Not e pos) (.not b) := by
  obtain ⟨t, h1, h2⟩ := ha
  refine ⟨_, fun X hX => L2.pt_not (h1 X hX), fun b σV ρ F H s Q rl h => ?_⟩
  simp only [evB] at h
  refine h.part (T := fun Q' => t σV H Q') (fun Q' q => h2 _ _ _ _ _ _ _ rl q) fun k s1 k' ρ1 F1 H1 _ e1 r1 p1 q1 => ?_
  subst p1
  exact q1.fin r1 rfl
section
variable {K : PySem.W.Frag} {Tb : Addr → Prop} {b : Bx} {σV : L2.St} {ρ : List Addr} {F : Addr → Prop} {H : Hp} {s : S}
theorem empty_len {α β : Type} {l : List α} {m : List β} (h : l.length = m.length) : (!m.isEmpty) = !l.isEmpty := by
  cases l <;> cases m <;> first | rfl | (simp at h)
theorem tru_ok {d : D} {v : V} {k : Bool} (rl : Rl K Tb b σV ρ F H s) (p : Rep K ρ F H d v) (e : truD s.M d = some k) : L2.TruV K v H k := by
  unfold truD at e
  split at e
  · simp only [Rep] at p; subst p; cases e; rfl
  · simp only [Rep] at p; subst p; cases e; rfl
  · simp only [Rep] at p; subst p; cases e; rfl
  · simp only [Rep] at p
    subst p
    split at e
    · cases e; exact ⟨by assumption, rfl⟩
    · cases e
  · simp only [Rep] at p
    obtain ⟨a, vs, rfl, h1, h2⟩ := p
    cases e
    exact .inr (.inl ⟨vs, h1, empty_len h2.length⟩)
  · simp only [Rep] at p
    obtain ⟨a, vs, rfl, h1, h2⟩ := p
    cases e
    exact .inl ⟨vs, h1.sq K F H, empty_len h2.length⟩
  · cases e
  · rename_i n
    simp only [Rep] at p
    obtain ⟨a, h1, rfl⟩ := p
    cases q : s.M[n]? with
    | none => rw [q] at e; cases e
    | some l =>
      rw [q] at e
      cases e
      obtain ⟨a', vs, h2, h3, h4⟩ := rl.mem _ _ q
      rw [h1] at h2
      cases h2
      exact .inl ⟨vs, .of h3, empty_len h4.length⟩
end
/-- an expression that isTrue reads as it stands -/
def plainT : Expr → Bool
  | .BoolOp .. => false
  | .UnaryOp .Not _ _ => false
  | .Compare .. => false
  | .IfExp .. => false
  | .NamedExpr .. => false
  | _ => true
theorem sb_of (hp : plainT e = true) (ha : SE g c e i) : SB g c e (.of i) := by
  obtain ⟨t, h1, h2⟩ := ha
  refine ⟨fun σ H Q => t σ H fun x H' => ∃ k, L2.TruV g.K x H' k ∧ Q k H', fun X hX => ?_, fun b σV ρ F H s Q rl h => ?_⟩
  · rw [← hX.K]
    refine L2.pt_truth (h1 X hX) fun w => ?_
    cases e <;> first | rfl | cases hp | (rename_i o _ _; cases o <;> first | rfl | cases hp)
  · simp only [evB] at h
    refine h.step (T := fun Q' => t σV H Q') (fun Q' q => h2 _ _ _ _ _ _ _ rl q) fun x s1 v ρ1 F1 H1 _ e1 r1 p1 q1 => ?_
    obtain ⟨k, e3, q3⟩ := q1.opt
    exact ⟨k, tru_ok r1 p1 e3, q3.fin r1 rfl⟩
end
end Ev


set_option Elab.async false
set_option linter.all false
set_option maxRecDepth 100000
set_option maxHeartbeats 1000000
/-! EvE: items, slices, calls. -/
namespace Ev
open PySem
open L2 (V Hp HO SqL SqT Rd upd upd_same upd_ne Same TE VK PE PT PW PA XK Sp FnOk Binds Room CX0 E0 Cx OpR CallR R2)
section
variable {K : PySem.W.Frag} {Tb : Addr → Prop} {b : Bx} {σV : L2.St} {ρ : List Addr} {F : Addr → Prop} {H : Hp} {s : S} {Q : VK}
/-! ### items -/
theorem seq_ok {d : D} {v : V} {l : List D} (rl : Rl K Tb b σV ρ F H s) (p : Rep K ρ F H d v) (e : seqOf s.M d = some l) : ∃ a vs, v = .ref a ∧ (SqL K H a vs ∨ SqT K H a vs) ∧ Reps K ρ F H l vs := by
  unfold seqOf at e
  split at e
  · simp only [Rep] at p
    obtain ⟨a, vs, rfl, h1, h2⟩ := p
    cases e
    exact ⟨a, vs, rfl, .inr h1, h2⟩
  · simp only [Rep] at p
    obtain ⟨a, vs, rfl, h1, h2⟩ := p
    cases e
    exact ⟨a, vs, rfl, .inl (h1.sq K F H), h2⟩
  · simp only [Rep] at p
    obtain ⟨a, h1, rfl⟩ := p
    obtain ⟨a', vs, h2, h3, h4⟩ := rl.mem _ _ e
    rw [h1] at h2
    cases h2
    exact ⟨a, vs, rfl, .inl (.of h3), h4⟩
  · cases e
theorem atI_rep {l : List D} {vs : List V} {i : Int} {d : D} (r : Reps K ρ F H l vs) (e : L2.atI l i = some d) : ∃ v, L2.atI vs i = some v ∧ Rep K ρ F H d v := by
  unfold L2.atI at e ⊢
  rw [r.length]
  cases q : L2.ixN l.length i with
  | none => rw [q] at e; cases e
  | some j =>
    rw [q] at e
    exact r.get e
theorem ix_ok {x y d : D} {v u : V} (rl : Rl K Tb b σV ρ F H s) (p : Rep K ρ F H x v) (q : Rep K ρ F H y u) (e : ixD s.M x y = some d) (h : ∀ w, Rep K ρ F H d w → Q w H) : L2.rIxL K v u H Q ∨ L2.rIxT K v u H Q := by
  unfold ixD at e
  split at e
  · rename_i i
    simp only [Rep] at q
    subst q
    cases z : seqOf s.M x with
    | none => rw [z] at e; cases e
    | some l =>
      rw [z] at e
      obtain ⟨a, vs, rfl, h1, h2⟩ := seq_ok rl p z
      obtain ⟨w, h3, h4⟩ := atI_rep h2 e
      rcases h1 with h1 | h1
      · exact .inl ⟨a, vs, i, w, rfl, rfl, h1, h3, h w h4⟩
      · exact .inr ⟨a, vs, i, w, rfl, rfl, h1, h3, h w h4⟩
  · cases e
end
section
variable {g : Gd} {c : Cc} {pos : Pos} {e e2 e3 : Expr} {i i2 i3 : E}
theorem plain_ix (h : isSlice e = false) : L2.PlainIx e := fun o k => by
  cases e <;> first | rfl | cases h
theorem se_ix (hs : isSlice e2 = false) (ha : SE g c e i) (hb : SE g c e2 i2) : SE g c (.Subscript e e2 pos) (.ix i i2) := by
  obtain ⟨t, h1, h2⟩ := ha
  obtain ⟨t', h3, h4⟩ := hb
  refine ⟨L2.tOp (fun x y H Q => L2.rIxL g.K x y H Q ∨ L2.rIxT g.K x y H Q) t t', fun X hX => L2.pe_ix (by rw [← hX.K]; exact L2.ix_list.or L2.ix_tup) (h1 X hX) (h3 X hX) (plain_ix hs), fun b σV ρ F H s Q rl h => ?_⟩
  simp only [evE] at h
  refine h.step (T := fun Q' => t σV H Q') (fun Q' q => h2 _ _ _ _ _ _ _ rl q) fun x s1 v ρ1 F1 H1 _ e1 r1 p1 q1 => ?_
  refine q1.step (T := fun Q' => t' σV H1 Q') (fun Q' q => h4 _ _ _ _ _ _ _ r1 q) fun y s2 u ρ2 F2 H2 _ e2 r2 p2 q2 => ?_
  obtain ⟨d, e3, q3⟩ := q2.opt
  exact ix_ok r2 (Rep.mono (e2.toS r1) _ _ p1) p2 e3 fun w hw => q3.fin r2 hw
/-! ### slices -/
def SO (g : Gd) (c : Cc) (e : Option Expr) (ir : E) : Prop := ∃ t : L2.TO, (∀ X, XOk g c X → L2.PO X e t) ∧
  ∀ b σV ρ F H s Q, Rl g.K g.Tb b σV ρ F H s → WG g.K g.Tb b σV ρ F H (fun _ _ _ _ k k' => k' = k) Q ((evE g.C g.D ir s).b2 fun y s => (opt (partD (isNo ir) y.fz)).bind fun l => .ok (l, s)) → t σV H Q
theorem so_none : SO g c none .none := ⟨_, fun _ _ => L2.po_none, fun b σV ρ F H s Q rl h => by
  simp only [evE, Res.b2, Rv.fz, partD, isNo, opt, Res.bind, if_true] at h
  exact h.fin rl rfl⟩
theorem so_some (hn : isNo i = false) (ha : SE g c e i) : SO g c (some e) i := by
  obtain ⟨t, h1, h2⟩ := ha
  refine ⟨_, fun X hX => L2.po_some (h1 X hX), fun b σV ρ F H s Q rl h => ?_⟩
  refine h.step (T := fun Q' => t σV H Q') (fun Q' q => h2 _ _ _ _ _ _ _ rl q) fun x s1 v ρ1 F1 H1 _ e1 r1 p1 q1 => ?_
  obtain ⟨d, e3, q3⟩ := q1.opt
  rw [hn] at e3
  unfold partD at e3
  split at e3
  · cases e3
  · rename_i k z
    rw [z] at p1
    simp only [Rep] at p1
    cases e3
    exact ⟨k, p1, q3.fin r1 rfl⟩
  · cases e3
section
variable {K : PySem.W.Frag} {Tb : Addr → Prop} {b : Bx} {σV : L2.St} {ρ : List Addr} {F : Addr → Prop} {H : Hp} {s : S} {Q : VK}
theorem cut_rep {l : List D} {vs : List V} {lo hi : Option Int} (r : Reps K ρ F H l vs) : Reps K ρ F H (cutD l lo hi) (L2.cutV vs lo hi) := by
  unfold cutD L2.cutV
  rw [r.length]
  exact (r.drop _).take _
theorem cut_all {l : List D} {lo hi : Option Int} (h : HT.sIx l.length 0 lo = 0 ∧ HT.sIx l.length l.length hi = l.length) : cutD l lo hi = l := by
  unfold cutD
  rw [h.1, h.2, List.drop_zero, Nat.sub_zero, List.take_length]
def rSl (K : PySem.W.Frag) : V → Option Int → Option Int → Hp → VK → Prop := fun x lo hi H Q => L2.rSlA K x lo hi H Q ∨ L2.rSlL K x lo hi H Q
theorem sl_ok {x : D} {v : V} {lo hi : Option Int} {rv : Rv} (rl : Rl K Tb b σV ρ F H s) (p : Rep K ρ F H x v) (e : slD x lo hi = some rv) (h : WG K Tb b σV ρ F H (RepR K b σV) Q (.ok (rv, s))) : rSl K v lo hi H Q := by
  unfold slD at e
  split at e
  · simp only [Rep] at p
    obtain ⟨a, vs, rfl, h1, h2⟩ := p
    cases e
    refine .inl ⟨a, vs, rfl, h1, fun w => h.fin rl ?_, fun _ p hp => h.fin' (same_upd hp) rl (Rep.newT hp (cut_rep h2))⟩
    rw [h2.length] at w
    rw [cut_all w]
    simp only [RepR, Rep]
    exact ⟨a, vs, rfl, h1, h2⟩
  · simp only [Rep] at p
    obtain ⟨a, vs, rfl, h1, h2⟩ := p
    cases e
    exact .inr ⟨a, vs, rfl, h1.sq K F H, fun p hp => h.fin' (same_upd hp) rl (RepR.new rl hp (cut_rep h2))⟩
  · cases e
end
theorem se_sl {lo hi : Option Expr} {p2 : Pos} (ha : SE g c e i) (hl : SO g c lo i2) (hh : SO g c hi i3) : SE g c (.Subscript e (.Slice lo hi none p2) pos) (.sl i i2 i3) := by
  obtain ⟨t, h1, h2⟩ := ha
  obtain ⟨t', h3, h4⟩ := hl
  obtain ⟨t2, h5, h6⟩ := hh
  refine ⟨L2.tSl (rSl g.K) t t' t2, fun X hX => L2.pe_slice (by rw [← hX.K]; exact L2.SlR.or L2.sl_tupA L2.sl_list) (h1 X hX) (h3 X hX) (h5 X hX), fun b σV ρ F H s Q rl h => ?_⟩
  simp only [evE] at h
  refine h.step (T := fun Q' => t σV H Q') (fun Q' q => h2 _ _ _ _ _ _ _ rl q) fun x s1 v ρ1 F1 H1 _ e1 r1 p1 q1 => ?_
  refine q1.part (T := fun Q' => t' σV H1 Q') (fun Q' q => h4 _ _ _ _ _ _ _ r1 q) fun l s2 l' ρ2 F2 H2 _ e2 r2 p2 q2 => ?_
  subst p2
  refine q2.part (T := fun Q' => t2 σV H2 Q') (fun Q' q => h6 _ _ _ _ _ _ _ r2 q) fun l s3 l2 ρ3 F3 H3 _ e3 r3 p3 q3 => ?_
  subst p3
  obtain ⟨rv, e4, q4⟩ := q3.opt
  exact sl_ok r3 (Rep.mono ((e2.trans e3).toS r1) _ _ p1) e4 q4

/-! ### isinstance -/
def tyS : Ty → String
  | .int => "int" | .bool => "bool" | .str => "str" | .tuple => "tuple" | .list => "list" | .dict => "dict"
def tyN : D → String
  | .non => "NoneType" | .bl _ => "bool" | .int _ => "int" | .str _ => "str" | .tup _ => "tuple" | .lst _ => "list" | .dic _ _ => "dict" | .ref _ => "list"
theorem kit_all : (["NoneType", "bool", "int", "str", "tuple", "list", "dict"].all fun a => [Ty.int, .bool, .str, .tuple, .list, .dict].all fun t => decide (L2.kitB a (tyS t) = some (a == tyS t || (a == "bool" && tyS t == "int")))) = true := by decide +kernel
theorem tyN_mem (d : D) : tyN d ∈ ["NoneType", "bool", "int", "str", "tuple", "list", "dict"] := by cases d <;> simp [tyN]
theorem kit_of {d : D} {t : Ty} {k : Bool} (e : isTy t d = some k) : L2.kitB (tyN d) (tyS t) = some k := by
  have h := kit_all
  rw [List.all_eq_true] at h
  have h1 := h _ (tyN_mem d)
  rw [List.all_eq_true] at h1
  have h2 := of_decide_eq_true (h1 t (by cases t <;> simp))
  rw [h2]
  congr 1
  unfold isTy at e
  split at e <;> first | (cases e; done) | (cases e; rfl) | skip
  cases e
  rename_i n1 n2 n3 n4 n5 n6 n7 n8
  cases t <;> cases d <;> first | rfl | (exfalso; first | exact n1 _ rfl | exact n2 _ rfl rfl | exact n3 _ rfl rfl | exact n4 _ rfl rfl | exact n5 _ rfl rfl | exact n6 _ rfl rfl | exact n7 _ rfl rfl | exact n8 _ _ rfl rfl)
theorem ty_ok {K : PySem.W.Frag} {ρ : List Addr} {F : Addr → Prop} {H : Hp} {d : D} {v : V} (h : Rep K ρ F H d v) (n : ∀ k, d ≠ .ref k) : L2.TyX K H v (.type (tyN d)) := by
  cases d with
  | non => simp only [Rep] at h; subst h; exact .base .non
  | bl _ => simp only [Rep] at h; subst h; exact .base (.bl _)
  | int _ => simp only [Rep] at h; subst h; exact .base (.int _)
  | str _ => simp only [Rep] at h; subst h; exact .base (.str _)
  | tup _ =>
    simp only [Rep] at h
    obtain ⟨a, vs, rfl, h1, _⟩ := h
    rcases h1 with (h1 | ⟨o, h1⟩) | ⟨o, _, _, h1, h2, _⟩
    · exact .base (.tup h1)
    · exact .fTuple h1
    · exact .kTuple h1 h2
  | lst _ =>
    simp only [Rep] at h
    obtain ⟨a, vs, rfl, h0, _⟩ := h
    rcases h0.sq K F H with (h1 | ⟨o, h1⟩) | ⟨o, _, _, h1, h2, _⟩
    · exact .base (.lst h1)
    · exact .base (.frz h1)
    · exact .kList h1 h2
  | dic _ _ =>
    simp only [Rep] at h
    obtain ⟨a, vs, rfl, _, h1, _⟩ := h
    rcases h1 with h1 | ⟨o, h1⟩
    · exact .base (.dK h1)
    · exact .fDict h1
  | ref k => exact absurd rfl (n k)
theorem isTy_ref {t : Ty} {d : D} {k : Bool} (e : isTy t d = some k) : ∀ n, d ≠ .ref n := fun n z => by
  subst z
  unfold isTy at e
  cases t <;> cases e
theorem tyO_of {x : Str} {t : Ty} (h : tyO x = some t) : x = Str.ofString (tyS t) ∧ bootBuiltins x = some (.type (tyS t)) := by
  unfold tyO at h
  repeat' (split at h)
  all_goals first | (cases h; done) | skip
  all_goals
    rename_i z
    cases h
    subst z
    exact ⟨rfl, by decide +kernel⟩
theorem boot_isi : bootBuiltins "isinstance" = some (.builtin "isinstance") := by decide +kernel
theorem se_isi {gt : List (Str × Gv)} (gk : GOk g gt) (hc : c.gt = gt) {f x : Str} {t : Ty} {p p2 : Pos} (hf : isBlt c f "isinstance" = true) (hx : isBlt c x x = true) (ht : tyO x = some t) (hs : isStar e = false) (ha : SE g c e i) :
    SE g c (.Call (.Name f p) [e, .Name x p2] [] pos) (.isi i t) := by
  obtain ⟨t', h1, h2⟩ := ha
  obtain ⟨rfl, h3⟩ := isBlt_of hf
  obtain ⟨_, h4⟩ := isBlt_of hx
  obtain ⟨h5, h6, h7⟩ := globV_of h3
  obtain ⟨h8, h9, h10⟩ := globV_of h4
  obtain ⟨_, hb⟩ := tyO_of ht
  obtain ⟨o1, o2, o3⟩ := okName_of h7
  obtain ⟨o4, o5, o6⟩ := okName_of h10
  refine ⟨L2.tCB (L2.rIsi g.K) (L2.tCons t' (L2.tCons (L2.tC (.ty (tyS t))) L2.tNil)), fun X hX => ?_, fun b σV ρ F H s Q rl h => ?_⟩
  · refine L2.pe_callB (by rw [← hX.K]; exact L2.call_isi) (hX.gl h3) (by rw [hX.mg]; exact gk.blt _ (hc ▸ h6)) boot_isi ?_ o3 o1 (star_no hs _ _) rfl
    exact L2.pa_cons (h1 X hX) (L2.pa_cons (L2.pe_bltn (v := .ty (tyS t)) (hX.gl h4) (by rw [hX.mg]; exact gk.blt _ (hc ▸ h9)) hb rfl o6 o4) L2.pa_nil rfl) (star_no hs _ _)
  · simp only [evE] at h
    refine h.step (T := fun Q' => t' σV H Q') (fun Q' q => h2 _ _ _ _ _ _ _ rl q) fun x s1 v ρ1 F1 H1 _ e1 r1 p1 q1 => ?_
    obtain ⟨k, e3, q3⟩ := q1.opt
    exact ⟨_, _, _, _, k, rfl, .ty _, ty_ok p1 (isTy_ref e3), L2.kit_ty (kit_of e3), q3.fin r1 (by simp only [RepR, Rep])⟩
end
end Ev


set_option Elab.async false
set_option linter.all false
set_option maxRecDepth 100000
set_option maxHeartbeats 1000000
/-! EvF: calls of defs and of built-ins. -/
namespace Ev
open PySem
open L2 (V Hp HO SqL SqT Rd upd upd_same upd_ne Same TE VK PE PT PW PA XK Sp FnOk Binds Room CX0 E0 Cx OpR CallR R2)
def lenEs : Es → Nat
  | .nil => 0
  | .cons _ es => lenEs es + 1
theorem evEs_len {C : Calls} {D' : Nat → D} : ∀ {is : Es} {s s' : S} {l : List D}, evEs C D' is s = .ok (l, s') → l.length = lenEs is
  | .nil, s, s', l, h => by
    simp only [evEs] at h
    cases h
    rfl
  | .cons e es, s, s', l, h => by
    simp only [evEs] at h
    cases z : evE C D' e s with
    | ok q =>
      obtain ⟨x, s1⟩ := q
      rw [z] at h
      simp only [Res.b2] at h
      cases z2 : evEs C D' es s1 with
      | ok q =>
        obtain ⟨xs, s2⟩ := q
        rw [z2] at h
        simp only [Res.b2] at h
        cases h
        have := evEs_len z2
        simp only [List.length_cons, lenEs, this]
      | exc _ => rw [z2] at h; cases h
      | bad => rw [z2] at h; cases h
    | exc _ => rw [z] at h; cases h
    | bad => rw [z] at h; cases h
section
variable {K : PySem.W.Frag} {Tb : Addr → Prop} {b : Bx} {σV : L2.St} {ρ ρ' : List Addr} {F F' : Addr → Prop} {H H' : Hp} {s : S} {Q : VK}
theorem Rl.memOk (r : Rl K Tb b σV ρ F H s) : MemOk K Tb ρ F H s.M := ⟨r.mem, r.ml, r.nd, fun a m => (r.rf a m).1, r.ft, r.tab⟩
/-- behind a call -/
theorem Rl.call (r : Rl K Tb b σV ρ F H s) (x : ExE ρ F H ρ' F' H') (f : ∀ a, F' a → F a ∨ H a = none) {M : Mem} (m : MemOk K Tb ρ' F' H' M) : Rl K Tb b σV ρ' F' H' { s with M := M } := by
  have xs := x.toS r
  obtain ⟨m1, m2, m3, m4, m5, m6⟩ := m
  refine ⟨r.len, fun i d e => ?_, fun i l e => ?_, r.apart, m1, m2, m3, fun a ha => ⟨m4 a ha, fun q => ?_⟩, fun a ha => ?_, m5, fun a ha => ?_, fun a o q n t => ?_, fun a o q t => ?_, fun a q => ?_, fun a ha => ?_, m6⟩
  · obtain ⟨v, q, t⟩ := r.val i d e
    exact ⟨v, q, Rep.mono xs _ _ t⟩
  · obtain ⟨a, vs, q, o⟩ := r.own i l e
    refine ⟨a, vs, q, o.mono xs (x.all _ _ o.at_ o.nr id) (fun z => ?_) fun z => ?_⟩
    · rcases f a z with z | z
      · exact o.nf z
      · rw [o.at_] at z; cases z
    · rcases x.rn a z with z | z
      · exact o.nr z
      · rw [o.at_] at z; cases z
  · rcases x.rn a ha with z | z
    · exact (r.rf a z).2 q
    · obtain ⟨_, o, w, _⟩ := r.pt a q
      rw [w] at z; cases z
  · rcases x.rn a ha with z | z
    · exact r.rn a z
    · exact .inr (r.free z).2.2.1
  · rcases f a ha with z | z
    · exact r.fn a z
    · exact .inr (r.free z).2.2.1
  · refine x.all a o (r.old a o q n t) (fun z => ?_) t
    rcases r.rn a z with w | w
    · exact n w
    · rw [w] at q; cases q
  · obtain ⟨o1, q1, t1⟩ := r.oldT a o q t
    exact x.tbl a o1 q1 t1
  · obtain ⟨z1, o, w, t⟩ := r.pt a q
    refine ⟨fun z => ?_, o, x.all a o w (fun z => (r.rf a z).2 q) t, t⟩
    rcases f a z with z | z
    · exact z1 z
    · rw [w] at z; cases z
  · obtain ⟨n, hn, e⟩ := List.getElem_of_mem (r.bp a ha)
    have : ρ[n]? = some a := by rw [← e]; simp [hn]
    exact List.mem_of_getElem? (x.pre n a this)
theorem RepC.r (r : Rl K Tb b σV ρ F H s) {rv : Rv} {v : V} {M : Mem} (h : RepC K H ρ' F' H' rv v) : RepR K b σV ρ' F' H' { s with M := M } rv v := by
  cases rv with
  | un => exact h
  | val d => exact h
  | mls l =>
    obtain ⟨a, vs, rfl, h1, h2, h3, h4, h5⟩ := h
    obtain ⟨_, _, k1, k2, k3⟩ := r.free h5
    exact ⟨a, vs, rfl, ⟨h1, h2, h3, h4, k1, k2⟩, k3⟩
theorem call_ok {C : Calls} {i ar : Nat} {l : List D} {vs : List V} {E : XK} (r : Rl K Tb b σV ρ F H s) (hl : l.length = ar) (p : Reps K ρ F H l vs) (h : WG K Tb b σV ρ F H (RepR K b σV) Q ((C i l s.M).bind fun r => .ok (r.1, { s with M := r.2 }))) : spOf K Tb C i ar vs H Q E := by
  refine ⟨by rw [p.length]; exact hl, l, ρ, F, s.M, p, r.memOk, ?_⟩
  cases z : C i l s.M with
  | ok q =>
    obtain ⟨rv, M'⟩ := q
    rw [z] at h
    intro v ρ' F' H' x f m t
    exact h v ρ' F' H' x (r.call x f m) (t.r r)
  | exc _ => rw [z] at h; exact h.elim
  | bad => rw [z] at h; exact h.elim
end
section
variable {g : Gd} {c : Cc} {pos : Pos} {e e2 e3 : Expr} {i i2 i3 : E}
theorem noStars : ∀ {es : List Expr}, es.all (fun e => !isStar e) = true → ∀ (p : Pos) (env : Env), (backTo p (starEach es env)).any (·.1) = false
  | [], _, _, _ => rfl
  | e :: es, h, p, env => by
    simp only [List.all_cons, Bool.and_eq_true, Bool.not_eq_true'] at h
    rw [star_no h.1]
    show (false || (backTo p (starEach es env)).any (·.1)) = false
    rw [noStars h.2]
    rfl
theorem se_call {gt : List (Str × Gv)} (gk : GOk g gt) (hc : c.gt = gt) {f : Str} {n ar : Nat} {es : List Expr} {is : Es} {p : Pos} (hf : globV c f = some (.fn n ar)) (har : ar = lenEs is) (hnil : es = [] → is = .nil) (hst : es.all (fun e => !isStar e) = true) (ha : SEs g c es is) : SE g c (.Call (.Name f p) es [] pos) (.call n is) := by
  obtain ⟨t, h1, h2⟩ := ha
  obtain ⟨h5, h6, h7⟩ := globV_of hf
  obtain ⟨o1, o2, o3⟩ := okName_of h7
  obtain ⟨fa, fd, ps, k1, k2, k3, k4, k5⟩ := gk.fn f n ar (hc ▸ h6)
  have sem : ∀ b σV ρ F H s Q, Rl g.K g.Tb b σV ρ F H s → WG g.K g.Tb b σV ρ F H (RepR g.K b σV) Q (evE g.C g.D (.call n is) s) → L2.tCall (spOf g.K g.Tb g.C n ar) [] E0 t σV H Q := fun b σV ρ F H s Q rl h => by
    simp only [evE] at h
    refine h.part (T := fun Q' => t σV H Q') (fun Q' q => h2 _ _ _ _ _ _ _ rl q) fun l s1 vs ρ1 F1 H1 eq e1 r1 p1 q1 => ?_
    rw [List.append_nil]
    exact call_ok r1 (by rw [har]; exact evEs_len eq) p1 q1
  have fact : ∀ X, XOk g c X → FnOk X.prog X.w X.K X.mg X.base CX0 g.k fa fd ps (spOf g.K g.Tb g.C n ar) := fun X hX => by
    rw [hX.P, hX.w, hX.K, hX.mg, hX.base]; exact k3
  cases es with
  | nil =>
    refine ⟨_, fun X hX => L2.pe_call0 (sp := spOf g.K g.Tb g.C n ar) (dvs := []) (fact X hX) (hX.room.mono (Nat.le_add_right _ _)) (hX.gl hf) (by rw [hX.mg]; exact k1) (by rw [hX.K]; exact k2) (by rw [hX.K]; exact k4) .nil L2.pass0 o1, fun b σV ρ F H s Q rl h => ?_⟩
    obtain rfl := hnil rfl
    simp only [evE, evEs, Res.b2] at h
    show spOf g.K g.Tb g.C n ar ([] ++ []) H Q E0
    exact call_ok rl (by rw [har]; rfl) Reps.nil h
  | cons e es =>
    simp only [List.all_cons, Bool.and_eq_true, Bool.not_eq_true'] at hst
    exact ⟨_, fun X hX => L2.pe_call (sp := spOf g.K g.Tb g.C n ar) (dvs := []) (fact X hX) (hX.room.mono (Nat.le_add_right _ _)) (hX.gl hf) (by rw [hX.mg]; exact k1) (by rw [hX.K]; exact k2) (by rw [hX.K]; exact k4) .nil L2.pass0 (h1 X hX) o1 (star_no hst.1 _ _) (noStars hst.2 _ _), sem⟩

/-! ### built-ins of one argument -/
section
variable {K : PySem.W.Frag} {Tb : Addr → Prop} {b : Bx} {σV : L2.St} {ρ ρ' : List Addr} {F F' : Addr → Prop} {H H' : Hp} {s : S} {Q : VK}
theorem ints_rep : ∀ {l : List D} {vs : List V} {r : List Int}, Reps K ρ F H l vs → intsOf l = some r → vs = r.map V.int
  | [], _, _, h, e => by simp only [Reps] at h; cases e; exact h
  | d :: l, _, r, h, e => by
    simp only [Reps] at h
    obtain ⟨v, us, rfl, h1, h2⟩ := h
    cases d <;> first | (cases e; done) | skip
    simp only [intsOf] at e
    cases z : intsOf l with
    | none => rw [z] at e; cases e
    | some q =>
      rw [z] at e
      cases e
      simp only [Rep] at h1
      rw [h1, ints_rep h2 z]
      rfl
theorem bls_rep : ∀ {l : List D} {vs : List V} {r : List Bool}, Reps K ρ F H l vs → blsOf l = some r → vs = r.map V.bl
  | [], _, _, h, e => by simp only [Reps] at h; cases e; exact h
  | d :: l, _, r, h, e => by
    simp only [Reps] at h
    obtain ⟨v, us, rfl, h1, h2⟩ := h
    cases d <;> first | (cases e; done) | skip
    simp only [blsOf] at e
    cases z : blsOf l with
    | none => rw [z] at e; cases e
    | some q =>
      rw [z] at e
      cases e
      simp only [Rep] at h1
      rw [h1, bls_rep h2 z]
      rfl
end
def rBi (K : PySem.W.Frag) : Bi → List V → Hp → VK → Prop
  | .len => fun xs H Q => ∃ p ys, xs = [.ref p] ∧ (SqL K H p ys ∨ SqT K H p ys) ∧ Q (.int ys.length) H
  | .tuple => fun xs H Q => ∃ p ys, xs = [.ref p] ∧ ((SqL K H p ys ∧ ∀ l, H l = none → Q (.ref l) (upd H l (.tup ys))) ∨ (SqT K H p ys ∧ Q (.ref p) H))
  | .list => fun xs H Q => ∃ p ys, xs = [.ref p] ∧ (SqL K H p ys ∨ SqT K H p ys) ∧ ∀ l, H l = none → Q (.ref l) (upd H l (.lst ys))
  | .int => fun xs H Q => (∃ i, xs = [.int i] ∧ Q (.int i) H) ∨ ∃ k, xs = [.bl k] ∧ Q (.int (if k then 1 else 0)) H
  | .sum => L2.rSum K
  | .all => L2.rAll K
/-- what a built-in's name holds -/
def biV : Bi → Value
  | .len => .builtin "len" | .tuple => .type "tuple" | .list => .type "list" | .int => .type "int" | .sum => .builtin "sum" | .all => .builtin "all"
theorem biO_of {x : Str} {f : Bi} (h : biO x = some f) : bootBuiltins x = some (biV f) := by
  unfold biO at h
  repeat' (split at h)
  all_goals first | (cases h; done) | skip
  all_goals
    rename_i z
    cases h
    subst z
    decide +kernel
theorem pe_blt {X : Cx} {f : Bi} {x : Str} {p : Pos} {t : L2.TA} (hc : X.calm = true) (hg : L2.Gl X x) (hm : X.mg x = none) (hv : bootBuiltins x = some (biV f)) (hn : x ≠ "__name__") (hd : (x == ("__debug__" : Str)) = false) (hs : isStar e = false) (ha : PA X [e] t) :
    PE X (.Call (.Name x p) [e] [] pos) (L2.tCB (rBi X.K f) t) := by
  have st := star_no hs [] X.env
  cases f with
  | len => exact L2.pe_callB L2.call_len_seq hg hm hv ha hn hd st rfl
  | tuple => exact L2.pe_callTy L2.call_tuple_of hg hm hv ha hn hd st rfl
  | list => exact L2.pe_callTy L2.call_list_of hg hm hv ha hn hd st rfl
  | int => exact L2.pe_callTy L2.call_int1 hg hm hv ha hn hd st rfl
  | sum => exact L2.pe_callB (L2.cr_sum hc) hg hm hv ha hn hd st rfl
  | all => exact L2.pe_callB (L2.cr_all hc) hg hm hv ha hn hd st rfl
section
variable {K : PySem.W.Frag} {Tb : Addr → Prop} {b : Bx} {σV : L2.St} {ρ ρ' : List Addr} {F F' : Addr → Prop} {H H' : Hp} {s : S} {Q : VK}
theorem bi_ok {f : Bi} {x : D} {v : V} {rv : Rv} (rl : Rl K Tb b σV ρ F H s) (p : Rep K ρ F H x v) (e : biD s.M f x = some rv) (h : WG K Tb b σV ρ F H (RepR K b σV) Q (.ok (rv, s))) : rBi K f [v] H Q := by
  unfold biD at e
  split at e
  · cases z : seqOf s.M x with
    | none => rw [z] at e; cases e
    | some l =>
      rw [z] at e
      cases e
      obtain ⟨a, vs, rfl, h1, h2⟩ := seq_ok rl p z
      exact ⟨a, vs, rfl, h1, h.fin rl (by simp only [RepR, Rep, h2.length])⟩
  · simp only [Rep] at p
    obtain ⟨a, vs, rfl, h1, h2⟩ := p
    cases e
    exact ⟨a, vs, rfl, .inr ⟨h1, h.fin rl (by simp only [RepR, Rep]; exact ⟨a, vs, rfl, h1, h2⟩)⟩⟩
  · simp only [Rep] at p
    obtain ⟨a, vs, rfl, h1, h2⟩ := p
    cases e
    exact ⟨a, vs, rfl, .inl ⟨h1.sq K F H, fun l hl => h.fin' (same_upd hl) rl (Rep.newT hl h2)⟩⟩
  · simp only [Rep] at p
    obtain ⟨a, vs, rfl, h1, h2⟩ := p
    cases e
    exact ⟨a, vs, rfl, .inr h1, fun l hl => h.fin' (same_upd hl) rl (RepR.new rl hl h2)⟩
  · simp only [Rep] at p
    obtain ⟨a, vs, rfl, h1, h2⟩ := p
    cases e
    exact ⟨a, vs, rfl, .inl (h1.sq K F H), fun l hl => h.fin' (same_upd hl) rl (RepR.new rl hl h2)⟩
  · simp only [Rep] at p
    subst p
    cases e
    exact .inl ⟨_, rfl, h.fin rl (by simp only [RepR, Rep])⟩
  · rename_i l
    simp only [Rep] at p
    obtain ⟨a, vs, rfl, h1, h2⟩ := p
    cases z : intsOf l with
    | none => rw [z] at e; cases e
    | some r =>
      rw [z] at e
      cases e
      exact ⟨a, r, rfl, by rw [← ints_rep h2 z]; exact h1.sq K F H, h.fin rl (by simp only [RepR, Rep])⟩
  · rename_i l
    simp only [Rep] at p
    obtain ⟨a, vs, rfl, h1, h2⟩ := p
    cases z : blsOf l with
    | none => rw [z] at e; cases e
    | some r =>
      rw [z] at e
      cases e
      exact ⟨a, r, rfl, by rw [← bls_rep h2 z]; exact h1.sq K F H, h.fin rl (by simp only [RepR, Rep])⟩
  · cases e
end
theorem se_bi {gt : List (Str × Gv)} (gk : GOk g gt) (hc : c.gt = gt) {x : Str} {f : Bi} {p : Pos} (hf : globV c x = some .blt) (hb : biO x = some f) (hs : isStar e = false) (ha : SE g c e i) : SE g c (.Call (.Name x p) [e] [] pos) (.bi f i) := by
  obtain ⟨t, h1, h2⟩ := ha
  obtain ⟨h5, h6, h7⟩ := globV_of hf
  obtain ⟨o1, o2, o3⟩ := okName_of h7
  refine ⟨L2.tCB (rBi g.K f) (L2.tCons t L2.tNil), fun X hX => ?_, fun b σV ρ F H s Q rl h => ?_⟩
  · rw [← hX.K]
    exact pe_blt hX.calm (hX.gl hf) (by rw [hX.mg]; exact gk.blt _ (hc ▸ h6)) (biO_of hb) o3 o1 hs (L2.pa_cons (h1 X hX) L2.pa_nil (star_no hs _ _))
  · simp only [evE] at h
    refine h.step (T := fun Q' => t σV H Q') (fun Q' q => h2 _ _ _ _ _ _ _ rl q) fun x s1 v ρ1 F1 H1 _ e1 r1 p1 q1 => ?_
    obtain ⟨k, e3, q3⟩ := q1.opt
    exact bi_ok r1 p1 e3 q3
/-- list(x), by number -/
theorem se_rlist {gt : List (Str × Gv)} (gk : GOk g gt) (hc : c.gt = gt) {x : Str} {p : Pos} (hf : globV c x = some .blt) (hb : biO x = some .list) (hs : isStar e = false) (ha : SE g c e i) : SE g c (.Call (.Name x p) [e] [] pos) (.rlist i) := by
  obtain ⟨t, h1, h2⟩ := ha
  obtain ⟨h5, h6, h7⟩ := globV_of hf
  obtain ⟨o1, o2, o3⟩ := okName_of h7
  refine ⟨L2.tCB (rBi g.K .list) (L2.tCons t L2.tNil), fun X hX => ?_, fun b σV ρ F H s Q rl h => ?_⟩
  · rw [← hX.K]
    exact pe_blt hX.calm (hX.gl hf) (by rw [hX.mg]; exact gk.blt _ (hc ▸ h6)) (biO_of hb) o3 o1 hs (L2.pa_cons (h1 X hX) L2.pa_nil (star_no hs _ _))
  · simp only [evE] at h
    refine h.step (T := fun Q' => t σV H Q') (fun Q' q => h2 _ _ _ _ _ _ _ rl q) fun x s1 v ρ1 F1 H1 _ e1 r1 p1 q1 => ?_
    split at q1
    · rename_i l z
      rw [z] at p1
      simp only [Rep] at p1
      obtain ⟨a, vs, rfl, h1, h2⟩ := p1
      refine ⟨a, vs, rfl, .inl (h1.sq g.K F1 H1), fun p hp => q1 _ _ _ _ (exE_ref hp) (r1.newRef hp h2) ?_⟩
      simp only [RepR, Rep]
      exact ⟨p, by rw [← r1.ml]; simp, rfl⟩
    · exact q1.elim
end
end Ev


set_option Elab.async false
set_option linter.all false
set_option maxRecDepth 100000
set_option maxHeartbeats 1000000
/-! EvG: what is walked. -/
namespace PySem
set_option maxHeartbeats 1000000 in
/-- enumerate(v), v by how its iterator begins -/
theorem ev_enum_new {v : Value} {o : Obj} {Hh : Heap → Prop} (B : Begins v o Hh) :
    Meets (Builtin.«enumerate.__new__» ⟨[.type "enumerate", v], []⟩) (fun _ R s => Hh s.heap ∧
      R (.ok (.ret (.ref (s.heap.push o).objs.size))) { s with heap := (s.heap.push o).push { cls := .type "enumerate", data := .fields #[.none, .bool false, .ref s.heap.objs.size, rawInt 0, .none, .none] } }) :=
  .of_wp fun prog w A R s h => by
    obtain ⟨hp, g, d, tk, os⟩ := s
    obtain ⟨h1, h⟩ := h
    have hsub := sub_enumerate
    have it : ∀ {A' : Around} {E' : Value → Shared → Prop} {Q' : Value → Shared → Prop}, Q' (.ref hp.objs.size) ⟨hp.push o, g, d, tk, os⟩ → wpAny (model prog w) A' (pyIter v) Q' E' ⟨hp, g, d, tk, os⟩ :=
      fun q => B.iter prog w _ _ ⟨hp, g, d, tk, os⟩ _ h1 q
    wp_walk using it
    refine wpAny_stack_any fun st => wpAny_pure ?_
    split
    · rename_i c _ _ _ _ _
      cases (c == Value.type "enumerate") <;> (wp_walk using it; exact ⟨_, rfl, h⟩)
    · wp_walk using it
      exact ⟨_, rfl, h⟩
theorem ev_enum_call {prog : Program} {w : World} {A : Around} {E : Value → Shared → Prop} {s : Shared} {v : Value} {o : Obj} {Hh : Heap → Prop} {Q : Value → Shared → Prop} (B : Begins v o Hh) (h1 : Hh s.heap)
    (h : ∀ h', IsEnum h' (s.heap.objs.size + 1) s.heap.objs.size 0 .none → h'.get? s.heap.objs.size = some o → h'.objs.size = s.heap.objs.size + 2 → (∀ b o, s.heap.get? b = some o → h'.get? b = some o) → Q (.ref (s.heap.objs.size + 1)) { s with heap := h' }) :
    wpAny (model prog w) A (call (.type "enumerate") [v]) Q E s := by
  refine callType_new F.called_enumerate (by decide) (F.typeCall_enumerate_1 _) (F.newCall_enumerate_1 _) (fun obj => F.args_object_init_2 obj _) F.entry_enumerate_new (ev_enum_new B) ⟨h1, ?_⟩
  have sz : (s.heap.push o).objs.size = s.heap.objs.size + 1 := Heap.size_push ..
  have en : IsEnum ((s.heap.push o).push { cls := .type "enumerate", data := .fields #[.none, .bool false, .ref s.heap.objs.size, rawInt 0, .none, .none] }) (s.heap.objs.size + 1) s.heap.objs.size 0 .none := by
    have q := Heap.get?_push_size (s.heap.push o) (o := { cls := .type "enumerate", data := .fields #[.none, .bool false, .ref s.heap.objs.size, rawInt 0, .none, .none] }) rfl
    rw [sz] at q
    exact q
  show _ ∧ _
  rw [sz]
  exact ⟨⟨_, en, rfl⟩, h _ en (Heap.get?_push_of_some _ (Heap.get?_push_size _ B.free)) (by rw [Heap.size_push, sz]) fun b o x => Heap.get?_push_of_some _ (Heap.get?_push_of_some _ x)⟩
end PySem

namespace L2
open PySem PySem.Spec PyProof.Rows
/-- a tuple's items with their places, in new pairs -/
def ItEt (K : PySem.W.Frag) (a : Addr) : It :=
  ⟨fun i H => ∃ xs x, SqT K H a xs ∧ xs[i]? = some x, fun i H v H' => ∃ T x, v = .ref T ∧ H T = none ∧ H' = upd H T (.tup [.int (i : Nat), x]) ∧ ∀ xs, SqT K H a xs → xs[i]? = some x,
    fun i H => ∃ xs, SqT K H a xs ∧ xs.length = i⟩
theorem ev_turn {P : Program} {w : World} {K : PySem.W.Frag} {elts : List Expr} {kk : Nat} {tpos : Pos} (a e it : Addr) :
    Turn P w K (.Tuple elts kk tpos) (ItEt K a) [e, it] e (fun i h => (∃ old, IsEnum h e it ((i : Nat) : Int) old) ∧ h.IsTupleIter it a i ∧ e ≠ it) where
  mem := List.mem_cons_self
  obj := fun i h ⟨⟨old, he⟩, ⟨o, ho, _, hd⟩, _⟩ b hb => by
    rcases List.mem_cons.mp hb with rfl | hb
    · exact ⟨_, he, fun v q => nomatch q⟩
    · rw [List.mem_singleton.mp hb]
      exact ⟨o, ho, fun v q => by rw [hd] at q; cases q⟩
  keep := fun i h h' ⟨⟨old, he⟩, hi, ne⟩ k => ⟨⟨old, k e List.mem_cons_self _ he⟩, hi.at fun o q => k it (by simp) o q, ne⟩
  item := by
    intro X hP hw hK hc i pins s σ H E I hf st hg
    subst hP hw hK
    obtain ⟨⟨old, he⟩, hit, hne⟩ := st
    obtain ⟨xs, x, hq, hx⟩ := hg
    obtain ⟨its, rv, p, hz⟩ := I.tuple hq
    obtain ⟨u, hu, ru⟩ := rv.get hx
    have hel : e < s.heap.objs.size := Heap.lt_size he
    have hil : it < s.heap.objs.size := let ⟨_, q, _⟩ := hit; Heap.lt_size q
    have nf := hf it (by simp)
    have nta : a ≠ it := fun z => by
      obtain ⟨o1, q1, c1, _⟩ := hit
      obtain ⟨o2, q2, c2, _⟩ := p
      rw [z, q1] at q2
      cases q2
      rw [c1] at c2
      simp at c2
    have nea : e ∉ [it, a] := fun z => by
      rcases List.mem_cons.mp z with z | z
      · exact hne z
      · rw [List.mem_singleton.mp z] at he
        obtain ⟨o2, q2, c2, _⟩ := p
        rw [show s.heap.get? a = some _ from he] at q2
        cases q2
        simp at c2
    have il : i < its.toArray.size := by
      have := (List.getElem?_eq_some_iff.mp hu).1
      simpa using this
    refine wpAny_pyNext_enum_itemD (Draws.tuple (A := X.A.in1) (I.ok.hd hc) it a nta its.toArray) he ⟨hit, p⟩ il hne nea fun y h' tk hy ho st' hT hsz hk => ?_
    have ey : y = u := by
      have : its.toArray[i]? = some u := by simpa using hu
      rw [this] at hy
      exact (Option.some.inj hy).symm
    subst ey
    refine ⟨_, rfl, wpAny_letOwnedTupleGo_enum (s := { s with heap := h', toks := tk + 1 }) ho fun h2 he2 sb => ?_⟩
    have hT2 : h2.get? s.heap.objs.size = some { cls := .type "tuple", data := .seq #[.int i tk, y] } := (sb.2 _ (Nat.ne_of_gt hel)).trans hT
    have new : ObjOk X.prog X.w (upd H s.heap.objs.size (.tup [.int (i : Nat), x])) h2 s.heap.objs.size (.tup [.int (i : Nat), x]) :=
      ⟨by show 2 ≤ sizeLine; decide, [.int i tk, y], .cons ⟨_, rfl⟩ (.cons ru .nil), ⟨_, hT2, rfl, _, rfl⟩⟩
    have I1 : Inv X pins σ (upd H s.heap.objs.size (.tup [.int (i : Nat), x])) { s with heap := h2, toks := tk + 1 } :=
      I.turnedNew (ch := [e, it]) (fun b ob hb q => (sb.2 b (fun z => hb (by simp [z]))).trans (hk b ob (fun z => hb (by simp [z])) (fun z => hb (by simp [z])) q)) hf (Nat.le_refl _) new
    refine ⟨.ref s.heap.objs.size, _, I1, rfl, ⟨_, x, rfl, I.hok.fresh (Nat.le_refl _), rfl, fun ys hy => by rw [I.tuple_inj hy hq]; exact hx⟩, ⟨⟨y, ?_⟩, st'.1.at fun o q => (sb.2 it (Ne.symm hne)).trans q, hne⟩, fun b hb => ?_⟩
    · rw [show ((i + 1 : Nat) : Int) = (i : Int) + 1 by omega]
      exact he2
    · have lt : b < s.heap.objs.size := by
        rcases List.mem_cons.mp hb with rfl | hb
        · exact hel
        · rw [List.mem_singleton.mp hb]; exact hil
      rw [upd_ne (Nat.ne_of_lt lt)]
      exact (hf b hb).1
  done := by
    intro X hP hw hK hc i pins s σ H E I hf st hg
    subst hP hw hK
    obtain ⟨⟨old, he⟩, hit, hne⟩ := st
    obtain ⟨xs, hq, hx⟩ := hg
    obtain ⟨its, rv, p, hz⟩ := I.tuple hq
    have hl := rv.length
    obtain ⟨f0, f1, f2, f3, f4, f5⟩ := hf it (by simp)
    have nta : a ≠ it := fun z => by
      obtain ⟨o1, q1, c1, _⟩ := hit
      obtain ⟨o2, q2, c2, _⟩ := p
      rw [z, q1] at q2
      cases q2
      rw [c1] at c2
      simp at c2
    have ei : i = its.toArray.size := by rw [List.size_toArray, ← hl]; exact hx.symm
    subst ei
    exact wpAny_pyNext_enum_endD (Draws.tuple (A := X.A.in1) (I.ok.hd hc) it a nta its.toArray) he ⟨hit, p⟩ fun h' eb => ⟨rfl, I.turned (t' := s.toks) (fun b o hb q => eb b o hb q) f0 f1 f3 f4 f5⟩
  self := fun A i s Q E ⟨⟨_, he⟩, _⟩ h => wpAny_pyIter_enum he h
end L2

namespace L2
open PySem PySem.Spec PyProof.Rows
def iEnumT (K : PySem.W.Frag) (ta : TA) : TI := fun σ H R => ta σ H fun vs H1 => ∃ a xs, vs = [.ref a] ∧ SqT K H1 a xs ∧ R (ItEt K a) H1
theorem pi_enumT {X : Cx} {e : Expr} {ta : TA} {p pos tpos : Pos} {elts : List Expr} {kk : Nat} (hg : Gl X "enumerate") (hm : X.mg "enumerate" = none) (ha : PA X [e] ta) (hs : starEach [e] X.env = [(false, eval e X.env)]) :
    PI X (.Tuple elts kk tpos) (.Call (.Name "enumerate" p) [e] [] pos) (iEnumT X.K ta) := by
  refine ⟨fun pins s σ H R I h => Call_ (ld_blt I hg hm boot_enumerate (PyProof.Rows.callWith_type1 (thn (ha.run pos pins s σ H _ I h) fun us s1 ⟨vs, H1, I1, r1, a, xs, ex, hq, q⟩ => ?_) hs rfl))⟩
  subst ex
  cases r1 with
  | cons r rr =>
    cases rr
    cases r
    obtain ⟨its, rv, p', hz⟩ := I1.tuple hq
    refine ev_enum_call (begins_tuple a its.toArray) p' fun h' he hit hsz hk => wpAny_pyIter_enum he ?_
    refine ⟨s1.heap.objs.size + 1, [s1.heap.objs.size + 1, s1.heap.objs.size], _, _, H1, rfl, I1.kept (t' := s1.toks) hk, ev_turn a (s1.heap.objs.size + 1) s1.heap.objs.size, ⟨⟨.none, he⟩, ⟨_, hit, rfl, rfl⟩, Nat.succ_ne_self _⟩, fun b hb => ?_, q⟩
    have le : s1.heap.objs.size ≤ b := by
      rcases List.mem_cons.mp hb with rfl | hb
      · exact Nat.le_add_right _ _
      · rw [List.mem_singleton.mp hb]; exact Nat.le_refl _
    exact I1.fpOk le (I1.hok.fresh le)
theorem pi_or {X : Cx} {tg e : Expr} {w1 w2 : TI} (h1 : PI X tg e w1) (h2 : PI X tg e w2) : PI X tg e (fun σ H R => w1 σ H R ∨ w2 σ H R) :=
  ⟨fun pins s σ H R I h => h.elim (h1.run pins s σ H R I) (h2.run pins s σ H R I)⟩
theorem walk_enumT {K : PySem.W.Frag} {a : Addr} {xs : List V} : Walk (ItEt K a) xs.length (fun H => SqT K H a xs) (YPair (fun i => some (.int (i : Nat))) (fun i => xs[i]?)) :=
  ⟨fun i _ hi q => ⟨xs, xs[i], q, by simp [hi]⟩, fun _ q => ⟨xs, q, rfl⟩, fun i H v H' _ q ⟨T, x, h1, h2, h3, h4⟩ => ⟨T, .int (i : Nat), x, h1, h2, h3, rfl, h4 xs q⟩⟩
end L2

namespace Ev
open PySem
open L2 (V Hp HO SqL SqT Rd upd upd_same upd_ne Same TE VK PE PT PW PA PI TI It XK Sp FnOk Binds Room CX0 E0 Cx OpR CallR R2)
/-- the iterator J walks the data l -/
structure ItOk (K : PySem.W.Frag) (ρ : List Addr) (F : Addr → Prop) (H : Hp) (J : It) (l : List D) : Prop where
  ex : ∃ (G : Hp → Prop) (Y : Nat → Hp → V → Hp → Prop), L2.Walk J l.length G Y ∧ (∀ ρ' F' H', ExS ρ F H ρ' F' H' → G H') ∧
    ∀ ρ' F' H' (i : Nat) x H2 d, ExS ρ F H ρ' F' H' → Y i H' x H2 → l[i]? = some d → Same H' H2 ∧ Rep K ρ' F' H2 d x
section
variable {K : PySem.W.Frag} {ρ ρ' : List Addr} {F F' : Addr → Prop} {H H' : Hp} {a : Addr} {l : List D} {vs : List V}
theorem same_refl (H : Hp) : Same H H := fun _ _ h => h
theorem itOk_at {J : It} {G : Hp → Prop} (w : L2.Walk J vs.length G (L2.YAt vs)) (hG : ∀ ρ' F' H', ExS ρ F H ρ' F' H' → G H') (r : Reps K ρ F H l vs) : ItOk K ρ F H J l :=
  ⟨G, L2.YAt vs, by rw [← r.length]; exact w, hG, fun ρ' F' H' i x H2 d e ⟨y1, y2⟩ q => by
    subst y1
    obtain ⟨v, h1, h2⟩ := r.get q
    rw [y2] at h1
    cases h1
    exact ⟨same_refl _, Rep.mono e _ _ h2⟩⟩
theorem itOk_list (h : ShL K F H a vs) (r : Reps K ρ F H l vs) : ItOk K ρ F H (L2.Itl K a) l :=
  itOk_at L2.walk_list (fun ρ' F' H' e => (ShL.mono e h).sq K F' H') r
theorem itOk_tup (h : SqT K H a vs) (r : Reps K ρ F H l vs) : ItOk K ρ F H (L2.Itt K a) l :=
  itOk_at L2.walk_tup (fun ρ' F' H' e => SqT.mono e h) r
theorem enmL_get : ∀ {l : List D} {k i : Nat} {d : D}, (enmL k l)[i]? = some d → ∃ x, l[i]? = some x ∧ d = .tup [.int ((k + i : Nat) : Int), x]
  | [], _, _, _, h => by simp [enmL] at h
  | x :: xs, k, 0, d, h => by
    simp only [enmL, List.getElem?_cons_zero, Option.some.injEq] at h
    exact ⟨x, by simp, by rw [← h]; rfl⟩
  | x :: xs, k, i + 1, d, h => by
    simp only [enmL, List.getElem?_cons_succ] at h
    obtain ⟨y, h1, h2⟩ := enmL_get h
    exact ⟨y, by simpa using h1, by rw [h2]; congr 3; omega⟩
theorem enmL_len : ∀ (l : List D) (k : Nat), (enmL k l).length = l.length
  | [], _ => rfl
  | x :: xs, k => by simp only [enmL, List.length_cons, enmL_len xs]
theorem itOk_enum {J : It} {G : Hp → Prop} (w : L2.Walk J vs.length G (L2.YPair (fun i => some (.int (i : Nat))) (fun i => vs[i]?))) (hG : ∀ ρ' F' H', ExS ρ F H ρ' F' H' → G H') (r : Reps K ρ F H l vs) : ItOk K ρ F H J (enmL 0 l) :=
  ⟨G, L2.YPair (fun i => some (.int (i : Nat))) (fun i => vs[i]?), by rw [enmL_len, ← r.length]; exact w, hG, fun ρ' F' H' i x H2 d e ⟨T, y, z, h1, h2, h3, h4, h5⟩ q => by
    subst h1 h3
    obtain ⟨d', k1, rfl⟩ := enmL_get q
    obtain ⟨v, k2, k3⟩ := r.get k1
    replace h5 : vs[i]? = some z := h5
    rw [h5] at k2
    cases k2
    cases h4
    refine ⟨same_upd h2, ?_⟩
    have k4 := Rep.mono e _ _ k3
    refine Rep.newT h2 (Reps.cons ?_ (Reps.one k4))
    simp only [Rep, Nat.zero_add]⟩
theorem rngD_len : ∀ (n : Nat) (lo c : Int), (rngD lo c n).length = n
  | 0, _, _ => rfl
  | n + 1, lo, c => by simp only [rngD, List.length_cons, rngD_len n]
theorem rngD_get : ∀ {n i : Nat} {lo c : Int} {d : D}, (rngD lo c n)[i]? = some d → d = .int (lo + (i : Nat) * c)
  | 0, _, _, _, _, h => by simp [rngD] at h
  | n + 1, 0, lo, c, d, h => by
    simp only [rngD, List.getElem?_cons_zero, Option.some.injEq] at h
    rw [← h]; simp
  | n + 1, i + 1, lo, c, d, h => by
    simp only [rngD, List.getElem?_cons_succ] at h
    rw [rngD_get h]
    congr 1
    have : ((i + 1 : Nat) : Int) * c = (i : Int) * c + c := by rw [Int.natCast_add, Int.add_mul]; simp
    rw [this]; omega
theorem itOk_rng {lo : Int} {n : Nat} : ItOk K ρ F H (L2.Itr lo n) (rngD lo 1 n) :=
  ⟨fun _ => True, L2.YFn fun i => .int (lo + i), by rw [rngD_len]; exact L2.walk_range, fun _ _ _ _ => trivial, fun ρ' F' H' i x H2 d e ⟨y1, y2⟩ q => by
    subst y1 y2
    refine ⟨same_refl _, ?_⟩
    rw [rngD_get q]
    simp only [Rep, Int.mul_one]⟩
theorem itOk_rngC {lo c : Int} {n : Nat} : ItOk K ρ F H (L2.Itc lo c n) (rngD lo c n) :=
  ⟨fun _ => True, L2.YFn fun i => .int (lo + (i : Nat) * c), by rw [rngD_len]; exact L2.walk_rangeC, fun _ _ _ _ => trivial, fun ρ' F' H' i x H2 d e ⟨y1, y2⟩ q => by
    subst y1 y2
    refine ⟨same_refl _, ?_⟩
    rw [rngD_get q]
    simp only [Rep]⟩
end
/-- what is walked -/
def SI (g : Gd) (c : Cc) (tg it : Expr) (ir : I) : Prop := ∃ w : TI, (∀ X, XOk g c X → PI X tg it w) ∧
  ∀ b σV ρ F H s Q, Rl g.K g.Tb b σV ρ F H s → WG g.K g.Tb b σV ρ F H (fun ρ F H _ l J => ItOk g.K ρ F H J l) Q (evI g.C g.D ir s) → w σV H Q
section
variable {g : Gd} {c : Cc} {pos : Pos} {tg e e2 e3 : Expr} {i i2 i3 : E}
theorem boot_enum : bootBuiltins "enumerate" = some (.type "enumerate") := by decide +kernel
/-- a list or a tuple -/
theorem si_of (ha : SE g c e i) : SI g c tg e (.of i) := by
  obtain ⟨t, h1, h2⟩ := ha
  refine ⟨fun σ H R => L2.iList g.K t σ H R ∨ L2.iTup g.K t σ H R, fun X hX => ?_, fun b σV ρ F H s Q rl h => ?_⟩
  · rw [← hX.K]; exact L2.pi_or (L2.pi_list (h1 X hX)) (L2.pi_tup (h1 X hX))
  · simp only [evI] at h
    cases z : evE g.C g.D i s with
    | exc _ => rw [z] at h; exact h.elim
    | bad => rw [z] at h; exact h.elim
    | ok q =>
      obtain ⟨x, s1⟩ := q
      have hz := h
      rw [z] at hz
      simp only [Res.b2] at hz
      obtain ⟨l, e3, _⟩ := hz.opt
      unfold itD at e3
      split at e3
      · rename_i l' zz
        refine .inr (h.step (T := fun Q' => t σV H Q') (fun Q' q => h2 _ _ _ _ _ _ _ rl q) fun x' s1' v ρ1 F1 H1 eq e1 r1 p1 q1 => ?_)
        rw [z] at eq
        cases eq
        rw [zz] at p1 q1
        simp only [Rep] at p1
        obtain ⟨a, vs, rfl, k1, k2⟩ := p1
        exact ⟨a, rfl, ⟨vs, k1⟩, WG.fin (a := l') q1 r1 (itOk_tup k1 k2)⟩
      · rename_i l' zz
        refine .inl (h.step (T := fun Q' => t σV H Q') (fun Q' q => h2 _ _ _ _ _ _ _ rl q) fun x' s1' v ρ1 F1 H1 eq e1 r1 p1 q1 => ?_)
        rw [z] at eq
        cases eq
        rw [zz] at p1 q1
        simp only [Rep] at p1
        obtain ⟨a, vs, rfl, k1, k2⟩ := p1
        exact ⟨a, rfl, ⟨vs, k1.sq g.K F1 H1⟩, WG.fin (a := l') q1 r1 (itOk_list k1 k2)⟩
      · cases e3
theorem si_enm {gt : List (Str × Gv)} (gk : GOk g gt) (hc : c.gt = gt) {f : Str} {p tpos : Pos} {elts : List Expr} {kk : Nat} (hf : isBlt c f "enumerate" = true) (hs : isStar e = false) (ha : SE g c e i) :
    SI g c (.Tuple elts kk tpos) (.Call (.Name f p) [e] [] pos) (.enm i) := by
  obtain ⟨t, h1, h2⟩ := ha
  obtain ⟨rfl, h3⟩ := isBlt_of hf
  obtain ⟨h5, h6, h7⟩ := globV_of h3
  have st : ∀ X : Cx, starEach [e] X.env = [(false, eval e X.env)] := fun X => star_no hs [] X.env
  have pa : ∀ X, XOk g c X → PA X [e] (L2.tCons t L2.tNil) := fun X hX => L2.pa_cons (h1 X hX) L2.pa_nil (star_no hs _ _)
  refine ⟨fun σ H R => L2.iEnum g.K (L2.tCons t L2.tNil) σ H R ∨ L2.iEnumT g.K (L2.tCons t L2.tNil) σ H R, fun X hX => ?_, fun b σV ρ F H s Q rl h => ?_⟩
  · rw [← hX.K]
    have hm : X.mg "enumerate" = none := by rw [hX.mg]; exact gk.blt _ (hc ▸ h6)
    exact L2.pi_or (L2.pi_enum (hX.gl h3) hm (pa X hX) (st X)) (L2.pi_enumT (hX.gl h3) hm (pa X hX) (st X))
  · simp only [evI] at h
    cases z : evE g.C g.D i s with
    | exc _ => rw [z] at h; exact h.elim
    | bad => rw [z] at h; exact h.elim
    | ok q =>
      obtain ⟨x, s1⟩ := q
      have hz := h
      rw [z] at hz
      simp only [Res.b2] at hz
      obtain ⟨l, e3, _⟩ := hz.opt
      unfold itD at e3
      split at e3
      · rename_i l' zz
        refine .inr (h.step (T := fun Q' => t σV H Q') (fun Q' q => h2 _ _ _ _ _ _ _ rl q) fun x' s1' v ρ1 F1 H1 eq e1 r1 p1 q1 => ?_)
        rw [z] at eq
        cases eq
        rw [zz] at p1 q1
        simp only [Rep] at p1
        obtain ⟨a, vs, rfl, k1, k2⟩ := p1
        exact ⟨a, vs, rfl, k1, WG.fin (a := enmL 0 l') q1 r1 (itOk_enum L2.walk_enumT (fun ρ' F' H' e => SqT.mono e k1) k2)⟩
      · rename_i l' zz
        refine .inl (h.step (T := fun Q' => t σV H Q') (fun Q' q => h2 _ _ _ _ _ _ _ rl q) fun x' s1' v ρ1 F1 H1 eq e1 r1 p1 q1 => ?_)
        rw [z] at eq
        cases eq
        rw [zz] at p1 q1
        simp only [Rep] at p1
        obtain ⟨a, vs, rfl, k1, k2⟩ := p1
        exact ⟨a, vs, rfl, k1.sq g.K F1 H1, WG.fin (a := enmL 0 l') q1 r1 (itOk_enum L2.walk_enum (fun ρ' F' H' e => (ShL.mono e k1).sq g.K F' H') k2)⟩
      · cases e3

/-! ### ranges -/
theorem small_of {i : Int} (h : smallI i = true) : -(2 ^ 62) ≤ i ∧ i < 2 ^ 62 := by
  unfold smallI at h
  have h := of_decide_eq_true h
  have : i.natAbs < 2 ^ 61 := by
    by_cases z : i.natAbs = 0
    · rw [z]; decide
    · exact (Nat.log2_lt z).mp h
  have e : (2 : Nat) ^ 61 = 2305843009213693952 := by decide
  rw [e] at this
  have e2 : (2 : Int) ^ 62 = 4611686018427387904 := by decide
  rw [e2]
  omega
theorem smallI_of {i : Int} (h : i.natAbs < 1000000) : smallI i = true := by
  unfold smallI
  refine decide_eq_true ?_
  by_cases z : i.natAbs = 0
  · rw [z]; decide
  · exact (Nat.log2_lt z).mpr (Nat.lt_of_lt_of_le h (by decide))
theorem si_rng1 {gt : List (Str × Gv)} (gk : GOk g gt) (hc : c.gt = gt) {f : Str} {p : Pos} (hf : isBlt c f "range" = true) (hs : isStar e = false) (ha : SE g c e i) : SI g c tg (.Call (.Name f p) [e] [] pos) (.rng1 i) := by
  obtain ⟨t, h1, h2⟩ := ha
  obtain ⟨rfl, h3⟩ := isBlt_of hf
  obtain ⟨h5, h6, h7⟩ := globV_of h3
  refine ⟨L2.iRng1 (L2.tCons t L2.tNil), fun X hX => L2.pi_range1 (hX.gl h3) (by rw [hX.mg]; exact gk.blt _ (hc ▸ h6)) (L2.pa_cons (h1 X hX) L2.pa_nil (star_no hs _ _)) (star_no hs [] X.env), fun b σV ρ F H s Q rl h => ?_⟩
  simp only [evI] at h
  refine h.step (T := fun Q' => t σV H Q') (fun Q' q => h2 _ _ _ _ _ _ _ rl q) fun x s1 v ρ1 F1 H1 _ e1 r1 p1 q1 => ?_
  obtain ⟨l, e3, q3⟩ := q1.opt
  unfold rng2D at e3
  split at e3
  · rename_i y z k j e4 e5
    cases e4
    rw [e5] at p1
    simp only [Rep] at p1
    split at e3
    · rename_i hz
      cases e3
      simp only [Bool.and_eq_true] at hz
      obtain ⟨k1, k2⟩ := small_of hz.2
      rw [Int.sub_zero] at q3
      exact ⟨j, by rw [p1], k1, k2, q3.fin r1 itOk_rng⟩
    · cases e3
  · cases e3
theorem si_rng2 {gt : List (Str × Gv)} (gk : GOk g gt) (hc : c.gt = gt) {f : Str} {p : Pos} (hf : isBlt c f "range" = true) (hs : isStar e = false) (hs2 : isStar e2 = false) (ha : SE g c e i) (hb : SE g c e2 i2) :
    SI g c tg (.Call (.Name f p) [e, e2] [] pos) (.rng2 i i2) := by
  obtain ⟨t, h1, h2⟩ := ha
  obtain ⟨t', h1', h2'⟩ := hb
  obtain ⟨rfl, h3⟩ := isBlt_of hf
  obtain ⟨h5, h6, h7⟩ := globV_of h3
  refine ⟨L2.iRng2 (L2.tCons t (L2.tCons t' L2.tNil)), fun X hX => L2.pi_range2 (hX.gl h3) (by rw [hX.mg]; exact gk.blt _ (hc ▸ h6))
    (L2.pa_cons (h1 X hX) (L2.pa_cons (h1' X hX) L2.pa_nil (star_no hs2 _ _)) (star_no hs _ _)) (by rw [star_no hs, star_no hs2]; rfl) (star_no hs2 [] X.env), fun b σV ρ F H s Q rl h => ?_⟩
  simp only [evI] at h
  refine h.step (T := fun Q' => t σV H Q') (fun Q' q => h2 _ _ _ _ _ _ _ rl q) fun x s1 v ρ1 F1 H1 _ e1 r1 p1 q1 => ?_
  refine q1.step (T := fun Q' => t' σV H1 Q') (fun Q' q => h2' _ _ _ _ _ _ _ r1 q) fun y s2 u ρ2 F2 H2 _ e2 r2 p2 q2 => ?_
  obtain ⟨l, e3, q3⟩ := q2.opt
  unfold rng2D at e3
  split at e3
  · rename_i y z k j e4 e5
    rw [e4] at p1
    rw [e5] at p2
    simp only [Rep] at p1 p2
    split at e3
    · rename_i hz
      cases e3
      simp only [Bool.and_eq_true] at hz
      obtain ⟨k1, k2⟩ := small_of hz.1
      obtain ⟨k3, k4⟩ := small_of hz.2
      exact ⟨k, j, by rw [p1, p2], ⟨k1, k2, k3, k4⟩, q3.fin r2 itOk_rng⟩
    · cases e3
  · cases e3
theorem si_rng3 {gt : List (Str × Gv)} (gk : GOk g gt) (hc : c.gt = gt) {f : Str} {p : Pos} (hf : isBlt c f "range" = true) (hs : isStar e = false) (hs2 : isStar e2 = false) (hs3 : isStar e3 = false) (ha : SE g c e i) (hb : SE g c e2 i2) (hd : SE g c e3 i3) :
    SI g c tg (.Call (.Name f p) [e, e2, e3] [] pos) (.rng3 i i2 i3) := by
  obtain ⟨t, h1, h2⟩ := ha
  obtain ⟨t', h1', h2'⟩ := hb
  obtain ⟨t2, h1'', h2''⟩ := hd
  obtain ⟨rfl, h3⟩ := isBlt_of hf
  obtain ⟨h5, h6, h7⟩ := globV_of h3
  refine ⟨L2.iRng3 (L2.tCons t (L2.tCons t' (L2.tCons t2 L2.tNil))), fun X hX => L2.pi_range3 (hX.gl h3) (by rw [hX.mg]; exact gk.blt _ (hc ▸ h6))
    (L2.pa_cons (h1 X hX) (L2.pa_cons (h1' X hX) (L2.pa_cons (h1'' X hX) L2.pa_nil (star_no hs3 _ _)) (star_no hs2 _ _)) (star_no hs _ _)) (star_no hs _ _) (noStars (by simp [hs2, hs3]) _ _), fun b σV ρ F H s Q rl h => ?_⟩
  simp only [evI] at h
  refine h.step (T := fun Q' => t σV H Q') (fun Q' q => h2 _ _ _ _ _ _ _ rl q) fun x s1 v ρ1 F1 H1 _ e1 r1 p1 q1 => ?_
  refine q1.step (T := fun Q' => t' σV H1 Q') (fun Q' q => h2' _ _ _ _ _ _ _ r1 q) fun y s2 u ρ2 F2 H2 _ e2 r2 p2 q2 => ?_
  refine q2.step (T := fun Q' => t2 σV H2 Q') (fun Q' q => h2'' _ _ _ _ _ _ _ r2 q) fun y s3 u3 ρ3 F3 H3 _ e3 r3 p3 q3 => ?_
  obtain ⟨l, e5, q5⟩ := q3.opt
  unfold rng3D at e5
  split at e5
  · rename_i y z k i j m e4 e6 e7
    rw [e4] at p1
    rw [e6] at p2
    rw [e7] at p3
    simp only [Rep] at p1 p2 p3
    split at e5
    · rename_i hz
      cases e5
      exact ⟨i, j, m, _, by rw [p1, p2, p3], ⟨hz.1, hz.2.1, hz.2.2.1, by have := hz.2.2.2; omega⟩, q5.fin r3 itOk_rngC⟩
    · cases e5
  · cases e5
end
end Ev


set_option Elab.async false
set_option linter.all false
set_option maxRecDepth 100000
set_option maxHeartbeats 1000000
/-! EvH: targets, comprehensions. -/
namespace Ev
open PySem
open L2 (V Hp HO SqL SqT Rd upd upd_same upd_ne Same TE VK PE PT PW PA PI PG PGs TG TGs TI It XK Sp FnOk Binds Room CX0 E0 Cx OpR CallR R2)
/-- one object more is not to be touched -/
def Bx.and (b : Bx) (p : Addr) : Bx := { b with Pr := fun a => b.Pr a ∨ a = p }
section
variable {K : PySem.W.Frag} {Tb : Addr → Prop} {b : Bx} {σV σV' : L2.St} {ρ ρ' : List Addr} {F F' : Addr → Prop} {H H' : Hp} {s : S} {p : Addr} {o : HO}
theorem exS_upd (nf : ¬ F p) (ch : ∀ u, H p = some u → Chg u) : ExS ρ F H ρ F (upd H p o) where
  pre := fun _ _ h => h
  fz := fun _ h => h
  keep := fun a u h k => by
    rw [upd_ne]
    · exact h
    · rintro rfl
      rcases k with k | k
      · exact nf k
      · exact k (ch u h)
theorem Rl.updP (r : Rl K Tb b σV ρ F H s) (hp : b.Pr p) (hn : b.H p = none) (ch : ∀ u, H p = some u → Chg u) (nt : ¬ IsTb o) : Rl K Tb b σV ρ F (upd H p o) s := by
  have nf := (r.pt p hp).1
  have x : ExS ρ F H ρ F (upd H p o) := exS_upd nf ch
  have nr : ∀ a, a ∈ ρ → a ≠ p := fun a m z => (r.rf a m).2 (z ▸ hp)
  refine ⟨r.len, fun i d e => ?_, fun i l e => ?_, r.apart, fun n l e => ?_, r.ml, r.nd, r.rf, r.rn, fun a f => ?_, r.fn, fun a u q n t => ?_, fun a u q t => ?_, fun a q => ⟨(r.pt a q).1, ?_⟩, r.bp, fun P q => ?_⟩
  · obtain ⟨v, q, t⟩ := r.val i d e
    exact ⟨v, q, Rep.mono x _ _ t⟩
  · obtain ⟨a, vs, q, w⟩ := r.own i l e
    have ne : a ≠ p := fun z => w.np (z ▸ hp)
    exact ⟨a, vs, q, w.mono x (by rw [upd_ne ne]; exact w.at_) w.nf w.nr⟩
  · obtain ⟨a, vs, q, t, w⟩ := r.mem n l e
    exact ⟨a, vs, q, by rw [upd_ne (nr a (List.mem_of_getElem? q))]; exact t, Reps.mono x _ _ w⟩
  · obtain ⟨u, q, t⟩ := r.ft a f
    have ne : a ≠ p := fun z => nf (z ▸ f)
    exact ⟨u, by rw [upd_ne ne]; exact q, t⟩
  · rw [upd_ne (fun z => by rw [z, hn] at q; cases q)]
    exact r.old a u q n t
  · rw [upd_ne (fun z => by rw [z, hn] at q; cases q)]
    exact r.oldT a u q t
  · by_cases z : a = p
    · exact ⟨o, by rw [z, upd_same], nt⟩
    · obtain ⟨u, w, t⟩ := (r.pt a q).2
      exact ⟨u, by rw [upd_ne z]; exact w, t⟩
  · obtain ⟨ps, e, t⟩ := r.tab P q
    obtain ⟨u, w, t2⟩ := (r.pt p hp).2
    have ne : P ≠ p := fun z => by rw [← z, e] at w; cases w; exact t2 trivial
    exact ⟨ps, by rw [upd_ne ne]; exact e, t⟩
theorem Rl.guard (r : Rl K Tb b σV ρ F H s) (hp : H p = none) (nt : ¬ IsTb o) : Rl K Tb (b.and p) σV ρ F (upd H p o) s := by
  obtain ⟨h1, h2, h3, h4, h5⟩ := r.free hp
  have r1 := r.same (same_upd (o := o) hp)
  refine ⟨r1.len, r1.val, fun i l e => ?_, r1.apart, r1.mem, r1.ml, r1.nd, fun a m => ⟨(r1.rf a m).1, fun z => ?_⟩, r1.rn, r1.ft, r1.fn, r1.old, r1.oldT, fun a q => ?_, r1.bp, r1.tab⟩
  · obtain ⟨a, vs, q, w⟩ := r1.own i l e
    refine ⟨a, vs, q, ⟨w.at_, w.reps, w.nf, w.nr, w.new, fun z => ?_⟩⟩
    rcases z with z | z
    · exact w.np z
    · rw [z] at q; exact h5 i l e q
  · rcases z with z | z
    · exact (r1.rf a m).2 z
    · rw [z] at m; exact h2 m
  · rcases q with z | z
    · exact r1.pt a z
    · rw [z]; exact ⟨h1, o, upd_same, nt⟩
theorem Rl.unguard (r : Rl K Tb (b.and p) σV ρ F H s) : Rl K Tb b σV ρ F H s :=
  ⟨r.len, r.val, fun i l e => let ⟨a, vs, q, w⟩ := r.own i l e; ⟨a, vs, q, ⟨w.at_, w.reps, w.nf, w.nr, w.new, fun z => w.np (.inl z)⟩⟩, r.apart, r.mem, r.ml, r.nd,
    fun a m => ⟨(r.rf a m).1, fun z => (r.rf a m).2 (.inl z)⟩, r.rn, r.ft, r.fn, r.old, r.oldT, fun a q => r.pt a (.inl q), r.bp, r.tab⟩
/-- what is guarded is no one's -/
theorem Rl.guarded (r : Rl K Tb (b.and p) σV ρ F H s) : ¬ F p ∧ p ∉ ρ ∧ ∀ (i : Nat) l', s.σ[i]? = some (.mls l') → σV[i]? ≠ some (some (.ref p)) := by
  refine ⟨(r.pt p (.inr rfl)).1, fun m => (r.rf p m).2 (.inr rfl), fun i l' e q => ?_⟩
  obtain ⟨a, vs, e1, w⟩ := r.own i l' e
  rw [e1] at q
  cases q
  exact w.np (.inr rfl)
theorem ExE.updNew (x : ExE ρ F H ρ' F' H') (hp : H p = none) : ExE ρ F H ρ' F' (upd H' p o) :=
  ⟨x.pre, x.fz, fun a u h n t => by rw [upd_ne (L2.ne_of_none h hp)]; exact x.all a u h n t, fun a u h t => by rw [upd_ne (L2.ne_of_none h hp)]; exact x.tbl a u h t, x.rn⟩

/-! ### slots forgotten and put back -/
theorem wipe_in {i : Nat} : ∀ {σ : L2.St} {vs : List Nat}, i ∈ vs → i < σ.length → (L2.wipe σ vs)[i]? = some none
  | σ, v :: vs, m, h => by
    unfold L2.wipe
    by_cases e : v = i
    · rw [e, List.getElem?_set_self (by rw [L2.wipe_length]; exact h)]
    · rw [List.getElem?_set_ne e]
      exact wipe_in ((List.mem_cons.mp m).resolve_left fun z => e z.symm) h
theorem wipe_ext {σ τ : L2.St} {vs : List Nat} (hl : σ.length = τ.length) (h : ∀ i, i ∉ vs → σ[i]? = τ[i]?) : L2.wipe σ vs = L2.wipe τ vs := by
  apply List.ext_getElem?
  intro i
  by_cases m : i ∈ vs
  · by_cases k : i < σ.length
    · rw [wipe_in m k, wipe_in m (hl ▸ k)]
    · rw [List.getElem?_eq_none (by rw [L2.wipe_length]; omega), List.getElem?_eq_none (by rw [L2.wipe_length]; omega)]
  · rw [L2.wipe_out m, L2.wipe_out m]
    exact h i m
theorem wipe_twice (σ : L2.St) (vs : List Nat) : L2.wipe (L2.wipe σ vs) vs = L2.wipe σ vs :=
  wipe_ext (L2.wipe_length _ _) fun i m => L2.wipe_out m
theorem wipeR_len (σ : List Rv) : ∀ vs, (wipeR σ vs).length = σ.length
  | [] => rfl
  | v :: vs => by simp only [wipeR, List.length_set, wipeR_len σ vs]
theorem wipeR_some {σ : List Rv} {i : Nat} {x : Rv} : ∀ {vs : List Nat}, (wipeR σ vs)[i]? = some x → x = .un ∨ (σ[i]? = some x ∧ i ∉ vs)
  | [], h => .inr ⟨h, by simp⟩
  | v :: vs, h => by
    simp only [wipeR] at h
    rcases get_set h with ⟨_, q⟩ | ⟨ne, q⟩
    · exact .inl q
    · rcases wipeR_some q with z | ⟨z, m⟩
      · exact .inl z
      · exact .inr ⟨z, fun w => (List.mem_cons.mp w).elim (fun e => ne e.symm) m⟩
theorem Rl.wipe (r : Rl K Tb b σV ρ F H s) (vs : List Nat) : Rl K Tb b (L2.wipe σV vs) ρ F H { s with σ := wipeR s.σ vs } where
  len := by rw [L2.wipe_length, ← r.len]; exact wipeR_len _ _
  val := fun i d e => by
    rcases wipeR_some e with z | ⟨z, m⟩
    · cases z
    · obtain ⟨v, q, t⟩ := r.val i d z
      exact ⟨v, by rw [L2.wipe_out m]; exact q, t⟩
  own := fun i l e => by
    rcases wipeR_some e with z | ⟨z, m⟩
    · cases z
    · obtain ⟨a, us, q, t⟩ := r.own i l z
      exact ⟨a, us, by rw [L2.wipe_out m]; exact q, t⟩
  apart := fun i j l l' a e1 e2 e3 e4 => by
    rcases wipeR_some e1 with z | ⟨z, m⟩
    · cases z
    · rcases wipeR_some e2 with z2 | ⟨z2, m2⟩
      · cases z2
      · rw [L2.wipe_out m] at e3
        rw [L2.wipe_out m2] at e4
        exact r.apart i j l l' a z z2 e3 e4
  mem := r.mem
  ml := r.ml
  nd := r.nd
  rf := r.rf
  rn := r.rn
  ft := r.ft
  fn := r.fn
  old := r.old
  oldT := r.oldT
  pt := r.pt
  bp := r.bp
  tab := r.tab
theorem backR_len (σ0 σ : List Rv) : ∀ vs, (backR σ0 σ vs).length = σ.length
  | [] => rfl
  | v :: vs => by simp only [backR, List.length_set, backR_len σ0 σ vs]
theorem backR_some {σ0 σ : List Rv} {i : Nat} {x : Rv} : ∀ {vs : List Nat}, (backR σ0 σ vs)[i]? = some x → (i ∈ vs ∧ x = σ0.getD i .un) ∨ (σ[i]? = some x ∧ i ∉ vs)
  | [], h => .inr ⟨h, by simp⟩
  | v :: vs, h => by
    simp only [backR] at h
    rcases get_set h with ⟨e, q⟩ | ⟨ne, q⟩
    · exact .inl ⟨by rw [e]; exact List.mem_cons_self, by rw [q, e]⟩
    · rcases backR_some q with ⟨m, z⟩ | ⟨z, m⟩
      · exact .inl ⟨List.mem_cons_of_mem _ m, z⟩
      · exact .inr ⟨z, fun w => (List.mem_cons.mp w).elim (fun e => ne e.symm) m⟩
/-- the names of a comprehension's own are as they were -/
theorem Rl.back {s0 : S} {ρ0 : List Addr} {F0 : Addr → Prop} {H0 : Hp} {vs : List Nat} (r : Rl K Tb b (L2.wipe σV vs) ρ F H s) (r0 : Rl K Tb b σV ρ0 F0 H0 s0) (x : ExS ρ0 F0 H0 ρ F H) (no : noOwn s0.σ vs = true) : Rl K Tb b σV ρ F H { s with σ := backR s0.σ s.σ vs } := by
  have r1 : Rl K Tb b σV ρ F H { s with σ := wipeR s.σ vs } := by
    refine ⟨by rw [wipeR_len, r.len, L2.wipe_length], fun i d e => ?_, fun i l e => ?_, fun i j l l' a e1 e2 e3 e4 => ?_, r.mem, r.ml, r.nd, r.rf, r.rn, r.ft, r.fn, r.old, r.oldT, r.pt, r.bp, r.tab⟩
    · rcases wipeR_some e with z | ⟨z, m⟩
      · cases z
      · obtain ⟨v, q, t⟩ := r.val i d z
        rw [L2.wipe_out m] at q
        exact ⟨v, q, t⟩
    · rcases wipeR_some e with z | ⟨z, m⟩
      · cases z
      · obtain ⟨v, us, q, t⟩ := r.own i l z
        rw [L2.wipe_out m] at q
        exact ⟨v, us, q, t⟩
    · rcases wipeR_some e1 with z | ⟨z, m⟩
      · cases z
      · rcases wipeR_some e2 with z2 | ⟨z2, m2⟩
        · cases z2
        · exact r.apart i j l l' a z z2 (by rw [L2.wipe_out m]; exact e3) (by rw [L2.wipe_out m2]; exact e4)
  refine r1.slots (by rw [backR_len]; exact (wipeR_len _ _).symm) fun i y e => ?_
  rcases backR_some e with ⟨m, z⟩ | ⟨z, m⟩
  · have hi : i < s.σ.length := by
      have := (List.getElem?_eq_some_iff.mp e).1
      rw [backR_len] at this
      exact this
    have hi0 : i < s0.σ.length := by rw [r0.len]; rw [r.len, L2.wipe_length] at hi; exact hi
    have e0 : s0.σ[i]? = some y := by rw [z, List.getD_eq_getElem?_getD, List.getElem?_eq_getElem hi0]; rfl
    cases y with
    | un => exact .inl rfl
    | mls l =>
      unfold noOwn at no
      rw [List.all_eq_true] at no
      have := no i m
      rw [← z] at this
      cases this
    | val d =>
      obtain ⟨v, q, t⟩ := r0.val i d e0
      exact .inr (.inr ⟨d, v, rfl, q, Rep.mono x _ _ t⟩)
  · refine .inr (.inl ?_)
    have : ∀ {vs : List Nat}, i ∉ vs → (wipeR s.σ vs)[i]? = s.σ[i]? := fun {vs} => by
      induction vs with
      | nil => intro _; rfl
      | cons v vs ih =>
        intro m
        simp only [wipeR]
        rw [List.getElem?_set_ne (fun e => m (by rw [e]; exact List.mem_cons_self))]
        exact ih fun w => m (List.mem_cons_of_mem _ w)
    show (wipeR s.σ vs)[i]? = some y
    rw [this m]
    exact z
end

/-! ### targets -/
def STg (g : Gd) (c : Cc) (e : Expr) (tg : Tg) : Prop := ∃ t : TG, (∀ X, XOk g c X → PG X e t) ∧
  ∀ b σV ρ F H s d v σ' Q, Rl g.K g.Tb b σV ρ F H s → Rep g.K ρ F H d v → asgT tg (.val d) s.σ = some σ' →
    (∀ σV', Rl g.K g.Tb b σV' ρ F H { s with σ := σ' } → (∀ i, i ∉ slots tg → σV'[i]? = σV[i]?) → σV'.length = σV.length → Q σV' H) → t v σV H Q
def STgs (g : Gd) (c : Cc) (es : List Expr) (ts : Tgs) : Prop := ∃ t : TGs, (∀ X, XOk g c X → PGs X es t) ∧
  ∀ b σV ρ F H s ds vs σ' Q, Rl g.K g.Tb b σV ρ F H s → Reps g.K ρ F H ds vs → asgTs ts ds s.σ = some σ' →
    (∀ σV', Rl g.K g.Tb b σV' ρ F H { s with σ := σ' } → (∀ i, i ∉ slotss ts → σV'[i]? = σV[i]?) → σV'.length = σV.length → Q σV' H) → t vs σV H Q
section
variable {g : Gd} {c : Cc} {pos : Pos} {tg e e2 e3 : Expr} {i i2 i3 : E}
theorem asg_no (h : isStar e = false) (es : List Expr) (env : Env) : assignEach (e :: es) env = (false, assign e env) :: assignEach es env := by
  cases e <;> first | rfl | cases h
theorem asg_len : ∀ {es : List Expr}, es.all (fun e => !isStar e) = true → ∀ env, (assignEach es env).length = es.length ∧ (assignEach es env).findIdx? (·.1) = none
  | [], _, _ => ⟨rfl, rfl⟩
  | e :: es, h, env => by
    simp only [List.all_cons, Bool.and_eq_true, Bool.not_eq_true'] at h
    obtain ⟨h1, h2⟩ := asg_len h.2 env
    rw [asg_no h.1]
    refine ⟨by simp only [List.length_cons, h1], ?_⟩
    rw [List.findIdx?_cons, h2]
    rfl
theorem stg_nm {x : Str} {n : Nat} (h : slotW c x = some n) : STg g c (.Name x pos) (.nm n) := by
  obtain ⟨h1, h2, h3, h4⟩ := slotW_of h
  refine ⟨L2.gName n, fun X hX => L2.pg_name (by rw [hX.N]; exact hX.nd) (by rw [hX.N]; exact h1) (by rw [hX.sc]; exact h2) (h4.imp (hX.fn x) (fun q => by rw [hX.sc]; exact q)), fun b σV ρ F H s d v σ' Q rl p e k => ?_⟩
  simp only [asgT] at e
  split at e
  · rename_i hi
    cases e
    exact k _ (rl.put (rv := .val d) p hi) (fun i m => List.getElem?_set_ne fun z => m (by simp [slots, z])) (by simp)
  · cases e
theorem stgs_nil : STgs g c [] .nil := ⟨L2.gNil, fun _ _ => L2.pgs_nil, fun b σV ρ F H s ds vs σ' Q rl p e k => by
  cases ds with
  | nil =>
    simp only [asgTs] at e
    cases e
    simp only [Reps] at p
    exact ⟨p, k σV rl (fun _ _ => rfl) rfl⟩
  | cons d ds => simp only [asgTs] at e; cases e⟩
theorem stgs_cons {es : List Expr} {t : Tg} {ts : Tgs} (hs : isStar e = false) (ha : STg g c e t) (hb : STgs g c es ts) : STgs g c (e :: es) (.cons t ts) := by
  obtain ⟨t1, h1, h2⟩ := ha
  obtain ⟨t2, h3, h4⟩ := hb
  refine ⟨L2.gCons t1 t2, fun X hX => L2.pgs_cons (h1 X hX) (h3 X hX) (by rw [asg_no hs]; rfl), fun b σV ρ F H s ds vs σ' Q rl p e k => ?_⟩
  cases ds with
  | nil => simp only [asgTs] at e; cases e
  | cons d ds =>
    simp only [asgTs] at e
    simp only [Reps] at p
    obtain ⟨v, r, rfl, p1, p2⟩ := p
    cases z : asgT t (.val d) s.σ with
    | none => rw [z] at e; cases e
    | some σ1 =>
      rw [z] at e
      refine ⟨v, r, rfl, h2 b σV ρ F H s d v σ1 _ rl p1 z fun σV1 rl1 o1 l1 => ?_⟩
      refine h4 b σV1 ρ F H { s with σ := σ1 } ds r σ' _ rl1 p2 e fun σV2 rl2 o2 l2 => ?_
      exact k σV2 rl2 (fun i m => by
        simp only [slotss, List.mem_append, not_or] at m
        rw [o2 i m.2, o1 i m.1]) (l2.trans l1)
def lenTgs : Tgs → Nat
  | .nil => 0
  | .cons _ ts => lenTgs ts + 1
theorem asgTs_ln : ∀ {ts : Tgs} {ds : List D} {σ σ' : List Rv}, asgTs ts ds σ = some σ' → ds.length = lenTgs ts
  | .nil, [], _, _, _ => rfl
  | .nil, _ :: _, _, _, h => by simp only [asgTs] at h; cases h
  | .cons _ _, [], _, _, h => by simp only [asgTs] at h; cases h
  | .cons t ts, d :: ds, σ, σ', h => by
    simp only [asgTs] at h
    cases z : asgT t (.val d) σ with
    | none => rw [z] at h; cases h
    | some σ1 =>
      rw [z] at h
      have := asgTs_ln (show asgTs ts ds σ1 = some σ' from h)
      simp only [List.length_cons, lenTgs, this]
theorem stg_tp {es : List Expr} {ts : Tgs} {k : Nat} (hs : es.all (fun e => !isStar e) = true) (hl : es.length = lenTgs ts) (ha : STgs g c es ts) : STg g c (.Tuple es k pos) (.tp ts) := by
  obtain ⟨t, h1, h2⟩ := ha
  refine ⟨L2.gTup g.K es.length t, fun X hX => ?_, fun b σV ρ F H s d v σ' Q rl p e k => ?_⟩
  · rw [← hX.K]
    exact L2.pg_tup hX.calm (h1 X hX) (asg_len hs X.env).1 (asg_len hs X.env).2
  · cases d <;> first | (simp only [asgT] at e; cases e; done) | skip
    simp only [asgT] at e
    simp only [Rep] at p
    obtain ⟨a, vs, rfl, k1, k2⟩ := p
    exact ⟨a, vs, rfl, k1, by rw [k2.length, hl]; exact asgTs_ln e, h2 b σV ρ F H s _ vs σ' Q rl k2 e fun σV' r o l => k σV' r (fun i m => o i (by simpa only [slots] using m)) l⟩
end
/-- a result that is there, by what is wanted of it -/
theorem WG.of {α β : Type} {K : PySem.W.Frag} {Tb : Addr → Prop} {b : Bx} {σV : L2.St} {ρ : List Addr} {F : Addr → Prop} {H : Hp} {R : List Addr → (Addr → Prop) → Hp → S → α → β → Prop} {Q : β → Hp → Prop} {r : Res (α × S)} {a : α} {s : S}
    (e : r = .ok (a, s)) (h : ∀ v ρ' F' H', ExE ρ F H ρ' F' H' → Rl K Tb b σV ρ' F' H' s → R ρ' F' H' s a v → Q v H') : WG K Tb b σV ρ F H R Q r := by
  rw [e]; exact h
theorem b2_assoc {α β γ : Type} {r : Res (α × S)} {f : α → S → Res (β × S)} {k : β → S → Res γ} : (r.b2 f).b2 k = r.b2 fun a s => (f a s).b2 k := by
  cases r <;> rfl
theorem b2_ok {α β : Type} {K : PySem.W.Frag} {Tb : Addr → Prop} {b : Bx} {σV : L2.St} {ρ : List Addr} {F : Addr → Prop} {H : Hp} {γ : Type} {R : List Addr → (Addr → Prop) → Hp → S → β → γ → Prop} {Q : γ → Hp → Prop} {r : Res (α × S)} {f : α → S → Res (β × S)}
    (h : WG K Tb b σV ρ F H R Q (r.b2 f)) : ∃ a s, r = .ok (a, s) ∧ WG K Tb b σV ρ F H R Q (f a s) := by
  cases r with
  | ok p => obtain ⟨a, s⟩ := p; exact ⟨a, s, rfl, h⟩
  | exc _ => exact h.elim
  | bad => exact h.elim

/-! ### comprehensions -/
theorem XOk.inner {g : Gd} {c : Cc} {X : Cx} (h : XOk g c X) (s : Shared) (H : Hp) (scope : Scope) (C : Addr) (cl : List (Str × Addr)) (fp : List Addr) : XOk g (inner c scope) (X.blk s H scope (compEnvC scope cl C X.env) fp) where
  P := h.P
  w := h.w
  K := h.K
  mg := h.mg
  base := h.base
  N := h.N
  nd := h.nd
  sc := by
    show L2.relS scope X.env.scope = L2.relS scope c.sc
    rw [h.sc]
  fn := fun _ q => q
  calm := h.calm
  room := h.room
  code := h.code
def STs (g : Gd) (c : Cc) (es : List Expr) (ir : B) : Prop := ∃ t : L2.TT, (∀ X, XOk g c X → L2.PTs X es t) ∧
  ∀ b σV ρ F H s Q, Rl g.K g.Tb b σV ρ F H s → WG g.K g.Tb b σV ρ F H (fun _ _ _ _ k k' => k' = k) Q (evB g.C g.D ir s) → t σV H Q
theorem sts_nil {g : Gd} {c : Cc} : STs g c [] .yes := ⟨_, fun _ _ => L2.pts_nil, fun b σV ρ F H s Q rl h => by
  simp only [evB] at h
  exact h.fin rl rfl⟩
theorem sts_one {g : Gd} {c : Cc} {e : Expr} {b : B} (h : SB g c e b) : STs g c [e] b := let ⟨t, h1, h2⟩ := h; ⟨t, fun X hX => L2.pts_one (h1 X hX), h2⟩
theorem set_iter {e : Expr} (h : isSet e = false) (env : Env) (x : Value) : foldedSetIterable e env x = pure x := by
  cases e <;> first | rfl | cases h

theorem backR_in {σ0 σ : List Rv} {i : Nat} : ∀ {us : List Nat}, i ∈ us → i < σ.length → (backR σ0 σ us)[i]? = some (σ0.getD i .un)
  | v :: us, m, h => by
    simp only [backR]
    by_cases e : v = i
    · rw [e, List.getElem?_set_self (by rw [backR_len]; exact h)]
    · rw [List.getElem?_set_ne e]
      exact backR_in ((List.mem_cons.mp m).resolve_left fun z => e z.symm) h
theorem backR_out {σ0 σ : List Rv} {i : Nat} : ∀ {us : List Nat}, i ∉ us → (backR σ0 σ us)[i]? = σ[i]?
  | [], _ => rfl
  | v :: us, m => by
    simp only [backR]
    rw [List.getElem?_set_ne (fun e => m (by rw [e]; exact List.mem_cons_self))]
    exact backR_out fun w => m (List.mem_cons_of_mem _ w)
theorem wipeR_out {σ : List Rv} {i : Nat} : ∀ {us : List Nat}, i ∉ us → (wipeR σ us)[i]? = σ[i]?
  | [], _ => rfl
  | v :: us, m => by
    simp only [wipeR]
    rw [List.getElem?_set_ne (fun e => m (by rw [e]; exact List.mem_cons_self))]
    exact wipeR_out fun w => m (List.mem_cons_of_mem _ w)
theorem backR_wipe (σ0 σ : List Rv) (us : List Nat) : backR σ0 (wipeR σ us) us = backR σ0 σ us := by
  apply List.ext_getElem?
  intro i
  by_cases m : i ∈ us
  · by_cases k : i < σ.length
    · rw [backR_in m (by rw [wipeR_len]; exact k), backR_in m k]
    · rw [List.getElem?_eq_none (by rw [backR_len, wipeR_len]; omega), List.getElem?_eq_none (by rw [backR_len]; omega)]
  · rw [backR_out m, backR_out m, wipeR_out m]
/-- one turn of a comprehension -/
def lcStep (C : Calls) (D' : Nat → D) (vs : List Nat) (tg : Tg) (cn : B) (el : E) (x : D) (s : S) : Res (Option D × S) :=
  (opt (asgT tg (.val x) (wipeR s.σ vs))).bind fun σ => (evB C D' cn { s with σ := σ }).b2 fun k s =>
    if k = true then (evE C D' el s).b2 fun y s => .ok (some y.fz, { s with σ := wipeR s.σ vs }) else .ok (none, { s with σ := wipeR s.σ vs })
/-- what holds ahead of turn n: what is made stands at p -/
structure LcP (K : PySem.W.Frag) (Tb : Addr → Prop) (b : Bx) (σV : L2.St) (ρ1 : List Addr) (F1 : Addr → Prop) (H1 : Hp) (p : Addr) (vs : List Nat) (W : List D → S → Prop) (n : Nat) (H : Hp) : Prop where
  ex : ∃ (acc : List D) (accV : List V) (ρ : List Addr) (F : Addr → Prop) (s : S), ExE ρ1 F1 H1 ρ F H ∧ Rl K Tb (b.and p) (L2.wipe σV vs) ρ F H { s with σ := wipeR s.σ vs } ∧ H p = some (.lst accV) ∧ Reps K ρ F H acc accV ∧ accV.length ≤ n ∧ W acc s
theorem wipeR_twice (σ : List Rv) (vs : List Nat) : wipeR (wipeR σ vs) vs = wipeR σ vs := by
  apply List.ext_getElem?
  intro i
  have key : ∀ (τ : List Rv) (us : List Nat), (i ∈ us → i < τ.length → (wipeR τ us)[i]? = some .un) ∧ (i ∉ us → (wipeR τ us)[i]? = τ[i]?) := by
    intro τ us
    induction us with
    | nil => exact ⟨fun m => by simp at m, fun _ => rfl⟩
    | cons v us ih =>
      refine ⟨fun m h => ?_, fun m => ?_⟩
      · simp only [wipeR]
        by_cases e : v = i
        · rw [e, List.getElem?_set_self (by rw [wipeR_len]; exact h)]
        · rw [List.getElem?_set_ne e]
          exact ih.1 ((List.mem_cons.mp m).resolve_left fun z => e z.symm) h
      · simp only [wipeR]
        rw [List.getElem?_set_ne (fun e => m (by rw [e]; exact List.mem_cons_self))]
        exact ih.2 fun w => m (List.mem_cons_of_mem _ w)
  by_cases m : i ∈ vs
  · by_cases k : i < σ.length
    · rw [(key _ _).1 m (by rw [wipeR_len]; exact k), (key _ _).1 m k]
    · rw [List.getElem?_eq_none (by simp only [wipeR_len]; omega), List.getElem?_eq_none (by simp only [wipeR_len]; omega)]
  · rw [(key _ _).2 m]

section
variable {g : Gd} {c : Cc} {pos : Pos} {tgE it elt : Expr} {ifs : List Expr} {scope : Scope} {own : List (Str × Nat)} {tg : Tg} {ii : I} {cn : B} {el : E}
theorem lc_parts (hi : SI g c tgE it ii) (hset : isSet it = false) (hb : L2.blkC c.N c.sc scope own = true) (htg : STg g (inner c scope) tgE tg) (hsl : ∀ n, n ∈ slots tg → n ∈ own.map (·.2)) (hc : STs g (inner c scope) ifs cn) (he : SE g (inner c scope) elt el) :
    ∃ (wi : TI) (gt : TG) (tt : L2.TT) (te : TE), (∀ X, XOk g c X → PI X tgE it wi) ∧ (∀ X, XOk g (inner c scope) X → PG X tgE gt) ∧ (∀ X, XOk g (inner c scope) X → L2.PTs X ifs tt) ∧ (∀ X, XOk g (inner c scope) X → PE X elt te) ∧
      ∀ b σV ρ F H s Q, Rl g.K g.Tb b σV ρ F H s → WG g.K g.Tb b σV ρ F H (RepR g.K b σV) Q (evE g.C g.D (.lc (own.map (·.2)) tg ii cn el) s) → L2.tLc wi gt tt te (own.map (·.2)) σV H Q := by
  obtain ⟨wi, i1, i2⟩ := hi
  obtain ⟨gt, g1, g2⟩ := htg
  obtain ⟨tt, t1, t2⟩ := hc
  obtain ⟨te, e1, e2⟩ := he
  refine ⟨wi, gt, tt, te, i1, g1, t1, e1, fun b σV ρ F H s Q rl h => ?_⟩
  generalize hvs : own.map (·.2) = vs at *
  simp only [evE] at h
  refine h.part (T := fun Q' => wi σV H Q') (fun Q' q => i2 _ _ _ _ _ _ _ rl q) fun l s1 J ρ1 F1 H1 _ x1 r1 itok q1 => ?_
  obtain ⟨⟨no, hl⟩, q2⟩ := q1.ite
  obtain ⟨G, Y, w, hG, hY⟩ := itok.ex
  intro p hp
  obtain ⟨f1, f2, f3, f4, f5⟩ := r1.free hp
  have q3 : WG g.K g.Tb b σV ρ1 F1 H1 (RepR g.K b σV) Q ((lcL (lcStep g.C g.D vs tg cn el) l s1 []).b2 fun r s' => .ok (.mls r, { s' with σ := backR s1.σ s'.σ vs })) := q2
  let W : Nat → List D → S → Prop := fun n acc s => WG g.K g.Tb b σV ρ1 F1 H1 (RepR g.K b σV) Q ((lcL (lcStep g.C g.D vs tg cn el) (l.drop n) s acc).b2 fun r s' => .ok (.mls r, { s' with σ := backR s1.σ s'.σ vs }))
  refine L2.lc_it w (fun n Hc => LcP g.K g.Tb b σV ρ1 F1 H1 p vs (W n) n Hc) ?_ (fun n Hc _ ⟨⟨acc, accV, ρ, F, s, x, r, _⟩⟩ => hG ρ F Hc (x.toS r1)) ?_ ?_
  · have r2 := (r1.wipe vs).guard (p := p) (o := .lst []) hp id
    exact ⟨⟨[], [], ρ1, F1, s1, ExE.same (same_upd hp), r2, upd_same, Reps.nil, Nat.le_refl _, q3⟩⟩
  · rintro n x Hc Hc' hn ⟨⟨acc, accV, ρ, F, s, x2, r, k1, k2, k3, k4⟩⟩ y
    have dn : l[n]? = some l[n] := by simp [hn]
    obtain ⟨sm, rep⟩ := hY ρ F Hc n x Hc' l[n] (x2.toS r1) y dn
    have dr : l.drop n = l[n] :: l.drop (n + 1) := List.drop_eq_getElem_cons hn
    have k4' : WG g.K g.Tb b σV ρ1 F1 H1 (RepR g.K b σV) Q ((lcL (lcStep g.C g.D vs tg cn el) (l[n] :: l.drop (n + 1)) s acc).b2 fun r s' => .ok (.mls r, { s' with σ := backR s1.σ s'.σ vs })) := by rw [← dr]; exact k4
    simp only [lcL, b2_assoc] at k4'
    obtain ⟨yo, s2, z1, k5⟩ := b2_ok k4'
    unfold lcStep at z1
    cases z : asgT tg (.val l[n]) (wipeR s.σ vs) with
    | none => rw [z] at z1; cases z1
    | some σ1 =>
      rw [z] at z1
      simp only [opt, Res.bind] at z1
      have r' := r.same sm
      refine g2 (b.and p) (L2.wipe σV vs) ρ F Hc' { s with σ := wipeR s.σ vs } l[n] x σ1 _ r' rep z fun σV2 rl2 o2 l2 => ?_
      have hw : L2.wipe σV2 vs = L2.wipe σV vs := by
        rw [← wipe_twice σV vs]
        exact wipe_ext l2 fun i m => o2 i fun q => m (hsl i q)
      refine ⟨hw, ?_⟩
      cases z2 : evB g.C g.D cn { s with σ := σ1 } with
      | exc _ => rw [z2] at z1; cases z1
      | bad => rw [z2] at z1; cases z1
      | ok q =>
        obtain ⟨k, s3⟩ := q
        rw [z2] at z1
        simp only [Res.b2] at z1
        refine t2 (b.and p) σV2 ρ F Hc' { s with σ := σ1 } _ rl2 (WG.of z2 fun k' ρ3 F3 H3 x3 r3 e3 => ?_)
        subst e3
        have xa : ExE ρ1 F1 H1 ρ3 F3 H3 := (x2.trans (ExE.same sm)).trans x3
        have xb : ExE ρ F Hc ρ3 F3 H3 := (ExE.same sm).trans x3
        have hp3 : H3 p = some (.lst accV) := x3.all _ _ (sm _ _ k1) r.guarded.2.1 id
        cases k' with
        | false =>
          rw [if_neg (by decide)] at z1 ⊢
          cases z1
          refine ⟨⟨acc, accV, ρ3, F3, _, xa, ?_, hp3, Reps.mono (xb.toS r) _ _ k2, by omega, k5⟩⟩
          have := r3.wipe vs
          rw [hw] at this
          simpa only [wipeR_twice] using this
        | true =>
          rw [if_pos rfl] at z1 ⊢
          cases z3 : evE g.C g.D el s3 with
          | exc _ => rw [z3] at z1; cases z1
          | bad => rw [z3] at z1; cases z1
          | ok q =>
            obtain ⟨yr, s4⟩ := q
            rw [z3] at z1
            simp only [Res.b2] at z1
            cases z1
            refine e2 (b.and p) σV2 ρ3 F3 H3 s3 _ r3 (WG.of z3 fun v ρ4 F4 H4 x4 r4 e4 => ?_)
            obtain ⟨F5, m5, r5, p5⟩ := RepR.fz r4 e4
            have x5 : ExE ρ3 F3 H3 ρ4 F5 H4 := x4.trans (ExE.more m5)
            have hp4 : H4 p = some (.lst accV) := x5.all _ _ hp3 r3.guarded.2.1 id
            have hl2 : l.length ≤ sizeLine := hl
            refine ⟨accV, hp4, by omega, ?_⟩
            have nf := r5.guarded.1
            have xu : ExS ρ4 F5 H4 ρ4 F5 (upd H4 p (.lst (accV ++ [v]))) := exS_upd nf fun u e => by rw [hp4] at e; cases e; trivial
            have xc : ExE ρ F Hc ρ4 F5 H4 := xb.trans x5
            refine ⟨⟨acc ++ [yr.fz], accV ++ [v], ρ4, F5, { s4 with σ := wipeR s4.σ vs }, (xa.trans x5).updNew hp, ?_, upd_same, ?_, ?_, ?_⟩⟩
            · have := (r5.wipe vs).updP (p := p) (o := .lst (accV ++ [v])) (.inr rfl) f3 (fun u e => by rw [hp4] at e; cases e; trivial) id
              rw [hw] at this
              simpa only [wipeR_twice] using this
            · exact Reps.mono xu _ _ (Reps.append (Reps.mono (xc.toS r) _ _ k2) (Reps.one p5))
            · simp only [List.length_append, List.length_singleton]; omega
            · exact k5
  · rintro Hc ⟨⟨acc, accV, ρ, F, s, x2, r, k1, k2, k3, k4⟩⟩
    have k4' : WG g.K g.Tb b σV ρ1 F1 H1 (RepR g.K b σV) Q ((lcL (lcStep g.C g.D vs tg cn el) [] s acc).b2 fun r s' => .ok (.mls r, { s' with σ := backR s1.σ s'.σ vs })) := by
      rw [← List.drop_length (l := l)]; exact k4
    simp only [lcL, Res.b2] at k4'
    have rb := r.unguard.back r1 (x2.toS r1) no
    simp only [backR_wipe] at rb
    refine k4' (.ref p) ρ F Hc x2 rb ⟨p, accV, rfl, ⟨k1, k2, r.guarded.1, r.guarded.2.1, f3, f4⟩, fun i l' e q => ?_⟩
    rcases backR_some e with ⟨m, z⟩ | ⟨z, m⟩
    · unfold noOwn at no
      rw [List.all_eq_true] at no
      have := no i m
      rw [← z] at this
      cases this
    · exact r.guarded.2.2 i l' (by show (wipeR s.σ vs)[i]? = _; rw [wipeR_out m]; exact z) (by rw [L2.wipe_out m]; exact q)
theorem se_lc (hi : SI g c tgE it ii) (hset : isSet it = false) (hb : L2.blkC c.N c.sc scope own = true) (htg : STg g (inner c scope) tgE tg) (hsl : ∀ n, n ∈ slots tg → n ∈ own.map (·.2)) (hc : STs g (inner c scope) ifs cn) (he : SE g (inner c scope) elt el) :
    SE g c (.ListComp elt [⟨tgE, it, ifs, 0⟩] scope pos) (.lc (own.map (·.2)) tg ii cn el) := by
  obtain ⟨wi, gt, tt, te, i1, g1, t1, e1, sem⟩ := lc_parts hi hset hb htg hsl hc he
  refine ⟨L2.tLc wi gt tt te (own.map (·.2)), fun X hX => ?_, sem⟩
  exact L2.pe_lc hX.calm (by rw [hX.N]; exact hX.nd) (i1 X hX) (by rw [hX.N, hX.sc]; exact L2.blkOk_by hb) (fun s H C cl fp => g1 _ (hX.inner s H scope C cl fp)) (fun s H C cl fp => t1 _ (hX.inner s H scope C cl fp)) (fun s H C cl fp => e1 _ (hX.inner s H scope C cl fp)) (set_iter hset _)
end
end Ev


set_option Elab.async false
set_option linter.all false
set_option autoImplicit false
set_option maxRecDepth 100000
set_option maxHeartbeats 1000000
/-! GxA: all, any of a generator expression whose element may call defs: the generator's own run. -/
namespace Ev
open PySem PySem.Spec PyProof.Rows GenW
open L2 (V Hp HO Inv Turn It FpOk PE PG PTs TG TT TE VK Cx)

/-- a comprehension's code over no frame of its own -/
theorem over_gx {A : Around} {elt : Expr} {gs : List Comprehension} {scope : Scope} {pos : Pos} {it acc : Value} {env : Env} :
    A.over (.compLoop (.GeneratorExp elt gs scope pos) 0 it acc env) [] = A.deeper env := by
  first
    | rfl
    | (obtain ⟨hd, d, fr, gs, u⟩ := A; simp [Around.over, Around.deeper, marksOver, frameCount, unitsOf, envsOf, guardsOf, pushEnvs, pushGuards, Code.envs, Code.env?, Code.isFrame, Code.guards, Code.isGuard, Code.weight, Code.frames, Code.isCreation, Code.isCaller, Code.cUnits])

/-- what is kept while the generator sleeps -/
structure Kept (s s' : Shared) : Prop where
  os : s'.os = s.os
  bare : AllBare s'.gens
  keep : ∀ b o, s.heap.get? b = some o → s'.heap.get? b = some o
theorem Kept.inv {X : Cx} {pins : List (Addr × Obj)} {σ : L2.St} {H : Hp} {s s' : Shared} (k : Kept s s') (I : Inv X pins σ H s) : Inv X pins σ H s' :=
  I.call' (ch := []) k.os (L2.Un.kept k.keep) (I.hok.kept k.keep) k.bare fun b z => by simp at z

/-- the turns: W by the turn and a measure; al: what lets the walk go on -/
def GxW (al : Bool) (J : It) (σm : L2.St) (gt : TG) (tt : TT) (te : TE) (Q : Bool → Hp → Prop) (W : Nat → Nat → Hp → Prop) : Prop := ∀ i m H, W i m H →
  (J.stop i H ∧ Q al H) ∨ (J.go i H ∧ ∃ Nx : Hp → Prop, (∀ H', Nx H' → ∃ m', m' < m ∧ W (i + 1) m' H') ∧ ∀ x H', J.yld i H x H' → gt x σm H' fun σ2 H3 =>
    (σ2.length = σm.length ∧ ∀ (i : Nat) v, σm[i]? = some (some v) → σ2[i]? = some (some v)) ∧ tt σ2 H3 fun k H4 =>
      if k = true then te σ2 H4 fun v H5 => ∃ b, v = .bl b ∧ if b = al then Nx H5 else Q b H5 else Nx H4)

/-- an item is handed out -/
def GxY (X : Cx) (σm : L2.St) (al : Bool) (Q : Bool → Hp → Prop) : Protocol := fun n s₀ v s kap =>
  ∃ b H, v = .bool b ∧ Inv X [] σm H s ∧ if b = al then ∀ s', Kept s s' → kap (.send .none) s' else Q b H
def GxR (X : Cx) (σm : L2.St) (al : Bool) (Q : Bool → Hp → Prop) : GenEnd := fun n s₀ r s => r = .ok .next ∧ ∃ H, Inv X [] σm H s ∧ Q al H

section
variable {X : Cx} {A : Around} {tg iter elt : Expr} {ifs : List Expr} {scope : Scope} {pos : Pos} {J : It} {fp : List Addr} {it : Addr} {tn : Nat → Heap → Prop} {σm : L2.St} {gt : TG} {tt : TT} {te : TE} {al : Bool} {Q : Bool → Hp → Prop} {W : Nat → Nat → Hp → Prop}
theorem seg_gx (hov : A.deeper X.env = X.A) (hc : X.calm = true) (T : Turn X.prog X.w X.K tg J fp it tn) (hg : PG X tg gt) (ht : PTs X ifs tt) (he : PE X elt te) (hxe : ∀ e s, ¬ X.xe e s) (hco : X.env.scope.isCoroutine = false) (hW : GxW al J σm gt tt te Q W) :
    ∀ (m i : Nat) (s₀ s : Shared) (H : Hp) (n : Nat), Inv X [] σm H s → tn i s.heap → (∀ b ∈ fp, FpOk X [] H b) → W i m H → m < n →
      Seg (model X.prog X.w) A (GxR X σm al Q) (GxY X σm al Q) n s₀ (.compLoop (.GeneratorExp elt [⟨tg, iter, ifs, 0⟩] scope pos) 0 (.ref it) .none X.env)
        ((model X.prog X.w).den (.compLoop (.GeneratorExp elt [⟨tg, iter, ifs, 0⟩] scope pos) 0 (.ref it) .none X.env)) [] s := by
  have ov : A.over (.compLoop (.GeneratorExp elt [⟨tg, iter, ifs, 0⟩] scope pos) 0 (.ref it) .none X.env) [] = X.A := over_gx.trans hov
  intro m
  induction m using Nat.strongRecOn with
  | ind m ih =>
  intro i s₀ s H n I ti hf hw hmn
  show Seg _ A _ _ _ s₀ _ ((compTurn (.GeneratorExp elt [⟨tg, iter, ifs, 0⟩] scope pos) 0 (.ref it) .none X.env).onRaise (leaving X.env)) [] s
  rw [compTurn_gen, Sem.onRaise_eq_wrap]
  refine seg_bind_wrap (wpAny_standAt ?_)
  rcases hW i m H hw with ⟨hs, hq⟩ | ⟨hgo, Nx, hNx, hy⟩
  · refine seg_bind_wrap ?_
    rw [ov]
    refine wpAny_mono (T.done X rfl rfl rfl hc i [] s σm H (fun _ _ => False) I hf ti hs) (fun r s1 ⟨hr, I1⟩ => ?_) fun _ _ z => z.elim
    subst hr
    exact seg_end (.ok .next) ⟨rfl, H, I1, hq⟩
  · refine seg_bind_wrap ?_
    rw [ov]
    refine wpAny_mono (T.item X rfl rfl rfl hc i [] s σm H (fun _ _ => False) I hf ti hgo) (fun r s1 ⟨u, hr, h1⟩ => ?_) fun _ _ z => z.elim
    subst hr
    refine seg_bind_wrap ?_
    rw [ov]
    refine wpAny_mono h1 (fun _ s2 ⟨x, H', I2, rx, hyl, ti2, hn2⟩ => ?_) fun _ _ z => z.elim
    obtain ⟨ps, hps⟩ : ∃ ps : List (Addr × Obj), (∀ b ∈ fp, ∃ o, (b, o) ∈ ps) ∧ ∀ p ∈ ps, p.1 ∈ fp ∧ s2.heap.get? p.1 = some p.2 ∧ ∀ v, p.2.data ≠ .cell v := by
      have ob := T.obj (i + 1) s2.heap ti2
      clear hf hn2
      have key : ∀ l : List Addr, (∀ b ∈ l, b ∈ fp) → ∃ ps : List (Addr × Obj), (∀ b ∈ l, ∃ o, (b, o) ∈ ps) ∧ ∀ p ∈ ps, p.1 ∈ fp ∧ s2.heap.get? p.1 = some p.2 ∧ ∀ v, p.2.data ≠ .cell v := by
        intro l
        induction l with
        | nil => exact fun _ => ⟨[], fun b hb => by simp at hb, fun p hp => by simp at hp⟩
        | cons b l ihl =>
          intro hl
          obtain ⟨ps, h1, h2⟩ := ihl fun c hc => hl c (List.mem_cons_of_mem _ hc)
          obtain ⟨o, h3, h4⟩ := ob b (hl b List.mem_cons_self)
          refine ⟨(b, o) :: ps, fun c hc => ?_, fun p hp => ?_⟩
          · rcases List.mem_cons.mp hc with z | z
            · exact ⟨o, by rw [z]; exact List.mem_cons_self⟩
            · obtain ⟨o', h5⟩ := h1 c z
              exact ⟨o', List.mem_cons_of_mem _ h5⟩
          · rcases List.mem_cons.mp hp with z | z
            · rw [z]; exact ⟨hl b List.mem_cons_self, h3, h4⟩
            · exact h2 p z
      exact key fp fun _ h => h
    obtain ⟨hp1, hp2⟩ := hps
    have I2p : Inv X ps σm H' s2 := I2.pins_of fun p hp => by
      obtain ⟨q1, q2, q3⟩ := hp2 p hp
      obtain ⟨_, q4, q5, _⟩ := hf p.1 q1
      exact ⟨q2, hn2 p.1 q1, q4, q5, q3⟩
    -- behind an evaluation: the iterator stands as it stood
    have back : ∀ {σ2 : L2.St} {H5 : Hp} {s5 : Shared}, Inv X ps σ2 H5 s5 → (σ2.length = σm.length ∧ ∀ (i : Nat) v, σm[i]? = some (some v) → σ2[i]? = some (some v)) →
        Inv X [] σm H5 s5 ∧ tn (i + 1) s5.heap ∧ ∀ b ∈ fp, FpOk X [] H5 b := fun {σ2 H5 s5} I5 hσ => by
      refine ⟨(I5.weak hσ.1.symm hσ.2).pins_of fun p hp => by simp at hp, T.keep _ _ _ ti2 fun b hb o e => ?_, fun b hb => ?_⟩
      · obtain ⟨o', ho'⟩ := hp1 b hb
        obtain ⟨_, q2, _⟩ := hp2 _ ho'
        have e1 : o = o' := by
          have := e.symm.trans q2
          exact Option.some.inj this
        rw [e1]
        exact (I5.pin (b, o') (List.mem_append_right _ ho')).1
      · obtain ⟨o', ho'⟩ := hp1 b hb
        obtain ⟨_, z2, z3, z4, z5, z6⟩ := hf b hb
        exact ⟨(I5.pin (b, o') (List.mem_append_right _ ho')).2.1, z2, z3, z4, z5, z6⟩
    refine seg_bind_wrap ?_
    rw [ov]
    refine wpAny_mono (hg.run _ _ _ _ _ _ _ I2p rx (hy x H' hyl)) (fun _ s3 hq3 => ?_) fun e s' z => (hxe e s' z).elim
    obtain ⟨σ2, H3, I3, hσ, q3⟩ := hq3
    refine seg_bind_wrap ?_
    rw [ov]
    refine wpAny_mono (ht.run ps s3 σ2 H3 _ I3 q3) (fun k s4 ⟨H4, I4, q4⟩ => ?_) fun e s' z => (hxe e s' z).elim
    cases k with
    | false =>
      rw [if_neg (by decide)] at q4
      simp only [Bool.false_eq_true, if_false]
      obtain ⟨m', hm', hw'⟩ := hNx H4 q4
      obtain ⟨J1, J2, J3⟩ := back I4 hσ
      exact seg_again rfl (ih m' hm' (i + 1) s₀ s4 H4 n J1 J2 J3 hw' (by omega))
    | true =>
      rw [if_pos rfl] at q4
      simp only [if_true]
      have hyo : ∀ v, yieldOut X.env v = yieldValue v := fun v => by simp only [yieldOut, hco, Bool.false_eq_true, if_false]
      simp only [hyo]
      rw [Sem.bind_eq_wrap', Sem.bind_eq_wrap', Sem.wrap_wrap, Sem.wrap_wrap]
      refine seg_wrap ?_
      rw [ov]
      refine wpAny_mono (he.run ps s4 σ2 H4 _ I4 q4) (fun y s5 hy5 => ?_) fun e s' z => (hxe e s' z).elim
      obtain ⟨v, H5, I5, rv, b, hv, q5⟩ := hy5
      subst hv
      have ey : y = Value.bool b := rv
      subst ey
      obtain ⟨J1, J2, J3⟩ := back I5 hσ
      have hn : ∃ n', n = n' + 1 := ⟨n - 1, by omega⟩
      obtain ⟨n, rfl⟩ := hn
      refine seg_at (seg_yield rfl rfl rfl ⟨b, H5, rfl, J1, ?_⟩)
      by_cases hb : b = al
      · rw [if_pos hb] at q5 ⊢
        obtain ⟨m', hm', hw'⟩ := hNx H5 q5
        intro s'' hk
        refine seg_again rfl (ih m' hm' (i + 1) s'' s'' H5 n (hk.inv J1) (T.keep _ _ _ J2 fun b _ o e => hk.keep b o e) J3 hw' (by omega))
      · rw [if_neg hb] at q5 ⊢
        exact q5
end
end Ev


set_option Elab.async false
set_option linter.all false
set_option autoImplicit false
set_option maxRecDepth 100000
set_option maxHeartbeats 1000000
/-! GxB: the consumers all, any. -/
namespace Ev
open PySem PySem.Spec PyProof.Rows GenW
open L2 (V Hp HO Inv Turn It FpOk PE PG PTs TG TT TE VK Cx allBare_setGen setGen_at)
def loopId (al : Bool) : String := if al then "all.loop" else "any.loop"
section
variable {X : Cx} {A : Around} {σm : L2.St} {al : Bool} {Q : Bool → Hp → Prop} {a : Addr} {g : Nat} {R : Result → Shared → Prop}
theorem next_gx (hh : A.handled = none) (hd : A.depth < recursionLimit) (hgen : ∀ H s, Inv X [] σm H s → s.heap.IsGen a g) {n : Nat} {s : Shared} {H : Hp} {gs : GenState} {Q' : Option Value → Shared → Prop} {E : Value → Shared → Prop} (I : Inv X [] σm H s) (hgs : s.gens[g]? = some gs)
    (hgo : gs.Goes (model X.prog X.w) A.in1 (GxR X σm al Q) (GxY X σm al Q) n (.send .none) (s.setGen g .running))
    (hY : ∀ b s1 gs' H1, Inv X [] σm H1 s1 → s1.gens[g]? = some gs' → (if b = al then ∃ m, n = m + 1 ∧ gs'.Goes (model X.prog X.w) A.in1 (GxR X σm al Q) (GxY X σm al Q) m (.send .none) (s1.setGen g .running) else Q b H1) → Q' (some (.bool b)) s1)
    (hN : ∀ s1 H1, Inv X [] σm H1 s1 → Q al H1 → Q' none s1) : wpAny (model X.prog X.w) A (pyNext (.ref a)) Q' E s := by
  have hgl : g < s.gens.size := (Array.getElem?_eq_some_iff.mp hgs).1
  refine wpAny_gsz (n := g + 1) hgl (wpAny_pyNext_genexpQ (P := fun n s₀ s => ∃ H, Inv X [] σm H s ∧ Q al H) hh I.nolimit hd (hgen _ _ I) hgs hgo (fun v s₁ gs' hb hv => ?_) fun s₁ hp h' hk => ?_)
  · obtain ⟨b, H1, rfl, I1, hq⟩ := hv
    intro hsz
    have hsz1 : g < s₁.gens.size := by
      have q : (s₁.setGen g gs').gens.size = s₁.gens.size := GenW.setGen_size _ _ _
      have hsz' : g + 1 ≤ (s₁.setGen g gs').gens.size := hsz
      omega
    have k1 : Kept s₁ (s₁.setGen g gs') := ⟨rfl, allBare_setGen I1.bare hb, fun _ _ e => e⟩
    refine hY b _ gs' H1 (k1.inv I1) (setGen_at hsz1) ?_
    by_cases hal : b = al
    · rw [if_pos hal] at hq ⊢
      have k2 : Kept s₁ ((s₁.setGen g gs').setGen g .running) := ⟨rfl, allBare_setGen (allBare_setGen I1.bare hb) rfl, fun _ _ e => e⟩
      have := hq _ k2
      cases n with
      | zero => exact this.elim
      | succ m => exact ⟨m, rfl, this⟩
    · rw [if_neg hal] at hq ⊢
      exact hq
  · obtain ⟨H1, I1, hq⟩ := hp
    intro _
    have k1 : Kept s₁ { s₁.setGen g .finished with heap := h' } := ⟨rfl, allBare_setGen I1.bare rfl, hk⟩
    exact hN _ H1 (k1.inv I1) hq

theorem all_gx (hh : A.handled = none) (hd : A.depth < recursionLimit) (hgen : ∀ H s, Inv X [] σm H s → s.heap.IsGen a g) (hR : ∀ b s H, Inv X [] σm H s → Q b H → R (.ok (.ret (.bool b))) s) :
    ∀ (n : Nat) (s : Shared) (H : Hp) (gs : GenState), Inv X [] σm H s → s.gens[g]? = some gs → gs.Goes (model X.prog X.w) A.in1.in1 (GxR X σm true Q) (GxY X σm true Q) n (.send .none) (s.setGen g .running) →
      codeAny (model X.prog X.w) A (.builtin "all.loop" ⟨[.ref a], []⟩) R s := by
  intro n
  induction n using Nat.strongRecOn with
  | ind n ih =>
  intro s H gs I hgs hgo
  refine codeAny_builtin F.entry_all_loop ?_
  rw [Around.under_plainId F.plain_all_loop _]
  show wpAny _ A.in1 (pyNext (.ref a) >>= _) _ _ s
  refine wpAny_bind (next_gx (A := A.in1) hh hd hgen I hgs hgo (fun b s1 gs' H1 I1 hgs1 hq => ?_) fun s1 H1 I1 hq => ?_)
  · refine wpAny_bind (wpAny_holding (wpAny_truthy_bool ?_))
    refine wpAny_bind (wpAny_letGo ?_)
    cases b with
    | true =>
      rw [if_pos rfl] at hq
      obtain ⟨m, rfl, hq⟩ := hq
      simp only [if_true]
      exact wpAny_pure ⟨plainId_quiet F.plain_all_loop _, ih m (by omega) _ H1 gs' I1 hgs1 hq⟩
    | false =>
      rw [if_neg (by decide)] at hq
      simp only [Bool.false_eq_true, if_false]
      exact wpAny_bind (wpAny_rule (wpAny_pure (hR false _ H1 I1 hq)))
  · exact wpAny_bind (wpAny_rule (wpAny_pure (hR true _ H1 I1 hq)))
theorem any_gx (hh : A.handled = none) (hd : A.depth < recursionLimit) (hgen : ∀ H s, Inv X [] σm H s → s.heap.IsGen a g) (hR : ∀ b s H, Inv X [] σm H s → Q b H → R (.ok (.ret (.bool b))) s) :
    ∀ (n : Nat) (s : Shared) (H : Hp) (gs : GenState), Inv X [] σm H s → s.gens[g]? = some gs → gs.Goes (model X.prog X.w) A.in1.in1 (GxR X σm false Q) (GxY X σm false Q) n (.send .none) (s.setGen g .running) →
      codeAny (model X.prog X.w) A (.builtin "any.loop" ⟨[.ref a], []⟩) R s := by
  intro n
  induction n using Nat.strongRecOn with
  | ind n ih =>
  intro s H gs I hgs hgo
  refine codeAny_builtin F.entry_any_loop ?_
  rw [Around.under_plainId F.plain_any_loop _]
  show wpAny _ A.in1 (pyNext (.ref a) >>= _) _ _ s
  refine wpAny_bind (next_gx (A := A.in1) hh hd hgen I hgs hgo (fun b s1 gs' H1 I1 hgs1 hq => ?_) fun s1 H1 I1 hq => ?_)
  · refine wpAny_bind (wpAny_holding (wpAny_truthy_bool ?_))
    refine wpAny_bind (wpAny_letGo ?_)
    cases b with
    | false =>
      rw [if_pos rfl] at hq
      obtain ⟨m, rfl, hq⟩ := hq
      simp only [Bool.false_eq_true, if_false]
      exact wpAny_pure ⟨plainId_quiet F.plain_any_loop _, ih m (by omega) _ H1 gs' I1 hgs1 hq⟩
    | true =>
      rw [if_neg (by decide)] at hq
      simp only [if_true]
      exact wpAny_bind (wpAny_rule (wpAny_pure (hR true _ H1 I1 hq)))
  · exact wpAny_bind (wpAny_rule (wpAny_pure (hR false _ H1 I1 hq)))
end

/-- seen from the generator: the def's frame is a caller's -/
def gx (X : Cx) (A : Around) (env : Env) (s : Shared) (H : Hp) (fp : List Addr) (pn : List (Addr × Obj)) : Cx :=
  { prog := X.prog, w := X.w, K := X.K, mg := X.mg, base := X.base, A := A.deeper env, N := X.N, s_0 := s, H_0 := H, env := env, outer := X.stack, stack := env :: X.stack, ex := fp, fn := fun _ => false, calm := true, pn := pn, xe := fun _ _ => False }
/-- the def's names that it sees: those at cs -/
def mskV (σ : L2.St) (cs : List Nat) : L2.St := σ.mapIdx fun i x => if i ∈ cs then x else none
theorem mskV_get {σ : L2.St} {cs : List Nat} {i : Nat} {v : V} (h : (mskV σ cs)[i]? = some (some v)) : i ∈ cs ∧ σ[i]? = some (some v) := by
  unfold mskV at h
  rw [List.getElem?_mapIdx] at h
  cases e : σ[i]? with
  | none => rw [e] at h; cases h
  | some y =>
    rw [e] at h
    simp only [Option.map_some, Option.some.injEq] at h
    by_cases m : i ∈ cs
    · rw [if_pos m] at h; exact ⟨m, by rw [h]⟩
    · rw [if_neg m] at h; cases h
theorem mskV_len {σ : L2.St} {cs : List Nat} : (mskV σ cs).length = σ.length := by simp [mskV]
end Ev


set_option Elab.async false
set_option linter.all false
set_option autoImplicit false
set_option maxRecDepth 100000
set_option maxHeartbeats 2000000
/-! GxC: all, any of a generator expression, as an expression. -/
namespace Ev
open PySem PySem.Spec PyProof.Rows GenW
open L2 (V Hp HO Inv Turn It FpOk PE PI PG PTs TG TT TE TI VK Cx Room Gl frs cloFrom)
open GxR (TabB TabG Tabbed)
/-- the scope of a generator expression; cs: the slots of the captured names -/
structure GSc (X : Cx) (scope : Scope) (cs : List Nat) : Prop where
  kind : scope.kind = .function
  co : scope.isCoroutine = false
  cell : ∀ y ∈ scope.names, y.2 ≠ .cell
  dot : scope.names.lookup (".0" : Str) = some NameKind.local
  uniq : ∀ y ∈ scope.names, scope.names.lookup y.1 = some y.2
  free : ∀ y ∈ scope.names, y.2 = .free → X.env.scope.names.lookup y.1 = some .cell ∨ X.env.scope.names.lookup y.1 = some .free
  caps : ∀ i ∈ cs, ∀ x, X.N[i]? = some x → scope.names.lookup x = some .free
theorem GSc.has {X : Cx} {scope : Scope} {cs : List Nat} {pins : List (Addr × Obj)} {σ : L2.St} {H : Hp} {s : Shared} (S : GSc X scope cs) (I : Inv X pins σ H s) : ∀ y ∈ scope.names, y.2 = .free → ∃ c, X.env.cells.lookup y.1 = some c := fun y hy e => by
  rcases S.free y hy e with k | k
  · exact I.ok.has _ (.inl k)
  · exact I.ok.has _ (.inr k)
/-- a captured name's cell -/
theorem GSc.clo {X : Cx} {scope : Scope} {cs : List Nat} (S : GSc X scope cs) {x : Str} {c : Addr} (h : (cloFrom X.env.cells scope.names []).lookup x = some c) (hh : ∀ y ∈ scope.names, y.2 = .free → ∃ c, X.env.cells.lookup y.1 = some c) :
    (x, NameKind.free) ∈ scope.names ∧ X.env.cells.lookup x = some c := by
  rcases L2.cloFrom_mem (PySem.mem_of_lookup h) with z | ⟨z1, z2⟩
  · simp at z
  · obtain ⟨c', e⟩ := hh _ z1 rfl
    refine ⟨z1, ?_⟩
    have e' : X.env.cells.lookup x = some c' := e
    rw [z2, e']
    rfl
theorem GSc.clo' {X : Cx} {scope : Scope} {cs : List Nat} (S : GSc X scope cs) {x : Str} (h : (x, NameKind.free) ∈ scope.names) (hh : ∀ y ∈ scope.names, y.2 = .free → ∃ c, X.env.cells.lookup y.1 = some c) :
    ∃ c, (cloFrom X.env.cells scope.names []).lookup x = some c ∧ X.env.cells.lookup x = some c := by
  obtain ⟨c, e⟩ := L2.mem_lookup (L2.cloFrom_has (cells := X.env.cells) (acc := []) h)
  exact ⟨c, e, (S.clo e hh).2⟩

/-- the generator's run begins -/
theorem gx_start {X : Cx} {pins : List (Addr × Obj)} {σ : L2.St} {H : Hp} {s : Shared} {scope : Scope} {cs : List Nat} {fp : List Addr} {code : Value} {m0 : Str → Option Value} {h5 : Heap} {go : Obj} {ga : Addr} {gens : Array GenState} {tk : Nat} {A : Around}
    (S : GSc X scope cs) (I : Inv X pins σ H s) (hh : A.handled = none) (hfr : A.frames = some X.stack) (hf : ∀ b ∈ fp, FpOk X pins H b) (hthere : ∀ b ∈ fp, ∃ o, s.heap.get? b = some o)
    (hns : h5.Ns s.heap.objs.size m0) (hk : ∀ b o, s.heap.get? b = some o → h5.get? b = some o) (hga : s.heap.objs.size < ga) (hgo : h5.get? ga = some go) (hgd : ∀ v, go.data ≠ .cell v) (hb : AllBare gens) :
    Inv (gx X A (genEnv scope (cloFrom X.env.cells scope.names []) s.heap.objs.size code builtinsNs X.env) s H fp [(ga, go)]) [] (mskV σ cs) H { s with heap := h5, gens := gens, toks := tk } ∧
      ∀ b ∈ fp, FpOk (gx X A (genEnv scope (cloFrom X.env.cells scope.names []) s.heap.objs.size code builtinsNs X.env) s H fp [(ga, go)]) [] H b := by
  have has := S.has I
  have lts : ∀ b ∈ fp, b < s.heap.objs.size := fun b hb => let ⟨o, e⟩ := hthere b hb; Heap.lt_size e
  have nstk : ∀ b, s.heap.objs.size ≤ b → b ∉ frs X.stack := fun b hb hm => by
    rcases List.mem_cons.mp (I.stkSub b hm) with z | z
    · rw [z] at hb; exact absurd (Nat.lt_of_lt_of_le I.lt hb) (Nat.lt_irrefl _)
    · exact I.nofs hb z
  have fstk : ∀ b ∈ fp, b ∉ frs X.stack := fun b hb hm => by
    obtain ⟨_, z1, z2, _⟩ := hf b hb
    rcases List.mem_cons.mp (I.stkSub b hm) with z | z
    · exact z1 z
    · exact z2 z
  have kc : ∀ x c, (cloFrom X.env.cells scope.names []).lookup x = some c → X.env.cells.lookup x = some c := fun x c e => (S.clo e has).2
  refine ⟨⟨⟨I.ok.mod, S.kind, I.ok.glob, rfl, Nat.le_refl _, fun x y c h1 h2 => I.ok.inj x y c (kc x c h1) (kc y c h2), fun x hx => ?_, fun x c h _ => (by cases h), fun _ => hh, Around.frames_deeper hfr, .inr ⟨rfl, rfl⟩, fun b hb => ⟨Nat.ne_of_lt (lts b hb), fun x c e => ?_⟩,
      I.bs, Nat.le_trans I.ok.bsz I.sz, fun b o e hm => ?_, fstk, I.stack, I.stkFree⟩, rfl, hb, L2.Un.kept hk, ⟨m0, hns, fun i x v e1 e2 e3 => ?_⟩, fun x c e => ?_, I.hok.fresh (Nat.le_refl _), fun x c e => I.freeC x c (kc x c e), fun p hp => ?_, I.hok.kept hk, ?_⟩, fun b hb => ?_⟩
  · have hx' : scope.names.lookup x = some .cell ∨ scope.names.lookup x = some .free := hx
    rcases hx' with z | z
    · exact absurd rfl (S.cell _ (PySem.mem_of_lookup z))
    · obtain ⟨c, e, _⟩ := S.clo' (PySem.mem_of_lookup z) has
      exact ⟨c, e⟩
  · exact (hf b hb).2.2.2.2.1 x c (kc x c e)
  · obtain ⟨_, _, _, z, _⟩ := hf b hm
    rcases z with z | z
    · exact I.ok.noex b o e z
    · exact absurd (Nat.lt_of_lt_of_le (Heap.lt_size e) (Nat.le_trans I.ok.bsz z)) (Nat.lt_irrefl _)
  · obtain ⟨mi, ev⟩ := mskV_get e2
    have hfree := S.caps i mi x e1
    obtain ⟨m, _, hl⟩ := I.loc
    have hout := S.free _ (PySem.mem_of_lookup hfree) rfl
    obtain ⟨u, ru, lk⟩ := hl i x v e1 ev (hout.elim (fun z => .inr (.inl z)) fun z => .inr (.inr z))
    refine ⟨u, ru, .inr ⟨.inr hfree, ?_⟩⟩
    rcases lk with ⟨z, _⟩ | ⟨_, c, ec, cell⟩
    · have z' : X.env.scope.names.lookup x = some .local := z
      rcases hout with w | w
      · rw [z'] at w; cases w
      · rw [z'] at w; cases w
    · obtain ⟨c2, e3, e4⟩ := S.clo' (PySem.mem_of_lookup hfree) has
      rw [e4] at ec
      cases ec
      exact ⟨c, e3, let ⟨o, ho, hd⟩ := cell; ⟨o, hk _ _ ho, hd⟩⟩
  · obtain ⟨v, o, ho, hd⟩ := I.cell x c (kc x c e)
    exact ⟨v, o, hk _ _ ho, hd⟩
  · have hp' : p = (ga, go) := by
      have : p ∈ [(ga, go)] := by
        rcases List.mem_append.mp hp with z | z
        · exact z
        · simp at z
      exact List.mem_singleton.mp this
    subst hp'
    exact ⟨hgo, I.hok.fresh (Nat.le_of_lt hga), Nat.ne_of_gt hga, nstk _ (Nat.le_of_lt hga), hgd⟩
  · show (mskV σ cs).length = X.N.length
    rw [mskV_len]; exact I.len
  · obtain ⟨z1, z2, z3, z4, z5, z6⟩ := hf b hb
    refine ⟨z1, Nat.ne_of_lt (lts b hb), fstk b hb, .inl hb, fun x c e => z5 x c (kc x c e), fun p hp z => ?_⟩
    have : p ∈ [(ga, go)] := by
      rcases List.mem_append.mp hp with w | w
      · exact w
      · simp at w
    rw [List.mem_singleton.mp this] at z
    have := lts b hb
    rw [← z] at this
    exact absurd (Nat.lt_trans hga this) (Nat.lt_irrefl _)
end Ev


set_option Elab.async false
set_option linter.all false
set_option autoImplicit false
set_option maxRecDepth 100000
set_option maxHeartbeats 2000000
/-! GxD: all, any of a generator expression: the rule. -/
namespace Ev
open PySem PySem.Spec PyProof.Rows GenW
open L2 (V Hp HO Inv Turn It FpOk PE PI PG PTs TG TT TE TI VK Cx Room Gl frs cloFrom thn allBare_setGen)
open GxR (TabB TabG Tabbed)
/-- a generator that has not begun, in the state s -/
def Gmade (X : Cx) (pins : List (Addr × Obj)) (σ : L2.St) (al : Bool) (Q : Bool → Hp → Prop) (u : Value) (s : Shared) : Prop :=
  ∃ (Y : Cx) (τ : L2.St) (H : Hp) (a : Addr) (g n : Nat) (c : Code), u = .ref a ∧ Y.prog = X.prog ∧ Y.w = X.w ∧ Inv Y [] τ H s ∧ s.gens[g]? = some (.fresh c) ∧ (∀ H' s', Inv Y [] τ H' s' → s'.heap.IsGen a g) ∧
    (GenState.fresh c).Goes (model X.prog X.w) X.A.in1.in1 (GxR Y τ al Q) (GxY Y τ al Q) n (.send .none) (s.setGen g .running) ∧ ∀ H' s', Inv Y [] τ H' s' → Inv X pins σ H' s'
/-- all(elt for target in iter if ..), any(..) -/
def tGA (al : Bool) (P : Addr) (wi : TI) (gt : TG) (tt : TT) (te : TE) (cs : List Nat) : TE := fun σ H Q => wi σ H fun J H1 => TabG H1 P ∧ ∀ H2, Tabbed P H1 H2 →
  ∃ W : Nat → Nat → Hp → Prop, (∃ m, W 0 m H2) ∧ GxW al J (mskV σ cs) gt tt te (fun b H3 => Q (.bl b) H3) W
section
variable {X : Cx} {tg iter elt : Expr} {ifs : List Expr} {scope : Scope} {cs : List Nat} {gpos pos p : Pos} {wi : TI} {gt : TG} {tt : TT} {te : TE} {al : Bool} {k : Nat} {c P : Addr}
theorem gx_made {pins : List (Addr × Obj)} {σ : L2.St} {H : Hp} {s : Shared} {Q : Bool → Hp → Prop} {Qf : Value → Shared → Prop} (hr : Room (k + 1) X.A) (TB : TabB X.base X.mg c P) (hcode : X.env.code = .ref c) (S : GSc X scope cs) (hi : PI X tg iter wi)
    (hg : ∀ (s : Shared) (H : Hp) (code : Value) (fp : List Addr) (pn : List (Addr × Obj)), PG (gx X X.A.in1.in1 (genEnv scope (cloFrom X.env.cells scope.names []) s.heap.objs.size code builtinsNs X.env) s H fp pn) tg gt)
    (ht : ∀ (s : Shared) (H : Hp) (code : Value) (fp : List Addr) (pn : List (Addr × Obj)), PTs (gx X X.A.in1.in1 (genEnv scope (cloFrom X.env.cells scope.names []) s.heap.objs.size code builtinsNs X.env) s H fp pn) ifs tt)
    (he : ∀ (s : Shared) (H : Hp) (code : Value) (fp : List Addr) (pn : List (Addr × Obj)), PE (gx X X.A.in1.in1 (genEnv scope (cloFrom X.env.cells scope.names []) s.heap.objs.size code builtinsNs X.env) s H fp pn) elt te)
    (hs : ∀ v, genFold iter X.env v = pure v) (I : Inv X pins σ H s)
    (h : wi σ H fun J H1 => TabG H1 P ∧ ∀ H2, Tabbed P H1 H2 → ∃ W : Nat → Nat → Hp → Prop, (∃ m, W 0 m H2) ∧ GxW al J (mskV σ cs) gt tt te Q W)
    (hQ : ∀ u s', Gmade X pins σ al Q u s' → Qf u s') :
    wpAny (model X.prog X.w) X.A (eval (.GeneratorExp elt [⟨tg, iter, ifs, 0⟩] scope gpos) X.env) Qf X.xe s := by
  refine wpAny_GeneratorExp_make S.co (L2.closure_ok (S.has I)) S.cell S.dot S.kind (by have := hr.dp; omega) ?_ hs
  refine thn (hi.run pins s σ H _ I h) fun xv s1 hx => thn hx fun itv s2 hit => ?_
  obtain ⟨it, fp, tn, J, H1, rfl, I2, T, t0, hf, ⟨ps, hP, htr⟩, hW⟩ := hit
  refine ⟨I2.nolimit, ?_⟩
  have hPs : s2.heap.get? P = some { cls := .none, data := .fields ps } := I2.hok P _ hP
  have cd : PySem.W.CodeHd s2.heap c P := TB.code.keeps fun b u e => I2.bk b u e
  have goes : ∀ (code : Value) (h3 : Heap) (tk : Nat) (qs : Array Value), Heap.ExtBut P s2.heap h3 → h3.get? P = some { cls := .none, data := .fields qs } → (∃ more, qs = ps ++ more) → TriplesOk qs.toList →
      wpAny (model X.prog X.w) X.A (builtinsFor X.env.globals X.env.builtins) (fun bi s4 => ∀ h', h'.Ns s4.heap.objs.size (fun y => if y = ".0" then some (.ref it) else none) → Heap.SameBut s4.heap.objs.size (s4.heap.push { cls := .type "frame", data := .dict #[] }) h' →
        Qf (.ref h'.objs.size) { s4 with
            gens := s4.gens.push (.fresh (.compStart (.GeneratorExp elt [⟨tg, iter, ifs, 0⟩] scope gpos) 0 (.ref it) .none (genEnv scope (cloFrom X.env.cells scope.names []) s4.heap.objs.size code bi X.env))),
            toks := s4.toks + 1 + 1 + 1,
            heap := h'.push { cls := .type "generator", data := .fields #[.int s4.gens.size 0, .str "<genexpr>" (s4.toks + 1), .str (X.env.qual ++ "<genexpr>") (s4.toks + 1 + 1)] } }) X.xe { s2 with heap := h3, toks := tk } := by
    intro code h3 tk qs hx hq hmore htq
    obtain ⟨more, em⟩ := hmore
    have keep3 : ∀ b u, b ≠ P → s2.heap.get? b = some u → h3.get? b = some u := fun b u hb e => hx b u hb e
    have I3 : Inv X pins σ (L2.upd H1 P (.tbl (ps ++ more))) { s2 with heap := h3, toks := tk } :=
      GxR.inv_tab (more := more) (h' := h3) (g' := s2.gens) (d' := s2.drawn) (t' := tk) I2 hP keep3 (by rw [← em]; exact hq) I2.bare
    obtain ⟨bm, ob, e1, e2, e3, e4, e5, e6, e7, e8⟩ := TB.bm
    refine wpAny_builtinsFor (m := X.mg) (by rw [I3.ok.glob]; exact I3.mod.glob.keeps I3.bk) e1 e2 (I3.bk _ _ e5) e6 e7 e8 ?_
    intro h' hns hsb
    have hPn : ∀ b ∈ fp, b ≠ P := fun b hb z => by
      have := (hf b hb).1
      rw [z, hP] at this
      cases this
    have hf3 : ∀ b ∈ fp, FpOk X pins (L2.upd H1 P (.tbl (ps ++ more))) b := fun b hb => by
      obtain ⟨z1, z2⟩ := hf b hb
      exact ⟨by rw [L2.upd_ne (hPn b hb)]; exact z1, z2⟩
    have ob3 := T.obj 0 s2.heap t0
    have th3 : ∀ b ∈ fp, ∃ o, h3.get? b = some o := fun b hb => let ⟨o, e, _⟩ := ob3 b hb; ⟨o, keep3 b o (hPn b hb) e⟩
    have sz : h'.objs.size = h3.objs.size + 1 := by rw [hsb.1, Heap.size_push]
    have kh : ∀ b o, h3.get? b = some o → h'.get? b = some o := fun b o e => (hsb.2 b (Nat.ne_of_lt (Heap.lt_size e))).trans (Heap.get?_push_of_some _ e)
    obtain ⟨m, hw0⟩ : ∃ m, ∃ W : Nat → Nat → Hp → Prop, W 0 m (L2.upd H1 P (.tbl (ps ++ more))) ∧ GxW al J (mskV σ cs) gt tt te Q W := by
      obtain ⟨W, ⟨m, h0⟩, hW2⟩ := hW (L2.upd H1 P (.tbl (ps ++ more))) ⟨⟨ps ++ more, L2.upd_same, by rw [← em]; exact htq⟩, fun b hb => L2.upd_ne hb⟩
      exact ⟨m, W, h0, hW2⟩
    obtain ⟨W, h0, hW2⟩ := hw0
    have main : ∀ (go : Obj) (tk5 : Nat), go.cls = .type "generator" → (∃ nm qn, go.data = .fields #[.int s2.gens.size 0, nm, qn]) → go.slots = #[] → (∀ h : Heap, (h.push go).get? h.objs.size = some go) →
        Qf (.ref h'.objs.size) { s2 with
            gens := s2.gens.push (.fresh (.compStart (.GeneratorExp elt [⟨tg, iter, ifs, 0⟩] scope gpos) 0 (.ref it) .none (genEnv scope (cloFrom X.env.cells scope.names []) h3.objs.size code builtinsNs X.env))),
            toks := tk5, heap := h'.push go } := by
      intro go tk5 g1 ⟨nm, qn, g2⟩ g3 g4
      have kk : ∀ b o, h3.get? b = some o → (h'.push go).get? b = some o := fun b o e => Heap.get?_push_of_some _ (kh b o e)
      obtain ⟨Ig, hfg⟩ := gx_start (fp := fp) (code := code) (m0 := fun y => if y = ".0" then some (.ref it) else none) (h5 := h'.push go) (go := go) (ga := h'.objs.size)
        (gens := s2.gens.push (.fresh (.compStart (.GeneratorExp elt [⟨tg, iter, ifs, 0⟩] scope gpos) 0 (.ref it) .none (genEnv scope (cloFrom X.env.cells scope.names []) h3.objs.size code builtinsNs X.env)))) (tk := tk5) (A := X.A.in1.in1)
        S I3 hr.hd I3.ok.frames hf3 th3 (hns.push _) kk (by rw [sz]; exact Nat.lt_succ_self _) (g4 _) (fun v z => by rw [g2] at z; cases z) (AllBare.push I2.bare rfl)
      have t5 : tn 0 (h'.push go) := T.keep 0 _ _ t0 fun b hb o e => kk b o (keep3 b o (hPn b hb) e)
      refine hQ _ _ ⟨gx X X.A.in1.in1 (genEnv scope (cloFrom X.env.cells scope.names []) h3.objs.size code builtinsNs X.env) { s2 with heap := h3, toks := tk } (L2.upd H1 P (.tbl (ps ++ more))) fp [(h'.objs.size, go)], mskV σ cs, L2.upd H1 P (.tbl (ps ++ more)), _, s2.gens.size, m + 1, _, rfl, rfl, rfl, Ig, Array.getElem?_push_size .., fun H' s' I' => ?_, ⟨rfl, ?_⟩, fun H' s' I' => ?_⟩
      · exact ⟨go, nm, qn, (I'.pin (h'.objs.size, go) (List.mem_append_left _ (List.mem_singleton.mpr rfl))).1, g1, g2, g3⟩
      · have hh' : (X.A.in1.in1.over (.compStart (.GeneratorExp elt [⟨tg, iter, ifs, 0⟩] scope gpos) 0 (.ref it) .none (genEnv scope (cloFrom X.env.cells scope.names []) h3.objs.size code builtinsNs X.env)) []).handled = none := hr.hd
        have loop := seg_gx (X := gx X X.A.in1.in1 (genEnv scope (cloFrom X.env.cells scope.names []) h3.objs.size code builtinsNs X.env) { s2 with heap := h3, toks := tk } (L2.upd H1 P (.tbl (ps ++ more))) fp [(h'.objs.size, go)])
          (A := X.A.in1.in1) (iter := iter) (scope := scope) (pos := gpos) (it := it) rfl rfl T (hg { s2 with heap := h3, toks := tk } _ code fp _) (ht { s2 with heap := h3, toks := tk } _ code fp _) (he { s2 with heap := h3, toks := tk } _ code fp _) (fun _ _ z => z) S.co hW2
        generalize hS5 : ({ s2 with
            gens := s2.gens.push (.fresh (.compStart (.GeneratorExp elt [⟨tg, iter, ifs, 0⟩] scope gpos) 0 (.ref it) .none (genEnv scope (cloFrom X.env.cells scope.names []) h3.objs.size code builtinsNs X.env))),
            toks := tk5, heap := h'.push go } : Shared) = s5 at Ig ⊢
        have k5 : Kept s5 (s5.setGen s2.gens.size .running) := ⟨rfl, allBare_setGen Ig.bare rfl, fun _ _ e => e⟩
        have t6 : tn 0 (s5.setGen s2.gens.size .running).heap := by
          have : s5.heap = h'.push go := by rw [← hS5]
          show tn 0 s5.heap
          rw [this]; exact t5
        have lp := loop m 0 (s5.setGen s2.gens.size .running) (s5.setGen s2.gens.size .running) _ (m + 1) (k5.inv Ig) t6 hfg h0 (Nat.lt_succ_self m)
        show Seg _ X.A.in1.in1 _ _ _ _ _ ((compStart (.GeneratorExp elt [⟨tg, iter, ifs, 0⟩] scope gpos) 0 (.ref it) .none (genEnv scope (cloFrom X.env.cells scope.names []) h3.objs.size code builtinsNs X.env)).onRaise (leaving (genEnv scope (cloFrom X.env.cells scope.names []) h3.objs.size code builtinsNs X.env))) [] _
        unfold compStart
        rw [Sem.onRaise_eq_wrap]
        show Seg _ X.A.in1.in1 _ _ _ _ _ ((ask >>= _).wrap _ _ _ _) [] _
        refine seg_bind_wrap (wpAny_askSetting ?_)
        split
        · exact seg_again rfl lp
        · refine seg_bind_wrap (wpAny_rule ?_)
          show Seg _ X.A.in1.in1 _ _ _ _ _ ((standAt iter.pos >>= _).wrap _ _ _ _) [] _
          exact seg_bind_wrap (wpAny_standAt (seg_bind_wrap (T.self _ 0 _ _ _ t6 (seg_again rfl lp))))
      · exact I3.call' (ch := fp) I'.os I'.base I'.hok I'.bare fun b hb => by
          obtain ⟨_, z2, _, z4, z5, z6⟩ := hf3 b hb
          exact ⟨z4, z2, z5, z6⟩
    exact main _ _ rfl ⟨_, _, rfl⟩ rfl fun h => Heap.get?_push_size _ rfl
  cases hfnd : codeAmong gpos ps.toList with
  | none =>
    refine wpAny_genexprCodeX hcode (cd.code hPs htr) (cd.tab hPs) hfnd fun c' h3 tk hx _ _ hco _ htab _ => ?_
    obtain ⟨o1, vs, f1, tf, fl, tgg, inF, tx, tt', op, _, _, _, _, _, _, _, _, _, htr', _⟩ := hco
    exact goes _ h3 tk _ hx htab.2 ⟨_, rfl⟩ htr'
  | some cv =>
    refine wpAny_genexprCode_hit hcode (cd.code hPs htr) hfnd ?_
    exact goes cv s2.heap s2.toks ps (Heap.ExtBut.refl _ _) hPs ⟨#[], by simp⟩ htr

theorem pe_gall (hr : Room (k + 1) X.A) (hn : Gl X "all") (hm : X.mg "all" = none) (TB : TabB X.base X.mg c P) (hcode : X.env.code = .ref c) (S : GSc X scope cs) (hi : PI X tg iter wi)
    (hg : ∀ (s : Shared) (H : Hp) (code : Value) (fp : List Addr) (pn : List (Addr × Obj)), PG (gx X X.A.in1.in1 (genEnv scope (cloFrom X.env.cells scope.names []) s.heap.objs.size code builtinsNs X.env) s H fp pn) tg gt)
    (ht : ∀ (s : Shared) (H : Hp) (code : Value) (fp : List Addr) (pn : List (Addr × Obj)), PTs (gx X X.A.in1.in1 (genEnv scope (cloFrom X.env.cells scope.names []) s.heap.objs.size code builtinsNs X.env) s H fp pn) ifs tt)
    (he : ∀ (s : Shared) (H : Hp) (code : Value) (fp : List Addr) (pn : List (Addr × Obj)), PE (gx X X.A.in1.in1 (genEnv scope (cloFrom X.env.cells scope.names []) s.heap.objs.size code builtinsNs X.env) s H fp pn) elt te)
    (hs : ∀ v, genFold iter X.env v = pure v) : PE X (.Call (.Name "all" p) [.GeneratorExp elt [⟨tg, iter, ifs, 0⟩] scope gpos] [] pos) (tGA true P wi gt tt te cs) := by
  refine ⟨fun pins s σ H Q I h => ?_⟩
  have st : starEach [.GeneratorExp elt [⟨tg, iter, ifs, 0⟩] scope gpos] X.env = (false, eval (.GeneratorExp elt [⟨tg, iter, ifs, 0⟩] scope gpos) X.env) :: starEach [] X.env := rfl
  refine wpAny_Call_Name_kw (L2.ld_blt I hn hm boot_all (PyProof.Rows.callWith_builtin1 ?_ st (by rfl)))
  rw [st]
  show wpAny _ _ (spliced ((false, eval (.GeneratorExp elt [⟨tg, iter, ifs, 0⟩] scope gpos) X.env) :: backTo pos (starEach [] X.env))) _ _ s
  refine Calls.spliced_cons (gx_made (al := true) (Q := fun b H3 => Q (.bl b) H3) hr TB hcode S hi hg ht he hs I h fun u s5 hM => ?_)
  obtain ⟨Y, τ, H5, a, g, n, c5, rfl, hP, hw, I5, hgs, hgen, hgo, hback⟩ := hM
  refine Calls.spliced_nil (call_function_tree F.kind_all F.plain_all F.entry_all (F.args_all1 _) ?_)
  unfold Builtin.«all»
  refine wpAny_bind (m := oneArg "all" _) (wpAny_pure ?_)
  refine wpAny_bind (wpAny_pyIter_gen (hgen _ _ I5) (wpAny_pure ⟨plainId_quiet F.plain_all_loop _, ?_⟩))
  rw [← hP, ← hw] at hgo ⊢
  refine all_gx (X := Y) (A := X.A) (σm := τ) (Q := fun b H3 => Q (.bl b) H3) hr.hd (by have := hr.dp; omega) hgen (fun b s' H' I' hq => ?_) n s5 H5 _ I5 hgs hgo
  exact ⟨.bl b, H', hback H' s' I', rfl, hq⟩
theorem pe_gany (hr : Room (k + 1) X.A) (hn : Gl X "any") (hm : X.mg "any" = none) (TB : TabB X.base X.mg c P) (hcode : X.env.code = .ref c) (S : GSc X scope cs) (hi : PI X tg iter wi)
    (hg : ∀ (s : Shared) (H : Hp) (code : Value) (fp : List Addr) (pn : List (Addr × Obj)), PG (gx X X.A.in1.in1 (genEnv scope (cloFrom X.env.cells scope.names []) s.heap.objs.size code builtinsNs X.env) s H fp pn) tg gt)
    (ht : ∀ (s : Shared) (H : Hp) (code : Value) (fp : List Addr) (pn : List (Addr × Obj)), PTs (gx X X.A.in1.in1 (genEnv scope (cloFrom X.env.cells scope.names []) s.heap.objs.size code builtinsNs X.env) s H fp pn) ifs tt)
    (he : ∀ (s : Shared) (H : Hp) (code : Value) (fp : List Addr) (pn : List (Addr × Obj)), PE (gx X X.A.in1.in1 (genEnv scope (cloFrom X.env.cells scope.names []) s.heap.objs.size code builtinsNs X.env) s H fp pn) elt te)
    (hs : ∀ v, genFold iter X.env v = pure v) : PE X (.Call (.Name "any" p) [.GeneratorExp elt [⟨tg, iter, ifs, 0⟩] scope gpos] [] pos) (tGA false P wi gt tt te cs) := by
  refine ⟨fun pins s σ H Q I h => ?_⟩
  have st : starEach [.GeneratorExp elt [⟨tg, iter, ifs, 0⟩] scope gpos] X.env = (false, eval (.GeneratorExp elt [⟨tg, iter, ifs, 0⟩] scope gpos) X.env) :: starEach [] X.env := rfl
  refine wpAny_Call_Name_kw (L2.ld_blt I hn hm boot_any (PyProof.Rows.callWith_builtin1 ?_ st (by rfl)))
  rw [st]
  show wpAny _ _ (spliced ((false, eval (.GeneratorExp elt [⟨tg, iter, ifs, 0⟩] scope gpos) X.env) :: backTo pos (starEach [] X.env))) _ _ s
  refine Calls.spliced_cons (gx_made (al := false) (Q := fun b H3 => Q (.bl b) H3) hr TB hcode S hi hg ht he hs I h fun u s5 hM => ?_)
  obtain ⟨Y, τ, H5, a, g, n, c5, rfl, hP, hw, I5, hgs, hgen, hgo, hback⟩ := hM
  refine Calls.spliced_nil (call_function_tree F.kind_any F.plain_any F.entry_any (F.args_any1 _) ?_)
  unfold Builtin.«any»
  refine wpAny_bind (m := oneArg "any" _) (wpAny_pure ?_)
  refine wpAny_bind (wpAny_pyIter_gen (hgen _ _ I5) (wpAny_pure ⟨plainId_quiet F.plain_any_loop _, ?_⟩))
  rw [← hP, ← hw] at hgo ⊢
  refine any_gx (X := Y) (A := X.A) (σm := τ) (Q := fun b H3 => Q (.bl b) H3) hr.hd (by have := hr.dp; omega) hgen (fun b s' H' I' hq => ?_) n s5 H5 _ I5 hgs hgo
  exact ⟨.bl b, H', hback H' s' I', rfl, hq⟩
end
end Ev


set_option Elab.async false
set_option linter.all false
set_option maxRecDepth 100000
set_option maxHeartbeats 1000000
/-! EvI: displays of dicts, get, pop. -/
namespace Ev
open PySem
open L2 (V Hp HO SqL SqT Rd upd upd_same upd_ne Same TE VK PE PT PW PA XK Sp FnOk Binds Room CX0 E0 Cx OpR CallR R2 PPs kV mergeK putK valV)

/-! ### the evaluator's dicts are the heap's -/
theorem key_rep {K : PySem.W.Frag} {ρ : List Addr} {F : Addr → Prop} {H : Hp} {d : D} {v : V} {k : Key} (h : Rep K ρ F H d v) (e : keyD d = some k) : v = kV k := by
  cases d <;> first | (cases e; done) | skip
  all_goals
    simp only [keyD, Option.some.injEq] at e
    subst e
    simp only [Rep] at h
    exact h
def flatP : List (V × V) → List V
  | [] => []
  | p :: r => p.1 :: p.2 :: flatP r
theorem split_rep {K : PySem.W.Frag} {ρ : List Addr} {F : Addr → Prop} {H : Hp} : ∀ {l : List D} {ps : List (V × V)} {ks : List Key} {ds : List D}, Reps K ρ F H l (flatP ps) → splitD l = some (ks, ds) →
    ∃ kvs : List (Key × V), ps = kvs.map (fun kv => (kV kv.1, kv.2)) ∧ kvs.map (·.1) = ks ∧ Reps K ρ F H ds (kvs.map (·.2))
  | [], ps, ks, ds, h, e => by
    simp only [splitD, Option.some.injEq, Prod.mk.injEq] at e
    simp only [Reps] at h
    obtain ⟨rfl, rfl⟩ := e
    cases ps with
    | nil => exact ⟨[], rfl, rfl, Reps.nil⟩
    | cons p r => simp [flatP] at h
  | [x], ps, ks, ds, h, e => by simp only [splitD] at e; cases e
  | x :: y :: l, ps, ks, ds, h, e => by
    cases ps with
    | nil => simp only [flatP, Reps] at h; obtain ⟨_, _, z, _⟩ := h; cases z
    | cons p r =>
      simp only [flatP, Reps] at h
      obtain ⟨v, u, z1, h1, v2, u2, z2, h2, h3⟩ := h
      cases z1
      cases z2
      simp only [splitD] at e
      cases q : keyD x with
      | none => rw [q] at e; cases e
      | some k =>
        rw [q] at e
        simp only [Option.bind_some] at e
        cases q2 : splitD l with
        | none => rw [q2] at e; cases e
        | some t =>
          obtain ⟨ks1, ds1⟩ := t
          rw [q2] at e
          simp only [Option.map_some, Option.some.injEq, Prod.mk.injEq] at e
          obtain ⟨rfl, rfl⟩ := e
          obtain ⟨kvs, e1, e2, e3⟩ := split_rep h3 q2
          refine ⟨(k, p.2) :: kvs, ?_, ?_, ?_⟩
          · simp only [List.map_cons, ← e1, ← key_rep h1 q]
          · simp only [List.map_cons, e2]
          · simp only [List.map_cons]
            exact Reps.cons h2 e3
theorem merge_new : ∀ (more acc : List (Key × V)), (acc ++ more).map (·.1) |>.Nodup → mergeK acc more = acc ++ more
  | [], acc, _ => by simp [mergeK]
  | p :: r, acc, h => by
    have hp : (acc.any fun kv => decide (kv.1 = p.1)) = false := by
      rw [List.any_eq_false]
      intro q hq e
      have e' : q.1 = p.1 := of_decide_eq_true e
      rw [List.map_append, List.nodup_append] at h
      exact h.2.2 _ (List.mem_map_of_mem hq) _ (List.mem_map_of_mem (List.mem_cons_self (a := p) (l := r))) e'
    have : mergeK acc (p :: r) = mergeK (acc ++ [(p.1, p.2)]) r := by
      show mergeK (putK acc p.1 p.2) r = _
      unfold putK
      rw [hp]
      rfl
    rw [this, merge_new r (acc ++ [(p.1, p.2)]) (by simpa using h)]
    simp
theorem lk_rep {K : PySem.W.Frag} {ρ : List Addr} {F : Addr → Prop} {H : Hp} (k : Key) : ∀ {kvs : List (Key × V)} {ds : List D}, Reps K ρ F H ds (kvs.map (·.2)) →
    (∃ d v, lkD (kvs.map (·.1)) ds k = some d ∧ valV kvs k = some v ∧ Rep K ρ F H d v) ∨ (lkD (kvs.map (·.1)) ds k = none ∧ valV kvs k = none)
  | [], ds, h => .inr ⟨by cases ds <;> rfl, rfl⟩
  | p :: r, ds, h => by
    cases ds with
    | nil => simp only [Reps] at h; cases h
    | cons d ds =>
      simp only [List.map_cons, Reps] at h
      obtain ⟨v, u, z, h1, h2⟩ := h
      cases z
      by_cases e : p.1 = k
      · refine .inl ⟨d, p.2, ?_, L2.valV_pos e, h1⟩
        simp only [List.map_cons, lkD, if_pos e]
      · rw [L2.valV_neg e]
        simp only [List.map_cons, lkD, if_neg e]
        exact lk_rep k h2

/-! ### the pairs of a display -/
def SPs (g : Gd) (c : Cc) (ks : List (Option Expr)) (vs : List Expr) (ir : Es) : Prop := ∃ trs : List (TE × TE), (∀ X, XOk g c X → ∀ pos, PPs X pos ks vs trs) ∧
  ∀ b σV ρ F H s Q, Rl g.K g.Tb b σV ρ F H s → WG g.K g.Tb b σV ρ F H (fun ρ F H _ l ps => Reps g.K ρ F H l (flatP ps)) Q (evEs g.C g.D ir s) → L2.tPairs trs σV H Q
section
variable {g : Gd} {c : Cc} {pos : Pos} {e e2 e3 : Expr} {i i2 i3 : E}
theorem sps_nil : SPs g c [] [] .nil := ⟨[], fun _ _ _ => L2.pps_nil, fun b σV ρ F H s Q rl h => by
  simp only [evEs] at h
  exact h.fin rl Reps.nil⟩
theorem sps_cons {ks : List (Option Expr)} {vs : List Expr} {is : Es} (ha : SE g c e i) (hb : SE g c e2 i2) (hs : SPs g c ks vs is) : SPs g c (some e :: ks) (e2 :: vs) (.cons i (.cons i2 is)) := by
  obtain ⟨t, h1, h2⟩ := ha
  obtain ⟨t', h3, h4⟩ := hb
  obtain ⟨ts, h5, h6⟩ := hs
  refine ⟨(t, t') :: ts, fun X hX p => L2.pps_cons (h1 X hX) (h3 X hX) (h5 X hX p), fun b σV ρ F H s Q rl h => ?_⟩
  simp only [evEs, b2_assoc] at h
  show t σV H fun x H1 => t' σV H1 fun y H2 => L2.tPairs ts σV H2 fun ps H3 => Q ((x, y) :: ps) H3
  refine h.step (T := fun Q' => t σV H Q') (fun Q' q => h2 _ _ _ _ _ _ _ rl q) fun x s1 v ρ1 F1 H1 _ e1 r1 p1 q1 => ?_
  refine q1.step (T := fun Q' => t' σV H1 Q') (fun Q' q => h4 _ _ _ _ _ _ _ r1 q) fun y s2 u ρ2 F2 H2 _ e2 r2 p2 q2 => ?_
  refine q2.part (T := fun Q' => L2.tPairs ts σV H2 Q') (fun Q' q => h6 _ _ _ _ _ _ _ r2 q) fun xs s3 ps ρ3 F3 H3 _ e3 r3 p3 q3 => ?_
  have q4 : WG g.K g.Tb b σV ρ3 F3 H3 (fun ρ F H _ l ps => Reps g.K ρ F H l (flatP ps)) Q (.ok (x.fz :: y.fz :: xs, s3)) := q3
  exact q4.fin r3 (Reps.cons (Rep.mono ((e2.trans e3).toS r1) _ _ p1) (Reps.cons (Rep.mono (e3.toS r2) _ _ p2) p3))
theorem se_dsp {ks : List (Option Expr)} {vs : List Expr} {is : Es} (hall : ks.all (·.isSome) = true) (hl : ks.length = vs.length) (h0 : ks ≠ []) (h15 : ks.length ≤ 15) (hs : SPs g c ks vs is) : SE g c (.Dict ks vs pos) (.dsp is) := by
  obtain ⟨ts, h1, h2⟩ := hs
  refine ⟨L2.tDisp ts, fun X hX => L2.pe_disp (h1 X hX pos) hall hl h0 h15, fun b σV ρ F H s Q rl h => ?_⟩
  simp only [evE] at h
  obtain ⟨l, s1, z, h3⟩ := b2_ok h
  obtain ⟨d, ed, h4⟩ := h3.opt
  intro p hp
  obtain ⟨f1, f2, f3, f4, f5⟩ := rl.free hp
  refine h2 (b.and p) σV ρ F (upd H p (.dK [])) s _ (rl.guard hp id) (WG.of z fun ps ρ1 F1 H1 x1 r1 t1 => ?_)
  have hp1 : H1 p = some (.dK []) := x1.all _ _ upd_same f2 id
  refine ⟨hp1, ?_⟩
  unfold dspD at ed
  cases q : splitD l with
  | none => rw [q] at ed; cases ed
  | some t =>
    obtain ⟨kk, dd⟩ := t
    rw [q] at ed
    simp only [Option.bind_some] at ed
    split at ed
    · rename_i hz
      cases ed
      obtain ⟨kvs, e1, e2, e3⟩ := split_rep t1 q
      have hlen : kvs.length = kk.length := by rw [← e2]; simp
      refine ⟨kvs, e1, by rw [hlen]; exact hz.2.1, ?_⟩
      have hm : mergeK [] kvs = kvs := by rw [merge_new kvs [] (by simp only [List.nil_append, e2]; exact hz.1)]; rfl
      rw [hm]
      have ch : ∀ u, H1 p = some u → Chg u := fun u e => by rw [hp1] at e; cases e; trivial
      have r2 := (r1.updP (p := p) (o := .dK kvs) (.inr rfl) f3 ch id).unguard
      obtain ⟨n1, n2, n3⟩ := r1.guarded
      have r3 := r2.share (a := p) ⟨.dK kvs, upd_same, id⟩ n2 f3 f4 n3
      have xu : ExS ρ1 F1 H1 ρ1 F1 (upd H1 p (.dK kvs)) := exS_upd n1 ch
      refine h4 (.ref p) ρ1 (fun a => F1 a ∨ a = p) _ (((ExE.same (same_upd hp)).trans x1).updNew hp |>.trans (ExE.more fun _ => .inl)) r3 ?_
      simp only [RepR, Rep]
      exact ⟨p, kvs, rfl, .inr rfl, .inl upd_same, e2, Reps.mono (xu.trans (ExS.more fun _ => .inl)) _ _ e3⟩
    · cases ed

/-! ### methods -/
theorem base_ok {o : Expr} {m : Str} {env : Env} {w : Sem Value} (h : baseOk o = true) : attributeBase o m env w = w := by
  cases o <;> first | rfl | skip
  rename_i f as ks p
  cases f <;> first | rfl | skip
  cases as <;> first | rfl | skip
  cases ks <;> first | rfl | cases h
theorem se_get2 {o k d : Expr} {ap cp : Pos} (hb : baseOk o = true) (hl : (ap.endLine == cp.line) = true) (hk : isStar k = false) (hd : isStar d = false) (ho : SE g c o i) (h1 : SE g c k i2) (h2 : SE g c d i3) :
    SE g c (.Call (.Attribute o "get" ap) [k, d] [] cp) (.get2 i i2 i3) := by
  obtain ⟨t, a1, a2⟩ := ho
  obtain ⟨t', a3, a4⟩ := h1
  obtain ⟨t2, a5, a6⟩ := h2
  refine ⟨L2.tDGet2 t t' t2, fun X hX => L2.pe_dget2 (by have := hX.room.un; omega) (a1 X hX) (a3 X hX) (a5 X hX) ⟨base_ok hb, ?_, hl, by rw [star_no hk, star_no hd]; rfl⟩, fun b σV ρ F H s Q rl h => ?_⟩
  · rw [star_no hk, star_no hd]; rfl
  simp only [evE] at h
  refine h.step (T := fun Q' => t σV H Q') (fun Q' q => a2 _ _ _ _ _ _ _ rl q) fun x s1 v ρ1 F1 H1 ex e1 r1 p1 q1 => ?_
  -- what is asked is a dict
  obtain ⟨y, s2, z2, q1b⟩ := b2_ok q1
  obtain ⟨w, s3, z3, q1c⟩ := b2_ok q1b
  obtain ⟨r, er, q1d⟩ := q1c.opt
  unfold getD2 at er
  split at er
  · rename_i ks ds exz
    rw [exz] at p1
    simp only [Rep] at p1
    obtain ⟨a, kvs, rfl, p2, p3, p4, p5⟩ := p1
    refine ⟨a, rfl, .inl ⟨kvs, p3⟩, ?_⟩
    refine q1.step (T := fun Q' => t' σV H1 Q') (fun Q' q => a4 _ _ _ _ _ _ _ r1 q) fun y' s2' v2 ρ2 F2 H2 ey e2 r2 p6 q2 => ?_
    rw [z2] at ey
    cases ey
    refine q2.step (T := fun Q' => t2 σV H2 Q') (fun Q' q => a6 _ _ _ _ _ _ _ r2 q) fun w' s3' v3 ρ3 F3 H3 ew e3 r3 p7 q3 => ?_
    rw [z3] at ew
    cases ew
    obtain ⟨r', er', q4⟩ := q3.opt
    rw [exz] at er'
    simp only [getD2] at er'
    cases ek : keyD y.fz with
    | none => rw [ek] at er'; cases er'
    | some kk =>
      rw [ek] at er'
      simp only [Option.map_some, Option.some.injEq] at er'
      have x13 : ExS ρ1 F1 H1 ρ3 F3 H3 := (e2.trans e3).toS r1
      have rd : Rd H3 a (.dK kvs) := Rd.mono x13 p3 (.inl p2)
      refine ⟨valV kvs kk, .inl ⟨kvs, kk, rd, key_rep p6 ek, rfl⟩, ?_⟩
      subst er'
      rcases lk_rep kk p5 with ⟨d', v', l1, l2, l3⟩ | ⟨l1, l2⟩
      · rw [l2]
        rw [p4] at l1
        rw [l1] at q4
        exact q4.fin r3 (Rep.mono x13 _ _ l3)
      · rw [l2]
        rw [p4] at l1
        rw [l1] at q4
        exact q4.fin r3 p7
  · cases er
end
section
variable {K : PySem.W.Frag} {Tb : Addr → Prop} {b : Bx} {σV : L2.St} {ρ : List Addr} {F : Addr → Prop} {H : Hp} {s : S} {p : Addr} {n : Nat} {l : List D} {vs : List V}
theorem rho_ne (r : Rl K Tb b σV ρ F H s) {m n : Nat} {a p : Addr} (hp : ρ[n]? = some p) (ha : ρ[m]? = some a) (ne : m ≠ n) : a ≠ p := fun z => by
  rw [z] at ha
  obtain ⟨h1, e1⟩ := List.getElem?_eq_some_iff.mp hp
  obtain ⟨h2, e2⟩ := List.getElem?_eq_some_iff.mp ha
  exact ne ((List.getElem_inj r.nd).mp (e2.trans e1.symm))
theorem exE_set {us : List V} (hm : p ∈ ρ) (hl : H p = some (.lst us)) : ExE ρ F H ρ F (upd H p (.lst vs)) :=
  ⟨fun _ _ h => h, fun _ h => h, fun a o h m _ => by rw [upd_ne (fun z => m (by rw [z]; exact hm))]; exact h, fun a o h t => by
    rw [upd_ne (fun z => by rw [z, hl] at h; cases h; exact t)]; exact ⟨o, h, t⟩, fun _ h => .inl h⟩
/-- a list by number is changed -/
theorem Rl.setM (r : Rl K Tb b σV ρ F H s) (hp : ρ[n]? = some p) {us : List V} (hl : H p = some (.lst us)) (h : Reps K ρ F H l vs) (hn : n < s.M.length) : Rl K Tb b σV ρ F (upd H p (.lst vs)) { s with M := s.M.set n l } := by
  have hm : p ∈ ρ := List.mem_of_getElem? hp
  have x : ExS ρ F H ρ F (upd H p (.lst vs)) := (exE_set hm hl).toS r
  have keep : ∀ a o, H a = some o → a ≠ p → upd H p (.lst vs) a = some o := fun a o e z => by rw [upd_ne z]; exact e
  refine ⟨r.len, fun i d e => ?_, fun i l' e => ?_, r.apart, fun m l' e => ?_, by simp [r.ml], r.nd, r.rf, r.rn, fun a f => ?_, r.fn, fun a o q k t => ?_, fun a o q t => ?_, fun a q => ⟨(r.pt a q).1, ?_⟩, r.bp, fun P q => ?_⟩
  · obtain ⟨v, q, t⟩ := r.val i d e
    exact ⟨v, q, Rep.mono x _ _ t⟩
  · obtain ⟨a, ws, q, o⟩ := r.own i l' e
    exact ⟨a, ws, q, o.mono x (keep _ _ o.at_ fun z => o.nr (z ▸ hm)) o.nf o.nr⟩
  · rcases get_set e with ⟨rfl, z⟩ | ⟨ne, z⟩
    · subst z
      exact ⟨p, vs, hp, upd_same, Reps.mono x _ _ h⟩
    · obtain ⟨a, ws, q, t, w⟩ := r.mem m l' z
      exact ⟨a, ws, q, keep _ _ t (rho_ne r hp q (Ne.symm ne)), Reps.mono x _ _ w⟩
  · obtain ⟨o, q, t⟩ := r.ft a f
    exact ⟨o, keep _ _ q fun z => (r.rf p hm).1 (z ▸ f), t⟩
  · refine keep _ _ (r.old a o q k t) fun z => ?_
    rcases r.rn p hm with w | w
    · exact k (z ▸ w)
    · rw [z, w] at q; cases q
  · obtain ⟨o1, q1, t1⟩ := r.oldT a o q t
    exact ⟨o1, keep _ _ q1 fun z => by rw [z, hl] at q1; cases q1; exact t1, t1⟩
  · obtain ⟨o, w, t⟩ := (r.pt a q).2
    exact ⟨o, keep _ _ w fun z => (r.rf p hm).2 (z ▸ q), t⟩
  · obtain ⟨ps, e, t⟩ := r.tab P q
    exact ⟨ps, keep _ _ e (fun z => by rw [z, hl] at e; cases e), t⟩
end
section
variable {g : Gd} {c : Cc} {pos : Pos} {e e2 e3 : Expr} {i i2 i3 : E}
theorem tyl {K : PySem.W.Frag} {H : Hp} {a : Addr} {xs : List V} (h : H a = some (.lst xs)) : L2.tyV K "list" (.ref a) H := .inl ⟨rfl, _, .inl (.inl h)⟩
theorem se_pop0 {o : Expr} {ap cp p1 : Pos} {k : Nat} (hb : baseOk o = true) (hl : (ap.endLine == cp.line) = true) (ho : SE g c o i) : SE g c (.Call (.Attribute o "pop" ap) [.Constant (.int 0) k p1] [] cp) (.pop0 i) := by
  obtain ⟨t, a1, a2⟩ := ho
  refine ⟨L2.tBM g.K "list" L2.rPopAt t (L2.tCons (L2.tC (.int 0)) L2.tNil), fun X hX => ?_, fun b σV ρ F H s Q rl h => ?_⟩
  · rw [← hX.K]
    exact L2.pe_bm PySem.F.plainAttrs_list PySem.F.slot_list_pop PySem.F.type_list_pop L2.mt_popAt (a1 X hX) (L2.pa_cons L2.pe_int L2.pa_nil) (base_ok hb) (by rfl) hl (by rfl) (by rfl)
  · simp only [evE] at h
    refine h.step (T := fun Q' => t σV H Q') (fun Q' q => a2 _ _ _ _ _ _ _ rl q) fun x s1 v ρ1 F1 H1 ex e1 r1 p1 q1 => ?_
    split at q1
    · rename_i n exz
      rw [exz] at p1
      simp only [Rep] at p1
      obtain ⟨a, p2, rfl⟩ := p1
      split at q1
      · rename_i y ys em
        obtain ⟨a', vs, p3, p4, p5⟩ := r1.mem n _ em
        rw [p2] at p3
        cases p3
        simp only [Reps] at p5
        obtain ⟨v, us, rfl, p6, p7⟩ := p5
        have hm : a ∈ ρ1 := List.mem_of_getElem? p2
        refine ⟨tyl p4, a, _, 0, 0, v, rfl, rfl, p4, by decide, by decide, ?_, rfl, ?_⟩
        · simp [seqIndex?]
        · have x : ExS ρ1 F1 H1 ρ1 F1 (upd H1 a (.lst us)) := (exE_set hm p4).toS r1
          exact q1 v ρ1 F1 _ (exE_set hm p4) (r1.setM p2 p4 p7 (by rw [← r1.ml]; exact (List.getElem?_eq_some_iff.mp p2).1)) (Rep.mono x _ _ p6)
      · exact q1.elim
    · exact q1.elim
end
end Ev


set_option Elab.async false
set_option linter.all false
set_option maxRecDepth 100000
set_option maxHeartbeats 1000000
/-! EvJ: all, any of a generator expression. -/
namespace Ev
open PySem
open L2 (V Hp HO SqL SqT Rd upd upd_same upd_ne Same TE VK PE PT PW PA PI PG TG XK Sp FnOk Binds Room CX0 E0 Cx cloFrom)
section
variable {K : PySem.W.Frag} {Tb : Addr → Prop} {b b' : Bx} {σV σV' : L2.St} {ρ ρ' : List Addr} {F F' : Addr → Prop} {H H' : Hp} {s t : S} {P : Addr} {cs : List Nat}
theorem mskR_some {σ : List Rv} {i : Nat} {x : Rv} (h : (mskR cs σ)[i]? = some x) : x = .un ∨ (i ∈ cs ∧ σ[i]? = some x) := by
  unfold mskR at h
  rw [List.getElem?_mapIdx] at h
  cases e : σ[i]? with
  | none => rw [e] at h; cases h
  | some y =>
    rw [e] at h
    simp only [Option.map_some, Option.some.injEq] at h
    by_cases m : i ∈ cs
    · rw [if_pos m] at h; exact .inr ⟨m, by rw [h]⟩
    · rw [if_neg m] at h; exact .inl h.symm
theorem mskR_len {σ : List Rv} : (mskR cs σ).length = σ.length := by simp [mskR]
theorem mskV_in {σ : L2.St} {i : Nat} {v : V} (m : i ∈ cs) (h : σ[i]? = some (some v)) : (mskV σ cs)[i]? = some (some v) := by
  unfold mskV
  rw [List.getElem?_mapIdx, h]
  simp only [Option.map_some, if_pos m]
/-- the def's table has grown -/
theorem Rl.tabbed (r : Rl K Tb b σV ρ F H s) (hP : GxR.TabG H P) (h : GxR.Tabbed P H H') : Rl K Tb b σV ρ F H' s ∧ ExE ρ F H ρ F H' := by
  obtain ⟨ps, e, _⟩ := hP
  have keep : ∀ a o, H a = some o → ¬ IsTb o → H' a = some o := fun a o q t => by
    rw [h.2 a (fun z => by rw [z, e] at q; cases q; exact t trivial)]; exact q
  have keepT : ∀ a o, H a = some o → IsTb o → ∃ o', H' a = some o' ∧ IsTb o' := fun a o q t => by
    by_cases z : a = P
    · obtain ⟨qs, e2, _⟩ := h.1
      exact ⟨.tbl qs, by rw [z]; exact e2, trivial⟩
    · exact ⟨o, by rw [h.2 a z]; exact q, t⟩
  have x : ExE ρ F H ρ F H' := ⟨fun _ _ h => h, fun _ h => h, fun a o q _ t => keep a o q t, keepT, fun _ h => .inl h⟩
  have xs := x.toS r
  refine ⟨⟨r.len, fun i d e => (let ⟨v, q, p⟩ := r.val i d e; ⟨v, q, Rep.mono xs _ _ p⟩), fun i l e => (let ⟨a, vs, q, o⟩ := r.own i l e; ⟨a, vs, q, o.mono xs (keep _ _ o.at_ id) o.nf o.nr⟩), r.apart,
    fun n l e => (let ⟨a, vs, q, p, t⟩ := r.mem n l e; ⟨a, vs, q, keep _ _ p id, Reps.mono xs _ _ t⟩), r.ml, r.nd, r.rf, r.rn, fun a f => (let ⟨o, q, t⟩ := r.ft a f; ⟨o, keep _ _ q t, t⟩), r.fn,
    fun a o q n t => keep _ _ (r.old a o q n t) t, fun a o q t => (let ⟨o1, q1, t1⟩ := r.oldT a o q t; keepT a o1 q1 t1), fun a q => ⟨(r.pt a q).1, let ⟨o, w, t⟩ := (r.pt a q).2; ⟨o, keep _ _ w t, t⟩⟩, r.bp, fun Q q => ?_⟩, x⟩
  by_cases z : Q = P
  · rw [z]; exact h.1
  · obtain ⟨qs, e2, t2⟩ := r.tab Q q
    exact ⟨qs, by rw [h.2 Q z]; exact e2, t2⟩
/-- captured lists are shared -/
theorem Rl.shr (r : Rl K Tb b σV ρ F H s) : ∀ cs : List Nat, ∃ F', (∀ a, F a → F' a) ∧ Rl K Tb b σV ρ F' H { s with σ := Ev.shr cs s.σ }
  | [] => ⟨F, fun _ h => h, r⟩
  | i :: is => by
    obtain ⟨F1, m1, r1⟩ := Rl.shr r is
    simp only [Ev.shr]
    split
    · rename_i l e
      obtain ⟨a, F2, _, m2, r2, _⟩ := r1.read e
      exact ⟨F2, fun c h => m2 c (m1 c h), r2⟩
    · exact ⟨F1, m1, r1⟩
/-- the lists that the def's names have to themselves are not to be touched -/
def Bx.all (b : Bx) (σ : List Rv) (σV : L2.St) : Bx := { b with Pr := fun a => b.Pr a ∨ ∃ (i : Nat) (l : List D), σ[i]? = some (.mls l) ∧ σV[i]? = some (some (.ref a)) }
theorem noOwn_at {σ : List Rv} (no : noOwn σ cs = true) {i : Nat} {l : List D} (m : i ∈ cs) (h : σ[i]? = some (.mls l)) : False := by
  unfold noOwn at no
  rw [List.all_eq_true] at no
  have := no i m
  rw [List.getD_eq_getElem?_getD, h] at this
  cases this
theorem Rl.mask (r : Rl K Tb b σV ρ F H s) (no : noOwn s.σ cs = true) : Rl K Tb (b.all s.σ σV) (mskV σV cs) ρ F H { s with σ := mskR cs s.σ } := by
  refine ⟨by rw [mskV_len, mskR_len]; exact r.len, fun i d e => ?_, fun i l e => ?_, fun i j l l' a e1 => ?_, r.mem, r.ml, r.nd, fun a m => ⟨(r.rf a m).1, fun z => ?_⟩, r.rn, r.ft, r.fn, r.old, r.oldT, fun a z => ?_, r.bp, r.tab⟩
  · rcases mskR_some e with z | ⟨m, z⟩
    · cases z
    · obtain ⟨v, q, t⟩ := r.val i d z
      exact ⟨v, mskV_in m q, t⟩
  · rcases mskR_some e with z | ⟨m, z⟩
    · cases z
    · exact (noOwn_at no m z).elim
  · rcases mskR_some e1 with z | ⟨m, z⟩
    · cases z
    · exact (noOwn_at no m z).elim
  · rcases z with z | ⟨i, l, e1, e2⟩
    · exact (r.rf a m).2 z
    · obtain ⟨c, vs, q, o⟩ := r.own i l e1
      rw [q] at e2
      cases e2
      exact o.nr m
  · rcases z with z | ⟨i, l, e1, e2⟩
    · exact r.pt a z
    · obtain ⟨c, vs, q, o⟩ := r.own i l e1
      rw [q] at e2
      cases e2
      exact ⟨o.nf, _, o.at_, id⟩
/-- the next turn's slots -/
theorem Rl.again {τ : List Rv} {σm : L2.St} {ρ0 : List Addr} {F0 : Addr → Prop} {H0 : Hp} (r : Rl K Tb b σV ρ F H s) (r0 : Rl K Tb b σm ρ0 F0 H0 { t with σ := τ }) (x : ExS ρ0 F0 H0 ρ F H) (no : ∀ (i : Nat) l, τ[i]? ≠ some (.mls l)) : Rl K Tb b σm ρ F H { s with σ := τ } :=
  ⟨r0.len, fun i d e => let ⟨v, q, p⟩ := r0.val i d e; ⟨v, q, Rep.mono x _ _ p⟩, fun i l e => (no i l e).elim, fun i j l l' a e1 => (no i l e1).elim, r.mem, r.ml, r.nd, r.rf, r.rn, r.ft, r.fn, r.old, r.oldT, r.pt, r.bp, r.tab⟩
/-- behind the generator -/
theorem Rl.unmask {ρ0 : List Addr} {F0 : Addr → Prop} {H0 : Hp} {σ' : L2.St} (r0 : Rl K Tb b σV ρ0 F0 H0 t) (r : Rl K Tb (b.all t.σ σV) σ' ρ F H s) (x : ExE ρ0 F0 H0 ρ F H) : Rl K Tb b σV ρ F H { s with σ := t.σ } := by
  have xs := x.toS r0
  refine ⟨r0.len, fun i d e => (let ⟨v, q, p⟩ := r0.val i d e; ⟨v, q, Rep.mono xs _ _ p⟩), fun i l e => ?_, r0.apart, r.mem, r.ml, r.nd, fun a m => ⟨(r.rf a m).1, fun z => (r.rf a m).2 (.inl z)⟩, r.rn, r.ft, r.fn, r.old, r.oldT, fun a q => r.pt a (.inl q), r.bp, r.tab⟩
  obtain ⟨a, vs, q, o⟩ := r0.own i l e
  have pr : (b.all t.σ σV).Pr a := .inr ⟨i, l, e, q⟩
  exact ⟨a, vs, q, o.mono xs (x.all _ _ o.at_ o.nr id) (r.pt a pr).1 fun m => (r.rf a m).2 pr⟩
end
def gaStep (C : Calls) (D' : Nat → D) (τ : List Rv) (tg : Tg) (cn : B) (el : E) (x : D) (t : S) : Res (Option Bool × S) :=
  (opt (asgT tg (.val x) τ)).bind fun σ => (evB C D' cn { t with σ := σ }).b2 fun k t => if k = true then (evE C D' el t).b2 fun y t => (blOf y).bind fun b => .ok (some b, t) else .ok (none, t)
/-- ahead of turn i -/
structure GaP (K : PySem.W.Frag) (Tb : Addr → Prop) (b : Bx) (σm : L2.St) (τ : List Rv) (ρ1 : List Addr) (F1 : Addr → Prop) (H1 : Hp) (W : S → Prop) (H : Hp) : Prop where
  ex : ∃ (ρ : List Addr) (F : Addr → Prop) (t : S), ExE ρ1 F1 H1 ρ F H ∧ Rl K Tb b σm ρ F H { t with σ := τ } ∧ W t
section
variable {g : Gd} {c : Cc} {pos p gpos : Pos} {tgE it elt : Expr} {ifs : List Expr} {scope : Scope} {tg : Tg} {ii : I} {cn : B} {el : E} {al : Bool} {cs : List Nat}
theorem se_ga_sem {wi : L2.TI} {gt : TG} {tt : L2.TT} {te : TE} {P : Addr} (hP : g.Tb P)
    (i2 : ∀ b σV ρ F H s Q, Rl g.K g.Tb b σV ρ F H s → WG g.K g.Tb b σV ρ F H (fun ρ F H _ l J => ItOk g.K ρ F H J l) Q (evI g.C g.D ii s) → wi σV H Q)
    (g2 : ∀ b σV ρ F H s d v σ' Q, Rl g.K g.Tb b σV ρ F H s → Rep g.K ρ F H d v → asgT tg (.val d) s.σ = some σ' → (∀ σV', Rl g.K g.Tb b σV' ρ F H { s with σ := σ' } → (∀ i, i ∉ slots tg → σV'[i]? = σV[i]?) → σV'.length = σV.length → Q σV' H) → gt v σV H Q)
    (t2 : ∀ b σV ρ F H s Q, Rl g.K g.Tb b σV ρ F H s → WG g.K g.Tb b σV ρ F H (fun _ _ _ _ k k' => k' = k) Q (evB g.C g.D cn s) → tt σV H Q)
    (e2 : ∀ b σV ρ F H s Q, Rl g.K g.Tb b σV ρ F H s → WG g.K g.Tb b σV ρ F H (RepR g.K b σV) Q (evE g.C g.D el s) → te σV H Q)
    (hsl : ∀ n, n ∈ slots tg → n ∉ cs) : ∀ b σV ρ F H s Q, Rl g.K g.Tb b σV ρ F H s → WG g.K g.Tb b σV ρ F H (RepR g.K b σV) Q (evE g.C g.D (.ga al cs tg ii cn el) s) → tGA al P wi gt tt te cs σV H Q := by
  intro b σV ρ F H s Q rl h
  simp only [evE] at h
  refine h.part (T := fun Q' => wi σV H Q') (fun Q' q => i2 _ _ _ _ _ _ _ rl q) fun l s1 J ρ1 F1 H1 _ x1 r1 itok q1 => ?_
  obtain ⟨no, q2⟩ := q1.ite
  refine ⟨r1.tab P hP, fun H2 hT => ?_⟩
  obtain ⟨rT, xT⟩ := r1.tabbed (r1.tab P hP) hT
  obtain ⟨F2, mF, r2⟩ := rT.shr cs
  have x12 : ExE ρ1 F1 H1 ρ1 F2 H2 := xT.trans (ExE.more mF)
  have rm := r2.mask no
  obtain ⟨G, Y, w, hG, hY⟩ := itok.ex
  generalize hτ : mskR cs (shr cs s1.σ) = τ at *
  have nτ : ∀ (i : Nat) l, τ[i]? ≠ some (.mls l) := fun i l e => by
    rw [← hτ] at e
    rcases mskR_some e with z | ⟨m, z⟩
    · cases z
    · exact noOwn_at no m z
  let WT : Nat → S → Prop := fun n t => WG g.K g.Tb b σV ρ1 F1 H1 (RepR g.K b σV) Q ((gaL al (gaStep g.C g.D τ tg cn el) (l.drop n) t).b2 fun k t => .ok (.val (.bl k), { t with σ := shr cs s1.σ }))
  have q3 : WT 0 s1 := q2
  -- the end
  have fin : ∀ {k : Bool} {σ' : L2.St} {ρ F Hc} {t : S}, ExE ρ1 F2 H2 ρ F Hc → Rl g.K g.Tb (b.all (shr cs s1.σ) σV) σ' ρ F Hc t →
      WG g.K g.Tb b σV ρ1 F1 H1 (RepR g.K b σV) Q (.ok (.val (.bl k), { t with σ := shr cs s1.σ })) → Q (.bl k) Hc := fun {k σ' ρ F Hc t} x r q =>
    q (.bl k) ρ F Hc (x12.trans x) (Rl.unmask r2 r x) (by simp only [RepR, Rep])
  refine ⟨fun i m Hc => m = l.length - i ∧ i ≤ l.length ∧ GaP g.K g.Tb (b.all (shr cs s1.σ) σV) (mskV σV cs) τ ρ1 F2 H2 (WT i) Hc, ⟨l.length, by simp, Nat.zero_le _, ⟨⟨ρ1, F2, s1, ExE.refl, rm, q3⟩⟩⟩, ?_⟩
  rintro i m Hc ⟨rfl, hi, ⟨⟨ρ, F, t, x, r, hw⟩⟩⟩
  have gG := hG ρ F Hc ((x12.trans x).toS r1)
  by_cases hlt : i < l.length
  · refine .inr ⟨w.goes i Hc hlt gG, fun H' => i + 1 ≤ l.length ∧ GaP g.K g.Tb (b.all (shr cs s1.σ) σV) (mskV σV cs) τ ρ1 F2 H2 (WT (i + 1)) H', fun H' hn => ⟨l.length - (i + 1), by omega, rfl, hn.1, hn.2⟩, fun y Hc' hy => ?_⟩
    have dn : l[i]? = some l[i] := by simp [hlt]
    obtain ⟨sm, rep⟩ := hY ρ F Hc i y Hc' l[i] ((x12.trans x).toS r1) (w.yields i Hc y Hc' hlt gG hy) dn
    have dr : l.drop i = l[i] :: l.drop (i + 1) := List.drop_eq_getElem_cons hlt
    have hw' : WG g.K g.Tb b σV ρ1 F1 H1 (RepR g.K b σV) Q ((gaL al (gaStep g.C g.D τ tg cn el) (l[i] :: l.drop (i + 1)) t).b2 fun k t => .ok (.val (.bl k), { t with σ := shr cs s1.σ })) := by rw [← dr]; exact hw
    simp only [gaL, b2_assoc] at hw'
    obtain ⟨yo, t2', z1, k5⟩ := b2_ok hw'
    unfold gaStep at z1
    cases z : asgT tg (.val l[i]) τ with
    | none => rw [z] at z1; cases z1
    | some σ1 =>
      rw [z] at z1
      simp only [opt, Res.bind] at z1
      have r' := r.same sm
      refine g2 _ (mskV σV cs) ρ F Hc' { t with σ := τ } l[i] y σ1 _ r' rep z fun σV2 rl2 o2 l2 => ?_
      refine ⟨⟨l2, fun j v e => by
        rw [o2 j fun q => hsl j q (mskV_get e).1]; exact e⟩, ?_⟩
      cases z2 : evB g.C g.D cn { t with σ := σ1 } with
      | exc _ => rw [z2] at z1; cases z1
      | bad => rw [z2] at z1; cases z1
      | ok q =>
        obtain ⟨k, t3⟩ := q
        rw [z2] at z1
        simp only [Res.b2] at z1
        refine t2 _ σV2 ρ F Hc' { t with σ := σ1 } _ rl2 (WG.of z2 fun k' ρ3 F3 H3 x3 r3 e3 => ?_)
        subst e3
        have xb : ExE ρ F Hc ρ3 F3 H3 := (ExE.same sm).trans x3
        cases k' with
        | false =>
          rw [if_neg (by decide)] at z1 ⊢
          cases z1
          exact ⟨hlt, ⟨⟨ρ3, F3, _, x.trans xb, r3.again r (xb.toS r) nτ, k5⟩⟩⟩
        | true =>
          rw [if_pos rfl] at z1 ⊢
          cases z3 : evE g.C g.D el t3 with
          | exc _ => rw [z3] at z1; cases z1
          | bad => rw [z3] at z1; cases z1
          | ok q =>
            obtain ⟨yr, t4⟩ := q
            rw [z3] at z1
            simp only [Res.b2] at z1
            cases yr with
            | un => cases z1
            | mls _ => cases z1
            | val d =>
              cases d <;> first | (cases z1; done) | skip
              rename_i bb
              simp only [blOf, Res.bind, Res.ok.injEq, Prod.mk.injEq] at z1
              obtain ⟨rfl, rfl⟩ := z1
              refine e2 _ σV2 ρ3 F3 H3 t3 _ r3 (WG.of z3 fun v ρ4 F4 H4 x4 r4 e4 => ?_)
              simp only [RepR, Rep] at e4
              refine ⟨bb, e4, ?_⟩
              have xc : ExE ρ F Hc ρ4 F4 H4 := xb.trans x4
              by_cases hb : bb = al
              · rw [if_pos hb]
                simp only [if_pos hb] at k5
                exact ⟨hlt, ⟨⟨ρ4, F4, _, x.trans xc, r4.again r (xc.toS r) nτ, k5⟩⟩⟩
              · rw [if_neg hb]
                simp only [if_neg hb] at k5
                exact fin (x.trans xc) r4 k5
  · have e : i = l.length := by omega
    subst e
    refine .inl ⟨w.stops Hc gG, ?_⟩
    have hw' : WG g.K g.Tb b σV ρ1 F1 H1 (RepR g.K b σV) Q ((gaL al (gaStep g.C g.D τ tg cn el) [] t).b2 fun k t => .ok (.val (.bl k), { t with σ := shr cs s1.σ })) := by
      rw [← List.drop_length (l := l)]; exact hw
    simp only [gaL, Res.b2] at hw'
    exact fin (t := { t with σ := τ }) x r hw'

theorem xok_gx {X : Cx} (hX : XOk g c X) (hgl : c.gl = 1) {s : Shared} {H : Hp} {cl : List (Str × Addr)} {C : Addr} {code : Value} {fp : List Addr} {pn : List (Addr × Obj)} :
    XOk g (innerG c scope) (gx X X.A.in1.in1 (genEnv scope cl C code builtinsNs X.env) s H fp pn) where
  P := hX.P
  w := hX.w
  K := hX.K
  mg := hX.mg
  base := hX.base
  N := hX.N
  nd := hX.nd
  sc := rfl
  fn := fun _ h => by cases h
  calm := rfl
  room := by
    have r := hX.room
    rw [hgl] at r
    refine ⟨r.hd, ?_, ?_⟩
    · have := r.dp
      show X.A.depth + 1 + 3 * (g.k + 0) + 5 < _
      omega
    · have := r.un
      show X.A.units + 1 + 1 + 3 + 16 * (g.k + 0) + 200 < _
      omega
  code := fun h => absurd h (by show ¬ 0 < 0; omega)
theorem gsc_of {X : Cx} (hX : XOk g c X) (h : gscB c scope = true) : GSc X scope (capsOf c scope) := by
  unfold gscB at h
  simp only [Bool.and_eq_true, Bool.not_eq_true', List.all_eq_true, Bool.or_eq_true, beq_iff_eq] at h
  obtain ⟨⟨⟨⟨⟨h1, h2⟩, h3⟩, h4⟩, h5⟩, h6⟩ := h
  refine ⟨?_, h2, fun y hy e => ?_, h4, h5, fun y hy e => ?_, fun i hi x hx => ?_⟩
  · revert h1
    cases scope.kind <;> simp
  · have := h3 y hy
    rw [e] at this
    exact absurd this (by decide)
  · have h7 := h6 y hy
    rw [hX.sc]
    rcases h7 with (h7 | h7) | h7
    · rw [e] at h7; exact absurd h7 (by decide)
    · exact .inl h7
    · exact .inr h7
  · unfold capsOf at hi
    obtain ⟨y, hy, e⟩ := List.mem_filterMap.mp hi
    split at e
    · rename_i e1
      have e2 := idx_at e
      rw [hX.N, e2] at hx
      cases hx
      rw [← e1]
      exact h5 y hy
    · cases e
theorem genFold_no (h : (isSet it || isLst it) = false) (env : Env) (x : Value) : genFold it env x = pure x := by
  cases it <;> first | rfl | cases h
theorem se_ga {gt : List (Str × Gv)} (gk : GOk g gt) (hc : c.gt = gt) {f : Str} (hf : (isBlt c f "all" || isBlt c f "any") = true) (hS : gscB c scope = true) (hgl : c.gl = 1) (hit : (isSet it || isLst it) = false) (hi : SI g c tgE it ii) (htg : STg g (innerG c scope) tgE tg)
    (hsl : ∀ n, n ∈ slots tg → n ∉ capsOf c scope) (hcn : STs g (innerG c scope) ifs cn) (he : SE g (innerG c scope) elt el) :
    SE g c (.Call (.Name f p) [.GeneratorExp elt [⟨tgE, it, ifs, 0⟩] scope gpos] [] pos) (.ga (f == "all") (capsOf c scope) tg ii cn el) := by
  obtain ⟨wi, i1, i2⟩ := hi
  obtain ⟨tt, g1, g2⟩ := htg
  obtain ⟨tc, t1, t2⟩ := hcn
  obtain ⟨te, e1, e2⟩ := he
  refine ⟨fun σ H Q => ∀ P, g.Tb P → tGA (f == "all") P wi tt tc te (capsOf c scope) σ H Q, fun X hX => ?_, fun b σV ρ F H s Q rl h P hP => se_ga_sem hP i2 g2 t2 e2 hsl b σV ρ F H s Q rl h⟩
  obtain ⟨cd, P, hcd, TB, hP⟩ := hX.code (by rw [hgl]; exact Nat.one_pos)
  have hr : Room (g.k + 1) X.A := hgl ▸ hX.room
  have pg : PE X (.Call (.Name f p) [.GeneratorExp elt [⟨tgE, it, ifs, 0⟩] scope gpos] [] pos) (tGA (f == "all") P wi tt tc te (capsOf c scope)) := by
    rcases Bool.or_eq_true_iff.mp hf with hf | hf
    · obtain ⟨rfl, h3⟩ := isBlt_of hf
      obtain ⟨h5, h6, h7⟩ := globV_of h3
      exact pe_gall hr (hX.gl h3) (by rw [hX.mg]; exact gk.blt _ (hc ▸ h6)) TB hcd (gsc_of hX hS) (i1 X hX) (fun s H code fp pn => g1 _ (xok_gx hX hgl)) (fun s H code fp pn => t1 _ (xok_gx hX hgl)) (fun s H code fp pn => e1 _ (xok_gx hX hgl)) (genFold_no hit _)
    · obtain ⟨rfl, h3⟩ := isBlt_of hf
      obtain ⟨h5, h6, h7⟩ := globV_of h3
      exact pe_gany hr (hX.gl h3) (by rw [hX.mg]; exact gk.blt _ (hc ▸ h6)) TB hcd (gsc_of hX hS) (i1 X hX) (fun s H code fp pn => g1 _ (xok_gx hX hgl)) (fun s H code fp pn => t1 _ (xok_gx hX hgl)) (fun s H code fp pn => e1 _ (xok_gx hX hgl)) (genFold_no hit _)
  exact ⟨fun pins s σ H Q I h => pg.run pins s σ H Q I (h P hP)⟩
end
end Ev


set_option Elab.async false
set_option linter.all false
set_option maxRecDepth 100000
set_option maxHeartbeats 1000000
/-! EvK: statements. -/
namespace Ev
open PySem
open L2 (V Hp HO SqL SqT Rd upd upd_same upd_ne Same TE VK TS Ends PE PT PW PA PI PG PS PSs TG XK Sp FnOk Binds Room CX0 E0 Cx)
section
variable {K : PySem.W.Frag} {Tb : Addr → Prop} {b : Bx} {σV : L2.St} {ρ ρ' : List Addr} {F F' : Addr → Prop} {H H' : Hp} {s : S} {Dn : Ends}
/-- what is wanted of a statement's end -/
def WS (K : PySem.W.Frag) (Tb : Addr → Prop) (b : Bx) (ρ : List Addr) (F : Addr → Prop) (H : Hp) (D : Ends) : Res (Out × S) → Prop
  | .ok (.nx, s') => ∀ σV' ρ' F' H', ExS ρ F H ρ' F' H' → Rl K Tb b σV' ρ' F' H' s' → D.nx σV' H'
  | .ok (.brk, s') => ∀ σV' ρ' F' H', ExS ρ F H ρ' F' H' → Rl K Tb b σV' ρ' F' H' s' → D.bk σV' H'
  | .ok (.cnt, s') => ∀ σV' ρ' F' H', ExS ρ F H ρ' F' H' → Rl K Tb b σV' ρ' F' H' s' → D.ct σV' H'
  | .ok (.ret r, s') => ∀ σV' v ρ' F' H', ExS ρ F H ρ' F' H' → Rl K Tb b σV' ρ' F' H' s' → RepR K b σV' ρ' F' H' s' r v → D.rt v H'
  | _ => False
theorem WS.later {r : Res (Out × S)} (h : WS K Tb b ρ F H Dn r) (x : ExS ρ F H ρ' F' H') : WS K Tb b ρ' F' H' Dn r := by
  match r, h with
  | .ok (.nx, _), h => exact fun σV' ρ2 F2 H2 e q => h σV' ρ2 F2 H2 (x.trans e) q
  | .ok (.brk, _), h => exact fun σV' ρ2 F2 H2 e q => h σV' ρ2 F2 H2 (x.trans e) q
  | .ok (.cnt, _), h => exact fun σV' ρ2 F2 H2 e q => h σV' ρ2 F2 H2 (x.trans e) q
  | .ok (.ret _, _), h => exact fun σV' v ρ2 F2 H2 e q t => h σV' v ρ2 F2 H2 (x.trans e) q t
/-- a part of a statement, an expression -/
theorem WS.part {α' β' : Type} {R' : List Addr → (Addr → Prop) → Hp → S → α' → β' → Prop} {r : Res (α' × S)} {f : α' → S → Res (Out × S)} {T : (β' → Hp → Prop) → Prop} {Kt : β' → Hp → Prop} (rl : Rl K Tb b σV ρ F H s) (h : WS K Tb b ρ F H Dn (r.b2 f)) (ha : ∀ Q', WG K Tb b σV ρ F H R' Q' r → T Q')
    (hk : ∀ a s1 v ρ1 F1 H1, r = .ok (a, s1) → ExE ρ F H ρ1 F1 H1 → Rl K Tb b σV ρ1 F1 H1 s1 → R' ρ1 F1 H1 s1 a v → WS K Tb b ρ1 F1 H1 Dn (f a s1) → Kt v H1) : T Kt := by
  refine ha _ ?_
  cases r with
  | ok p =>
    obtain ⟨rv, s1⟩ := p
    intro v ρ1 F1 H1 e q t
    exact hk rv s1 v ρ1 F1 H1 rfl e q t (WS.later h (e.toS rl))
  | exc _ => exact h.elim
  | bad => exact h.elim
theorem WS.step {r : Res (Rv × S)} {f : Rv → S → Res (Out × S)} {T : VK → Prop} {Kt : VK} (rl : Rl K Tb b σV ρ F H s) (h : WS K Tb b ρ F H Dn (r.b2 f)) (ha : ∀ Q', WG K Tb b σV ρ F H (RepR K b σV) Q' r → T Q')
    (hk : ∀ rv s1 v ρ1 F1 H1, r = .ok (rv, s1) → ExE ρ F H ρ1 F1 H1 → Rl K Tb b σV ρ1 F1 H1 s1 → Rep K ρ1 F1 H1 rv.fz v → WS K Tb b ρ1 F1 H1 Dn (f rv s1) → Kt v H1) : T Kt := by
  refine WS.part rl h ha fun rv s1 v ρ1 F1 H1 er e q t w => ?_
  obtain ⟨F2, m, q2, p⟩ := RepR.fz q t
  exact hk rv s1 v ρ1 F2 H1 er (e.trans (ExE.more m)) q2 p (WS.later w ((ExE.more m).toS q))
theorem WS.opt {γ : Type} {o : Option γ} {f : γ → Res (Out × S)} (h : WS K Tb b ρ F H Dn ((opt o).bind f)) : ∃ c, o = some c ∧ WS K Tb b ρ F H Dn (f c) := by
  cases o with
  | none => exact h.elim
  | some c => exact ⟨c, rfl, h⟩
theorem WS.ite {p : Prop} [Decidable p] {x : Res (Out × S)} (h : WS K Tb b ρ F H Dn (if p then x else .bad)) : p ∧ WS K Tb b ρ F H Dn x := by
  by_cases k : p
  · rw [if_pos k] at h; exact ⟨k, h⟩
  · rw [if_neg k] at h; exact h.elim
theorem WS.nx (h : WS K Tb b ρ F H Dn (.ok (.nx, s))) (q : Rl K Tb b σV ρ F H s) : Dn.nx σV H := h σV ρ F H ExS.refl q
/-- a result that is there -/
theorem b2_okS {α : Type} {r : Res (α × S)} {f : α → S → Res (Out × S)} (h : WS K Tb b ρ F H Dn (r.b2 f)) : ∃ a s, r = .ok (a, s) ∧ WS K Tb b ρ F H Dn (f a s) := by
  cases r with
  | ok p => obtain ⟨a, s⟩ := p; exact ⟨a, s, rfl, h⟩
  | exc _ => exact h.elim
  | bad => exact h.elim
/-- a list of a name's own is changed -/
theorem Rl.setOwn (r : Rl K Tb b σV ρ F H s) {i : Nat} {l l' : List D} {a : Addr} {vs ws : List V} (e : s.σ[i]? = some (.mls l)) (ev : σV[i]? = some (some (.ref a))) (o : Own K b ρ F H a l vs) (h : Reps K ρ F H l' ws) :
    Rl K Tb b σV ρ F (upd H a (.lst ws)) { s with σ := s.σ.set i (.mls l') } ∧ ExS ρ F H ρ F (upd H a (.lst ws)) := by
  have x : ExS ρ F H ρ F (upd H a (.lst ws)) := exS_upd o.nf fun u e => by rw [o.at_] at e; cases e; trivial
  have keep : ∀ c u, H c = some u → c ≠ a → upd H a (.lst ws) c = some u := fun c u e z => by rw [upd_ne z]; exact e
  have nb : ∀ c u, b.H c = some u → c ≠ a := fun c u e z => by rw [z, o.new] at e; cases e
  refine ⟨⟨by rw [List.length_set]; exact r.len, fun j d q => ?_, fun j l2 q => ?_, fun j k l1 l2 c e1 e2 e3 e4 => ?_, fun n l2 q => ?_, r.ml, r.nd, r.rf, r.rn, fun c f => ?_, r.fn, fun c u q n t => keep _ _ (r.old c u q n t) (nb c u q), fun c u q t => ?_, fun c q => ⟨(r.pt c q).1, ?_⟩, r.bp, fun P q => ?_⟩, x⟩
  · rcases get_set q with ⟨_, z⟩ | ⟨_, z⟩
    · cases z
    · obtain ⟨v, q1, q2⟩ := r.val j d z
      exact ⟨v, q1, Rep.mono x _ _ q2⟩
  · rcases get_set q with ⟨rfl, z⟩ | ⟨ne, z⟩
    · cases z
      exact ⟨a, ws, ev, ⟨upd_same, Reps.mono x _ _ h, o.nf, o.nr, o.new, o.np⟩⟩
    · obtain ⟨c, us, q1, q2⟩ := r.own j l2 z
      exact ⟨c, us, q1, q2.mono x (keep _ _ q2.at_ fun w => ne (r.apart i j l l2 a e z ev (w ▸ q1))) q2.nf q2.nr⟩
  · have back : ∀ {j : Nat} {l1 : List D}, (s.σ.set i (.mls l'))[j]? = some (.mls l1) → ∃ l0, s.σ[j]? = some (.mls l0) := fun {j l1} q => by
      rcases get_set q with ⟨rfl, z⟩ | ⟨_, z⟩
      · exact ⟨l, e⟩
      · exact ⟨_, z⟩
    obtain ⟨m1, z1⟩ := back e1
    obtain ⟨m2, z2⟩ := back e2
    exact r.apart j k m1 m2 c z1 z2 e3 e4
  · obtain ⟨c, us, q1, q2, q3⟩ := r.mem n l2 q
    exact ⟨c, us, q1, keep _ _ q2 fun w => o.nr (w ▸ List.mem_of_getElem? q1), Reps.mono x _ _ q3⟩
  · obtain ⟨u, q, t⟩ := r.ft c f
    exact ⟨u, keep _ _ q fun w => o.nf (w ▸ f), t⟩
  · obtain ⟨o1, q1, t1⟩ := r.oldT c u q t
    exact ⟨o1, keep _ _ q1 (nb c u q), t1⟩
  · obtain ⟨u, w, t⟩ := (r.pt c q).2
    exact ⟨u, keep _ _ w fun z => o.np (z ▸ q), t⟩
  · obtain ⟨ps, e1, t⟩ := r.tab P q
    exact ⟨ps, keep _ _ e1 (fun z => by rw [z, o.at_] at e1; cases e1), t⟩
end
/-- a statement and what it is in the small language -/
def SS (g : Gd) (c : Cc) (st : Stmt) (ir : T) : Prop := ∃ t : TS, (∀ X, XOk g c X → PassesOwn (model X.prog X.w) X.A X.env X.xe → PS X st t) ∧
  ∀ b σV ρ F H s D, Rl g.K g.Tb b σV ρ F H s → WS g.K g.Tb b ρ F H D (evS g.C g.D ir s) → t D σV H
def SSs (g : Gd) (c : Cc) (st : List Stmt) (ir : Ts) : Prop := ∃ t : TS, (∀ X, XOk g c X → PassesOwn (model X.prog X.w) X.A X.env X.xe → PSs X st t) ∧
  ∀ b σV ρ F H s D, Rl g.K g.Tb b σV ρ F H s → WS g.K g.Tb b ρ F H D (evSs g.C g.D ir s) → t D σV H
/-- an expression that may stand behind name = -/
def SA (g : Gd) (c : Cc) (e : Expr) (ir : E) : Prop := ∃ t : TE, (∀ X, XOk g c X → ∀ (x : Str) (py sp : Pos) (i : Nat), X.N[i]? = some x → L2.Loc X.env.scope x → (X.fn x = true ∨ X.env.scope.names.lookup x = some .local) → PS X (.Assign [.Name x py] e sp) (L2.tAsg t (L2.gName i))) ∧
  ∀ b σV ρ F H s Q, Rl g.K g.Tb b σV ρ F H s → WG g.K g.Tb b σV ρ F H (RepR g.K b σV) Q (evE g.C g.D ir s) → t σV H Q
section
variable {g : Gd} {c : Cc} {pos py : Pos} {tgE e e2 it elt : Expr} {st : Stmt} {sts a2 b2 : List Stmt} {i i2 el : E} {tg : Tg} {ta tb : Ts} {ii : I} {cn : B} {scope : Scope} {own : List (Str × Nat)} {ifs : List Expr}
def isLc : Expr → Bool
  | .ListComp .. => true
  | _ => false
theorem sw_no (h : isComp e = false) (h2 : isLc e = false) (t : Option Expr) (l : Nat) (env : Env) : swapsWith e t l env = pure false := by
  cases e <;> first | rfl | (cases h2; done) | (cases h; done)
theorem sa_of (h : isComp e = false) (h2 : isLc e = false) (ha : SE g c e i) : SA g c e i := by
  obtain ⟨t, h3, h4⟩ := ha
  exact ⟨t, fun X hX x py sp i hi hl hf => L2.ps_set (by rw [hX.N]; exact hX.nd) hi hl (h3 X hX) (sw_no h h2 _ _ _) hf, h4⟩
theorem sa_lc (hi : SI g c tgE it ii) (hset : isSet it = false) (hb : L2.blkC c.N c.sc scope own = true) (htg : STg g (inner c scope) tgE tg) (hsl : ∀ n, n ∈ slots tg → n ∈ own.map (·.2)) (hc : STs g (inner c scope) ifs cn) (he : SE g (inner c scope) elt el) :
    SA g c (.ListComp elt [⟨tgE, it, ifs, 0⟩] scope pos) (.lc (own.map (·.2)) tg ii cn el) := by
  obtain ⟨wi, gt, tt, te, i1, g1, t1, e1, sem⟩ := lc_parts hi hset hb htg hsl hc he
  refine ⟨L2.tLc wi gt tt te (own.map (·.2)), fun X hX x py sp i hi hl hf => ?_, sem⟩
  have nd : X.N.Nodup := by rw [hX.N]; exact hX.nd
  have bk : L2.BlkOk X.N X.env.scope scope own := by rw [hX.N, hX.sc]; exact L2.blkOk_by hb
  have pe := L2.pe_lc (pos := pos) hX.calm nd (i1 X hX) bk (fun s H C cl fp => g1 _ (hX.inner s H scope C cl fp)) (fun s H C cl fp => t1 _ (hX.inner s H scope C cl fp)) (fun s H C cl fp => e1 _ (hX.inner s H scope C cl fp)) (set_iter hset _)
  have sw : swapsWith (.ListComp elt [⟨tgE, it, ifs, 0⟩] scope pos) (some (.Name x py)) sp.line X.env = pure (X.env.blockKind == .function && X.env.kindOf x == some .local && py.line == pos.line && !(scope.names.any fun (n, k) => n == x && (k == .local || k == .cell))) := rfl
  cases z : (X.env.blockKind == .function && X.env.kindOf x == some .local && py.line == pos.line && !(scope.names.any fun (n, k) => n == x && (k == .local || k == .cell))) with
  | false => rw [z] at sw; exact L2.ps_set nd hi hl pe sw hf
  | true =>
    rw [z] at sw
    simp only [Bool.and_eq_true, beq_iff_eq] at z
    exact L2.ps_setLc hX.calm nd hi z.1.1.2 sw (i1 X hX) bk (fun s H C cl fp => g1 _ (hX.inner s H scope C cl fp)) (fun s H C cl fp => t1 _ (hX.inner s H scope C cl fp)) (fun s H C cl fp => e1 _ (hX.inner s H scope C cl fp)) (set_iter hset _)
end
end Ev


set_option Elab.async false
set_option linter.all false
set_option maxRecDepth 100000
set_option maxHeartbeats 1000000
/-! EvL: statements, each. -/
namespace Ev
open PySem
open L2 (V Hp HO SqL SqT Rd upd upd_same upd_ne Same TE VK TS Ends PE PT PW PA PI PG PS PSs TG XK Sp FnOk Binds Room CX0 E0 Cx)
section
variable {g : Gd} {c : Cc} {pos py : Pos} {tgE e e2 e3 it elt : Expr} {st : Stmt} {sts a2 b2 : List Stmt} {i i2 i3 el : E} {tg : Tg} {ta tb : Ts} {t0 : T} {ii : I} {cn : B} {n : Nat}
theorem ss_set {x : Str} (hx : slotW c x = some n) (ha : SA g c e i) : SS g c (.Assign [.Name x py] e pos) (.asg (.nm n) i) := by
  obtain ⟨t, h1, h2⟩ := ha
  obtain ⟨k1, k2, k3, k4⟩ := slotW_of hx
  refine ⟨L2.tAsg t (L2.gName n), fun X hX _ => h1 X hX x py pos n (by rw [hX.N]; exact k1) (by rw [hX.sc]; exact k2) (k4.imp (hX.fn x) (fun q => by rw [hX.sc]; exact q)), fun b σV ρ F H s Dn rl h => ?_⟩
  simp only [evS] at h
  refine WS.part rl h (T := fun Q' => t σV H Q') (fun Q' q => h2 _ _ _ _ _ _ _ rl q) fun x1 s1 v ρ1 F1 H1 _ e1 r1 p1 q1 => ?_
  obtain ⟨σ', e3, q2⟩ := q1.opt
  simp only [asgT] at e3
  split at e3
  · rename_i hi
    cases e3
    exact q2.nx (r1.put p1 hi)
  · cases e3
theorem ss_asg {ts : List Expr} {k : Nat} (hc : isComp e = false) (hc2 : isTup e = false) (hg : STg g c (.Tuple ts k py) tg) (htp : ∃ us, tg = .tp us) (ha : SE g c e i) : SS g c (.Assign [.Tuple ts k py] e pos) (.asg tg i) := by
  obtain ⟨t, h1, h2⟩ := ha
  obtain ⟨gt, g1, g2⟩ := hg
  refine ⟨L2.tAsg t gt, fun X hX _ => L2.ps_asg (h1 X hX) (g1 X hX) (by cases e <;> first | rfl | (cases hc; done)) (by cases e <;> first | rfl | (cases hc2; done)) (by rfl), fun b σV ρ F H s Dn rl h => ?_⟩
  simp only [evS] at h
  obtain ⟨us, rfl⟩ := htp
  obtain ⟨x0, s0, z0, h0⟩ := b2_okS h
  obtain ⟨σ0, e0, _⟩ := h0.opt
  refine WS.step rl h (T := fun Q' => t σV H Q') (fun Q' q => h2 _ _ _ _ _ _ _ rl q) fun x1 s1 v ρ1 F1 H1 er e1 r1 p1 q1 => ?_
  rw [z0] at er
  cases er
  obtain ⟨σ', e3, q2⟩ := q1.opt
  cases x0 with
  | un => simp only [asgT] at e3; cases e3
  | mls l => simp only [asgT] at e3; cases e3
  | val d => exact g2 b σV ρ1 F1 H1 s0 d v σ' _ r1 p1 e3 fun σV' r2 _ _ => q2 σV' ρ1 F1 H1 ExS.refl r2
theorem asg_ix {o j : Expr} (h : isSlice j = false) (env : Env) (v : Value) : assign (.Subscript o j py) env v = (do
      let ov ← holding [v] (eval o env)
      let iv ← holding [v, ov] (eval j env)
      standAt py
      holding [v, ov, iv] (setItem ov iv v)
      release [v, ov, iv] []) := by
  cases j <;> first | rfl | (cases h; done)
theorem ss_setix {o j : Expr} (hc : isComp e = false) (hsl : isSlice j = false) (ho : SE g c o i) (hj : SE g c j i2) (ha : SE g c e i3) : SS g c (.Assign [.Subscript o j py] e pos) (.setix i i2 i3) := by
  obtain ⟨t, h1, h2⟩ := ha
  obtain ⟨to, o1, o2⟩ := ho
  obtain ⟨tj, j1, j2⟩ := hj
  refine ⟨L2.tAsg t (L2.gSub to tj L2.rSetL), fun X hX _ => L2.ps_asg (h1 X hX) (L2.pg_sub (o1 X hX) (j1 X hX) L2.set_list (asg_ix hsl _)) (by cases e <;> first | rfl | (cases hc; done)) (by cases e <;> rfl) (by rfl), fun b σV ρ F H s Dn rl h => ?_⟩
  simp only [evS] at h
  refine WS.step rl h (T := fun Q' => t σV H Q') (fun Q' q => h2 _ _ _ _ _ _ _ rl q) fun z s1 v ρ1 F1 H1 _ e1 r1 p1 q1 => ?_
  refine WS.step r1 q1 (T := fun Q' => to σV H1 Q') (fun Q' q => o2 _ _ _ _ _ _ _ r1 q) fun x s2 u ρ2 F2 H2 _ e2 r2 p2 q2 => ?_
  refine WS.step r2 q2 (T := fun Q' => tj σV H2 Q') (fun Q' q => j2 _ _ _ _ _ _ _ r2 q) fun y s3 w ρ3 F3 H3 _ e3 r3 p3 q3 => ?_
  split at q3
  · rename_i m k ex ey
    rw [ex] at p2
    rw [ey] at p3
    have p2' := Rep.mono (e3.toS r2) _ _ p2
    have p1' := Rep.mono ((e2.trans e3).toS r1) _ _ p1
    simp only [Rep] at p2' p3
    obtain ⟨a, z1, rfl⟩ := p2'
    split at q3
    · rename_i l el
      split at q3
      · rename_i jj ej
        obtain ⟨a', vs, z2, z3, z4⟩ := r3.mem m l el
        rw [z1] at z2
        cases z2
        have hm : a ∈ ρ3 := List.mem_of_getElem? z1
        refine ⟨a, vs, k, jj, rfl, p3, z3, by rw [z4.length]; exact ej, ?_⟩
        exact q3 σV ρ3 F3 _ ((exE_set hm z3).toS r3) (r3.setM z1 z3 (Reps.set jj z4 p1') (List.getElem?_eq_some_iff.mp el).1)
      · exact q3.elim
    · exact q3.elim
  · exact q3.elim
theorem ss_aug {x : Str} {o : Operator} {bo : Bop} (hx : slotW c x = some n) (ho : bopO o = some bo) (ha : SE g c e i) : SS g c (.AugAssign (.Name x py) o e pos) (.aug n bo i) := by
  obtain ⟨t, h1, h2⟩ := ha
  obtain ⟨k1, k2, k3, k4⟩ := slotW_of hx
  have none_ : (∀ b σV ρ F H s Dn, Rl g.K g.Tb b σV ρ F H s → WS g.K g.Tb b ρ F H Dn (evS g.C g.D (.aug n bo i) s) → bo = .add ∨ bo = .sub) := fun b σV ρ F H s Dn rl h => by
    simp only [evS] at h
    split at h
    · obtain ⟨y, s1, _, h3⟩ := b2_okS h
      split at h3
      · exact .inl rfl
      · exact .inr rfl
      · exact h3.elim
    · exact h.elim
  cases o <;> first | (cases ho; done) | skip
  all_goals cases ho
  · refine ⟨L2.tAug n t (L2.ipI fun i j => i + j), fun X hX _ => L2.ps_aug (by rw [hX.N]; exact hX.nd) (by rw [hX.N]; exact k1) (by rw [hX.sc]; exact k2) (h1 X hX) L2.ip_add (k4.imp (hX.fn x) (fun q => by rw [hX.sc]; exact q)), fun b σV ρ F H s Dn rl h => ?_⟩
    simp only [evS] at h
    split at h
    · rename_i a ea
      obtain ⟨v, w1, w2⟩ := rl.val n _ ea
      simp only [Rep] at w2
      subst w2
      refine ⟨_, w1, WS.part rl h (T := fun Q' => t σV H Q') (fun Q' q => h2 _ _ _ _ _ _ _ rl q) fun y s1 v ρ1 F1 H1 _ e1 r1 p1 q1 => ?_⟩
      cases y with
      | un => exact q1.elim
      | mls _ => exact q1.elim
      | val d =>
        cases d <;> first | exact q1.elim | skip
        rename_i b' _
        simp only [RepR, Rep] at p1
        refine ⟨a, b', rfl, p1, WS.nx (s := { s1 with σ := s1.σ.set n (.val (.int (a + b'))) }) q1 (r1.put (rv := .val (.int (a + b'))) (by simp only [RepR, Rep]) ?_)⟩
        have := (List.getElem?_eq_some_iff.mp w1).1
        rw [r1.len]; exact this
    · exact h.elim
  · refine ⟨L2.tAug n t (L2.ipI fun i j => i - j), fun X hX _ => L2.ps_aug (by rw [hX.N]; exact hX.nd) (by rw [hX.N]; exact k1) (by rw [hX.sc]; exact k2) (h1 X hX) L2.ip_sub (k4.imp (hX.fn x) (fun q => by rw [hX.sc]; exact q)), fun b σV ρ F H s Dn rl h => ?_⟩
    simp only [evS] at h
    split at h
    · rename_i a ea
      obtain ⟨v, w1, w2⟩ := rl.val n _ ea
      simp only [Rep] at w2
      subst w2
      refine ⟨_, w1, WS.part rl h (T := fun Q' => t σV H Q') (fun Q' q => h2 _ _ _ _ _ _ _ rl q) fun y s1 v ρ1 F1 H1 _ e1 r1 p1 q1 => ?_⟩
      cases y with
      | un => exact q1.elim
      | mls _ => exact q1.elim
      | val d =>
        cases d <;> first | exact q1.elim | skip
        rename_i b' _
        simp only [RepR, Rep] at p1
        refine ⟨a, b', rfl, p1, WS.nx (s := { s1 with σ := s1.σ.set n (.val (.int (a - b'))) }) q1 (r1.put (rv := .val (.int (a - b'))) (by simp only [RepR, Rep]) ?_)⟩
        have := (List.getElem?_eq_some_iff.mp w1).1
        rw [r1.len]; exact this
    · exact h.elim
  all_goals exact ⟨L2.tNever, fun X hX _ => L2.ps_never, fun b σV ρ F H s Dn rl h => by
    rcases none_ b σV ρ F H s Dn rl h with z | z <;> cases z⟩
theorem ss_app {x : Str} {ap cp p1 : Pos} (hx : slotR c x = some n) (hl : (ap.endLine == cp.line) = true) (hs : isStar e = false) (ha : SE g c e i) : SS g c (.Expr (.Call (.Attribute (.Name x p1) "append" ap) [e] [] cp) pos) (.app n i) := by
  obtain ⟨t, h1, h2⟩ := ha
  obtain ⟨k1, k2, k3⟩ := slotR_of hx
  obtain ⟨o1, o2, _⟩ := okName_of k3
  refine ⟨L2.tDrop (L2.tBM g.K "list" L2.rAppend (L2.tVar n) (L2.tCons t L2.tNil)), fun X hX _ => ?_, fun b σV ρ F H s Dn rl h => ?_⟩
  · rw [← hX.K]
    exact L2.ps_expr (L2.pe_bm PySem.F.plainAttrs_list PySem.F.slot_list_append PySem.F.type_list_append L2.mt_append (L2.pe_var (by rw [hX.N]; exact k1) (by rw [hX.sc]; exact k2) o1 o2) (L2.pa_cons (h1 X hX) L2.pa_nil (star_no hs _ _))
      (by rfl) (by rw [star_no hs]; rfl) hl (star_no hs _ _) (by rfl)) (by rfl)
  · simp only [evS] at h
    obtain ⟨hL, h3⟩ := h.ite
    unfold isL at hL
    split at hL
    · rename_i l0 el0
      obtain ⟨a, vs, w1, w2⟩ := rl.own n l0 el0
      refine ⟨.ref a, w1, tyl w2.at_, ?_⟩
      refine WS.step rl h3 (T := fun Q' => t σV H Q') (fun Q' q => h2 _ _ _ _ _ _ _ rl q) fun y s1 v ρ1 F1 H1 _ e1 r1 p1 q1 => ?_
      split at q1
      · rename_i l el
        obtain ⟨hz, q2⟩ := q1.ite
        obtain ⟨a', vs', w3, w4⟩ := r1.own n l el
        rw [w1] at w3
        cases w3
        obtain ⟨r2, x2⟩ := r1.setOwn (l' := l ++ [y.fz]) (ws := vs' ++ [v]) el w1 w4 (Reps.append w4.reps (Reps.one p1))
        refine ⟨a, vs', v, rfl, rfl, w4.at_, ?_, q2 σV ρ1 F1 _ x2 r2⟩
        rw [w4.reps.length]; exact hz
      · rename_i m em
        obtain ⟨u, w3, w4⟩ := r1.val n _ em
        rw [w1] at w3
        cases w3
        simp only [Rep] at w4
        obtain ⟨c', w5, w6⟩ := w4
        cases w6
        have hin : a ∈ ρ1 := List.mem_of_getElem? w5
        rcases e1.rn a hin with z | z
        · exact (w2.nr z).elim
        · rw [w2.at_] at z; cases z
      · exact q1.elim
    · rename_i m em
      obtain ⟨u, w1, w2⟩ := rl.val n _ em
      simp only [Rep] at w2
      obtain ⟨a, w3, rfl⟩ := w2
      have hm0 := of_decide_eq_true hL
      obtain ⟨a', vs0, w4, w5, _⟩ := rl.mem m s.M[m] (by simp [hm0])
      rw [w3] at w4
      cases w4
      refine ⟨.ref a, w1, tyl w5, ?_⟩
      refine WS.step rl h3 (T := fun Q' => t σV H Q') (fun Q' q => h2 _ _ _ _ _ _ _ rl q) fun y s1 v ρ1 F1 H1 _ e1 r1 p1 q1 => ?_
      split at q1
      · rename_i l el
        obtain ⟨a', vs', z3, z4⟩ := r1.own n l el
        rw [w1] at z3
        cases z3
        exact (z4.nr (List.mem_of_getElem? (e1.pre m a w3))).elim
      · rename_i m' em'
        obtain ⟨u, z3, z4⟩ := r1.val n _ em'
        rw [w1] at z3
        cases z3
        simp only [Rep] at z4
        obtain ⟨c', z5, z6⟩ := z4
        cases z6
        split at q1
        · rename_i l el
          obtain ⟨hz, q2⟩ := q1.ite
          obtain ⟨c2, vs', z7, z8, z9⟩ := r1.mem m' l el
          rw [z5] at z7
          cases z7
          have hm : a ∈ ρ1 := List.mem_of_getElem? z5
          refine ⟨a, vs', v, rfl, rfl, z8, ?_, q2 σV ρ1 F1 _ ((exE_set hm z8).toS r1) (r1.setM z5 z8 (Reps.append z9 (Reps.one p1)) (List.getElem?_eq_some_iff.mp el).1)⟩
          rw [z9.length]; exact hz
        · exact q1.elim
      · exact q1.elim
    · cases hL
theorem ss_ext {x : Str} {ap cp p1 : Pos} (hx : slotR c x = some n) (hl : (ap.endLine == cp.line) = true) (hs : isStar e = false) (ha : SE g c e i) : SS g c (.Expr (.Call (.Attribute (.Name x p1) "extend" ap) [e] [] cp) pos) (.ext n i) := by
  obtain ⟨t, h1, h2⟩ := ha
  obtain ⟨k1, k2, k3⟩ := slotR_of hx
  obtain ⟨o1, o2, _⟩ := okName_of k3
  refine ⟨L2.tDrop (L2.tBM g.K "list" L2.rExtend (L2.tVar n) (L2.tCons t L2.tNil)), fun X hX _ => ?_, fun b σV ρ F H s Dn rl h => ?_⟩
  · rw [← hX.K]
    exact L2.ps_expr (L2.pe_bm PySem.F.plainAttrs_list PySem.F.slot_list_extend PySem.F.type_list_extend L2.mt_extend (L2.pe_var (by rw [hX.N]; exact k1) (by rw [hX.sc]; exact k2) o1 o2) (L2.pa_cons (h1 X hX) L2.pa_nil (star_no hs _ _))
      (by rfl) (by rw [star_no hs]; rfl) hl (star_no hs _ _) (by rfl)) (by rfl)
  · simp only [evS] at h
    obtain ⟨hL, h3⟩ := h.ite
    obtain ⟨y0, s0, z0, h0⟩ := b2_okS h3
    unfold isL at hL
    split at hL
    · rename_i l0 el0
      obtain ⟨a, vs, w1, w2⟩ := rl.own n l0 el0
      refine ⟨.ref a, w1, tyl w2.at_, ?_⟩
      refine WS.part rl h3 (T := fun Q' => t σV H Q') (fun Q' q => h2 _ _ _ _ _ _ _ rl q) fun y s1 v ρ1 F1 H1 _ e1 r1 p1 q1 => ?_
      split at q1
      · rename_i l z el _
        obtain ⟨hz, q2⟩ := q1.ite
        obtain ⟨a', vs', w3, w4⟩ := r1.own n l el
        rw [w1] at w3
        cases w3
        obtain ⟨d, us, rfl, w5, w6⟩ := p1
        obtain ⟨r2, x2⟩ := r1.setOwn (l' := l ++ z) (ws := vs' ++ us) el w1 w4 (Reps.append w4.reps w5.reps)
        refine ⟨a, d, vs', us, rfl, rfl, w4.at_, w5.at_, ?_, q2 σV ρ1 F1 _ x2 r2⟩
        rw [w4.reps.length, w5.reps.length]; exact hz
      · exact q1.elim
    · rename_i m em
      obtain ⟨u, w1, w2⟩ := rl.val n _ em
      simp only [Rep] at w2
      obtain ⟨a, w3, rfl⟩ := w2
      have hm0 := of_decide_eq_true hL
      obtain ⟨a', vs0, w4, w5, _⟩ := rl.mem m s.M[m] (by simp [hm0])
      rw [w3] at w4
      cases w4
      refine ⟨.ref a, w1, tyl w5, ?_⟩
      refine WS.part rl h3 (T := fun Q' => t σV H Q') (fun Q' q => h2 _ _ _ _ _ _ _ rl q) fun y s1 v ρ1 F1 H1 _ e1 r1 p1 q1 => ?_
      split at q1
      · rename_i l z el _
        obtain ⟨a', vs', z3, z4⟩ := r1.own n l el
        rw [w1] at z3
        cases z3
        exact (z4.nr (List.mem_of_getElem? (e1.pre m a w3))).elim
      · exact q1.elim
    · cases hL
end
end Ev


set_option Elab.async false
set_option linter.all false
set_option maxRecDepth 100000
set_option maxHeartbeats 1000000
/-! EvM: statements, the rest. -/
namespace Ev
open PySem
open L2 (V Hp HO SqL SqT Rd upd upd_same upd_ne Same TE VK TS Ends PE PT PW PA PI PG PS PSs TG XK Sp FnOk Binds Room CX0 E0 Cx)
section
variable {g : Gd} {c : Cc} {pos py : Pos} {tgE e e2 e3 it elt : Expr} {st : Stmt} {sts a2 b2 : List Stmt} {i i2 i3 el : E} {tg : Tg} {ta tb : Ts} {t0 : T} {ii : I} {cn : B} {n : Nat}
theorem ss_ex (hs : ∀ t l env, swapsWith e t l env = pure false) (ha : SE g c e i) : SS g c (.Expr e pos) (.ex i) := by
  obtain ⟨t, h1, h2⟩ := ha
  refine ⟨L2.tDrop t, fun X hX _ => L2.ps_expr (h1 X hX) (hs _ _ _), fun b σV ρ F H s Dn rl h => ?_⟩
  simp only [evS] at h
  exact WS.step rl h (T := fun Q' => t σV H Q') (fun Q' q => h2 _ _ _ _ _ _ _ rl q) fun y s1 v ρ1 F1 H1 _ e1 r1 p1 q1 => q1.nx r1
theorem ss_ret (ha : SE g c e i) : SS g c (.Return (some e) pos) (.ret i) := by
  obtain ⟨t, h1, h2⟩ := ha
  refine ⟨L2.tRet t, fun X hX _ => L2.ps_ret (h1 X hX), fun b σV ρ F H s Dn rl h => ?_⟩
  simp only [evS] at h
  refine WS.part rl h (T := fun Q' => t σV H Q') (fun Q' q => h2 _ _ _ _ _ _ _ rl q) fun y s1 v ρ1 F1 H1 _ e1 r1 p1 q1 => ?_
  exact q1 σV v ρ1 F1 H1 ExS.refl r1 p1
theorem ss_rtv {x : Str} (hx : slotR c x = some n) : SS g c (.Return (some (.Name x py)) pos) (.rtv n) := by
  obtain ⟨k1, k2, k3⟩ := slotR_of hx
  obtain ⟨o1, o2, _⟩ := okName_of k3
  refine ⟨L2.tRet (L2.tVar n), fun X hX _ => L2.ps_ret (L2.pe_var (by rw [hX.N]; exact k1) (by rw [hX.sc]; exact k2) o1 o2), fun b σV ρ F H s Dn rl h => ?_⟩
  simp only [evS] at h
  split at h
  · rename_i d e
    obtain ⟨v, q, p⟩ := rl.val n d e
    exact ⟨v, q, h σV v ρ F H ExS.refl rl p⟩
  · rename_i l e
    obtain ⟨a, vs, q, o⟩ := rl.own n l e
    have r1 : Rl g.K g.Tb b σV ρ F H { s with σ := s.σ.set n .un } := rl.slots (by simp) fun j x h => by
      rcases get_set h with ⟨rfl, z⟩ | ⟨ne, z⟩
      · exact .inl z
      · exact .inr (.inl z)
    refine ⟨_, q, h σV (.ref a) ρ F H ExS.refl r1 ⟨a, vs, rfl, o, fun j l' e1 e2 => ?_⟩⟩
    rcases get_set e1 with ⟨rfl, z⟩ | ⟨ne, z⟩
    · cases z
    · exact ne (rl.apart n j l l' a e z q e2)
  · exact h.elim
theorem ss_retn : SS g c (.Return none pos) .retn := ⟨L2.tRetN, fun _ _ _ => L2.ps_retN, fun b σV ρ F H s Dn rl h => by
  simp only [evS] at h
  exact h σV .non ρ F H ExS.refl rl (by simp only [RepR, Rep])⟩
theorem ss_pass : SS g c (.Pass pos) .pass := ⟨_, fun _ _ _ => L2.ps_pass, fun b σV ρ F H s Dn rl h => by
  simp only [evS] at h
  exact h.nx rl⟩
theorem ss_brk : SS g c (.Break pos) .brk := ⟨_, fun _ _ _ => L2.ps_break, fun b σV ρ F H s Dn rl h => by
  simp only [evS] at h
  exact h σV ρ F H ExS.refl rl⟩
theorem ss_cnt : SS g c (.Continue pos) .cnt := ⟨_, fun _ _ _ => L2.ps_continue, fun b σV ρ F H s Dn rl h => by
  simp only [evS] at h
  exact h σV ρ F H ExS.refl rl⟩
theorem sss_nil : SSs g c [] .nil := ⟨_, fun _ _ _ => L2.pss_nil, fun b σV ρ F H s Dn rl h => by
  simp only [evSs] at h
  exact h.nx rl⟩
/-- a statement ahead of others -/
theorem ws_seq {K : PySem.W.Frag} {Tb : Addr → Prop} {b : Bx} {ρ : List Addr} {F : Addr → Prop} {H : Hp} {Dn : Ends} {r : Res (Out × S)} {f : S → Res (Out × S)} {N : L2.St → Hp → Prop}
    (h : WS K Tb b ρ F H Dn (r.b2 fun o s => match o with | .nx => f s | o => .ok (o, s)))
    (hn : ∀ s1 σV1 ρ1 F1 H1, r = .ok (.nx, s1) → ExS ρ F H ρ1 F1 H1 → Rl K Tb b σV1 ρ1 F1 H1 s1 → WS K Tb b ρ1 F1 H1 Dn (f s1) → N σV1 H1) : WS K Tb b ρ F H { Dn with nx := N } r := by
  cases r with
  | exc _ => exact h.elim
  | bad => exact h.elim
  | ok p =>
    obtain ⟨o, s1⟩ := p
    cases o with
    | nx => exact fun σV1 ρ1 F1 H1 x q => hn s1 σV1 ρ1 F1 H1 rfl x q (WS.later h x)
    | brk => exact h
    | cnt => exact h
    | ret rv => exact h
theorem sss_cons (ha : SS g c st t0) (hb : SSs g c sts ta) : SSs g c (st :: sts) (.cons t0 ta) := by
  obtain ⟨t, h1, h2⟩ := ha
  obtain ⟨u, h3, h4⟩ := hb
  refine ⟨L2.tSeq t u, fun X hX hp => L2.pss_cons (h1 X hX hp) (h3 X hX hp), fun b σV ρ F H s Dn rl h => ?_⟩
  simp only [evSs] at h
  exact h2 b σV ρ F H s { Dn with nx := fun σ' H' => u Dn σ' H' } rl (ws_seq h fun s1 σV1 ρ1 F1 H1 _ x r1 w => h4 b σV1 ρ1 F1 H1 s1 Dn r1 w)
theorem ss_if {t1 : B} (hc : SB g c e t1) (ha : SSs g c a2 ta) (hb : SSs g c b2 tb) : SS g c (.If e a2 b2 pos) (.iff t1 ta tb) := by
  obtain ⟨t, h1, h2⟩ := hc
  obtain ⟨u, h3, h4⟩ := ha
  obtain ⟨w, h5, h6⟩ := hb
  refine ⟨L2.tIfS t u w, fun X hX hp => L2.ps_if (h1 X hX) (h3 X hX hp) (h5 X hX hp), fun b σV ρ F H s Dn rl h => ?_⟩
  simp only [evS] at h
  refine WS.part rl h (T := fun Q' => t σV H Q') (fun Q' q => h2 _ _ _ _ _ _ _ rl q) fun k s1 k' ρ1 F1 H1 _ e1 r1 p1 q1 => ?_
  subst p1
  cases k' with
  | true => rw [if_pos rfl]; exact h4 _ _ _ _ _ _ _ r1 q1
  | false => rw [if_neg (by decide)]; exact h6 _ _ _ _ _ _ _ r1 q1
/-- one turn of a loop -/
theorem ws_turn {K : PySem.W.Frag} {Tb : Addr → Prop} {b : Bx} {ρ : List Addr} {F : Addr → Prop} {H : Hp} {Dn : Ends} {r : Res (Out × S)} {f : S → Res (Out × S)} {N : L2.St → Hp → Prop}
    (h : WS K Tb b ρ F H Dn (r.b2 fun o s => match o with | .nx => f s | .cnt => f s | .brk => .ok (.nx, s) | .ret r => .ok (.ret r, s)))
    (hn : ∀ s1 σV1 ρ1 F1 H1, ExS ρ F H ρ1 F1 H1 → Rl K Tb b σV1 ρ1 F1 H1 s1 → WS K Tb b ρ1 F1 H1 Dn (f s1) → N σV1 H1) : WS K Tb b ρ F H { Dn with nx := N, ct := N, bk := Dn.nx } r := by
  cases r with
  | exc _ => exact h.elim
  | bad => exact h.elim
  | ok p =>
    obtain ⟨o, s1⟩ := p
    cases o with
    | nx => exact fun σV1 ρ1 F1 H1 x q => hn s1 σV1 ρ1 F1 H1 x q (WS.later h x)
    | brk => exact h
    | cnt => exact fun σV1 ρ1 F1 H1 x q => hn s1 σV1 ρ1 F1 H1 x q (WS.later h x)
    | ret rv => exact h
theorem ss_fr (hi : SI g c tgE it ii) (hset : isSet it = false) (hg : STg g c tgE tg) (hb : SSs g c a2 ta) : SS g c (.For tgE it a2 [] pos) (.fr tg ii ta) := by
  obtain ⟨wi, i1, i2⟩ := hi
  obtain ⟨gt, g1, g2⟩ := hg
  obtain ⟨u, h3, h4⟩ := hb
  refine ⟨L2.tFor wi gt u, fun X hX hp => L2.ps_for hp hX.calm (i1 X hX) (g1 X hX) (h3 X hX hp) (set_iter hset _), fun b σV ρ F H s Dn rl h => ?_⟩
  simp only [evS] at h
  refine WS.part rl h (T := fun Q' => wi σV H Q') (fun Q' q => i2 _ _ _ _ _ _ _ rl q) fun l s1 J ρ1 F1 H1 _ x1 r1 itok q1 => ?_
  obtain ⟨G, Y, w, hG, hY⟩ := itok.ex
  let stp : D → S → Res (Out × S) := fun x s => (opt (asgT tg (.val x) s.σ)).bind fun σ => evSs g.C g.D ta { s with σ := σ }
  refine L2.for_it w (fun n σc Hc => ∃ ρ F t, ExS ρ1 F1 H1 ρ F Hc ∧ Rl g.K g.Tb b σc ρ F Hc t ∧ WS g.K g.Tb b ρ F Hc Dn (forL stp (l.drop n) t)) ⟨ρ1, F1, s1, ExS.refl, r1, q1⟩ (fun n σc Hc _ ⟨ρ, F, t, x, _⟩ => hG ρ F Hc x) ?_ ?_
  · rintro n y σc Hc Hc' hn ⟨ρ, F, t, x, r, hw⟩ hy
    have dn : l[n]? = some l[n] := by simp [hn]
    obtain ⟨sm, rep⟩ := hY ρ F Hc n y Hc' l[n] x hy dn
    have dr : l.drop n = l[n] :: l.drop (n + 1) := List.drop_eq_getElem_cons hn
    rw [dr] at hw
    simp only [forL] at hw
    have hw2 : WS g.K g.Tb b ρ F Hc' Dn ((stp l[n] t).b2 fun o s => match o with | .nx => forL stp (l.drop (n + 1)) s | .cnt => forL stp (l.drop (n + 1)) s | .brk => .ok (.nx, s) | .ret r => .ok (.ret r, s)) := WS.later hw (ExS.same sm)
    have r' := r.same sm
    cases z : asgT tg (.val l[n]) t.σ with
    | none =>
      have : stp l[n] t = .bad := by show (opt (asgT tg (.val l[n]) t.σ)).bind _ = _; rw [z]; rfl
      rw [this] at hw2
      exact hw2.elim
    | some σ1 =>
      have e9 : stp l[n] t = evSs g.C g.D ta { t with σ := σ1 } := by show (opt (asgT tg (.val l[n]) t.σ)).bind _ = _; rw [z]; rfl
      rw [e9] at hw2
      refine g2 b σc ρ F Hc' t l[n] y σ1 _ r' rep z fun σV2 rl2 o2 l2 => ?_
      refine h4 b σV2 ρ F Hc' { t with σ := σ1 } _ rl2 (ws_turn hw2 fun s2 σV3 ρ3 F3 H3 x3 r3 w3 => ?_)
      exact ⟨ρ3, F3, s2, (x.trans (ExS.same sm)).trans x3, r3, w3⟩
  · rintro σc Hc ⟨ρ, F, t, x, r, hw⟩
    rw [List.drop_length] at hw
    simp only [forL] at hw
    exact hw.nx r
theorem ss_wh {t1 : B} (hc : SB g c e t1) (hb : SSs g c a2 ta) : SS g c (.While e a2 [] pos) (.wh t1 ta) := by
  obtain ⟨tc, h1, h2⟩ := hc
  obtain ⟨u, h3, h4⟩ := hb
  refine ⟨L2.tWhile tc u, fun X hX hp => L2.ps_while hp (h1 X hX) (h3 X hX hp), fun b σV ρ F H s Dn rl h => ?_⟩
  simp only [evS] at h
  refine ⟨fun m σc Hc => ∃ ρ F t, Rl g.K g.Tb b σc ρ F Hc t ∧ WS g.K g.Tb b ρ F Hc Dn (whL (evB g.C g.D t1) (evSs g.C g.D ta) m t), ⟨whMost, ρ, F, s, rl, h⟩, ?_⟩
  rintro m σc Hc ⟨ρ, F, t, r, hw⟩
  cases m with
  | zero => exact hw.elim
  | succ m =>
    simp only [whL] at hw
    refine WS.part r hw (T := fun Q' => tc σc Hc Q') (fun Q' q => h2 _ _ _ _ _ _ _ r q) fun k s1 k' ρ1 F1 H1 _ e1 r1 p1 q1 => ?_
    subst p1
    cases k' with
    | false => rw [if_neg (by decide)] at q1 ⊢; exact q1.nx r1
    | true =>
      rw [if_pos rfl] at q1 ⊢
      refine ⟨fun σ' H' => ∃ ρ F t, Rl g.K g.Tb b σ' ρ F H' t ∧ WS g.K g.Tb b ρ F H' Dn (whL (evB g.C g.D t1) (evSs g.C g.D ta) m t), fun σ' H' hN => ⟨m, Nat.lt_succ_self m, hN⟩, ?_⟩
      exact h4 b σc ρ1 F1 H1 s1 _ r1 (ws_turn q1 fun s2 σV3 ρ3 F3 H3 x3 r3 w3 => ⟨ρ3, F3, s2, r3, w3⟩)
end
end Ev


set_option Elab.async false
set_option linter.all false
set_option maxRecDepth 100000
set_option maxHeartbeats 4000000
/-! EvN: what the way from the syntax yields stands for the code. -/
namespace Ev
open PySem
open L2 (V Hp HO Cx)
theorem bnd {α β : Type} {o : Option α} {f : α → Option β} {b : β} (h : o.bind f = some b) : ∃ a, o = some a ∧ f a = some b := by
  cases o with
  | none => cases h
  | some a => exact ⟨a, rfl, h⟩
theorem mpd {α β : Type} {o : Option α} {f : α → β} {b : β} (h : o.map f = some b) : ∃ a, o = some a ∧ f a = b := by
  cases o with
  | none => cases h
  | some a => exact ⟨a, rfl, Option.some.inj h⟩
theorem itp {α : Type} {p : Prop} [Decidable p] {x y : Option α} {b : α} (h : (if p then x else y) = some b) : (p ∧ x = some b) ∨ (¬ p ∧ y = some b) := by
  by_cases k : p
  · rw [if_pos k] at h; exact .inl ⟨k, h⟩
  · rw [if_neg k] at h; exact .inr ⟨k, h⟩
section
variable {g : Gd} {c : Cc}
theorem tg_ok : ∀ (n : Nat), (∀ (e : Expr) (t : Tg), cTg c n e = some t → STg g c e t ∧ isStar e = false) ∧ (∀ (es : List Expr) (ts : Tgs), cTgs c n es = some ts → STgs g c es ts ∧ es.all (fun e => !isStar e) = true ∧ es.length = lenTgs ts)
  | 0 => by
    refine ⟨fun e t h => ?_, fun es ts h => ?_⟩
    · have z : cTg c 0 e = none := by cases e <;> rfl
      rw [z] at h; cases h
    · have z : cTgs c 0 es = none := by cases es <;> rfl
      rw [z] at h; cases h
  | n + 1 => by
    obtain ⟨h1, h2⟩ := tg_ok n
    refine ⟨fun e t h => ?_, fun es ts h => ?_⟩
    · unfold cTg at h
      split at h
      · obtain ⟨i, e1, e2⟩ := mpd h
        subst e2
        exact ⟨stg_nm e1, rfl⟩
      · rename_i hz
        obtain ⟨i, e1, e2⟩ := mpd h
        subst e2
        cases hz
        obtain ⟨k1, k2, k3⟩ := h2 _ _ e1
        exact ⟨stg_tp k2 k3 k1, rfl⟩
      · cases h
    · unfold cTgs at h
      split at h
      · cases h
        exact ⟨stgs_nil, rfl, rfl⟩
      · rename_i hz
        cases hz
        obtain ⟨t, e1, e2⟩ := bnd h
        obtain ⟨us, e3, e4⟩ := mpd e2
        subst e4
        obtain ⟨k1, k2⟩ := h1 _ _ e1
        obtain ⟨k3, k4, k5⟩ := h2 _ _ e3
        refine ⟨stgs_cons k2 k1 k3, ?_, ?_⟩
        · simp only [List.all_cons, k2, k4, Bool.not_false, Bool.true_and]
        · simp only [List.length_cons, k5, lenTgs]
      · cases h
end
structure Ok (g : Gd) (gt : List (Str × Gv)) (n : Nat) : Prop where
  e : ∀ (c : Cc) x i, c.gt = gt → cE n c x = some i → SE g c x i
  es : ∀ (c : Cc) xs is, c.gt = gt → cEs n c xs = some is → SEs g c xs is ∧ lenEs is = xs.length ∧ xs.all (fun e => !isStar e) = true
  ps : ∀ (c : Cc) ks vs is, c.gt = gt → cPs n c ks vs = some is → SPs g c ks vs is
  o : ∀ (c : Cc) x i, c.gt = gt → cO n c x = some i → SO g c x i
  b : ∀ (c : Cc) x i, c.gt = gt → cB n c x = some i → SB g c x i
  w : ∀ (c : Cc) op r p i, c.gt = gt → cB n c (.BoolOp op r p) = some i → SW g c (.BoolOp op r p) i
  k : ∀ (c : Cc) a os bs p i, c.gt = gt → cE n c (.Compare a os bs p) = some i → SB g c (.Compare a os bs p) (.of i)
  i : ∀ (c : Cc) tg x i, c.gt = gt → cI n c tg x = some i → SI g c tg x i ∧ isSet x = false
section
variable {g : Gd} {gt : List (Str × Gv)} {n : Nat} {c : Cc}
theorem es_call (gk : GOk g gt) (hc : c.gt = gt) {f : Str} {i ar : Nat} {es : List Expr} {is : Es} {p pos : Pos} (hf : globV c f = some (.fn i ar)) (har : ar = es.length) (h : SEs g c es is ∧ lenEs is = es.length ∧ es.all (fun e => !isStar e) = true) :
    SE g c (.Call (.Name f p) es [] pos) (.call i is) :=
  se_call gk hc hf (har.trans h.2.1.symm) (fun e => by
    subst e
    cases is with
    | nil => rfl
    | cons a b => have := h.2.1; simp [lenEs] at this) h.2.2 h.1
theorem isTup_of {e : Expr} (h : isTup e = true) : ∃ es k p, e = .Tuple es k p := by
  cases e <;> first | (cases h; done) | exact ⟨_, _, _, rfl⟩
theorem ok_es (I : Ok g gt n) (c : Cc) (xs : List Expr) (is : Es) (hc : c.gt = gt) (h : cEs (n + 1) c xs = some is) : SEs g c xs is ∧ lenEs is = xs.length ∧ xs.all (fun e => !isStar e) = true := by
  unfold cEs at h
  split at h
  · cases h; exact ⟨ses_nil, rfl, rfl⟩
  · rename_i hz
    cases hz
    rcases itp h with ⟨_, z⟩ | ⟨hs, z⟩
    · cases z
    · obtain ⟨e1, h1, h2⟩ := bnd z
      obtain ⟨e2, h3, h4⟩ := mpd h2
      subst h4
      obtain ⟨k1, k2, k3⟩ := I.es _ _ _ hc h3
      have hs' := Bool.eq_false_iff.mpr hs
      exact ⟨ses_cons hs' (I.e _ _ _ hc h1) k1, by simp only [lenEs, List.length_cons, k2], by simp only [List.all_cons, hs', k3, Bool.not_false, Bool.true_and]⟩
  · cases h
theorem ok_ps (I : Ok g gt n) (c : Cc) (ks : List (Option Expr)) (vs : List Expr) (is : Es) (hc : c.gt = gt) (h : cPs (n + 1) c ks vs = some is) : SPs g c ks vs is := by
  unfold cPs at h
  split at h
  · cases h; exact sps_nil
  · rename_i hz
    cases hz
    obtain ⟨e1, h1, h2⟩ := bnd h
    obtain ⟨e2, h3, h4⟩ := bnd h2
    obtain ⟨e3, h5, h6⟩ := mpd h4
    subst h6
    exact sps_cons (I.e _ _ _ hc h1) (I.e _ _ _ hc h3) (I.ps _ _ _ _ hc h5)
  · cases h
theorem ok_o (I : Ok g gt n) (c : Cc) (x : Option Expr) (i : E) (hc : c.gt = gt) (h : cO (n + 1) c x = some i) : SO g c x i := by
  unfold cO at h
  split at h
  · cases h; exact so_none
  · rename_i hz
    cases hz
    obtain ⟨e1, h1, h2⟩ := bnd h
    rcases itp h2 with ⟨_, z⟩ | ⟨hn, z⟩
    · cases z
    · cases z
      exact so_some (Bool.eq_false_iff.mpr hn) (I.e _ _ _ hc h1)
  · cases h
theorem ok_i (gk : GOk g gt) (I : Ok g gt n) (c : Cc) (tg x : Expr) (i : Ev.I) (hc : c.gt = gt) (h : cI (n + 1) c tg x = some i) : SI g c tg x i ∧ isSet x = false := by
  unfold cI at h
  split at h
  · rename_i hz
    cases hz
    refine ⟨?_, rfl⟩
    rcases itp h with ⟨hr, z⟩ | ⟨_, z⟩
    · split at z
      · rcases itp z with ⟨_, z⟩ | ⟨hs, z⟩
        · cases z
        · obtain ⟨e1, h1, h2⟩ := mpd z
          subst h2
          exact si_rng1 gk hc hr (Bool.eq_false_iff.mpr hs) (I.e _ _ _ hc h1)
      · rcases itp z with ⟨_, z⟩ | ⟨hs, z⟩
        · cases z
        · obtain ⟨e1, h1, h2⟩ := bnd z
          obtain ⟨e2, h3, h4⟩ := mpd h2
          subst h4
          simp only [Bool.or_eq_true, not_or, Bool.not_eq_true] at hs
          exact si_rng2 gk hc hr hs.1 hs.2 (I.e _ _ _ hc h1) (I.e _ _ _ hc h3)
      · rcases itp z with ⟨_, z⟩ | ⟨hs, z⟩
        · cases z
        · obtain ⟨e1, h1, h2⟩ := bnd z
          obtain ⟨e2, h3, h4⟩ := bnd h2
          obtain ⟨e3, h5, h6⟩ := mpd h4
          subst h6
          simp only [Bool.or_eq_true, not_or, Bool.not_eq_true] at hs
          exact si_rng3 gk hc hr hs.1.1 hs.1.2 hs.2 (I.e _ _ _ hc h1) (I.e _ _ _ hc h3) (I.e _ _ _ hc h5)
      · cases z
    · rcases itp z with ⟨hr, z⟩ | ⟨_, z⟩
      · split at z
        · rcases itp z with ⟨_, z⟩ | ⟨hs, z⟩
          · cases z
          · obtain ⟨e1, h1, h2⟩ := mpd z
            subst h2
            simp only [not_or, Bool.not_eq_true, Bool.not_eq_false] at hs
            obtain ⟨hs1, hs2⟩ := hs
            obtain ⟨es, kk, pt, ht⟩ := isTup_of hs2
            subst ht
            exact si_enm gk hc hr hs1 (I.e _ _ _ hc h1)
        · cases z
      · obtain ⟨e1, h1, h2⟩ := mpd z
        subst h2
        exact si_of (I.e _ _ _ hc h1)
  · rename_i hk hz
    cases hk
    rcases itp h with ⟨_, z⟩ | ⟨hs, z⟩
    · cases z
    · obtain ⟨e1, h1, h2⟩ := mpd z
      subst h2
      exact ⟨si_of (I.e _ _ _ hc h1), Bool.eq_false_iff.mpr hs⟩
  · cases h
theorem cE_no {o : BoolOp} {p : Pos} : ∀ (n : Nat) (c : Cc), cE n c (.BoolOp o [] p) = none ∧ ∀ a, cE n c (.BoolOp o [a] p) = none
  | 0, _ => ⟨by cases o <;> rfl, fun a => by cases o <;> rfl⟩
  | n + 1, _ => ⟨by cases o <;> rfl, fun a => by cases o <;> rfl⟩
theorem ok_w (I : Ok g gt n) (c : Cc) (op : BoolOp) (r : List Expr) (p : Pos) (i : B) (hc : c.gt = gt) (h : cB (n + 1) c (.BoolOp op r p) = some i) : SW g c (.BoolOp op r p) i := by
  unfold cB at h
  cases op
  all_goals
    match r, h with
    | [], h =>
      dsimp only at h
      rw [(cE_no n c).1] at h
      cases h
    | [a], h =>
      dsimp only at h
      rw [(cE_no n c).2] at h
      cases h
    | [a, b], h =>
      obtain ⟨e1, h1, h2⟩ := bnd h
      obtain ⟨e2, h3, h4⟩ := mpd h2
      subst h4
      first
        | exact sw_and (I.b c _ _ hc h1) (sw_and1 (I.b c _ _ hc h3))
        | exact sw_or (I.b c _ _ hc h1) (sw_or1 (I.b c _ _ hc h3))
    | a :: b :: d :: r, h =>
      obtain ⟨e1, h1, h2⟩ := bnd h
      obtain ⟨e2, h3, h4⟩ := mpd h2
      subst h4
      first
        | exact sw_and (I.b c _ _ hc h1) (I.w c _ _ _ _ hc h3)
        | exact sw_or (I.b c _ _ hc h1) (I.w c _ _ _ _ hc h3)
theorem ok_b (I : Ok g gt n) (c : Cc) (x : Expr) (i : B) (hc : c.gt = gt) (h : cB (n + 1) c x = some i) : SB g c x i := by
  have of_ : ∀ e, plainT e = true → (cE n c e).map B.of = some i → SB g c e i := fun e hp h => by
    obtain ⟨e1, h1, h2⟩ := mpd h
    subst h2
    exact sb_of hp (I.e c _ _ hc h1)
  cases x with
  | BoolOp op r p => exact (ok_w I c op r p i hc h).b
  | UnaryOp o a p =>
    unfold cB at h
    cases o <;> first | exact of_ _ rfl h | skip
    obtain ⟨e1, h1, h2⟩ := mpd h
    subst h2
    exact sb_not (I.b c _ _ hc h1)
  | IfExp a b d p => unfold cB at h; cases h
  | Compare a os bs p =>
    unfold cB at h
    obtain ⟨e1, h1, h2⟩ := mpd h
    subst h2
    exact I.k c _ _ _ _ _ hc h1
  | NamedExpr a b p =>
    unfold cB at h
    obtain ⟨e1, h1, h2⟩ := mpd h
    exfalso
    cases n <;> cases h1
  | _ => unfold cB at h; exact of_ _ rfl h
theorem ok_k (I : Ok g gt n) (c : Cc) (a : Expr) (os : List CmpOp) (bs : List Expr) (p : Pos) (i : E) (hc : c.gt = gt) (h : cE (n + 1) c (.Compare a os bs p) = some i) : SB g c (.Compare a os bs p) (.of i) ∧ SE g c (.Compare a os bs p) i := by
  have gen : ∀ o b, (if isSet b = true then none else (copO o).bind fun o => (cE n c a).bind fun a => (cE n c b).map fun b => E.cmp o a b) = some i → SB g c (.Compare a [o] [b] p) (.of i) ∧ SE g c (.Compare a [o] [b] p) i := fun o b h => by
    rcases itp h with ⟨_, z⟩ | ⟨hs, z⟩
    · cases z
    · obtain ⟨o1, h1, h2⟩ := bnd z
      obtain ⟨e1, h3, h4⟩ := bnd h2
      obtain ⟨e2, h5, h6⟩ := mpd h4
      subst h6
      have hs' := Bool.eq_false_iff.mpr hs
      exact ⟨sb_cmp h1 hs' (I.e c _ _ hc h3) (I.e c _ _ hc h5), se_cmp h1 hs' (I.e c _ _ hc h3) (I.e c _ _ hc h5)⟩
  unfold cE at h
  match os, bs, h with
  | [], bs, h => cases h
  | [o], [], h => cases o <;> cases h
  | [o], b :: b2 :: bs, h => cases o <;> first | (cases h; done) | (cases b <;> first | (cases h; done) | (rename_i v _ _; cases v <;> cases h))
  | o :: o2 :: os, bs, h => cases o <;> cases h
  | [o], [b], h =>
    cases o with
    | Is =>
      cases b with
      | Constant v j q =>
        cases v with
        | none =>
          obtain ⟨e1, h1, h2⟩ := mpd h
          subst h2
          exact ⟨sb_isn (I.e c _ _ hc h1), se_isn (I.e c _ _ hc h1)⟩
        | _ => exact gen _ _ h
      | _ => exact gen _ _ h
    | IsNot =>
      cases b with
      | Constant v j q =>
        cases v with
        | none =>
          obtain ⟨e1, h1, h2⟩ := mpd h
          subst h2
          exact ⟨sb_notn (I.e c _ _ hc h1), se_notn (I.e c _ _ hc h1)⟩
        | _ => exact gen _ _ h
      | _ => exact gen _ _ h
    | _ => exact gen _ _ h
theorem ok_lc (gk : GOk g gt) (I : Ok g gt n) (c : Cc) (elt tg it : Expr) (ifs : List Expr) (scope : Scope) (pos : Pos) (i : E) (hc : c.gt = gt) (h : ((cI n c tg it).bind fun it => (cTg (inner c scope) n tg).bind fun tg =>
      if L2.blkC c.N c.sc scope (ownOf c scope) = true ∧ (slots tg).all (fun i => ((ownOf c scope).map (·.2)).contains i) = true then
        (match ifs with
          | [] => (cE n (inner c scope) elt).map fun elt => E.lc ((ownOf c scope).map (·.2)) tg it .yes elt
          | [t] => (cB n (inner c scope) t).bind fun t => (cE n (inner c scope) elt).map fun elt => .lc ((ownOf c scope).map (·.2)) tg it t elt
          | _ => none)
      else none) = some i) : SA g c (.ListComp elt [⟨tg, it, ifs, 0⟩] scope pos) i ∧ SE g c (.ListComp elt [⟨tg, it, ifs, 0⟩] scope pos) i := by
  obtain ⟨i1, h1, h2⟩ := bnd h
  obtain ⟨t1, h3, h4⟩ := bnd h2
  obtain ⟨si, hset⟩ := I.i c _ _ _ hc h1
  obtain ⟨stg, _⟩ := (tg_ok (g := g) n).1 _ _ h3
  rcases itp h4 with ⟨⟨hb, hs⟩, z⟩ | ⟨_, z⟩
  · have hsl : ∀ m, m ∈ slots t1 → m ∈ (ownOf c scope).map (·.2) := fun m hm => by
      rw [List.all_eq_true] at hs
      simpa using hs m hm
    match ifs, z with
    | [], z =>
      obtain ⟨e1, h5, h6⟩ := mpd z
      subst h6
      exact ⟨sa_lc si hset hb stg hsl sts_nil (I.e (inner c scope) _ _ hc h5), se_lc si hset hb stg hsl sts_nil (I.e (inner c scope) _ _ hc h5)⟩
    | [t], z =>
      obtain ⟨b1, h5, h6⟩ := bnd z
      obtain ⟨e1, h7, h8⟩ := mpd h6
      subst h8
      exact ⟨sa_lc si hset hb stg hsl (sts_one (I.b (inner c scope) _ _ hc h5)) (I.e (inner c scope) _ _ hc h7), se_lc si hset hb stg hsl (sts_one (I.b (inner c scope) _ _ hc h5)) (I.e (inner c scope) _ _ hc h7)⟩
  · cases z
theorem ok_ga (gk : GOk g gt) (I : Ok g gt n) (c : Cc) (f : Str) (elt tg it : Expr) (ifs : List Expr) (scope : Scope) (p gpos pos : Pos) (i : E) (hc : c.gt = gt) (h : (if (isBlt c f "all" || isBlt c f "any") = true then (if gscB c scope = true ∧ c.gl = 1 ∧ (isSet it || isLst it) = false then
        (cI n c tg it).bind fun it => (cTg (innerG c scope) n tg).bind fun tg => if (slots tg).all (fun i => !(capsOf c scope).contains i) = true then
          (match ifs with
            | [] => (cE n (innerG c scope) elt).map fun elt => E.ga (f == "all") (capsOf c scope) tg it .yes elt
            | [t] => (cB n (innerG c scope) t).bind fun t => (cE n (innerG c scope) elt).map fun elt => .ga (f == "all") (capsOf c scope) tg it t elt
            | _ => none)
          else none
        else none)
      else none) = some i) : SE g c (.Call (.Name f p) [.GeneratorExp elt [⟨tg, it, ifs, 0⟩] scope gpos] [] pos) i := by
  rcases itp h with ⟨hf, z⟩ | ⟨_, z⟩
  · rcases itp z with ⟨⟨hS, hgl, hit⟩, z⟩ | ⟨_, z⟩
    · obtain ⟨i1, h1, h2⟩ := bnd z
      obtain ⟨t1, h3, h4⟩ := bnd h2
      obtain ⟨si, _⟩ := I.i c _ _ _ hc h1
      obtain ⟨stg, _⟩ := (tg_ok (g := g) n).1 _ _ h3
      rcases itp h4 with ⟨hs, z⟩ | ⟨_, z⟩
      · have hsl : ∀ m, m ∈ slots t1 → m ∉ capsOf c scope := fun m hm => by
          rw [List.all_eq_true] at hs
          simpa using hs m hm
        match ifs, z with
        | [], z =>
          obtain ⟨e1, h5, h6⟩ := mpd z
          subst h6
          exact se_ga gk hc hf hS hgl hit si stg hsl sts_nil (I.e (innerG c scope) _ _ hc h5)
        | [t], z =>
          obtain ⟨b1, h5, h6⟩ := bnd z
          obtain ⟨e1, h7, h8⟩ := mpd h6
          subst h8
          exact se_ga gk hc hf hS hgl hit si stg hsl (sts_one (I.b (innerG c scope) _ _ hc h5)) (I.e (innerG c scope) _ _ hc h7)
      · cases z
    · cases z
  · cases z

theorem ok_call (gk : GOk g gt) (I : Ok g gt n) (c : Cc) (f : Expr) (as : List Expr) (ks : List Keyword) (p : Pos) (i : E) (hc : c.gt = gt) (h : cE (n + 1) c (.Call f as ks p) = some i) : SE g c (.Call f as ks p) i := by
  unfold cE at h
  split at h
  all_goals injections
  all_goals subst_vars
  · exact ok_ga gk I _ _ _ _ _ _ _ _ _ _ _ rfl h
  · rcases itp h with ⟨⟨h1, h2⟩, z⟩ | ⟨_, z⟩
    · rcases itp z with ⟨_, z⟩ | ⟨hs, z⟩
      · cases z
      · obtain ⟨e1, h3, h4⟩ := bnd z
        obtain ⟨t1, h5, h6⟩ := mpd h4
        subst h6
        exact se_isi gk rfl h1 h2 h5 (Bool.eq_false_iff.mpr hs) (I.e _ _ _ rfl h3)
    · split at z
      · rename_i ii ar hf
        rcases itp z with ⟨ha, z⟩ | ⟨_, z⟩
        · obtain ⟨e1, h3, h4⟩ := mpd z
          subst h4
          exact es_call gk rfl hf (by rw [ha]; rfl) (I.es _ _ _ rfl h3)
        · cases z
      · cases z
  · split at h
    · rename_i ii ar hf
      rcases itp h with ⟨ha, z⟩ | ⟨_, z⟩
      · obtain ⟨e1, h3, h4⟩ := mpd z
        subst h4
        exact es_call gk rfl hf ha (I.es _ _ _ rfl h3)
      · cases z
    · rename_i hf
      split at h
      · rcases itp h with ⟨_, z⟩ | ⟨hs, z⟩
        · cases z
        · obtain ⟨f1, h1, h2⟩ := bnd z
          obtain ⟨e1, h3, h4⟩ := mpd h2
          subst h4
          have hs' := Bool.eq_false_iff.mpr hs
          split
          · rename_i hz
            simp only [Bool.and_eq_true, beq_iff_eq] at hz
            rw [hz.2] at h1
            exact se_rlist gk rfl hf h1 hs' (I.e _ _ _ rfl h3)
          · exact se_bi gk rfl hf h1 hs' (I.e _ _ _ rfl h3)
      · cases h
    · cases h
  · rcases itp h with ⟨⟨h1, h2, h3⟩, z⟩ | ⟨_, z⟩
    · obtain ⟨e1, h4, h5⟩ := bnd z
      obtain ⟨e2, h6, h7⟩ := bnd h5
      obtain ⟨e3, h8, h9⟩ := mpd h7
      subst h9
      simp only [Bool.or_eq_false_iff] at h2
      exact se_get2 h3 h1 h2.1 h2.2 (I.e _ _ _ rfl h4) (I.e _ _ _ rfl h6) (I.e _ _ _ rfl h8)
    · cases z
  · rcases itp h with ⟨⟨h1, h2⟩, z⟩ | ⟨_, z⟩
    · obtain ⟨e1, h4, h5⟩ := mpd z
      subst h5
      exact se_pop0 h2 h1 (I.e _ _ _ rfl h4)
    · cases z
theorem ok_e (gk : GOk g gt) (I : Ok g gt n) (c : Cc) (x : Expr) (i : E) (hc : c.gt = gt) (h : cE (n + 1) c x = some i) : SE g c x i := by
  cases x with
  | Call f as ks p => exact ok_call gk I c f as ks p i hc h
  | Compare a os bs p => exact (ok_k I c a os bs p i hc h).2
  | Constant v j p =>
    unfold cE at h
    cases v <;> first | (cases h; done) | skip
    all_goals cases h
    · exact se_none
    · exact se_bl
    · exact se_int
    · exact se_str
  | Name x p =>
    unfold cE at h
    split at h
    · rename_i hz
      cases h
      exact se_v hz
    · split at h
      · rename_i hz
        cases h
        exact se_cst gk hc hz
      · cases h
  | Tuple es k p =>
    unfold cE at h
    obtain ⟨e1, h1, h2⟩ := mpd h
    subst h2
    exact se_tup (I.es _ _ _ hc h1).1
  | List es p =>
    unfold cE at h
    obtain ⟨e1, h1, h2⟩ := mpd h
    subst h2
    split
    · exact se_rls (I.es _ _ _ hc h1).1
    · exact se_lst (I.es _ _ _ hc h1).1
  | UnaryOp o a p =>
    unfold cE at h
    cases o <;> first | (cases h; done) | skip
    all_goals
      obtain ⟨e1, h1, h2⟩ := mpd h
      subst h2
      first
        | exact se_neg (I.e _ _ _ hc h1)
        | exact se_not (I.e _ _ _ hc h1)
  | BinOp a o b p =>
    unfold cE at h
    obtain ⟨o1, h1, h2⟩ := bnd h
    obtain ⟨e1, h3, h4⟩ := bnd h2
    obtain ⟨e2, h5, h6⟩ := mpd h4
    subst h6
    exact se_bin h1 (I.e _ _ _ hc h3) (I.e _ _ _ hc h5)
  | BoolOp o r p =>
    unfold cE at h
    cases o
    all_goals
      match r, h with
      | [], h => cases h
      | [a], h => cases h
      | [a, b], h =>
        obtain ⟨e1, h1, h2⟩ := bnd h
        obtain ⟨e2, h3, h4⟩ := mpd h2
        subst h4
        first
          | exact se_and (I.e c _ _ hc h1) (se_one (I.e c _ _ hc h3))
          | exact se_or (I.e c _ _ hc h1) (se_one (I.e c _ _ hc h3))
      | a :: b :: d :: r, h =>
        obtain ⟨e1, h1, h2⟩ := bnd h
        obtain ⟨e2, h3, h4⟩ := mpd h2
        subst h4
        first
          | exact se_and (I.e c _ _ hc h1) (I.e c _ _ hc h3)
          | exact se_or (I.e c _ _ hc h1) (I.e c _ _ hc h3)
  | IfExp t a b p =>
    unfold cE at h
    obtain ⟨o1, h1, h2⟩ := bnd h
    obtain ⟨e1, h3, h4⟩ := bnd h2
    obtain ⟨e2, h5, h6⟩ := mpd h4
    subst h6
    exact se_ife (I.b _ _ _ hc h1) (I.e _ _ _ hc h3) (I.e _ _ _ hc h5)
  | Subscript a b p =>
    unfold cE at h
    have gen : isSlice b = false → (cE n c a).bind (fun a => (cE n c b).map fun b => E.ix a b) = some i → SE g c (.Subscript a b p) i := fun hs z => by
      obtain ⟨e1, h3, h4⟩ := bnd z
      obtain ⟨e2, h5, h6⟩ := mpd h4
      subst h6
      exact se_ix hs (I.e _ _ _ hc h3) (I.e _ _ _ hc h5)
    cases b with
    | Slice lo hi st q =>
      cases st with
      | none =>
        obtain ⟨o1, h1, h2⟩ := bnd h
        obtain ⟨e1, h3, h4⟩ := bnd h2
        obtain ⟨e2, h5, h6⟩ := mpd h4
        subst h6
        exact se_sl (I.e _ _ _ hc h1) (I.o _ _ _ hc h3) (I.o _ _ _ hc h5)
      | some st =>
        rcases itp h with ⟨_, z⟩ | ⟨hs, z⟩
        · cases z
        · exact absurd rfl hs
    | _ =>
      rcases itp h with ⟨_, z⟩ | ⟨hs, z⟩
      · cases z
      · exact gen rfl z
  | Dict ks vs p =>
    unfold cE at h
    rcases itp h with ⟨⟨h1, h2, h3, h4⟩, z⟩ | ⟨_, z⟩
    · obtain ⟨e1, h5, h6⟩ := mpd z
      subst h6
      exact se_dsp h1 h2 (by intro e; rw [e] at h3; cases h3) h4 (I.ps _ _ _ _ hc h5)
    · cases z
  | ListComp elt gs scope p =>
    unfold cE at h
    split at h
    all_goals injections
    all_goals subst_vars
    exact (ok_lc gk I _ _ _ _ _ _ _ _ rfl h).2
  | _ => unfold cE at h; cases h
theorem ok_sa (gk : GOk g gt) (I : Ok g gt n) (c : Cc) (x : Expr) (i : E) (hc : c.gt = gt) (hcp : isComp x = false) (h : cE (n + 1) c x = some i) : SA g c x i := by
  cases hl : isLc x with
  | false => exact sa_of hcp hl (ok_e gk I c x i hc h)
  | true =>
    cases x <;> first | (cases hl; done) | skip
    unfold cE at h
    split at h
    all_goals injections
    all_goals subst_vars
    exact (ok_lc gk I _ _ _ _ _ _ _ _ rfl h).1
theorem ok_all (gk : GOk g gt) : ∀ n, Ok g gt n
  | 0 => by
    refine ⟨fun c x i _ h => ?_, fun c x i _ h => ?_, fun c x y i _ h => ?_, fun c x i _ h => ?_, fun c x i _ h => ?_, fun c op r p i _ h => ?_, fun c a os bs p i _ h => ?_, fun c tg x i _ h => ?_⟩
    · unfold cE at h; cases h
    · unfold cEs at h; cases h
    · unfold cPs at h; cases h
    · unfold cO at h; cases h
    · unfold cB at h; cases h
    · unfold cB at h; cases h
    · unfold cE at h; cases h
    · unfold cI at h; cases h
  | n + 1 => by
    have I := ok_all gk n
    exact ⟨ok_e gk I, ok_es I, ok_ps I, ok_o I, ok_b I, ok_w I, fun c a os bs p i hc h => (ok_k I c a os bs p i hc h).1, ok_i gk I⟩
end
end Ev


set_option Elab.async false
set_option linter.all false
set_option maxRecDepth 100000
set_option maxHeartbeats 4000000
/-! EvO: statements from the syntax; a def's promise. -/
namespace Ev
open PySem
open L2 (V Hp HO Cx upd TE VK TS Ends XK Sp FnOk Binds Room CX0 E0 Fun FnScope start cxOf)
section
variable {g : Gd} {gt : List (Str × Gv)} {c : Cc}
theorem tg_tup : ∀ {n : Nat} {ts : List Expr} {k : Nat} {p : Pos} {tg : Tg}, cTg c n (.Tuple ts k p) = some tg → ∃ us, tg = .tp us
  | 0, _, _, _, _, h => by unfold cTg at h; cases h
  | n + 1, _, _, _, _, h => by
    unfold cTg at h
    obtain ⟨us, _, h6⟩ := mpd h
    exact ⟨us, h6.symm⟩
theorem ok_t (gk : GOk g gt) (c : Cc) (hc : c.gt = gt) : ∀ n, (∀ (st : Stmt) (t : T), cT n c st = some t → SS g c st t) ∧ (∀ (st : List Stmt) (t : Ts), cTs n c st = some t → SSs g c st t)
  | 0 => by
    refine ⟨fun st t h => ?_, fun st t h => ?_⟩
    · unfold cT at h; cases h
    · unfold cTs at h; cases h
  | n + 1 => by
    obtain ⟨T1, T2⟩ := ok_t gk c hc n
    have I := ok_all gk n
    have sa : ∀ {x i}, isComp x = false → cE n c x = some i → SA g c x i := fun {x i} hp h => by
      cases n with
      | zero => unfold cE at h; cases h
      | succ m => exact ok_sa gk (ok_all gk m) c x i hc hp h
    refine ⟨fun st t h => ?_, fun st t h => ?_⟩
    · unfold cT at h
      split at h
      all_goals injections
      all_goals subst_vars
      · rcases itp h with ⟨_, z⟩ | ⟨hp, z⟩
        · cases z
        · obtain ⟨i1, h1, h2⟩ := bnd z
          obtain ⟨e1, h3, h4⟩ := mpd h2
          subst h4
          exact ss_set h1 (sa (Bool.eq_false_iff.mpr hp) h3)
      · rcases itp h with ⟨_, z⟩ | ⟨hp, z⟩
        · cases z
        · obtain ⟨i1, h1, h2⟩ := bnd z
          obtain ⟨e1, h3, h4⟩ := mpd h2
          subst h4
          simp only [Bool.or_eq_true, not_or, Bool.not_eq_true] at hp
          have hg := ((tg_ok (g := g) _).1 _ _ h1).1
          exact ss_asg hp.1 hp.2 hg (tg_tup h1) (I.e _ _ _ rfl h3)
      · rcases itp h with ⟨_, z⟩ | ⟨hp, z⟩
        · cases z
        · obtain ⟨i1, h1, h2⟩ := bnd z
          obtain ⟨i2, h3, h4⟩ := bnd h2
          obtain ⟨e1, h5, h6⟩ := mpd h4
          subst h6
          simp only [Bool.or_eq_true, not_or, Bool.not_eq_true] at hp
          exact ss_setix hp.1 hp.2 (I.e _ _ _ rfl h1) (I.e _ _ _ rfl h3) (I.e _ _ _ rfl h5)
      · obtain ⟨i1, h1, h2⟩ := bnd h
        obtain ⟨i2, h3, h4⟩ := bnd h2
        obtain ⟨e1, h5, h6⟩ := mpd h4
        subst h6
        exact ss_aug h1 h3 (I.e _ _ _ rfl h5)
      · rcases itp h with ⟨⟨hl, hs⟩, z⟩ | ⟨_, z⟩
        · rcases itp z with ⟨hm, z⟩ | ⟨_, z⟩
          · obtain ⟨i1, h1, h2⟩ := bnd z
            obtain ⟨e1, h3, h4⟩ := mpd h2
            subst h4
            subst hm
            exact ss_app h1 hl hs (I.e _ _ _ rfl h3)
          · rcases itp z with ⟨hm, z⟩ | ⟨_, z⟩
            · obtain ⟨i1, h1, h2⟩ := bnd z
              obtain ⟨e1, h3, h4⟩ := mpd h2
              subst h4
              subst hm
              exact ss_ext h1 hl hs (I.e _ _ _ rfl h3)
            · cases z
        · cases z
      · obtain ⟨e1, h3, h4⟩ := mpd h
        subst h4
        exact ss_ex (fun _ _ _ => rfl) (I.e _ _ _ rfl h3)
      · split at h
        · rename_i hz
          cases h
          exact ss_rtv hz
        · obtain ⟨e1, h3, h4⟩ := mpd h
          subst h4
          exact ss_ret (I.e _ _ _ rfl h3)
      · obtain ⟨e1, h3, h4⟩ := mpd h
        subst h4
        exact ss_ret (I.e _ _ _ rfl h3)
      · exact ss_retn
      · exact ss_pass
      · exact ss_brk
      · exact ss_cnt
      · obtain ⟨i1, h1, h2⟩ := bnd h
        obtain ⟨i2, h3, h4⟩ := bnd h2
        obtain ⟨e1, h5, h6⟩ := mpd h4
        subst h6
        exact ss_if (I.b _ _ _ rfl h1) (T2 _ _ h3) (T2 _ _ h5)
      · obtain ⟨i1, h1, h2⟩ := bnd h
        obtain ⟨i2, h3, h4⟩ := bnd h2
        obtain ⟨e1, h5, h6⟩ := mpd h4
        subst h6
        obtain ⟨k1, k2⟩ := I.i _ _ _ _ rfl h1
        exact ss_fr k1 k2 ((tg_ok (g := g) _).1 _ _ h3).1 (T2 _ _ h5)
      · obtain ⟨i1, h1, h2⟩ := bnd h
        obtain ⟨e1, h5, h6⟩ := mpd h2
        subst h6
        exact ss_wh (I.b _ _ _ rfl h1) (T2 _ _ h5)
    · unfold cTs at h
      split at h
      all_goals injections
      all_goals subst_vars
      · exact sss_nil
      · obtain ⟨i1, h1, h2⟩ := bnd h
        obtain ⟨e1, h5, h6⟩ := mpd h2
        subst h6
        exact sss_cons (T1 _ _ h1) (T2 _ _ h5)
end
end Ev


set_option Elab.async false
set_option linter.all false
set_option maxRecDepth 100000
set_option maxHeartbeats 2000000
/-! EvP: a def's promise; all defs. -/
namespace Ev
open PySem
open L2 (V Hp HO Cx upd TE VK TS Ends XK Sp FnOk Binds Room CX0 E0 FnScope start cxOf)
theorem fnScope_of {N ps : List Str} {sc : Scope} (h : scopeB N ps sc = true) : FnScope N ps sc := by
  unfold scopeB at h
  simp only [Bool.and_eq_true, Bool.not_eq_true', decide_eq_true_eq, List.all_eq_true] at h
  obtain ⟨⟨⟨⟨⟨⟨h1, h2⟩, h3⟩, h4⟩, h5⟩, h6⟩, h7⟩ := h
  refine ⟨?_, h2, h3, h4, h5, fun x hx => ?_, fun y hy e => ?_⟩
  · revert h1
    cases sc.kind <;> simp
  · have := h6 x hx
    split at this
    · exact .inl (by assumption)
    · exact .inr (by assumption)
    · cases this
  · have := h7 y hy
    rw [e] at this
    cases this
section
variable {K : PySem.W.Frag} {Tb : Addr → Prop} {ρ ρ' : List Addr} {F F' : Addr → Prop} {H H' : Hp}
theorem exE_of {σ : L2.St} {s : S} {p : Addr → Prop} (x : ExS ρ F H ρ' F' H') (r : Rl K Tb ⟨ρ, F, H, p⟩ σ ρ' F' H' s) : ExE ρ F H ρ' F' H' := ⟨x.pre, x.fz, r.old, r.oldT, r.rn⟩
theorem repC_of {σ : L2.St} {s : S} {p : Addr → Prop} {rv : Rv} {v : V} (h : RepR K ⟨ρ, F, H, p⟩ σ ρ' F' H' s rv v) : RepC K H ρ' F' H' rv v := by
  cases rv with
  | un => exact h
  | val d => exact h
  | mls l =>
    obtain ⟨a, vs, rfl, o, _⟩ := h
    exact ⟨a, vs, rfl, o.at_, o.reps, o.nf, o.nr, o.new⟩
theorem start_rl {N : List Str} {ds : List D} {vs : List V} {M : Mem} (hl : vs.length ≤ N.length) (p : Reps K ρ F H ds vs) (m : MemOk K Tb ρ F H M) :
    Rl K Tb ⟨ρ, F, H, fun _ => False⟩ (start N vs) ρ F H ⟨ds.map Rv.val ++ List.replicate (N.length - ds.length) .un, M⟩ := by
  obtain ⟨m1, m2, m3, m4, m5, m6⟩ := m
  have hlen := p.length
  have get : ∀ {i : Nat} {x : Rv}, (ds.map Rv.val ++ List.replicate (N.length - ds.length) Rv.un)[i]? = some x → x = .un ∨ ∃ d, ds[i]? = some d ∧ x = .val d := fun {i x} h => by
    by_cases k : i < ds.length
    · rw [List.getElem?_append_left (by simpa using k), List.getElem?_map] at h
      cases e : ds[i]? with
      | none => rw [e] at h; cases h
      | some d => rw [e] at h; exact .inr ⟨d, rfl, (Option.some.inj h).symm⟩
    · rw [List.getElem?_append_right (by simpa using k), List.getElem?_replicate] at h
      split at h
      · exact .inl (Option.some.inj h).symm
      · cases h
  refine ⟨?_, fun i d h => ?_, fun i l h => ?_, fun i j l l' a h => ?_, m1, m2, m3, fun a h => ⟨m4 a h, id⟩, fun a h => .inl h, m5, fun a h => .inl h, fun a o h _ _ => h, fun a o h t => ⟨o, h, t⟩, fun a h => h.elim, fun a h => h, m6⟩
  · show _ = (start N vs).length
    unfold L2.start
    simp only [List.length_append, List.length_map, List.length_replicate, hlen]
  · rcases get h with z | ⟨d', e, z⟩
    · cases z
    · cases z
      obtain ⟨v, hv, pv⟩ := Reps.get p e
      refine ⟨v, ?_, pv⟩
      unfold L2.start
      rw [List.getElem?_append_left (by simpa using (List.getElem?_eq_some_iff.mp hv).1), List.getElem?_map, hv]
      rfl
  · rcases get h with z | ⟨d', e, z⟩ <;> cases z
  · rcases get h with z | ⟨d', e, z⟩ <;> cases z
/-- a body's end, seen by the caller -/
theorem ws_of_wc {Q : VK} {r : Res (Out × S)} (h : WC K Tb ρ F H Q (match r with | .ok (.nx, s) => .ok (.val .non, s.M) | .ok (.ret r, s) => .ok (r, s.M) | .ok _ => .bad | .exc x => .exc x | .bad => .bad)) :
    WS K Tb ⟨ρ, F, H, fun _ => False⟩ ρ F H { nx := fun _ H' => Q .non H', rt := Q } r := by
  cases r with
  | exc _ => exact h.elim
  | bad => exact h.elim
  | ok p =>
    obtain ⟨o, s⟩ := p
    cases o with
    | brk => exact h.elim
    | cnt => exact h.elim
    | nx => exact fun σ' ρ' F' H' x r => h .non ρ' F' H' (exE_of x r) r.fn r.memOk (by simp only [RepC, Rep])
    | ret rv => exact fun σ' v ρ' F' H' x r t => h v ρ' F' H' (exE_of x r) r.fn r.memOk (repC_of t)
end
theorem def_ok {g : Gd} {gt : List (Str × Gv)} (gk : GOk g gt) {st : Stmt} {N : List Str} {rf : Bool} {gl ar i : Nat} {d : Fd} {f : Addr} {qual name : Str} {oc kV doc pm cdv ct : Value} {od an : Option Addr} {osl : Array (Option Value)} {C' : Calls}
    (hd : cDef gt rf gl N ar st = some d) (hgl : gl ≤ 1) (lk : g.K.lookup f = some ⟨oc, od, .func (PySem.W.fnOf name qual (L2.defArgs st) (L2.defBody st) (L2.defScope st) .none kV doc pm an cdv ct), osl⟩) (hcd : PySem.W.codeIn g.K cdv qual = true)
    (hT : gl = 1 → ∃ (cd P : Addr), cdv = .ref cd ∧ GxR.TabB g.base g.mg cd P ∧ g.Tb P) (hC : ∀ ds M, C' i ds M = runF g.C g.D d ds M) :
    FnOk g.P g.w g.K g.mg g.base CX0 (g.k + 2) f (PySem.W.fnOf name qual (L2.defArgs st) (L2.defBody st) (L2.defScope st) .none kV doc pm an cdv ct) (N.take ar) (spOf g.K g.Tb C' i ar) := by
  unfold cDef at hd
  dsimp only at hd
  obtain ⟨hz, hd⟩ : _ ∧ _ := (itp hd).resolve_right fun z => by cases z.2
  obtain ⟨body, hb, e⟩ := mpd hd
  subst e
  simp only [Bool.and_eq_true, decide_eq_true_eq] at hz
  obtain ⟨⟨hs, _⟩, hN⟩ := hz
  have S := fnScope_of hs
  have hlp : (N.take ar).length = ar := by rw [List.length_take]; omega
  refine L2.fn_of (k := g.k + 1) lk hcd S (fun vs H Q E h => by rw [hlp]; exact h.1) fun A outer s H vs Q E hr hsp => ?_
  obtain ⟨hlen, ds, ρ, F, M, p, m, w⟩ := hsp
  obtain ⟨t, h1, h2⟩ := (ok_t gk ⟨N, L2.defScope st, fun _ => true, gt, rf, gl⟩ rfl 60).2 _ _ hb
  have hX : XOk g ⟨N, L2.defScope st, fun _ => true, gt, rf, gl⟩ (cxOf CX0 g.P g.w g.K g.mg g.base N qual (L2.defScope st) f cdv A outer s H E).nox :=
    ⟨rfl, rfl, rfl, rfl, rfl, rfl, S.nd, rfl, fun _ _ => rfl, rfl, hr.mono (Nat.add_le_add_left hgl g.k), fun h0 => by
      obtain ⟨cd, P, e, tb, hp⟩ := hT (by show gl = 1; have : 0 < gl := h0; omega)
      exact ⟨cd, P, e, tb, hp⟩⟩
  refine ⟨t, (h1 _ hX PassesOwn.never).nox, ?_⟩
  rw [hC] at w
  unfold runF at w
  rw [if_pos (by rw [← p.length]; exact hlen)] at w
  exact h2 _ _ _ _ _ _ _ (start_rl (by rw [hlen]; exact hN) p m) (ws_of_wc w)
/-- a def of the text, as it stands behind the top -/
structure DOk (K : PySem.W.Frag) (Tb : Addr → Prop) (mg : Str → Option Value) (base : Heap) (gt : List (Str × Gv)) (Ps : List Fd) (x : Str) (i ar : Nat) : Prop where
  ex : ∃ (st : Stmt) (N : List Str) (rf : Bool) (gl : Nat) (d : Fd) (f : Addr) (qual name : Str) (oc kV doc pm cdv ct : Value) (od an : Option Addr) (osl : Array (Option Value)),
    cDef gt rf gl N ar st = some d ∧ Ps[i]? = some d ∧ gl ≤ 1 ∧ mg x = some (.ref f) ∧ PySem.W.keepIn K (.ref f) = true ∧
    K.lookup f = some ⟨oc, od, .func (PySem.W.fnOf name qual (L2.defArgs st) (L2.defBody st) (L2.defScope st) .none kV doc pm an cdv ct), osl⟩ ∧ PySem.W.codeIn K cdv qual = true ∧
    (gl = 1 → ∃ (cd P : Addr), cdv = .ref cd ∧ GxR.TabB base mg cd P ∧ Tb P) ∧ Binds K (PySem.W.fnOf name qual (L2.defArgs st) (L2.defBody st) (L2.defScope st) .none kV doc pm an cdv ct) (N.take ar) []
structure TOk (K : PySem.W.Frag) (Tb : Addr → Prop) (mg : Str → Option Value) (base : Heap) (D' : Nat → D) (gt : List (Str × Gv)) (Ps : List Fd) : Prop where
  fn : ∀ x i ar, gt.lookup x = some (.fn i ar) → DOk K Tb mg base gt Ps x i ar
  cst : ∀ x n, gt.lookup x = some (.cst n) → ∃ v u, mg x = some u ∧ L2.RelV v u ∧ ∀ ρ F H, Rep K ρ F H (D' n) v
  blt : ∀ x, gt.lookup x = some .blt → mg x = none
theorem defs_ok {P : Program} {w : World} {K : PySem.W.Frag} {Tb : Addr → Prop} {mg : Str → Option Value} {base : Heap} {D' : Nat → D} {gt : List (Str × Gv)} {Ps : List Fd} (T : TOk K Tb mg base D' gt Ps) : ∀ n : Nat, GOk ⟨P, w, K, Tb, mg, base, 2 * n, calls Ps D' n, D'⟩ gt
  | 0 => ⟨fun x i ar h => by
      obtain ⟨st, N, rf, gl, d, f, qual, name, oc, kV, doc, pm, cdv, ct, od, an, osl, h1, h2, h3, h4, h5, h6, h7, h8, h9⟩ := (T.fn x i ar h).ex
      have hN : (N.take ar).length = ar := by
        unfold cDef at h1
        dsimp only at h1
        rcases itp h1 with ⟨hz, _⟩ | ⟨_, z⟩
        · simp only [Bool.and_eq_true, decide_eq_true_eq] at hz
          rw [List.length_take]; omega
        · cases z
      refine ⟨f, _, _, h4, h5, ⟨fun vs H Q E h => by rw [hN]; exact h.1, fun A outer s H args us vs Q E _ _ _ _ h => ?_⟩, h9, hN⟩
      obtain ⟨_, ds, ρ, F, M, _, _, w⟩ := h
      exact w.elim, T.cst, T.blt⟩
  | n + 1 => ⟨fun x i ar h => by
      obtain ⟨st, N, rf, gl, d, f, qual, name, oc, kV, doc, pm, cdv, ct, od, an, osl, h1, h2, h3, h4, h5, h6, h7, h8, h9⟩ := (T.fn x i ar h).ex
      have hN : (N.take ar).length = ar := by
        unfold cDef at h1
        dsimp only at h1
        rcases itp h1 with ⟨hz, _⟩ | ⟨_, z⟩
        · simp only [Bool.and_eq_true, decide_eq_true_eq] at hz
          rw [List.length_take]; omega
        · cases z
      have key := def_ok (C' := calls Ps D' (n + 1)) (i := i) (defs_ok (P := P) (w := w) T n) h1 h3 h6 h7 h8 (fun ds M => by
        show (match Ps[i]? with | some fd => runF (calls Ps D' n) D' fd ds M | none => .bad) = _
        rw [h2])
      exact ⟨f, _, _, h4, h5, key, h9, hN⟩, T.cst, T.blt⟩
end Ev


set_option Elab.async false
set_option linter.all false
set_option maxRecDepth 100000
set_option maxHeartbeats 2000000
/-! EvQ: the end. -/
namespace Ev
open PySem PySem.Spec PyProof.Rows
open L2 (V Hp HO CXT XK Room)
theorem ints_reps {K : PySem.W.Frag} {ρ : List Addr} {F : Addr → Prop} {H : Hp} : ∀ ks : List Int, Reps K ρ F H (ks.map D.int) (ks.map V.int)
  | [] => by simp only [List.map_nil, Reps]
  | k :: ks => by
    simp only [List.map_cons]
    exact Reps.cons (by simp only [Rep]) (ints_reps ks)
/-- the end, with what the top says at hand -/
theorem walk_g {l : PySem.W.OpenLaw} {n k : Nat} {q : Program} {loose : List Str} {XP : (Str → Option Value) → Heap → Prop} {YP : World → Heap → Prop} {d : DefRec} {K : Params → PySem.W.Frag} {CX : World → CXT} {x : Str}
    (hn : l.most = some n) (hn2 : n ≤ sizeLine) (hdf : d.params.defaults = []) (hr : Room k callerA) (hY : ∀ (w : World) (h : Heap), YP w h → (K w.params).In h)
    (F : ∀ (w : World) (s₀ : Shared) (mg mb : Str → Option Value) (fa : Addr) (h : Heap), PySem.W.Ground q loose [] XP w s₀ mg mb h → YP w h → (K w.params).In h → mg d.name = some (.ref fa) → LamX.LawAtS l w (K w.params) (CX w) k n x mg fa h)
    (hCX : ∀ (w : World) (H : Hp) (s : Shared) (e : Value) (s' : Shared), CX w [] H s (fun _ _ _ => False) e s' → False) :
    PySem.W.WalkO q loose XP YP l.row.toRowW d [] (fun f vs => PySem.call f vs) := by
  refine Att.attach_callB hn hdf fun w s₀ s₁ mg mb fa o pm cd doc a vs ns G Y ho hd hcd hmg hobj hints hlen hbits hg => ?_
  have KX := hY w _ Y
  obtain ⟨fd, cs, sp, hT, nT, C, hb, hsp, hF⟩ := F w s₀ mg mb fa _ G Y KX hmg
  exact LamX.law_callTs KX G.T.g G.T.b G.T.builtins G.T.nolimit hg hT nT C G.T.bmain hobj hints (Nat.le_trans hlen hn2) hr hF hb (fun H hH hS => hsp H a ns hlen hbits hH hS) fun H e s' => hCX w H s₁ e s'
end Ev


set_option Elab.async false
set_option linter.all false
set_option maxRecDepth 100000
namespace K69
open PySem Ev
def top (i : Nat) : Stmt := PySem.Challenge.pw_heapsparted_k69_whole_places_of_commands.main.body.getD i (.Pass ⟨0, 0, 0, 0⟩)
def gtT : List (Str × Gv) := [
  ("is_integer", .fn 0 1),
  ("blocks_of", .fn 1 1),
  ("places_in", .fn 2 1),
  ("with_blocks", .fn 3 2),
  ("with_commands", .fn 4 4),
  ("commands_at", .fn 5 3),
  ("_law_box", .fn 6 1),
  ("_law_load", .fn 7 1),
  ("_law_draw", .fn 8 2),
  ("_law_same", .fn 9 2),
  ("_law_block", .fn 10 2),
  ("_law_many", .fn 11 1),
  ("_law_spots", .fn 12 1),
  ("_law_all", .fn 13 1),
  ("_law_changed", .fn 14 4),
  ("_law_row", .fn 15 3),
  ("law", .fn 16 1),
  ("all", .blt),
  ("bool", .blt),
  ("enumerate", .blt),
  ("int", .blt),
  ("isinstance", .blt),
  ("len", .blt),
  ("list", .blt),
  ("range", .blt),
  ("str", .blt),
  ("sum", .blt),
  ("tuple", .blt)]
def cstT : List D := []
/-- is_integer -/
def b0 : Ts := (.cons (.ret (.and (.isi (.v 0) .int) (.not (.isi (.v 0) .bool))))
    .nil)
def n0 : List Str := ["value"]
theorem c0 : cDef gtT false 0 n0 1 (top 1) = some ⟨1, 1, b0⟩ := by kernel_rfl
/-- blocks_of -/
def b1 : Ts := (.cons (.asg (.nm 1) (.ix (.v 0) (.int 0)))
    (.cons (.iff (.of (.cmp .isin (.v 1) (.tup (.cons (.str "if") (.cons (.str "both") .nil))))) (.cons (.ret (.ife (.of (.cmp .eq (.v 1) (.str "if"))) (.sl (.v 0) (.int 2) .none) (.sl (.v 0) (.int 1) .none)))
    .nil) .nil)
    (.cons (.iff (.of (.cmp .eq (.v 1) (.str "while"))) (.cons (.ret (.tup (.cons (.ix (.v 0) (.int 2)) .nil)))
    .nil) .nil)
    (.cons (.ret (.ife (.of (.cmp .eq (.v 1) (.str "guard"))) (.tup (.cons (.ix (.v 0) (.int 3)) .nil)) (.tup .nil)))
    .nil))))
def n1 : List Str := ["command", "word"]
theorem c1 : cDef gtT false 0 n1 1 (top 3) = some ⟨1, 2, b1⟩ := by kernel_rfl
def b2_0 : E := (.tup (.cons (.bin .add (.tup (.cons (.v 2) (.cons (.v 4) .nil))) (.v 6)) (.cons (.v 7) .nil)))
def b2_1 : E := (.lc [6, 7] (.tp (.cons (.nm 6) (.cons (.nm 7) .nil))) (.of (.call 2 (.cons (.v 5) .nil))) .yes b2_0)
def b2_2 : Ts := (.cons (.ext 1 b2_1)
    .nil)
def b2_3 : T := (.fr (.tp (.cons (.nm 4) (.cons (.nm 5) .nil))) (.enm (.call 1 (.cons (.v 3) .nil))) b2_2)
def b2_4 : Ts := (.cons (.app 1 (.tup (.cons (.tup (.cons (.v 2) .nil)) (.cons (.v 3) .nil))))
    (.cons b2_3
    .nil))
def b2_5 : T := (.fr (.tp (.cons (.nm 2) (.cons (.nm 3) .nil))) (.enm (.v 0)) b2_4)
/-- places_in -/
def b2 : Ts := (.cons (.asg (.nm 1) (.lst .nil))
    (.cons b2_5
    (.cons (.rtv 1)
    .nil)))
def n2 : List Str := ["block", "found", "k", "command", "side", "inner", "place", "one"]
theorem c2 : cDef gtT false 0 n2 1 (top 5) = some ⟨1, 8, b2⟩ := by kernel_rfl
/-- with_blocks -/
def b3 : Ts := (.cons (.asg (.nm 2) (.ix (.v 0) (.int 0)))
    (.cons (.iff (.of (.cmp .eq (.v 2) (.str "while"))) (.cons (.ret (.bin .add (.bin .add (.sl (.v 0) .none (.int 2)) (.v 1)) (.sl (.v 0) (.int 3) .none)))
    .nil) .nil)
    (.cons (.iff (.of (.cmp .eq (.v 2) (.str "guard"))) (.cons (.ret (.bin .add (.sl (.v 0) .none (.int 3)) (.v 1)))
    .nil) .nil)
    (.cons (.ret (.bin .add (.sl (.v 0) .none (.ife (.of (.cmp .eq (.v 2) (.str "if"))) (.int 2) (.int 1))) (.v 1)))
    .nil))))
def n3 : List Str := ["command", "blocks", "word"]
theorem c3 : cDef gtT false 0 n3 2 (top 6) = some ⟨2, 3, b3⟩ := by kernel_rfl
/-- with_commands -/
def b4 : Ts := (.cons (.asg (.nm 4) (.ix (.v 1) (.int 0)))
    (.cons (.iff (.of (.cmp .eq (.bi .len (.v 1)) (.int 1))) (.cons (.ret (.bin .add (.bin .add (.sl (.v 0) .none (.v 4)) (.bi .tuple (.v 3))) (.sl (.v 0) (.bin .add (.v 4) (.v 2)) .none)))
    .nil) .nil)
    (.cons (.asg (.nm 5) (.call 1 (.cons (.ix (.v 0) (.v 4)) .nil)))
    (.cons (.asg (.nm 6) (.call 4 (.cons (.ix (.v 5) (.ix (.v 1) (.int 1))) (.cons (.sl (.v 1) (.int 2) .none) (.cons (.v 2) (.cons (.v 3) .nil))))))
    (.cons (.ret (.bin .add (.bin .add (.sl (.v 0) .none (.v 4)) (.tup (.cons (.call 3 (.cons (.ix (.v 0) (.v 4)) (.cons (.bin .add (.bin .add (.sl (.v 5) .none (.ix (.v 1) (.int 1))) (.tup (.cons (.v 6) .nil))) (.sl (.v 5) (.bin .add (.ix (.v 1) (.int 1)) (.int 1)) .none)) .nil))) .nil))) (.sl (.v 0) (.bin .add (.v 4) (.int 1)) .none)))
    .nil)))))
def n4 : List Str := ["block", "place", "many", "commands", "k", "blocks", "inner"]
theorem c4 : cDef gtT false 0 n4 4 (top 7) = some ⟨4, 7, b4⟩ := by kernel_rfl
def b5_0 : Ts := (.cons (.asg (.nm 5) (.ife (.of (.cmp .lt (.ix (.v 1) (.v 4)) (.bi .len (.v 0)))) (.call 1 (.cons (.ix (.v 0) (.ix (.v 1) (.v 4))) .nil)) (.tup .nil)))
    (.cons (.iff (.of (.cmp .ge (.ix (.v 1) (.bin .add (.v 4) (.int 1))) (.bi .len (.v 5)))) (.cons (.ret .none)
    .nil) .nil)
    (.cons (.asg (.nm 0) (.ix (.v 5) (.ix (.v 1) (.bin .add (.v 4) (.int 1)))))
    .nil)))
def b5_1 : T := (.fr (.nm 4) (.rng3 (.int 0) (.bin .sub (.bi .len (.v 1)) (.int 1)) (.int 2)) b5_0)
def b5_2 : E := (.and (.call 0 (.cons (.v 3) .nil)) (.cmp .ge (.v 3) (.int 0)))
def b5_3 : E := (.ga true [] (.nm 3) (.of (.v 1)) .yes b5_2)
/-- commands_at -/
def b5 : Ts := (.cons (.iff (.or (.not (.of (.isi (.v 1) .tuple))) (.or (.of (.cmp .eq (.bin .mod (.bi .len (.v 1)) (.int 2)) (.int 0))) (.not (.of b5_3)))) (.cons (.ret .none)
    .nil) .nil)
    (.cons b5_1
    (.cons (.ret (.ife (.of (.cmp .le (.bin .add (.ix (.v 1) (.neg (.int 1))) (.v 2)) (.bi .len (.v 0)))) (.sl (.v 0) (.ix (.v 1) (.neg (.int 1))) (.bin .add (.ix (.v 1) (.neg (.int 1))) (.v 2))) .none))
    .nil)))
def n5 : List Str := ["block", "place", "many", "one", "k", "blocks"]
theorem c5 : cDef gtT false 1 n5 3 (top 8) = some ⟨3, 6, b5⟩ := by kernel_rfl
/-- _law_box -/
def b6 : Ts := (.cons (.ret (.rls (.cons (.rlist (.sl (.v 0) .none (.int 63))) (.cons (.int 0) (.cons (.bin .add (.int 4711) (.bi .len (.v 0))) .nil)))))
    .nil)
def n6 : List Str := ["script"]
theorem c6 : cDef gtT true 0 n6 1 (top 10) = some ⟨1, 1, b6⟩ := by kernel_rfl
/-- _law_load -/
def b7 : Ts := (.cons (.asg (.nm 1) (.ix (.v 0) (.int 0)))
    (.cons (.iff (.of (.cmp .gt (.bi .len (.v 1)) (.int 0))) (.cons (.asg (.nm 2) (.bi .int (.pop0 (.v 1))))
    (.cons (.asg (.nm 3) (.ife (.of (.cmp .ge (.v 2) (.int 0))) (.bin .mul (.int 2) (.v 2)) (.bin .sub (.bin .mul (.neg (.int 2)) (.v 2)) (.int 1))))
    (.cons (.iff (.of (.cmp .ge (.v 3) (.int 1000000000000000000))) (.cons (.rtv 3)
    .nil) .nil)
    (.cons (.setix (.v 0) (.int 2) (.bin .mod (.bi .int (.bin .add (.bin .add (.bin .mul (.ix (.v 0) (.int 2)) (.int 69621)) (.bin .mul (.v 3) (.int 48271))) (.int 11))) (.int 2147483647)))
    .nil)))) .nil)
    (.cons (.asg (.nm 4) (.bin .mod (.bi .int (.bin .add (.bin .mul (.ix (.v 0) (.int 2)) (.int 48271)) (.int 17))) (.int 2147483629)))
    (.cons (.asg (.nm 5) (.bin .mod (.bi .int (.bin .add (.bin .mul (.v 4) (.int 69621)) (.int 5))) (.int 2147483587)))
    (.cons (.setix (.v 0) (.int 2) (.bin .mod (.bi .int (.bin .add (.bin .mul (.v 5) (.int 40692)) (.int 3))) (.int 2147483563)))
    (.cons (.ret (.bin .add (.bin .add (.bin .mul (.v 4) (.int 4611686014132420609)) (.bin .mul (.v 5) (.int 2147483647))) (.ix (.v 0) (.int 2))))
    .nil))))))
def n7 : List Str := ["box", "cells", "cell", "size", "first", "second"]
theorem c7 : cDef gtT false 0 n7 1 (top 11) = some ⟨1, 6, b7⟩ := by kernel_rfl
/-- _law_draw -/
def b8 : Ts := (.cons (.iff (.of (.cmp .lt (.ix (.v 0) (.int 1)) (.v 1))) (.cons (.setix (.v 0) (.int 1) (.call 7 (.cons (.v 0) .nil)))
    .nil) .nil)
    (.cons (.asg (.nm 2) (.bin .mod (.bi .int (.ix (.v 0) (.int 1))) (.v 1)))
    (.cons (.setix (.v 0) (.int 1) (.bin .fdiv (.ix (.v 0) (.int 1)) (.v 1)))
    (.cons (.rtv 2)
    .nil))))
def n8 : List Str := ["box", "many", "digit"]
theorem c8 : cDef gtT false 0 n8 2 (top 12) = some ⟨2, 3, b8⟩ := by kernel_rfl
def b9_0 : E := (.call 9 (.cons (.ix (.v 0) (.v 2)) (.cons (.ix (.v 1) (.v 2)) .nil)))
def b9_1 : E := (.lc [2] (.nm 2) (.rng1 (.bi .len (.v 0))) .yes b9_0)
/-- _law_same -/
def b9 : Ts := (.cons (.iff (.or (.and (.of (.isi (.v 0) .tuple)) (.of (.isi (.v 1) .tuple))) (.and (.of (.isi (.v 0) .list)) (.of (.isi (.v 1) .list)))) (.cons (.ret (.and (.cmp .eq (.bi .len (.v 0)) (.bi .len (.v 1))) (.bi .all b9_1)))
    .nil) .nil)
    (.cons (.iff (.or (.of (.isi (.v 0) .bool)) (.of (.isi (.v 1) .bool))) (.cons (.ret (.and (.isi (.v 0) .bool) (.and (.isi (.v 1) .bool) (.cmp .eq (.v 0) (.v 1)))))
    .nil) .nil)
    (.cons (.iff (.or (.and (.of (.isi (.v 0) .int)) (.of (.isi (.v 1) .int))) (.and (.of (.isi (.v 0) .str)) (.of (.isi (.v 1) .str)))) (.cons (.ret (.cmp .eq (.v 0) (.v 1)))
    .nil) .nil)
    (.cons (.ret (.and (.isn (.v 0)) (.isn (.v 1))))
    .nil))))
def n9 : List Str := ["a", "b", "k"]
theorem c9 : cDef gtT false 0 n9 2 (top 13) = some ⟨2, 3, b9⟩ := by kernel_rfl
def b10_0 : Ts := (.cons (.asg (.nm 4) (.call 8 (.cons (.v 0) (.cons (.ife (.of (.cmp .gt (.v 1) (.int 0))) (.int 8) (.int 4)) .nil))))
    (.cons (.asg (.nm 5) (.tup (.cons (.str "set") (.cons (.str "k") (.cons (.call 8 (.cons (.v 0) (.cons (.int 9) .nil))) .nil)))))
    (.cons (.asg (.nm 6) (.lst (.cons (.v 5) (.cons (.v 5) (.cons (.tup (.cons (.str "free") (.cons (.str "@x") .nil))) (.cons (.tup (.cons (.str "get") (.cons (.str "@y") (.cons (.str "@x") (.cons (.str "@next") .nil))))) .nil))))))
    (.cons (.iff (.of (.cmp .lt (.v 4) (.int 4))) (.cons (.app 2 (.ix (.v 6) (.v 4)))
    .nil) (.cons (.iff (.of (.cmp .eq (.v 4) (.int 4))) (.cons (.app 2 (.tup (.cons (.str "if") (.cons (.tup (.cons (.str "apart") (.cons (.str "@x") (.cons (.int 0) .nil)))) (.cons (.call 10 (.cons (.v 0) (.cons (.bin .sub (.v 1) (.int 1)) .nil))) (.cons (.call 10 (.cons (.v 0) (.cons (.bin .sub (.v 1) (.int 1)) .nil))) .nil))))))
    .nil) (.cons (.iff (.of (.cmp .eq (.v 4) (.int 5))) (.cons (.app 2 (.tup (.cons (.str "while") (.cons (.tup (.cons (.str "apart") (.cons (.str "@x") (.cons (.int 0) .nil)))) (.cons (.call 10 (.cons (.v 0) (.cons (.bin .sub (.v 1) (.int 1)) .nil))) (.cons (.ix (.tup (.cons .none (.cons (.tup .nil) .nil))) (.call 8 (.cons (.v 0) (.cons (.int 2) .nil)))) .nil))))))
    .nil) (.cons (.iff (.of (.cmp .eq (.v 4) (.int 6))) (.cons (.app 2 (.tup (.cons (.str "both") (.cons (.call 10 (.cons (.v 0) (.cons (.bin .sub (.v 1) (.int 1)) .nil))) (.cons (.call 10 (.cons (.v 0) (.cons (.bin .sub (.v 1) (.int 1)) .nil))) .nil)))))
    .nil) (.cons (.app 2 (.tup (.cons (.str "guard") (.cons (.str "l") (.cons (.tup .nil) (.cons (.call 10 (.cons (.v 0) (.cons (.bin .sub (.v 1) (.int 1)) .nil))) .nil))))))
    .nil))
    .nil))
    .nil))
    .nil))
    .nil))))
def b10_1 : T := (.fr (.nm 3) (.rng1 (.call 8 (.cons (.v 0) (.cons (.int 4) .nil)))) b10_0)
/-- _law_block -/
def b10 : Ts := (.cons (.asg (.nm 2) (.lst .nil))
    (.cons b10_1
    (.cons (.ret (.bi .tuple (.v 2)))
    .nil)))
def n10 : List Str := ["box", "deep", "found", "turn", "pick", "plain", "rows"]
theorem c10 : cDef gtT false 0 n10 2 (top 14) = some ⟨2, 7, b10⟩ := by kernel_rfl
def b11_0 : E := (.call 11 (.cons (.ix (.v 2) (.v 4)) .nil))
def b11_1 : E := (.lc [4] (.nm 4) (.of (.v 3)) .yes b11_0)
def b11_2 : Ts := (.cons (.asg (.nm 3) (.get2 (.dsp (.cons (.str "if") (.cons (.tup (.cons (.int 2) (.cons (.int 3) .nil))) (.cons (.str "while") (.cons (.tup (.cons (.int 2) .nil)) (.cons (.str "both") (.cons (.tup (.cons (.int 1) (.cons (.int 2) .nil))) (.cons (.str "guard") (.cons (.tup (.cons (.int 3) .nil)) .nil))))))))) (.ix (.v 2) (.int 0)) (.tup .nil)))
    (.cons (.asg (.nm 1) (.bin .add (.v 1) (.bi .sum b11_1)))
    .nil))
def b11_3 : T := (.fr (.nm 2) (.of (.v 0)) b11_2)
/-- _law_many -/
def b11 : Ts := (.cons (.asg (.nm 1) (.bi .len (.v 0)))
    (.cons b11_3
    (.cons (.rtv 1)
    .nil)))
def n11 : List Str := ["block", "found", "command", "spots", "spot"]
theorem c11 : cDef gtT false 0 n11 1 (top 15) = some ⟨1, 5, b11⟩ := by kernel_rfl
/-- _law_spots -/
def b12 : Ts := (.cons (.ret (.get2 (.dsp (.cons (.str "if") (.cons (.tup (.cons (.int 2) (.cons (.int 3) .nil))) (.cons (.str "while") (.cons (.tup (.cons (.int 2) .nil)) (.cons (.str "both") (.cons (.tup (.cons (.int 1) (.cons (.int 2) .nil))) (.cons (.str "guard") (.cons (.tup (.cons (.int 3) .nil)) .nil))))))))) (.ix (.v 0) (.int 0)) (.tup .nil)))
    .nil)
def n12 : List Str := ["command"]
theorem c12 : cDef gtT false 0 n12 1 (top 16) = some ⟨1, 1, b12⟩ := by kernel_rfl
def b13_0 : E := (.tup (.cons (.bin .add (.tup (.cons (.v 2) (.cons (.v 4) .nil))) (.v 5)) (.cons (.v 6) .nil)))
def b13_1 : E := (.lc [5, 6] (.tp (.cons (.nm 5) (.cons (.nm 6) .nil))) (.of (.call 13 (.cons (.ix (.ix (.v 0) (.v 2)) (.ix (.v 3) (.v 4))) .nil))) .yes b13_0)
def b13_2 : Ts := (.cons (.ext 1 b13_1)
    .nil)
def b13_3 : T := (.fr (.nm 4) (.rng1 (.bi .len (.v 3))) b13_2)
def b13_4 : Ts := (.cons (.app 1 (.tup (.cons (.tup (.cons (.v 2) .nil)) (.cons (.ix (.v 0) (.v 2)) .nil))))
    (.cons (.asg (.nm 3) (.call 12 (.cons (.ix (.v 0) (.v 2)) .nil)))
    (.cons b13_3
    .nil)))
def b13_5 : T := (.fr (.nm 2) (.rng1 (.bi .len (.v 0))) b13_4)
/-- _law_all -/
def b13 : Ts := (.cons (.asg (.nm 1) (.lst .nil))
    (.cons b13_5
    (.cons (.rtv 1)
    .nil)))
def n13 : List Str := ["block", "found", "k", "spots", "side", "place", "one"]
theorem c13 : cDef gtT false 0 n13 1 (top 17) = some ⟨1, 7, b13⟩ := by kernel_rfl
/-- _law_changed -/
def b14 : Ts := (.cons (.asg (.nm 4) (.ix (.v 1) (.int 0)))
    (.cons (.iff (.of (.cmp .eq (.bi .len (.v 1)) (.int 1))) (.cons (.ret (.bin .add (.bin .add (.sl (.v 0) .none (.v 4)) (.v 3)) (.sl (.v 0) (.bin .add (.v 4) (.v 2)) .none)))
    .nil) .nil)
    (.cons (.asg (.nm 5) (.ix (.call 12 (.cons (.ix (.v 0) (.v 4)) .nil)) (.ix (.v 1) (.int 1))))
    (.cons (.asg (.nm 6) (.call 14 (.cons (.ix (.ix (.v 0) (.v 4)) (.v 5)) (.cons (.sl (.v 1) (.int 2) .none) (.cons (.v 2) (.cons (.v 3) .nil))))))
    (.cons (.ret (.bin .add (.bin .add (.sl (.v 0) .none (.v 4)) (.tup (.cons (.bin .add (.bin .add (.sl (.ix (.v 0) (.v 4)) .none (.v 5)) (.tup (.cons (.v 6) .nil))) (.sl (.ix (.v 0) (.v 4)) (.bin .add (.v 5) (.int 1)) .none)) .nil))) (.sl (.v 0) (.bin .add (.v 4) (.int 1)) .none)))
    .nil)))))
def n14 : List Str := ["block", "place", "many", "commands", "k", "spot", "inner"]
theorem c14 : cDef gtT false 0 n14 4 (top 18) = some ⟨4, 7, b14⟩ := by kernel_rfl
def b15_0 : E := (.and (.isi (.v 3) .int) (.and (.not (.isi (.v 3) .bool)) (.cmp .ge (.v 3) (.int 0))))
def b15_1 : E := (.lc [3] (.nm 3) (.of (.v 1)) .yes b15_0)
/-- _law_row -/
def b15 : Ts := (.cons (.iff (.or (.not (.of (.isi (.v 1) .tuple))) (.or (.of (.cmp .eq (.bi .len (.v 1)) (.int 0))) (.or (.of (.cmp .gt (.bi .len (.v 1)) (.int 11))) (.not (.of (.bi .all b15_1)))))) (.cons (.ret .none)
    .nil) .nil)
    (.cons (.iff (.of (.cmp .eq (.bi .len (.v 1)) (.int 1))) (.cons (.ret (.ife (.of (.cmp .le (.bin .add (.ix (.v 1) (.int 0)) (.v 2)) (.bi .len (.v 0)))) (.sl (.v 0) (.ix (.v 1) (.int 0)) (.bin .add (.ix (.v 1) (.int 0)) (.v 2))) .none))
    .nil) .nil)
    (.cons (.iff (.or (.of (.cmp .eq (.bi .len (.v 1)) (.int 2))) (.or (.of (.cmp .ge (.ix (.v 1) (.int 0)) (.bi .len (.v 0)))) (.of (.cmp .ge (.ix (.v 1) (.int 1)) (.bi .len (.call 12 (.cons (.ix (.v 0) (.ix (.v 1) (.int 0))) .nil))))))) (.cons (.ret .none)
    .nil) .nil)
    (.cons (.ret (.call 15 (.cons (.ix (.ix (.v 0) (.ix (.v 1) (.int 0))) (.ix (.call 12 (.cons (.ix (.v 0) (.ix (.v 1) (.int 0))) .nil)) (.ix (.v 1) (.int 1)))) (.cons (.sl (.v 1) (.int 2) .none) (.cons (.v 2) .nil)))))
    .nil))))
def n15 : List Str := ["block", "place", "many", "one"]
theorem c15 : cDef gtT false 0 n15 3 (top 19) = some ⟨3, 4, b15⟩ := by kernel_rfl
def b16_0 : E := (.tup (.cons (.str "set") (.cons (.str "z") (.cons (.v 7) .nil))))
def b16_1 : E := (.lc [7] (.nm 7) (.rng1 (.call 8 (.cons (.v 1) (.cons (.int 3) .nil)))) .yes b16_0)
def b16_2 : Ts := (.cons (.asg (.nm 10) (.bin .add (.int 1) (.call 8 (.cons (.v 1) (.cons (.int 2) .nil)))))
    (.cons (.iff (.of (.notn (.call 15 (.cons (.v 3) (.cons (.v 9) (.cons (.v 10) .nil)))))) (.cons (.asg (.nm 12) (.bi .tuple b16_1))
    (.cons (.iff (.not (.of (.call 9 (.cons (.call 4 (.cons (.v 3) (.cons (.v 9) (.cons (.v 10) (.cons (.v 12) .nil))))) (.cons (.call 14 (.cons (.v 3) (.cons (.v 9) (.cons (.v 10) (.cons (.v 12) .nil))))) .nil))))) (.cons (.ret (.bl false))
    .nil) .nil)
    .nil)) .nil)
    .nil))
def b16_3 : T := (.fr (.tp (.cons (.nm 9) (.cons (.nm 11) .nil))) (.of (.sl (.v 4) .none (.int 12))) b16_2)
def b16_4 : Ts := (.cons (.asg (.nm 10) (.bin .add (.int 1) (.call 8 (.cons (.v 1) (.cons (.int 3) .nil)))))
    (.cons (.iff (.not (.of (.call 9 (.cons (.call 5 (.cons (.v 3) (.cons (.v 9) (.cons (.v 10) .nil)))) (.cons (.call 15 (.cons (.v 3) (.cons (.v 9) (.cons (.v 10) .nil)))) .nil))))) (.cons (.ret (.bl false))
    .nil) .nil)
    .nil))
def b16_5 : E := (.ix (.v 5) (.int 0))
def b16_6 : E := (.lc [5] (.nm 5) (.of (.v 4)) .yes b16_5)
def b16_7 : T := (.fr (.nm 9) (.of (.bin .add (.bin .add (.sl b16_6 .none (.int 12)) (.v 6)) (.lst (.cons .none (.cons (.tup .nil) (.cons (.tup (.cons (.bl true) .nil)) (.cons (.tup (.cons (.str "a") .nil)) (.cons (.int 0) (.cons (.tup (.cons (.neg (.int 1)) .nil)) (.cons (.tup (.cons (.int 0) (.cons (.int 0) .nil))) .nil)))))))))) b16_4)
def b16_8 : E := (.call 8 (.cons (.v 1) (.cons (.int 4) .nil)))
def b16_9 : E := (.lc [7] (.nm 7) (.rng1 (.call 8 (.cons (.v 1) (.cons (.int 6) .nil)))) .yes b16_8)
def b16_10 : E := (.bi .tuple b16_9)
def b16_11 : E := (.lc [8] (.nm 8) (.rng1 (.int 6)) .yes b16_10)
def b16_12 : E := (.bi .tuple (.v 5))
def b16_13 : E := (.lc [5] (.nm 5) (.of (.call 2 (.cons (.v 3) .nil))) .yes b16_12)
def b16_14 : Ts := (.cons (.asg (.nm 3) (.call 10 (.cons (.v 1) (.cons (.int 3) .nil))))
    (.cons (.asg (.nm 3) (.ife (.of (.cmp .lt (.call 11 (.cons (.v 3) .nil)) (.int 50))) (.v 3) (.call 10 (.cons (.v 1) (.cons (.int 1) .nil)))))
    (.cons (.asg (.nm 4) (.call 13 (.cons (.v 3) .nil)))
    (.cons (.iff (.not (.of (.call 9 (.cons b16_13 (.cons (.v 4) .nil))))) (.cons (.ret (.bl false))
    .nil) .nil)
    (.cons (.asg (.nm 6) b16_11)
    (.cons b16_7
    (.cons b16_3
    .nil)))))))
def b16_15 : T := (.fr (.nm 2) (.rng1 (.int 4)) b16_14)
/-- law -/
def b16 : Ts := (.cons (.asg (.nm 1) (.call 6 (.cons (.v 0) .nil)))
    (.cons b16_15
    (.cons (.ret (.bl true))
    .nil)))
def n16 : List Str := ["script", "box", "turn", "block", "rows", "row", "drawn", "k", "step", "place", "many", "command", "commands"]
theorem c16 : cDef gtT false 0 n16 1 (top 20) = some ⟨1, 13, b16⟩ := by kernel_rfl
def fds : List Fd := [⟨1, 1, b0⟩, ⟨1, 2, b1⟩, ⟨1, 8, b2⟩, ⟨2, 3, b3⟩, ⟨4, 7, b4⟩, ⟨3, 6, b5⟩, ⟨1, 1, b6⟩, ⟨1, 6, b7⟩, ⟨2, 3, b8⟩, ⟨2, 3, b9⟩, ⟨2, 7, b10⟩, ⟨1, 5, b11⟩, ⟨1, 1, b12⟩, ⟨1, 7, b13⟩, ⟨4, 7, b14⟩, ⟨3, 4, b15⟩, ⟨1, 13, b16⟩]
end K69


set_option Elab.async false
set_option linter.all false
set_option maxRecDepth 100000
set_option maxHeartbeats 2000000
namespace K69
open PySem Ev
def dat : Nat → D := fun n => ([] : List D).getD n .non
abbrev R (n f : Nat) (ds : List D) (M : Mem) : Res (Rv × Mem) := calls fds dat n f ds M
def outR : Res (Out × S) → Res (Rv × Mem)
  | .ok (.nx, s) => .ok (.val .non, s.M)
  | .ok (.ret r, s) => .ok (r, s.M)
  | .ok _ => .bad
  | .exc x => .exc x
  | .bad => .bad
theorem r_step {n f ar ns : Nat} {b : Ts} {ds : List D} {M : Mem} (h : fds[f]? = some ⟨ar, ns, b⟩) (hl : ds.length = ar) : R (n + 1) f ds M = outR (evSs (calls fds dat n) dat b ⟨ds.map Rv.val ++ List.replicate (ns - ds.length) .un, M⟩) := by
  show (match fds[f]? with | some fd => runF (calls fds dat n) dat fd ds M | none => .bad) = _
  rw [h]
  show runF _ _ _ _ _ = _
  unfold runF
  rw [if_pos hl]
  rfl
theorem b2_k {α β : Type} {a : α} {s : S} {f : α → S → Res β} : (Res.ok (a, s)).b2 f = f a s := rfl
theorem bd_k {α β : Type} {a : α} {f : α → Res β} : (Res.ok a).bind f = f a := rfl
theorem op_k {α : Type} {a : α} : opt (some a) = .ok a := rfl
theorem op_n {α : Type} : opt (none : Option α) = .bad := rfl
def rdO : Option Rv → Nat → S → Res (Rv × S)
  | some (.val d), _, s => .ok (.val d, s)
  | some (.mls l), i, s => .ok (.val (.lst l), { s with σ := s.σ.set i (.val (.lst l)) })
  | _, _, _ => .bad
theorem rdV_k {i : Nat} {s : S} : rdV i s = rdO s.σ[i]? i s := by
  unfold rdV
  cases s.σ[i]? with
  | none => rfl
  | some x => cases x <;> rfl
theorem rd_val {d : D} {i : Nat} {s : S} : rdO (some (.val d)) i s = .ok (.val d, s) := rfl
theorem rd_mls {l : List D} {i : Nat} {s : S} : rdO (some (.mls l)) i s = .ok (.val (.lst l), { s with σ := s.σ.set i (.val (.lst l)) }) := rfl
theorem fz_val {d : D} : (Rv.val d).fz = d := rfl
theorem fz_mls {l : List D} : (Rv.mls l).fz = .lst l := rfl
theorem bl_k {b : Bool} : blOf (.val (.bl b)) = .ok b := rfl
theorem tru_bl {M : Mem} {b : Bool} : truD M (.bl b) = some b := rfl
theorem tru_lst {M : Mem} {l : List D} : truD M (.lst l) = some (!l.isEmpty) := rfl
theorem tru_tup {M : Mem} {l : List D} : truD M (.tup l) = some (!l.isEmpty) := rfl
theorem cm_lt {a b : Int} : cmpD .lt (.int a) (.int b) = some (decide (a < b)) := rfl
theorem cm_le {a b : Int} : cmpD .le (.int a) (.int b) = some (decide (a ≤ b)) := rfl
theorem cm_gt {a b : Int} : cmpD .gt (.int a) (.int b) = some (decide (b < a)) := rfl
theorem cm_ge {a b : Int} : cmpD .ge (.int a) (.int b) = some (decide (b ≤ a)) := rfl
theorem cm_eqi {a b : Int} : cmpD .eq (.int a) (.int b) = some (decide (a = b)) := rfl
theorem cm_eqs {a b : Str} : cmpD .eq (.str a) (.str b) = some (decide (a = b)) := rfl
theorem cm_nei {a b : Int} : cmpD .ne (.int a) (.int b) = some (!decide (a = b)) := rfl
theorem bn_add {a b : Int} : binD .add (.int a) (.int b) = some (.val (.int (a + b))) := rfl
theorem bn_addt {a b : List D} : binD .add (.tup a) (.tup b) = if a.length + b.length ≤ seqLine then some (.val (.tup (a ++ b))) else none := rfl
theorem bn_addl {a b : List D} : binD .add (.lst a) (.lst b) = if a.length + b.length ≤ seqLine then some (.mls (a ++ b)) else none := rfl
theorem bn_sub {a b : Int} : binD .sub (.int a) (.int b) = some (.val (.int (a - b))) := rfl
theorem bn_mulR {a b : Int} (h : two64 b = true) : binD .mul (.int a) (.int b) = some (.val (.int (a * b))) := by
  show (if (two64 a || two64 b) = true then _ else _) = _
  rw [h, Bool.or_true, if_pos rfl]
theorem bn_mulL {a b : Int} (h : two64 a = true) : binD .mul (.int a) (.int b) = some (.val (.int (a * b))) := by
  show (if (two64 a || two64 b) = true then _ else _) = _
  rw [h, Bool.true_or, if_pos rfl]
theorem bn_div {a b : Int} : binD .fdiv (.int a) (.int b) = if 0 < b ∧ b < 1073741824 then some (.val (.int (a / b))) else none := rfl
theorem bn_mod {a b : Int} : binD .mod (.int a) (.int b) = if 0 < b then some (.val (.int (a % b))) else none := rfl
theorem bi_lent {M : Mem} {l : List D} : biD M .len (.tup l) = some (.val (.int l.length)) := rfl
theorem bi_lenl {M : Mem} {l : List D} : biD M .len (.lst l) = some (.val (.int l.length)) := rfl
theorem bi_lenr {M : Mem} {n : Nat} : biD M .len (.ref n) = M[n]?.map fun l => .val (.int l.length) := rfl
theorem bi_tupt {M : Mem} {l : List D} : biD M .tuple (.tup l) = some (.val (.tup l)) := rfl
theorem bi_tupl {M : Mem} {l : List D} : biD M .tuple (.lst l) = some (.val (.tup l)) := rfl
theorem bi_listt {M : Mem} {l : List D} : biD M .list (.tup l) = some (.mls l) := rfl
theorem bi_listl {M : Mem} {l : List D} : biD M .list (.lst l) = some (.mls l) := rfl
theorem bi_int {M : Mem} {i : Int} : biD M .int (.int i) = some (.val (.int i)) := rfl
theorem bi_sum {M : Mem} {l : List D} : biD M .sum (.lst l) = (intsOf l).map fun r => .val (.int r.sum) := rfl
theorem bi_all {M : Mem} {l : List D} : biD M .all (.lst l) = (blsOf l).map fun r => .val (.bl (r.all id)) := rfl
theorem sq_t {M : Mem} {l : List D} : seqOf M (.tup l) = some l := rfl
theorem sq_l {M : Mem} {l : List D} : seqOf M (.lst l) = some l := rfl
theorem sq_r {M : Mem} {n : Nat} : seqOf M (.ref n) = M[n]? := rfl
theorem ix_k {M : Mem} {a : D} {i : Int} : ixD M a (.int i) = (seqOf M a).bind fun l => L2.atI l i := rfl
theorem pt_no : partD true .non = some none := rfl
theorem pt_i {i : Int} : partD false (.int i) = some (some i) := rfl
theorem no_none : isNo .none = true := rfl
theorem no_int {i : Int} : isNo (.int i) = false := rfl
theorem sl_t {a : List D} {l h : Option Int} : slD (.tup a) l h = some (.val (.tup (cutD a l h))) := rfl
theorem sl_l {a : List D} {l h : Option Int} : slD (.lst a) l h = some (.mls (cutD a l h)) := rfl
inductive Cm where
  | set (i : Int) | free | get | ife (a b : List Cm) | wh (a : List Cm) (t : Bool) | both (a b : List Cm) | grd (a : List Cm)
mutual
def encC : Cm → D
  | .set i => .tup [.str "set", .str "k", .int i]
  | .free => .tup [.str "free", .str "@x"]
  | .get => .tup [.str "get", .str "@y", .str "@x", .str "@next"]
  | .ife a b => .tup [.str "if", .tup [.str "apart", .str "@x", .int 0], .tup (encB a), .tup (encB b)]
  | .wh a t => .tup [.str "while", .tup [.str "apart", .str "@x", .int 0], .tup (encB a), if t then .tup [] else .non]
  | .both a b => .tup [.str "both", .tup (encB a), .tup (encB b)]
  | .grd a => .tup [.str "guard", .str "l", .tup [], .tup (encB a)]
def encB : List Cm → List D
  | [] => []
  | c :: cs => encC c :: encB cs
end
def inner : Cm → List (List Cm)
  | .ife a b => [a, b]
  | .wh a _ => [a]
  | .both a b => [a, b]
  | .grd a => [a]
  | _ => []
theorem seq_big : 1000 ≤ seqLine := by decide
theorem blocks_of (n : Nat) (c : Cm) (M : Mem) : R (n + 1) 1 [encC c] M = .ok (.val (.tup ((inner c).map fun b => .tup (encB b))), M) := by
  cases c <;> kernel_rfl
def spots : Cm → List D
  | .ife _ _ => [.int 2, .int 3]
  | .wh _ _ => [.int 2]
  | .both _ _ => [.int 1, .int 2]
  | .grd _ => [.int 3]
  | _ => []
theorem law_spots (n : Nat) (c : Cm) (M : Mem) : R (n + 1) 12 [encC c] M = .ok (.val (.tup (spots c)), M) := by
  cases c <;> kernel_rfl
theorem is_int (n : Nat) (i : Int) (M : Mem) : R (n + 1) 0 [.int i] M = .ok (.val (.bl true), M) := by kernel_rfl
/-- the box: what is left of the script, the digits, the seed -/
def BoxM (cs : List Int) (d s : Int) : Mem := [cs.map D.int, [.ref 0, .int d, .int s]]
theorem cut_take (l : List D) (k : Nat) : cutD l none (some (k : Int)) = l.take k := by
  unfold cutD
  rw [HT.sIx_nat, HT.sIx_none, List.drop_zero, Nat.sub_zero]
  exact List.take_eq_take_min.symm
theorem cut_drop (l : List D) (k : Nat) : cutD l (some (k : Int)) none = l.drop k := by
  unfold cutD
  rw [HT.sIx_nat, HT.sIx_none]
  by_cases h : k ≤ l.length
  · rw [Nat.min_eq_left h, List.take_of_length_le (by simp)]
  · rw [Nat.min_eq_right (by omega), List.drop_length, List.drop_eq_nil_of_le (by omega)]
    simp
theorem law_box (n : Nat) (ks : List Int) : R (n + 1) 6 [.lst (ks.map D.int)] [] = .ok (.val (.ref 1), BoxM (ks.take 63) 0 (4711 + ks.length)) := by
  rw [r_step (ar := 1) (ns := 1) (b := b6) rfl rfl]
  have sl : cutD (ks.map D.int) none (some 63) = (ks.take 63).map D.int := by
    rw [show (63 : Int) = ((63 : Nat) : Int) from rfl, cut_take, List.map_take]
  have h3 : 3 ≤ seqLine := by decide
  simp only [evSs, evS, evE, evEs, evB, evI, asgT, asgTs, rdV_k, rd_val, rd_mls, b2_k, bd_k, op_k, op_n, fz_val, fz_mls, bl_k, tru_bl, tru_lst, tru_tup, cm_lt, cm_le, cm_gt, cm_ge, cm_eqi, cm_eqs, cm_nei, bn_add, bn_addt, bn_addl, bn_sub, bn_mulR, bn_mulL, bn_div, bn_mod, bi_lent, bi_lenl, bi_lenr, bi_tupt, bi_tupl, bi_listt, bi_listl, bi_int, bi_sum, bi_all, sq_t, sq_l, sq_r, ix_k, pt_no, pt_i, no_none, no_int, sl_t, sl_l, isL, List.map_cons, List.map_nil, List.length_cons, List.length_nil, List.replicate, List.cons_append, List.nil_append, List.getElem?_cons_zero, List.getElem?_cons_succ, List.set_cons_zero, List.set_cons_succ, Option.bind_some, Option.map_some, Option.bind_none, Option.map_none, Nat.reduceAdd, Nat.reduceSub, Nat.reduceLT, Nat.reduceLeDiff, ↓reduceIte, reduceCtorEq, Bool.false_eq_true, Bool.true_and, Bool.and_true, Bool.false_and, Bool.and_false, Bool.not_true, Bool.not_false, if_true, if_false, b6, sl, h3, List.length_map]
  rfl
theorem box1 (cs : List Int) (d s : Int) : (BoxM cs d s)[1]? = some [.ref 0, .int d, .int s] := rfl
theorem at_0 (x : D) (l : List D) : L2.atI (x :: l) 0 = some x := by
  unfold L2.atI L2.ixN
  simp
theorem m0 {a b : List D} : ([a, b] : Mem)[0]? = some a := rfl
theorem m1 {a b : List D} : ([a, b] : Mem)[1]? = some b := rfl
theorem s0 {a b c : List D} : ([a, b] : Mem).set 0 c = [c, b] := rfl
theorem s1 {a b c : List D} : ([a, b] : Mem).set 1 c = [a, c] := rfl
theorem a0 {x : D} {l : List D} : L2.atI (x :: l) 0 = some x := at_0 x l
theorem a2 {x y z : D} : L2.atI [x, y, z] 2 = some z := rfl
theorem a1 {x y z : D} : L2.atI [x, y, z] 1 = some y := rfl
theorem i2 {x y z : D} : L2.ixN [x, y, z].length 2 = some 2 := rfl
theorem i1 {x y z : D} : L2.ixN [x, y, z].length 1 = some 1 := rfl
theorem i2' : L2.ixN 3 2 = some 2 := rfl
theorem i1' : L2.ixN 3 1 = some 1 := rfl
theorem tw {i : Int} (h : decide (-(2 ^ 64) < i) = true) (h2 : decide (i < 2 ^ 64) = true) : two64 i = true := by
  unfold two64
  rw [h, h2]; rfl
theorem w1 : two64 69621 = true := by decide
theorem w2 : two64 48271 = true := by decide
theorem w3 : two64 40692 = true := by decide
theorem w4 : two64 2 = true := by decide
theorem w5 : two64 (-2) = true := by decide
theorem w6 : two64 4611686014132420609 = true := by decide
theorem w7 : two64 2147483647 = true := by decide
theorem pos_len (n : Nat) : decide ((0 : Int) < ((n + 1 : Nat) : Int)) = true := decide_eq_true (by omega)
theorem law_load (n : Nat) (cs : List Int) (d s : Int) : ∃ (cs' : List Int) (v s' : Int), R (n + 1) 7 [.ref 1] (BoxM cs d s) = .ok (.val (.int v), BoxM cs' d s') := by
  rw [r_step (ar := 1) (ns := 6) (b := b7) rfl rfl]
  have key : ∀ (cs : List Int) (d s : Int) (x y z : Rv), ∃ (cs' : List Int) (v s' : Int), outR (evSs (calls fds dat n) dat
      (.cons (.asg (.nm 4) (.bin .mod (.bi .int (.bin .add (.bin .mul (.ix (.v 0) (.int 2)) (.int 48271)) (.int 17))) (.int 2147483629)))
    (.cons (.asg (.nm 5) (.bin .mod (.bi .int (.bin .add (.bin .mul (.v 4) (.int 69621)) (.int 5))) (.int 2147483587)))
    (.cons (.setix (.v 0) (.int 2) (.bin .mod (.bi .int (.bin .add (.bin .mul (.v 5) (.int 40692)) (.int 3))) (.int 2147483563)))
    (.cons (.ret (.bin .add (.bin .add (.bin .mul (.v 4) (.int 4611686014132420609)) (.bin .mul (.v 5) (.int 2147483647))) (.ix (.v 0) (.int 2))))
    .nil)))) ⟨[.val (.ref 1), .val (.ref 0), x, y, .un, .un], BoxM cs d s⟩) = .ok (.val (.int v), BoxM cs' d s') := by
    intro cs d s x y z
    unfold BoxM
    simp only [evSs, evS, evE, evEs, evB, evI, asgT, asgTs, rdV_k, rd_val, rd_mls, b2_k, bd_k, op_k, op_n, fz_val, fz_mls, bl_k, tru_bl, tru_lst, tru_tup, cm_lt, cm_le, cm_gt, cm_ge, cm_eqi, cm_eqs, cm_nei, bn_add, bn_addt, bn_addl, bn_sub, bn_mulR, bn_mulL, bn_div, bn_mod, bi_lent, bi_lenl, bi_lenr, bi_tupt, bi_tupl, bi_listt, bi_listl, bi_int, bi_sum, bi_all, sq_t, sq_l, sq_r, ix_k, pt_no, pt_i, no_none, no_int, sl_t, sl_l, isL, List.map_cons, List.map_nil, List.length_cons, List.length_nil, List.replicate, List.cons_append, List.nil_append, List.getElem?_cons_zero, List.getElem?_cons_succ, List.set_cons_zero, List.set_cons_succ, Option.bind_some, Option.map_some, Option.bind_none, Option.map_none, Nat.reduceAdd, Nat.reduceSub, Nat.reduceLT, Nat.reduceLeDiff, ↓reduceIte, reduceCtorEq, Bool.false_eq_true, Bool.true_and, Bool.and_true, Bool.false_and, Bool.and_false, Bool.not_true, Bool.not_false, if_true, if_false, m0, m1, s0, s1, a2, i2', w1, w2, w3, w6, w7, Int.reduceLT]
    exact ⟨cs, _, _, rfl⟩
  unfold b7
  cases cs with
  | nil =>
    obtain ⟨cs', v, s', h⟩ := key [] d s .un .un .un
    refine ⟨cs', v, s', ?_⟩
    rw [← h]
    unfold BoxM
    simp only [evSs, evS, evE, evEs, evB, evI, asgT, asgTs, rdV_k, rd_val, rd_mls, b2_k, bd_k, op_k, op_n, fz_val, fz_mls, bl_k, tru_bl, tru_lst, tru_tup, cm_lt, cm_le, cm_gt, cm_ge, cm_eqi, cm_eqs, cm_nei, bn_add, bn_addt, bn_addl, bn_sub, bn_mulR, bn_mulL, bn_div, bn_mod, bi_lent, bi_lenl, bi_lenr, bi_tupt, bi_tupl, bi_listt, bi_listl, bi_int, bi_sum, bi_all, sq_t, sq_l, sq_r, ix_k, pt_no, pt_i, no_none, no_int, sl_t, sl_l, isL, List.map_cons, List.map_nil, List.length_cons, List.length_nil, List.replicate, List.cons_append, List.nil_append, List.getElem?_cons_zero, List.getElem?_cons_succ, List.set_cons_zero, List.set_cons_succ, Option.bind_some, Option.map_some, Option.bind_none, Option.map_none, Nat.reduceAdd, Nat.reduceSub, Nat.reduceLT, Nat.reduceLeDiff, ↓reduceIte, reduceCtorEq, Bool.false_eq_true, Bool.true_and, Bool.and_true, Bool.false_and, Bool.and_false, Bool.not_true, Bool.not_false, if_true, if_false, m0, m1, s0, s1, a0, a2, i2', w1, w2, w3, w6, w7, Int.reduceLT, Int.ofNat_zero, Int.lt_irrefl, decide_false]
  | cons c cs =>
    by_cases h1 : 0 ≤ c
    · by_cases h2 : 1000000000000000000 ≤ 2 * c
      · refine ⟨cs, 2 * c, s, ?_⟩
        unfold BoxM
        simp only [evSs, evS, evE, evEs, evB, evI, asgT, asgTs, rdV_k, rd_val, rd_mls, b2_k, bd_k, op_k, op_n, fz_val, fz_mls, bl_k, tru_bl, tru_lst, tru_tup, cm_lt, cm_le, cm_gt, cm_ge, cm_eqi, cm_eqs, cm_nei, bn_add, bn_addt, bn_addl, bn_sub, bn_mulR, bn_mulL, bn_div, bn_mod, bi_lent, bi_lenl, bi_lenr, bi_tupt, bi_tupl, bi_listt, bi_listl, bi_int, bi_sum, bi_all, sq_t, sq_l, sq_r, ix_k, pt_no, pt_i, no_none, no_int, sl_t, sl_l, isL, List.map_cons, List.map_nil, List.length_cons, List.length_nil, List.replicate, List.cons_append, List.nil_append, List.getElem?_cons_zero, List.getElem?_cons_succ, List.set_cons_zero, List.set_cons_succ, Option.bind_some, Option.map_some, Option.bind_none, Option.map_none, Nat.reduceAdd, Nat.reduceSub, Nat.reduceLT, Nat.reduceLeDiff, ↓reduceIte, reduceCtorEq, Bool.false_eq_true, Bool.true_and, Bool.and_true, Bool.false_and, Bool.and_false, Bool.not_true, Bool.not_false, if_true, if_false, m0, m1, s0, s1, a0, a2, i2', w1, w2, w3, w4, w6, w7, h1, h2, decide_true, pos_len, Int.reduceLT]
        rfl
      · obtain ⟨cs', v, s', h⟩ := key cs d (Int.emod (s * 69621 + 2 * c * 48271 + 11) 2147483647) (.val (.int c)) (.val (.int (2 * c))) .un
        refine ⟨cs', v, s', ?_⟩
        rw [← h]
        unfold BoxM
        simp only [evSs, evS, evE, evEs, evB, evI, asgT, asgTs, rdV_k, rd_val, rd_mls, b2_k, bd_k, op_k, op_n, fz_val, fz_mls, bl_k, tru_bl, tru_lst, tru_tup, cm_lt, cm_le, cm_gt, cm_ge, cm_eqi, cm_eqs, cm_nei, bn_add, bn_addt, bn_addl, bn_sub, bn_mulR, bn_mulL, bn_div, bn_mod, bi_lent, bi_lenl, bi_lenr, bi_tupt, bi_tupl, bi_listt, bi_listl, bi_int, bi_sum, bi_all, sq_t, sq_l, sq_r, ix_k, pt_no, pt_i, no_none, no_int, sl_t, sl_l, isL, List.map_cons, List.map_nil, List.length_cons, List.length_nil, List.replicate, List.cons_append, List.nil_append, List.getElem?_cons_zero, List.getElem?_cons_succ, List.set_cons_zero, List.set_cons_succ, Option.bind_some, Option.map_some, Option.bind_none, Option.map_none, Nat.reduceAdd, Nat.reduceSub, Nat.reduceLT, Nat.reduceLeDiff, ↓reduceIte, reduceCtorEq, Bool.false_eq_true, Bool.true_and, Bool.and_true, Bool.false_and, Bool.and_false, Bool.not_true, Bool.not_false, if_true, if_false, m0, m1, s0, s1, a0, a2, i2', w1, w2, w3, w4, w6, w7, h1, h2, decide_true, decide_false, pos_len, Int.reduceLT]
        rfl
    · by_cases h2 : 1000000000000000000 ≤ -2 * c - 1
      · refine ⟨cs, -2 * c - 1, s, ?_⟩
        unfold BoxM
        simp only [evSs, evS, evE, evEs, evB, evI, asgT, asgTs, rdV_k, rd_val, rd_mls, b2_k, bd_k, op_k, op_n, fz_val, fz_mls, bl_k, tru_bl, tru_lst, tru_tup, cm_lt, cm_le, cm_gt, cm_ge, cm_eqi, cm_eqs, cm_nei, bn_add, bn_addt, bn_addl, bn_sub, bn_mulR, bn_mulL, bn_div, bn_mod, bi_lent, bi_lenl, bi_lenr, bi_tupt, bi_tupl, bi_listt, bi_listl, bi_int, bi_sum, bi_all, sq_t, sq_l, sq_r, ix_k, pt_no, pt_i, no_none, no_int, sl_t, sl_l, isL, List.map_cons, List.map_nil, List.length_cons, List.length_nil, List.replicate, List.cons_append, List.nil_append, List.getElem?_cons_zero, List.getElem?_cons_succ, List.set_cons_zero, List.set_cons_succ, Option.bind_some, Option.map_some, Option.bind_none, Option.map_none, Nat.reduceAdd, Nat.reduceSub, Nat.reduceLT, Nat.reduceLeDiff, ↓reduceIte, reduceCtorEq, Bool.false_eq_true, Bool.true_and, Bool.and_true, Bool.false_and, Bool.and_false, Bool.not_true, Bool.not_false, if_true, if_false, m0, m1, s0, s1, a0, a2, i2', w1, w2, w3, w5, w6, w7, h1, h2, decide_true, decide_false, pos_len, Int.reduceLT, Int.reduceNeg]
        rfl
      · obtain ⟨cs', v, s', h⟩ := key cs d (Int.emod (s * 69621 + (-2 * c - 1) * 48271 + 11) 2147483647) (.val (.int c)) (.val (.int (-2 * c - 1))) .un
        refine ⟨cs', v, s', ?_⟩
        rw [← h]
        unfold BoxM
        simp only [evSs, evS, evE, evEs, evB, evI, asgT, asgTs, rdV_k, rd_val, rd_mls, b2_k, bd_k, op_k, op_n, fz_val, fz_mls, bl_k, tru_bl, tru_lst, tru_tup, cm_lt, cm_le, cm_gt, cm_ge, cm_eqi, cm_eqs, cm_nei, bn_add, bn_addt, bn_addl, bn_sub, bn_mulR, bn_mulL, bn_div, bn_mod, bi_lent, bi_lenl, bi_lenr, bi_tupt, bi_tupl, bi_listt, bi_listl, bi_int, bi_sum, bi_all, sq_t, sq_l, sq_r, ix_k, pt_no, pt_i, no_none, no_int, sl_t, sl_l, isL, List.map_cons, List.map_nil, List.length_cons, List.length_nil, List.replicate, List.cons_append, List.nil_append, List.getElem?_cons_zero, List.getElem?_cons_succ, List.set_cons_zero, List.set_cons_succ, Option.bind_some, Option.map_some, Option.bind_none, Option.map_none, Nat.reduceAdd, Nat.reduceSub, Nat.reduceLT, Nat.reduceLeDiff, ↓reduceIte, reduceCtorEq, Bool.false_eq_true, Bool.true_and, Bool.and_true, Bool.false_and, Bool.and_false, Bool.not_true, Bool.not_false, if_true, if_false, m0, m1, s0, s1, a0, a2, i2', w1, w2, w3, w5, w6, w7, h1, h2, decide_true, decide_false, pos_len, Int.reduceLT, Int.reduceNeg]
        rfl
theorem law_draw (n : Nat) (k : Int) (h0 : 0 < k) (h1 : k < 1073741824) (cs : List Int) (d s : Int) : ∃ (r : Int) (cs' : List Int) (d' s' : Int), 0 ≤ r ∧ r < k ∧ R (n + 2) 8 [.ref 1, .int k] (BoxM cs d s) = .ok (.val (.int r), BoxM cs' d' s') := by
  rw [r_step (ar := 2) (ns := 3) (b := b8) rfl rfl]
  unfold b8
  by_cases hd : d < k
  · obtain ⟨cs', v, s', h⟩ := law_load n cs d s
    refine ⟨v % k, cs', v / k, s', Int.emod_nonneg _ (by omega), Int.emod_lt_of_pos _ h0, ?_⟩
    unfold BoxM at h ⊢
    simp only [evSs, evS, evE, evEs, evB, evI, asgT, asgTs, rdV_k, rd_val, rd_mls, b2_k, bd_k, op_k, op_n, fz_val, fz_mls, bl_k, tru_bl, tru_lst, tru_tup, cm_lt, cm_le, cm_gt, cm_ge, cm_eqi, cm_eqs, cm_nei, bn_add, bn_addt, bn_addl, bn_sub, bn_mulR, bn_mulL, bn_div, bn_mod, bi_lent, bi_lenl, bi_lenr, bi_tupt, bi_tupl, bi_listt, bi_listl, bi_int, bi_sum, bi_all, sq_t, sq_l, sq_r, ix_k, pt_no, pt_i, no_none, no_int, sl_t, sl_l, isL, List.map_cons, List.map_nil, List.length_cons, List.length_nil, List.replicate, List.cons_append, List.nil_append, List.getElem?_cons_zero, List.getElem?_cons_succ, List.set_cons_zero, List.set_cons_succ, Option.bind_some, Option.map_some, Option.bind_none, Option.map_none, Nat.reduceAdd, Nat.reduceSub, Nat.reduceLT, Nat.reduceLeDiff, ↓reduceIte, reduceCtorEq, Bool.false_eq_true, Bool.true_and, Bool.and_true, Bool.false_and, Bool.and_false, Bool.not_true, Bool.not_false, if_true, if_false, m0, m1, s0, s1, a0, a1, a2, i1', i2', h, hd, h0, h1, decide_true, and_self, Int.reduceLT]
    rfl
  · refine ⟨d % k, cs, d / k, s, Int.emod_nonneg _ (by omega), Int.emod_lt_of_pos _ h0, ?_⟩
    unfold BoxM
    simp only [evSs, evS, evE, evEs, evB, evI, asgT, asgTs, rdV_k, rd_val, rd_mls, b2_k, bd_k, op_k, op_n, fz_val, fz_mls, bl_k, tru_bl, tru_lst, tru_tup, cm_lt, cm_le, cm_gt, cm_ge, cm_eqi, cm_eqs, cm_nei, bn_add, bn_addt, bn_addl, bn_sub, bn_mulR, bn_mulL, bn_div, bn_mod, bi_lent, bi_lenl, bi_lenr, bi_tupt, bi_tupl, bi_listt, bi_listl, bi_int, bi_sum, bi_all, sq_t, sq_l, sq_r, ix_k, pt_no, pt_i, no_none, no_int, sl_t, sl_l, isL, List.map_cons, List.map_nil, List.length_cons, List.length_nil, List.replicate, List.cons_append, List.nil_append, List.getElem?_cons_zero, List.getElem?_cons_succ, List.set_cons_zero, List.set_cons_succ, Option.bind_some, Option.map_some, Option.bind_none, Option.map_none, Nat.reduceAdd, Nat.reduceSub, Nat.reduceLT, Nat.reduceLeDiff, ↓reduceIte, reduceCtorEq, Bool.false_eq_true, Bool.true_and, Bool.and_true, Bool.false_and, Bool.and_false, Bool.not_true, Bool.not_false, if_true, if_false, m0, m1, s0, s1, a0, a1, a2, i1', i2', hd, h0, h1, decide_true, decide_false, and_self, Int.reduceLT]
    rfl
end K69


set_option Elab.async false
set_option linter.all false
set_option maxRecDepth 100000
set_option maxHeartbeats 4000000
namespace K69
open PySem Ev
theorem forL_ok {step : D → S → Res (Out × S)} (I : Nat → S → Prop) : ∀ (l : List D) (j : Nat) (s : S), I j s → (∀ i x s, j ≤ i → l[i - j]? = some x → I i s → ∃ s', step x s = .ok (.nx, s') ∧ I (i + 1) s') →
    ∃ s', forL step l s = .ok (.nx, s') ∧ I (j + l.length) s'
  | [], j, s, h, _ => ⟨s, rfl, h⟩
  | x :: l, j, s, h, hs => by
    obtain ⟨s1, e1, h1⟩ := hs j x s (Nat.le_refl _) (by simp) h
    obtain ⟨s2, e2, h2⟩ := forL_ok I l (j + 1) s1 h1 (fun i y t hi hy hI => hs i y t (by omega) (by
      have : i - j = (i - (j + 1)) + 1 := by omega
      rw [this]; simpa using hy) hI)
    refine ⟨s2, ?_, by rw [List.length_cons]; have : j + (l.length + 1) = j + 1 + l.length := by omega
                       rw [this]; exact h2⟩
    simp only [forL, e1, b2_k]
    exact e2
theorem rng_len (lo c : Int) : ∀ n, (rngD lo c n).length = n
  | 0 => rfl
  | n + 1 => by simp only [rngD, List.length_cons, rng_len _ _ n]
theorem enc_len : ∀ b : List Cm, (encB b).length = b.length
  | [] => by simp only [encB, List.length_nil]
  | c :: b => by simp only [encB, List.length_cons, enc_len b]
theorem enc_snoc (c : Cm) : ∀ b : List Cm, encB (b ++ [c]) = encB b ++ [encC c]
  | [] => by simp only [encB, List.nil_append]
  | x :: b => by simp only [encB, List.cons_append, enc_snoc c b]
def Good : Nat → List Cm → Prop
  | 0, b => b.length ≤ 3 ∧ ∀ c ∈ b, inner c = []
  | e + 1, b => b.length ≤ 3 ∧ ∀ c ∈ b, ∀ x ∈ inner c, Good e x
def GoodC : Nat → Cm → Prop
  | 0, c => inner c = []
  | e + 1, c => ∀ x ∈ inner c, Good e x
theorem good_of {deep : Nat} {b : List Cm} (h : b.length ≤ 3) (g : ∀ c ∈ b, GoodC deep c) : Good deep b := by
  cases deep with
  | zero => exact ⟨h, g⟩
  | succ e => exact ⟨h, g⟩
theorem sub1 (e : Nat) : ((e + 1 : Nat) : Int) - 1 = (e : Int) := by omega
theorem lt_seq {n : Nat} (h : n ≤ 900) : n < seqLine := Nat.lt_of_lt_of_le (by omega) seq_big
theorem le_seq {n : Nat} (h : n ≤ 900) : n ≤ seqLine := Nat.le_of_lt (lt_seq h)
theorem q0 {a b c d : D} : L2.atI [a, b, c, d] 0 = some a := rfl
theorem q1 {a b c d : D} : L2.atI [a, b, c, d] 1 = some b := rfl
theorem q2 {a b c d : D} : L2.atI [a, b, c, d] 2 = some c := rfl
theorem q3 {a b c d : D} : L2.atI [a, b, c, d] 3 = some d := rfl
theorem p0 {a b : D} : L2.atI [a, b] 0 = some a := rfl
theorem p1 {a b : D} : L2.atI [a, b] 1 = some b := rfl
/-- a turn adds a command -/
def Turns (q : Nat) (deep : Nat) : Prop := ∀ (b : List Cm) (cs : List Int) (d t : Int) (x : D) (x3 x4 x5 x6 : Rv), b.length ≤ 2 → ∃ (c : Cm) (cs' : List Int) (d' t' : Int) (y3 y4 y5 y6 : Rv), GoodC deep c ∧
  evSs (calls fds dat (q + 2)) dat b10_0 ⟨[.val (.ref 1), .val (.int deep), .mls (encB b), .val x, x4, x5, x6], BoxM cs d t⟩ = .ok (.nx, ⟨[.val (.ref 1), .val (.int deep), .mls (encB (b ++ [c])), y3, y4, y5, y6], BoxM cs' d' t'⟩)
theorem turns0 (q : Nat) : Turns q 0 := by
  intro b cs d t x x3 x4 x5 x6 hb
  obtain ⟨r, cs1, d1, t1, hr0, hr1, h1⟩ := law_draw q 4 (by decide) (by decide) cs d t
  obtain ⟨r2, cs2, d2, t2, _, _, h2⟩ := law_draw q 9 (by decide) (by decide) cs1 d1 t1
  have hl : (encB b).length < seqLine := lt_seq (by rw [enc_len]; omega)
  have hs : 3 ≤ seqLine := by decide
  have hs2 : 2 ≤ seqLine := by decide
  have hs4 : 4 ≤ seqLine := by decide
  have hr : r = 0 ∨ r = 1 ∨ r = 2 ∨ r = 3 := by omega
  unfold b10_0
  rcases hr with rfl | rfl | rfl | rfl
  · refine ⟨.set r2, cs2, d2, t2, .val x, .val (.int 0), .val (encC (.set r2)), .val (.lst [encC (.set r2), encC (.set r2), encC .free, encC .get]), rfl, ?_⟩
    simp only [evSs, evS, evE, evEs, evB, evI, asgT, asgTs, rdV_k, rd_val, rd_mls, b2_k, bd_k, op_k, op_n, fz_val, fz_mls, bl_k, tru_bl, tru_lst, tru_tup, cm_lt, cm_le, cm_gt, cm_ge, cm_eqi, cm_eqs, cm_nei, bn_add, bn_addt, bn_addl, bn_sub, bn_mulR, bn_mulL, bn_div, bn_mod, bi_lent, bi_lenl, bi_lenr, bi_tupt, bi_tupl, bi_listt, bi_listl, bi_int, bi_sum, bi_all, sq_t, sq_l, sq_r, ix_k, pt_no, pt_i, no_none, no_int, sl_t, sl_l, isL, List.map_cons, List.map_nil, List.length_cons, List.length_nil, List.replicate, List.cons_append, List.nil_append, List.getElem?_cons_zero, List.getElem?_cons_succ, List.set_cons_zero, List.set_cons_succ, Option.bind_some, Option.map_some, Option.bind_none, Option.map_none, Nat.reduceAdd, Nat.reduceSub, Nat.reduceLT, Nat.reduceLeDiff, ↓reduceIte, reduceCtorEq, Bool.false_eq_true, Bool.true_and, Bool.and_true, Bool.false_and, Bool.and_false, Bool.not_true, Bool.not_false, if_true, if_false, h1, h2, hs, hs2, hs4, hl, q0, q1, q2, q3, enc_snoc, encC, Int.reduceLT, decide_true, decide_false, Int.lt_irrefl, Int.ofNat_zero, Int.natCast_zero]
  · refine ⟨.set r2, cs2, d2, t2, .val x, .val (.int 1), .val (encC (.set r2)), .val (.lst [encC (.set r2), encC (.set r2), encC .free, encC .get]), rfl, ?_⟩
    simp only [evSs, evS, evE, evEs, evB, evI, asgT, asgTs, rdV_k, rd_val, rd_mls, b2_k, bd_k, op_k, op_n, fz_val, fz_mls, bl_k, tru_bl, tru_lst, tru_tup, cm_lt, cm_le, cm_gt, cm_ge, cm_eqi, cm_eqs, cm_nei, bn_add, bn_addt, bn_addl, bn_sub, bn_mulR, bn_mulL, bn_div, bn_mod, bi_lent, bi_lenl, bi_lenr, bi_tupt, bi_tupl, bi_listt, bi_listl, bi_int, bi_sum, bi_all, sq_t, sq_l, sq_r, ix_k, pt_no, pt_i, no_none, no_int, sl_t, sl_l, isL, List.map_cons, List.map_nil, List.length_cons, List.length_nil, List.replicate, List.cons_append, List.nil_append, List.getElem?_cons_zero, List.getElem?_cons_succ, List.set_cons_zero, List.set_cons_succ, Option.bind_some, Option.map_some, Option.bind_none, Option.map_none, Nat.reduceAdd, Nat.reduceSub, Nat.reduceLT, Nat.reduceLeDiff, ↓reduceIte, reduceCtorEq, Bool.false_eq_true, Bool.true_and, Bool.and_true, Bool.false_and, Bool.and_false, Bool.not_true, Bool.not_false, if_true, if_false, h1, h2, hs, hs2, hs4, hl, q0, q1, q2, q3, enc_snoc, encC, Int.reduceLT, decide_true, decide_false, Int.lt_irrefl, Int.ofNat_zero, Int.natCast_zero]
  · refine ⟨.free, cs2, d2, t2, .val x, .val (.int 2), .val (encC (.set r2)), .val (.lst [encC (.set r2), encC (.set r2), encC .free, encC .get]), rfl, ?_⟩
    simp only [evSs, evS, evE, evEs, evB, evI, asgT, asgTs, rdV_k, rd_val, rd_mls, b2_k, bd_k, op_k, op_n, fz_val, fz_mls, bl_k, tru_bl, tru_lst, tru_tup, cm_lt, cm_le, cm_gt, cm_ge, cm_eqi, cm_eqs, cm_nei, bn_add, bn_addt, bn_addl, bn_sub, bn_mulR, bn_mulL, bn_div, bn_mod, bi_lent, bi_lenl, bi_lenr, bi_tupt, bi_tupl, bi_listt, bi_listl, bi_int, bi_sum, bi_all, sq_t, sq_l, sq_r, ix_k, pt_no, pt_i, no_none, no_int, sl_t, sl_l, isL, List.map_cons, List.map_nil, List.length_cons, List.length_nil, List.replicate, List.cons_append, List.nil_append, List.getElem?_cons_zero, List.getElem?_cons_succ, List.set_cons_zero, List.set_cons_succ, Option.bind_some, Option.map_some, Option.bind_none, Option.map_none, Nat.reduceAdd, Nat.reduceSub, Nat.reduceLT, Nat.reduceLeDiff, ↓reduceIte, reduceCtorEq, Bool.false_eq_true, Bool.true_and, Bool.and_true, Bool.false_and, Bool.and_false, Bool.not_true, Bool.not_false, if_true, if_false, h1, h2, hs, hs2, hs4, hl, q0, q1, q2, q3, enc_snoc, encC, Int.reduceLT, decide_true, decide_false, Int.lt_irrefl, Int.ofNat_zero, Int.natCast_zero]
  · refine ⟨.get, cs2, d2, t2, .val x, .val (.int 3), .val (encC (.set r2)), .val (.lst [encC (.set r2), encC (.set r2), encC .free, encC .get]), rfl, ?_⟩
    simp only [evSs, evS, evE, evEs, evB, evI, asgT, asgTs, rdV_k, rd_val, rd_mls, b2_k, bd_k, op_k, op_n, fz_val, fz_mls, bl_k, tru_bl, tru_lst, tru_tup, cm_lt, cm_le, cm_gt, cm_ge, cm_eqi, cm_eqs, cm_nei, bn_add, bn_addt, bn_addl, bn_sub, bn_mulR, bn_mulL, bn_div, bn_mod, bi_lent, bi_lenl, bi_lenr, bi_tupt, bi_tupl, bi_listt, bi_listl, bi_int, bi_sum, bi_all, sq_t, sq_l, sq_r, ix_k, pt_no, pt_i, no_none, no_int, sl_t, sl_l, isL, List.map_cons, List.map_nil, List.length_cons, List.length_nil, List.replicate, List.cons_append, List.nil_append, List.getElem?_cons_zero, List.getElem?_cons_succ, List.set_cons_zero, List.set_cons_succ, Option.bind_some, Option.map_some, Option.bind_none, Option.map_none, Nat.reduceAdd, Nat.reduceSub, Nat.reduceLT, Nat.reduceLeDiff, ↓reduceIte, reduceCtorEq, Bool.false_eq_true, Bool.true_and, Bool.and_true, Bool.false_and, Bool.and_false, Bool.not_true, Bool.not_false, if_true, if_false, h1, h2, hs, hs2, hs4, hl, q0, q1, q2, q3, enc_snoc, encC, Int.reduceLT, decide_true, decide_false, Int.lt_irrefl, Int.ofNat_zero, Int.natCast_zero]
/-- the promise of _law_block -/
def BlockP (n : Nat) (deep : Nat) : Prop := ∀ (cs : List Int) (d t : Int), ∃ (b : List Cm) (cs' : List Int) (d' t' : Int), Good deep b ∧ R n 10 [.ref 1, .int deep] (BoxM cs d t) = .ok (.val (.tup (encB b)), BoxM cs' d' t')
theorem turns1 (q e : Nat) (h : BlockP (q + 2) e) : Turns q (e + 1) := by
  intro b cs d t x x3 x4 x5 x6 hb
  obtain ⟨r, cs1, d1, t1, hr0, hr1, h1⟩ := law_draw q 8 (by decide) (by decide) cs d t
  obtain ⟨r2, cs2, d2, t2, _, _, h2⟩ := law_draw q 9 (by decide) (by decide) cs1 d1 t1
  obtain ⟨ba, cs3, d3, t3, ga, h3⟩ := h cs2 d2 t2
  obtain ⟨bb, cs4, d4, t4, gb, h4⟩ := h cs3 d3 t3
  obtain ⟨r5, cs5, d5, t5, _, _, h5⟩ := law_draw q 2 (by decide) (by decide) cs3 d3 t3
  have hl : (encB b).length < seqLine := lt_seq (by rw [enc_len]; omega)
  have hs : 3 ≤ seqLine := by decide
  have hs2 : 2 ≤ seqLine := by decide
  have hs0 : 0 ≤ seqLine := by decide
  have hs4 : 4 ≤ seqLine := by decide
  have hr : r = 0 ∨ r = 1 ∨ r = 2 ∨ r = 3 ∨ r = 4 ∨ r = 5 ∨ r = 6 ∨ r = 7 := by omega
  have hr5 : r5 = 0 ∨ r5 = 1 := by omega
  unfold b10_0
  rcases hr with rfl | rfl | rfl | rfl | rfl | rfl | rfl | rfl
  · refine ⟨.set r2, cs2, d2, t2, .val x, .val (.int 0), .val (encC (.set r2)), .val (.lst [encC (.set r2), encC (.set r2), encC .free, encC .get]), fun y hy => by simp [inner] at hy, ?_⟩
    simp only [evSs, evS, evE, evEs, evB, evI, asgT, asgTs, rdV_k, rd_val, rd_mls, b2_k, bd_k, op_k, op_n, fz_val, fz_mls, bl_k, tru_bl, tru_lst, tru_tup, cm_lt, cm_le, cm_gt, cm_ge, cm_eqi, cm_eqs, cm_nei, bn_add, bn_addt, bn_addl, bn_sub, bn_mulR, bn_mulL, bn_div, bn_mod, bi_lent, bi_lenl, bi_lenr, bi_tupt, bi_tupl, bi_listt, bi_listl, bi_int, bi_sum, bi_all, sq_t, sq_l, sq_r, ix_k, pt_no, pt_i, no_none, no_int, sl_t, sl_l, isL, List.map_cons, List.map_nil, List.length_cons, List.length_nil, List.replicate, List.cons_append, List.nil_append, List.getElem?_cons_zero, List.getElem?_cons_succ, List.set_cons_zero, List.set_cons_succ, Option.bind_some, Option.map_some, Option.bind_none, Option.map_none, Nat.reduceAdd, Nat.reduceSub, Nat.reduceLT, Nat.reduceLeDiff, ↓reduceIte, reduceCtorEq, Bool.false_eq_true, Bool.true_and, Bool.and_true, Bool.false_and, Bool.and_false, Bool.not_true, Bool.not_false, if_true, if_false, h1, h2, hs, hs0, hs2, hs4, hl, q0, q1, q2, q3, p0, p1, enc_snoc, encC, pos_len, sub1, Int.reduceLT, Int.reduceEq, decide_true, decide_false]
  · refine ⟨.set r2, cs2, d2, t2, .val x, .val (.int 1), .val (encC (.set r2)), .val (.lst [encC (.set r2), encC (.set r2), encC .free, encC .get]), fun y hy => by simp [inner] at hy, ?_⟩
    simp only [evSs, evS, evE, evEs, evB, evI, asgT, asgTs, rdV_k, rd_val, rd_mls, b2_k, bd_k, op_k, op_n, fz_val, fz_mls, bl_k, tru_bl, tru_lst, tru_tup, cm_lt, cm_le, cm_gt, cm_ge, cm_eqi, cm_eqs, cm_nei, bn_add, bn_addt, bn_addl, bn_sub, bn_mulR, bn_mulL, bn_div, bn_mod, bi_lent, bi_lenl, bi_lenr, bi_tupt, bi_tupl, bi_listt, bi_listl, bi_int, bi_sum, bi_all, sq_t, sq_l, sq_r, ix_k, pt_no, pt_i, no_none, no_int, sl_t, sl_l, isL, List.map_cons, List.map_nil, List.length_cons, List.length_nil, List.replicate, List.cons_append, List.nil_append, List.getElem?_cons_zero, List.getElem?_cons_succ, List.set_cons_zero, List.set_cons_succ, Option.bind_some, Option.map_some, Option.bind_none, Option.map_none, Nat.reduceAdd, Nat.reduceSub, Nat.reduceLT, Nat.reduceLeDiff, ↓reduceIte, reduceCtorEq, Bool.false_eq_true, Bool.true_and, Bool.and_true, Bool.false_and, Bool.and_false, Bool.not_true, Bool.not_false, if_true, if_false, h1, h2, hs, hs0, hs2, hs4, hl, q0, q1, q2, q3, p0, p1, enc_snoc, encC, pos_len, sub1, Int.reduceLT, Int.reduceEq, decide_true, decide_false]
  · refine ⟨.free, cs2, d2, t2, .val x, .val (.int 2), .val (encC (.set r2)), .val (.lst [encC (.set r2), encC (.set r2), encC .free, encC .get]), fun y hy => by simp [inner] at hy, ?_⟩
    simp only [evSs, evS, evE, evEs, evB, evI, asgT, asgTs, rdV_k, rd_val, rd_mls, b2_k, bd_k, op_k, op_n, fz_val, fz_mls, bl_k, tru_bl, tru_lst, tru_tup, cm_lt, cm_le, cm_gt, cm_ge, cm_eqi, cm_eqs, cm_nei, bn_add, bn_addt, bn_addl, bn_sub, bn_mulR, bn_mulL, bn_div, bn_mod, bi_lent, bi_lenl, bi_lenr, bi_tupt, bi_tupl, bi_listt, bi_listl, bi_int, bi_sum, bi_all, sq_t, sq_l, sq_r, ix_k, pt_no, pt_i, no_none, no_int, sl_t, sl_l, isL, List.map_cons, List.map_nil, List.length_cons, List.length_nil, List.replicate, List.cons_append, List.nil_append, List.getElem?_cons_zero, List.getElem?_cons_succ, List.set_cons_zero, List.set_cons_succ, Option.bind_some, Option.map_some, Option.bind_none, Option.map_none, Nat.reduceAdd, Nat.reduceSub, Nat.reduceLT, Nat.reduceLeDiff, ↓reduceIte, reduceCtorEq, Bool.false_eq_true, Bool.true_and, Bool.and_true, Bool.false_and, Bool.and_false, Bool.not_true, Bool.not_false, if_true, if_false, h1, h2, hs, hs0, hs2, hs4, hl, q0, q1, q2, q3, p0, p1, enc_snoc, encC, pos_len, sub1, Int.reduceLT, Int.reduceEq, decide_true, decide_false]
  · refine ⟨.get, cs2, d2, t2, .val x, .val (.int 3), .val (encC (.set r2)), .val (.lst [encC (.set r2), encC (.set r2), encC .free, encC .get]), fun y hy => by simp [inner] at hy, ?_⟩
    simp only [evSs, evS, evE, evEs, evB, evI, asgT, asgTs, rdV_k, rd_val, rd_mls, b2_k, bd_k, op_k, op_n, fz_val, fz_mls, bl_k, tru_bl, tru_lst, tru_tup, cm_lt, cm_le, cm_gt, cm_ge, cm_eqi, cm_eqs, cm_nei, bn_add, bn_addt, bn_addl, bn_sub, bn_mulR, bn_mulL, bn_div, bn_mod, bi_lent, bi_lenl, bi_lenr, bi_tupt, bi_tupl, bi_listt, bi_listl, bi_int, bi_sum, bi_all, sq_t, sq_l, sq_r, ix_k, pt_no, pt_i, no_none, no_int, sl_t, sl_l, isL, List.map_cons, List.map_nil, List.length_cons, List.length_nil, List.replicate, List.cons_append, List.nil_append, List.getElem?_cons_zero, List.getElem?_cons_succ, List.set_cons_zero, List.set_cons_succ, Option.bind_some, Option.map_some, Option.bind_none, Option.map_none, Nat.reduceAdd, Nat.reduceSub, Nat.reduceLT, Nat.reduceLeDiff, ↓reduceIte, reduceCtorEq, Bool.false_eq_true, Bool.true_and, Bool.and_true, Bool.false_and, Bool.and_false, Bool.not_true, Bool.not_false, if_true, if_false, h1, h2, hs, hs0, hs2, hs4, hl, q0, q1, q2, q3, p0, p1, enc_snoc, encC, pos_len, sub1, Int.reduceLT, Int.reduceEq, decide_true, decide_false]
  · refine ⟨.ife ba bb, cs4, d4, t4, .val x, .val (.int 4), .val (encC (.set r2)), .mls [encC (.set r2), encC (.set r2), encC .free, encC .get], fun y hy => by
      simp only [inner, List.mem_cons, List.not_mem_nil, or_false] at hy
      rcases hy with rfl | rfl
      · exact ga
      · exact gb, ?_⟩
    simp only [evSs, evS, evE, evEs, evB, evI, asgT, asgTs, rdV_k, rd_val, rd_mls, b2_k, bd_k, op_k, op_n, fz_val, fz_mls, bl_k, tru_bl, tru_lst, tru_tup, cm_lt, cm_le, cm_gt, cm_ge, cm_eqi, cm_eqs, cm_nei, bn_add, bn_addt, bn_addl, bn_sub, bn_mulR, bn_mulL, bn_div, bn_mod, bi_lent, bi_lenl, bi_lenr, bi_tupt, bi_tupl, bi_listt, bi_listl, bi_int, bi_sum, bi_all, sq_t, sq_l, sq_r, ix_k, pt_no, pt_i, no_none, no_int, sl_t, sl_l, isL, List.map_cons, List.map_nil, List.length_cons, List.length_nil, List.replicate, List.cons_append, List.nil_append, List.getElem?_cons_zero, List.getElem?_cons_succ, List.set_cons_zero, List.set_cons_succ, Option.bind_some, Option.map_some, Option.bind_none, Option.map_none, Nat.reduceAdd, Nat.reduceSub, Nat.reduceLT, Nat.reduceLeDiff, ↓reduceIte, reduceCtorEq, Bool.false_eq_true, Bool.true_and, Bool.and_true, Bool.false_and, Bool.and_false, Bool.not_true, Bool.not_false, if_true, if_false, h1, h2, hs, hs0, hs2, hs4, hl, q0, q1, q2, q3, p0, p1, enc_snoc, encC, pos_len, sub1, Int.reduceLT, Int.reduceEq, decide_true, decide_false, h3, h4]
  · rcases hr5 with rfl | rfl
    · refine ⟨.wh ba false, cs5, d5, t5, .val x, .val (.int 5), .val (encC (.set r2)), .mls [encC (.set r2), encC (.set r2), encC .free, encC .get], fun y hy => by
        simp only [inner, List.mem_cons, List.not_mem_nil, or_false] at hy
        rcases hy with rfl
        exact ga, ?_⟩
      simp only [evSs, evS, evE, evEs, evB, evI, asgT, asgTs, rdV_k, rd_val, rd_mls, b2_k, bd_k, op_k, op_n, fz_val, fz_mls, bl_k, tru_bl, tru_lst, tru_tup, cm_lt, cm_le, cm_gt, cm_ge, cm_eqi, cm_eqs, cm_nei, bn_add, bn_addt, bn_addl, bn_sub, bn_mulR, bn_mulL, bn_div, bn_mod, bi_lent, bi_lenl, bi_lenr, bi_tupt, bi_tupl, bi_listt, bi_listl, bi_int, bi_sum, bi_all, sq_t, sq_l, sq_r, ix_k, pt_no, pt_i, no_none, no_int, sl_t, sl_l, isL, List.map_cons, List.map_nil, List.length_cons, List.length_nil, List.replicate, List.cons_append, List.nil_append, List.getElem?_cons_zero, List.getElem?_cons_succ, List.set_cons_zero, List.set_cons_succ, Option.bind_some, Option.map_some, Option.bind_none, Option.map_none, Nat.reduceAdd, Nat.reduceSub, Nat.reduceLT, Nat.reduceLeDiff, ↓reduceIte, reduceCtorEq, Bool.false_eq_true, Bool.true_and, Bool.and_true, Bool.false_and, Bool.and_false, Bool.not_true, Bool.not_false, if_true, if_false, h1, h2, hs, hs0, hs2, hs4, hl, q0, q1, q2, q3, p0, p1, enc_snoc, encC, pos_len, sub1, Int.reduceLT, Int.reduceEq, decide_true, decide_false, h3, h5]
    · refine ⟨.wh ba true, cs5, d5, t5, .val x, .val (.int 5), .val (encC (.set r2)), .mls [encC (.set r2), encC (.set r2), encC .free, encC .get], fun y hy => by
        simp only [inner, List.mem_cons, List.not_mem_nil, or_false] at hy
        rcases hy with rfl
        exact ga, ?_⟩
      simp only [evSs, evS, evE, evEs, evB, evI, asgT, asgTs, rdV_k, rd_val, rd_mls, b2_k, bd_k, op_k, op_n, fz_val, fz_mls, bl_k, tru_bl, tru_lst, tru_tup, cm_lt, cm_le, cm_gt, cm_ge, cm_eqi, cm_eqs, cm_nei, bn_add, bn_addt, bn_addl, bn_sub, bn_mulR, bn_mulL, bn_div, bn_mod, bi_lent, bi_lenl, bi_lenr, bi_tupt, bi_tupl, bi_listt, bi_listl, bi_int, bi_sum, bi_all, sq_t, sq_l, sq_r, ix_k, pt_no, pt_i, no_none, no_int, sl_t, sl_l, isL, List.map_cons, List.map_nil, List.length_cons, List.length_nil, List.replicate, List.cons_append, List.nil_append, List.getElem?_cons_zero, List.getElem?_cons_succ, List.set_cons_zero, List.set_cons_succ, Option.bind_some, Option.map_some, Option.bind_none, Option.map_none, Nat.reduceAdd, Nat.reduceSub, Nat.reduceLT, Nat.reduceLeDiff, ↓reduceIte, reduceCtorEq, Bool.false_eq_true, Bool.true_and, Bool.and_true, Bool.false_and, Bool.and_false, Bool.not_true, Bool.not_false, if_true, if_false, h1, h2, hs, hs0, hs2, hs4, hl, q0, q1, q2, q3, p0, p1, enc_snoc, encC, pos_len, sub1, Int.reduceLT, Int.reduceEq, decide_true, decide_false, h3, h5]
  · refine ⟨.both ba bb, cs4, d4, t4, .val x, .val (.int 6), .val (encC (.set r2)), .mls [encC (.set r2), encC (.set r2), encC .free, encC .get], fun y hy => by
      simp only [inner, List.mem_cons, List.not_mem_nil, or_false] at hy
      rcases hy with rfl | rfl
      · exact ga
      · exact gb, ?_⟩
    simp only [evSs, evS, evE, evEs, evB, evI, asgT, asgTs, rdV_k, rd_val, rd_mls, b2_k, bd_k, op_k, op_n, fz_val, fz_mls, bl_k, tru_bl, tru_lst, tru_tup, cm_lt, cm_le, cm_gt, cm_ge, cm_eqi, cm_eqs, cm_nei, bn_add, bn_addt, bn_addl, bn_sub, bn_mulR, bn_mulL, bn_div, bn_mod, bi_lent, bi_lenl, bi_lenr, bi_tupt, bi_tupl, bi_listt, bi_listl, bi_int, bi_sum, bi_all, sq_t, sq_l, sq_r, ix_k, pt_no, pt_i, no_none, no_int, sl_t, sl_l, isL, List.map_cons, List.map_nil, List.length_cons, List.length_nil, List.replicate, List.cons_append, List.nil_append, List.getElem?_cons_zero, List.getElem?_cons_succ, List.set_cons_zero, List.set_cons_succ, Option.bind_some, Option.map_some, Option.bind_none, Option.map_none, Nat.reduceAdd, Nat.reduceSub, Nat.reduceLT, Nat.reduceLeDiff, ↓reduceIte, reduceCtorEq, Bool.false_eq_true, Bool.true_and, Bool.and_true, Bool.false_and, Bool.and_false, Bool.not_true, Bool.not_false, if_true, if_false, h1, h2, hs, hs0, hs2, hs4, hl, q0, q1, q2, q3, p0, p1, enc_snoc, encC, pos_len, sub1, Int.reduceLT, Int.reduceEq, decide_true, decide_false, h3, h4]
  · refine ⟨.grd ba, cs3, d3, t3, .val x, .val (.int 7), .val (encC (.set r2)), .mls [encC (.set r2), encC (.set r2), encC .free, encC .get], fun y hy => by
      simp only [inner, List.mem_cons, List.not_mem_nil, or_false] at hy
      rcases hy with rfl
      exact ga, ?_⟩
    simp only [evSs, evS, evE, evEs, evB, evI, asgT, asgTs, rdV_k, rd_val, rd_mls, b2_k, bd_k, op_k, op_n, fz_val, fz_mls, bl_k, tru_bl, tru_lst, tru_tup, cm_lt, cm_le, cm_gt, cm_ge, cm_eqi, cm_eqs, cm_nei, bn_add, bn_addt, bn_addl, bn_sub, bn_mulR, bn_mulL, bn_div, bn_mod, bi_lent, bi_lenl, bi_lenr, bi_tupt, bi_tupl, bi_listt, bi_listl, bi_int, bi_sum, bi_all, sq_t, sq_l, sq_r, ix_k, pt_no, pt_i, no_none, no_int, sl_t, sl_l, isL, List.map_cons, List.map_nil, List.length_cons, List.length_nil, List.replicate, List.cons_append, List.nil_append, List.getElem?_cons_zero, List.getElem?_cons_succ, List.set_cons_zero, List.set_cons_succ, Option.bind_some, Option.map_some, Option.bind_none, Option.map_none, Nat.reduceAdd, Nat.reduceSub, Nat.reduceLT, Nat.reduceLeDiff, ↓reduceIte, reduceCtorEq, Bool.false_eq_true, Bool.true_and, Bool.and_true, Bool.false_and, Bool.and_false, Bool.not_true, Bool.not_false, if_true, if_false, h1, h2, hs, hs0, hs2, hs4, hl, q0, q1, q2, q3, p0, p1, enc_snoc, encC, pos_len, sub1, Int.reduceLT, Int.reduceEq, decide_true, decide_false, h3]
theorem block_of_turns (n deep : Nat) (tn : Turns (n + deep) deep) : BlockP (n + deep + 3) deep := by
  intro cs d t
  have hs0 : 0 ≤ seqLine := by decide
  obtain ⟨r, cs1, d1, t1, hr0, hr1, h1⟩ := law_draw (n + deep) 4 (by decide) (by decide) cs d t
  let I : Nat → S → Prop := fun i s => ∃ (b : List Cm) (cs : List Int) (d t : Int) (x3 x4 x5 x6 : Rv), b.length = i ∧ (∀ c ∈ b, GoodC deep c) ∧ s = ⟨[.val (.ref 1), .val (.int deep), .mls (encB b), x3, x4, x5, x6], BoxM cs d t⟩
  have hlen : (rngD 0 1 r.toNat).length ≤ 3 := by rw [rng_len]; omega
  obtain ⟨s', e1, b, cs2, d2, t2, x3, x4, x5, x6, hb, hg, rfl⟩ := forL_ok (step := fun x s => (opt (asgT (.nm 3) (.val x) s.σ)).bind fun σ => evSs (calls fds dat (n + deep + 2)) dat b10_0 { s with σ := σ }) I (rngD 0 1 r.toNat) 0
    ⟨[.val (.ref 1), .val (.int deep), .mls (encB []), .un, .un, .un, .un], BoxM cs1 d1 t1⟩ ⟨[], cs1, d1, t1, _, _, _, _, rfl, fun c hc => by simp at hc, rfl⟩ (by
      rintro i x s _ hx ⟨b, cs, d, t, x3, x4, x5, x6, hb, hg, rfl⟩
      have hi : i < (rngD 0 1 r.toNat).length := (List.getElem?_eq_some_iff.mp hx).1
      obtain ⟨c, cs', d', t', y3, y4, y5, y6, gc, hc⟩ := tn b cs d t x x3 x4 x5 x6 (by omega)
      refine ⟨_, ?_, b ++ [c], cs', d', t', y3, y4, y5, y6, by simp [hb], fun c' hc' => ?_, rfl⟩
      · simp only [evSs, evS, evE, evEs, evB, evI, asgT, asgTs, rdV_k, rd_val, rd_mls, b2_k, bd_k, op_k, op_n, fz_val, fz_mls, bl_k, tru_bl, tru_lst, tru_tup, cm_lt, cm_le, cm_gt, cm_ge, cm_eqi, cm_eqs, cm_nei, bn_add, bn_addt, bn_addl, bn_sub, bn_mulR, bn_mulL, bn_div, bn_mod, bi_lent, bi_lenl, bi_lenr, bi_tupt, bi_tupl, bi_listt, bi_listl, bi_int, bi_sum, bi_all, sq_t, sq_l, sq_r, ix_k, pt_no, pt_i, no_none, no_int, sl_t, sl_l, isL, List.map_cons, List.map_nil, List.length_cons, List.length_nil, List.replicate, List.cons_append, List.nil_append, List.getElem?_cons_zero, List.getElem?_cons_succ, List.set_cons_zero, List.set_cons_succ, Option.bind_some, Option.map_some, Option.bind_none, Option.map_none, Nat.reduceAdd, Nat.reduceSub, Nat.reduceLT, Nat.reduceLeDiff, ↓reduceIte, reduceCtorEq, Bool.false_eq_true, Bool.true_and, Bool.and_true, Bool.false_and, Bool.and_false, Bool.not_true, Bool.not_false, if_true, if_false]
        exact hc
      · rcases List.mem_append.mp hc' with z | z
        · exact hg c' z
        · rw [List.mem_singleton.mp z]; exact gc)
  have hb3 : b.length ≤ 3 := by rw [hb]; omega
  refine ⟨b, cs2, d2, t2, good_of hb3 hg, ?_⟩
  rw [r_step (ar := 2) (ns := 7) (b := b10) rfl rfl]
  unfold b10 b10_1
  have rg : rng2D (.int 0) (.int r) = some (rngD 0 1 r.toNat) := by
    unfold rng2D
    have : (smallI 0 && smallI r) = true := by rw [smallI_of (i := r) (by omega)]; rfl
    simp only [this, if_true, Int.sub_zero]
  simp only [encB, asgT] at e1
  simp only [evSs, evS, evE, evEs, evB, evI, asgT, asgTs, rdV_k, rd_val, rd_mls, b2_k, bd_k, op_k, op_n, fz_val, fz_mls, bl_k, tru_bl, tru_lst, tru_tup, cm_lt, cm_le, cm_gt, cm_ge, cm_eqi, cm_eqs, cm_nei, bn_add, bn_addt, bn_addl, bn_sub, bn_mulR, bn_mulL, bn_div, bn_mod, bi_lent, bi_lenl, bi_lenr, bi_tupt, bi_tupl, bi_listt, bi_listl, bi_int, bi_sum, bi_all, sq_t, sq_l, sq_r, ix_k, pt_no, pt_i, no_none, no_int, sl_t, sl_l, isL, List.map_cons, List.map_nil, List.length_cons, List.length_nil, List.replicate, List.cons_append, List.nil_append, List.getElem?_cons_zero, List.getElem?_cons_succ, List.set_cons_zero, List.set_cons_succ, Option.bind_some, Option.map_some, Option.bind_none, Option.map_none, Nat.reduceAdd, Nat.reduceSub, Nat.reduceLT, Nat.reduceLeDiff, ↓reduceIte, reduceCtorEq, Bool.false_eq_true, Bool.true_and, Bool.and_true, Bool.false_and, Bool.and_false, Bool.not_true, Bool.not_false, if_true, if_false, hs0, h1, rg, e1]
  rfl
theorem enc_tup (b : List Cm) : (encB b).length ≤ seqLine ↔ b.length ≤ seqLine := by rw [enc_len]
theorem block_all (n : Nat) : ∀ deep : Nat, BlockP (n + deep + 3) deep := by
  intro deep
  have tn : Turns (n + deep) deep := by
    induction deep with
    | zero => exact turns0 n
    | succ e ih =>
      refine turns1 (n + (e + 1)) e ?_
      have : n + (e + 1) + 2 = n + e + 3 := by omega
      rw [this]
      intro cs d t
      exact block_of_turns n e ih cs d t
  exact fun cs d t => block_of_turns n deep tn cs d t
end K69


set_option Elab.async false
set_option linter.all false
set_option maxRecDepth 100000
set_option maxHeartbeats 4000000
namespace K69
open PySem Ev
theorem ev_fr {C : Calls} {D' : Nat → D} {tg : Tg} {it : I} {b : Ts} {s : S} : evS C D' (.fr tg it b) s = (evI C D' it s).b2 fun l s => forL (fun x s => (opt (asgT tg (.val x) s.σ)).bind fun σ => evSs C D' b { s with σ := σ }) l s := by
  rw [evS]
abbrev Row := List Nat × Cm
def encP (p : List Nat) : List D := p.map fun (k : Nat) => D.int (k : Int)
def encR (r : Row) : D := .tup [.tup (encP r.1), encC r.2]
def sidesK (f : List Cm → List Row) (k : Nat) : Nat → List (List Cm) → List Row
  | _, [] => []
  | s, x :: xs => (f x).map (fun r => (k :: s :: r.1, r.2)) ++ sidesK f k (s + 1) xs
def rowsK (f : List Cm → List Row) : Nat → List Cm → List Row
  | _, [] => []
  | k, c :: cs => ([k], c) :: (sidesK f k 0 (inner c) ++ rowsK f (k + 1) cs)
def rows : Nat → List Cm → List Row
  | 0, b => rowsK (fun _ => []) 0 b
  | e + 1, b => rowsK (rows e) 0 b
def bnd : Nat → Nat
  | 0 => 3
  | e + 1 => 3 * (1 + 2 * bnd e)
/-- a comprehension without a test, the turns independent -/
theorem lcL_map {step : D → S → Res (Option D × S)} {g : D → D} {s : S} : ∀ (l acc : List D), (∀ x ∈ l, step x s = .ok (some (g x), s)) → lcL step l s acc = .ok (acc ++ l.map g, s)
  | [], acc, _ => by simp [lcL]
  | x :: l, acc, h => by
    simp only [lcL, h x List.mem_cons_self, b2_k]
    rw [lcL_map l (acc ++ [g x]) fun y hy => h y (List.mem_cons_of_mem _ hy)]
    simp
theorem ev_lc {C : Calls} {D' : Nat → D} {vs : List Nat} {tg : Tg} {it : I} {el : E} {s s1 : S} {l : List D} {g : D → D} (hi : evI C D' it s = .ok (l, s1)) (hno : noOwn s1.σ vs = true) (hl : l.length ≤ seqLine) (hw : wipeR s1.σ vs = s1.σ) (hb : backR s1.σ s1.σ vs = s1.σ)
    (hs : ∀ x ∈ l, ∃ σ1 σ2 y, asgT tg (.val x) s1.σ = some σ1 ∧ evE C D' el ⟨σ1, s1.M⟩ = .ok (y, ⟨σ2, s1.M⟩) ∧ y.fz = g x ∧ wipeR σ2 vs = s1.σ) : evE C D' (.lc vs tg it .yes el) s = .ok (.mls (l.map g), s1) := by
  simp only [evE, hi, b2_k, hno, hl, and_self, if_true]
  rw [lcL_map (g := g) l []]
  · simp only [b2_k, hb, List.nil_append]
  · intro x hx
    obtain ⟨σ1, σ2, y, h1, h2, h3, h4⟩ := hs x hx
    simp only [hw, h1, op_k, bd_k, evB, b2_k, if_true, h2, h3, h4]
theorem encP_len (p : List Nat) : (encP p).length = p.length := by simp [encP]
/-- every place is short, there are few rows -/
theorem sides_ok {f : List Cm → List Row} {B L k : Nat} : ∀ (s : Nat) (xs : List (List Cm)), (∀ x ∈ xs, (f x).length ≤ B ∧ ∀ r ∈ f x, r.1.length ≤ L) → (sidesK f k s xs).length ≤ xs.length * B ∧ ∀ r ∈ sidesK f k s xs, r.1.length ≤ L + 2
  | _, [], _ => ⟨by simp [sidesK], fun r hr => by simp [sidesK] at hr⟩
  | s, x :: xs, h => by
    obtain ⟨h1, h2⟩ := sides_ok (f := f) (B := B) (L := L) (k := k) (s + 1) xs fun y hy => h y (List.mem_cons_of_mem _ hy)
    obtain ⟨h3, h4⟩ := h x List.mem_cons_self
    refine ⟨?_, fun r hr => ?_⟩
    · simp only [sidesK, List.length_append, List.length_map, List.length_cons]
      have : (xs.length + 1) * B = xs.length * B + B := Nat.succ_mul _ _
      omega
    · simp only [sidesK, List.mem_append, List.mem_map] at hr
      rcases hr with ⟨r', hr', rfl⟩ | hr
      · have := h4 r' hr'
        simp only [List.length_cons]; omega
      · exact h2 r hr
theorem inner_two (c : Cm) : (inner c).length ≤ 2 := by cases c <;> simp [inner]
theorem rowsK_ok {f : List Cm → List Row} {B L : Nat} : ∀ (k : Nat) (b : List Cm), (∀ c ∈ b, ∀ x ∈ inner c, (f x).length ≤ B ∧ ∀ r ∈ f x, r.1.length ≤ L) → (rowsK f k b).length ≤ b.length * (1 + 2 * B) ∧ ∀ r ∈ rowsK f k b, r.1.length ≤ L + 2
  | _, [], _ => ⟨by simp [rowsK], fun r hr => by simp [rowsK] at hr⟩
  | k, c :: cs, h => by
    obtain ⟨h1, h2⟩ := rowsK_ok (f := f) (B := B) (L := L) (k + 1) cs fun y hy => h y (List.mem_cons_of_mem _ hy)
    obtain ⟨h3, h4⟩ := sides_ok (f := f) (B := B) (L := L) (k := k) 0 (inner c) (h c List.mem_cons_self)
    have h5 : (inner c).length * B ≤ 2 * B := Nat.mul_le_mul_right _ (inner_two c)
    refine ⟨?_, fun r hr => ?_⟩
    · simp only [rowsK, List.length_cons, List.length_append]
      have : (cs.length + 1) * (1 + 2 * B) = cs.length * (1 + 2 * B) + (1 + 2 * B) := Nat.succ_mul _ _
      omega
    · simp only [rowsK, List.mem_cons, List.mem_append] at hr
      rcases hr with rfl | hr | hr
      · simp
      · exact h4 r hr
      · exact h2 r hr
theorem rows_ok : ∀ (e : Nat) (b : List Cm), Good e b → (rows e b).length ≤ bnd e ∧ ∀ r ∈ rows e b, r.1.length ≤ 2 * e + 2
  | 0, b, h => by
    obtain ⟨h1, h2⟩ := rowsK_ok (f := fun _ => []) (B := 0) (L := 0) 0 b (fun c hc x hx => by rw [h.2 c hc] at hx; simp at hx)
    refine ⟨?_, h2⟩
    have := h.1
    show (rowsK _ 0 b).length ≤ 3
    omega
  | e + 1, b, h => by
    obtain ⟨h1, h2⟩ := rowsK_ok (f := rows e) (B := bnd e) (L := 2 * e + 2) 0 b (fun c hc x hx => rows_ok e x (h.2 c hc x hx))
    refine ⟨?_, fun r hr => by have := h2 r hr; omega⟩
    have h3 : b.length * (1 + 2 * bnd e) ≤ 3 * (1 + 2 * bnd e) := Nat.mul_le_mul_right _ h.1
    show (rowsK _ 0 b).length ≤ 3 * (1 + 2 * bnd e)
    omega
theorem bnd_le {e : Nat} (h : e ≤ 3) : bnd e ≤ 777 := by
  have : e = 0 ∨ e = 1 ∨ e = 2 ∨ e = 3 := by omega
  rcases this with rfl | rfl | rfl | rfl <;> decide
/-- places_in, one block -/
def PlacesP (n : Nat) (f : List Cm → List Row) (x : List Cm) : Prop := ∀ M, R n 2 [.tup (encB x)] M = .ok (.mls ((f x).map encR), M)
theorem wp2 {a b c d e f : Rv} : wipeR [a, b, c, d, e, f, .un, .un] [6, 7] = [a, b, c, d, e, f, .un, .un] := rfl
theorem bk2 {a b c d e f : Rv} : backR [a, b, c, d, e, f, .un, .un] [a, b, c, d, e, f, .un, .un] [6, 7] = [a, b, c, d, e, f, .un, .un] := rfl
theorem lc2 (n : Nat) (f : List Cm → List Row) (x : List Cm) (h : PlacesP n f x) (hl : (f x).length ≤ 900) (hp : ∀ r ∈ f x, r.1.length ≤ 20) (v0 v1 v3 : Rv) (k s : Nat) (M : Mem) :
    evE (calls fds dat n) dat b2_1 ⟨[v0, v1, .val (.int k), v3, .val (.int s), .val (.tup (encB x)), .un, .un], M⟩ =
      .ok (.mls (((f x).map fun r => (k :: s :: r.1, r.2)).map encR), ⟨[v0, v1, .val (.int k), v3, .val (.int s), .val (.tup (encB x)), .un, .un], M⟩) := by
  have hi : evI (calls fds dat n) dat (.of (.call 2 (.cons (.v 5) .nil))) ⟨[v0, v1, .val (.int k), v3, .val (.int s), .val (.tup (encB x)), .un, .un], M⟩ =
      .ok ((f x).map encR, ⟨[v0, v1, .val (.int k), v3, .val (.int s), .val (.tup (encB x)), .un, .un], M⟩) := by
    have := h M
    simp only [evSs, evS, evE, evEs, evB, evI, asgT, asgTs, rdV_k, rd_val, rd_mls, b2_k, bd_k, op_k, op_n, fz_val, fz_mls, bl_k, tru_bl, tru_lst, tru_tup, cm_lt, cm_le, cm_gt, cm_ge, cm_eqi, cm_eqs, cm_nei, bn_add, bn_addt, bn_addl, bn_sub, bn_mulR, bn_mulL, bn_div, bn_mod, bi_lent, bi_lenl, bi_lenr, bi_tupt, bi_tupl, bi_listt, bi_listl, bi_int, bi_sum, bi_all, sq_t, sq_l, sq_r, ix_k, pt_no, pt_i, no_none, no_int, sl_t, sl_l, isL, List.map_cons, List.map_nil, List.length_cons, List.length_nil, List.replicate, List.cons_append, List.nil_append, List.getElem?_cons_zero, List.getElem?_cons_succ, List.set_cons_zero, List.set_cons_succ, Option.bind_some, Option.map_some, Option.bind_none, Option.map_none, Nat.reduceAdd, Nat.reduceSub, Nat.reduceLT, Nat.reduceLeDiff, ↓reduceIte, reduceCtorEq, Bool.false_eq_true, Bool.true_and, Bool.and_true, Bool.false_and, Bool.and_false, Bool.not_true, Bool.not_false, if_true, if_false, this, itD]
  have e0 : ((f x).map fun r => (k :: s :: r.1, r.2)).map encR = ((f x).map encR).map fun d => match d with | .tup [.tup p, c] => .tup [.tup (.int k :: .int s :: p), c] | d => d := by
    rw [List.map_map, List.map_map]
    apply List.map_congr_left
    intro r _
    rfl
  rw [e0]
  unfold b2_1
  refine ev_lc hi rfl (by simp only [List.length_map]; exact le_seq hl) wp2 bk2 fun d hd => ?_
  obtain ⟨r, hr, rfl⟩ := List.mem_map.mp hd
  have h2 : 2 ≤ seqLine := by decide
  have h3 : 2 + (encP r.1).length ≤ seqLine := le_seq (by rw [encP_len]; have := hp r hr; omega)
  refine ⟨[v0, v1, .val (.int k), v3, .val (.int s), .val (.tup (encB x)), .val (.tup (encP r.1)), .val (encC r.2)], [v0, v1, .val (.int k), v3, .val (.int s), .val (.tup (encB x)), .val (.tup (encP r.1)), .val (encC r.2)], .val (.tup [.tup (.int k :: .int s :: encP r.1), encC r.2]), rfl, ?_, rfl, rfl⟩
  unfold b2_0
  simp only [evSs, evS, evE, evEs, evB, evI, asgT, asgTs, rdV_k, rd_val, rd_mls, b2_k, bd_k, op_k, op_n, fz_val, fz_mls, bl_k, tru_bl, tru_lst, tru_tup, cm_lt, cm_le, cm_gt, cm_ge, cm_eqi, cm_eqs, cm_nei, bn_add, bn_addt, bn_addl, bn_sub, bn_mulR, bn_mulL, bn_div, bn_mod, bi_lent, bi_lenl, bi_lenr, bi_tupt, bi_tupl, bi_listt, bi_listl, bi_int, bi_sum, bi_all, sq_t, sq_l, sq_r, ix_k, pt_no, pt_i, no_none, no_int, sl_t, sl_l, isL, List.map_cons, List.map_nil, List.length_cons, List.length_nil, List.replicate, List.cons_append, List.nil_append, List.getElem?_cons_zero, List.getElem?_cons_succ, List.set_cons_zero, List.set_cons_succ, Option.bind_some, Option.map_some, Option.bind_none, Option.map_none, Nat.reduceAdd, Nat.reduceSub, Nat.reduceLT, Nat.reduceLeDiff, ↓reduceIte, reduceCtorEq, Bool.false_eq_true, Bool.true_and, Bool.and_true, Bool.false_and, Bool.and_false, Bool.not_true, Bool.not_false, if_true, if_false, h2, h3]
theorem side2 (n : Nat) (f : List Cm → List Row) (v0 v3 : Rv) (k : Nat) (M : Mem) : ∀ (xs : List (List Cm)) (s : Nat) (acc : List D) (x4 x5 : Rv), (∀ x ∈ xs, PlacesP n f x ∧ (f x).length ≤ 900 ∧ ∀ r ∈ f x, r.1.length ≤ 20) → acc.length + (sidesK f k s xs).length ≤ 900 →
    ∃ y4 y5, forL (fun x t => (opt (asgT (.tp (.cons (.nm 4) (.cons (.nm 5) .nil))) (.val x) t.σ)).bind fun σ => evSs (calls fds dat n) dat b2_2 { t with σ := σ }) (enmL s (xs.map fun b => .tup (encB b))) ⟨[v0, .mls acc, .val (.int k), v3, x4, x5, .un, .un], M⟩ =
      .ok (.nx, ⟨[v0, .mls (acc ++ (sidesK f k s xs).map encR), .val (.int k), v3, y4, y5, .un, .un], M⟩)
  | [], s, acc, x4, x5, _, _ => ⟨x4, x5, by simp [enmL, forL, sidesK]⟩
  | x :: xs, s, acc, x4, x5, h, hl => by
    obtain ⟨h1, h2, h3⟩ := h x List.mem_cons_self
    simp only [sidesK, List.length_append, List.length_map] at hl
    have lc := lc2 n f x h1 h2 h3 v0 (.mls acc) v3 k s M
    obtain ⟨y4, y5, e⟩ := side2 n f v0 v3 k M xs (s + 1) (acc ++ ((f x).map fun r => (k :: s :: r.1, r.2)).map encR) (.val (.int s)) (.val (.tup (encB x))) (fun y hy => h y (List.mem_cons_of_mem _ hy)) (by simp only [List.length_append, List.length_map]; omega)
    refine ⟨y4, y5, ?_⟩
    have hz : acc.length + (((f x).map fun r => (k :: s :: r.1, r.2)).map encR).length ≤ seqLine := le_seq (by simp only [List.length_map]; omega)
    have ap : acc ++ (sidesK f k s (x :: xs)).map encR = (acc ++ ((f x).map fun r => (k :: s :: r.1, r.2)).map encR) ++ (sidesK f k (s + 1) xs).map encR := by
      simp only [sidesK, List.map_append, List.append_assoc]
    rw [ap, ← e]
    simp only [List.map_cons, enmL, forL]
    have st : (opt (asgT (.tp (.cons (.nm 4) (.cons (.nm 5) .nil))) (.val (.tup [.int s, .tup (encB x)])) [v0, .mls acc, .val (.int k), v3, x4, x5, .un, .un])).bind (fun σ => evSs (calls fds dat n) dat b2_2 ⟨σ, M⟩) =
        .ok (.nx, ⟨[v0, .mls (acc ++ ((f x).map fun r => (k :: s :: r.1, r.2)).map encR), .val (.int k), v3, .val (.int s), .val (.tup (encB x)), .un, .un], M⟩) := by
      unfold b2_2
      simp only [asgT, asgTs, evSs, evS, evE, evEs, evB, evI, asgT, asgTs, rdV_k, rd_val, rd_mls, b2_k, bd_k, op_k, op_n, fz_val, fz_mls, bl_k, tru_bl, tru_lst, tru_tup, cm_lt, cm_le, cm_gt, cm_ge, cm_eqi, cm_eqs, cm_nei, bn_add, bn_addt, bn_addl, bn_sub, bn_mulR, bn_mulL, bn_div, bn_mod, bi_lent, bi_lenl, bi_lenr, bi_tupt, bi_tupl, bi_listt, bi_listl, bi_int, bi_sum, bi_all, sq_t, sq_l, sq_r, ix_k, pt_no, pt_i, no_none, no_int, sl_t, sl_l, isL, List.map_cons, List.map_nil, List.length_cons, List.length_nil, List.replicate, List.cons_append, List.nil_append, List.getElem?_cons_zero, List.getElem?_cons_succ, List.set_cons_zero, List.set_cons_succ, Option.bind_some, Option.map_some, Option.bind_none, Option.map_none, Nat.reduceAdd, Nat.reduceSub, Nat.reduceLT, Nat.reduceLeDiff, ↓reduceIte, reduceCtorEq, Bool.false_eq_true, Bool.true_and, Bool.and_true, Bool.false_and, Bool.and_false, Bool.not_true, Bool.not_false, if_true, if_false, lc, hz]
    rw [st]
    rfl
theorem row2 (n : Nat) (f : List Cm → List Row) (v0 : Rv) (M : Mem) : ∀ (cs : List Cm) (k : Nat) (acc : List D) (x2 x3 x4 x5 : Rv), (∀ c ∈ cs, ∀ x ∈ inner c, PlacesP (n + 1) f x ∧ (f x).length ≤ 900 ∧ ∀ r ∈ f x, r.1.length ≤ 20) → acc.length + (rowsK f k cs).length ≤ 900 →
    ∃ y2 y3 y4 y5, forL (fun x t => (opt (asgT (.tp (.cons (.nm 2) (.cons (.nm 3) .nil))) (.val x) t.σ)).bind fun σ => evSs (calls fds dat (n + 1)) dat b2_4 { t with σ := σ }) (enmL k (encB cs)) ⟨[v0, .mls acc, x2, x3, x4, x5, .un, .un], M⟩ =
      .ok (.nx, ⟨[v0, .mls (acc ++ (rowsK f k cs).map encR), y2, y3, y4, y5, .un, .un], M⟩) := by
  intro cs
  induction cs with
  | nil => exact fun k acc x2 x3 x4 x5 _ _ => ⟨x2, x3, x4, x5, by simp [enmL, forL, rowsK, encB]⟩
  | cons c cs ih =>
    intro k acc x2 x3 x4 x5 h hl
    simp only [rowsK, List.length_cons, List.length_append] at hl
    obtain ⟨z4, z5, e1⟩ := side2 (n + 1) f v0 (.val (encC c)) k M (inner c) 0 (acc ++ [encR ([k], c)]) x4 x5 (h c List.mem_cons_self) (by simp only [List.length_append, List.length_cons, List.length_nil]; omega)
    obtain ⟨y2, y3, y4, y5, e⟩ := ih (k + 1) (acc ++ [encR ([k], c)] ++ (sidesK f k 0 (inner c)).map encR) (.val (.int k)) (.val (encC c)) z4 z5 (fun y hy => h y (List.mem_cons_of_mem _ hy)) (by simp only [List.length_append, List.length_map, List.length_cons, List.length_nil]; omega)
    refine ⟨y2, y3, y4, y5, ?_⟩
    have ap : acc ++ (rowsK f k (c :: cs)).map encR = acc ++ [encR ([k], c)] ++ (sidesK f k 0 (inner c)).map encR ++ (rowsK f (k + 1) cs).map encR := by
      simp only [rowsK, List.map_cons, List.map_append, List.append_assoc, List.cons_append, List.nil_append]
    rw [ap, ← e]
    simp only [encB, enmL, forL]
    have hb := blocks_of n c M
    have hz : acc.length < seqLine := lt_seq (by omega)
    have h1 : 1 ≤ seqLine := by decide
    have h2 : 2 ≤ seqLine := by decide
    have hi : evI (calls fds dat (n + 1)) dat (.enm (.call 1 (.cons (.v 3) .nil))) ⟨[v0, .mls (acc ++ [encR ([k], c)]), .val (.int k), .val (encC c), x4, x5, .un, .un], M⟩ =
        .ok (enmL 0 ((inner c).map fun b => .tup (encB b)), ⟨[v0, .mls (acc ++ [encR ([k], c)]), .val (.int k), .val (encC c), x4, x5, .un, .un], M⟩) := by
      simp only [evSs, evS, evE, evEs, evB, evI, asgT, asgTs, rdV_k, rd_val, rd_mls, b2_k, bd_k, op_k, op_n, fz_val, fz_mls, bl_k, tru_bl, tru_lst, tru_tup, cm_lt, cm_le, cm_gt, cm_ge, cm_eqi, cm_eqs, cm_nei, bn_add, bn_addt, bn_addl, bn_sub, bn_mulR, bn_mulL, bn_div, bn_mod, bi_lent, bi_lenl, bi_lenr, bi_tupt, bi_tupl, bi_listt, bi_listl, bi_int, bi_sum, bi_all, sq_t, sq_l, sq_r, ix_k, pt_no, pt_i, no_none, no_int, sl_t, sl_l, isL, List.map_cons, List.map_nil, List.length_cons, List.length_nil, List.replicate, List.cons_append, List.nil_append, List.getElem?_cons_zero, List.getElem?_cons_succ, List.set_cons_zero, List.set_cons_succ, Option.bind_some, Option.map_some, Option.bind_none, Option.map_none, Nat.reduceAdd, Nat.reduceSub, Nat.reduceLT, Nat.reduceLeDiff, ↓reduceIte, reduceCtorEq, Bool.false_eq_true, Bool.true_and, Bool.and_true, Bool.false_and, Bool.and_false, Bool.not_true, Bool.not_false, if_true, if_false, hb, itD]
    have hf : evS (calls fds dat (n + 1)) dat b2_3 ⟨[v0, .mls (acc ++ [encR ([k], c)]), .val (.int k), .val (encC c), x4, x5, .un, .un], M⟩ =
        .ok (.nx, ⟨[v0, .mls (acc ++ [encR ([k], c)] ++ (sidesK f k 0 (inner c)).map encR), .val (.int k), .val (encC c), z4, z5, .un, .un], M⟩) := by
      unfold b2_3
      rw [ev_fr, hi]
      exact e1
    have er : D.tup [.tup [.int k], encC c] = encR ([k], c) := rfl
    have st : evSs (calls fds dat (n + 1)) dat b2_4 ⟨[v0, .mls acc, .val (.int k), .val (encC c), x4, x5, .un, .un], M⟩ =
        .ok (.nx, ⟨[v0, .mls (acc ++ [encR ([k], c)] ++ (sidesK f k 0 (inner c)).map encR), .val (.int k), .val (encC c), z4, z5, .un, .un], M⟩) := by
      unfold b2_4
      simp only [evSs, evS, evE, evEs, evB, evI, asgT, asgTs, rdV_k, rd_val, rd_mls, b2_k, bd_k, op_k, op_n, fz_val, fz_mls, bl_k, tru_bl, tru_lst, tru_tup, cm_lt, cm_le, cm_gt, cm_ge, cm_eqi, cm_eqs, cm_nei, bn_add, bn_addt, bn_addl, bn_sub, bn_mulR, bn_mulL, bn_div, bn_mod, bi_lent, bi_lenl, bi_lenr, bi_tupt, bi_tupl, bi_listt, bi_listl, bi_int, bi_sum, bi_all, sq_t, sq_l, sq_r, ix_k, pt_no, pt_i, no_none, no_int, sl_t, sl_l, isL, List.map_cons, List.map_nil, List.length_cons, List.length_nil, List.replicate, List.cons_append, List.nil_append, List.getElem?_cons_zero, List.getElem?_cons_succ, List.set_cons_zero, List.set_cons_succ, Option.bind_some, Option.map_some, Option.bind_none, Option.map_none, Nat.reduceAdd, Nat.reduceSub, Nat.reduceLT, Nat.reduceLeDiff, ↓reduceIte, reduceCtorEq, Bool.false_eq_true, Bool.true_and, Bool.and_true, Bool.false_and, Bool.and_false, Bool.not_true, Bool.not_false, if_true, if_false, hz, h1, h2, er, hf]
    refine Eq.trans (congrArg (fun r => Res.b2 r _) (show _ = evSs (calls fds dat (n + 1)) dat b2_4 ⟨[v0, .mls acc, .val (.int k), .val (encC c), x4, x5, .un, .un], M⟩ from rfl)) ?_
    rw [st]
    rfl
theorem places_fin (n : Nat) (b : List Cm) (f : List Cm → List Row) (M : Mem) (y2 y3 y4 y5 : Rv)
    (h : forL (fun x t => (opt (asgT (.tp (.cons (.nm 2) (.cons (.nm 3) .nil))) (.val x) t.σ)).bind fun σ => evSs (calls fds dat (n + 1)) dat b2_4 { t with σ := σ }) (enmL 0 (encB b)) ⟨[.val (.tup (encB b)), .mls [], .un, .un, .un, .un, .un, .un], M⟩ =
      .ok (.nx, ⟨[.val (.tup (encB b)), .mls ([] ++ (rowsK f 0 b).map encR), y2, y3, y4, y5, .un, .un], M⟩)) : R (n + 1 + 1) 2 [.tup (encB b)] M = .ok (.mls ((rowsK f 0 b).map encR), M) := by
  have h0 : 0 ≤ seqLine := by decide
  rw [r_step (ar := 1) (ns := 8) (b := b2) rfl rfl]
  have hi : evI (calls fds dat (n + 1)) dat (.enm (.v 0)) ⟨[.val (.tup (encB b)), .mls [], .un, .un, .un, .un, .un, .un], M⟩ = .ok (enmL 0 (encB b), ⟨[.val (.tup (encB b)), .mls [], .un, .un, .un, .un, .un, .un], M⟩) := by
    simp only [evSs, evS, evE, evEs, evB, evI, asgT, asgTs, rdV_k, rd_val, rd_mls, b2_k, bd_k, op_k, op_n, fz_val, fz_mls, bl_k, tru_bl, tru_lst, tru_tup, cm_lt, cm_le, cm_gt, cm_ge, cm_eqi, cm_eqs, cm_nei, bn_add, bn_addt, bn_addl, bn_sub, bn_mulR, bn_mulL, bn_div, bn_mod, bi_lent, bi_lenl, bi_lenr, bi_tupt, bi_tupl, bi_listt, bi_listl, bi_int, bi_sum, bi_all, sq_t, sq_l, sq_r, ix_k, pt_no, pt_i, no_none, no_int, sl_t, sl_l, isL, List.map_cons, List.map_nil, List.length_cons, List.length_nil, List.replicate, List.cons_append, List.nil_append, List.getElem?_cons_zero, List.getElem?_cons_succ, List.set_cons_zero, List.set_cons_succ, Option.bind_some, Option.map_some, Option.bind_none, Option.map_none, Nat.reduceAdd, Nat.reduceSub, Nat.reduceLT, Nat.reduceLeDiff, ↓reduceIte, reduceCtorEq, Bool.false_eq_true, Bool.true_and, Bool.and_true, Bool.false_and, Bool.and_false, Bool.not_true, Bool.not_false, if_true, if_false, itD]
  have hf : evS (calls fds dat (n + 1)) dat b2_5 ⟨[.val (.tup (encB b)), .mls [], .un, .un, .un, .un, .un, .un], M⟩ = .ok (.nx, ⟨[.val (.tup (encB b)), .mls ([] ++ (rowsK f 0 b).map encR), y2, y3, y4, y5, .un, .un], M⟩) := by
    unfold b2_5
    rw [ev_fr, hi]
    exact h
  unfold b2
  simp only [evSs, evS, evE, evEs, evB, evI, asgT, asgTs, rdV_k, rd_val, rd_mls, b2_k, bd_k, op_k, op_n, fz_val, fz_mls, bl_k, tru_bl, tru_lst, tru_tup, cm_lt, cm_le, cm_gt, cm_ge, cm_eqi, cm_eqs, cm_nei, bn_add, bn_addt, bn_addl, bn_sub, bn_mulR, bn_mulL, bn_div, bn_mod, bi_lent, bi_lenl, bi_lenr, bi_tupt, bi_tupl, bi_listt, bi_listl, bi_int, bi_sum, bi_all, sq_t, sq_l, sq_r, ix_k, pt_no, pt_i, no_none, no_int, sl_t, sl_l, isL, List.map_cons, List.map_nil, List.length_cons, List.length_nil, List.replicate, List.cons_append, List.nil_append, List.getElem?_cons_zero, List.getElem?_cons_succ, List.set_cons_zero, List.set_cons_succ, Option.bind_some, Option.map_some, Option.bind_none, Option.map_none, Nat.reduceAdd, Nat.reduceSub, Nat.reduceLT, Nat.reduceLeDiff, ↓reduceIte, reduceCtorEq, Bool.false_eq_true, Bool.true_and, Bool.and_true, Bool.false_and, Bool.and_false, Bool.not_true, Bool.not_false, if_true, if_false, h0, hf]
  rfl
theorem places_in : ∀ (e n : Nat) (b : List Cm), e ≤ 3 → Good e b → PlacesP (n + e + 2) (rows e) b := by
  intro e
  induction e with
  | zero =>
    intro n b he g M
    obtain ⟨h1, h2⟩ := rows_ok 0 b g
    have hb := bnd_le he
    obtain ⟨y2, y3, y4, y5, h⟩ := row2 n (fun _ => []) (.val (.tup (encB b))) M b 0 [] .un .un .un .un (fun c hc x hx => by rw [g.2 c hc] at hx; simp at hx) (by simp only [List.length_nil]; have : (rowsK (fun _ => []) 0 b).length ≤ bnd 0 := h1; omega)
    exact places_fin n b _ M _ _ _ _ h
  | succ e ih =>
    intro n b he g M
    obtain ⟨h1, h2⟩ := rows_ok (e + 1) b g
    have hb := bnd_le he
    have hb2 : bnd e ≤ 777 := bnd_le (by omega)
    obtain ⟨y2, y3, y4, y5, h⟩ := row2 (n + e + 1) (rows e) (.val (.tup (encB b))) M b 0 [] .un .un .un .un (fun c hc x hx => by
      obtain ⟨k1, k2⟩ := rows_ok e x (g.2 c hc x hx)
      exact ⟨ih n x (by omega) (g.2 c hc x hx), by omega, fun r hr => by have := k2 r hr; omega⟩) (by simp only [List.length_nil]; have : (rowsK (rows e) 0 b).length ≤ bnd (e + 1) := h1; omega)
    have e9 : n + (e + 1) + 2 = (n + e + 1) + 1 + 1 := by omega
    rw [e9]
    exact places_fin (n + e + 1) b _ M _ _ _ _ h
end K69


set_option Elab.async false
set_option linter.all false
set_option maxRecDepth 100000
set_option maxHeartbeats 4000000
namespace K69
open PySem Ev
theorem at_nat {l : List D} {k : Nat} (h : k < l.length) : L2.atI l (k : Int) = l[k]? := by
  unfold L2.atI L2.ixN
  rw [if_pos (by omega : (0 : Int) ≤ (k : Int))]
  simp [h]
theorem enc_get : ∀ (b : List Cm) (k : Nat), (encB b)[k]? = b[k]?.map encC
  | [], k => by simp [encB]
  | c :: b, 0 => by simp [encB]
  | c :: b, k + 1 => by simp only [encB, List.getElem?_cons_succ]; exact enc_get b k
theorem at_enc {b pre cs : List Cm} {c : Cm} {k : Nat} (h : b = pre ++ c :: cs) (hk : pre.length = k) : L2.atI (encB b) (k : Int) = some (encC c) := by
  rw [at_nat (by rw [enc_len, h]; simp; omega), enc_get, h, List.getElem?_append_right (by omega)]
  simp [hk]
def AllP (n : Nat) (f : List Cm → List Row) (x : List Cm) : Prop := ∀ M, R n 13 [.tup (encB x)] M = .ok (.mls ((f x).map encR), M)
theorem spot_ok (c : Cm) (s : Nat) (x : List Cm) (h : (inner c)[s]? = some x) : ∃ (sp : Int) (l : List D), L2.atI (spots c) (s : Int) = some (.int sp) ∧ encC c = .tup l ∧ L2.atI l sp = some (.tup (encB x)) := by
  cases c with
  | set i => simp [inner] at h
  | free => simp [inner] at h
  | get => simp [inner] at h
  | ife a b =>
    match s, h with
    | 0, h => cases h; exact ⟨2, _, rfl, rfl, rfl⟩
    | 1, h => cases h; exact ⟨3, _, rfl, rfl, rfl⟩
  | wh a t =>
    match s, h with
    | 0, h => cases h; exact ⟨2, _, rfl, rfl, rfl⟩
  | both a b =>
    match s, h with
    | 0, h => cases h; exact ⟨1, _, rfl, rfl, rfl⟩
    | 1, h => cases h; exact ⟨2, _, rfl, rfl, rfl⟩
  | grd a =>
    match s, h with
    | 0, h => cases h; exact ⟨3, _, rfl, rfl, rfl⟩
theorem spots_len (c : Cm) : (spots c).length = (inner c).length := by cases c <;> rfl
theorem wp5 {a b c d e : Rv} : wipeR [a, b, c, d, e, .un, .un] [5, 6] = [a, b, c, d, e, .un, .un] := rfl
theorem bk5 {a b c d e : Rv} : backR [a, b, c, d, e, .un, .un] [a, b, c, d, e, .un, .un] [5, 6] = [a, b, c, d, e, .un, .un] := rfl
theorem lc13 (n : Nat) (f : List Cm → List Row) (x : List Cm) (h : AllP n f x) (hl : (f x).length ≤ 900) (hp : ∀ r ∈ f x, r.1.length ≤ 20) (b pre cs : List Cm) (c : Cm) (k s : Nat) (hb : b = pre ++ c :: cs) (hk : pre.length = k) (hx : (inner c)[s]? = some x) (v1 : Rv) (M : Mem) :
    evE (calls fds dat n) dat b13_1 ⟨[.val (.tup (encB b)), v1, .val (.int k), .val (.tup (spots c)), .val (.int s), .un, .un], M⟩ =
      .ok (.mls (((f x).map fun r => (k :: s :: r.1, r.2)).map encR), ⟨[.val (.tup (encB b)), v1, .val (.int k), .val (.tup (spots c)), .val (.int s), .un, .un], M⟩) := by
  obtain ⟨sp, l, e1, e2, e3⟩ := spot_ok c s x hx
  have ea := at_enc hb hk
  have hi : evI (calls fds dat n) dat (.of (.call 13 (.cons (.ix (.ix (.v 0) (.v 2)) (.ix (.v 3) (.v 4))) .nil))) ⟨[.val (.tup (encB b)), v1, .val (.int k), .val (.tup (spots c)), .val (.int s), .un, .un], M⟩ =
      .ok ((f x).map encR, ⟨[.val (.tup (encB b)), v1, .val (.int k), .val (.tup (spots c)), .val (.int s), .un, .un], M⟩) := by
    have := h M
    rw [e2] at ea
    simp only [evSs, evS, evE, evEs, evB, evI, asgT, asgTs, rdV_k, rd_val, rd_mls, b2_k, bd_k, op_k, op_n, fz_val, fz_mls, bl_k, tru_bl, tru_lst, tru_tup, cm_lt, cm_le, cm_gt, cm_ge, cm_eqi, cm_eqs, cm_nei, bn_add, bn_addt, bn_addl, bn_sub, bn_mulR, bn_mulL, bn_div, bn_mod, bi_lent, bi_lenl, bi_lenr, bi_tupt, bi_tupl, bi_listt, bi_listl, bi_int, bi_sum, bi_all, sq_t, sq_l, sq_r, ix_k, pt_no, pt_i, no_none, no_int, sl_t, sl_l, isL, List.map_cons, List.map_nil, List.length_cons, List.length_nil, List.replicate, List.cons_append, List.nil_append, List.getElem?_cons_zero, List.getElem?_cons_succ, List.set_cons_zero, List.set_cons_succ, Option.bind_some, Option.map_some, Option.bind_none, Option.map_none, Nat.reduceAdd, Nat.reduceSub, Nat.reduceLT, Nat.reduceLeDiff, ↓reduceIte, reduceCtorEq, Bool.false_eq_true, Bool.true_and, Bool.and_true, Bool.false_and, Bool.and_false, Bool.not_true, Bool.not_false, if_true, if_false, ea, e1, e3, this, itD]
  have e0 : ((f x).map fun r => (k :: s :: r.1, r.2)).map encR = ((f x).map encR).map fun d => match d with | .tup [.tup p, c] => .tup [.tup (.int k :: .int s :: p), c] | d => d := by
    rw [List.map_map, List.map_map]
    apply List.map_congr_left
    intro r _
    rfl
  rw [e0]
  unfold b13_1
  refine ev_lc hi rfl (by simp only [List.length_map]; exact le_seq hl) wp5 bk5 fun d hd => ?_
  obtain ⟨r, hr, rfl⟩ := List.mem_map.mp hd
  have h2 : 2 ≤ seqLine := by decide
  have h3 : 2 + (encP r.1).length ≤ seqLine := le_seq (by rw [encP_len]; have := hp r hr; omega)
  refine ⟨[.val (.tup (encB b)), v1, .val (.int k), .val (.tup (spots c)), .val (.int s), .val (.tup (encP r.1)), .val (encC r.2)], [.val (.tup (encB b)), v1, .val (.int k), .val (.tup (spots c)), .val (.int s), .val (.tup (encP r.1)), .val (encC r.2)], .val (.tup [.tup (.int k :: .int s :: encP r.1), encC r.2]), rfl, ?_, rfl, rfl⟩
  unfold b13_0
  simp only [evSs, evS, evE, evEs, evB, evI, asgT, asgTs, rdV_k, rd_val, rd_mls, b2_k, bd_k, op_k, op_n, fz_val, fz_mls, bl_k, tru_bl, tru_lst, tru_tup, cm_lt, cm_le, cm_gt, cm_ge, cm_eqi, cm_eqs, cm_nei, bn_add, bn_addt, bn_addl, bn_sub, bn_mulR, bn_mulL, bn_div, bn_mod, bi_lent, bi_lenl, bi_lenr, bi_tupt, bi_tupl, bi_listt, bi_listl, bi_int, bi_sum, bi_all, sq_t, sq_l, sq_r, ix_k, pt_no, pt_i, no_none, no_int, sl_t, sl_l, isL, List.map_cons, List.map_nil, List.length_cons, List.length_nil, List.replicate, List.cons_append, List.nil_append, List.getElem?_cons_zero, List.getElem?_cons_succ, List.set_cons_zero, List.set_cons_succ, Option.bind_some, Option.map_some, Option.bind_none, Option.map_none, Nat.reduceAdd, Nat.reduceSub, Nat.reduceLT, Nat.reduceLeDiff, ↓reduceIte, reduceCtorEq, Bool.false_eq_true, Bool.true_and, Bool.and_true, Bool.false_and, Bool.and_false, Bool.not_true, Bool.not_false, if_true, if_false, h2, h3]
theorem rng_s (k : Nat) (n : Nat) : rngD (k : Int) 1 (n + 1) = .int (k : Int) :: rngD ((k + 1 : Nat) : Int) 1 n := by
  show D.int (k : Int) :: rngD ((k : Int) + 1) 1 n = _
  rw [show ((k : Int) + 1) = ((k + 1 : Nat) : Int) by omega]
theorem side13 (n : Nat) (f : List Cm → List Row) (b pre cs : List Cm) (c : Cm) (k : Nat) (hb : b = pre ++ c :: cs) (hk : pre.length = k) (M : Mem) : ∀ (xs : List (List Cm)) (s : Nat) (ps : List (List Cm)) (acc : List D) (x4 : Rv), inner c = ps ++ xs → ps.length = s → (∀ x ∈ xs, AllP n f x ∧ (f x).length ≤ 900 ∧ ∀ r ∈ f x, r.1.length ≤ 20) → acc.length + (sidesK f k s xs).length ≤ 900 →
    ∃ y4, forL (fun x t => (opt (asgT (.nm 4) (.val x) t.σ)).bind fun σ => evSs (calls fds dat n) dat b13_2 { t with σ := σ }) (rngD (s : Int) 1 xs.length) ⟨[.val (.tup (encB b)), .mls acc, .val (.int k), .val (.tup (spots c)), x4, .un, .un], M⟩ =
      .ok (.nx, ⟨[.val (.tup (encB b)), .mls (acc ++ (sidesK f k s xs).map encR), .val (.int k), .val (.tup (spots c)), y4, .un, .un], M⟩) := by
  intro xs
  induction xs with
  | nil => exact fun s ps acc x4 _ _ _ _ => ⟨x4, by simp [rngD, forL, sidesK]⟩
  | cons x xs ih =>
    intro s ps acc x4 hps hs h hl
    obtain ⟨h1, h2, h3⟩ := h x List.mem_cons_self
    simp only [sidesK, List.length_append, List.length_map] at hl
    have hx : (inner c)[s]? = some x := by rw [hps, List.getElem?_append_right (by omega)]; simp [hs]
    have lc := lc13 n f x h1 h2 h3 b pre cs c k s hb hk hx (.mls acc) M
    obtain ⟨y4, e⟩ := ih (s + 1) (ps ++ [x]) (acc ++ ((f x).map fun r => (k :: s :: r.1, r.2)).map encR) (.val (.int s)) (by rw [hps]; simp) (by simp [hs]) (fun y hy => h y (List.mem_cons_of_mem _ hy)) (by simp only [List.length_append, List.length_map]; omega)
    refine ⟨y4, ?_⟩
    have hz : acc.length + (((f x).map fun r => (k :: s :: r.1, r.2)).map encR).length ≤ seqLine := le_seq (by simp only [List.length_map]; omega)
    have ap : acc ++ (sidesK f k s (x :: xs)).map encR = (acc ++ ((f x).map fun r => (k :: s :: r.1, r.2)).map encR) ++ (sidesK f k (s + 1) xs).map encR := by
      simp only [sidesK, List.map_append, List.append_assoc]
    rw [ap, ← e, List.length_cons, rng_s]
    simp only [forL]
    have st : evSs (calls fds dat n) dat b13_2 ⟨[.val (.tup (encB b)), .mls acc, .val (.int k), .val (.tup (spots c)), .val (.int s), .un, .un], M⟩ =
        .ok (.nx, ⟨[.val (.tup (encB b)), .mls (acc ++ ((f x).map fun r => (k :: s :: r.1, r.2)).map encR), .val (.int k), .val (.tup (spots c)), .val (.int s), .un, .un], M⟩) := by
      unfold b13_2
      simp only [evSs, evS, evE, evEs, evB, evI, asgT, asgTs, rdV_k, rd_val, rd_mls, b2_k, bd_k, op_k, op_n, fz_val, fz_mls, bl_k, tru_bl, tru_lst, tru_tup, cm_lt, cm_le, cm_gt, cm_ge, cm_eqi, cm_eqs, cm_nei, bn_add, bn_addt, bn_addl, bn_sub, bn_mulR, bn_mulL, bn_div, bn_mod, bi_lent, bi_lenl, bi_lenr, bi_tupt, bi_tupl, bi_listt, bi_listl, bi_int, bi_sum, bi_all, sq_t, sq_l, sq_r, ix_k, pt_no, pt_i, no_none, no_int, sl_t, sl_l, isL, List.map_cons, List.map_nil, List.length_cons, List.length_nil, List.replicate, List.cons_append, List.nil_append, List.getElem?_cons_zero, List.getElem?_cons_succ, List.set_cons_zero, List.set_cons_succ, Option.bind_some, Option.map_some, Option.bind_none, Option.map_none, Nat.reduceAdd, Nat.reduceSub, Nat.reduceLT, Nat.reduceLeDiff, ↓reduceIte, reduceCtorEq, Bool.false_eq_true, Bool.true_and, Bool.and_true, Bool.false_and, Bool.and_false, Bool.not_true, Bool.not_false, if_true, if_false, lc, hz]
    have ag : asgT (.nm 4) (.val (.int s)) [.val (.tup (encB b)), .mls acc, .val (.int k), .val (.tup (spots c)), x4, .un, .un] = some [.val (.tup (encB b)), .mls acc, .val (.int k), .val (.tup (spots c)), .val (.int s), .un, .un] := rfl
    simp only [ag, op_k, bd_k, st, b2_k]
theorem rng_ok {n : Nat} (h : n ≤ 1000) : rng2D (.int 0) (.int (n : Int)) = some (rngD ((0 : Nat) : Int) 1 n) := by
  unfold rng2D
  have : (smallI 0 && smallI (n : Int)) = true := by rw [smallI_of (i := (n : Int)) (by omega)]; rfl
  simp only [this, if_true, Int.sub_zero, Int.toNat_natCast]
  rfl
theorem row13 (n : Nat) (f : List Cm → List Row) (b : List Cm) (M : Mem) : ∀ (cs : List Cm) (k : Nat) (pre : List Cm) (acc : List D) (x2 x3 x4 : Rv), b = pre ++ cs → pre.length = k → (∀ c ∈ cs, ∀ x ∈ inner c, AllP (n + 1) f x ∧ (f x).length ≤ 900 ∧ ∀ r ∈ f x, r.1.length ≤ 20) → acc.length + (rowsK f k cs).length ≤ 900 →
    ∃ y2 y3 y4, forL (fun x t => (opt (asgT (.nm 2) (.val x) t.σ)).bind fun σ => evSs (calls fds dat (n + 1)) dat b13_4 { t with σ := σ }) (rngD (k : Int) 1 cs.length) ⟨[.val (.tup (encB b)), .mls acc, x2, x3, x4, .un, .un], M⟩ =
      .ok (.nx, ⟨[.val (.tup (encB b)), .mls (acc ++ (rowsK f k cs).map encR), y2, y3, y4, .un, .un], M⟩) := by
  intro cs
  induction cs with
  | nil => exact fun k pre acc x2 x3 x4 _ _ _ _ => ⟨x2, x3, x4, by simp [rngD, forL, rowsK]⟩
  | cons c cs ih =>
    intro k pre acc x2 x3 x4 hb hk h hl
    simp only [rowsK, List.length_cons, List.length_append] at hl
    obtain ⟨z4, e1⟩ := side13 (n + 1) f b pre cs c k hb hk M (inner c) 0 [] (acc ++ [encR ([k], c)]) x4 rfl rfl (h c List.mem_cons_self) (by simp only [List.length_append, List.length_cons, List.length_nil]; omega)
    obtain ⟨y2, y3, y4, e⟩ := ih (k + 1) (pre ++ [c]) (acc ++ [encR ([k], c)] ++ (sidesK f k 0 (inner c)).map encR) (.val (.int k)) (.val (.tup (spots c))) z4 (by rw [hb]; simp) (by simp [hk]) (fun y hy => h y (List.mem_cons_of_mem _ hy)) (by simp only [List.length_append, List.length_map, List.length_cons, List.length_nil]; omega)
    refine ⟨y2, y3, y4, ?_⟩
    have ap : acc ++ (rowsK f k (c :: cs)).map encR = acc ++ [encR ([k], c)] ++ (sidesK f k 0 (inner c)).map encR ++ (rowsK f (k + 1) cs).map encR := by
      simp only [rowsK, List.map_cons, List.map_append, List.append_assoc, List.cons_append, List.nil_append]
    rw [ap, ← e, List.length_cons, rng_s]
    simp only [forL]
    have hsp := law_spots n c M
    have ea := at_enc hb hk
    have hz : acc.length < seqLine := lt_seq (by omega)
    have h1 : 1 ≤ seqLine := by decide
    have h2 : 2 ≤ seqLine := by decide
    have rg := rng_ok (n := (spots c).length) (by rw [spots_len]; have := inner_two c; omega)
    have hi : evI (calls fds dat (n + 1)) dat (.rng1 (.bi .len (.v 3))) ⟨[.val (.tup (encB b)), .mls (acc ++ [encR ([k], c)]), .val (.int k), .val (.tup (spots c)), x4, .un, .un], M⟩ =
        .ok (rngD ((0 : Nat) : Int) 1 (inner c).length, ⟨[.val (.tup (encB b)), .mls (acc ++ [encR ([k], c)]), .val (.int k), .val (.tup (spots c)), x4, .un, .un], M⟩) := by
      rw [spots_len] at rg
      simp only [evSs, evS, evE, evEs, evB, evI, asgT, asgTs, rdV_k, rd_val, rd_mls, b2_k, bd_k, op_k, op_n, fz_val, fz_mls, bl_k, tru_bl, tru_lst, tru_tup, cm_lt, cm_le, cm_gt, cm_ge, cm_eqi, cm_eqs, cm_nei, bn_add, bn_addt, bn_addl, bn_sub, bn_mulR, bn_mulL, bn_div, bn_mod, bi_lent, bi_lenl, bi_lenr, bi_tupt, bi_tupl, bi_listt, bi_listl, bi_int, bi_sum, bi_all, sq_t, sq_l, sq_r, ix_k, pt_no, pt_i, no_none, no_int, sl_t, sl_l, isL, List.map_cons, List.map_nil, List.length_cons, List.length_nil, List.replicate, List.cons_append, List.nil_append, List.getElem?_cons_zero, List.getElem?_cons_succ, List.set_cons_zero, List.set_cons_succ, Option.bind_some, Option.map_some, Option.bind_none, Option.map_none, Nat.reduceAdd, Nat.reduceSub, Nat.reduceLT, Nat.reduceLeDiff, ↓reduceIte, reduceCtorEq, Bool.false_eq_true, Bool.true_and, Bool.and_true, Bool.false_and, Bool.and_false, Bool.not_true, Bool.not_false, if_true, if_false, spots_len, rg]
    have hf : evS (calls fds dat (n + 1)) dat b13_3 ⟨[.val (.tup (encB b)), .mls (acc ++ [encR ([k], c)]), .val (.int k), .val (.tup (spots c)), x4, .un, .un], M⟩ =
        .ok (.nx, ⟨[.val (.tup (encB b)), .mls (acc ++ [encR ([k], c)] ++ (sidesK f k 0 (inner c)).map encR), .val (.int k), .val (.tup (spots c)), z4, .un, .un], M⟩) := by
      unfold b13_3
      rw [ev_fr, hi]
      exact e1
    have er : D.tup [.tup [.int k], encC c] = encR ([k], c) := rfl
    have st : evSs (calls fds dat (n + 1)) dat b13_4 ⟨[.val (.tup (encB b)), .mls acc, .val (.int k), x3, x4, .un, .un], M⟩ =
        .ok (.nx, ⟨[.val (.tup (encB b)), .mls (acc ++ [encR ([k], c)] ++ (sidesK f k 0 (inner c)).map encR), .val (.int k), .val (.tup (spots c)), z4, .un, .un], M⟩) := by
      unfold b13_4
      simp only [evSs, evS, evE, evEs, evB, evI, asgT, asgTs, rdV_k, rd_val, rd_mls, b2_k, bd_k, op_k, op_n, fz_val, fz_mls, bl_k, tru_bl, tru_lst, tru_tup, cm_lt, cm_le, cm_gt, cm_ge, cm_eqi, cm_eqs, cm_nei, bn_add, bn_addt, bn_addl, bn_sub, bn_mulR, bn_mulL, bn_div, bn_mod, bi_lent, bi_lenl, bi_lenr, bi_tupt, bi_tupl, bi_listt, bi_listl, bi_int, bi_sum, bi_all, sq_t, sq_l, sq_r, ix_k, pt_no, pt_i, no_none, no_int, sl_t, sl_l, isL, List.map_cons, List.map_nil, List.length_cons, List.length_nil, List.replicate, List.cons_append, List.nil_append, List.getElem?_cons_zero, List.getElem?_cons_succ, List.set_cons_zero, List.set_cons_succ, Option.bind_some, Option.map_some, Option.bind_none, Option.map_none, Nat.reduceAdd, Nat.reduceSub, Nat.reduceLT, Nat.reduceLeDiff, ↓reduceIte, reduceCtorEq, Bool.false_eq_true, Bool.true_and, Bool.and_true, Bool.false_and, Bool.and_false, Bool.not_true, Bool.not_false, if_true, if_false, hz, h1, h2, ea, er, hsp, hf]
    have ag : asgT (.nm 2) (.val (.int k)) [.val (.tup (encB b)), .mls acc, x2, x3, x4, .un, .un] = some [.val (.tup (encB b)), .mls acc, .val (.int k), x3, x4, .un, .un] := rfl
    simp only [ag, op_k, bd_k, st, b2_k]
theorem all_fin (n : Nat) (b : List Cm) (f : List Cm → List Row) (M : Mem) (y2 y3 y4 : Rv) (hb : b.length ≤ 3)
    (h : forL (fun x t => (opt (asgT (.nm 2) (.val x) t.σ)).bind fun σ => evSs (calls fds dat (n + 1)) dat b13_4 { t with σ := σ }) (rngD ((0 : Nat) : Int) 1 b.length) ⟨[.val (.tup (encB b)), .mls [], .un, .un, .un, .un, .un], M⟩ =
      .ok (.nx, ⟨[.val (.tup (encB b)), .mls ([] ++ (rowsK f 0 b).map encR), y2, y3, y4, .un, .un], M⟩)) : R (n + 1 + 1) 13 [.tup (encB b)] M = .ok (.mls ((rowsK f 0 b).map encR), M) := by
  have h0 : 0 ≤ seqLine := by decide
  rw [r_step (ar := 1) (ns := 7) (b := b13) rfl rfl]
  have rg := rng_ok (n := b.length) (by omega)
  have hi : evI (calls fds dat (n + 1)) dat (.rng1 (.bi .len (.v 0))) ⟨[.val (.tup (encB b)), .mls [], .un, .un, .un, .un, .un], M⟩ = .ok (rngD ((0 : Nat) : Int) 1 b.length, ⟨[.val (.tup (encB b)), .mls [], .un, .un, .un, .un, .un], M⟩) := by
    simp only [evSs, evS, evE, evEs, evB, evI, asgT, asgTs, rdV_k, rd_val, rd_mls, b2_k, bd_k, op_k, op_n, fz_val, fz_mls, bl_k, tru_bl, tru_lst, tru_tup, cm_lt, cm_le, cm_gt, cm_ge, cm_eqi, cm_eqs, cm_nei, bn_add, bn_addt, bn_addl, bn_sub, bn_mulR, bn_mulL, bn_div, bn_mod, bi_lent, bi_lenl, bi_lenr, bi_tupt, bi_tupl, bi_listt, bi_listl, bi_int, bi_sum, bi_all, sq_t, sq_l, sq_r, ix_k, pt_no, pt_i, no_none, no_int, sl_t, sl_l, isL, List.map_cons, List.map_nil, List.length_cons, List.length_nil, List.replicate, List.cons_append, List.nil_append, List.getElem?_cons_zero, List.getElem?_cons_succ, List.set_cons_zero, List.set_cons_succ, Option.bind_some, Option.map_some, Option.bind_none, Option.map_none, Nat.reduceAdd, Nat.reduceSub, Nat.reduceLT, Nat.reduceLeDiff, ↓reduceIte, reduceCtorEq, Bool.false_eq_true, Bool.true_and, Bool.and_true, Bool.false_and, Bool.and_false, Bool.not_true, Bool.not_false, if_true, if_false, enc_len, rg]
  have hf : evS (calls fds dat (n + 1)) dat b13_5 ⟨[.val (.tup (encB b)), .mls [], .un, .un, .un, .un, .un], M⟩ = .ok (.nx, ⟨[.val (.tup (encB b)), .mls ([] ++ (rowsK f 0 b).map encR), y2, y3, y4, .un, .un], M⟩) := by
    unfold b13_5
    rw [ev_fr, hi]
    exact h
  unfold b13
  simp only [evSs, evS, evE, evEs, evB, evI, asgT, asgTs, rdV_k, rd_val, rd_mls, b2_k, bd_k, op_k, op_n, fz_val, fz_mls, bl_k, tru_bl, tru_lst, tru_tup, cm_lt, cm_le, cm_gt, cm_ge, cm_eqi, cm_eqs, cm_nei, bn_add, bn_addt, bn_addl, bn_sub, bn_mulR, bn_mulL, bn_div, bn_mod, bi_lent, bi_lenl, bi_lenr, bi_tupt, bi_tupl, bi_listt, bi_listl, bi_int, bi_sum, bi_all, sq_t, sq_l, sq_r, ix_k, pt_no, pt_i, no_none, no_int, sl_t, sl_l, isL, List.map_cons, List.map_nil, List.length_cons, List.length_nil, List.replicate, List.cons_append, List.nil_append, List.getElem?_cons_zero, List.getElem?_cons_succ, List.set_cons_zero, List.set_cons_succ, Option.bind_some, Option.map_some, Option.bind_none, Option.map_none, Nat.reduceAdd, Nat.reduceSub, Nat.reduceLT, Nat.reduceLeDiff, ↓reduceIte, reduceCtorEq, Bool.false_eq_true, Bool.true_and, Bool.and_true, Bool.false_and, Bool.and_false, Bool.not_true, Bool.not_false, if_true, if_false, h0, hf]
  rfl
theorem law_all : ∀ (e n : Nat) (b : List Cm), e ≤ 3 → Good e b → AllP (n + e + 2) (rows e) b := by
  intro e
  induction e with
  | zero =>
    intro n b he g M
    obtain ⟨h1, h2⟩ := rows_ok 0 b g
    have hb := bnd_le he
    obtain ⟨y2, y3, y4, h⟩ := row13 n (fun _ => []) b M b 0 [] [] .un .un .un rfl rfl (fun c hc x hx => by rw [g.2 c hc] at hx; simp at hx) (by simp only [List.length_nil]; have : (rowsK (fun _ => []) 0 b).length ≤ bnd 0 := h1; omega)
    exact all_fin n b _ M _ _ _ g.1 h
  | succ e ih =>
    intro n b he g M
    obtain ⟨h1, h2⟩ := rows_ok (e + 1) b g
    have hb := bnd_le he
    have hb2 : bnd e ≤ 777 := bnd_le (by omega)
    obtain ⟨y2, y3, y4, h⟩ := row13 (n + e + 1) (rows e) b M b 0 [] [] .un .un .un rfl rfl (fun c hc x hx => by
      obtain ⟨k1, k2⟩ := rows_ok e x (g.2 c hc x hx)
      exact ⟨ih n x (by omega) (g.2 c hc x hx), by omega, fun r hr => by have := k2 r hr; omega⟩) (by simp only [List.length_nil]; have : (rowsK (rows e) 0 b).length ≤ bnd (e + 1) := h1; omega)
    have e9 : n + (e + 1) + 2 = (n + e + 1) + 1 + 1 := by omega
    rw [e9]
    exact all_fin (n + e + 1) b _ M _ _ _ g.1 h
end K69


set_option Elab.async false
set_option linter.all false
set_option maxRecDepth 100000
set_option maxHeartbeats 4000000
namespace K69
open PySem Ev
/-- plain data of no more than that depth -/
def Pl : Nat → D → Prop
  | _, .non => True
  | _, .bl _ => True
  | _, .int _ => True
  | _, .str _ => True
  | e + 1, .tup l => l.length ≤ 900 ∧ ∀ x ∈ l, Pl e x
  | e + 1, .lst l => l.length ≤ 900 ∧ ∀ x ∈ l, Pl e x
  | _, _ => False
theorem rng_mem : ∀ (n k : Nat) (x : D), x ∈ rngD (k : Int) 1 n → ∃ j, k ≤ j ∧ j < k + n ∧ x = .int (j : Int)
  | 0, k, x, h => by simp [rngD] at h
  | n + 1, k, x, h => by
    rw [rng_s] at h
    rcases List.mem_cons.mp h with rfl | h
    · exact ⟨k, Nat.le_refl _, by omega, rfl⟩
    · obtain ⟨j, h1, h2, h3⟩ := rng_mem n (k + 1) x h
      exact ⟨j, by omega, by omega, h3⟩
theorem bls_true : ∀ l : List D, blsOf (l.map fun _ => D.bl true) = some (l.map fun _ => true)
  | [] => rfl
  | x :: l => by simp only [List.map_cons, blsOf, bls_true l, Option.map_some]
theorem all_true : ∀ l : List D, (l.map fun _ => true).all id = true
  | [] => rfl
  | x :: l => by simp only [List.map_cons, List.all_cons, all_true l, id, Bool.and_self]
theorem is_tt {l : List D} : isTy .tuple (.tup l) = some true := rfl
theorem is_tl {l : List D} : isTy .tuple (.lst l) = some false := rfl
theorem is_ll {l : List D} : isTy .list (.lst l) = some true := rfl
theorem lc9 (n : Nat) (v : D) (l : List D) (hv : ∀ M, seqOf M v = some l) (hn : ∀ M, biD M .len v = some (.val (.int (l.length : Int)))) (hl : l.length ≤ 900) (h : ∀ x ∈ l, ∀ M, R n 9 [x, x] M = .ok (.val (.bl true), M)) (M : Mem) :
    evE (calls fds dat n) dat b9_1 ⟨[.val v, .val v, .un], M⟩ = .ok (.mls ((rngD ((0 : Nat) : Int) 1 l.length).map fun _ => .bl true), ⟨[.val v, .val v, .un], M⟩) := by
  have rg := rng_ok (n := l.length) (by omega)
  have hi : evI (calls fds dat n) dat (.rng1 (.bi .len (.v 0))) ⟨[.val v, .val v, .un], M⟩ = .ok (rngD ((0 : Nat) : Int) 1 l.length, ⟨[.val v, .val v, .un], M⟩) := by
    simp only [evSs, evS, evE, evEs, evB, evI, asgT, asgTs, rdV_k, rd_val, rd_mls, b2_k, bd_k, op_k, op_n, fz_val, fz_mls, bl_k, tru_bl, tru_lst, tru_tup, cm_lt, cm_le, cm_gt, cm_ge, cm_eqi, cm_eqs, cm_nei, bn_add, bn_addt, bn_addl, bn_sub, bn_mulR, bn_mulL, bn_div, bn_mod, bi_lent, bi_lenl, bi_lenr, bi_tupt, bi_tupl, bi_listt, bi_listl, bi_int, bi_sum, bi_all, sq_t, sq_l, sq_r, ix_k, pt_no, pt_i, no_none, no_int, sl_t, sl_l, isL, List.map_cons, List.map_nil, List.length_cons, List.length_nil, List.replicate, List.cons_append, List.nil_append, List.getElem?_cons_zero, List.getElem?_cons_succ, List.set_cons_zero, List.set_cons_succ, Option.bind_some, Option.map_some, Option.bind_none, Option.map_none, Nat.reduceAdd, Nat.reduceSub, Nat.reduceLT, Nat.reduceLeDiff, ↓reduceIte, reduceCtorEq, Bool.false_eq_true, Bool.true_and, Bool.and_true, Bool.false_and, Bool.and_false, Bool.not_true, Bool.not_false, if_true, if_false, hn, rg]
  unfold b9_1
  refine ev_lc hi rfl (by rw [rng_len]; exact le_seq hl) rfl rfl fun d hd => ?_
  obtain ⟨j, _, hj, rfl⟩ := rng_mem _ _ _ hd
  rw [Nat.zero_add] at hj
  have ex : l[j]? = some l[j] := by simp [hj]
  have ea : L2.atI l (j : Int) = some l[j] := by rw [at_nat hj, ex]
  have hc := h l[j] (List.getElem_mem hj) M
  refine ⟨[.val v, .val v, .val (.int j)], [.val v, .val v, .val (.int j)], .val (.bl true), rfl, ?_, rfl, rfl⟩
  unfold b9_0
  simp only [evSs, evS, evE, evEs, evB, evI, asgT, asgTs, rdV_k, rd_val, rd_mls, b2_k, bd_k, op_k, op_n, fz_val, fz_mls, bl_k, tru_bl, tru_lst, tru_tup, cm_lt, cm_le, cm_gt, cm_ge, cm_eqi, cm_eqs, cm_nei, bn_add, bn_addt, bn_addl, bn_sub, bn_mulR, bn_mulL, bn_div, bn_mod, bi_lent, bi_lenl, bi_lenr, bi_tupt, bi_tupl, bi_listt, bi_listl, bi_int, bi_sum, bi_all, sq_t, sq_l, sq_r, ix_k, pt_no, pt_i, no_none, no_int, sl_t, sl_l, isL, List.map_cons, List.map_nil, List.length_cons, List.length_nil, List.replicate, List.cons_append, List.nil_append, List.getElem?_cons_zero, List.getElem?_cons_succ, List.set_cons_zero, List.set_cons_succ, Option.bind_some, Option.map_some, Option.bind_none, Option.map_none, Nat.reduceAdd, Nat.reduceSub, Nat.reduceLT, Nat.reduceLeDiff, ↓reduceIte, reduceCtorEq, Bool.false_eq_true, Bool.true_and, Bool.and_true, Bool.false_and, Bool.and_false, Bool.not_true, Bool.not_false, if_true, if_false, hv, ea, hc]
theorem same : ∀ (e n : Nat) (d : D), Pl e d → ∀ M, R (n + e + 1) 9 [d, d] M = .ok (.val (.bl true), M) := by
  have atom : ∀ (n : Nat) (d : D), (match d with | .non => True | .bl _ => True | .int _ => True | .str _ => True | _ => False) → ∀ M, R (n + 1) 9 [d, d] M = .ok (.val (.bl true), M) := by
    intro n d h M
    rw [r_step (ar := 2) (ns := 3) (b := b9) rfl rfl]
    unfold b9
    cases d <;> first | exact h.elim | skip
    · rfl
    · rename_i b
      cases b <;> rfl
    · rename_i i
      simp only [evSs, evS, evE, evEs, evB, evI, asgT, asgTs, rdV_k, rd_val, rd_mls, b2_k, bd_k, op_k, op_n, fz_val, fz_mls, bl_k, tru_bl, tru_lst, tru_tup, cm_lt, cm_le, cm_gt, cm_ge, cm_eqi, cm_eqs, cm_nei, bn_add, bn_addt, bn_addl, bn_sub, bn_mulR, bn_mulL, bn_div, bn_mod, bi_lent, bi_lenl, bi_lenr, bi_tupt, bi_tupl, bi_listt, bi_listl, bi_int, bi_sum, bi_all, sq_t, sq_l, sq_r, ix_k, pt_no, pt_i, no_none, no_int, sl_t, sl_l, isL, List.map_cons, List.map_nil, List.length_cons, List.length_nil, List.replicate, List.cons_append, List.nil_append, List.getElem?_cons_zero, List.getElem?_cons_succ, List.set_cons_zero, List.set_cons_succ, Option.bind_some, Option.map_some, Option.bind_none, Option.map_none, Nat.reduceAdd, Nat.reduceSub, Nat.reduceLT, Nat.reduceLeDiff, ↓reduceIte, reduceCtorEq, Bool.false_eq_true, Bool.true_and, Bool.and_true, Bool.false_and, Bool.and_false, Bool.not_true, Bool.not_false, if_true, if_false, isTy, decide_true]
      rfl
    · rename_i x
      simp only [evSs, evS, evE, evEs, evB, evI, asgT, asgTs, rdV_k, rd_val, rd_mls, b2_k, bd_k, op_k, op_n, fz_val, fz_mls, bl_k, tru_bl, tru_lst, tru_tup, cm_lt, cm_le, cm_gt, cm_ge, cm_eqi, cm_eqs, cm_nei, bn_add, bn_addt, bn_addl, bn_sub, bn_mulR, bn_mulL, bn_div, bn_mod, bi_lent, bi_lenl, bi_lenr, bi_tupt, bi_tupl, bi_listt, bi_listl, bi_int, bi_sum, bi_all, sq_t, sq_l, sq_r, ix_k, pt_no, pt_i, no_none, no_int, sl_t, sl_l, isL, List.map_cons, List.map_nil, List.length_cons, List.length_nil, List.replicate, List.cons_append, List.nil_append, List.getElem?_cons_zero, List.getElem?_cons_succ, List.set_cons_zero, List.set_cons_succ, Option.bind_some, Option.map_some, Option.bind_none, Option.map_none, Nat.reduceAdd, Nat.reduceSub, Nat.reduceLT, Nat.reduceLeDiff, ↓reduceIte, reduceCtorEq, Bool.false_eq_true, Bool.true_and, Bool.and_true, Bool.false_and, Bool.and_false, Bool.not_true, Bool.not_false, if_true, if_false, isTy, decide_true]
      rfl
  intro e
  induction e with
  | zero =>
    intro n d h M
    refine atom n d ?_ M
    cases d <;> first | trivial | exact h
  | succ e ih =>
    intro n d h M
    have seqc : ∀ (l : List D), (d = .tup l ∨ d = .lst l) → l.length ≤ 900 → (∀ x ∈ l, Pl e x) → R (n + (e + 1) + 1) 9 [d, d] M = .ok (.val (.bl true), M) := by
      intro l hd hl hx
      have e9 : n + (e + 1) + 1 = (n + e + 1) + 1 := by omega
      rw [e9, r_step (ar := 2) (ns := 3) (b := b9) rfl rfl]
      have hlc := lc9 (n + e + 1) d l (by rcases hd with rfl | rfl <;> exact fun _ => rfl) (by rcases hd with rfl | rfl <;> exact fun _ => rfl) hl (fun x hx' M => ih n x (hx x hx') M) M
      have hb := bls_true (rngD ((0 : Nat) : Int) 1 l.length)
      have ha := all_true (rngD ((0 : Nat) : Int) 1 l.length)
      unfold b9
      rcases hd with rfl | rfl
      · simp only [evSs, evS, evE, evEs, evB, evI, asgT, asgTs, rdV_k, rd_val, rd_mls, b2_k, bd_k, op_k, op_n, fz_val, fz_mls, bl_k, tru_bl, tru_lst, tru_tup, cm_lt, cm_le, cm_gt, cm_ge, cm_eqi, cm_eqs, cm_nei, bn_add, bn_addt, bn_addl, bn_sub, bn_mulR, bn_mulL, bn_div, bn_mod, bi_lent, bi_lenl, bi_lenr, bi_tupt, bi_tupl, bi_listt, bi_listl, bi_int, bi_sum, bi_all, sq_t, sq_l, sq_r, ix_k, pt_no, pt_i, no_none, no_int, sl_t, sl_l, isL, List.map_cons, List.map_nil, List.length_cons, List.length_nil, List.replicate, List.cons_append, List.nil_append, List.getElem?_cons_zero, List.getElem?_cons_succ, List.set_cons_zero, List.set_cons_succ, Option.bind_some, Option.map_some, Option.bind_none, Option.map_none, Nat.reduceAdd, Nat.reduceSub, Nat.reduceLT, Nat.reduceLeDiff, ↓reduceIte, reduceCtorEq, Bool.false_eq_true, Bool.true_and, Bool.and_true, Bool.false_and, Bool.and_false, Bool.not_true, Bool.not_false, if_true, if_false, is_tt, decide_true, hlc, hb, ha]
        rfl
      · simp only [evSs, evS, evE, evEs, evB, evI, asgT, asgTs, rdV_k, rd_val, rd_mls, b2_k, bd_k, op_k, op_n, fz_val, fz_mls, bl_k, tru_bl, tru_lst, tru_tup, cm_lt, cm_le, cm_gt, cm_ge, cm_eqi, cm_eqs, cm_nei, bn_add, bn_addt, bn_addl, bn_sub, bn_mulR, bn_mulL, bn_div, bn_mod, bi_lent, bi_lenl, bi_lenr, bi_tupt, bi_tupl, bi_listt, bi_listl, bi_int, bi_sum, bi_all, sq_t, sq_l, sq_r, ix_k, pt_no, pt_i, no_none, no_int, sl_t, sl_l, isL, List.map_cons, List.map_nil, List.length_cons, List.length_nil, List.replicate, List.cons_append, List.nil_append, List.getElem?_cons_zero, List.getElem?_cons_succ, List.set_cons_zero, List.set_cons_succ, Option.bind_some, Option.map_some, Option.bind_none, Option.map_none, Nat.reduceAdd, Nat.reduceSub, Nat.reduceLT, Nat.reduceLeDiff, ↓reduceIte, reduceCtorEq, Bool.false_eq_true, Bool.true_and, Bool.and_true, Bool.false_and, Bool.and_false, Bool.not_true, Bool.not_false, if_true, if_false, is_tl, is_ll, decide_true, hlc, hb, ha]
        rfl
    cases d with
    | tup l => exact seqc l (.inl rfl) h.1 h.2
    | lst l => exact seqc l (.inr rfl) h.1 h.2
    | non => exact atom (n + (e + 1)) _ trivial M
    | bl b => exact atom (n + (e + 1)) _ trivial M
    | int i => exact atom (n + (e + 1)) _ trivial M
    | str x => exact atom (n + (e + 1)) _ trivial M
    | dic a b => exact h.elim
    | ref m => exact h.elim
end K69


set_option Elab.async false
set_option linter.all false
set_option maxRecDepth 100000
set_option maxHeartbeats 4000000
namespace K69
open PySem Ev
theorem lcL_ints {step : D → S → Res (Option D × S)} {s : S} : ∀ (l acc : List D), (∀ x ∈ l, ∃ m : Int, step x s = .ok (some (.int m), s)) → ∃ ms : List Int, lcL step l s acc = .ok (acc ++ ms.map D.int, s)
  | [], acc, _ => ⟨[], by simp [lcL]⟩
  | x :: l, acc, h => by
    obtain ⟨m, hm⟩ := h x List.mem_cons_self
    obtain ⟨ms, e⟩ := lcL_ints l (acc ++ [.int m]) fun y hy => h y (List.mem_cons_of_mem _ hy)
    refine ⟨m :: ms, ?_⟩
    simp only [lcL, hm, b2_k, e]
    simp
theorem ev_lcI {C : Calls} {D' : Nat → D} {vs : List Nat} {tg : Tg} {it : I} {el : E} {s s1 : S} {l : List D} (hi : evI C D' it s = .ok (l, s1)) (hno : noOwn s1.σ vs = true) (hl : l.length ≤ seqLine) (hw : wipeR s1.σ vs = s1.σ) (hb : backR s1.σ s1.σ vs = s1.σ)
    (hs : ∀ x ∈ l, ∃ σ1 σ2, ∃ m : Int, asgT tg (.val x) s1.σ = some σ1 ∧ evE C D' el ⟨σ1, s1.M⟩ = .ok (.val (.int m), ⟨σ2, s1.M⟩) ∧ wipeR σ2 vs = s1.σ) : ∃ ms : List Int, evE C D' (.lc vs tg it .yes el) s = .ok (.mls (ms.map D.int), s1) := by
  simp only [evE, hi, b2_k, hno, hl, and_self, if_true]
  obtain ⟨ms, e⟩ := lcL_ints (step := fun x s => (opt (asgT tg (.val x) (wipeR s.σ vs))).bind fun σ => (evB C D' .yes { s with σ := σ }).b2 fun k s => if k = true then (evE C D' el s).b2 fun y s => .ok (some y.fz, { s with σ := wipeR s.σ vs }) else .ok (none, { s with σ := wipeR s.σ vs })) (s := s1) l [] fun x hx => by
    obtain ⟨σ1, σ2, m, h1, h2, h4⟩ := hs x hx
    refine ⟨m, ?_⟩
    simp only [hw, h1, op_k, bd_k, evB, b2_k, if_true, h2, h4, fz_val]
  refine ⟨ms, ?_⟩
  rw [e]
  simp only [b2_k, hb, List.nil_append]
theorem ints_of : ∀ ms : List Int, intsOf (ms.map D.int) = some ms
  | [] => rfl
  | m :: ms => by simp only [List.map_cons, intsOf, ints_of ms, Option.map_some]
theorem get_spots (C : Calls) (c : Cm) (v0 v1 x3 x4 : Rv) (M : Mem) : evE C dat (.get2 (.dsp (.cons (.str "if") (.cons (.tup (.cons (.int 2) (.cons (.int 3) .nil))) (.cons (.str "while") (.cons (.tup (.cons (.int 2) .nil)) (.cons (.str "both") (.cons (.tup (.cons (.int 1) (.cons (.int 2) .nil))) (.cons (.str "guard") (.cons (.tup (.cons (.int 3) .nil)) .nil))))))))) (.ix (.v 2) (.int 0)) (.tup .nil)) ⟨[v0, v1, .val (encC c), x3, x4], M⟩ =
    .ok (.val (.tup (spots c)), ⟨[v0, v1, .val (encC c), x3, x4], M⟩) := by
  cases c <;> kernel_rfl
def ManyP (n : Nat) (x : List Cm) : Prop := ∀ M, ∃ m : Int, R n 11 [.tup (encB x)] M = .ok (.val (.int m), M)
theorem spots_at (c : Cm) (d : D) (h : d ∈ spots c) : ∃ (x : List Cm) (sp : Int) (l : List D), x ∈ inner c ∧ d = .int sp ∧ encC c = .tup l ∧ L2.atI l sp = some (.tup (encB x)) := by
  obtain ⟨s, hs, e⟩ := List.getElem_of_mem h
  have hs' : s < (inner c).length := by rw [← spots_len]; exact hs
  obtain ⟨sp, l, e1, e2, e3⟩ := spot_ok c s (inner c)[s] (by simp [hs'])
  rw [at_nat hs] at e1
  rw [List.getElem?_eq_getElem hs, e] at e1
  exact ⟨_, sp, l, List.getElem_mem hs', Option.some.inj e1, e2, e3⟩
theorem many_turn (n : Nat) (c : Cm) (h : ∀ x ∈ inner c, ManyP n x) (v0 x2 x3 : Rv) (f : Int) (M : Mem) : ∃ (f' : Int) (y2 y3 : Rv), (opt (asgT (.nm 2) (.val (encC c)) [v0, .val (.int f), x2, x3, .un])).bind (fun σ => evSs (calls fds dat n) dat b11_2 ⟨σ, M⟩) = .ok (.nx, ⟨[v0, .val (.int f'), y2, y3, .un], M⟩) := by
  have ag : asgT (.nm 2) (.val (encC c)) [v0, .val (.int f), x2, x3, .un] = some [v0, .val (.int f), .val (encC c), x3, .un] := rfl
  have gs := get_spots (calls fds dat n) c v0 (.val (.int f)) x3 .un M
  have hi : evI (calls fds dat n) dat (.of (.v 3)) ⟨[v0, .val (.int f), .val (encC c), .val (.tup (spots c)), .un], M⟩ = .ok (spots c, ⟨[v0, .val (.int f), .val (encC c), .val (.tup (spots c)), .un], M⟩) := by
    simp only [evSs, evS, evE, evEs, evB, evI, asgT, asgTs, rdV_k, rd_val, rd_mls, b2_k, bd_k, op_k, op_n, fz_val, fz_mls, bl_k, tru_bl, tru_lst, tru_tup, cm_lt, cm_le, cm_gt, cm_ge, cm_eqi, cm_eqs, cm_nei, bn_add, bn_addt, bn_addl, bn_sub, bn_mulR, bn_mulL, bn_div, bn_mod, bi_lent, bi_lenl, bi_lenr, bi_tupt, bi_tupl, bi_listt, bi_listl, bi_int, bi_sum, bi_all, sq_t, sq_l, sq_r, ix_k, pt_no, pt_i, no_none, no_int, sl_t, sl_l, isL, List.map_cons, List.map_nil, List.length_cons, List.length_nil, List.replicate, List.cons_append, List.nil_append, List.getElem?_cons_zero, List.getElem?_cons_succ, List.set_cons_zero, List.set_cons_succ, Option.bind_some, Option.map_some, Option.bind_none, Option.map_none, Nat.reduceAdd, Nat.reduceSub, Nat.reduceLT, Nat.reduceLeDiff, ↓reduceIte, reduceCtorEq, Bool.false_eq_true, Bool.true_and, Bool.and_true, Bool.false_and, Bool.and_false, Bool.not_true, Bool.not_false, if_true, if_false, itD]
  obtain ⟨ms, hlc⟩ := ev_lcI (C := calls fds dat n) (D' := dat) (vs := [4]) (tg := .nm 4) (el := b11_0) hi rfl (by rw [spots_len]; exact le_seq (by have := inner_two c; omega)) rfl rfl fun d hd => by
    obtain ⟨x, sp, l, k1, rfl, k2, k3⟩ := spots_at c d hd
    obtain ⟨m, hm⟩ := h x k1 M
    refine ⟨[v0, .val (.int f), .val (encC c), .val (.tup (spots c)), .val (.int sp)], [v0, .val (.int f), .val (encC c), .val (.tup (spots c)), .val (.int sp)], m, rfl, ?_, rfl⟩
    unfold b11_0
    rw [k2]
    simp only [evSs, evS, evE, evEs, evB, evI, asgT, asgTs, rdV_k, rd_val, rd_mls, b2_k, bd_k, op_k, op_n, fz_val, fz_mls, bl_k, tru_bl, tru_lst, tru_tup, cm_lt, cm_le, cm_gt, cm_ge, cm_eqi, cm_eqs, cm_nei, bn_add, bn_addt, bn_addl, bn_sub, bn_mulR, bn_mulL, bn_div, bn_mod, bi_lent, bi_lenl, bi_lenr, bi_tupt, bi_tupl, bi_listt, bi_listl, bi_int, bi_sum, bi_all, sq_t, sq_l, sq_r, ix_k, pt_no, pt_i, no_none, no_int, sl_t, sl_l, isL, List.map_cons, List.map_nil, List.length_cons, List.length_nil, List.replicate, List.cons_append, List.nil_append, List.getElem?_cons_zero, List.getElem?_cons_succ, List.set_cons_zero, List.set_cons_succ, Option.bind_some, Option.map_some, Option.bind_none, Option.map_none, Nat.reduceAdd, Nat.reduceSub, Nat.reduceLT, Nat.reduceLeDiff, ↓reduceIte, reduceCtorEq, Bool.false_eq_true, Bool.true_and, Bool.and_true, Bool.false_and, Bool.and_false, Bool.not_true, Bool.not_false, if_true, if_false, k3, hm]
  have hlc' : evE (calls fds dat n) dat b11_1 ⟨[v0, .val (.int f), .val (encC c), .val (.tup (spots c)), .un], M⟩ = .ok (.mls (ms.map D.int), ⟨[v0, .val (.int f), .val (encC c), .val (.tup (spots c)), .un], M⟩) := hlc
  refine ⟨f + ms.sum, .val (encC c), .val (.tup (spots c)), ?_⟩
  rw [ag, op_k, bd_k]
  unfold b11_2
  have i1 := ints_of ms
  have e1 : ∀ (ts : Ts) (s : S), evSs (calls fds dat n) dat (.cons (.asg (.nm 3) (.get2 (.dsp (.cons (.str "if") (.cons (.tup (.cons (.int 2) (.cons (.int 3) .nil))) (.cons (.str "while") (.cons (.tup (.cons (.int 2) .nil)) (.cons (.str "both") (.cons (.tup (.cons (.int 1) (.cons (.int 2) .nil))) (.cons (.str "guard") (.cons (.tup (.cons (.int 3) .nil)) .nil))))))))) (.ix (.v 2) (.int 0)) (.tup .nil))) ts) ⟨[v0, .val (.int f), .val (encC c), x3, .un], M⟩ =
      evSs (calls fds dat n) dat ts ⟨[v0, .val (.int f), .val (encC c), .val (.tup (spots c)), .un], M⟩ := fun ts s => by
    rw [evSs, evS, gs]
    rfl
  rw [e1 _ ⟨[], M⟩]
  simp only [evSs, evS, evE, evEs, evB, evI, asgT, asgTs, rdV_k, rd_val, rd_mls, b2_k, bd_k, op_k, op_n, fz_val, fz_mls, bl_k, tru_bl, tru_lst, tru_tup, cm_lt, cm_le, cm_gt, cm_ge, cm_eqi, cm_eqs, cm_nei, bn_add, bn_addt, bn_addl, bn_sub, bn_mulR, bn_mulL, bn_div, bn_mod, bi_lent, bi_lenl, bi_lenr, bi_tupt, bi_tupl, bi_listt, bi_listl, bi_int, bi_sum, bi_all, sq_t, sq_l, sq_r, ix_k, pt_no, pt_i, no_none, no_int, sl_t, sl_l, isL, List.map_cons, List.map_nil, List.length_cons, List.length_nil, List.replicate, List.cons_append, List.nil_append, List.getElem?_cons_zero, List.getElem?_cons_succ, List.set_cons_zero, List.set_cons_succ, Option.bind_some, Option.map_some, Option.bind_none, Option.map_none, Nat.reduceAdd, Nat.reduceSub, Nat.reduceLT, Nat.reduceLeDiff, ↓reduceIte, reduceCtorEq, Bool.false_eq_true, Bool.true_and, Bool.and_true, Bool.false_and, Bool.and_false, Bool.not_true, Bool.not_false, if_true, if_false, hlc', i1]
theorem many_all : ∀ (e n : Nat) (b : List Cm), Good e b → ManyP (n + e + 1) b := by
  intro e
  have loop : ∀ (n : Nat) (v0 : Rv) (M : Mem) (cs : List Cm) (f : Int) (x2 x3 : Rv), (∀ c ∈ cs, ∀ x ∈ inner c, ManyP n x) → ∃ (f' : Int) (y2 y3 : Rv), forL (fun x t => (opt (asgT (.nm 2) (.val x) t.σ)).bind fun σ => evSs (calls fds dat n) dat b11_2 { t with σ := σ }) (encB cs) ⟨[v0, .val (.int f), x2, x3, .un], M⟩ = .ok (.nx, ⟨[v0, .val (.int f'), y2, y3, .un], M⟩) := by
    intro n v0 M cs
    induction cs with
    | nil => exact fun f x2 x3 _ => ⟨f, x2, x3, by simp [encB, forL]⟩
    | cons c cs ih =>
      intro f x2 x3 h
      obtain ⟨f1, y2, y3, e1⟩ := many_turn n c (h c List.mem_cons_self) v0 x2 x3 f M
      obtain ⟨f2, z2, z3, e2⟩ := ih f1 y2 y3 fun y hy => h y (List.mem_cons_of_mem _ hy)
      refine ⟨f2, z2, z3, ?_⟩
      simp only [encB, forL]
      rw [e1]
      exact e2
  have fin : ∀ (n : Nat) (b : List Cm), (∀ c ∈ b, ∀ x ∈ inner c, ManyP n x) → ManyP (n + 1) b := by
    intro n b h M
    obtain ⟨f', y2, y3, e1⟩ := loop n (.val (.tup (encB b))) M b (b.length : Int) .un .un h
    refine ⟨f', ?_⟩
    rw [r_step (ar := 1) (ns := 5) (b := b11) rfl rfl]
    have hi : evI (calls fds dat n) dat (.of (.v 0)) ⟨[.val (.tup (encB b)), .val (.int (b.length : Int)), .un, .un, .un], M⟩ = .ok (encB b, ⟨[.val (.tup (encB b)), .val (.int (b.length : Int)), .un, .un, .un], M⟩) := by
      simp only [evSs, evS, evE, evEs, evB, evI, asgT, asgTs, rdV_k, rd_val, rd_mls, b2_k, bd_k, op_k, op_n, fz_val, fz_mls, bl_k, tru_bl, tru_lst, tru_tup, cm_lt, cm_le, cm_gt, cm_ge, cm_eqi, cm_eqs, cm_nei, bn_add, bn_addt, bn_addl, bn_sub, bn_mulR, bn_mulL, bn_div, bn_mod, bi_lent, bi_lenl, bi_lenr, bi_tupt, bi_tupl, bi_listt, bi_listl, bi_int, bi_sum, bi_all, sq_t, sq_l, sq_r, ix_k, pt_no, pt_i, no_none, no_int, sl_t, sl_l, isL, List.map_cons, List.map_nil, List.length_cons, List.length_nil, List.replicate, List.cons_append, List.nil_append, List.getElem?_cons_zero, List.getElem?_cons_succ, List.set_cons_zero, List.set_cons_succ, Option.bind_some, Option.map_some, Option.bind_none, Option.map_none, Nat.reduceAdd, Nat.reduceSub, Nat.reduceLT, Nat.reduceLeDiff, ↓reduceIte, reduceCtorEq, Bool.false_eq_true, Bool.true_and, Bool.and_true, Bool.false_and, Bool.and_false, Bool.not_true, Bool.not_false, if_true, if_false, itD]
    have hf : evS (calls fds dat n) dat b11_3 ⟨[.val (.tup (encB b)), .val (.int (b.length : Int)), .un, .un, .un], M⟩ = .ok (.nx, ⟨[.val (.tup (encB b)), .val (.int f'), y2, y3, .un], M⟩) := by
      unfold b11_3
      rw [ev_fr, hi]
      exact e1
    unfold b11
    simp only [evSs, evS, evE, evEs, evB, evI, asgT, asgTs, rdV_k, rd_val, rd_mls, b2_k, bd_k, op_k, op_n, fz_val, fz_mls, bl_k, tru_bl, tru_lst, tru_tup, cm_lt, cm_le, cm_gt, cm_ge, cm_eqi, cm_eqs, cm_nei, bn_add, bn_addt, bn_addl, bn_sub, bn_mulR, bn_mulL, bn_div, bn_mod, bi_lent, bi_lenl, bi_lenr, bi_tupt, bi_tupl, bi_listt, bi_listl, bi_int, bi_sum, bi_all, sq_t, sq_l, sq_r, ix_k, pt_no, pt_i, no_none, no_int, sl_t, sl_l, isL, List.map_cons, List.map_nil, List.length_cons, List.length_nil, List.replicate, List.cons_append, List.nil_append, List.getElem?_cons_zero, List.getElem?_cons_succ, List.set_cons_zero, List.set_cons_succ, Option.bind_some, Option.map_some, Option.bind_none, Option.map_none, Nat.reduceAdd, Nat.reduceSub, Nat.reduceLT, Nat.reduceLeDiff, ↓reduceIte, reduceCtorEq, Bool.false_eq_true, Bool.true_and, Bool.and_true, Bool.false_and, Bool.and_false, Bool.not_true, Bool.not_false, if_true, if_false, enc_len, hf]
    rfl
  induction e with
  | zero => exact fun n b g => fin (n + 0) b fun c hc x hx => by rw [g.2 c hc] at hx; simp at hx
  | succ e ih =>
    intro n b g
    have e9 : n + (e + 1) + 1 = (n + e + 1) + 1 := by omega
    rw [e9]
    exact fin (n + e + 1) b fun c hc x hx => ih n x (g.2 c hc x hx)
end K69


set_option Elab.async false
set_option linter.all false
set_option maxRecDepth 100000
set_option maxHeartbeats 4000000
namespace K69
open PySem Ev
/-- the commands at a place -/
def atS (m : Nat) : List Nat → List Cm → Option (List Cm)
  | [], _ => none
  | [k], b => if k + m ≤ b.length then some ((b.drop k).take m) else none
  | k :: s :: p, b => (b[k]?).bind fun c => ((inner c)[s]?).bind fun x => atS m p x
def encO : Option (List Cm) → D
  | none => .non
  | some b => .tup (encB b)
theorem enc_drop : ∀ (k : Nat) (b : List Cm), (encB b).drop k = encB (b.drop k)
  | 0, b => by simp
  | k + 1, [] => by simp [encB]
  | k + 1, c :: b => by simp only [encB, List.drop_succ_cons]; exact enc_drop k b
theorem enc_take : ∀ (k : Nat) (b : List Cm), (encB b).take k = encB (b.take k)
  | 0, b => by simp [encB]
  | k + 1, [] => by simp [encB]
  | k + 1, c :: b => by simp only [encB, List.take_succ_cons]; rw [enc_take k b]
theorem cut_mid (b : List Cm) (k m : Nat) (h : k + m ≤ b.length) : cutD (encB b) (some (k : Int)) (some ((k : Int) + (m : Int))) = encB ((b.drop k).take m) := by
  have e : ((k : Int) + (m : Int)) = ((k + m : Nat) : Int) := by omega
  unfold cutD
  rw [e, HT.sIx_nat, HT.sIx_nat, enc_len, Nat.min_eq_left h, Nat.min_eq_left (by omega : k ≤ b.length), enc_drop, enc_take, Nat.add_sub_cancel_left]
theorem atx1 {x y : D} {l : List D} : L2.atI (x :: y :: l) 1 = some y := by
  have := at_nat (l := x :: y :: l) (k := 1) (by simp)
  simpa using this
theorem lc15 (n : Nat) (v0 v2 : Rv) (p : List Nat) (hp : p.length ≤ 900) (M : Mem) : evE (calls fds dat n) dat b15_1 ⟨[v0, .val (.tup (encP p)), v2, .un], M⟩ = .ok (.mls ((encP p).map fun _ => .bl true), ⟨[v0, .val (.tup (encP p)), v2, .un], M⟩) := by
  have hi : evI (calls fds dat n) dat (.of (.v 1)) ⟨[v0, .val (.tup (encP p)), v2, .un], M⟩ = .ok (encP p, ⟨[v0, .val (.tup (encP p)), v2, .un], M⟩) := by
    simp only [evSs, evS, evE, evEs, evB, evI, asgT, asgTs, rdV_k, rd_val, rd_mls, b2_k, bd_k, op_k, op_n, fz_val, fz_mls, bl_k, tru_bl, tru_lst, tru_tup, cm_lt, cm_le, cm_gt, cm_ge, cm_eqi, cm_eqs, cm_nei, bn_add, bn_addt, bn_addl, bn_sub, bn_mulR, bn_mulL, bn_div, bn_mod, bi_lent, bi_lenl, bi_lenr, bi_tupt, bi_tupl, bi_listt, bi_listl, bi_int, bi_sum, bi_all, sq_t, sq_l, sq_r, ix_k, pt_no, pt_i, no_none, no_int, sl_t, sl_l, isL, List.map_cons, List.map_nil, List.length_cons, List.length_nil, List.replicate, List.cons_append, List.nil_append, List.getElem?_cons_zero, List.getElem?_cons_succ, List.set_cons_zero, List.set_cons_succ, Option.bind_some, Option.map_some, Option.bind_none, Option.map_none, Nat.reduceAdd, Nat.reduceSub, Nat.reduceLT, Nat.reduceLeDiff, ↓reduceIte, reduceCtorEq, Bool.false_eq_true, Bool.true_and, Bool.and_true, Bool.false_and, Bool.and_false, Bool.not_true, Bool.not_false, if_true, if_false, itD]
  unfold b15_1
  refine ev_lc hi rfl (by rw [encP_len]; exact le_seq hp) rfl rfl fun d hd => ?_
  obtain ⟨k, _, rfl⟩ := List.mem_map.mp hd
  refine ⟨[v0, .val (.tup (encP p)), v2, .val (.int k)], [v0, .val (.tup (encP p)), v2, .val (.int k)], .val (.bl true), rfl, ?_, rfl, rfl⟩
  unfold b15_0
  have h0 : decide ((0 : Int) ≤ (k : Int)) = true := decide_eq_true (by omega)
  simp only [evSs, evS, evE, evEs, evB, evI, asgT, asgTs, rdV_k, rd_val, rd_mls, b2_k, bd_k, op_k, op_n, fz_val, fz_mls, bl_k, tru_bl, tru_lst, tru_tup, cm_lt, cm_le, cm_gt, cm_ge, cm_eqi, cm_eqs, cm_nei, bn_add, bn_addt, bn_addl, bn_sub, bn_mulR, bn_mulL, bn_div, bn_mod, bi_lent, bi_lenl, bi_lenr, bi_tupt, bi_tupl, bi_listt, bi_listl, bi_int, bi_sum, bi_all, sq_t, sq_l, sq_r, ix_k, pt_no, pt_i, no_none, no_int, sl_t, sl_l, isL, List.map_cons, List.map_nil, List.length_cons, List.length_nil, List.replicate, List.cons_append, List.nil_append, List.getElem?_cons_zero, List.getElem?_cons_succ, List.set_cons_zero, List.set_cons_succ, Option.bind_some, Option.map_some, Option.bind_none, Option.map_none, Nat.reduceAdd, Nat.reduceSub, Nat.reduceLT, Nat.reduceLeDiff, ↓reduceIte, reduceCtorEq, Bool.false_eq_true, Bool.true_and, Bool.and_true, Bool.false_and, Bool.and_false, Bool.not_true, Bool.not_false, if_true, if_false, isTy, h0]
theorem two {P : List Nat → Prop} (h0 : P []) (h1 : ∀ k, P [k]) (h2 : ∀ k s p, P p → P (k :: s :: p)) : ∀ p, P p
  | [] => h0
  | [k] => h1 k
  | k :: s :: p => h2 k s p (two h0 h1 h2 p)
theorem cs0 : ((0 : Nat) : Int) = 0 := rfl
theorem cs1 : ((1 : Nat) : Int) = 1 := rfl
theorem cs2 : ((2 : Nat) : Int) = 2 := rfl
theorem no_ix {a b : E} : isNo (.ix a b) = false := rfl
theorem no_bin {o : Bop} {a b : E} : isNo (.bin o a b) = false := rfl
theorem pos1 (n : Nat) : decide (((n + 1 : Nat) : Int) = 0) = false := decide_eq_false (by omega)
theorem law_row : ∀ (p : List Nat) (n m : Nat) (b : List Cm) (M : Mem), p.length ≤ 11 → R (n + p.length + 2) 15 [.tup (encB b), .tup (encP p), .int (m : Int)] M = .ok (.val (encO (atS m p b)), M) := by
  intro p
  refine two (P := fun p => ∀ (n m : Nat) (b : List Cm) (M : Mem), p.length ≤ 11 → R (n + p.length + 2) 15 [.tup (encB b), .tup (encP p), .int (m : Int)] M = .ok (.val (encO (atS m p b)), M)) ?_ ?_ ?_ p
  ·
    intro n m b M _
    rw [r_step (ar := 3) (ns := 4) (b := b15) rfl rfl]
    unfold b15
    simp only [evSs, evS, evE, evEs, evB, evI, asgT, asgTs, rdV_k, rd_val, rd_mls, b2_k, bd_k, op_k, op_n, fz_val, fz_mls, bl_k, tru_bl, tru_lst, tru_tup, cm_lt, cm_le, cm_gt, cm_ge, cm_eqi, cm_eqs, cm_nei, bn_add, bn_addt, bn_addl, bn_sub, bn_mulR, bn_mulL, bn_div, bn_mod, bi_lent, bi_lenl, bi_lenr, bi_tupt, bi_tupl, bi_listt, bi_listl, bi_int, bi_sum, bi_all, sq_t, sq_l, sq_r, ix_k, pt_no, pt_i, no_none, no_int, sl_t, sl_l, isL, List.map_cons, List.map_nil, List.length_cons, List.length_nil, List.replicate, List.cons_append, List.nil_append, List.getElem?_cons_zero, List.getElem?_cons_succ, List.set_cons_zero, List.set_cons_succ, Option.bind_some, Option.map_some, Option.bind_none, Option.map_none, Nat.reduceAdd, Nat.reduceSub, Nat.reduceLT, Nat.reduceLeDiff, ↓reduceIte, reduceCtorEq, Bool.false_eq_true, Bool.true_and, Bool.and_true, Bool.false_and, Bool.and_false, Bool.not_true, Bool.not_false, if_true, if_false, encP, isTy, Int.reduceLT, decide_true]
    rfl
  · intro k n m b M _
    have hlc := fun q => lc15 q (.val (.tup (encB b))) (.val (.int m)) [k] (by simp) M
    have hb := bls_true (encP [k])
    have ha := all_true (encP [k])
    rw [r_step (ar := 3) (ns := 4) (b := b15) rfl rfl]
    unfold b15
    by_cases h : k + m ≤ b.length
    · have h1 : decide ((k : Int) + (m : Int) ≤ (b.length : Int)) = true := decide_eq_true (by omega)
      have hc := cut_mid b k m h
      have hz : atS m [k] b = some ((b.drop k).take m) := by simp only [atS, if_pos h]
      rw [hz]
      simp only [encP, List.map_cons, List.map_nil] at hlc hb ha ⊢
      simp only [evSs, evS, evE, evEs, evB, evI, asgT, asgTs, rdV_k, rd_val, rd_mls, b2_k, bd_k, op_k, op_n, fz_val, fz_mls, bl_k, tru_bl, tru_lst, tru_tup, cm_lt, cm_le, cm_gt, cm_ge, cm_eqi, cm_eqs, cm_nei, bn_add, bn_addt, bn_addl, bn_sub, bn_mulR, bn_mulL, bn_div, bn_mod, bi_lent, bi_lenl, bi_lenr, bi_tupt, bi_tupl, bi_listt, bi_listl, bi_int, bi_sum, bi_all, sq_t, sq_l, sq_r, ix_k, pt_no, pt_i, no_none, no_int, sl_t, sl_l, isL, List.map_cons, List.map_nil, List.length_cons, List.length_nil, List.replicate, List.cons_append, List.nil_append, List.getElem?_cons_zero, List.getElem?_cons_succ, List.set_cons_zero, List.set_cons_succ, Option.bind_some, Option.map_some, Option.bind_none, Option.map_none, Nat.reduceAdd, Nat.reduceSub, Nat.reduceLT, Nat.reduceLeDiff, ↓reduceIte, reduceCtorEq, Bool.false_eq_true, Bool.true_and, Bool.and_true, Bool.false_and, Bool.and_false, Bool.not_true, Bool.not_false, if_true, if_false, isTy, hlc, hb, ha, at_0, enc_len, h1, hc, cs0, cs1, cs2, no_ix, no_bin, Int.reduceLT, Int.reduceEq, decide_true, decide_false]
      rfl
    · have h1 : decide ((k : Int) + (m : Int) ≤ (b.length : Int)) = false := decide_eq_false (by omega)
      have hz : atS m [k] b = none := by simp only [atS, if_neg h]
      rw [hz]
      simp only [encP, List.map_cons, List.map_nil] at hlc hb ha ⊢
      simp only [evSs, evS, evE, evEs, evB, evI, asgT, asgTs, rdV_k, rd_val, rd_mls, b2_k, bd_k, op_k, op_n, fz_val, fz_mls, bl_k, tru_bl, tru_lst, tru_tup, cm_lt, cm_le, cm_gt, cm_ge, cm_eqi, cm_eqs, cm_nei, bn_add, bn_addt, bn_addl, bn_sub, bn_mulR, bn_mulL, bn_div, bn_mod, bi_lent, bi_lenl, bi_lenr, bi_tupt, bi_tupl, bi_listt, bi_listl, bi_int, bi_sum, bi_all, sq_t, sq_l, sq_r, ix_k, pt_no, pt_i, no_none, no_int, sl_t, sl_l, isL, List.map_cons, List.map_nil, List.length_cons, List.length_nil, List.replicate, List.cons_append, List.nil_append, List.getElem?_cons_zero, List.getElem?_cons_succ, List.set_cons_zero, List.set_cons_succ, Option.bind_some, Option.map_some, Option.bind_none, Option.map_none, Nat.reduceAdd, Nat.reduceSub, Nat.reduceLT, Nat.reduceLeDiff, ↓reduceIte, reduceCtorEq, Bool.false_eq_true, Bool.true_and, Bool.and_true, Bool.false_and, Bool.and_false, Bool.not_true, Bool.not_false, if_true, if_false, isTy, hlc, hb, ha, at_0, enc_len, h1, cs0, cs1, cs2, no_ix, no_bin, Int.reduceLT, Int.reduceEq, decide_true, decide_false]
      rfl
  · intro k s p ih n m b M hp
    have hlp : (k :: s :: p).length = p.length + 2 := rfl
    rw [hlp] at hp
    have hlc := fun q => lc15 q (.val (.tup (encB b))) (.val (.int m)) (k :: s :: p) (by rw [hlp]; omega) M
    have hb := bls_true (encP (k :: s :: p))
    have ha := all_true (encP (k :: s :: p))
    have l0 : decide (((p.length + 1 + 1 : Nat) : Int) = 0) = false := decide_eq_false (by omega)
    have l1 : decide ((11 : Int) < ((p.length + 1 + 1 : Nat) : Int)) = false := decide_eq_false (by omega)
    have l2 : decide (((p.length + 1 + 1 : Nat) : Int) = 1) = false := decide_eq_false (by omega)
    rw [hlp, show n + (p.length + 2) + 2 = (n + (p.length + 2) + 1) + 1 by omega, r_step (ar := 3) (ns := 4) (b := b15) rfl rfl]
    unfold b15
    cases p with
    | nil =>
      have hz : atS m [k, s] b = none := by
        simp only [atS]
        cases b[k]? with
        | none => rfl
        | some c =>
          simp only [Option.bind_some]
          cases (inner c)[s]? <;> rfl
      rw [hz]
      simp only [encP, List.map_cons, List.map_nil] at hlc hb ha ⊢
      simp only [evSs, evS, evE, evEs, evB, evI, asgT, asgTs, rdV_k, rd_val, rd_mls, b2_k, bd_k, op_k, op_n, fz_val, fz_mls, bl_k, tru_bl, tru_lst, tru_tup, cm_lt, cm_le, cm_gt, cm_ge, cm_eqi, cm_eqs, cm_nei, bn_add, bn_addt, bn_addl, bn_sub, bn_mulR, bn_mulL, bn_div, bn_mod, bi_lent, bi_lenl, bi_lenr, bi_tupt, bi_tupl, bi_listt, bi_listl, bi_int, bi_sum, bi_all, sq_t, sq_l, sq_r, ix_k, pt_no, pt_i, no_none, no_int, sl_t, sl_l, isL, List.map_cons, List.map_nil, List.length_cons, List.length_nil, List.replicate, List.cons_append, List.nil_append, List.getElem?_cons_zero, List.getElem?_cons_succ, List.set_cons_zero, List.set_cons_succ, Option.bind_some, Option.map_some, Option.bind_none, Option.map_none, Nat.reduceAdd, Nat.reduceSub, Nat.reduceLT, Nat.reduceLeDiff, ↓reduceIte, reduceCtorEq, Bool.false_eq_true, Bool.true_and, Bool.and_true, Bool.false_and, Bool.and_false, Bool.not_true, Bool.not_false, if_true, if_false, isTy, hlc, hb, ha, cs0, cs1, cs2, no_ix, no_bin, Int.reduceLT, Int.reduceEq, decide_true, decide_false]
      rfl
    | cons q p =>
      have l3 : decide (((p.length + 1 + 1 + 1 : Nat) : Int) = 2) = false := decide_eq_false (by omega)
      have hcl : cutD (encP (k :: s :: q :: p)) (some 2) none = encP (q :: p) := cut_drop (encP (k :: s :: q :: p)) 2
      simp only [List.length_cons] at l0 l1 l2
      by_cases hk : k < b.length
      · have ek : L2.atI (encB b) (k : Int) = some (encC b[k]) := by rw [at_nat (by rw [enc_len]; exact hk), enc_get]; simp [hk]
        have g1 : decide ((b.length : Int) ≤ (k : Int)) = false := decide_eq_false (by omega)
        have hsp := fun q => law_spots q b[k] M
        by_cases hs : s < (inner b[k]).length
        · have g2 : decide (((inner b[k]).length : Int) ≤ (s : Int)) = false := decide_eq_false (by omega)
          obtain ⟨sp, l, e1, e2, e3⟩ := spot_ok b[k] s (inner b[k])[s] (by simp [hs])
          have hz : atS m (k :: s :: q :: p) b = atS m (q :: p) (inner b[k])[s] := by
            simp only [atS, List.getElem?_eq_getElem hk, Option.bind_some, List.getElem?_eq_getElem hs]
          have hr := ih (n + 1) m (inner b[k])[s] M (by simp only [List.length_cons] at hp ⊢; omega)
          rw [hz]
          have e9 : n + 1 + (q :: p).length + 2 = n + (p.length + 1 + 2) + 1 := by simp only [List.length_cons]; omega
          rw [e9] at hr
          simp only [encP, List.map_cons] at hlc hb ha hcl hr ⊢
          simp only [evSs, evS, evE, evEs, evB, evI, asgT, asgTs, rdV_k, rd_val, rd_mls, b2_k, bd_k, op_k, op_n, fz_val, fz_mls, bl_k, tru_bl, tru_lst, tru_tup, cm_lt, cm_le, cm_gt, cm_ge, cm_eqi, cm_eqs, cm_nei, bn_add, bn_addt, bn_addl, bn_sub, bn_mulR, bn_mulL, bn_div, bn_mod, bi_lent, bi_lenl, bi_lenr, bi_tupt, bi_tupl, bi_listt, bi_listl, bi_int, bi_sum, bi_all, sq_t, sq_l, sq_r, ix_k, pt_no, pt_i, no_none, no_int, sl_t, sl_l, isL, List.map_cons, List.map_nil, List.length_cons, List.length_nil, List.replicate, List.cons_append, List.nil_append, List.getElem?_cons_zero, List.getElem?_cons_succ, List.set_cons_zero, List.set_cons_succ, Option.bind_some, Option.map_some, Option.bind_none, Option.map_none, Nat.reduceAdd, Nat.reduceSub, Nat.reduceLT, Nat.reduceLeDiff, ↓reduceIte, reduceCtorEq, Bool.false_eq_true, Bool.true_and, Bool.and_true, Bool.false_and, Bool.and_false, Bool.not_true, Bool.not_false, if_true, if_false, isTy, hlc, hb, ha, at_0, atx1, enc_len, spots_len, l0, l1, l2, l3, g1, g2, hcl, hsp, cs0, cs1, cs2, no_ix, no_bin, Int.reduceLT, Int.reduceEq, decide_true, decide_false, List.length_map]
          rw [e2] at ek
          simp only [e2] at hsp
          have hlen := spots_len b[k]
          have sl : (D.tup (spots b[k])) = .tup (spots b[k]) := rfl
          simp only [evSs, evS, evE, evEs, evB, evI, asgT, asgTs, rdV_k, rd_val, rd_mls, b2_k, bd_k, op_k, op_n, fz_val, fz_mls, bl_k, tru_bl, tru_lst, tru_tup, cm_lt, cm_le, cm_gt, cm_ge, cm_eqi, cm_eqs, cm_nei, bn_add, bn_addt, bn_addl, bn_sub, bn_mulR, bn_mulL, bn_div, bn_mod, bi_lent, bi_lenl, bi_lenr, bi_tupt, bi_tupl, bi_listt, bi_listl, bi_int, bi_sum, bi_all, sq_t, sq_l, sq_r, ix_k, pt_no, pt_i, no_none, no_int, sl_t, sl_l, isL, List.map_cons, List.map_nil, List.length_cons, List.length_nil, List.replicate, List.cons_append, List.nil_append, List.getElem?_cons_zero, List.getElem?_cons_succ, List.set_cons_zero, List.set_cons_succ, Option.bind_some, Option.map_some, Option.bind_none, Option.map_none, Nat.reduceAdd, Nat.reduceSub, Nat.reduceLT, Nat.reduceLeDiff, ↓reduceIte, reduceCtorEq, Bool.false_eq_true, Bool.true_and, Bool.and_true, Bool.false_and, Bool.and_false, Bool.not_true, Bool.not_false, if_true, if_false, at_0, atx1, ek, e1, e3, hr, hsp, hlen, g2, hcl, no_ix, no_bin]
          rfl
        · have g2 : decide (((inner b[k]).length : Int) ≤ (s : Int)) = true := decide_eq_true (by omega)
          have hz : atS m (k :: s :: q :: p) b = none := by
            simp only [atS, List.getElem?_eq_getElem hk, Option.bind_some, List.getElem?_eq_none (by omega : (inner b[k]).length ≤ s), Option.bind_none]
          rw [hz]
          simp only [encP, List.map_cons] at hlc hb ha hcl ⊢
          simp only [evSs, evS, evE, evEs, evB, evI, asgT, asgTs, rdV_k, rd_val, rd_mls, b2_k, bd_k, op_k, op_n, fz_val, fz_mls, bl_k, tru_bl, tru_lst, tru_tup, cm_lt, cm_le, cm_gt, cm_ge, cm_eqi, cm_eqs, cm_nei, bn_add, bn_addt, bn_addl, bn_sub, bn_mulR, bn_mulL, bn_div, bn_mod, bi_lent, bi_lenl, bi_lenr, bi_tupt, bi_tupl, bi_listt, bi_listl, bi_int, bi_sum, bi_all, sq_t, sq_l, sq_r, ix_k, pt_no, pt_i, no_none, no_int, sl_t, sl_l, isL, List.map_cons, List.map_nil, List.length_cons, List.length_nil, List.replicate, List.cons_append, List.nil_append, List.getElem?_cons_zero, List.getElem?_cons_succ, List.set_cons_zero, List.set_cons_succ, Option.bind_some, Option.map_some, Option.bind_none, Option.map_none, Nat.reduceAdd, Nat.reduceSub, Nat.reduceLT, Nat.reduceLeDiff, ↓reduceIte, reduceCtorEq, Bool.false_eq_true, Bool.true_and, Bool.and_true, Bool.false_and, Bool.and_false, Bool.not_true, Bool.not_false, if_true, if_false, isTy, hlc, hb, ha, at_0, atx1, enc_len, spots_len, l0, l1, l2, l3, g1, g2, ek, hcl, hsp, cs0, cs1, cs2, no_ix, no_bin, Int.reduceLT, Int.reduceEq, decide_true, decide_false, List.length_map]
          rfl
      · have g1 : decide ((b.length : Int) ≤ (k : Int)) = true := decide_eq_true (by omega)
        have hz : atS m (k :: s :: q :: p) b = none := by
          simp only [atS, List.getElem?_eq_none (by omega : b.length ≤ k), Option.bind_none]
        rw [hz]
        simp only [encP, List.map_cons] at hlc hb ha hcl ⊢
        simp only [evSs, evS, evE, evEs, evB, evI, asgT, asgTs, rdV_k, rd_val, rd_mls, b2_k, bd_k, op_k, op_n, fz_val, fz_mls, bl_k, tru_bl, tru_lst, tru_tup, cm_lt, cm_le, cm_gt, cm_ge, cm_eqi, cm_eqs, cm_nei, bn_add, bn_addt, bn_addl, bn_sub, bn_mulR, bn_mulL, bn_div, bn_mod, bi_lent, bi_lenl, bi_lenr, bi_tupt, bi_tupl, bi_listt, bi_listl, bi_int, bi_sum, bi_all, sq_t, sq_l, sq_r, ix_k, pt_no, pt_i, no_none, no_int, sl_t, sl_l, isL, List.map_cons, List.map_nil, List.length_cons, List.length_nil, List.replicate, List.cons_append, List.nil_append, List.getElem?_cons_zero, List.getElem?_cons_succ, List.set_cons_zero, List.set_cons_succ, Option.bind_some, Option.map_some, Option.bind_none, Option.map_none, Nat.reduceAdd, Nat.reduceSub, Nat.reduceLT, Nat.reduceLeDiff, ↓reduceIte, reduceCtorEq, Bool.false_eq_true, Bool.true_and, Bool.and_true, Bool.false_and, Bool.and_false, Bool.not_true, Bool.not_false, if_true, if_false, isTy, hlc, hb, ha, at_0, atx1, enc_len, spots_len, l0, l1, l2, l3, g1, hcl, cs0, cs1, cs2, no_ix, no_bin, Int.reduceLT, Int.reduceEq, decide_true, decide_false, List.length_map]
        rfl
end K69


set_option Elab.async false
set_option linter.all false
set_option maxRecDepth 100000
set_option maxHeartbeats 4000000
namespace K69
open PySem Ev
theorem gaL_all {step : D → S → Res (Option Bool × S)} {M : Mem} : ∀ (l : List D) (t : S), t.M = M → (∀ x ∈ l, ∀ t : S, t.M = M → ∃ t' : S, step x t = .ok (some true, t') ∧ t'.M = M) → ∃ t' : S, gaL true step l t = .ok (true, t') ∧ t'.M = M
  | [], t, ht, _ => ⟨t, rfl, ht⟩
  | x :: l, t, ht, h => by
    obtain ⟨t1, e1, h1⟩ := h x List.mem_cons_self t ht
    obtain ⟨t2, e2, h2⟩ := gaL_all l t1 h1 fun y hy => h y (List.mem_cons_of_mem _ hy)
    refine ⟨t2, ?_, h2⟩
    simp only [gaL, e1, b2_k, if_true]
    exact e2
theorem ga5 (n : Nat) (v0 v2 x3 x4 x5 : Rv) (p : List Nat) (M : Mem) : evE (calls fds dat (n + 1)) dat b5_3 ⟨[v0, .val (.tup (encP p)), v2, x3, x4, x5], M⟩ = .ok (.val (.bl true), ⟨[v0, .val (.tup (encP p)), v2, x3, x4, x5], M⟩) := by
  have hi : evI (calls fds dat (n + 1)) dat (.of (.v 1)) ⟨[v0, .val (.tup (encP p)), v2, x3, x4, x5], M⟩ = .ok (encP p, ⟨[v0, .val (.tup (encP p)), v2, x3, x4, x5], M⟩) := by
    simp only [evSs, evS, evE, evEs, evB, evI, asgT, asgTs, rdV_k, rd_val, rd_mls, b2_k, bd_k, op_k, op_n, fz_val, fz_mls, bl_k, tru_bl, tru_lst, tru_tup, cm_lt, cm_le, cm_gt, cm_ge, cm_eqi, cm_eqs, cm_nei, bn_add, bn_addt, bn_addl, bn_sub, bn_mulR, bn_mulL, bn_div, bn_mod, bi_lent, bi_lenl, bi_lenr, bi_tupt, bi_tupl, bi_listt, bi_listl, bi_int, bi_sum, bi_all, sq_t, sq_l, sq_r, ix_k, pt_no, pt_i, no_none, no_int, sl_t, sl_l, isL, List.map_cons, List.map_nil, List.length_cons, List.length_nil, List.replicate, List.cons_append, List.nil_append, List.getElem?_cons_zero, List.getElem?_cons_succ, List.set_cons_zero, List.set_cons_succ, Option.bind_some, Option.map_some, Option.bind_none, Option.map_none, Nat.reduceAdd, Nat.reduceSub, Nat.reduceLT, Nat.reduceLeDiff, ↓reduceIte, reduceCtorEq, Bool.false_eq_true, Bool.true_and, Bool.and_true, Bool.false_and, Bool.and_false, Bool.not_true, Bool.not_false, if_true, if_false, itD]
  obtain ⟨t', e1, h1⟩ := gaL_all (M := M) (step := fun x t => (opt (asgT (.nm 3) (.val x) (mskR [] (shr [] [v0, .val (.tup (encP p)), v2, x3, x4, x5])))).bind fun σ => (evB (calls fds dat (n + 1)) dat .yes { t with σ := σ }).b2 fun k t =>
      if k = true then (evE (calls fds dat (n + 1)) dat b5_2 t).b2 fun y t => (blOf y).bind fun b => .ok (some b, t) else .ok (none, t)) (encP p) ⟨[v0, .val (.tup (encP p)), v2, x3, x4, x5], M⟩ rfl (by
    intro x hx t ht
    obtain ⟨k, _, rfl⟩ := List.mem_map.mp hx
    have h0 : decide ((0 : Int) ≤ (k : Int)) = true := decide_eq_true (by omega)
    have hint := is_int n (k : Int) M
    refine ⟨⟨[.un, .un, .un, .val (.int k), .un, .un], M⟩, ?_, rfl⟩
    have ag : asgT (.nm 3) (.val (.int k)) (mskR [] (shr [] [v0, .val (.tup (encP p)), v2, x3, x4, x5])) = some [.un, .un, .un, .val (.int k), .un, .un] := rfl
    rw [ag]
    unfold b5_2
    simp only [evSs, evS, evE, evEs, evB, evI, asgT, asgTs, rdV_k, rd_val, rd_mls, b2_k, bd_k, op_k, op_n, fz_val, fz_mls, bl_k, tru_bl, tru_lst, tru_tup, cm_lt, cm_le, cm_gt, cm_ge, cm_eqi, cm_eqs, cm_nei, bn_add, bn_addt, bn_addl, bn_sub, bn_mulR, bn_mulL, bn_div, bn_mod, bi_lent, bi_lenl, bi_lenr, bi_tupt, bi_tupl, bi_listt, bi_listl, bi_int, bi_sum, bi_all, sq_t, sq_l, sq_r, ix_k, pt_no, pt_i, no_none, no_int, sl_t, sl_l, isL, List.map_cons, List.map_nil, List.length_cons, List.length_nil, List.replicate, List.cons_append, List.nil_append, List.getElem?_cons_zero, List.getElem?_cons_succ, List.set_cons_zero, List.set_cons_succ, Option.bind_some, Option.map_some, Option.bind_none, Option.map_none, Nat.reduceAdd, Nat.reduceSub, Nat.reduceLT, Nat.reduceLeDiff, ↓reduceIte, reduceCtorEq, Bool.false_eq_true, Bool.true_and, Bool.and_true, Bool.false_and, Bool.and_false, Bool.not_true, Bool.not_false, if_true, if_false, ht, hint, h0])
  have no : noOwn (shr [] [v0, .val (.tup (encP p)), v2, x3, x4, x5]) [] = true := rfl
  unfold b5_3
  rw [evE, hi, b2_k, if_pos no, e1, b2_k, h1]
  rfl
theorem encP_at {p pre r : List Nat} {k : Nat} {i : Nat} (h : p = pre ++ k :: r) (hi : pre.length = i) : L2.atI (encP p) (i : Int) = some (.int (k : Int)) := by
  rw [at_nat (by rw [encP_len, h]; simp; omega)]
  unfold encP
  rw [List.getElem?_map, h, List.getElem?_append_right (by omega)]
  simp [hi]
theorem rng_s2 (k : Nat) (n : Nat) : rngD (k : Int) 2 (n + 1) = .int (k : Int) :: rngD ((k + 2 : Nat) : Int) 2 n := by
  show D.int (k : Int) :: rngD ((k : Int) + 2) 2 n = _
  rw [show ((k : Int) + 2) = ((k + 2 : Nat) : Int) by omega]
theorem turn5 (n : Nat) (b : List Cm) (p pre r : List Nat) (k s i : Nat) (hp : p = pre ++ k :: s :: r) (hi : pre.length = i) (v2 x3 x4 x5 : Rv) (M : Mem) :
    (∃ (x : List Cm) (y4 y5 : Rv), (b[k]?.bind fun c => (inner c)[s]?) = some x ∧ (opt (asgT (.nm 4) (.val (.int (i : Int))) [.val (.tup (encB b)), .val (.tup (encP p)), v2, x3, x4, x5])).bind (fun σ => evSs (calls fds dat (n + 1)) dat b5_0 ⟨σ, M⟩) = .ok (.nx, ⟨[.val (.tup (encB x)), .val (.tup (encP p)), v2, x3, y4, y5], M⟩)) ∨
    ((b[k]?.bind fun c => (inner c)[s]?) = none ∧ ∃ t : S, t.M = M ∧ (opt (asgT (.nm 4) (.val (.int (i : Int))) [.val (.tup (encB b)), .val (.tup (encP p)), v2, x3, x4, x5])).bind (fun σ => evSs (calls fds dat (n + 1)) dat b5_0 ⟨σ, M⟩) = .ok (.ret (.val .non), t)) := by
  have ag : asgT (.nm 4) (.val (.int (i : Int))) [.val (.tup (encB b)), .val (.tup (encP p)), v2, x3, x4, x5] = some [.val (.tup (encB b)), .val (.tup (encP p)), v2, x3, .val (.int (i : Int)), x5] := rfl
  have ek := encP_at hp hi
  have es : L2.atI (encP p) ((i : Int) + 1) = some (.int (s : Int)) := by
    have := encP_at (p := p) (pre := pre ++ [k]) (k := s) (r := r) (i := i + 1) (by rw [hp]; simp) (by simp [hi])
    rw [show ((i : Int) + 1) = ((i + 1 : Nat) : Int) by omega]
    exact this
  rw [ag, op_k, bd_k]
  unfold b5_0
  have h0 : 0 ≤ seqLine := by decide
  by_cases hk : k < b.length
  · have g1 : decide ((k : Int) < (b.length : Int)) = true := decide_eq_true (by omega)
    have eb : L2.atI (encB b) (k : Int) = some (encC b[k]) := by rw [at_nat (by rw [enc_len]; exact hk), enc_get]; simp [hk]
    have hb := blocks_of n b[k] M
    by_cases hs : s < (inner b[k]).length
    · have g2 : decide (((inner b[k]).length : Int) ≤ (s : Int)) = false := decide_eq_false (by omega)
      have ex : L2.atI ((inner b[k]).map fun b => D.tup (encB b)) (s : Int) = some (.tup (encB (inner b[k])[s])) := by
        rw [at_nat (by simpa using hs), List.getElem?_map, List.getElem?_eq_getElem hs]; rfl
      refine .inl ⟨(inner b[k])[s], .val (.int (i : Int)), .val (.tup ((inner b[k]).map fun b => D.tup (encB b))), by rw [List.getElem?_eq_getElem hk, Option.bind_some, List.getElem?_eq_getElem hs], ?_⟩
      simp only [evSs, evS, evE, evEs, evB, evI, asgT, asgTs, rdV_k, rd_val, rd_mls, b2_k, bd_k, op_k, op_n, fz_val, fz_mls, bl_k, tru_bl, tru_lst, tru_tup, cm_lt, cm_le, cm_gt, cm_ge, cm_eqi, cm_eqs, cm_nei, bn_add, bn_addt, bn_addl, bn_sub, bn_mulR, bn_mulL, bn_div, bn_mod, bi_lent, bi_lenl, bi_lenr, bi_tupt, bi_tupl, bi_listt, bi_listl, bi_int, bi_sum, bi_all, sq_t, sq_l, sq_r, ix_k, pt_no, pt_i, no_none, no_int, sl_t, sl_l, isL, List.map_cons, List.map_nil, List.length_cons, List.length_nil, List.replicate, List.cons_append, List.nil_append, List.getElem?_cons_zero, List.getElem?_cons_succ, List.set_cons_zero, List.set_cons_succ, Option.bind_some, Option.map_some, Option.bind_none, Option.map_none, Nat.reduceAdd, Nat.reduceSub, Nat.reduceLT, Nat.reduceLeDiff, ↓reduceIte, reduceCtorEq, Bool.false_eq_true, Bool.true_and, Bool.and_true, Bool.false_and, Bool.and_false, Bool.not_true, Bool.not_false, if_true, if_false, ek, es, enc_len, eb, hb, g1, g2, ex, List.length_map]
    · have g2 : decide (((inner b[k]).length : Int) ≤ (s : Int)) = true := decide_eq_true (by omega)
      refine .inr ⟨by rw [List.getElem?_eq_getElem hk, Option.bind_some, List.getElem?_eq_none (by omega)], ⟨[.val (.tup (encB b)), .val (.tup (encP p)), v2, x3, .val (.int (i : Int)), .val (.tup ((inner b[k]).map fun b => D.tup (encB b)))], M⟩, rfl, ?_⟩
      simp only [evSs, evS, evE, evEs, evB, evI, asgT, asgTs, rdV_k, rd_val, rd_mls, b2_k, bd_k, op_k, op_n, fz_val, fz_mls, bl_k, tru_bl, tru_lst, tru_tup, cm_lt, cm_le, cm_gt, cm_ge, cm_eqi, cm_eqs, cm_nei, bn_add, bn_addt, bn_addl, bn_sub, bn_mulR, bn_mulL, bn_div, bn_mod, bi_lent, bi_lenl, bi_lenr, bi_tupt, bi_tupl, bi_listt, bi_listl, bi_int, bi_sum, bi_all, sq_t, sq_l, sq_r, ix_k, pt_no, pt_i, no_none, no_int, sl_t, sl_l, isL, List.map_cons, List.map_nil, List.length_cons, List.length_nil, List.replicate, List.cons_append, List.nil_append, List.getElem?_cons_zero, List.getElem?_cons_succ, List.set_cons_zero, List.set_cons_succ, Option.bind_some, Option.map_some, Option.bind_none, Option.map_none, Nat.reduceAdd, Nat.reduceSub, Nat.reduceLT, Nat.reduceLeDiff, ↓reduceIte, reduceCtorEq, Bool.false_eq_true, Bool.true_and, Bool.and_true, Bool.false_and, Bool.and_false, Bool.not_true, Bool.not_false, if_true, if_false, ek, es, enc_len, eb, hb, g1, g2, List.length_map]
  · have g1 : decide ((k : Int) < (b.length : Int)) = false := decide_eq_false (by omega)
    have g2 : decide ((0 : Int) ≤ (s : Int)) = true := decide_eq_true (by omega)
    refine .inr ⟨by rw [List.getElem?_eq_none (by omega)]; rfl, ⟨[.val (.tup (encB b)), .val (.tup (encP p)), v2, x3, .val (.int (i : Int)), .val (.tup [])], M⟩, rfl, ?_⟩
    simp only [evSs, evS, evE, evEs, evB, evI, asgT, asgTs, rdV_k, rd_val, rd_mls, b2_k, bd_k, op_k, op_n, fz_val, fz_mls, bl_k, tru_bl, tru_lst, tru_tup, cm_lt, cm_le, cm_gt, cm_ge, cm_eqi, cm_eqs, cm_nei, bn_add, bn_addt, bn_addl, bn_sub, bn_mulR, bn_mulL, bn_div, bn_mod, bi_lent, bi_lenl, bi_lenr, bi_tupt, bi_tupl, bi_listt, bi_listl, bi_int, bi_sum, bi_all, sq_t, sq_l, sq_r, ix_k, pt_no, pt_i, no_none, no_int, sl_t, sl_l, isL, List.map_cons, List.map_nil, List.length_cons, List.length_nil, List.replicate, List.cons_append, List.nil_append, List.getElem?_cons_zero, List.getElem?_cons_succ, List.set_cons_zero, List.set_cons_succ, Option.bind_some, Option.map_some, Option.bind_none, Option.map_none, Nat.reduceAdd, Nat.reduceSub, Nat.reduceLT, Nat.reduceLeDiff, ↓reduceIte, reduceCtorEq, Bool.false_eq_true, Bool.true_and, Bool.and_true, Bool.false_and, Bool.and_false, Bool.not_true, Bool.not_false, if_true, if_false, ek, es, enc_len, g1, g2, h0, cs0]
theorem loop5 (n m : Nat) (p : List Nat) (v2 x3 : Rv) (M : Mem) : ∀ (j : Nat) (b : List Cm) (pre rest : List Nat) (i : Nat) (x4 x5 : Rv), p = pre ++ rest → pre.length = i → rest.length = 2 * j + 1 →
    (∃ (x : List Cm) (q : Nat) (y4 y5 : Rv), atS m rest b = atS m [q] x ∧ (∃ pr, p = pr ++ [q]) ∧ forL (fun x t => (opt (asgT (.nm 4) (.val x) t.σ)).bind fun σ => evSs (calls fds dat (n + 1)) dat b5_0 { t with σ := σ }) (rngD (i : Int) 2 j) ⟨[.val (.tup (encB b)), .val (.tup (encP p)), v2, x3, x4, x5], M⟩ = .ok (.nx, ⟨[.val (.tup (encB x)), .val (.tup (encP p)), v2, x3, y4, y5], M⟩)) ∨
    (atS m rest b = none ∧ ∃ t : S, t.M = M ∧ forL (fun x t => (opt (asgT (.nm 4) (.val x) t.σ)).bind fun σ => evSs (calls fds dat (n + 1)) dat b5_0 { t with σ := σ }) (rngD (i : Int) 2 j) ⟨[.val (.tup (encB b)), .val (.tup (encP p)), v2, x3, x4, x5], M⟩ = .ok (.ret (.val .non), t)) := by
  intro j
  induction j with
  | zero =>
    intro b pre rest i x4 x5 hp hi hr
    match rest, hr with
    | [q], _ => exact .inl ⟨b, q, x4, x5, rfl, ⟨pre, hp⟩, rfl⟩
  | succ j ih =>
    intro b pre rest i x4 x5 hp hi hr
    match rest, hr with
    | k :: s :: r, hr =>
      have hr' : r.length = 2 * j + 1 := by simp only [List.length_cons] at hr; omega
      have hat : atS m (k :: s :: r) b = (b[k]?.bind fun c => (inner c)[s]?).bind fun x => atS m r x := by
        cases r with
        | nil => simp at hr'
        | cons a r =>
          simp only [atS]
          cases b[k]? with
          | none => rfl
          | some c => rfl
      rw [hat, rng_s2]
      simp only [forL]
      rcases turn5 n b p pre r k s i hp hi v2 x3 x4 x5 M with ⟨x, y4, y5, e1, e2⟩ | ⟨e1, t, ht, e2⟩
      · rw [e1, e2, Option.bind_some]
        rcases ih x (pre ++ [k, s]) r (i + 2) y4 y5 (by rw [hp]; simp) (by simp [hi]) hr' with ⟨x', q, z4, z5, f1, f2, f3⟩ | ⟨f1, t, f2, f3⟩
        · exact .inl ⟨x', q, z4, z5, f1, f2, f3⟩
        · exact .inr ⟨f1, t, f2, f3⟩
      · rw [e1, e2]
        exact .inr ⟨rfl, t, ht, rfl⟩
theorem at_last {pr : List Nat} {q : Nat} {p : List Nat} (h : p = pr ++ [q]) : L2.atI (encP p) (-1) = some (.int (q : Int)) := by
  have hl : (encP p).length = pr.length + 1 := by rw [encP_len, h]; simp
  unfold L2.atI L2.ixN
  rw [if_neg (by omega), if_pos (by rw [hl]; omega), hl]
  have e : ((-1 : Int) + ((pr.length + 1 : Nat) : Int)).toNat = pr.length := by omega
  rw [e, Option.bind_some]
  unfold encP
  rw [List.getElem?_map, h, List.getElem?_append_right (Nat.le_refl _)]
  simp
theorem atS_even (m : Nat) : ∀ (p : List Nat) (b : List Cm), p.length % 2 = 0 → atS m p b = none := by
  intro p
  refine two (P := fun p => ∀ b : List Cm, p.length % 2 = 0 → atS m p b = none) ?_ ?_ ?_ p
  · intro b _; rfl
  · intro k b h; simp at h
  · intro k s p ih b h
    simp only [List.length_cons] at h
    simp only [atS]
    cases b[k]? with
    | none => rfl
    | some c =>
      simp only [Option.bind_some]
      cases (inner c)[s]? with
      | none => rfl
      | some x => exact ih x (by omega)
end K69


set_option Elab.async false
set_option linter.all false
set_option maxRecDepth 100000
set_option maxHeartbeats 4000000
namespace K69
open PySem Ev
theorem ev_rng3 {C : Calls} {D' : Nat → D} {a b c : E} {s s1 s2 s3 : S} {i j k : Int} {l : List D} (ha : evE C D' a s = .ok (.val (.int i), s1)) (hb : evE C D' b s1 = .ok (.val (.int j), s2)) (hc : evE C D' c s2 = .ok (.val (.int k), s3)) (hr : rng3D (.int i) (.int j) (.int k) = some l) : evI C D' (.rng3 a b c) s = .ok (l, s3) := by
  simp only [evI, ha, hb, hc, b2_k, fz_val, hr, op_k, bd_k]
theorem rng3_ok (j : Int) (J : Nat) (h : j = 2 * (J : Int)) (hJ : J ≤ 500) : rng3D (.int 0) (.int j) (.int 2) = some (rngD ((0 : Nat) : Int) 2 J) := by
  have hs : Builtin.Range.rangeSize 0 j 2 = (J : Int) := by
    unfold Builtin.Range.rangeSize
    split
    · split <;> omega
    · omega
  have hm : Builtin.Range.small 0 j 2 = true := by
    unfold Builtin.Range.small
    rw [hs]
    simp [Builtin.Range.rangeFitsLong]
    omega
  unfold rng3D
  simp only [hs, hm]
  rw [if_pos ⟨by decide, by decide, trivial, by omega⟩]
  simp
theorem commands_at (n m : Nat) (p : List Nat) (b : List Cm) (M : Mem) (hp : p.length ≤ 900) : R (n + 2) 5 [.tup (encB b), .tup (encP p), .int (m : Int)] M = .ok (.val (encO (atS m p b)), M) := by
  rw [r_step (ar := 3) (ns := 6) (b := b5) rfl rfl]
  have hga := ga5 n (.val (.tup (encB b))) (.val (.int (m : Int))) .un .un .un p M
  by_cases he : p.length % 2 = 0
  · have hm : decide (((p.length : Nat) : Int) % 2 = 0) = true := decide_eq_true (by omega)
    rw [atS_even m p b he]
    unfold b5
    simp only [evSs, evS, evE, evEs, evB, evI, asgT, asgTs, rdV_k, rd_val, rd_mls, b2_k, bd_k, op_k, op_n, fz_val, fz_mls, bl_k, tru_bl, tru_lst, tru_tup, cm_lt, cm_le, cm_gt, cm_ge, cm_eqi, cm_eqs, cm_nei, bn_add, bn_addt, bn_addl, bn_sub, bn_mulR, bn_mulL, bn_div, bn_mod, bi_lent, bi_lenl, bi_lenr, bi_tupt, bi_tupl, bi_listt, bi_listl, bi_int, bi_sum, bi_all, sq_t, sq_l, sq_r, ix_k, pt_no, pt_i, no_none, no_int, sl_t, sl_l, isL, List.map_cons, List.map_nil, List.length_cons, List.length_nil, List.replicate, List.cons_append, List.nil_append, List.getElem?_cons_zero, List.getElem?_cons_succ, List.set_cons_zero, List.set_cons_succ, Option.bind_some, Option.map_some, Option.bind_none, Option.map_none, Nat.reduceAdd, Nat.reduceSub, Nat.reduceLT, Nat.reduceLeDiff, ↓reduceIte, reduceCtorEq, Bool.false_eq_true, Bool.true_and, Bool.and_true, Bool.false_and, Bool.and_false, Bool.not_true, Bool.not_false, if_true, if_false, isTy, encP_len, hm, Int.reduceLT, decide_true]
    rfl
  · have hm : decide (((p.length : Nat) : Int) % 2 = 0) = false := decide_eq_false (by omega)
    obtain ⟨J, hJ⟩ : ∃ J, p.length = 2 * J + 1 := ⟨p.length / 2, by omega⟩
    have hr := rng3_ok (((p.length : Nat) : Int) - 1) J (by omega) (by omega)
    have hi : evI (calls fds dat (n + 1)) dat (.rng3 (.int 0) (.bin .sub (.bi .len (.v 1)) (.int 1)) (.int 2)) ⟨[.val (.tup (encB b)), .val (.tup (encP p)), .val (.int (m : Int)), .un, .un, .un], M⟩ =
        .ok (rngD ((0 : Nat) : Int) 2 J, ⟨[.val (.tup (encB b)), .val (.tup (encP p)), .val (.int (m : Int)), .un, .un, .un], M⟩) := by
      refine ev_rng3 (s1 := ⟨[.val (.tup (encB b)), .val (.tup (encP p)), .val (.int (m : Int)), .un, .un, .un], M⟩) (s2 := ⟨[.val (.tup (encB b)), .val (.tup (encP p)), .val (.int (m : Int)), .un, .un, .un], M⟩) (by simp only [evSs, evS, evE, evEs, evB, evI, asgT, asgTs, rdV_k, rd_val, rd_mls, b2_k, bd_k, op_k, op_n, fz_val, fz_mls, bl_k, tru_bl, tru_lst, tru_tup, cm_lt, cm_le, cm_gt, cm_ge, cm_eqi, cm_eqs, cm_nei, bn_add, bn_addt, bn_addl, bn_sub, bn_mulR, bn_mulL, bn_div, bn_mod, bi_lent, bi_lenl, bi_lenr, bi_tupt, bi_tupl, bi_listt, bi_listl, bi_int, bi_sum, bi_all, sq_t, sq_l, sq_r, ix_k, pt_no, pt_i, no_none, no_int, sl_t, sl_l, isL, List.map_cons, List.map_nil, List.length_cons, List.length_nil, List.replicate, List.cons_append, List.nil_append, List.getElem?_cons_zero, List.getElem?_cons_succ, List.set_cons_zero, List.set_cons_succ, Option.bind_some, Option.map_some, Option.bind_none, Option.map_none, Nat.reduceAdd, Nat.reduceSub, Nat.reduceLT, Nat.reduceLeDiff, ↓reduceIte, reduceCtorEq, Bool.false_eq_true, Bool.true_and, Bool.and_true, Bool.false_and, Bool.and_false, Bool.not_true, Bool.not_false, if_true, if_false]) (j := ((p.length : Nat) : Int) - 1) ?_ (by simp only [evSs, evS, evE, evEs, evB, evI, asgT, asgTs, rdV_k, rd_val, rd_mls, b2_k, bd_k, op_k, op_n, fz_val, fz_mls, bl_k, tru_bl, tru_lst, tru_tup, cm_lt, cm_le, cm_gt, cm_ge, cm_eqi, cm_eqs, cm_nei, bn_add, bn_addt, bn_addl, bn_sub, bn_mulR, bn_mulL, bn_div, bn_mod, bi_lent, bi_lenl, bi_lenr, bi_tupt, bi_tupl, bi_listt, bi_listl, bi_int, bi_sum, bi_all, sq_t, sq_l, sq_r, ix_k, pt_no, pt_i, no_none, no_int, sl_t, sl_l, isL, List.map_cons, List.map_nil, List.length_cons, List.length_nil, List.replicate, List.cons_append, List.nil_append, List.getElem?_cons_zero, List.getElem?_cons_succ, List.set_cons_zero, List.set_cons_succ, Option.bind_some, Option.map_some, Option.bind_none, Option.map_none, Nat.reduceAdd, Nat.reduceSub, Nat.reduceLT, Nat.reduceLeDiff, ↓reduceIte, reduceCtorEq, Bool.false_eq_true, Bool.true_and, Bool.and_true, Bool.false_and, Bool.and_false, Bool.not_true, Bool.not_false, if_true, if_false]) hr
      simp only [evSs, evS, evE, evEs, evB, evI, asgT, asgTs, rdV_k, rd_val, rd_mls, b2_k, bd_k, op_k, op_n, fz_val, fz_mls, bl_k, tru_bl, tru_lst, tru_tup, cm_lt, cm_le, cm_gt, cm_ge, cm_eqi, cm_eqs, cm_nei, bn_add, bn_addt, bn_addl, bn_sub, bn_mulR, bn_mulL, bn_div, bn_mod, bi_lent, bi_lenl, bi_lenr, bi_tupt, bi_tupl, bi_listt, bi_listl, bi_int, bi_sum, bi_all, sq_t, sq_l, sq_r, ix_k, pt_no, pt_i, no_none, no_int, sl_t, sl_l, isL, List.map_cons, List.map_nil, List.length_cons, List.length_nil, List.replicate, List.cons_append, List.nil_append, List.getElem?_cons_zero, List.getElem?_cons_succ, List.set_cons_zero, List.set_cons_succ, Option.bind_some, Option.map_some, Option.bind_none, Option.map_none, Nat.reduceAdd, Nat.reduceSub, Nat.reduceLT, Nat.reduceLeDiff, ↓reduceIte, reduceCtorEq, Bool.false_eq_true, Bool.true_and, Bool.and_true, Bool.false_and, Bool.and_false, Bool.not_true, Bool.not_false, if_true, if_false, encP_len]
    rcases loop5 n m p (.val (.int (m : Int))) .un M J b [] p 0 .un .un rfl rfl hJ with ⟨x, q, y4, y5, e1, ⟨pr, e2⟩, e3⟩ | ⟨e1, t, ht, e3⟩
    · have hf : evS (calls fds dat (n + 1)) dat b5_1 ⟨[.val (.tup (encB b)), .val (.tup (encP p)), .val (.int (m : Int)), .un, .un, .un], M⟩ = .ok (.nx, ⟨[.val (.tup (encB x)), .val (.tup (encP p)), .val (.int (m : Int)), .un, y4, y5], M⟩) := by
        unfold b5_1
        rw [ev_fr, hi]
        exact e3
      have hl := at_last e2
      rw [e1]
      unfold b5
      by_cases h : q + m ≤ x.length
      · have h1 : decide ((q : Int) + (m : Int) ≤ (x.length : Int)) = true := decide_eq_true (by omega)
        have hc := cut_mid x q m h
        have hz : atS m [q] x = some ((x.drop q).take m) := by simp only [atS, if_pos h]
        rw [hz]
        simp only [evSs, evS, evE, evEs, evB, evI, asgT, asgTs, rdV_k, rd_val, rd_mls, b2_k, bd_k, op_k, op_n, fz_val, fz_mls, bl_k, tru_bl, tru_lst, tru_tup, cm_lt, cm_le, cm_gt, cm_ge, cm_eqi, cm_eqs, cm_nei, bn_add, bn_addt, bn_addl, bn_sub, bn_mulR, bn_mulL, bn_div, bn_mod, bi_lent, bi_lenl, bi_lenr, bi_tupt, bi_tupl, bi_listt, bi_listl, bi_int, bi_sum, bi_all, sq_t, sq_l, sq_r, ix_k, pt_no, pt_i, no_none, no_int, sl_t, sl_l, isL, List.map_cons, List.map_nil, List.length_cons, List.length_nil, List.replicate, List.cons_append, List.nil_append, List.getElem?_cons_zero, List.getElem?_cons_succ, List.set_cons_zero, List.set_cons_succ, Option.bind_some, Option.map_some, Option.bind_none, Option.map_none, Nat.reduceAdd, Nat.reduceSub, Nat.reduceLT, Nat.reduceLeDiff, ↓reduceIte, reduceCtorEq, Bool.false_eq_true, Bool.true_and, Bool.and_true, Bool.false_and, Bool.and_false, Bool.not_true, Bool.not_false, if_true, if_false, isTy, encP_len, hm, hga, hf, hl, enc_len, h1, hc, no_ix, no_bin, Int.reduceLT, decide_true]
        rfl
      · have h1 : decide ((q : Int) + (m : Int) ≤ (x.length : Int)) = false := decide_eq_false (by omega)
        have hz : atS m [q] x = none := by simp only [atS, if_neg h]
        rw [hz]
        simp only [evSs, evS, evE, evEs, evB, evI, asgT, asgTs, rdV_k, rd_val, rd_mls, b2_k, bd_k, op_k, op_n, fz_val, fz_mls, bl_k, tru_bl, tru_lst, tru_tup, cm_lt, cm_le, cm_gt, cm_ge, cm_eqi, cm_eqs, cm_nei, bn_add, bn_addt, bn_addl, bn_sub, bn_mulR, bn_mulL, bn_div, bn_mod, bi_lent, bi_lenl, bi_lenr, bi_tupt, bi_tupl, bi_listt, bi_listl, bi_int, bi_sum, bi_all, sq_t, sq_l, sq_r, ix_k, pt_no, pt_i, no_none, no_int, sl_t, sl_l, isL, List.map_cons, List.map_nil, List.length_cons, List.length_nil, List.replicate, List.cons_append, List.nil_append, List.getElem?_cons_zero, List.getElem?_cons_succ, List.set_cons_zero, List.set_cons_succ, Option.bind_some, Option.map_some, Option.bind_none, Option.map_none, Nat.reduceAdd, Nat.reduceSub, Nat.reduceLT, Nat.reduceLeDiff, ↓reduceIte, reduceCtorEq, Bool.false_eq_true, Bool.true_and, Bool.and_true, Bool.false_and, Bool.and_false, Bool.not_true, Bool.not_false, if_true, if_false, isTy, encP_len, hm, hga, hf, hl, enc_len, h1, no_ix, no_bin, Int.reduceLT, decide_true]
        rfl
    · have hf : evS (calls fds dat (n + 1)) dat b5_1 ⟨[.val (.tup (encB b)), .val (.tup (encP p)), .val (.int (m : Int)), .un, .un, .un], M⟩ = .ok (.ret (.val .non), t) := by
        unfold b5_1
        rw [ev_fr, hi]
        exact e3
      rw [e1]
      unfold b5
      simp only [evSs, evS, evE, evEs, evB, evI, asgT, asgTs, rdV_k, rd_val, rd_mls, b2_k, bd_k, op_k, op_n, fz_val, fz_mls, bl_k, tru_bl, tru_lst, tru_tup, cm_lt, cm_le, cm_gt, cm_ge, cm_eqi, cm_eqs, cm_nei, bn_add, bn_addt, bn_addl, bn_sub, bn_mulR, bn_mulL, bn_div, bn_mod, bi_lent, bi_lenl, bi_lenr, bi_tupt, bi_tupl, bi_listt, bi_listl, bi_int, bi_sum, bi_all, sq_t, sq_l, sq_r, ix_k, pt_no, pt_i, no_none, no_int, sl_t, sl_l, isL, List.map_cons, List.map_nil, List.length_cons, List.length_nil, List.replicate, List.cons_append, List.nil_append, List.getElem?_cons_zero, List.getElem?_cons_succ, List.set_cons_zero, List.set_cons_succ, Option.bind_some, Option.map_some, Option.bind_none, Option.map_none, Nat.reduceAdd, Nat.reduceSub, Nat.reduceLT, Nat.reduceLeDiff, ↓reduceIte, reduceCtorEq, Bool.false_eq_true, Bool.true_and, Bool.and_true, Bool.false_and, Bool.and_false, Bool.not_true, Bool.not_false, if_true, if_false, isTy, encP_len, hm, hga, hf, Int.reduceLT, decide_true]
      show Res.ok (Rv.val D.non, t.M) = _
      rw [ht]
      rfl
end K69


set_option Elab.async false
set_option linter.all false
set_option maxRecDepth 100000
set_option maxHeartbeats 4000000
namespace K69
open PySem Ev
/-- what is no place -/
def Odd (d : D) : Prop := d = .non ∨ d = .int 0 ∨ d = .tup [.bl true] ∨ d = .tup [.str "a"] ∨ d = .tup [.int (-1)]
theorem odd_at (n : Nat) (d : D) (h : Odd d) (b : D) (m : Int) (M : Mem) : R (n + 2) 5 [b, d, .int m] M = .ok (.val .non, M) := by
  rcases h with rfl | rfl | rfl | rfl | rfl <;> kernel_rfl
theorem odd_row (n : Nat) (d : D) (h : Odd d) (b : D) (m : Int) (M : Mem) : R (n + 2) 15 [b, d, .int m] M = .ok (.val .non, M) := by
  rcases h with rfl | rfl | rfl | rfl | rfl <;> kernel_rfl
end K69


set_option Elab.async false
set_option linter.all false
set_option maxRecDepth 100000
set_option maxHeartbeats 4000000
namespace K69
open PySem Ev
/-- a command with one inner block changed -/
def withD : Cm → Nat → D → D
  | .ife _ b, 0, d => .tup [.str "if", .tup [.str "apart", .str "@x", .int 0], d, .tup (encB b)]
  | .ife a _, _, d => .tup [.str "if", .tup [.str "apart", .str "@x", .int 0], .tup (encB a), d]
  | .wh _ t, _, d => .tup [.str "while", .tup [.str "apart", .str "@x", .int 0], d, if t then .tup [] else .non]
  | .both _ b, 0, d => .tup [.str "both", d, .tup (encB b)]
  | .both a _, _, d => .tup [.str "both", .tup (encB a), d]
  | .grd _, _, d => .tup [.str "guard", .str "l", .tup [], d]
  | c, _, _ => encC c
theorem with_blocks (n : Nat) (c : Cm) (s : Nat) (x : List Cm) (h : (inner c)[s]? = some x) (d : D) (M : Mem) :
    R (n + 1) 3 [encC c, .tup (((inner c).map fun b => D.tup (encB b)).take s ++ [d] ++ ((inner c).map fun b => D.tup (encB b)).drop (s + 1))] M = .ok (.val (withD c s d), M) := by
  cases c with
  | set i => simp [inner] at h
  | free => simp [inner] at h
  | get => simp [inner] at h
  | ife a b =>
    match s, h with
    | 0, _ => kernel_rfl
    | 1, _ => kernel_rfl
  | wh a t =>
    match s, h with
    | 0, _ => kernel_rfl
  | both a b =>
    match s, h with
    | 0, _ => kernel_rfl
    | 1, _ => kernel_rfl
  | grd a =>
    match s, h with
    | 0, _ => kernel_rfl
/-- the other road to the same: by the spot -/
theorem spot_with (c : Cm) (s : Nat) (x : List Cm) (h : (inner c)[s]? = some x) (d : D) : ∃ (sp : Nat) (l : List D), L2.atI (spots c) (s : Int) = some (.int (sp : Int)) ∧ encC c = .tup l ∧ L2.atI l (sp : Int) = some (.tup (encB x)) ∧ l.length ≤ 4 ∧ sp < l.length ∧ D.tup (l.take sp ++ [d] ++ l.drop (sp + 1)) = withD c s d := by
  cases c with
  | set i => simp [inner] at h
  | free => simp [inner] at h
  | get => simp [inner] at h
  | ife a b =>
    match s, h with
    | 0, h => cases h; exact ⟨2, _, rfl, rfl, rfl, by simp, by simp, rfl⟩
    | 1, h => cases h; exact ⟨3, _, rfl, rfl, rfl, by simp, by simp, rfl⟩
  | wh a t =>
    match s, h with
    | 0, h => cases h; exact ⟨2, _, rfl, rfl, rfl, by simp, by simp, rfl⟩
  | both a b =>
    match s, h with
    | 0, h => cases h; exact ⟨1, _, rfl, rfl, rfl, by simp, by simp, rfl⟩
    | 1, h => cases h; exact ⟨2, _, rfl, rfl, rfl, by simp, by simp, rfl⟩
  | grd a =>
    match s, h with
    | 0, h => cases h; exact ⟨3, _, rfl, rfl, rfl, by simp, by simp, rfl⟩
/-- a block with commands at a place changed -/
def chD (m : Nat) (cs : List D) : List Nat → List Cm → List D
  | [], b => encB b
  | [k], b => (encB b).take k ++ cs ++ (encB b).drop (k + m)
  | k :: s :: p, b => match b[k]? with
    | some c => (match (inner c)[s]? with
      | some x => (encB b).take k ++ [withD c s (.tup (chD m cs p x))] ++ (encB b).drop (k + 1)
      | none => encB b)
    | none => encB b
theorem cut_take' (l : List D) (k : Nat) : cutD l none (some (k : Int)) = l.take k := cut_take l k
theorem law_changed : ∀ (p : List Nat) (n m : Nat) (e : Nat) (b : List Cm) (cs : List D) (M : Mem), Good e b → cs.length ≤ 10 → p.length ≤ 20 → atS m p b ≠ none → R (n + p.length + 2) 14 [.tup (encB b), .tup (encP p), .int (m : Int), .tup cs] M = .ok (.val (.tup (chD m cs p b)), M) := by
  intro p
  refine two (P := fun p => ∀ (n m : Nat) (e : Nat) (b : List Cm) (cs : List D) (M : Mem), Good e b → cs.length ≤ 10 → p.length ≤ 20 → atS m p b ≠ none → R (n + p.length + 2) 14 [.tup (encB b), .tup (encP p), .int (m : Int), .tup cs] M = .ok (.val (.tup (chD m cs p b)), M)) ?_ ?_ ?_ p
  · intro n m e b cs M _ _ _ h
    exact absurd rfl h
  · intro k n m e b cs M g hc _ h
    have hb : b.length ≤ 3 := by cases e with
      | zero => exact g.1
      | succ e => exact g.1
    have c1 := cut_take (encB b) k
    have c2 : cutD (encB b) (some ((k : Int) + (m : Int))) none = (encB b).drop (k + m) := by
      rw [show ((k : Int) + (m : Int)) = ((k + m : Nat) : Int) by omega]
      exact cut_drop (encB b) (k + m)
    have l1 : ((encB b).take k).length + cs.length ≤ seqLine := le_seq (by simp only [List.length_take, enc_len]; omega)
    have l2 : ((encB b).take k ++ cs).length + ((encB b).drop (k + m)).length ≤ seqLine := le_seq (by simp only [List.length_append, List.length_take, List.length_drop, enc_len]; omega)
    have no_v : ∀ i, isNo (.v i) = false := fun _ => rfl
    rw [r_step (ar := 4) (ns := 7) (b := b14) rfl rfl]
    unfold b14
    simp only [encP, List.map_cons, List.map_nil]
    simp only [evSs, evS, evE, evEs, evB, evI, asgT, asgTs, rdV_k, rd_val, rd_mls, b2_k, bd_k, op_k, op_n, fz_val, fz_mls, bl_k, tru_bl, tru_lst, tru_tup, cm_lt, cm_le, cm_gt, cm_ge, cm_eqi, cm_eqs, cm_nei, bn_add, bn_addt, bn_addl, bn_sub, bn_mulR, bn_mulL, bn_div, bn_mod, bi_lent, bi_lenl, bi_lenr, bi_tupt, bi_tupl, bi_listt, bi_listl, bi_int, bi_sum, bi_all, sq_t, sq_l, sq_r, ix_k, pt_no, pt_i, no_none, no_int, sl_t, sl_l, isL, List.map_cons, List.map_nil, List.length_cons, List.length_nil, List.replicate, List.cons_append, List.nil_append, List.getElem?_cons_zero, List.getElem?_cons_succ, List.set_cons_zero, List.set_cons_succ, Option.bind_some, Option.map_some, Option.bind_none, Option.map_none, Nat.reduceAdd, Nat.reduceSub, Nat.reduceLT, Nat.reduceLeDiff, ↓reduceIte, reduceCtorEq, Bool.false_eq_true, Bool.true_and, Bool.and_true, Bool.false_and, Bool.and_false, Bool.not_true, Bool.not_false, if_true, if_false, at_0, c1, c2, l1, l2, no_v, no_bin, cs1, decide_true]
    rfl
  · intro k s p ih n m e b cs M g hc hp h
    have hb : b.length ≤ 3 := by cases e with
      | zero => exact g.1
      | succ e => exact g.1
    have hk : k < b.length := by
      rcases Nat.lt_or_ge k b.length with z | z
      · exact z
      · exact absurd (by simp only [atS, List.getElem?_eq_none z, Option.bind_none]) h
    have hs : s < (inner b[k]).length := by
      rcases Nat.lt_or_ge s (inner b[k]).length with z | z
      · exact z
      · exact absurd (by simp only [atS, List.getElem?_eq_getElem hk, Option.bind_some, List.getElem?_eq_none z, Option.bind_none]) h
    have hat : atS m p (inner b[k])[s] ≠ none := fun z => h (by simp only [atS, List.getElem?_eq_getElem hk, Option.bind_some, List.getElem?_eq_getElem hs, z])
    have gx : ∃ e', Good e' (inner b[k])[s] := by
      cases e with
      | zero => have := g.2 b[k] (List.getElem_mem hk); rw [this] at hs; simp at hs
      | succ e => exact ⟨e, g.2 b[k] (List.getElem_mem hk) _ (List.getElem_mem hs)⟩
    obtain ⟨e', ge⟩ := gx
    obtain ⟨sp, l, e1, e2, e3, e4, e5, e6⟩ := spot_with b[k] s (inner b[k])[s] (by simp [hs]) (.tup (chD m cs p (inner b[k])[s]))
    have hr := ih (n + 1) m e' (inner b[k])[s] cs M ge hc (by simp only [List.length_cons] at hp; omega) hat
    have e9 : n + 1 + p.length + 2 = n + (p.length + 2) + 1 := by omega
    rw [e9] at hr
    have ek : L2.atI (encB b) (k : Int) = some (.tup l) := by rw [at_nat (by rw [enc_len]; exact hk), enc_get, List.getElem?_eq_getElem hk, ← e2]; rfl
    have hsp := fun q => law_spots q b[k] M
    simp only [e2] at hsp
    have hcl : cutD (encP (k :: s :: p)) (some 2) none = encP p := cut_drop (encP (k :: s :: p)) 2
    have c1 := cut_take (encB b) k
    have c2 : cutD (encB b) (some ((k : Int) + 1)) none = (encB b).drop (k + 1) := by
      rw [show ((k : Int) + 1) = ((k + 1 : Nat) : Int) by omega]
      exact cut_drop (encB b) (k + 1)
    have c3 := cut_take l sp
    have c4 : cutD l (some ((sp : Int) + 1)) none = l.drop (sp + 1) := by
      rw [show ((sp : Int) + 1) = ((sp + 1 : Nat) : Int) by omega]
      exact cut_drop l (sp + 1)
    have l0 : decide (((p.length + 1 + 1 : Nat) : Int) = 1) = false := decide_eq_false (by omega)
    have h1 : 1 ≤ seqLine := by decide
    have m1 : (l.take sp).length + 1 ≤ seqLine := le_seq (by simp only [List.length_take]; omega)
    have m2 : (l.take sp ++ [D.tup (chD m cs p (inner b[k])[s])]).length + (l.drop (sp + 1)).length ≤ seqLine := le_seq (by simp only [List.length_append, List.length_take, List.length_drop, List.length_cons, List.length_nil]; omega)
    have m3 : ((encB b).take k).length + 1 ≤ seqLine := le_seq (by simp only [List.length_take, enc_len]; omega)
    have m4 : ((encB b).take k ++ [withD b[k] s (.tup (chD m cs p (inner b[k])[s]))]).length + ((encB b).drop (k + 1)).length ≤ seqLine := le_seq (by simp only [List.length_append, List.length_take, List.length_drop, enc_len, List.length_cons, List.length_nil]; omega)
    have hz : chD m cs (k :: s :: p) b = (encB b).take k ++ [withD b[k] s (.tup (chD m cs p (inner b[k])[s]))] ++ (encB b).drop (k + 1) := by
      simp only [chD, List.getElem?_eq_getElem hk, List.getElem?_eq_getElem hs]
    have no_v : ∀ i, isNo (.v i) = false := fun _ => rfl
    rw [hz, show n + (k :: s :: p).length + 2 = (n + (p.length + 2) + 1) + 1 by simp only [List.length_cons], r_step (ar := 4) (ns := 7) (b := b14) rfl rfl]
    unfold b14
    simp only [encP, List.map_cons] at hcl hr ⊢
    simp only [List.length_append, List.length_cons, List.length_nil] at m2 m4
    simp only [evSs, evS, evE, evEs, evB, evI, asgT, asgTs, rdV_k, rd_val, rd_mls, b2_k, bd_k, op_k, op_n, fz_val, fz_mls, bl_k, tru_bl, tru_lst, tru_tup, cm_lt, cm_le, cm_gt, cm_ge, cm_eqi, cm_eqs, cm_nei, bn_add, bn_addt, bn_addl, bn_sub, bn_mulR, bn_mulL, bn_div, bn_mod, bi_lent, bi_lenl, bi_lenr, bi_tupt, bi_tupl, bi_listt, bi_listl, bi_int, bi_sum, bi_all, sq_t, sq_l, sq_r, ix_k, pt_no, pt_i, no_none, no_int, sl_t, sl_l, isL, List.map_cons, List.map_nil, List.length_cons, List.length_nil, List.replicate, List.cons_append, List.nil_append, List.getElem?_cons_zero, List.getElem?_cons_succ, List.set_cons_zero, List.set_cons_succ, Option.bind_some, Option.map_some, Option.bind_none, Option.map_none, Nat.reduceAdd, Nat.reduceSub, Nat.reduceLT, Nat.reduceLeDiff, ↓reduceIte, reduceCtorEq, Bool.false_eq_true, Bool.true_and, Bool.and_true, Bool.false_and, Bool.and_false, Bool.not_true, Bool.not_false, if_true, if_false, at_0, atx1, ek, hsp, e1, e3, hcl, hr, c1, c2, c3, c4, e6, h1, m1, m2, m3, m4, l0, no_v, no_bin, cs1, List.length_map, List.length_append]
    rfl
end K69


set_option Elab.async false
set_option linter.all false
set_option maxRecDepth 100000
set_option maxHeartbeats 4000000
namespace K69
open PySem Ev
theorem with_commands : ∀ (p : List Nat) (n m : Nat) (e : Nat) (b : List Cm) (cs : List D) (M : Mem), Good e b → cs.length ≤ 10 → p.length ≤ 20 → atS m p b ≠ none → R (n + p.length + 2) 4 [.tup (encB b), .tup (encP p), .int (m : Int), .tup cs] M = .ok (.val (.tup (chD m cs p b)), M) := by
  intro p
  refine two (P := fun p => ∀ (n m : Nat) (e : Nat) (b : List Cm) (cs : List D) (M : Mem), Good e b → cs.length ≤ 10 → p.length ≤ 20 → atS m p b ≠ none → R (n + p.length + 2) 4 [.tup (encB b), .tup (encP p), .int (m : Int), .tup cs] M = .ok (.val (.tup (chD m cs p b)), M)) ?_ ?_ ?_ p
  · intro n m e b cs M _ _ _ h
    exact absurd rfl h
  · intro k n m e b cs M g hc _ h
    have hb : b.length ≤ 3 := by cases e with
      | zero => exact g.1
      | succ e => exact g.1
    have c1 := cut_take (encB b) k
    have c2 : cutD (encB b) (some ((k : Int) + (m : Int))) none = (encB b).drop (k + m) := by
      rw [show ((k : Int) + (m : Int)) = ((k + m : Nat) : Int) by omega]
      exact cut_drop (encB b) (k + m)
    have l1 : ((encB b).take k).length + cs.length ≤ seqLine := le_seq (by simp only [List.length_take, enc_len]; omega)
    have l2 : ((encB b).take k ++ cs).length + ((encB b).drop (k + m)).length ≤ seqLine := le_seq (by simp only [List.length_append, List.length_take, List.length_drop, enc_len]; omega)
    have no_v : ∀ i, isNo (.v i) = false := fun _ => rfl
    rw [r_step (ar := 4) (ns := 7) (b := b4) rfl rfl]
    unfold b4
    simp only [encP, List.map_cons, List.map_nil]
    simp only [evSs, evS, evE, evEs, evB, evI, asgT, asgTs, rdV_k, rd_val, rd_mls, b2_k, bd_k, op_k, op_n, fz_val, fz_mls, bl_k, tru_bl, tru_lst, tru_tup, cm_lt, cm_le, cm_gt, cm_ge, cm_eqi, cm_eqs, cm_nei, bn_add, bn_addt, bn_addl, bn_sub, bn_mulR, bn_mulL, bn_div, bn_mod, bi_lent, bi_lenl, bi_lenr, bi_tupt, bi_tupl, bi_listt, bi_listl, bi_int, bi_sum, bi_all, sq_t, sq_l, sq_r, ix_k, pt_no, pt_i, no_none, no_int, sl_t, sl_l, isL, List.map_cons, List.map_nil, List.length_cons, List.length_nil, List.replicate, List.cons_append, List.nil_append, List.getElem?_cons_zero, List.getElem?_cons_succ, List.set_cons_zero, List.set_cons_succ, Option.bind_some, Option.map_some, Option.bind_none, Option.map_none, Nat.reduceAdd, Nat.reduceSub, Nat.reduceLT, Nat.reduceLeDiff, ↓reduceIte, reduceCtorEq, Bool.false_eq_true, Bool.true_and, Bool.and_true, Bool.false_and, Bool.and_false, Bool.not_true, Bool.not_false, if_true, if_false, at_0, c1, c2, l1, l2, no_v, no_bin, cs1, decide_true]
    rfl
  · intro k s p ih n m e b cs M g hc hp h
    have hb : b.length ≤ 3 := by cases e with
      | zero => exact g.1
      | succ e => exact g.1
    have hk : k < b.length := by
      rcases Nat.lt_or_ge k b.length with z | z
      · exact z
      · exact absurd (by simp only [atS, List.getElem?_eq_none z, Option.bind_none]) h
    have hs : s < (inner b[k]).length := by
      rcases Nat.lt_or_ge s (inner b[k]).length with z | z
      · exact z
      · exact absurd (by simp only [atS, List.getElem?_eq_getElem hk, Option.bind_some, List.getElem?_eq_none z, Option.bind_none]) h
    have hat : atS m p (inner b[k])[s] ≠ none := fun z => h (by simp only [atS, List.getElem?_eq_getElem hk, Option.bind_some, List.getElem?_eq_getElem hs, z])
    have gx : ∃ e', Good e' (inner b[k])[s] := by
      cases e with
      | zero => have := g.2 b[k] (List.getElem_mem hk); rw [this] at hs; simp at hs
      | succ e => exact ⟨e, g.2 b[k] (List.getElem_mem hk) _ (List.getElem_mem hs)⟩
    obtain ⟨e', ge⟩ := gx
    have hx : (inner b[k])[s]? = some (inner b[k])[s] := by simp [hs]
    have hr := ih (n + 1) m e' (inner b[k])[s] cs M ge hc (by simp only [List.length_cons] at hp; omega) hat
    have e9 : n + 1 + p.length + 2 = n + (p.length + 2) + 1 := by omega
    rw [e9] at hr
    have ek : L2.atI (encB b) (k : Int) = some (encC b[k]) := by rw [at_nat (by rw [enc_len]; exact hk), enc_get, List.getElem?_eq_getElem hk]; rfl
    have hbo := fun q => blocks_of q b[k] M
    have hwb := fun q => with_blocks q b[k] s (inner b[k])[s] hx (.tup (chD m cs p (inner b[k])[s])) M
    have ex : L2.atI ((inner b[k]).map fun b => D.tup (encB b)) (s : Int) = some (.tup (encB (inner b[k])[s])) := by
      rw [at_nat (by simpa using hs), List.getElem?_map, List.getElem?_eq_getElem hs]; rfl
    have hcl : cutD (encP (k :: s :: p)) (some 2) none = encP p := cut_drop (encP (k :: s :: p)) 2
    have c1 := cut_take (encB b) k
    have c2 : cutD (encB b) (some ((k : Int) + 1)) none = (encB b).drop (k + 1) := by
      rw [show ((k : Int) + 1) = ((k + 1 : Nat) : Int) by omega]
      exact cut_drop (encB b) (k + 1)
    have c3 := cut_take ((inner b[k]).map fun b => D.tup (encB b)) s
    have c4 : cutD ((inner b[k]).map fun b => D.tup (encB b)) (some ((s : Int) + 1)) none = ((inner b[k]).map fun b => D.tup (encB b)).drop (s + 1) := by
      rw [show ((s : Int) + 1) = ((s + 1 : Nat) : Int) by omega]
      exact cut_drop ((inner b[k]).map fun b => D.tup (encB b)) (s + 1)
    have i2 := inner_two b[k]
    have l0 : decide (((p.length + 1 + 1 : Nat) : Int) = 1) = false := decide_eq_false (by omega)
    have h1 : 1 ≤ seqLine := by decide
    have m1 : (((inner b[k]).map fun b => D.tup (encB b)).take s).length + 1 ≤ seqLine := le_seq (by simp only [List.length_take, List.length_map]; omega)
    have m2 : (((inner b[k]).map fun b => D.tup (encB b)).take s).length + (0 + 1) + (((inner b[k]).map fun b => D.tup (encB b)).drop (s + 1)).length ≤ seqLine := le_seq (by simp only [List.length_take, List.length_drop, List.length_map]; omega)
    have m3 : ((encB b).take k).length + 1 ≤ seqLine := le_seq (by simp only [List.length_take, enc_len]; omega)
    have m4 : ((encB b).take k ++ [withD b[k] s (.tup (chD m cs p (inner b[k])[s]))]).length + ((encB b).drop (k + 1)).length ≤ seqLine := le_seq (by simp only [List.length_append, List.length_take, List.length_drop, enc_len, List.length_cons, List.length_nil]; omega)
    have hz : chD m cs (k :: s :: p) b = (encB b).take k ++ [withD b[k] s (.tup (chD m cs p (inner b[k])[s]))] ++ (encB b).drop (k + 1) := by
      simp only [chD, List.getElem?_eq_getElem hk, List.getElem?_eq_getElem hs]
    have no_v : ∀ i, isNo (.v i) = false := fun _ => rfl
    rw [hz, show n + (k :: s :: p).length + 2 = (n + (p.length + 2) + 1) + 1 by simp only [List.length_cons], r_step (ar := 4) (ns := 7) (b := b4) rfl rfl]
    unfold b4
    simp only [encP, List.map_cons] at hcl hr ⊢
    simp only [List.length_append, List.length_cons, List.length_nil] at m4
    simp only [evSs, evS, evE, evEs, evB, evI, asgT, asgTs, rdV_k, rd_val, rd_mls, b2_k, bd_k, op_k, op_n, fz_val, fz_mls, bl_k, tru_bl, tru_lst, tru_tup, cm_lt, cm_le, cm_gt, cm_ge, cm_eqi, cm_eqs, cm_nei, bn_add, bn_addt, bn_addl, bn_sub, bn_mulR, bn_mulL, bn_div, bn_mod, bi_lent, bi_lenl, bi_lenr, bi_tupt, bi_tupl, bi_listt, bi_listl, bi_int, bi_sum, bi_all, sq_t, sq_l, sq_r, ix_k, pt_no, pt_i, no_none, no_int, sl_t, sl_l, isL, List.map_cons, List.map_nil, List.length_cons, List.length_nil, List.replicate, List.cons_append, List.nil_append, List.getElem?_cons_zero, List.getElem?_cons_succ, List.set_cons_zero, List.set_cons_succ, Option.bind_some, Option.map_some, Option.bind_none, Option.map_none, Nat.reduceAdd, Nat.reduceSub, Nat.reduceLT, Nat.reduceLeDiff, ↓reduceIte, reduceCtorEq, Bool.false_eq_true, Bool.true_and, Bool.and_true, Bool.false_and, Bool.and_false, Bool.not_true, Bool.not_false, if_true, if_false, at_0, atx1, ek, hbo, ex, hcl, hr, c1, c2, c3, c4, hwb, h1, m1, m2, m3, m4, l0, no_v, no_ix, no_bin, cs1, List.length_map, List.length_append]
    rfl
end K69


set_option Elab.async false
set_option linter.all false
set_option maxRecDepth 100000
set_option maxHeartbeats 4000000
namespace K69
open PySem Ev
theorem pl_str {n : Nat} {x : Str} : Pl n (.str x) := by cases n <;> trivial
theorem pl_int {n : Nat} {x : Int} : Pl n (.int x) := by cases n <;> trivial
theorem pl_non {n : Nat} : Pl n .non := by cases n <;> trivial
theorem pl_tup {n : Nat} {l : List D} (h : l.length ≤ 900) (g : ∀ x ∈ l, Pl n x) : Pl (n + 1) (.tup l) := ⟨h, g⟩
theorem pl_up : ∀ (f e : Nat) (d : D), e ≤ f → Pl e d → Pl f d := by
  intro f
  induction f with
  | zero => intro e d h g; rw [show e = 0 by omega] at g; exact g
  | succ f ih =>
    intro e d h g
    cases e with
    | zero => cases d <;> first | trivial | exact g.elim
    | succ e =>
      cases d with
      | tup l => exact ⟨g.1, fun x hx => ih e x (by omega) (g.2 x hx)⟩
      | lst l => exact ⟨g.1, fun x hx => ih e x (by omega) (g.2 x hx)⟩
      | non => trivial
      | bl b => trivial
      | int i => trivial
      | str x => trivial
      | dic a b => exact g.elim
      | ref m => exact g.elim
theorem good_c {e : Nat} {b : List Cm} (g : Good e b) {c : Cm} (h : c ∈ b) : GoodC e c := by
  cases e with
  | zero => exact g.2 c h
  | succ e => exact g.2 c h
theorem good_len {e : Nat} {b : List Cm} (g : Good e b) : b.length ≤ 3 := by
  cases e with
  | zero => exact g.1
  | succ e => exact g.1
theorem enc_mem {d : D} : ∀ {b : List Cm}, d ∈ encB b → ∃ c ∈ b, d = encC c
  | [], h => by simp [encB] at h
  | c :: b, h => by
    simp only [encB, List.mem_cons] at h
    rcases h with h | h
    · exact ⟨c, List.mem_cons_self, h⟩
    · obtain ⟨c', h1, h2⟩ := enc_mem h
      exact ⟨c', List.mem_cons_of_mem _ h1, h2⟩
theorem pl_4 {n : Nat} {l : List D} (h : l.length ≤ 4) (g : ∀ x ∈ l, Pl n x) : Pl (n + 1) (.tup l) := ⟨by omega, g⟩
theorem pl_b {n : Nat} {b : List Cm} (h : b.length ≤ 3) (g : ∀ c ∈ b, Pl n (encC c)) : Pl (n + 1) (.tup (encB b)) := by
  refine ⟨by rw [enc_len]; omega, fun x hx => ?_⟩
  obtain ⟨c, h1, rfl⟩ := enc_mem hx
  exact g c h1
theorem pl_ap {n : Nat} : Pl (n + 1) (.tup [.str "apart", .str "@x", .int 0]) := by
  refine pl_4 (by simp) fun x hx => ?_
  simp only [List.mem_cons, List.not_mem_nil, or_false] at hx
  rcases hx with rfl | rfl | rfl
  · exact pl_str
  · exact pl_str
  · exact pl_int
theorem pl_nil {n : Nat} : Pl (n + 1) (.tup []) := pl_4 (by simp) fun x hx => by simp at hx
theorem pl_c : ∀ (e : Nat) (c : Cm), GoodC e c → Pl (2 * e + 2) (encC c) := by
  have flat : ∀ (n : Nat) (c : Cm), inner c = [] → Pl (n + 1) (encC c) := by
    intro n c h
    cases c with
    | set i =>
      simp only [encC]
      refine pl_4 (by simp) fun x hx => ?_
      simp only [List.mem_cons, List.not_mem_nil, or_false] at hx
      rcases hx with rfl | rfl | rfl
      · exact pl_str
      · exact pl_str
      · exact pl_int
    | free =>
      simp only [encC]
      refine pl_4 (by simp) fun x hx => ?_
      simp only [List.mem_cons, List.not_mem_nil, or_false] at hx
      rcases hx with rfl | rfl <;> exact pl_str
    | get =>
      simp only [encC]
      refine pl_4 (by simp) fun x hx => ?_
      simp only [List.mem_cons, List.not_mem_nil, or_false] at hx
      rcases hx with rfl | rfl | rfl | rfl <;> exact pl_str
    | ife a b => exact absurd h (by simp [inner])
    | wh a t => exact absurd h (by simp [inner])
    | both a b => exact absurd h (by simp [inner])
    | grd a => exact absurd h (by simp [inner])
  intro e
  induction e with
  | zero => exact fun c h => flat 1 c h
  | succ e ih =>
    intro c h
    have blk : ∀ x ∈ inner c, Pl (2 * e + 3) (.tup (encB x)) := fun x hx => pl_b (good_len (h x hx)) fun c' hc' => ih c' (good_c (h x hx) hc')
    cases c with
    | set i => exact flat (2 * (e + 1) + 1) _ rfl
    | free => exact flat (2 * (e + 1) + 1) _ rfl
    | get => exact flat (2 * (e + 1) + 1) _ rfl
    | ife a b =>
      simp only [encC]
      refine pl_4 (n := 2 * e + 3) (by simp) fun x hx => ?_
      simp only [List.mem_cons, List.not_mem_nil, or_false] at hx
      rcases hx with rfl | rfl | rfl | rfl
      · exact pl_str
      · exact pl_ap
      · exact blk a (by simp [inner])
      · exact blk b (by simp [inner])
    | wh a t =>
      simp only [encC]
      refine pl_4 (n := 2 * e + 3) (by simp) fun x hx => ?_
      simp only [List.mem_cons, List.not_mem_nil, or_false] at hx
      rcases hx with rfl | rfl | rfl | rfl
      · exact pl_str
      · exact pl_ap
      · exact blk a (by simp [inner])
      · cases t
        · exact pl_non
        · exact pl_nil
    | both a b =>
      simp only [encC]
      refine pl_4 (n := 2 * e + 3) (by simp) fun x hx => ?_
      simp only [List.mem_cons, List.not_mem_nil, or_false] at hx
      rcases hx with rfl | rfl | rfl
      · exact pl_str
      · exact blk a (by simp [inner])
      · exact blk b (by simp [inner])
    | grd a =>
      simp only [encC]
      refine pl_4 (n := 2 * e + 3) (by simp) fun x hx => ?_
      simp only [List.mem_cons, List.not_mem_nil, or_false] at hx
      rcases hx with rfl | rfl | rfl | rfl
      · exact pl_str
      · exact pl_str
      · exact pl_nil
      · exact blk a (by simp [inner])
theorem pl_block {e : Nat} {b : List Cm} (g : Good e b) : Pl (2 * e + 3) (.tup (encB b)) := pl_b (good_len g) fun c hc => pl_c e c (good_c g hc)
/-- the rows' commands -/
theorem sides_c {f : List Cm → List Row} {k : Nat} {P : Cm → Prop} : ∀ (xs : List (List Cm)) (s : Nat), (∀ x ∈ xs, ∀ r ∈ f x, P r.2) → ∀ r ∈ sidesK f k s xs, P r.2
  | [], s, _, r, hr => by simp [sidesK] at hr
  | x :: xs, s, h, r, hr => by
    simp only [sidesK, List.mem_append, List.mem_map] at hr
    rcases hr with ⟨r', h1, rfl⟩ | hr
    · exact h x List.mem_cons_self r' h1
    · exact sides_c xs (s + 1) (fun y hy => h y (List.mem_cons_of_mem _ hy)) r hr
theorem rowsK_c {f : List Cm → List Row} {P : Cm → Prop} : ∀ (cs : List Cm) (k : Nat), (∀ c ∈ cs, P c ∧ ∀ x ∈ inner c, ∀ r ∈ f x, P r.2) → ∀ r ∈ rowsK f k cs, P r.2
  | [], k, _, r, hr => by simp [rowsK] at hr
  | c :: cs, k, h, r, hr => by
    simp only [rowsK, List.mem_cons, List.mem_append] at hr
    rcases hr with rfl | hr | hr
    · exact (h c List.mem_cons_self).1
    · exact sides_c (inner c) 0 (h c List.mem_cons_self).2 r hr
    · exact rowsK_c cs (k + 1) (fun y hy => h y (List.mem_cons_of_mem _ hy)) r hr
theorem rows_c : ∀ (e : Nat) (b : List Cm), Good e b → ∀ r ∈ rows e b, Pl (2 * e + 2) (encC r.2) := by
  intro e
  induction e with
  | zero => exact fun b g => rowsK_c (P := fun c => Pl (2 * 0 + 2) (encC c)) b 0 fun c hc => ⟨pl_c 0 c (good_c g hc), fun x _ r hr => by simp at hr⟩
  | succ e ih => exact fun b g => rowsK_c (P := fun c => Pl (2 * (e + 1) + 2) (encC c)) b 0 fun c hc => ⟨pl_c (e + 1) c (good_c g hc), fun x hx r hr => pl_up _ (2 * e + 2) _ (by omega) (ih x (g.2 c hc x hx) r hr)⟩
theorem pl_p {n : Nat} {p : List Nat} (h : p.length ≤ 900) : Pl (n + 1) (.tup (encP p)) := by
  refine ⟨by rw [encP_len]; exact h, fun x hx => ?_⟩
  obtain ⟨k, _, rfl⟩ := List.mem_map.mp hx
  exact pl_int
theorem pl_rows {e : Nat} (he : e ≤ 3) {b : List Cm} (g : Good e b) : Pl (2 * e + 5) (.lst ((rows e b).map encR)) := by
  obtain ⟨h1, h2⟩ := rows_ok e b g
  have hb := bnd_le he
  refine ⟨by rw [List.length_map]; omega, fun x hx => ?_⟩
  obtain ⟨r, hr, rfl⟩ := List.mem_map.mp hx
  unfold encR
  refine pl_4 (n := 2 * e + 3) (by simp) fun x hx => ?_
  simp only [List.mem_cons, List.not_mem_nil, or_false] at hx
  rcases hx with rfl | rfl
  · exact pl_p (by have := h2 r hr; omega)
  · exact pl_up _ (2 * e + 2) _ (by omega) (rows_c e b g r hr)
theorem pl_at : ∀ (p : List Nat) (e m : Nat) (b : List Cm), Good e b → Pl (2 * e + 3) (encO (atS m p b)) := by
  intro p
  refine two (P := fun p => ∀ (e m : Nat) (b : List Cm), Good e b → Pl (2 * e + 3) (encO (atS m p b))) ?_ ?_ ?_ p
  · exact fun e m b g => pl_non
  · intro k e m b g
    simp only [atS]
    by_cases h : k + m ≤ b.length
    · rw [if_pos h]
      refine pl_b (by have := good_len g; simp only [List.length_take, List.length_drop]; omega) fun c hc => pl_c e c (good_c g ?_)
      exact List.mem_of_mem_drop (List.mem_of_mem_take hc)
    · rw [if_neg h]
      exact pl_non
  · intro k s p ih e m b g
    simp only [atS]
    cases hk : b[k]? with
    | none => exact pl_non
    | some c =>
      cases hs : (inner c)[s]? with
      | none => simp only [Option.bind_some, hs, Option.bind_none]; exact pl_non
      | some x =>
        simp only [Option.bind_some, hs]
        have hc : c ∈ b := List.mem_of_getElem? hk
        have hx : x ∈ inner c := List.mem_of_getElem? hs
        cases e with
        | zero => have := g.2 c hc; rw [this] at hx; simp at hx
        | succ e => exact pl_up _ (2 * e + 3) _ (by omega) (ih e m x (g.2 c hc x hx))
theorem pl_with {e : Nat} {c : Cm} (h : GoodC (e + 1) c) (s : Nat) {d : D} (hd : Pl (2 * e + 3) d) : Pl (2 * (e + 1) + 2) (withD c s d) := by
  have blk : ∀ x ∈ inner c, Pl (2 * e + 3) (.tup (encB x)) := fun x hx => pl_block (h x hx)
  have nx := pl_c (e + 1) c h
  have k4 : ∀ (l : List D), l.length ≤ 4 → (∀ x ∈ l, Pl (2 * e + 3) x) → Pl (2 * (e + 1) + 2) (.tup l) := fun l h g => pl_4 (n := 2 * e + 3) h g
  cases c with
  | set i => exact nx
  | free => exact nx
  | get => exact nx
  | ife a b =>
    cases s with
    | zero =>
      refine k4 _ (by simp) fun x hx => ?_
      simp only [List.mem_cons, List.not_mem_nil, or_false] at hx
      rcases hx with rfl | rfl | rfl | rfl
      · exact pl_str
      · exact pl_ap
      · exact hd
      · exact blk b (by simp [inner])
    | succ s =>
      refine k4 _ (by simp) fun x hx => ?_
      simp only [List.mem_cons, List.not_mem_nil, or_false] at hx
      rcases hx with rfl | rfl | rfl | rfl
      · exact pl_str
      · exact pl_ap
      · exact blk a (by simp [inner])
      · exact hd
  | wh a t =>
    refine k4 _ (by simp) fun x hx => ?_
    simp only [List.mem_cons, List.not_mem_nil, or_false] at hx
    rcases hx with rfl | rfl | rfl | rfl
    · exact pl_str
    · exact pl_ap
    · exact hd
    · cases t
      · exact pl_non
      · exact pl_nil
  | both a b =>
    cases s with
    | zero =>
      refine k4 _ (by simp) fun x hx => ?_
      simp only [List.mem_cons, List.not_mem_nil, or_false] at hx
      rcases hx with rfl | rfl | rfl
      · exact pl_str
      · exact hd
      · exact blk b (by simp [inner])
    | succ s =>
      refine k4 _ (by simp) fun x hx => ?_
      simp only [List.mem_cons, List.not_mem_nil, or_false] at hx
      rcases hx with rfl | rfl | rfl
      · exact pl_str
      · exact blk a (by simp [inner])
      · exact hd
  | grd a =>
    refine k4 _ (by simp) fun x hx => ?_
    simp only [List.mem_cons, List.not_mem_nil, or_false] at hx
    rcases hx with rfl | rfl | rfl | rfl
    · exact pl_str
    · exact pl_str
    · exact pl_nil
    · exact hd
theorem pl_ch : ∀ (p : List Nat) (e m : Nat) (cs : List D) (b : List Cm), Good e b → cs.length ≤ 10 → (∀ x ∈ cs, Pl 1 x) → Pl (2 * e + 3) (.tup (chD m cs p b)) := by
  intro p
  refine two (P := fun p => ∀ (e m : Nat) (cs : List D) (b : List Cm), Good e b → cs.length ≤ 10 → (∀ x ∈ cs, Pl 1 x) → Pl (2 * e + 3) (.tup (chD m cs p b))) ?_ ?_ ?_ p
  · exact fun e m cs b g _ _ => pl_block g
  · intro k e m cs b g hc hx
    have hb := good_len g
    refine ⟨by simp only [chD, List.length_append, List.length_take, List.length_drop, enc_len]; omega, fun x h => ?_⟩
    have own : ∀ x ∈ encB b, Pl (2 * e + 2) x := fun x h => by obtain ⟨c, h1, rfl⟩ := enc_mem h; exact pl_c e c (good_c g h1)
    simp only [chD, List.mem_append] at h
    rcases h with (h | h) | h
    · exact own x (List.mem_of_mem_take h)
    · exact pl_up _ 1 _ (by omega) (hx x h)
    · exact own x (List.mem_of_mem_drop h)
  · intro k s p ih e m cs b g hc hx
    have hb := good_len g
    have own : ∀ x ∈ encB b, Pl (2 * e + 2) x := fun x h => by obtain ⟨c, h1, rfl⟩ := enc_mem h; exact pl_c e c (good_c g h1)
    cases hk : b[k]? with
    | none => simp only [chD, hk]; exact pl_block g
    | some c =>
      cases hs : (inner c)[s]? with
      | none => simp only [chD, hk, hs]; exact pl_block g
      | some x =>
        have hcb : c ∈ b := List.mem_of_getElem? hk
        have hxi : x ∈ inner c := List.mem_of_getElem? hs
        simp only [chD, hk, hs]
        cases e with
        | zero => have := g.2 c hcb; rw [this] at hxi; simp at hxi
        | succ e =>
          have gx := g.2 c hcb x hxi
          have hd := ih e m cs x gx hc hx
          have hw := pl_with (good_c g hcb) s hd
          refine ⟨by simp only [List.length_append, List.length_take, List.length_drop, enc_len, List.length_cons, List.length_nil]; omega, fun y h => ?_⟩
          simp only [List.mem_append, List.mem_singleton] at h
          rcases h with (h | rfl) | h
          · exact own y (List.mem_of_mem_take h)
          · exact hw
          · exact own y (List.mem_of_mem_drop h)
end K69


set_option Elab.async false
set_option linter.all false
set_option maxRecDepth 100000
set_option maxHeartbeats 4000000
namespace K69
open PySem Ev
/-- a comprehension whose turns draw -/
theorem lcL_box {step : D → S → Res (Option D × S)} {σ : List Rv} {Q : D → Prop} : ∀ (l acc : List D) (cs : List Int) (d t : Int), (∀ x ∈ l, ∀ (cs : List Int) (d t : Int), ∃ (y : D) (cs' : List Int) (d' t' : Int), Q y ∧ step x ⟨σ, BoxM cs d t⟩ = .ok (some y, ⟨σ, BoxM cs' d' t'⟩)) →
    ∃ (ys : List D) (cs' : List Int) (d' t' : Int), ys.length = l.length ∧ (∀ y ∈ ys, Q y) ∧ lcL step l ⟨σ, BoxM cs d t⟩ acc = .ok (acc ++ ys, ⟨σ, BoxM cs' d' t'⟩)
  | [], acc, cs, d, t, _ => ⟨[], cs, d, t, rfl, fun y hy => by simp at hy, by simp [lcL]⟩
  | x :: l, acc, cs, d, t, h => by
    obtain ⟨y, cs1, d1, t1, hy, e1⟩ := h x List.mem_cons_self cs d t
    obtain ⟨ys, cs2, d2, t2, hl, hq, e2⟩ := lcL_box l (acc ++ [y]) cs1 d1 t1 fun z hz => h z (List.mem_cons_of_mem _ hz)
    refine ⟨y :: ys, cs2, d2, t2, by simp [hl], fun z hz => ?_, ?_⟩
    · rcases List.mem_cons.mp hz with rfl | hz
      · exact hy
      · exact hq z hz
    · simp only [lcL, e1, b2_k, e2]
      simp
theorem ev_lcB {C : Calls} {D' : Nat → D} {vs : List Nat} {tg : Tg} {it : I} {el : E} {s : S} {σ : List Rv} {cs : List Int} {d t : Int} {l : List D} {Q : D → Prop} (hi : evI C D' it s = .ok (l, ⟨σ, BoxM cs d t⟩)) (hno : noOwn σ vs = true) (hl : l.length ≤ seqLine) (hw : wipeR σ vs = σ) (hb : backR σ σ vs = σ)
    (hs : ∀ x ∈ l, ∀ (cs : List Int) (d t : Int), ∃ (σ1 σ2 : List Rv) (y : Rv) (cs' : List Int) (d' t' : Int), asgT tg (.val x) σ = some σ1 ∧ evE C D' el ⟨σ1, BoxM cs d t⟩ = .ok (y, ⟨σ2, BoxM cs' d' t'⟩) ∧ Q y.fz ∧ wipeR σ2 vs = σ) :
    ∃ (ys : List D) (cs' : List Int) (d' t' : Int), ys.length = l.length ∧ (∀ y ∈ ys, Q y) ∧ evE C D' (.lc vs tg it .yes el) s = .ok (.mls ys, ⟨σ, BoxM cs' d' t'⟩) := by
  simp only [evE, hi, b2_k, hno, hl, and_self, if_true]
  obtain ⟨ys, cs', d', t', h1, h2, e⟩ := lcL_box (step := fun x s => (opt (asgT tg (.val x) (wipeR s.σ vs))).bind fun σ => (evB C D' .yes { s with σ := σ }).b2 fun k s => if k = true then (evE C D' el s).b2 fun y s => .ok (some y.fz, { s with σ := wipeR s.σ vs }) else .ok (none, { s with σ := wipeR s.σ vs })) (σ := σ) (Q := Q) l [] cs d t fun x hx cs d t => by
    obtain ⟨σ1, σ2, y, cs', d', t', k1, k2, k3, k4⟩ := hs x hx cs d t
    refine ⟨y.fz, cs', d', t', k3, ?_⟩
    simp only [hw, k1, op_k, bd_k, evB, b2_k, if_true, k2, k4]
  refine ⟨ys, cs', d', t', h1, h2, ?_⟩
  rw [e]
  simp only [b2_k, hb, List.nil_append]
theorem nats_of : ∀ (ys : List D), (∀ y ∈ ys, ∃ k : Nat, y = .int (k : Int)) → ∃ p : List Nat, ys = encP p
  | [], _ => ⟨[], rfl⟩
  | y :: ys, h => by
    obtain ⟨k, rfl⟩ := h y List.mem_cons_self
    obtain ⟨p, rfl⟩ := nats_of ys fun z hz => h z (List.mem_cons_of_mem _ hz)
    exact ⟨k :: p, rfl⟩
theorem nat_of {r : Int} (h : 0 ≤ r) : ∃ k : Nat, r = (k : Int) := ⟨r.toNat, (Int.toNat_of_nonneg h).symm⟩
/-- a place drawn -/
theorem drawn1 (n : Nat) (x0 x2 x3 x4 x6 x8 x9 x10 x11 x12 : Rv) (cs : List Int) (d t : Int) : ∃ (p : List Nat) (cs' : List Int) (d' t' : Int), p.length ≤ 5 ∧
    evE (calls fds dat (n + 2)) dat b16_9 ⟨[x0, .val (.ref 1), x2, x3, x4, .un, x6, .un, x8, x9, x10, x11, x12], BoxM cs d t⟩ = .ok (.mls (encP p), ⟨[x0, .val (.ref 1), x2, x3, x4, .un, x6, .un, x8, x9, x10, x11, x12], BoxM cs' d' t'⟩) := by
  obtain ⟨r, cs1, d1, t1, hr0, hr1, h1⟩ := law_draw n 6 (by decide) (by decide) cs d t
  obtain ⟨k, rfl⟩ := nat_of hr0
  have rg := rng_ok (n := k) (by omega)
  have hi : evI (calls fds dat (n + 2)) dat (.rng1 (.call 8 (.cons (.v 1) (.cons (.int 6) .nil)))) ⟨[x0, .val (.ref 1), x2, x3, x4, .un, x6, .un, x8, x9, x10, x11, x12], BoxM cs d t⟩ = .ok (rngD ((0 : Nat) : Int) 1 k, ⟨[x0, .val (.ref 1), x2, x3, x4, .un, x6, .un, x8, x9, x10, x11, x12], BoxM cs1 d1 t1⟩) := by
    simp only [evSs, evS, evE, evEs, evB, evI, asgT, asgTs, rdV_k, rd_val, rd_mls, b2_k, bd_k, op_k, op_n, fz_val, fz_mls, bl_k, tru_bl, tru_lst, tru_tup, cm_lt, cm_le, cm_gt, cm_ge, cm_eqi, cm_eqs, cm_nei, bn_add, bn_addt, bn_addl, bn_sub, bn_mulR, bn_mulL, bn_div, bn_mod, bi_lent, bi_lenl, bi_lenr, bi_tupt, bi_tupl, bi_listt, bi_listl, bi_int, bi_sum, bi_all, sq_t, sq_l, sq_r, ix_k, pt_no, pt_i, no_none, no_int, sl_t, sl_l, isL, List.map_cons, List.map_nil, List.length_cons, List.length_nil, List.replicate, List.cons_append, List.nil_append, List.getElem?_cons_zero, List.getElem?_cons_succ, List.set_cons_zero, List.set_cons_succ, Option.bind_some, Option.map_some, Option.bind_none, Option.map_none, Nat.reduceAdd, Nat.reduceSub, Nat.reduceLT, Nat.reduceLeDiff, ↓reduceIte, reduceCtorEq, Bool.false_eq_true, Bool.true_and, Bool.and_true, Bool.false_and, Bool.and_false, Bool.not_true, Bool.not_false, if_true, if_false, h1, rg]
  obtain ⟨ys, cs2, d2, t2, hl, hq, e⟩ := ev_lcB (vs := [7]) (tg := .nm 7) (el := b16_8) (Q := fun y => ∃ k : Nat, y = .int (k : Int)) hi rfl (by rw [rng_len]; exact le_seq (by omega)) rfl rfl fun x hx cs d t => by
    obtain ⟨r, cs1, d1, t1, hr0, hr1, h1⟩ := law_draw n 4 (by decide) (by decide) cs d t
    obtain ⟨j, rfl⟩ := nat_of hr0
    refine ⟨[x0, .val (.ref 1), x2, x3, x4, .un, x6, .val x, x8, x9, x10, x11, x12], [x0, .val (.ref 1), x2, x3, x4, .un, x6, .val x, x8, x9, x10, x11, x12], .val (.int (j : Int)), cs1, d1, t1, rfl, ?_, ⟨j, rfl⟩, rfl⟩
    unfold b16_8
    simp only [evSs, evS, evE, evEs, evB, evI, asgT, asgTs, rdV_k, rd_val, rd_mls, b2_k, bd_k, op_k, op_n, fz_val, fz_mls, bl_k, tru_bl, tru_lst, tru_tup, cm_lt, cm_le, cm_gt, cm_ge, cm_eqi, cm_eqs, cm_nei, bn_add, bn_addt, bn_addl, bn_sub, bn_mulR, bn_mulL, bn_div, bn_mod, bi_lent, bi_lenl, bi_lenr, bi_tupt, bi_tupl, bi_listt, bi_listl, bi_int, bi_sum, bi_all, sq_t, sq_l, sq_r, ix_k, pt_no, pt_i, no_none, no_int, sl_t, sl_l, isL, List.map_cons, List.map_nil, List.length_cons, List.length_nil, List.replicate, List.cons_append, List.nil_append, List.getElem?_cons_zero, List.getElem?_cons_succ, List.set_cons_zero, List.set_cons_succ, Option.bind_some, Option.map_some, Option.bind_none, Option.map_none, Nat.reduceAdd, Nat.reduceSub, Nat.reduceLT, Nat.reduceLeDiff, ↓reduceIte, reduceCtorEq, Bool.false_eq_true, Bool.true_and, Bool.and_true, Bool.false_and, Bool.and_false, Bool.not_true, Bool.not_false, if_true, if_false, h1]
  obtain ⟨p, rfl⟩ := nats_of ys hq
  refine ⟨p, cs2, d2, t2, ?_, e⟩
  rw [encP_len, rng_len] at hl
  omega
def Drawn (y : D) : Prop := ∃ p : List Nat, p.length ≤ 8 ∧ y = .tup (encP p)
theorem drawn6 (n : Nat) (x0 x2 x3 x4 x6 x9 x10 x11 x12 : Rv) (cs : List Int) (d t : Int) : ∃ (ys : List D) (cs' : List Int) (d' t' : Int), ys.length = 6 ∧ (∀ y ∈ ys, Drawn y) ∧
    evE (calls fds dat (n + 2)) dat b16_11 ⟨[x0, .val (.ref 1), x2, x3, x4, .un, x6, .un, .un, x9, x10, x11, x12], BoxM cs d t⟩ = .ok (.mls ys, ⟨[x0, .val (.ref 1), x2, x3, x4, .un, x6, .un, .un, x9, x10, x11, x12], BoxM cs' d' t'⟩) := by
  have rg := rng_ok (n := 6) (by omega)
  have hi : evI (calls fds dat (n + 2)) dat (.rng1 (.int 6)) ⟨[x0, .val (.ref 1), x2, x3, x4, .un, x6, .un, .un, x9, x10, x11, x12], BoxM cs d t⟩ = .ok (rngD ((0 : Nat) : Int) 1 6, ⟨[x0, .val (.ref 1), x2, x3, x4, .un, x6, .un, .un, x9, x10, x11, x12], BoxM cs d t⟩) := by
    have rg' : rng2D (.int 0) (.int 6) = some (rngD ((0 : Nat) : Int) 1 6) := rg
    simp only [evSs, evS, evE, evEs, evB, evI, asgT, asgTs, rdV_k, rd_val, rd_mls, b2_k, bd_k, op_k, op_n, fz_val, fz_mls, bl_k, tru_bl, tru_lst, tru_tup, cm_lt, cm_le, cm_gt, cm_ge, cm_eqi, cm_eqs, cm_nei, bn_add, bn_addt, bn_addl, bn_sub, bn_mulR, bn_mulL, bn_div, bn_mod, bi_lent, bi_lenl, bi_lenr, bi_tupt, bi_tupl, bi_listt, bi_listl, bi_int, bi_sum, bi_all, sq_t, sq_l, sq_r, ix_k, pt_no, pt_i, no_none, no_int, sl_t, sl_l, isL, List.map_cons, List.map_nil, List.length_cons, List.length_nil, List.replicate, List.cons_append, List.nil_append, List.getElem?_cons_zero, List.getElem?_cons_succ, List.set_cons_zero, List.set_cons_succ, Option.bind_some, Option.map_some, Option.bind_none, Option.map_none, Nat.reduceAdd, Nat.reduceSub, Nat.reduceLT, Nat.reduceLeDiff, ↓reduceIte, reduceCtorEq, Bool.false_eq_true, Bool.true_and, Bool.and_true, Bool.false_and, Bool.and_false, Bool.not_true, Bool.not_false, if_true, if_false, rg']
  obtain ⟨ys, cs2, d2, t2, hl, hq, e⟩ := ev_lcB (vs := [8]) (tg := .nm 8) (el := b16_10) (Q := Drawn) hi rfl (by rw [rng_len]; exact le_seq (by omega)) rfl rfl fun x hx cs d t => by
    obtain ⟨p, cs1, d1, t1, hp, h1⟩ := drawn1 n x0 x2 x3 x4 x6 (.val x) x9 x10 x11 x12 cs d t
    refine ⟨[x0, .val (.ref 1), x2, x3, x4, .un, x6, .un, .val x, x9, x10, x11, x12], [x0, .val (.ref 1), x2, x3, x4, .un, x6, .un, .val x, x9, x10, x11, x12], .val (.tup (encP p)), cs1, d1, t1, rfl, ?_, ⟨p, by omega, rfl⟩, rfl⟩
    unfold b16_10
    simp only [evSs, evS, evE, evEs, evB, evI, asgT, asgTs, rdV_k, rd_val, rd_mls, b2_k, bd_k, op_k, op_n, fz_val, fz_mls, bl_k, tru_bl, tru_lst, tru_tup, cm_lt, cm_le, cm_gt, cm_ge, cm_eqi, cm_eqs, cm_nei, bn_add, bn_addt, bn_addl, bn_sub, bn_mulR, bn_mulL, bn_div, bn_mod, bi_lent, bi_lenl, bi_lenr, bi_tupt, bi_tupl, bi_listt, bi_listl, bi_int, bi_sum, bi_all, sq_t, sq_l, sq_r, ix_k, pt_no, pt_i, no_none, no_int, sl_t, sl_l, isL, List.map_cons, List.map_nil, List.length_cons, List.length_nil, List.replicate, List.cons_append, List.nil_append, List.getElem?_cons_zero, List.getElem?_cons_succ, List.set_cons_zero, List.set_cons_succ, Option.bind_some, Option.map_some, Option.bind_none, Option.map_none, Nat.reduceAdd, Nat.reduceSub, Nat.reduceLT, Nat.reduceLeDiff, ↓reduceIte, reduceCtorEq, Bool.false_eq_true, Bool.true_and, Bool.and_true, Bool.false_and, Bool.and_false, Bool.not_true, Bool.not_false, if_true, if_false, h1]
  exact ⟨ys, cs2, d2, t2, by rw [hl, rng_len], hq, e⟩
end K69


set_option Elab.async false
set_option linter.all false
set_option maxRecDepth 100000
set_option maxHeartbeats 4000000
namespace K69
open PySem Ev
def PlaceD (y : D) : Prop := Drawn y ∨ Odd y
theorem place_both (y : D) (h : PlaceD y) {e : Nat} (he : e ≤ 3) {b : List Cm} (g : Good e b) (m : Nat) (M : Mem) : ∃ z : D, Pl 12 z ∧ R 59 5 [.tup (encB b), y, .int (m : Int)] M = .ok (.val z, M) ∧ R 59 15 [.tup (encB b), y, .int (m : Int)] M = .ok (.val z, M) := by
  rcases h with ⟨p, hp, rfl⟩ | h
  · refine ⟨encO (atS m p b), pl_up _ (2 * e + 3) _ (by omega) (pl_at p e m b g), commands_at 57 m p b M (by omega), ?_⟩
    have := law_row p (57 - p.length) m b M (by omega)
    rw [show 57 - p.length + p.length + 2 = 59 by omega] at this
    exact this
  · exact ⟨.non, pl_non, odd_at 57 y h _ _ M, odd_row 57 y h _ _ M⟩
theorem same12 (z : D) (h : Pl 12 z) (M : Mem) : R 59 9 [z, z] M = .ok (.val (.bl true), M) := same 12 46 z h M
theorem one_add {r : Int} {k : Int} (h0 : 0 ≤ r) : ∃ m : Nat, 1 + r = (m : Int) := nat_of (by omega)
/-- a turn over the places -/
theorem turn4 (y : D) (h : PlaceD y) {e : Nat} (he : e ≤ 3) {b : List Cm} (g : Good e b) (x0 x2 x4 x6 x9 x10 x11 x12 : Rv) (cs : List Int) (d t : Int) : ∃ (y10 : Rv) (cs' : List Int) (d' t' : Int),
    evSs (calls fds dat 59) dat b16_4 ⟨[x0, .val (.ref 1), x2, .val (.tup (encB b)), x4, .un, x6, .un, .un, .val y, x10, x11, x12], BoxM cs d t⟩ =
      .ok (.nx, ⟨[x0, .val (.ref 1), x2, .val (.tup (encB b)), x4, .un, x6, .un, .un, .val y, y10, x11, x12], BoxM cs' d' t'⟩) := by
  obtain ⟨r, cs1, d1, t1, hr0, hr1, h1⟩ := law_draw 57 3 (by decide) (by decide) cs d t
  obtain ⟨m, hm⟩ := nat_of (r := 1 + r) (by omega)
  obtain ⟨z, hz, k1, k2⟩ := place_both y h he g m (BoxM cs1 d1 t1)
  have k3 := same12 z hz (BoxM cs1 d1 t1)
  refine ⟨.val (.int (m : Int)), cs1, d1, t1, ?_⟩
  have h1' : calls fds dat 59 8 [.ref 1, .int 3] (BoxM cs d t) = .ok (.val (.int r), BoxM cs1 d1 t1) := h1
  have k1' : calls fds dat 59 5 [.tup (encB b), y, .int (m : Int)] (BoxM cs1 d1 t1) = .ok (.val z, BoxM cs1 d1 t1) := k1
  have k2' : calls fds dat 59 15 [.tup (encB b), y, .int (m : Int)] (BoxM cs1 d1 t1) = .ok (.val z, BoxM cs1 d1 t1) := k2
  have k3' : calls fds dat 59 9 [z, z] (BoxM cs1 d1 t1) = .ok (.val (.bl true), BoxM cs1 d1 t1) := k3
  unfold b16_4
  simp only [evSs, evS, evE, evEs, evB, evI, asgT, asgTs, rdV_k, rd_val, rd_mls, b2_k, bd_k, op_k, op_n, fz_val, fz_mls, bl_k, tru_bl, tru_lst, tru_tup, cm_lt, cm_le, cm_gt, cm_ge, cm_eqi, cm_eqs, cm_nei, bn_add, bn_addt, bn_addl, bn_sub, bn_mulR, bn_mulL, bn_div, bn_mod, bi_lent, bi_lenl, bi_lenr, bi_tupt, bi_tupl, bi_listt, bi_listl, bi_int, bi_sum, bi_all, sq_t, sq_l, sq_r, ix_k, pt_no, pt_i, no_none, no_int, sl_t, sl_l, isL, List.map_cons, List.map_nil, List.length_cons, List.length_nil, List.replicate, List.cons_append, List.nil_append, List.getElem?_cons_zero, List.getElem?_cons_succ, List.set_cons_zero, List.set_cons_succ, Option.bind_some, Option.map_some, Option.bind_none, Option.map_none, Nat.reduceAdd, Nat.reduceSub, Nat.reduceLT, Nat.reduceLeDiff, ↓reduceIte, reduceCtorEq, Bool.false_eq_true, Bool.true_and, Bool.and_true, Bool.false_and, Bool.and_false, Bool.not_true, Bool.not_false, if_true, if_false, h1', hm, k1', k2', k3']
/-- the commands drawn -/
theorem drawnC (n : Nat) (x0 x2 x3 x4 x6 x9 x10 x11 x12 : Rv) (cs : List Int) (d t : Int) : ∃ (ys : List D) (cs' : List Int) (d' t' : Int), ys.length ≤ 10 ∧ (∀ y ∈ ys, Pl 1 y) ∧
    evE (calls fds dat (n + 2)) dat b16_1 ⟨[x0, .val (.ref 1), x2, x3, x4, .un, x6, .un, .un, x9, x10, x11, x12], BoxM cs d t⟩ = .ok (.mls ys, ⟨[x0, .val (.ref 1), x2, x3, x4, .un, x6, .un, .un, x9, x10, x11, x12], BoxM cs' d' t'⟩) := by
  obtain ⟨r, cs1, d1, t1, hr0, hr1, h1⟩ := law_draw n 3 (by decide) (by decide) cs d t
  obtain ⟨k, rfl⟩ := nat_of hr0
  have rg := rng_ok (n := k) (by omega)
  have hi : evI (calls fds dat (n + 2)) dat (.rng1 (.call 8 (.cons (.v 1) (.cons (.int 3) .nil)))) ⟨[x0, .val (.ref 1), x2, x3, x4, .un, x6, .un, .un, x9, x10, x11, x12], BoxM cs d t⟩ = .ok (rngD ((0 : Nat) : Int) 1 k, ⟨[x0, .val (.ref 1), x2, x3, x4, .un, x6, .un, .un, x9, x10, x11, x12], BoxM cs1 d1 t1⟩) := by
    simp only [evSs, evS, evE, evEs, evB, evI, asgT, asgTs, rdV_k, rd_val, rd_mls, b2_k, bd_k, op_k, op_n, fz_val, fz_mls, bl_k, tru_bl, tru_lst, tru_tup, cm_lt, cm_le, cm_gt, cm_ge, cm_eqi, cm_eqs, cm_nei, bn_add, bn_addt, bn_addl, bn_sub, bn_mulR, bn_mulL, bn_div, bn_mod, bi_lent, bi_lenl, bi_lenr, bi_tupt, bi_tupl, bi_listt, bi_listl, bi_int, bi_sum, bi_all, sq_t, sq_l, sq_r, ix_k, pt_no, pt_i, no_none, no_int, sl_t, sl_l, isL, List.map_cons, List.map_nil, List.length_cons, List.length_nil, List.replicate, List.cons_append, List.nil_append, List.getElem?_cons_zero, List.getElem?_cons_succ, List.set_cons_zero, List.set_cons_succ, Option.bind_some, Option.map_some, Option.bind_none, Option.map_none, Nat.reduceAdd, Nat.reduceSub, Nat.reduceLT, Nat.reduceLeDiff, ↓reduceIte, reduceCtorEq, Bool.false_eq_true, Bool.true_and, Bool.and_true, Bool.false_and, Bool.and_false, Bool.not_true, Bool.not_false, if_true, if_false, h1, rg]
  obtain ⟨ys, cs2, d2, t2, hl, hq, e⟩ := ev_lcB (vs := [7]) (tg := .nm 7) (el := b16_0) (Q := fun y => Pl 1 y) hi rfl (by rw [rng_len]; exact le_seq (by omega)) rfl rfl fun x hx cs d t => by
    obtain ⟨j, _, _, rfl⟩ := rng_mem _ _ _ hx
    have h3 : 3 ≤ seqLine := by decide
    refine ⟨[x0, .val (.ref 1), x2, x3, x4, .un, x6, .val (.int (j : Int)), .un, x9, x10, x11, x12], [x0, .val (.ref 1), x2, x3, x4, .un, x6, .val (.int (j : Int)), .un, x9, x10, x11, x12], .val (.tup [.str "set", .str "z", .int (j : Int)]), cs, d, t, rfl, ?_, ?_, rfl⟩
    · unfold b16_0
      simp only [evSs, evS, evE, evEs, evB, evI, asgT, asgTs, rdV_k, rd_val, rd_mls, b2_k, bd_k, op_k, op_n, fz_val, fz_mls, bl_k, tru_bl, tru_lst, tru_tup, cm_lt, cm_le, cm_gt, cm_ge, cm_eqi, cm_eqs, cm_nei, bn_add, bn_addt, bn_addl, bn_sub, bn_mulR, bn_mulL, bn_div, bn_mod, bi_lent, bi_lenl, bi_lenr, bi_tupt, bi_tupl, bi_listt, bi_listl, bi_int, bi_sum, bi_all, sq_t, sq_l, sq_r, ix_k, pt_no, pt_i, no_none, no_int, sl_t, sl_l, isL, List.map_cons, List.map_nil, List.length_cons, List.length_nil, List.replicate, List.cons_append, List.nil_append, List.getElem?_cons_zero, List.getElem?_cons_succ, List.set_cons_zero, List.set_cons_succ, Option.bind_some, Option.map_some, Option.bind_none, Option.map_none, Nat.reduceAdd, Nat.reduceSub, Nat.reduceLT, Nat.reduceLeDiff, ↓reduceIte, reduceCtorEq, Bool.false_eq_true, Bool.true_and, Bool.and_true, Bool.false_and, Bool.and_false, Bool.not_true, Bool.not_false, if_true, if_false, h3]
    · refine pl_4 (n := 0) (by simp) fun x hx => ?_
      simp only [List.mem_cons, List.not_mem_nil, or_false] at hx
      rcases hx with rfl | rfl | rfl
      · exact pl_str
      · exact pl_str
      · exact pl_int
  refine ⟨ys, cs2, d2, t2, ?_, hq, e⟩
  rw [rng_len] at hl
  omega
/-- a turn over the rows -/
theorem turn2 (p : List Nat) (c : Cm) (hp : p.length ≤ 8) {e : Nat} (he : e ≤ 3) {b : List Cm} (g : Good e b) (x0 x2 x4 x6 x10 x12 : Rv) (cs : List Int) (d t : Int) : ∃ (y10 y12 : Rv) (cs' : List Int) (d' t' : Int),
    evSs (calls fds dat 59) dat b16_2 ⟨[x0, .val (.ref 1), x2, .val (.tup (encB b)), x4, .un, x6, .un, .un, .val (.tup (encP p)), x10, .val (encC c), x12], BoxM cs d t⟩ =
      .ok (.nx, ⟨[x0, .val (.ref 1), x2, .val (.tup (encB b)), x4, .un, x6, .un, .un, .val (.tup (encP p)), y10, .val (encC c), y12], BoxM cs' d' t'⟩) := by
  obtain ⟨r, cs1, d1, t1, hr0, hr1, h1⟩ := law_draw 57 2 (by decide) (by decide) cs d t
  obtain ⟨m, hm⟩ := nat_of (r := 1 + r) (by omega)
  have h1' : calls fds dat 59 8 [.ref 1, .int 2] (BoxM cs d t) = .ok (.val (.int r), BoxM cs1 d1 t1) := h1
  have k2 := law_row p (57 - p.length) m b (BoxM cs1 d1 t1) (by omega)
  rw [show 57 - p.length + p.length + 2 = 59 by omega] at k2
  have k2' : calls fds dat 59 15 [.tup (encB b), .tup (encP p), .int (m : Int)] (BoxM cs1 d1 t1) = .ok (.val (encO (atS m p b)), BoxM cs1 d1 t1) := k2
  unfold b16_2
  cases ha : atS m p b with
  | none =>
    rw [ha] at k2'
    simp only [encO] at k2'
    refine ⟨.val (.int (m : Int)), x12, cs1, d1, t1, ?_⟩
    simp only [evSs, evS, evE, evEs, evB, evI, asgT, asgTs, rdV_k, rd_val, rd_mls, b2_k, bd_k, op_k, op_n, fz_val, fz_mls, bl_k, tru_bl, tru_lst, tru_tup, cm_lt, cm_le, cm_gt, cm_ge, cm_eqi, cm_eqs, cm_nei, bn_add, bn_addt, bn_addl, bn_sub, bn_mulR, bn_mulL, bn_div, bn_mod, bi_lent, bi_lenl, bi_lenr, bi_tupt, bi_tupl, bi_listt, bi_listl, bi_int, bi_sum, bi_all, sq_t, sq_l, sq_r, ix_k, pt_no, pt_i, no_none, no_int, sl_t, sl_l, isL, List.map_cons, List.map_nil, List.length_cons, List.length_nil, List.replicate, List.cons_append, List.nil_append, List.getElem?_cons_zero, List.getElem?_cons_succ, List.set_cons_zero, List.set_cons_succ, Option.bind_some, Option.map_some, Option.bind_none, Option.map_none, Nat.reduceAdd, Nat.reduceSub, Nat.reduceLT, Nat.reduceLeDiff, ↓reduceIte, reduceCtorEq, Bool.false_eq_true, Bool.true_and, Bool.and_true, Bool.false_and, Bool.and_false, Bool.not_true, Bool.not_false, if_true, if_false, h1', hm, k2', isNon]
  | some x =>
    rw [ha] at k2'
    simp only [encO] at k2'
    obtain ⟨ys, cs2, d2, t2, hl, hq, e1⟩ := drawnC 57 x0 x2 (.val (.tup (encB b))) x4 x6 (.val (.tup (encP p))) (.val (.int (m : Int))) (.val (encC c)) x12 cs1 d1 t1
    have e1' : evE (calls fds dat 59) dat b16_1 ⟨[x0, .val (.ref 1), x2, .val (.tup (encB b)), x4, .un, x6, .un, .un, .val (.tup (encP p)), .val (.int (m : Int)), .val (encC c), x12], BoxM cs1 d1 t1⟩ = .ok (.mls ys, ⟨[x0, .val (.ref 1), x2, .val (.tup (encB b)), x4, .un, x6, .un, .un, .val (.tup (encP p)), .val (.int (m : Int)), .val (encC c), x12], BoxM cs2 d2 t2⟩) := e1
    have q1 := with_commands p (57 - p.length) m e b ys (BoxM cs2 d2 t2) g hl (by omega) (by rw [ha]; exact fun z => by simp at z)
    have q2 := law_changed p (57 - p.length) m e b ys (BoxM cs2 d2 t2) g hl (by omega) (by rw [ha]; exact fun z => by simp at z)
    rw [show 57 - p.length + p.length + 2 = 59 by omega] at q1 q2
    have q1' : calls fds dat 59 4 [.tup (encB b), .tup (encP p), .int (m : Int), .tup ys] (BoxM cs2 d2 t2) = .ok (.val (.tup (chD m ys p b)), BoxM cs2 d2 t2) := q1
    have q2' : calls fds dat 59 14 [.tup (encB b), .tup (encP p), .int (m : Int), .tup ys] (BoxM cs2 d2 t2) = .ok (.val (.tup (chD m ys p b)), BoxM cs2 d2 t2) := q2
    have q3 := same12 (.tup (chD m ys p b)) (pl_up _ (2 * e + 3) _ (by omega) (pl_ch p e m ys b g hl hq)) (BoxM cs2 d2 t2)
    have q3' : calls fds dat 59 9 [.tup (chD m ys p b), .tup (chD m ys p b)] (BoxM cs2 d2 t2) = .ok (.val (.bl true), BoxM cs2 d2 t2) := q3
    refine ⟨.val (.int (m : Int)), .val (.tup ys), cs2, d2, t2, ?_⟩
    simp only [evSs, evS, evE, evEs, evB, evI, asgT, asgTs, rdV_k, rd_val, rd_mls, b2_k, bd_k, op_k, op_n, fz_val, fz_mls, bl_k, tru_bl, tru_lst, tru_tup, cm_lt, cm_le, cm_gt, cm_ge, cm_eqi, cm_eqs, cm_nei, bn_add, bn_addt, bn_addl, bn_sub, bn_mulR, bn_mulL, bn_div, bn_mod, bi_lent, bi_lenl, bi_lenr, bi_tupt, bi_tupl, bi_listt, bi_listl, bi_int, bi_sum, bi_all, sq_t, sq_l, sq_r, ix_k, pt_no, pt_i, no_none, no_int, sl_t, sl_l, isL, List.map_cons, List.map_nil, List.length_cons, List.length_nil, List.replicate, List.cons_append, List.nil_append, List.getElem?_cons_zero, List.getElem?_cons_succ, List.set_cons_zero, List.set_cons_succ, Option.bind_some, Option.map_some, Option.bind_none, Option.map_none, Nat.reduceAdd, Nat.reduceSub, Nat.reduceLT, Nat.reduceLeDiff, ↓reduceIte, reduceCtorEq, Bool.false_eq_true, Bool.true_and, Bool.and_true, Bool.false_and, Bool.and_false, Bool.not_true, Bool.not_false, if_true, if_false, h1', hm, k2', isNon, e1', q1', q2', q3']
end K69


set_option Elab.async false
set_option linter.all false
set_option maxRecDepth 100000
set_option maxHeartbeats 4000000
namespace K69
open PySem Ev
def Bx (M : Mem) : Prop := ∃ (cs : List Int) (d t : Int), M = BoxM cs d t
theorem forL_nx {step : D → S → Res (Out × S)} {x : D} {l : List D} {s s' : S} (h : step x s = .ok (.nx, s')) : forL step (x :: l) s = forL step l s' := by
  simp only [forL, h, b2_k]
theorem loop4 {e : Nat} (he : e ≤ 3) {b : List Cm} (g : Good e b) (x0 x2 x4 x6 x11 x12 : Rv) : ∀ (l : List D), (∀ y ∈ l, PlaceD y) → ∀ (x9 x10 : Rv) (cs : List Int) (d t : Int), ∃ (y9 y10 : Rv) (cs' : List Int) (d' t' : Int),
    forL (fun x s => (opt (asgT (.nm 9) (.val x) s.σ)).bind fun σ => evSs (calls fds dat 59) dat b16_4 { s with σ := σ }) l ⟨[x0, .val (.ref 1), x2, .val (.tup (encB b)), x4, .un, x6, .un, .un, x9, x10, x11, x12], BoxM cs d t⟩ =
      .ok (.nx, ⟨[x0, .val (.ref 1), x2, .val (.tup (encB b)), x4, .un, x6, .un, .un, y9, y10, x11, x12], BoxM cs' d' t'⟩)
  | [], _, x9, x10, cs, d, t => ⟨x9, x10, cs, d, t, rfl⟩
  | y :: l, h, x9, x10, cs, d, t => by
    obtain ⟨y10, cs1, d1, t1, e1⟩ := turn4 y (h y List.mem_cons_self) he g x0 x2 x4 x6 x9 x10 x11 x12 cs d t
    obtain ⟨z9, z10, cs2, d2, t2, e2⟩ := loop4 he g x0 x2 x4 x6 x11 x12 l (fun z hz => h z (List.mem_cons_of_mem _ hz)) (.val y) y10 cs1 d1 t1
    refine ⟨z9, z10, cs2, d2, t2, ?_⟩
    refine (forL_nx ?_).trans e2
    simp only [asgT, List.length_cons, List.length_nil, Nat.reduceAdd, Nat.reduceLT, if_true, List.set_cons_zero, List.set_cons_succ, op_k, bd_k, e1]
theorem loop2 {e : Nat} (he : e ≤ 3) {b : List Cm} (g : Good e b) (x0 x2 x4 x6 : Rv) : ∀ (l : List Row), (∀ r ∈ l, r.1.length ≤ 8) → ∀ (x9 x10 x11 x12 : Rv) (cs : List Int) (d t : Int), ∃ (y9 y10 y11 y12 : Rv) (cs' : List Int) (d' t' : Int),
    forL (fun x s => (opt (asgT (.tp (.cons (.nm 9) (.cons (.nm 11) .nil))) (.val x) s.σ)).bind fun σ => evSs (calls fds dat 59) dat b16_2 { s with σ := σ }) (l.map encR) ⟨[x0, .val (.ref 1), x2, .val (.tup (encB b)), x4, .un, x6, .un, .un, x9, x10, x11, x12], BoxM cs d t⟩ =
      .ok (.nx, ⟨[x0, .val (.ref 1), x2, .val (.tup (encB b)), x4, .un, x6, .un, .un, y9, y10, y11, y12], BoxM cs' d' t'⟩)
  := by
  intro l
  induction l with
  | nil => exact fun _ x9 x10 x11 x12 cs d t => ⟨x9, x10, x11, x12, cs, d, t, rfl⟩
  | cons r l ih =>
    obtain ⟨p, c⟩ := r
    intro h x9 x10 x11 x12 cs d t
    obtain ⟨y10, y12, cs1, d1, t1, e1⟩ := turn2 p c (h (p, c) List.mem_cons_self) he g x0 x2 x4 x6 x10 x12 cs d t
    obtain ⟨z9, z10, z11, z12, cs2, d2, t2, e2⟩ := ih (fun z hz => h z (List.mem_cons_of_mem _ hz)) (.val (.tup (encP p))) y10 (.val (encC c)) y12 cs1 d1 t1
    refine ⟨z9, z10, z11, z12, cs2, d2, t2, ?_⟩
    refine (forL_nx ?_).trans e2
    simp only [encR, asgT, asgTs, Option.bind_some, List.length_cons, List.length_nil, List.length_set, Nat.reduceAdd, Nat.reduceLT, if_true, List.set_cons_zero, List.set_cons_succ, op_k, bd_k, e1]
def fst0 : D → D
  | .tup (x :: _) => x
  | d => d
theorem lc6 (n : Nat) (l : List Row) (hl : l.length ≤ 900) (x0 x1 x2 x3 x6 x7 x8 x9 x10 x11 x12 : Rv) (M : Mem) :
    evE (calls fds dat n) dat b16_6 ⟨[x0, x1, x2, x3, .val (.lst (l.map encR)), .un, x6, x7, x8, x9, x10, x11, x12], M⟩ =
      .ok (.mls (l.map fun r => .tup (encP r.1)), ⟨[x0, x1, x2, x3, .val (.lst (l.map encR)), .un, x6, x7, x8, x9, x10, x11, x12], M⟩) := by
  have e0 : (l.map fun r => D.tup (encP r.1)) = (l.map encR).map fst0 := by
    rw [List.map_map]
    rfl
  have hi : evI (calls fds dat n) dat (.of (.v 4)) ⟨[x0, x1, x2, x3, .val (.lst (l.map encR)), .un, x6, x7, x8, x9, x10, x11, x12], M⟩ = .ok (l.map encR, ⟨[x0, x1, x2, x3, .val (.lst (l.map encR)), .un, x6, x7, x8, x9, x10, x11, x12], M⟩) := by
    simp only [evSs, evS, evE, evEs, evB, evI, asgT, asgTs, rdV_k, rd_val, rd_mls, b2_k, bd_k, op_k, op_n, fz_val, fz_mls, bl_k, tru_bl, tru_lst, tru_tup, cm_lt, cm_le, cm_gt, cm_ge, cm_eqi, cm_eqs, cm_nei, bn_add, bn_addt, bn_addl, bn_sub, bn_mulR, bn_mulL, bn_div, bn_mod, bi_lent, bi_lenl, bi_lenr, bi_tupt, bi_tupl, bi_listt, bi_listl, bi_int, bi_sum, bi_all, sq_t, sq_l, sq_r, ix_k, pt_no, pt_i, no_none, no_int, sl_t, sl_l, isL, List.map_cons, List.map_nil, List.length_cons, List.length_nil, List.replicate, List.cons_append, List.nil_append, List.getElem?_cons_zero, List.getElem?_cons_succ, List.set_cons_zero, List.set_cons_succ, Option.bind_some, Option.map_some, Option.bind_none, Option.map_none, Nat.reduceAdd, Nat.reduceSub, Nat.reduceLT, Nat.reduceLeDiff, ↓reduceIte, reduceCtorEq, Bool.false_eq_true, Bool.true_and, Bool.and_true, Bool.false_and, Bool.and_false, Bool.not_true, Bool.not_false, if_true, if_false, itD]
  rw [e0]
  unfold b16_6
  refine ev_lc hi rfl (by rw [List.length_map]; exact le_seq hl) rfl rfl fun d hd => ?_
  obtain ⟨r, hr, rfl⟩ := List.mem_map.mp hd
  refine ⟨[x0, x1, x2, x3, .val (.lst (l.map encR)), .val (encR r), x6, x7, x8, x9, x10, x11, x12], [x0, x1, x2, x3, .val (.lst (l.map encR)), .val (encR r), x6, x7, x8, x9, x10, x11, x12], .val (.tup (encP r.1)), rfl, ?_, rfl, rfl⟩
  unfold b16_5
  simp only [encR]
  simp only [evSs, evS, evE, evEs, evB, evI, asgT, asgTs, rdV_k, rd_val, rd_mls, b2_k, bd_k, op_k, op_n, fz_val, fz_mls, bl_k, tru_bl, tru_lst, tru_tup, cm_lt, cm_le, cm_gt, cm_ge, cm_eqi, cm_eqs, cm_nei, bn_add, bn_addt, bn_addl, bn_sub, bn_mulR, bn_mulL, bn_div, bn_mod, bi_lent, bi_lenl, bi_lenr, bi_tupt, bi_tupl, bi_listt, bi_listl, bi_int, bi_sum, bi_all, sq_t, sq_l, sq_r, ix_k, pt_no, pt_i, no_none, no_int, sl_t, sl_l, isL, List.map_cons, List.map_nil, List.length_cons, List.length_nil, List.replicate, List.cons_append, List.nil_append, List.getElem?_cons_zero, List.getElem?_cons_succ, List.set_cons_zero, List.set_cons_succ, Option.bind_some, Option.map_some, Option.bind_none, Option.map_none, Nat.reduceAdd, Nat.reduceSub, Nat.reduceLT, Nat.reduceLeDiff, ↓reduceIte, reduceCtorEq, Bool.false_eq_true, Bool.true_and, Bool.and_true, Bool.false_and, Bool.and_false, Bool.not_true, Bool.not_false, if_true, if_false, at_0]
theorem lc13b (n : Nat) (l : List Row) (b : D) (h : ∀ M, calls fds dat n 2 [b] M = .ok (.mls (l.map encR), M)) (hl : l.length ≤ 900) (x0 x1 x2 x4 x6 x7 x8 x9 x10 x11 x12 : Rv) (M : Mem) :
    evE (calls fds dat n) dat b16_13 ⟨[x0, x1, x2, .val b, x4, .un, x6, x7, x8, x9, x10, x11, x12], M⟩ =
      .ok (.mls (l.map encR), ⟨[x0, x1, x2, .val b, x4, .un, x6, x7, x8, x9, x10, x11, x12], M⟩) := by
  have e0 : l.map encR = (l.map encR).map id := (List.map_id _).symm
  have hi : evI (calls fds dat n) dat (.of (.call 2 (.cons (.v 3) .nil))) ⟨[x0, x1, x2, .val b, x4, .un, x6, x7, x8, x9, x10, x11, x12], M⟩ = .ok (l.map encR, ⟨[x0, x1, x2, .val b, x4, .un, x6, x7, x8, x9, x10, x11, x12], M⟩) := by
    simp only [evSs, evS, evE, evEs, evB, evI, asgT, asgTs, rdV_k, rd_val, rd_mls, b2_k, bd_k, op_k, op_n, fz_val, fz_mls, bl_k, tru_bl, tru_lst, tru_tup, cm_lt, cm_le, cm_gt, cm_ge, cm_eqi, cm_eqs, cm_nei, bn_add, bn_addt, bn_addl, bn_sub, bn_mulR, bn_mulL, bn_div, bn_mod, bi_lent, bi_lenl, bi_lenr, bi_tupt, bi_tupl, bi_listt, bi_listl, bi_int, bi_sum, bi_all, sq_t, sq_l, sq_r, ix_k, pt_no, pt_i, no_none, no_int, sl_t, sl_l, isL, List.map_cons, List.map_nil, List.length_cons, List.length_nil, List.replicate, List.cons_append, List.nil_append, List.getElem?_cons_zero, List.getElem?_cons_succ, List.set_cons_zero, List.set_cons_succ, Option.bind_some, Option.map_some, Option.bind_none, Option.map_none, Nat.reduceAdd, Nat.reduceSub, Nat.reduceLT, Nat.reduceLeDiff, ↓reduceIte, reduceCtorEq, Bool.false_eq_true, Bool.true_and, Bool.and_true, Bool.false_and, Bool.and_false, Bool.not_true, Bool.not_false, if_true, if_false, itD, h]
  rw [e0]
  unfold b16_13
  refine ev_lc hi rfl (by rw [List.length_map]; exact le_seq hl) rfl rfl fun d hd => ?_
  obtain ⟨r, hr, rfl⟩ := List.mem_map.mp hd
  refine ⟨[x0, x1, x2, .val b, x4, .val (encR r), x6, x7, x8, x9, x10, x11, x12], [x0, x1, x2, .val b, x4, .val (encR r), x6, x7, x8, x9, x10, x11, x12], .val (encR r), rfl, ?_, rfl, rfl⟩
  unfold b16_12
  simp only [encR]
  simp only [evSs, evS, evE, evEs, evB, evI, asgT, asgTs, rdV_k, rd_val, rd_mls, b2_k, bd_k, op_k, op_n, fz_val, fz_mls, bl_k, tru_bl, tru_lst, tru_tup, cm_lt, cm_le, cm_gt, cm_ge, cm_eqi, cm_eqs, cm_nei, bn_add, bn_addt, bn_addl, bn_sub, bn_mulR, bn_mulL, bn_div, bn_mod, bi_lent, bi_lenl, bi_lenr, bi_tupt, bi_tupl, bi_listt, bi_listl, bi_int, bi_sum, bi_all, sq_t, sq_l, sq_r, ix_k, pt_no, pt_i, no_none, no_int, sl_t, sl_l, isL, List.map_cons, List.map_nil, List.length_cons, List.length_nil, List.replicate, List.cons_append, List.nil_append, List.getElem?_cons_zero, List.getElem?_cons_succ, List.set_cons_zero, List.set_cons_succ, Option.bind_some, Option.map_some, Option.bind_none, Option.map_none, Nat.reduceAdd, Nat.reduceSub, Nat.reduceLT, Nat.reduceLeDiff, ↓reduceIte, reduceCtorEq, Bool.false_eq_true, Bool.true_and, Bool.and_true, Bool.false_and, Bool.and_false, Bool.not_true, Bool.not_false, if_true, if_false]
theorem odds (y : D) (h : y ∈ [D.non, .tup [], .tup [.bl true], .tup [.str "a"], .int 0, .tup [.int (-1)], .tup [.int 0, .int 0]]) : PlaceD y := by
  simp only [List.mem_cons, List.not_mem_nil, or_false] at h
  rcases h with rfl | rfl | rfl | rfl | rfl | rfl | rfl
  · exact .inr (.inl rfl)
  · exact .inl ⟨[], by simp, rfl⟩
  · exact .inr (.inr (.inr (.inl rfl)))
  · exact .inr (.inr (.inr (.inr (.inl rfl))))
  · exact .inr (.inr (.inl rfl))
  · exact .inr (.inr (.inr (.inr (.inr rfl))))
  · exact .inl ⟨[0, 0], by simp, rfl⟩
/-- what the turn does behind the drawn block -/
def rest16 : Ts := (.cons (.asg (.nm 4) (.call 13 (.cons (.v 3) .nil)))
    (.cons (.iff (.not (.of (.call 9 (.cons b16_13 (.cons (.v 4) .nil))))) (.cons (.ret (.bl false))
    .nil) .nil)
    (.cons (.asg (.nm 6) b16_11)
    (.cons b16_7
    (.cons b16_3
    .nil)))))
theorem rest_ok {e : Nat} (he : e ≤ 3) {b : List Cm} (g : Good e b) (x0 x2 x4 x6 x9 x10 x11 x12 : Rv) (cs : List Int) (d t : Int) : ∃ (y4 y6 y9 y10 y11 y12 : Rv) (cs' : List Int) (d' t' : Int),
    evSs (calls fds dat 59) dat rest16 ⟨[x0, .val (.ref 1), x2, .val (.tup (encB b)), x4, .un, x6, .un, .un, x9, x10, x11, x12], BoxM cs d t⟩ =
      .ok (.nx, ⟨[x0, .val (.ref 1), x2, .val (.tup (encB b)), y4, .un, y6, .un, .un, y9, y10, y11, y12], BoxM cs' d' t'⟩) := by
  have ro := rows_ok e b g
  have hb := bnd_le he
  have hl : (rows e b).length ≤ 900 := by omega
  have hp : ∀ r ∈ rows e b, r.1.length ≤ 8 := fun r hr => by have := ro.2 r hr; omega
  have h13 := law_all e (57 - e) b he g
  have h2 := places_in e (57 - e) b he g
  rw [show 57 - e + e + 2 = 59 by omega] at h13 h2
  have h13' : ∀ M, calls fds dat 59 13 [.tup (encB b)] M = .ok (.mls ((rows e b).map encR), M) := h13
  have hs := same12 (.lst ((rows e b).map encR)) (pl_up _ (2 * e + 5) _ (by omega) (pl_rows he g)) (BoxM cs d t)
  have hs' : calls fds dat 59 9 [.lst ((rows e b).map encR), .lst ((rows e b).map encR)] (BoxM cs d t) = .ok (.val (.bl true), BoxM cs d t) := hs
  have k13 := lc13b 59 (rows e b) (.tup (encB b)) h2 hl x0 (.val (.ref 1)) x2 (.mls ((rows e b).map encR)) x6 .un .un x9 x10 x11 x12 (BoxM cs d t)
  obtain ⟨ys, cs1, d1, t1, hy, hq, k11⟩ := drawn6 57 x0 x2 (.val (.tup (encB b))) (.val (.lst ((rows e b).map encR))) x6 x9 x10 x11 x12 cs d t
  have k6 := lc6 59 (rows e b) hl x0 (.val (.ref 1)) x2 (.val (.tup (encB b))) (.mls ys) .un .un x9 x10 x11 x12 (BoxM cs1 d1 t1)
  have k6' := lc6 59 (rows e b) hl x0 (.val (.ref 1)) x2 (.val (.tup (encB b))) (.val (.lst ys)) .un .un x9 x10 x11 x12 (BoxM cs1 d1 t1)
  have l7 : 7 ≤ seqLine := by decide
  have l0 : 0 ≤ seqLine := by decide
  have l1 : 1 ≤ seqLine := by decide
  have l2 : 2 ≤ seqLine := by decide
  have c12 : ∀ l : List D, cutD l none (some 12) = l.take 12 := fun l => cut_take l 12
  let ps : List D := (((rows e b).map fun r => D.tup (encP r.1)).take 12 ++ ys) ++ [D.non, .tup [], .tup [.bl true], .tup [.str "a"], .int 0, .tup [.int (-1)], .tup [.int 0, .int 0]]
  have hps : ∀ y ∈ ps, PlaceD y := by
    intro y hy
    rcases List.mem_append.mp hy with hy | hy
    · rcases List.mem_append.mp hy with hy | hy
      · obtain ⟨r, hr, rfl⟩ := List.mem_map.mp (List.mem_of_mem_take hy)
        exact .inl ⟨r.1, hp r hr, rfl⟩
      · exact .inl (hq y hy)
    · exact odds y hy
  obtain ⟨y9, y10, cs2, d2, t2, e4⟩ := loop4 he g x0 x2 (.val (.lst ((rows e b).map encR))) (.val (.lst ys)) x11 x12 ps hps x9 x10 cs1 d1 t1
  obtain ⟨z9, z10, z11, z12, cs3, d3, t3, e2⟩ := loop2 he g x0 x2 (.val (.lst ((rows e b).map encR))) (.val (.lst ys)) ((rows e b).take 12) (fun r hr => hp r (List.mem_of_mem_take hr)) y9 y10 x11 x12 cs2 d2 t2
  refine ⟨.val (.lst ((rows e b).map encR)), .val (.lst ys), z9, z10, z11, z12, cs3, d3, t3, ?_⟩
  have q7 : evS (calls fds dat 59) dat b16_7 ⟨[x0, .val (.ref 1), x2, .val (.tup (encB b)), .val (.lst ((rows e b).map encR)), .un, .mls ys, .un, .un, x9, x10, x11, x12], BoxM cs1 d1 t1⟩ =
      .ok (.nx, ⟨[x0, .val (.ref 1), x2, .val (.tup (encB b)), .val (.lst ((rows e b).map encR)), .un, .val (.lst ys), .un, .un, y9, y10, x11, x12], BoxM cs2 d2 t2⟩) := by
    have m1 : (((rows e b).map fun r => D.tup (encP r.1)).take 12).length + ys.length ≤ seqLine := le_seq (by rw [List.length_take]; omega)
    have m2 : (((rows e b).map fun r => D.tup (encP r.1)).take 12 ++ ys).length + (0 + 1 + 1 + 1 + 1 + 1 + 1 + 1) ≤ seqLine := le_seq (by rw [List.length_append, List.length_take]; omega)
    have hi : evI (calls fds dat 59) dat (.of (.bin .add (.bin .add (.sl b16_6 .none (.int 12)) (.v 6)) (.lst (.cons .none (.cons (.tup .nil) (.cons (.tup (.cons (.bl true) .nil)) (.cons (.tup (.cons (.str "a") .nil)) (.cons (.int 0) (.cons (.tup (.cons (.neg (.int 1)) .nil)) (.cons (.tup (.cons (.int 0) (.cons (.int 0) .nil))) .nil))))))))))
        ⟨[x0, .val (.ref 1), x2, .val (.tup (encB b)), .val (.lst ((rows e b).map encR)), .un, .mls ys, .un, .un, x9, x10, x11, x12], BoxM cs1 d1 t1⟩ =
        .ok (ps, ⟨[x0, .val (.ref 1), x2, .val (.tup (encB b)), .val (.lst ((rows e b).map encR)), .un, .val (.lst ys), .un, .un, x9, x10, x11, x12], BoxM cs1 d1 t1⟩) := by
      simp only [evSs, evS, evE, evEs, evB, evI, asgT, asgTs, rdV_k, rd_val, rd_mls, b2_k, bd_k, op_k, op_n, fz_val, fz_mls, bl_k, tru_bl, tru_lst, tru_tup, cm_lt, cm_le, cm_gt, cm_ge, cm_eqi, cm_eqs, cm_nei, bn_add, bn_addt, bn_addl, bn_sub, bn_mulR, bn_mulL, bn_div, bn_mod, bi_lent, bi_lenl, bi_lenr, bi_tupt, bi_tupl, bi_listt, bi_listl, bi_int, bi_sum, bi_all, sq_t, sq_l, sq_r, ix_k, pt_no, pt_i, no_none, no_int, sl_t, sl_l, isL, List.map_cons, List.map_nil, List.length_cons, List.length_nil, List.replicate, List.cons_append, List.nil_append, List.getElem?_cons_zero, List.getElem?_cons_succ, List.set_cons_zero, List.set_cons_succ, Option.bind_some, Option.map_some, Option.bind_none, Option.map_none, Nat.reduceAdd, Nat.reduceSub, Nat.reduceLT, Nat.reduceLeDiff, ↓reduceIte, reduceCtorEq, Bool.false_eq_true, Bool.true_and, Bool.and_true, Bool.false_and, Bool.and_false, Bool.not_true, Bool.not_false, if_true, if_false, k6, c12, m1, m2, l7, l0, l1, l2, itD, Int.reduceNeg]
      rfl
    unfold b16_7
    rw [ev_fr, hi, b2_k, e4]
  have q3 : evS (calls fds dat 59) dat b16_3 ⟨[x0, .val (.ref 1), x2, .val (.tup (encB b)), .val (.lst ((rows e b).map encR)), .un, .val (.lst ys), .un, .un, y9, y10, x11, x12], BoxM cs2 d2 t2⟩ =
      .ok (.nx, ⟨[x0, .val (.ref 1), x2, .val (.tup (encB b)), .val (.lst ((rows e b).map encR)), .un, .val (.lst ys), .un, .un, z9, z10, z11, z12], BoxM cs3 d3 t3⟩) := by
    have hi : evI (calls fds dat 59) dat (.of (.sl (.v 4) .none (.int 12))) ⟨[x0, .val (.ref 1), x2, .val (.tup (encB b)), .val (.lst ((rows e b).map encR)), .un, .val (.lst ys), .un, .un, y9, y10, x11, x12], BoxM cs2 d2 t2⟩ =
        .ok (((rows e b).take 12).map encR, ⟨[x0, .val (.ref 1), x2, .val (.tup (encB b)), .val (.lst ((rows e b).map encR)), .un, .val (.lst ys), .un, .un, y9, y10, x11, x12], BoxM cs2 d2 t2⟩) := by
      simp only [evSs, evS, evE, evEs, evB, evI, asgT, asgTs, rdV_k, rd_val, rd_mls, b2_k, bd_k, op_k, op_n, fz_val, fz_mls, bl_k, tru_bl, tru_lst, tru_tup, cm_lt, cm_le, cm_gt, cm_ge, cm_eqi, cm_eqs, cm_nei, bn_add, bn_addt, bn_addl, bn_sub, bn_mulR, bn_mulL, bn_div, bn_mod, bi_lent, bi_lenl, bi_lenr, bi_tupt, bi_tupl, bi_listt, bi_listl, bi_int, bi_sum, bi_all, sq_t, sq_l, sq_r, ix_k, pt_no, pt_i, no_none, no_int, sl_t, sl_l, isL, List.map_cons, List.map_nil, List.length_cons, List.length_nil, List.replicate, List.cons_append, List.nil_append, List.getElem?_cons_zero, List.getElem?_cons_succ, List.set_cons_zero, List.set_cons_succ, Option.bind_some, Option.map_some, Option.bind_none, Option.map_none, Nat.reduceAdd, Nat.reduceSub, Nat.reduceLT, Nat.reduceLeDiff, ↓reduceIte, reduceCtorEq, Bool.false_eq_true, Bool.true_and, Bool.and_true, Bool.false_and, Bool.and_false, Bool.not_true, Bool.not_false, if_true, if_false, c12, itD, ← List.map_take]
    unfold b16_3
    rw [ev_fr, hi, b2_k, e2]
  unfold rest16
  simp only [evSs, evS, evE, evEs, evB, evI, asgT, asgTs, rdV_k, rd_val, rd_mls, b2_k, bd_k, op_k, op_n, fz_val, fz_mls, bl_k, tru_bl, tru_lst, tru_tup, cm_lt, cm_le, cm_gt, cm_ge, cm_eqi, cm_eqs, cm_nei, bn_add, bn_addt, bn_addl, bn_sub, bn_mulR, bn_mulL, bn_div, bn_mod, bi_lent, bi_lenl, bi_lenr, bi_tupt, bi_tupl, bi_listt, bi_listl, bi_int, bi_sum, bi_all, sq_t, sq_l, sq_r, ix_k, pt_no, pt_i, no_none, no_int, sl_t, sl_l, isL, List.map_cons, List.map_nil, List.length_cons, List.length_nil, List.replicate, List.cons_append, List.nil_append, List.getElem?_cons_zero, List.getElem?_cons_succ, List.set_cons_zero, List.set_cons_succ, Option.bind_some, Option.map_some, Option.bind_none, Option.map_none, Nat.reduceAdd, Nat.reduceSub, Nat.reduceLT, Nat.reduceLeDiff, ↓reduceIte, reduceCtorEq, Bool.false_eq_true, Bool.true_and, Bool.and_true, Bool.false_and, Bool.and_false, Bool.not_true, Bool.not_false, if_true, if_false, h13', k13, hs', k11, q7, q3]
end K69


set_option Elab.async false
set_option linter.all false
set_option maxRecDepth 100000
set_option maxHeartbeats 4000000
namespace K69
open PySem Ev
theorem turn16 (x0 x2 x3 x4 x6 x9 x10 x11 x12 : Rv) (cs : List Int) (d t : Int) : ∃ (y3 y4 y6 y9 y10 y11 y12 : Rv) (cs' : List Int) (d' t' : Int),
    evSs (calls fds dat 59) dat b16_14 ⟨[x0, .val (.ref 1), x2, x3, x4, .un, x6, .un, .un, x9, x10, x11, x12], BoxM cs d t⟩ =
      .ok (.nx, ⟨[x0, .val (.ref 1), x2, y3, y4, .un, y6, .un, .un, y9, y10, y11, y12], BoxM cs' d' t'⟩) := by
  obtain ⟨b, cs1, d1, t1, g1, h1⟩ := block_all 53 3 cs d t
  have h1' : calls fds dat 59 10 [.ref 1, .int 3] (BoxM cs d t) = .ok (.val (.tup (encB b)), BoxM cs1 d1 t1) := h1
  obtain ⟨m, hm⟩ := many_all 3 55 b g1 (BoxM cs1 d1 t1)
  have hm' : calls fds dat 59 11 [.tup (encB b)] (BoxM cs1 d1 t1) = .ok (.val (.int m), BoxM cs1 d1 t1) := hm
  have e0 : b16_14 = (.cons (.asg (.nm 3) (.call 10 (.cons (.v 1) (.cons (.int 3) .nil))))
    (.cons (.asg (.nm 3) (.ife (.of (.cmp .lt (.call 11 (.cons (.v 3) .nil)) (.int 50))) (.v 3) (.call 10 (.cons (.v 1) (.cons (.int 1) .nil))))) rest16)) := rfl
  rw [e0]
  by_cases hlt : m < 50
  · obtain ⟨y4, y6, y9, y10, y11, y12, cs2, d2, t2, e2⟩ := rest_ok (e := 3) (by omega) g1 x0 x2 x4 x6 x9 x10 x11 x12 cs1 d1 t1
    refine ⟨.val (.tup (encB b)), y4, y6, y9, y10, y11, y12, cs2, d2, t2, ?_⟩
    simp only [evSs, evS, evE, evEs, evB, evI, asgT, asgTs, rdV_k, rd_val, rd_mls, b2_k, bd_k, op_k, op_n, fz_val, fz_mls, bl_k, tru_bl, tru_lst, tru_tup, cm_lt, cm_le, cm_gt, cm_ge, cm_eqi, cm_eqs, cm_nei, bn_add, bn_addt, bn_addl, bn_sub, bn_mulR, bn_mulL, bn_div, bn_mod, bi_lent, bi_lenl, bi_lenr, bi_tupt, bi_tupl, bi_listt, bi_listl, bi_int, bi_sum, bi_all, sq_t, sq_l, sq_r, ix_k, pt_no, pt_i, no_none, no_int, sl_t, sl_l, isL, List.map_cons, List.map_nil, List.length_cons, List.length_nil, List.replicate, List.cons_append, List.nil_append, List.getElem?_cons_zero, List.getElem?_cons_succ, List.set_cons_zero, List.set_cons_succ, Option.bind_some, Option.map_some, Option.bind_none, Option.map_none, Nat.reduceAdd, Nat.reduceSub, Nat.reduceLT, Nat.reduceLeDiff, ↓reduceIte, reduceCtorEq, Bool.false_eq_true, Bool.true_and, Bool.and_true, Bool.false_and, Bool.and_false, Bool.not_true, Bool.not_false, if_true, if_false, h1', hm', hlt, decide_true, e2]
  · obtain ⟨b2, cs3, d3, t3, g3, h3⟩ := block_all 55 1 cs1 d1 t1
    have h3' : calls fds dat 59 10 [.ref 1, .int 1] (BoxM cs1 d1 t1) = .ok (.val (.tup (encB b2)), BoxM cs3 d3 t3) := h3
    obtain ⟨y4, y6, y9, y10, y11, y12, cs2, d2, t2, e2⟩ := rest_ok (e := 1) (by omega) g3 x0 x2 x4 x6 x9 x10 x11 x12 cs3 d3 t3
    refine ⟨.val (.tup (encB b2)), y4, y6, y9, y10, y11, y12, cs2, d2, t2, ?_⟩
    simp only [evSs, evS, evE, evEs, evB, evI, asgT, asgTs, rdV_k, rd_val, rd_mls, b2_k, bd_k, op_k, op_n, fz_val, fz_mls, bl_k, tru_bl, tru_lst, tru_tup, cm_lt, cm_le, cm_gt, cm_ge, cm_eqi, cm_eqs, cm_nei, bn_add, bn_addt, bn_addl, bn_sub, bn_mulR, bn_mulL, bn_div, bn_mod, bi_lent, bi_lenl, bi_lenr, bi_tupt, bi_tupl, bi_listt, bi_listl, bi_int, bi_sum, bi_all, sq_t, sq_l, sq_r, ix_k, pt_no, pt_i, no_none, no_int, sl_t, sl_l, isL, List.map_cons, List.map_nil, List.length_cons, List.length_nil, List.replicate, List.cons_append, List.nil_append, List.getElem?_cons_zero, List.getElem?_cons_succ, List.set_cons_zero, List.set_cons_succ, Option.bind_some, Option.map_some, Option.bind_none, Option.map_none, Nat.reduceAdd, Nat.reduceSub, Nat.reduceLT, Nat.reduceLeDiff, ↓reduceIte, reduceCtorEq, Bool.false_eq_true, Bool.true_and, Bool.and_true, Bool.false_and, Bool.and_false, Bool.not_true, Bool.not_false, if_true, if_false, h1', hm', h3', hlt, decide_false, e2]
theorem loop16 (x0 : Rv) : ∀ (l : List D) (x2 x3 x4 x6 x9 x10 x11 x12 : Rv) (cs : List Int) (d t : Int), ∃ (y2 y3 y4 y6 y9 y10 y11 y12 : Rv) (cs' : List Int) (d' t' : Int),
    forL (fun x s => (opt (asgT (.nm 2) (.val x) s.σ)).bind fun σ => evSs (calls fds dat 59) dat b16_14 { s with σ := σ }) l ⟨[x0, .val (.ref 1), x2, x3, x4, .un, x6, .un, .un, x9, x10, x11, x12], BoxM cs d t⟩ =
      .ok (.nx, ⟨[x0, .val (.ref 1), y2, y3, y4, .un, y6, .un, .un, y9, y10, y11, y12], BoxM cs' d' t'⟩) := by
  intro l
  induction l with
  | nil => exact fun x2 x3 x4 x6 x9 x10 x11 x12 cs d t => ⟨x2, x3, x4, x6, x9, x10, x11, x12, cs, d, t, rfl⟩
  | cons y l ih =>
    intro x2 x3 x4 x6 x9 x10 x11 x12 cs d t
    obtain ⟨y3, y4, y6, y9, y10, y11, y12, cs1, d1, t1, e1⟩ := turn16 x0 (.val y) x3 x4 x6 x9 x10 x11 x12 cs d t
    obtain ⟨z2, z3, z4, z6, z9, z10, z11, z12, cs2, d2, t2, e2⟩ := ih (.val y) y3 y4 y6 y9 y10 y11 y12 cs1 d1 t1
    refine ⟨z2, z3, z4, z6, z9, z10, z11, z12, cs2, d2, t2, ?_⟩
    refine (forL_nx ?_).trans e2
    simp only [asgT, List.length_cons, List.length_nil, Nat.reduceAdd, Nat.reduceLT, if_true, List.set_cons_zero, List.set_cons_succ, op_k, bd_k, e1]
theorem plain_law (ks : List Int) (h : ks.length ≤ 63) : ∃ M, calls fds dat 60 16 [.lst (ks.map D.int)] [] = .ok (.val (.bl true), M) := by
  have h6 := law_box 58 ks
  have h6' : calls fds dat 59 6 [.lst (ks.map D.int)] [] = .ok (.val (.ref 1), BoxM (ks.take 63) 0 (4711 + ks.length)) := h6
  have rg : rng2D (.int 0) (.int 4) = some (rngD ((0 : Nat) : Int) 1 4) := rng_ok (n := 4) (by omega)
  obtain ⟨y2, y3, y4, y6, y9, y10, y11, y12, cs', d', t', e⟩ := loop16 (.val (.lst (ks.map D.int))) (rngD ((0 : Nat) : Int) 1 4) .un .un .un .un .un .un .un .un (ks.take 63) 0 (4711 + ks.length)
  refine ⟨BoxM cs' d' t', ?_⟩
  have q : evS (calls fds dat 59) dat b16_15 ⟨[.val (.lst (ks.map D.int)), .val (.ref 1), .un, .un, .un, .un, .un, .un, .un, .un, .un, .un, .un], BoxM (ks.take 63) 0 (4711 + ks.length)⟩ =
      .ok (.nx, ⟨[.val (.lst (ks.map D.int)), .val (.ref 1), y2, y3, y4, .un, y6, .un, .un, y9, y10, y11, y12], BoxM cs' d' t'⟩) := by
    have hi : evI (calls fds dat 59) dat (.rng1 (.int 4)) ⟨[.val (.lst (ks.map D.int)), .val (.ref 1), .un, .un, .un, .un, .un, .un, .un, .un, .un, .un, .un], BoxM (ks.take 63) 0 (4711 + ks.length)⟩ =
        .ok (rngD ((0 : Nat) : Int) 1 4, ⟨[.val (.lst (ks.map D.int)), .val (.ref 1), .un, .un, .un, .un, .un, .un, .un, .un, .un, .un, .un], BoxM (ks.take 63) 0 (4711 + ks.length)⟩) := by
      simp only [evSs, evS, evE, evEs, evB, evI, asgT, asgTs, rdV_k, rd_val, rd_mls, b2_k, bd_k, op_k, op_n, fz_val, fz_mls, bl_k, tru_bl, tru_lst, tru_tup, cm_lt, cm_le, cm_gt, cm_ge, cm_eqi, cm_eqs, cm_nei, bn_add, bn_addt, bn_addl, bn_sub, bn_mulR, bn_mulL, bn_div, bn_mod, bi_lent, bi_lenl, bi_lenr, bi_tupt, bi_tupl, bi_listt, bi_listl, bi_int, bi_sum, bi_all, sq_t, sq_l, sq_r, ix_k, pt_no, pt_i, no_none, no_int, sl_t, sl_l, isL, List.map_cons, List.map_nil, List.length_cons, List.length_nil, List.replicate, List.cons_append, List.nil_append, List.getElem?_cons_zero, List.getElem?_cons_succ, List.set_cons_zero, List.set_cons_succ, Option.bind_some, Option.map_some, Option.bind_none, Option.map_none, Nat.reduceAdd, Nat.reduceSub, Nat.reduceLT, Nat.reduceLeDiff, ↓reduceIte, reduceCtorEq, Bool.false_eq_true, Bool.true_and, Bool.and_true, Bool.false_and, Bool.and_false, Bool.not_true, Bool.not_false, if_true, if_false, rg]
    unfold b16_15
    rw [ev_fr, hi, b2_k, e]
  have r := r_step (n := 59) (f := 16) (ar := 1) (ns := 13) (b := b16) (ds := [.lst (ks.map D.int)]) (M := []) rfl rfl
  refine Eq.trans r ?_
  unfold b16
  simp only [evSs, evS, evE, evEs, evB, evI, asgT, asgTs, rdV_k, rd_val, rd_mls, b2_k, bd_k, op_k, op_n, fz_val, fz_mls, bl_k, tru_bl, tru_lst, tru_tup, cm_lt, cm_le, cm_gt, cm_ge, cm_eqi, cm_eqs, cm_nei, bn_add, bn_addt, bn_addl, bn_sub, bn_mulR, bn_mulL, bn_div, bn_mod, bi_lent, bi_lenl, bi_lenr, bi_tupt, bi_tupl, bi_listt, bi_listl, bi_int, bi_sum, bi_all, sq_t, sq_l, sq_r, ix_k, pt_no, pt_i, no_none, no_int, sl_t, sl_l, isL, List.map_cons, List.map_nil, List.length_cons, List.length_nil, List.replicate, List.cons_append, List.nil_append, List.getElem?_cons_zero, List.getElem?_cons_succ, List.set_cons_zero, List.set_cons_succ, Option.bind_some, Option.map_some, Option.bind_none, Option.map_none, Nat.reduceAdd, Nat.reduceSub, Nat.reduceLT, Nat.reduceLeDiff, ↓reduceIte, reduceCtorEq, Bool.false_eq_true, Bool.true_and, Bool.and_true, Bool.false_and, Bool.and_false, Bool.not_true, Bool.not_false, if_true, if_false, h6', q]
  rfl
end K69


set_option Elab.async false
set_option linter.all false
set_option maxRecDepth 100000
set_option maxHeartbeats 2000000
set_option pp.maxSteps 300
namespace K69
open PySem Ev
/-- the law's promise, by what the top has written -/
theorem law_at {w : World} {K : PySem.W.Frag} {h : Heap} {mg mb : Str → Option Value} {fa : Addr} {q : Program} {loose : List Str} {mean : PySem.ExcName → Option Value} (T : PyProof.Rows.Top q loose mean mg mb h) (X : K.In h) (G : h.Ns mainGlobals mg) (hfa : mg "law" = some (.ref fa))
    (plain : ∀ ks : List Int, ks.length ≤ 63 → ∃ M, calls fds dat 60 16 [.lst (ks.map D.int)] [] = .ok (.val (.bl true), M))
    {f0 f1 f2 f3 f4 f5 f6 f7 f8 f9 f10 f11 f12 f13 f14 f15 f16 e5 t5 : Addr} {oc0 kV0 dc0 pm0 ct0 oc1 kV1 dc1 pm1 ct1 oc2 kV2 dc2 pm2 ct2 oc3 kV3 dc3 pm3 ct3 oc4 kV4 dc4 pm4 ct4 oc5 kV5 dc5 pm5 ct5 oc6 kV6 dc6 pm6 ct6 oc7 kV7 dc7 pm7 ct7 oc8 kV8 dc8 pm8 ct8 oc9 kV9 dc9 pm9 ct9 oc10 kV10 dc10 pm10 ct10 oc11 kV11 dc11 pm11 ct11 oc12 kV12 dc12 pm12 ct12 oc13 kV13 dc13 pm13 ct13 oc14 kV14 dc14 pm14 ct14 oc15 kV15 dc15 pm15 ct15 oc16 kV16 dc16 pm16 ct16 cd0 cd1 cd2 cd3 cd4 cd6 cd7 cd8 cd9 cd10 cd11 cd12 cd13 cd14 cd15 cd16 ck5 : Value} {od0 an0 od1 an1 od2 an2 od3 an3 od4 an4 od5 an5 od6 an6 od7 an7 od8 an8 od9 an9 od10 an10 od11 an11 od12 an12 od13 an13 od14 an14 od15 an15 od16 an16 cx5 : Option Addr} {sl0 sl1 sl2 sl3 sl4 sl5 sl6 sl7 sl8 sl9 sl10 sl11 sl12 sl13 sl14 sl15 sl16 cy5 : Array (Option Value)} {vs5 : Array Value} {d5 : DefRec}
    (a0 : PySem.W.nsIn K mainGlobals "is_integer" = some (some (.ref f0))) (l0 : K.lookup f0 = some ⟨oc0, od0, .func (PySem.W.fnOf "is_integer" "is_integer" (L2.defArgs (top 1)) (L2.defBody (top 1)) (L2.defScope (top 1)) .none kV0 dc0 pm0 an0 cd0 ct0), sl0⟩) (o0 : PySem.W.codeIn K cd0 "is_integer" = true) (k0 : PySem.W.keepIn K (.ref f0) = true)
    (a1 : PySem.W.nsIn K mainGlobals "blocks_of" = some (some (.ref f1))) (l1 : K.lookup f1 = some ⟨oc1, od1, .func (PySem.W.fnOf "blocks_of" "blocks_of" (L2.defArgs (top 3)) (L2.defBody (top 3)) (L2.defScope (top 3)) .none kV1 dc1 pm1 an1 cd1 ct1), sl1⟩) (o1 : PySem.W.codeIn K cd1 "blocks_of" = true) (k1 : PySem.W.keepIn K (.ref f1) = true)
    (a2 : PySem.W.nsIn K mainGlobals "places_in" = some (some (.ref f2))) (l2 : K.lookup f2 = some ⟨oc2, od2, .func (PySem.W.fnOf "places_in" "places_in" (L2.defArgs (top 5)) (L2.defBody (top 5)) (L2.defScope (top 5)) .none kV2 dc2 pm2 an2 cd2 ct2), sl2⟩) (o2 : PySem.W.codeIn K cd2 "places_in" = true) (k2 : PySem.W.keepIn K (.ref f2) = true)
    (a3 : PySem.W.nsIn K mainGlobals "with_blocks" = some (some (.ref f3))) (l3 : K.lookup f3 = some ⟨oc3, od3, .func (PySem.W.fnOf "with_blocks" "with_blocks" (L2.defArgs (top 6)) (L2.defBody (top 6)) (L2.defScope (top 6)) .none kV3 dc3 pm3 an3 cd3 ct3), sl3⟩) (o3 : PySem.W.codeIn K cd3 "with_blocks" = true) (k3 : PySem.W.keepIn K (.ref f3) = true)
    (a4 : PySem.W.nsIn K mainGlobals "with_commands" = some (some (.ref f4))) (l4 : K.lookup f4 = some ⟨oc4, od4, .func (PySem.W.fnOf "with_commands" "with_commands" (L2.defArgs (top 7)) (L2.defBody (top 7)) (L2.defScope (top 7)) .none kV4 dc4 pm4 an4 cd4 ct4), sl4⟩) (o4 : PySem.W.codeIn K cd4 "with_commands" = true) (k4 : PySem.W.keepIn K (.ref f4) = true)
    (a5 : PySem.W.nsIn K mainGlobals "commands_at" = some (some (.ref f5))) (l5 : K.lookup f5 = some ⟨oc5, od5, .func (PySem.W.fnOf "commands_at" "commands_at" (L2.defArgs (top 8)) (L2.defBody (top 8)) (L2.defScope (top 8)) .none kV5 dc5 pm5 an5 (.ref e5) ct5), sl5⟩) (o5 : PySem.W.codeIn K (.ref e5) "commands_at" = true) (k5 : PySem.W.keepIn K (.ref f5) = true)
    (w5 : K.lookup e5 = some ⟨ck5, cx5, .fields vs5, cy5⟩) (p5 : (vs5[11]? : Option Value) = some (.ref t5)) (v5 : K.lookup t5 = none) (r5 : (PyProof.Rows.recsOf q).find? (fun e => e.name == ("commands_at" : Str)) = some d5)
    (a6 : PySem.W.nsIn K mainGlobals "_law_box" = some (some (.ref f6))) (l6 : K.lookup f6 = some ⟨oc6, od6, .func (PySem.W.fnOf "_law_box" "_law_box" (L2.defArgs (top 10)) (L2.defBody (top 10)) (L2.defScope (top 10)) .none kV6 dc6 pm6 an6 cd6 ct6), sl6⟩) (o6 : PySem.W.codeIn K cd6 "_law_box" = true) (k6 : PySem.W.keepIn K (.ref f6) = true)
    (a7 : PySem.W.nsIn K mainGlobals "_law_load" = some (some (.ref f7))) (l7 : K.lookup f7 = some ⟨oc7, od7, .func (PySem.W.fnOf "_law_load" "_law_load" (L2.defArgs (top 11)) (L2.defBody (top 11)) (L2.defScope (top 11)) .none kV7 dc7 pm7 an7 cd7 ct7), sl7⟩) (o7 : PySem.W.codeIn K cd7 "_law_load" = true) (k7 : PySem.W.keepIn K (.ref f7) = true)
    (a8 : PySem.W.nsIn K mainGlobals "_law_draw" = some (some (.ref f8))) (l8 : K.lookup f8 = some ⟨oc8, od8, .func (PySem.W.fnOf "_law_draw" "_law_draw" (L2.defArgs (top 12)) (L2.defBody (top 12)) (L2.defScope (top 12)) .none kV8 dc8 pm8 an8 cd8 ct8), sl8⟩) (o8 : PySem.W.codeIn K cd8 "_law_draw" = true) (k8 : PySem.W.keepIn K (.ref f8) = true)
    (a9 : PySem.W.nsIn K mainGlobals "_law_same" = some (some (.ref f9))) (l9 : K.lookup f9 = some ⟨oc9, od9, .func (PySem.W.fnOf "_law_same" "_law_same" (L2.defArgs (top 13)) (L2.defBody (top 13)) (L2.defScope (top 13)) .none kV9 dc9 pm9 an9 cd9 ct9), sl9⟩) (o9 : PySem.W.codeIn K cd9 "_law_same" = true) (k9 : PySem.W.keepIn K (.ref f9) = true)
    (a10 : PySem.W.nsIn K mainGlobals "_law_block" = some (some (.ref f10))) (l10 : K.lookup f10 = some ⟨oc10, od10, .func (PySem.W.fnOf "_law_block" "_law_block" (L2.defArgs (top 14)) (L2.defBody (top 14)) (L2.defScope (top 14)) .none kV10 dc10 pm10 an10 cd10 ct10), sl10⟩) (o10 : PySem.W.codeIn K cd10 "_law_block" = true) (k10 : PySem.W.keepIn K (.ref f10) = true)
    (a11 : PySem.W.nsIn K mainGlobals "_law_many" = some (some (.ref f11))) (l11 : K.lookup f11 = some ⟨oc11, od11, .func (PySem.W.fnOf "_law_many" "_law_many" (L2.defArgs (top 15)) (L2.defBody (top 15)) (L2.defScope (top 15)) .none kV11 dc11 pm11 an11 cd11 ct11), sl11⟩) (o11 : PySem.W.codeIn K cd11 "_law_many" = true) (k11 : PySem.W.keepIn K (.ref f11) = true)
    (a12 : PySem.W.nsIn K mainGlobals "_law_spots" = some (some (.ref f12))) (l12 : K.lookup f12 = some ⟨oc12, od12, .func (PySem.W.fnOf "_law_spots" "_law_spots" (L2.defArgs (top 16)) (L2.defBody (top 16)) (L2.defScope (top 16)) .none kV12 dc12 pm12 an12 cd12 ct12), sl12⟩) (o12 : PySem.W.codeIn K cd12 "_law_spots" = true) (k12 : PySem.W.keepIn K (.ref f12) = true)
    (a13 : PySem.W.nsIn K mainGlobals "_law_all" = some (some (.ref f13))) (l13 : K.lookup f13 = some ⟨oc13, od13, .func (PySem.W.fnOf "_law_all" "_law_all" (L2.defArgs (top 17)) (L2.defBody (top 17)) (L2.defScope (top 17)) .none kV13 dc13 pm13 an13 cd13 ct13), sl13⟩) (o13 : PySem.W.codeIn K cd13 "_law_all" = true) (k13 : PySem.W.keepIn K (.ref f13) = true)
    (a14 : PySem.W.nsIn K mainGlobals "_law_changed" = some (some (.ref f14))) (l14 : K.lookup f14 = some ⟨oc14, od14, .func (PySem.W.fnOf "_law_changed" "_law_changed" (L2.defArgs (top 18)) (L2.defBody (top 18)) (L2.defScope (top 18)) .none kV14 dc14 pm14 an14 cd14 ct14), sl14⟩) (o14 : PySem.W.codeIn K cd14 "_law_changed" = true) (k14 : PySem.W.keepIn K (.ref f14) = true)
    (a15 : PySem.W.nsIn K mainGlobals "_law_row" = some (some (.ref f15))) (l15 : K.lookup f15 = some ⟨oc15, od15, .func (PySem.W.fnOf "_law_row" "_law_row" (L2.defArgs (top 19)) (L2.defBody (top 19)) (L2.defScope (top 19)) .none kV15 dc15 pm15 an15 cd15 ct15), sl15⟩) (o15 : PySem.W.codeIn K cd15 "_law_row" = true) (k15 : PySem.W.keepIn K (.ref f15) = true)
    (a16 : PySem.W.nsIn K mainGlobals "law" = some (some (.ref f16))) (l16 : K.lookup f16 = some ⟨oc16, od16, .func (PySem.W.fnOf "law" "law" (L2.defArgs (top 20)) (L2.defBody (top 20)) (L2.defScope (top 20)) .none kV16 dc16 pm16 an16 cd16 ct16), sl16⟩) (o16 : PySem.W.codeIn K cd16 "law" = true) (k16 : PySem.W.keepIn K (.ref f16) = true)
    (z0 : PySem.W.nsIn K mainGlobals "all" = some none)
    (z1 : PySem.W.nsIn K mainGlobals "bool" = some none)
    (z2 : PySem.W.nsIn K mainGlobals "enumerate" = some none)
    (z3 : PySem.W.nsIn K mainGlobals "int" = some none)
    (z4 : PySem.W.nsIn K mainGlobals "isinstance" = some none)
    (z5 : PySem.W.nsIn K mainGlobals "len" = some none)
    (z6 : PySem.W.nsIn K mainGlobals "list" = some none)
    (z7 : PySem.W.nsIn K mainGlobals "range" = some none)
    (z8 : PySem.W.nsIn K mainGlobals "str" = some none)
    (z9 : PySem.W.nsIn K mainGlobals "sum" = some none)
    (z10 : PySem.W.nsIn K mainGlobals "tuple" = some none)
    : LamX.LawAtS PySem.Challenge.rw_heapsparted_k69_whole_places_of_commands w K L2.CX0 120 63 "script" mg fa h := by
  have hl := hfa.symm.trans (PySem.W.mg_of X G a16)
  cases hl
  have u5 : PySem.W.tabIn K "commands_at" = some (e5, t5) := by
    unfold PySem.W.tabIn
    simp only [a5, l5, PySem.W.fnOf, w5, p5]
  obtain ⟨q5, y5⟩ := PySem.W.tab_of T X r5 u5
  let Tb : Addr → Prop := fun p => p = t5
  have TT : ∀ base : Heap, K.In base → base.Ns mainGlobals mg → (∀ p ∈ ([(e5, t5)] : List (Addr × Addr)), LamX.TabB base mg p.1 p.2) → TOk K Tb mg base dat gtT fds := by
    intro base XB GB TB
    have g5 : GxR.TabB base mg e5 t5 := let q := TB (e5, t5) (by simp); ⟨q.code, q.bm, q.gP⟩
    refine ⟨fun x i ar hx => ?_, fun x i hx => ?_, fun x hx => ?_⟩
    · have hm := PySem.mem_of_lookup hx
      unfold gtT at hm
      simp only [List.mem_cons, List.not_mem_nil, Prod.mk.injEq, Gv.fn.injEq, reduceCtorEq, and_false, or_false, false_or] at hm
      rcases hm with ⟨rfl, rfl, rfl⟩ | ⟨rfl, rfl, rfl⟩ | ⟨rfl, rfl, rfl⟩ | ⟨rfl, rfl, rfl⟩ | ⟨rfl, rfl, rfl⟩ | ⟨rfl, rfl, rfl⟩ | ⟨rfl, rfl, rfl⟩ | ⟨rfl, rfl, rfl⟩ | ⟨rfl, rfl, rfl⟩ | ⟨rfl, rfl, rfl⟩ | ⟨rfl, rfl, rfl⟩ | ⟨rfl, rfl, rfl⟩ | ⟨rfl, rfl, rfl⟩ | ⟨rfl, rfl, rfl⟩ | ⟨rfl, rfl, rfl⟩ | ⟨rfl, rfl, rfl⟩ | ⟨rfl, rfl, rfl⟩
      · exact ⟨⟨top 1, n0, false, 0, ⟨1, 1, b0⟩, f0, _, _, oc0, kV0, dc0, pm0, cd0, ct0, od0, an0, sl0, c0, rfl, by decide, PySem.W.mg_of X G a0, k0, l0, o0, fun q => absurd q (by decide),
          (L2.fun_mk l0 o0 k0).binds (ps := n0.take 1) fun _ _ _ _ _ _ us hl => match us, hl with | [_], _ => rfl⟩⟩
      · exact ⟨⟨top 3, n1, false, 0, ⟨1, 2, b1⟩, f1, _, _, oc1, kV1, dc1, pm1, cd1, ct1, od1, an1, sl1, c1, rfl, by decide, PySem.W.mg_of X G a1, k1, l1, o1, fun q => absurd q (by decide),
          (L2.fun_mk l1 o1 k1).binds (ps := n1.take 1) fun _ _ _ _ _ _ us hl => match us, hl with | [_], _ => rfl⟩⟩
      · exact ⟨⟨top 5, n2, false, 0, ⟨1, 8, b2⟩, f2, _, _, oc2, kV2, dc2, pm2, cd2, ct2, od2, an2, sl2, c2, rfl, by decide, PySem.W.mg_of X G a2, k2, l2, o2, fun q => absurd q (by decide),
          (L2.fun_mk l2 o2 k2).binds (ps := n2.take 1) fun _ _ _ _ _ _ us hl => match us, hl with | [_], _ => rfl⟩⟩
      · exact ⟨⟨top 6, n3, false, 0, ⟨2, 3, b3⟩, f3, _, _, oc3, kV3, dc3, pm3, cd3, ct3, od3, an3, sl3, c3, rfl, by decide, PySem.W.mg_of X G a3, k3, l3, o3, fun q => absurd q (by decide),
          (L2.fun_mk l3 o3 k3).binds (ps := n3.take 2) fun _ _ _ _ _ _ us hl => match us, hl with | [_, _], _ => rfl⟩⟩
      · exact ⟨⟨top 7, n4, false, 0, ⟨4, 7, b4⟩, f4, _, _, oc4, kV4, dc4, pm4, cd4, ct4, od4, an4, sl4, c4, rfl, by decide, PySem.W.mg_of X G a4, k4, l4, o4, fun q => absurd q (by decide),
          (L2.fun_mk l4 o4 k4).binds (ps := n4.take 4) fun _ _ _ _ _ _ us hl => match us, hl with | [_, _, _, _], _ => rfl⟩⟩
      · exact ⟨⟨top 8, n5, false, 1, ⟨3, 6, b5⟩, f5, _, _, oc5, kV5, dc5, pm5, (.ref e5), ct5, od5, an5, sl5, c5, rfl, by decide, PySem.W.mg_of X G a5, k5, l5, o5, fun _ => ⟨e5, t5, rfl, g5, rfl⟩,
          (L2.fun_mk l5 o5 k5).binds (ps := n5.take 3) fun _ _ _ _ _ _ us hl => match us, hl with | [_, _, _], _ => rfl⟩⟩
      · exact ⟨⟨top 10, n6, true, 0, ⟨1, 1, b6⟩, f6, _, _, oc6, kV6, dc6, pm6, cd6, ct6, od6, an6, sl6, c6, rfl, by decide, PySem.W.mg_of X G a6, k6, l6, o6, fun q => absurd q (by decide),
          (L2.fun_mk l6 o6 k6).binds (ps := n6.take 1) fun _ _ _ _ _ _ us hl => match us, hl with | [_], _ => rfl⟩⟩
      · exact ⟨⟨top 11, n7, false, 0, ⟨1, 6, b7⟩, f7, _, _, oc7, kV7, dc7, pm7, cd7, ct7, od7, an7, sl7, c7, rfl, by decide, PySem.W.mg_of X G a7, k7, l7, o7, fun q => absurd q (by decide),
          (L2.fun_mk l7 o7 k7).binds (ps := n7.take 1) fun _ _ _ _ _ _ us hl => match us, hl with | [_], _ => rfl⟩⟩
      · exact ⟨⟨top 12, n8, false, 0, ⟨2, 3, b8⟩, f8, _, _, oc8, kV8, dc8, pm8, cd8, ct8, od8, an8, sl8, c8, rfl, by decide, PySem.W.mg_of X G a8, k8, l8, o8, fun q => absurd q (by decide),
          (L2.fun_mk l8 o8 k8).binds (ps := n8.take 2) fun _ _ _ _ _ _ us hl => match us, hl with | [_, _], _ => rfl⟩⟩
      · exact ⟨⟨top 13, n9, false, 0, ⟨2, 3, b9⟩, f9, _, _, oc9, kV9, dc9, pm9, cd9, ct9, od9, an9, sl9, c9, rfl, by decide, PySem.W.mg_of X G a9, k9, l9, o9, fun q => absurd q (by decide),
          (L2.fun_mk l9 o9 k9).binds (ps := n9.take 2) fun _ _ _ _ _ _ us hl => match us, hl with | [_, _], _ => rfl⟩⟩
      · exact ⟨⟨top 14, n10, false, 0, ⟨2, 7, b10⟩, f10, _, _, oc10, kV10, dc10, pm10, cd10, ct10, od10, an10, sl10, c10, rfl, by decide, PySem.W.mg_of X G a10, k10, l10, o10, fun q => absurd q (by decide),
          (L2.fun_mk l10 o10 k10).binds (ps := n10.take 2) fun _ _ _ _ _ _ us hl => match us, hl with | [_, _], _ => rfl⟩⟩
      · exact ⟨⟨top 15, n11, false, 0, ⟨1, 5, b11⟩, f11, _, _, oc11, kV11, dc11, pm11, cd11, ct11, od11, an11, sl11, c11, rfl, by decide, PySem.W.mg_of X G a11, k11, l11, o11, fun q => absurd q (by decide),
          (L2.fun_mk l11 o11 k11).binds (ps := n11.take 1) fun _ _ _ _ _ _ us hl => match us, hl with | [_], _ => rfl⟩⟩
      · exact ⟨⟨top 16, n12, false, 0, ⟨1, 1, b12⟩, f12, _, _, oc12, kV12, dc12, pm12, cd12, ct12, od12, an12, sl12, c12, rfl, by decide, PySem.W.mg_of X G a12, k12, l12, o12, fun q => absurd q (by decide),
          (L2.fun_mk l12 o12 k12).binds (ps := n12.take 1) fun _ _ _ _ _ _ us hl => match us, hl with | [_], _ => rfl⟩⟩
      · exact ⟨⟨top 17, n13, false, 0, ⟨1, 7, b13⟩, f13, _, _, oc13, kV13, dc13, pm13, cd13, ct13, od13, an13, sl13, c13, rfl, by decide, PySem.W.mg_of X G a13, k13, l13, o13, fun q => absurd q (by decide),
          (L2.fun_mk l13 o13 k13).binds (ps := n13.take 1) fun _ _ _ _ _ _ us hl => match us, hl with | [_], _ => rfl⟩⟩
      · exact ⟨⟨top 18, n14, false, 0, ⟨4, 7, b14⟩, f14, _, _, oc14, kV14, dc14, pm14, cd14, ct14, od14, an14, sl14, c14, rfl, by decide, PySem.W.mg_of X G a14, k14, l14, o14, fun q => absurd q (by decide),
          (L2.fun_mk l14 o14 k14).binds (ps := n14.take 4) fun _ _ _ _ _ _ us hl => match us, hl with | [_, _, _, _], _ => rfl⟩⟩
      · exact ⟨⟨top 19, n15, false, 0, ⟨3, 4, b15⟩, f15, _, _, oc15, kV15, dc15, pm15, cd15, ct15, od15, an15, sl15, c15, rfl, by decide, PySem.W.mg_of X G a15, k15, l15, o15, fun q => absurd q (by decide),
          (L2.fun_mk l15 o15 k15).binds (ps := n15.take 3) fun _ _ _ _ _ _ us hl => match us, hl with | [_, _, _], _ => rfl⟩⟩
      · exact ⟨⟨top 20, n16, false, 0, ⟨1, 13, b16⟩, fa, _, _, oc16, kV16, dc16, pm16, cd16, ct16, od16, an16, sl16, c16, rfl, by decide, PySem.W.mg_of X G a16, k16, l16, o16, fun q => absurd q (by decide),
          (L2.fun_mk l16 o16 k16).binds (ps := n16.take 1) fun _ _ _ _ _ _ us hl => match us, hl with | [_], _ => rfl⟩⟩
    · have hm := PySem.mem_of_lookup hx
      unfold gtT at hm
      simp at hm
    · have hm := PySem.mem_of_lookup hx
      unfold gtT at hm
      simp only [List.mem_cons, List.not_mem_nil, Prod.mk.injEq, reduceCtorEq, and_false, or_false, false_or, and_true] at hm
      rcases hm with rfl | rfl | rfl | rfl | rfl | rfl | rfl | rfl | rfl | rfl | rfl
      · exact PySem.W.mg_none_of X G z0
      · exact PySem.W.mg_none_of X G z1
      · exact PySem.W.mg_none_of X G z2
      · exact PySem.W.mg_none_of X G z3
      · exact PySem.W.mg_none_of X G z4
      · exact PySem.W.mg_none_of X G z5
      · exact PySem.W.mg_none_of X G z6
      · exact PySem.W.mg_none_of X G z7
      · exact PySem.W.mg_none_of X G z8
      · exact PySem.W.mg_none_of X G z9
      · exact PySem.W.mg_none_of X G z10
  refine ⟨PySem.W.fnOf "law" "law" (L2.defArgs (top 20)) (L2.defBody (top 20)) (L2.defScope (top 20)) .none kV16 dc16 pm16 an16 cd16 ct16, [(e5, t5)], spOf K Tb (calls fds dat 60) 16 1, ?_, ?_, ?_, fun s u => .of_eq rfl, ?_, ?_⟩
  · intro p hp
    simp only [List.mem_cons, List.not_mem_nil, or_false] at hp
    subst hp
    exact y5
  · intro p hp
    simp only [List.mem_cons, List.not_mem_nil, or_false] at hp
    subst hp
    exact v5
  · intro p hp
    simp only [List.mem_cons, List.not_mem_nil, or_false] at hp
    subst hp
    exact q5
  · intro H a ks hlen _ hT hS
    obtain ⟨M, hM⟩ := plain ks hlen
    refine ⟨rfl, [.lst (ks.map D.int)], [], fun p => p = a ∧ ∃ o, H p = some o ∧ ¬ IsTb o, [], ?_, ⟨fun m l e => (by simp at e), rfl, List.nodup_nil, fun p hp => (by simp at hp), fun p hp => hp.2, ?_⟩, ?_⟩
    · simp only [Reps, Rep]
      refine ⟨_, [], rfl, ⟨a, _, rfl, ?_, ints_reps ks⟩, rfl⟩
      rcases hS with (z | ⟨o, z⟩) | z
      · exact .inl ⟨⟨rfl, _, z, id⟩, .inl z⟩
      · exact .inl ⟨⟨rfl, _, z, id⟩, .inr ⟨o, z⟩⟩
      · exact .inr (.inr z)
    · intro p hp
      obtain rfl : p = t5 := hp
      exact ⟨#[], hT (e5, p) (by simp), (by first | exact True.intro | exact .nil | simp [TriplesOk])⟩
    · rw [hM]
      intro v ρ' F' H' _ _ _ r
      simpa only [RepC, Rep] using r
  · intro base XB GB TB
    exact def_ok (g := ⟨PySem.Challenge.pw_heapsparted_k69_whole_places_of_commands, w, K, Tb, mg, base, 2 * 59, calls fds dat 59, dat⟩) (i := 16) (C' := calls fds dat 60) (defs_ok (TT base XB GB TB) 59) c16 (by decide) l16 o16 (fun q => absurd q (by decide)) (fun ds M => rfl)
end K69
open PySem PySem.W PyProof.Rows
set_option maxRecDepth 100000 in
set_option maxHeartbeats 0 in
theorem PySem.Challenge.cw_heapsparted_k69_whole_places_of_commands_holds : PySem.Challenge.rw_heapsparted_k69_whole_places_of_commands.Holds := by
  w_on; o_law; k_head; (case hw => w_witness2)
  k_fill
  refine Ev.walk_g (n := 63) (k := 120) (x := "script") (CX := fun _ => L2.CX0) rfl (by decide) rfl ⟨rfl, by decide, by decide⟩ (fun w h Y => PySem.W.kIn_of Y) ?F fun _ _ _ _ _ z => z
  case F =>
    intro w s₀ mg mb fa h G Y KX hmg
    refine' K69.law_at G.T KX G.T.g hmg K69.plain_law ?a0 ?l0 ?o0 ?k0 ?a1 ?l1 ?o1 ?k1 ?a2 ?l2 ?o2 ?k2 ?a3 ?l3 ?o3 ?k3 ?a4 ?l4 ?o4 ?k4 ?a5 ?l5 ?o5 ?k5 ?w5 ?p5 ?v5 ?r5 ?a6 ?l6 ?o6 ?k6 ?a7 ?l7 ?o7 ?k7 ?a8 ?l8 ?o8 ?k8 ?a9 ?l9 ?o9 ?k9 ?a10 ?l10 ?o10 ?k10 ?a11 ?l11 ?o11 ?k11 ?a12 ?l12 ?o12 ?k12 ?a13 ?l13 ?o13 ?k13 ?a14 ?l14 ?o14 ?k14 ?a15 ?l15 ?o15 ?k15 ?a16 ?l16 ?o16 ?k16 ?z0 ?z1 ?z2 ?z3 ?z4 ?z5 ?z6 ?z7 ?z8 ?z9 ?z10
    (case a0 => k_is)
    (case l0 => k_is)
    (case o0 => k_is)
    (case k0 => k_is)
    (case a1 => k_is)
    (case l1 => k_is)
    (case o1 => k_is)
    (case k1 => k_is)
    (case a2 => k_is)
    (case l2 => k_is)
    (case o2 => k_is)
    (case k2 => k_is)
    (case a3 => k_is)
    (case l3 => k_is)
    (case o3 => k_is)
    (case k3 => k_is)
    (case a4 => k_is)
    (case l4 => k_is)
    (case o4 => k_is)
    (case k4 => k_is)
    (case a5 => k_is)
    (case l5 => k_is)
    (case o5 => k_is)
    (case k5 => k_is)
    (case w5 => k_is)
    (case p5 => rfl)
    (case v5 => rfl)
    (case r5 => rfl)
    (case a6 => k_is)
    (case l6 => k_is)
    (case o6 => k_is)
    (case k6 => k_is)
    (case a7 => k_is)
    (case l7 => k_is)
    (case o7 => k_is)
    (case k7 => k_is)
    (case a8 => k_is)
    (case l8 => k_is)
    (case o8 => k_is)
    (case k8 => k_is)
    (case a9 => k_is)
    (case l9 => k_is)
    (case o9 => k_is)
    (case k9 => k_is)
    (case a10 => k_is)
    (case l10 => k_is)
    (case o10 => k_is)
    (case k10 => k_is)
    (case a11 => k_is)
    (case l11 => k_is)
    (case o11 => k_is)
    (case k11 => k_is)
    (case a12 => k_is)
    (case l12 => k_is)
    (case o12 => k_is)
    (case k12 => k_is)
    (case a13 => k_is)
    (case l13 => k_is)
    (case o13 => k_is)
    (case k13 => k_is)
    (case a14 => k_is)
    (case l14 => k_is)
    (case o14 => k_is)
    (case k14 => k_is)
    (case a15 => k_is)
    (case l15 => k_is)
    (case o15 => k_is)
    (case k15 => k_is)
    (case a16 => k_is)
    (case l16 => k_is)
    (case o16 => k_is)
    (case k16 => k_is)
    (case z0 => k_is)
    (case z1 => k_is)
    (case z2 => k_is)
    (case z3 => k_is)
    (case z4 => k_is)
    (case z5 => k_is)
    (case z6 => k_is)
    (case z7 => k_is)
    (case z8 => k_is)
    (case z9 => k_is)
    (case z10 => k_is)

