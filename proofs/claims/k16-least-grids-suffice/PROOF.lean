import PyProof.Rows.All
import Wide.All
import OpenK.AllK
import Wide.FinOn
import HandS.ForMost
import HandS.ForExc
import HandS.Deep
import HandS.Walk
import HandS.CallSlots
import HandS.Defaults
import HandS.Wide
import HandS.WideBits
import HandS.TupAny
import HandS.Zip
import HandS.Star
import HandS.Style
import HandS.IsInst
import HandS.Words
import HandS.WordsExc
import HandS.Head0
import HandS.Head1
import HandS.Head2
import HandS.HeadEnd
import HandS.HeadHook1
import HandS.HeadHook2
import HandS.HeadHook3
import HandS.HeadHook4
import PySem.Challenge.RW_figuresproved_k16_whole_least_grids_suff
set_option Elab.async false
set_option linter.all false
set_option maxRecDepth 100000
set_option maxHeartbeats 4000000
/-! Data, the small language, and what its texts are worth. -/
namespace Ev

/-- a value without addresses -/
inductive D where
  | non | bl (b : Bool) | int (i : Int) | str (x : List Nat)
  | tup (xs : List D) | lst (xs : List D)
  | fn (f : Nat) | exc (c : Nat) (val : D) | scr (ns : List Int)
  deriving Inhabited

abbrev LIM : Nat := 16777216

mutual
def D.py : D → PySem.PyData
  | .non => .none
  | .bl b => .bool b
  | .int i => .int i
  | .str x => .str ⟨x.toArray⟩
  | .tup xs => .tuple (D.pyL xs)
  | .lst xs => .list (D.pyL xs)
  | .fn _ => .none
  | .exc _ _ => .none
  | .scr _ => .none
def D.pyL : List D → List PySem.PyData
  | [] => []
  | d :: ds => d.py :: D.pyL ds
end
mutual
/-- plain data, nested at most n deep -/
def D.dat : Nat → D → Bool
  | _, .non => true
  | _, .bl _ => true
  | _, .int _ => true
  | _, .str _ => true
  | n + 1, .tup xs => D.datL n xs
  | n + 1, .lst xs => D.datL n xs
  | _, _ => false
def D.datL : Nat → List D → Bool
  | _, [] => true
  | n, d :: ds => d.dat n && D.datL n ds
end
mutual
/-- Python's == of plain data -/
def D.beq : D → D → Bool
  | .non, .non => true
  | .bl a, .bl b => a == b
  | .bl a, .int j => (if a then (1 : Int) else 0) == j
  | .int i, .bl b => i == (if b then (1 : Int) else 0)
  | .int i, .int j => i == j
  | .str x, .str y => x == y
  | .tup xs, .tup ys => D.beqL xs ys
  | .lst xs, .lst ys => D.beqL xs ys
  | _, _ => false
def D.beqL : List D → List D → Bool
  | [], [] => true
  | x :: xs, y :: ys => D.beq x y && D.beqL xs ys
  | _, _ => false
end
/-- values that name no address -/
def D.atom : D → Bool
  | .non => true
  | .bl _ => true
  | .int _ => true
  | .str _ => true
  | _ => false
/-- flat: an atom, or a list of atoms -/
def D.flat : D → Bool
  | .lst xs => xs.all D.atom
  | d => d.atom

/-! ### results -/
inductive Res (α : Type) where
  | ok (a : α)
  | exc (c : Nat) (d : D)
  | bad
/-- a mark: what bears it is left alone by simp -/
abbrev Tag {α : Sort u} (_k : α) : Type := Unit
def Res.bind {α β : Type} : Res α → (k : α → Res β) → (t : Tag k := ()) → Res β
  | .ok a, k, _ => k a
  | .exc c d, _, _ => .exc c d
  | .bad, _, _ => .bad
@[simp] theorem Res.bind_ok {α β : Type} (a : α) (k : α → Res β) : (Res.ok a).bind k = k a := rfl
@[simp] theorem Res.bind_exc {α β : Type} (c : Nat) (d : D) (k : α → Res β) : (Res.exc c d).bind k = .exc c d := rfl
@[simp] theorem Res.bind_bad {α β : Type} (k : α → Res β) : (Res.bad : Res α).bind k = .bad := rfl
def Res.of {α : Type} : Option α → Res α
  | some a => .ok a
  | none => .bad
@[simp] theorem Res.of_some {α : Type} (a : α) : Res.of (some a) = .ok a := rfl
@[simp] theorem Res.of_none {α : Type} : Res.of (none : Option α) = .bad := rfl

/-- what an expression hands on: a value that stands still; a new list of its own; the list in a slot -/
inductive R where
  | val (d : D) | tmp (d : D) | var (i : Nat)
/-- what a slot holds: nothing known; a value that stands still; a list of the frame's own; the caller's list, changed in place -/
inductive Sl where
  | no | val (d : D) | own (d : D) | byr (d : D)
abbrev Env := List Sl

def Sl.con : Sl → Option D
  | .no => none
  | .val d => some d
  | .own d => some d
  | .byr d => some d
def Sl.mine : Sl → Bool
  | .own _ => true
  | .byr _ => true
  | _ => false
def Sl.free : Sl → Bool
  | .byr _ => false
  | _ => true
/-- the slot with another content -/
def Sl.put : Sl → D → Sl
  | .own _, d => .own d
  | .byr _, d => .byr d
  | s, _ => s
def Env.at (e : Env) (i : Nat) : Sl := e.getD i .no

/-- read only -/
def peek : R → Env → Option D
  | .val d, _ => some d
  | .tmp d, _ => some d
  | .var i, e => (e.at i).con
/-- handed on as a value: what was the frame's own stands still from now on -/
def asVal : R → Env → Option (D × Env)
  | .val d, e => some (d, e)
  | .tmp d, e => some (d, e)
  | .var i, e => match e.at i with
    | .val d => some (d, e)
    | .own d => some (d, e.set i (.val d))
    | _ => none

/-! ### the language -/
inductive BOp where
  | add | sub | mul | fdiv | mod | pow
inductive COp where
  | eq | ne | lt | le | gt | ge | isin | notin | is | isnot
inductive Bi where
  | len | int | max | min | sum | list | tuple | abs | all | any | bitlen
inductive Tg where
  | one (i : Nat)
  | tup (ts : List Tg)
inductive Ty where
  | int | bool | str | list | tuple
mutual
inductive E where
  | isi (t : Ty) (e : E)
  | sl (i : Nat)
  | con (d : D)
  | gl (g : Nat)
  | lst (es : Es)
  | tup (es : Es)
  | op (o : BOp) (a b : E)
  | neg (a : E)
  | not (a : E)
  | lg (conj : Bool) (es : Es)
  | cmp (o : COp) (a b : E)
  | cmp2 (o o' : COp) (a b c : E)
  | ite (c a b : E)
  | call (f : Nat) (es kw : Es) (perm : List Nat)
  | bi (b : Bi) (es : Es)
  | ix (a i : E)
  | sli (a lo hi : E)
  | none_
  | comp (elt : E) (tg : Tg) (it : It) (cond : Option E) (own : List Nat)
inductive Es where
  | nil
  | cons (star : Bool) (e : E) (r : Es)
inductive It where
  | seq (e : E)
  | ran1 (a : E)
  | ran2 (a b : E)
  | enu (e : E)
  | zip (a b : E) (strict : Bool)
end

mutual
inductive S where
  | asg (t : Tg) (e : E)
  | par (is : List Nat) (es : Es)
  | put (x : Nat) (i v : E)
  | putAug (x : Nat) (i : E) (o : BOp) (v : E)
  | aug (x : Nat) (o : BOp) (e : E)
  | expr (e : E)
  | app (x : Nat) (e : E)
  | iff (c : E) (a b : Ss)
  | for_ (tg : Tg) (it : It) (body : Ss) (gone : List Nat)
  | whl (c : E) (body : Ss) (gone : List Nat)
  | ret (e : E)
  | retN
  | pass
  | cont
  | brk
  | never
inductive Ss where
  | nil
  | cons (s : S) (r : Ss)
end
/-- a def: how many parameters, how many slots, which parameter it changes in place -/
structure Fn where
  np : Nat
  ns : Nat
  chg : Option Nat
  body : Ss

/-! ### operations -/
def vI (i : Int) : Option R := some (.val (.int i))
def vB (b : Bool) : Option R := some (.val (.bl b))
def opAdd : D → D → Option R
  | .int i, .int j => some (.val (.int (i + j)))
  | .str x, .str y => if x.length + y.length ≤ LIM then some (.val (.str (x ++ y))) else none
  | .lst xs, .lst ys => if xs.length + ys.length ≤ LIM then some (.tmp (.lst (xs ++ ys))) else none
  | .tup xs, .tup ys => if xs.length + ys.length ≤ LIM then some (.val (.tup (xs ++ ys))) else none
  | _, _ => none
def opSub : D → D → Option R
  | .int i, .int j => some (.val (.int (i - j)))
  | _, _ => none
def opMul : D → D → Option R
  | .int i, .int j => if i.natAbs.log2 + j.natAbs.log2 < 1000000 then some (.val (.int (i * j))) else none
  | .lst xs, .int k => if k < 1000000 ∧ -1000000 < k ∧ xs.length * k.toNat ≤ LIM then some (.tmp (.lst (List.replicate k.toNat xs).flatten)) else none
  | _, _ => none
def opDiv : D → D → Option R
  | .int i, .int j => if 0 < j ∧ j.natAbs.log2 < 9000 then some (.val (.int (i / j))) else none
  | _, _ => none
def opMod : D → D → Option R
  | .int i, .int j => if 0 < j then some (.val (.int (i % j))) else none
  | _, _ => none
def opPow : D → D → Option R
  | .int i, .int j => if 0 ≤ j ∧ (PySem.Builtin.Int.intBits i : Int) * j ≤ 2 ^ 27 then some (.val (.int (i ^ j.toNat))) else none
  | _, _ => none
def bop : BOp → D → D → Option R
  | .add => opAdd
  | .sub => opSub
  | .mul => opMul
  | .fdiv => opDiv
  | .mod => opMod
  | .pow => opPow
def opNeg : D → Option R
  | .int i => some (.val (.int (-i)))
  | _ => none
/-- == -/
def eqD (d e : D) : Option Bool := if d.dat 40 && e.dat 40 then some (D.beq d e) else none
def inL (d : D) (xs : List D) : Option Bool := if d.dat 40 && D.datL 40 xs then some (xs.any fun z => D.beq z d) else none
def isIn (d : D) : D → Option Bool
  | .lst xs => inL d xs
  | _ => none
def isNone : D → Option Bool
  | .non => some true
  | .exc _ _ => some false
  | .fn _ => some false
  | .bl _ => some false
  | .int _ => some false
  | .str _ => some false
  | .tup _ => some false
  | .lst _ => some false
  | .scr _ => some false
def ltI (f : Int → Int → Bool) : D → D → Option Bool
  | .int i, .int j => some (f i j)
  | _, _ => none
def cop : COp → D → D → Option Bool
  | .eq, d, e => eqD d e
  | .ne, d, e => (eqD d e).map (!·)
  | .lt, d, e => ltI (fun i j => decide (i < j)) d e
  | .le, d, e => ltI (fun i j => decide (i ≤ j)) d e
  | .gt, d, e => ltI (fun i j => decide (j < i)) d e
  | .ge, d, e => ltI (fun i j => decide (j ≤ i)) d e
  | .isin, d, e => isIn d e
  | .notin, d, e => (isIn d e).map (!·)
  | .is, d, .non => isNone d
  | .isnot, d, .non => (isNone d).map (!·)
  | _, _, _ => none
/-- truth -/
def tru : D → Option Bool
  | .bl b => some b
  | _ => none
def opIx : D → D → Option R
  | .lst xs, .int i => (L2.atI xs i).map .val
  | .tup xs, .int i => (L2.atI xs i).map .val
  | .scr ns, .int i => (L2.atI ns i).map fun n => .val (.int n)
  | .str xs, .int i => if xs.length ≤ LIM then (L2.atI xs i).map fun c => .val (.str [c]) else none
  | _, _ => none
def cut {α : Type} (xs : List α) (lo hi : Option Int) : List α := (xs.drop (HT.sIx xs.length 0 lo)).take (HT.sIx xs.length xs.length hi - HT.sIx xs.length 0 lo)
def opSli (x : D) (a b : Option Int) : Option R :=
  match x with
  | .lst xs => some (.tmp (.lst (cut xs a b)))
  | .scr ns => some (.tmp (.lst ((cut ns a b).map .int)))
  | .tup xs => some (.val (.tup (cut xs a b)))
  | .str xs => if xs.length ≤ LIM then some (.val (.str (cut xs a b))) else none
  | _ => none
/-- isinstance -/
def isT : Ty → D → Option Bool
  | _, .exc _ _ => none
  | _, .fn _ => none
  | .int, .int _ => some true
  | .int, .bl _ => some true
  | .bool, .bl _ => some true
  | .str, .str _ => some true
  | .list, .lst _ => some true
  | .list, .scr _ => some true
  | .tuple, .tup _ => some true
  | _, _ => some false
/-- all ints -/
def intsOf : List D → Option (List Int)
  | [] => some []
  | .int i :: ds => (intsOf ds).map (i :: ·)
  | _ :: _ => none
def boolsOf : List D → Option (List Bool)
  | [] => some []
  | .bl b :: ds => (boolsOf ds).map (b :: ·)
  | _ :: _ => none
def biOp : Bi → List D → Option R
  | .len, [.lst xs] => vI xs.length
  | .len, [.tup xs] => vI xs.length
  | .len, [.scr ns] => vI ns.length
  | .len, [.str xs] => if xs.length ≤ LIM then vI xs.length else none
  | .int, [.int i] => vI i
  | .int, [.bl b] => vI (if b then 1 else 0)
  | .max, [.int i, .int j] => vI (if j > i then j else i)
  | .min, [.int i, .int j] => vI (if j < i then j else i)
  | .sum, [.lst xs] => (intsOf xs).bind fun ns => vI ns.sum
  | .abs, [.int i] => vI (if i < 0 then -i else i)
  | .all, [.lst xs] => (boolsOf xs).bind fun bs => vB (bs.all id)
  | .any, [.lst xs] => (boolsOf xs).bind fun bs => vB (bs.any id)
  | .list, [.lst xs] => some (.tmp (.lst xs))
  | .list, [.tup xs] => some (.tmp (.lst xs))
  | .tuple, [.lst xs] => some (.val (.tup xs))
  | .tuple, [.tup xs] => some (.val (.tup xs))
  | .bitlen, [.int i] => vI (PySem.Builtin.Int.intBits i : Nat)
  | _, _ => none

/-! ### targets -/
mutual
def assignT : Tg → D → Env → Option Env
  | .one i, d, e => if (decide (i < e.length) && (e.at i).free) = true then some (e.set i (.val d)) else none
  | .tup ts, .tup ds, e => assignTs ts ds e
  | .tup _, _, _ => none
def assignTs : List Tg → List D → Env → Option Env
  | [], [], e => some e
  | t :: ts, d :: ds, e => (assignT t d e).bind fun e1 => assignTs ts ds e1
  | _, _, _ => none
end
def wipeE (e : Env) : List Nat → Env
  | [] => e
  | i :: is => (wipeE e is).set i .no

/-! ### what a text is worth -/
abbrev Call := Nat → List D → Res (R × Option D)
/-- arguments in the parameters' order -/
def permute (rs : List R) : List Nat → Option (List R)
  | [] => some rs
  | p => p.mapM fun j => rs[j]?
/-- all but the changed one are handed on as values -/
def passVals (m : Option Nat) : Nat → List R → Env → Option (List (Option D) × Env)
  | _, [], e => some ([], e)
  | k, r :: rs, e => if m = some k then (passVals m (k + 1) rs e).map fun p => (none :: p.1, p.2)
    else (asVal r e).bind fun q => (passVals m (k + 1) rs q.2).map fun p => (some q.1 :: p.1, p.2)
/-- the changed one: its content, and the slot that is to hold what comes of it -/
def passMut (r : R) (e : Env) : Option (D × Option Nat) :=
  match r with
  | .tmp d => some (d, none)
  | .var i => match e.at i with
    | .own d => some (d, some i)
    | .byr d => some (d, some i)
    | _ => none
  | .val _ => none
def fillIn (d : D) : List (Option D) → List D
  | [] => []
  | none :: r => d :: fillIn d r
  | some x :: r => x :: fillIn d r
def flatR : R → Bool
  | .val d => d.flat && (match d with | .lst _ => false | _ => true)
  | .tmp d => d.flat
  | .var _ => false
def flatO : Option D → Bool
  | none => true
  | some d => d.flat
/-- the changed one comes back -/
def back (e : Env) : Option Nat → Option D → Option Env
  | none, _ => some e
  | some i, some d => some (e.set i ((e.at i).put d))
  | some _, none => none
def callWith (T : Nat → Option (Option Nat)) (call : Call) (f : Nat) (rs : List R) (e : Env) : Res (R × Env) :=
  match T f with
  | none => .bad
  | some m =>
    match passVals m 0 rs e with
    | none => .bad
    | some (ds, e2) =>
      match m with
      | none => (call f (ds.filterMap id)).bind fun p => .ok (p.1, if flatR p.1 then e else e2)
      | some k =>
        match (rs[k]?).bind fun r => passMut r e2 with
        | none => .bad
        | some (d, slot) => (call f (fillIn d ds)).bind fun p => Res.of ((back (if flatR p.1 && flatO p.2 then e else e2) slot p.2).map fun e3 => (p.1, e3))

section
variable (T : Nat → Option (Option Nat)) (G : Nat → Option D) (call : Call)
/-- the turns of a comprehension -/
def compL (tg : Tg) (cond : Env → Res (Bool × Env)) (elt : Env → Res (R × Env)) (own : List Nat) : List D → Env → (t1 : Tag tg := ()) → (t2 : Tag cond := ()) → (t3 : Tag elt := ()) → (t4 : Tag own := ()) → Res (List D × Env)
  | [], e, _, _, _, _ => .ok ([], e)
  | x :: xs, e, _, _, _, _ => (Res.of (assignT tg x e)).bind fun e1 => (cond e1).bind fun p =>
    if p.1 then (elt p.2).bind fun q => (Res.of (asVal q.1 q.2)).bind fun z => (compL tg cond elt own xs (wipeE z.2 own)).bind fun w => .ok (z.1 :: w.1, w.2)
    else compL tg cond elt own xs (wipeE p.2 own)
def noExc {α : Type} : Res α → Res α
  | .exc _ _ => .bad
  | r => r
/-- a written item's values -/
def spread : Bool → D → Option (List D)
  | false, d => some [d]
  | true, .lst xs => some xs
  | true, .tup xs => some xs
  | true, _ => none
/-- a slice's end -/
def evP (a : E) (x : Res (R × Env)) : Res (Option Int × Env) := x.bind fun p => match a with
  | .none_ => .ok (none, p.2)
  | _ => match peek p.1 p.2 with
    | some (.int i) => .ok (some i, p.2)
    | _ => .bad
/-- a test -/
def tst (x : Res (R × Env)) : Res (Bool × Env) := x.bind fun p => match peek p.1 p.2 with
  | some d => (Res.of (tru d)).bind fun b => .ok (b, p.2)
  | none => .bad
mutual
def evalE : E → Env → Res (R × Env)
  | .isi t a, e => (evalE a e).bind fun p => match peek p.1 p.2 with
    | some x => (Res.of (isT t x)).bind fun b => .ok (.val (.bl b), p.2)
    | none => .bad
  | .sl i, e => match e.at i with
    | .no => .bad
    | .val d => .ok (.val d, e)
    | _ => .ok (.var i, e)
  | .con d, e => .ok (.val d, e)
  | .gl g, e => (Res.of (G g)).bind fun d => .ok (.val d, e)
  | .lst es, e => (evalDs es e).bind fun p => if p.1.length ≤ LIM then .ok (.tmp (.lst p.1), p.2) else .bad
  | .tup es, e => (evalDs es e).bind fun p => if p.1.length ≤ LIM then .ok (.val (.tup p.1), p.2) else .bad
  | .op o a b, e => (evalE a e).bind fun p => (evalE b p.2).bind fun q =>
    match peek p.1 q.2, peek q.1 q.2 with
    | some x, some y => (Res.of (bop o x y)).bind fun r => .ok (r, q.2)
    | _, _ => .bad
  | .neg a, e => (evalE a e).bind fun p => match peek p.1 p.2 with
    | some x => (Res.of (opNeg x)).bind fun r => .ok (r, p.2)
    | none => .bad
  | .not a, e => (tst (evalE a e)).bind fun p => .ok (.val (.bl (!p.1)), p.2)
  | .lg conj es, e => (evalB conj es e).bind fun p => .ok (.val (.bl p.1), p.2)
  | .cmp o a b, e => (evalE a e).bind fun p => (evalE b p.2).bind fun q =>
    match peek p.1 q.2, peek q.1 q.2 with
    | some x, some y => (Res.of (cop o x y)).bind fun r => .ok (.val (.bl r), q.2)
    | _, _ => .bad
  | .cmp2 o o' a b c, e => (evalE a e).bind fun p => (evalE b p.2).bind fun q =>
    match peek p.1 q.2, peek q.1 q.2 with
    | some x, some y => (Res.of (cop o x y)).bind fun r =>
      if r then (evalE c q.2).bind fun s => match peek q.1 s.2, peek s.1 s.2 with
        | some y', some z => (Res.of (cop o' y' z)).bind fun r' => .ok (.val (.bl r'), s.2)
        | _, _ => .bad
      else .ok (.val (.bl false), q.2)
    | _, _ => .bad
  | .ite c a b, e => (tst (evalE c e)).bind fun p => if p.1 then evalE a p.2 else evalE b p.2
  | .call f es kw perm, e => (evalRs es e).bind fun p => (evalRs kw p.2).bind fun q => (Res.of (permute (p.1 ++ q.1) perm)).bind fun rs => callWith T call f rs q.2
  | .bi b es, e => (evalRs es e).bind fun p => (Res.of (p.1.mapM fun r => peek r p.2)).bind fun ds => (Res.of (biOp b ds)).bind fun r => .ok (r, p.2)
  | .ix a i, e => (evalE a e).bind fun p => (evalE i p.2).bind fun q =>
    match peek p.1 q.2, peek q.1 q.2 with
    | some x, some y => (Res.of (opIx x y)).bind fun r => .ok (r, q.2)
    | _, _ => .bad
  | .sli a lo hi, e => (evalE a e).bind fun p => (evP lo (evalE lo p.2)).bind fun q => (evP hi (evalE hi q.2)).bind fun s =>
    match peek p.1 s.2 with
    | some x => (Res.of (opSli x q.1 s.1)).bind fun r => .ok (r, s.2)
    | none => .bad
  | .none_, e => .ok (.val .non, e)
  | .comp elt tg it cond own, e => (evalIt it e).bind fun p =>
    if p.1.length ≤ LIM then (noExc (compL tg (evalC cond) (evalE elt) own p.1 (wipeE p.2 own))).bind fun w => .ok (.tmp (.lst w.1), w.2) else .bad
/-- a comprehension's test -/
def evalC : Option E → Env → Res (Bool × Env)
  | none, e => .ok (true, e)
  | some c, e => tst (evalE c e)
/-- and, or -/
def evalB (conj : Bool) : Es → Env → Res (Bool × Env)
  | .nil, _ => .bad
  | .cons _ a .nil, e => tst (evalE a e)
  | .cons _ a r, e => (tst (evalE a e)).bind fun p => if p.1 = conj then evalB conj r p.2 else .ok p
/-- written items, as values -/
def evalDs : Es → Env → Res (List D × Env)
  | .nil, e => .ok ([], e)
  | .cons star a r, e => (evalE a e).bind fun p => (Res.of (asVal p.1 p.2)).bind fun z => (Res.of (spread star z.1)).bind fun xs => (evalDs r z.2).bind fun w => .ok (xs ++ w.1, w.2)
/-- arguments -/
def evalRs : Es → Env → Res (List R × Env)
  | .nil, e => .ok ([], e)
  | .cons star a r, e => if star then .bad else (evalE a e).bind fun p => (evalRs r p.2).bind fun w => .ok (p.1 :: w.1, w.2)
def evalIt : It → Env → Res (List D × Env)
  | .seq a, e => (evalE a e).bind fun p => (Res.of (asVal p.1 p.2)).bind fun z => match z.1 with
    | .lst xs => .ok (xs, z.2)
    | .tup xs => .ok (xs, z.2)
    | .str xs => .ok (xs.map fun c => .str [c], z.2)
    | _ => .bad
  | .ran1 a, e => (evalE a e).bind fun p => match peek p.1 p.2 with
    | some (.int j) => if j < 1000000000 ∧ -1000000000 < j ∧ j.toNat ≤ LIM then .ok ((List.range j.toNat).map fun (i : Nat) => .int (0 + (i : Int)), p.2) else .bad
    | _ => .bad
  | .ran2 a b, e => (evalE a e).bind fun p => (evalE b p.2).bind fun q => match peek p.1 q.2, peek q.1 q.2 with
    | some (.int i), some (.int j) => if j < 1000000000 ∧ -1000000000 < j ∧ i < 1000000000 ∧ -1000000000 < i ∧ (j - i).toNat ≤ LIM then .ok ((List.range (j - i).toNat).map fun (k : Nat) => .int (i + (k : Int)), q.2) else .bad
    | _, _ => .bad
  | .enu a, e => (evalE a e).bind fun p => (Res.of (asVal p.1 p.2)).bind fun z => match z.1 with
    | .lst xs => .ok (xs.zipIdx.map fun q => .tup [.int (q.2 : Nat), q.1], z.2)
    | _ => .bad
  | .zip a b strict, e => (evalE a e).bind fun p => (Res.of (asVal p.1 p.2)).bind fun z => (evalE b z.2).bind fun q => (Res.of (asVal q.1 q.2)).bind fun w => match z.1, w.1 with
    | .lst xs, .lst ys => if strict = true ∧ xs.length ≠ ys.length then .bad else .ok ((xs.zip ys).map fun q => .tup [q.1, q.2], w.2)
    | .tup xs, .tup ys => if strict = true ∧ xs.length ≠ ys.length then .bad else .ok ((xs.zip ys).map fun q => .tup [q.1, q.2], w.2)
    | _, _ => .bad
end

/-- where a statement leaves to -/
inductive Fl where
  | nx (e : Env) | ret (r : R) (e : Env) | brk (e : Env) | ct (e : Env)
/-- a for's turns -/
def forL (tg : Tg) (body : Env → Res Fl) (gone : List Nat) : List D → Env → (t1 : Tag tg := ()) → (t2 : Tag body := ()) → (t3 : Tag gone := ()) → Res Fl
  | [], e, _, _, _ => .ok (.nx e)
  | x :: xs, e, _, _, _ => (Res.of (assignT tg x e)).bind fun e1 => (body e1).bind fun f => match f with
    | .nx e2 => forL tg body gone xs (wipeE e2 gone)
    | .ct e2 => forL tg body gone xs (wipeE e2 gone)
    | .brk e2 => .ok (.nx (wipeE e2 gone))
    | .ret r e2 => .ok (.ret r e2)
/-- a while's turns, n at most -/
def whlL (cond : Env → Res (Bool × Env)) (body : Env → Res Fl) (gone : List Nat) : Nat → Env → (t1 : Tag cond := ()) → (t2 : Tag body := ()) → (t3 : Tag gone := ()) → Res Fl
  | 0, _, _, _, _ => .bad
  | n + 1, e, _, _, _ => (cond e).bind fun p => if p.1 then (body p.2).bind fun f => match f with
    | .nx e2 => whlL cond body gone n (wipeE e2 gone)
    | .ct e2 => whlL cond body gone n (wipeE e2 gone)
    | .brk e2 => .ok (.nx (wipeE e2 gone))
    | .ret r e2 => .ok (.ret r e2)
    else .ok (.nx p.2)
abbrev FUEL : Nat := 1000000
/-- a name takes what an expression hands on -/
def store (x : Nat) (r : R) (e : Env) : Option Env :=
  if x < e.length then match e.at x with
    | .byr _ => none
    | _ => match r with
      | .val d => some (e.set x (.val d))
      | .tmp d => some (e.set x (.own d))
      | .var i => (asVal (.var i) e).map fun p => p.2.set x (.val p.1)
  else none
def stores : List Nat → List R → Env → Option Env
  | [], [], e => some e
  | x :: xs, r :: rs, e => (store x r e).bind fun e1 => stores xs rs e1
  | _, _, _ => none
/-- no list of a slot is left among them -/
def resolve : List R → Env → Option (List R × Env)
  | [], e => some ([], e)
  | .var i :: rs, e => (asVal (.var i) e).bind fun p => (resolve rs p.2).map fun q => (.val p.1 :: q.1, q.2)
  | r :: rs, e => (resolve rs e).map fun q => (r :: q.1, q.2)
mutual
def evalS : S → Env → Res Fl
  | .asg (.one x) ex, e => (evalE T G call ex e).bind fun p => (Res.of (store x p.1 p.2)).bind fun e1 => .ok (.nx e1)
  | .asg t ex, e => (evalE T G call ex e).bind fun p => (Res.of (asVal p.1 p.2)).bind fun z => (Res.of (assignT t z.1 z.2)).bind fun e1 => .ok (.nx e1)
  | .par xs es, e => (evalRs T G call es e).bind fun p => (Res.of (resolve p.1 p.2)).bind fun q => (Res.of (stores xs q.1 q.2)).bind fun e1 => .ok (.nx e1)
  | .put x i v, e => (evalE T G call v e).bind fun p => (Res.of (asVal p.1 p.2)).bind fun z => if (z.2.at x).mine = true then (evalE T G call i z.2).bind fun q =>
    match q.2.at x, peek q.1 q.2 with
    | .own (.lst ds), some (.int k) => (match L2.ixN ds.length k with
      | some j => .ok (.nx (q.2.set x (.own (.lst (ds.set j z.1)))))
      | none => .bad)
    | .byr (.lst ds), some (.int k) => (match L2.ixN ds.length k with
      | some j => .ok (.nx (q.2.set x (.byr (.lst (ds.set j z.1)))))
      | none => .bad)
    | _, _ => .bad
    else .bad
  | .putAug _ _ _ _, _ => .bad
  | .aug x o ex, e => (match e.at x with
    | .val d => (evalE T G call ex e).bind fun p => (match p.2.at x, peek p.1 p.2 with
      | .val _, some y => (match d, y with
        | .int i, .int j => (match o with
          | .add => .ok (.nx (p.2.set x (.val (.int (i + j)))))
          | .sub => .ok (.nx (p.2.set x (.val (.int (i - j)))))
          | _ => .bad)
        | _, _ => .bad)
      | _, _ => .bad)
    | _ => .bad)
  | .expr ex, e => (evalE T G call ex e).bind fun p => .ok (.nx p.2)
  | .app x ex, e => (match e.at x with
    | .own _ => (evalE T G call ex e).bind fun p => (Res.of (asVal p.1 p.2)).bind fun z => (match z.2.at x with
      | .own (.lst ds) => if ds.length < LIM then .ok (.nx (z.2.set x (.own (.lst (ds ++ [z.1]))))) else .bad
      | _ => .bad)
    | _ => .bad)
  | .iff c a b, e => (tst (evalE T G call c e)).bind fun p => if p.1 then evalSs a p.2 else evalSs b p.2
  | .for_ tg it body gone, e => (evalIt T G call it e).bind fun p => forL tg (evalSs body) gone p.1 (wipeE p.2 gone)
  | .whl c body gone, e => whlL (fun e => tst (evalE T G call c e)) (evalSs body) gone FUEL (wipeE e gone)
  | .ret ex, e => (evalE T G call ex e).bind fun p => .ok (.ret p.1 p.2)
  | .retN, e => .ok (.ret (.val .non) e)
  | .pass, e => .ok (.nx e)
  | .cont, e => .ok (.ct e)
  | .brk, e => .ok (.brk e)
  | .never, _ => .bad
def evalSs : Ss → Env → Res Fl
  | .nil, e => .ok (.nx e)
  | .cons s r, e => (evalS s e).bind fun f => match f with
    | .nx e1 => evalSs r e1
    | g => .ok g
end
end
/-- the slots at the entry -/
def start (chg : Option Nat) (ns : Nat) (ds : List D) : Env := (ds.zipIdx.map fun q => if chg = some q.2 then Sl.byr q.1 else Sl.val q.1) ++ List.replicate (ns - ds.length) .no
/-- what a def hands back -/
def handBack (r : R) (e : Env) : Option R :=
  match r with
  | .val d => some (.val d)
  | .tmp d => some (.tmp d)
  | .var i => match e.at i with
    | .val d => some (.val d)
    | .own d => some (.tmp d)
    | _ => none
/-- the caller's list as it is left -/
def left (chg : Option Nat) (e : Env) : Option (Option D) :=
  match chg with
  | none => some none
  | some k => match e.at k with
    | .byr d => some (some d)
    | _ => none
structure Tab where
  fn : Nat → Option Fn
  fname : Nat → PySem.Str
  ps : Nat → List PySem.Str
  gname : Nat → PySem.Str
  gval : Nat → Option D
def Tab.chg (T : Tab) (f : Nat) : Option (Option Nat) := (T.fn f).map (·.chg)
/-- a def at the depth k -/
def callF (T : Tab) : Nat → Call
  | 0, _, _ => .bad
  | k + 1, f, ds => match T.fn f with
    | none => .bad
    | some fd => if ds.length = fd.np ∧ fd.np ≤ fd.ns then
        (evalSs T.chg T.gval (callF T k) fd.body (start fd.chg fd.ns ds)).bind fun
          | .ret r e => (match handBack r e, left fd.chg e with
            | some r', some o => .ok (r', o)
            | _, _ => .bad)
          | .nx e => (match left fd.chg e with
            | some o => .ok (.val .non, o)
            | none => .bad)
          | _ => .bad
      else .bad
end Ev
namespace Ev
open PySem PySem.Spec PyProof.Rows L2

theorem LIM_eq : sizeLine = LIM := sizeLine_eq

/-- where the defs and the classes of errors stand -/
structure RC where
  fa : Nat → Addr
  ca : Nat → Addr
/-- an error of the class at C, with its own dict at d -/
def ExV (C a d : Addr) : HO := .ext fun h => ∃ o vs, h.get? a = some o ∧ o.cls = .ref C ∧ o.dict = some d ∧ o.data = .fields vs

mutual
inductive Rep (K : PySem.W.Frag) (c : RC) (F : Hp) : D → V → Prop
  | non : Rep K c F .non .non
  | bl (b : Bool) : Rep K c F (.bl b) (.bl b)
  | int (i : Int) : Rep K c F (.int i) (.int i)
  | str (x : List Nat) : x.all (fun k => decide (k < 0x110000)) = true → Rep K c F (.str x) (.str ⟨x.toArray⟩)
  | tup {a : Addr} {vs : List V} {ds : List D} : SqT K F a vs → RepL K c F ds vs → ds.length ≤ LIM → Rep K c F (.tup ds) (.ref a)
  | lst {a : Addr} {vs : List V} {ds : List D} : F a = some (.lst vs) → RepL K c F ds vs → ds.length ≤ LIM → Rep K c F (.lst ds) (.ref a)
  | fn (f : Nat) : Rep K c F (.fn f) (.ref (c.fa f))
  | exc {k : Nat} {a d : Addr} {x : D} {v : V} : F a = some (ExV (c.ca k) a d) → F d = some (.xd [("value", v)]) → Rep K c F x v → Rep K c F (.exc k x) (.ref a)
  | scr {a : Addr} {ns : List Int} : SqL K F a (ns.map V.int) → ns.length ≤ LIM → Rep K c F (.scr ns) (.ref a)
inductive RepL (K : PySem.W.Frag) (c : RC) (F : Hp) : List D → List V → Prop
  | nil : RepL K c F [] []
  | cons {d : D} {v : V} {ds : List D} {vs : List V} : Rep K c F d v → RepL K c F ds vs → RepL K c F (d :: ds) (v :: vs)
end
abbrev Sub (F F' : Hp) : Prop := ∀ a o, F a = some o → F' a = some o
theorem Sub.refl (F : Hp) : Sub F F := fun _ _ h => h
theorem Sub.trans {F G H : Hp} (a : Sub F G) (b : Sub G H) : Sub F H := fun x o h => b x o (a x o h)

section
variable {K : PySem.W.Frag} {c : RC} {F F' H : Hp}
theorem Rd.sub {a : Addr} {o : HO} (s : Sub F F') (h : Rd F a o) : Rd F' a o := by
  rcases h with h | ⟨u, h⟩
  · exact .inl (s _ _ h)
  · exact .inr ⟨u, s _ _ h⟩
theorem sqT_sub {a : Addr} {xs : List V} (s : Sub F F') (h : SqT K F a xs) : SqT K F' a xs := by
  rcases h with h | h
  · exact .inl (Rd.sub s h)
  · exact .inr h
theorem sqL_sub {a : Addr} {xs : List V} (s : Sub F F') (h : SqL K F a xs) : SqL K F' a xs := by
  rcases h with h | h
  · exact .inl (Rd.sub s h)
  · exact .inr h
mutual
theorem Rep.sub (s : Sub F F') : ∀ {d : D} {v : V}, Rep K c F d v → Rep K c F' d v
  | _, _, .non => .non
  | _, _, .bl b => .bl b
  | _, _, .int i => .int i
  | _, _, .str x h => .str x h
  | _, _, .tup h r l => .tup (sqT_sub s h) (RepL.sub s r) l
  | _, _, .lst h r l => .lst (s _ _ h) (RepL.sub s r) l
  | _, _, .fn f => .fn f
  | _, _, .exc h1 h2 r => .exc (s _ _ h1) (s _ _ h2) (Rep.sub s r)
  | _, _, .scr h l => .scr (sqL_sub s h) l
theorem RepL.sub (s : Sub F F') : ∀ {ds : List D} {vs : List V}, RepL K c F ds vs → RepL K c F' ds vs
  | _, _, .nil => .nil
  | _, _, .cons r t => .cons (Rep.sub s r) (RepL.sub s t)
end
theorem RepL.length : ∀ {ds : List D} {vs : List V}, RepL K c F ds vs → ds.length = vs.length
  | _, _, .nil => rfl
  | _, _, .cons _ t => by simp [RepL.length t]
theorem RepL.get : ∀ {ds : List D} {vs : List V} {i : Nat} {d : D}, RepL K c F ds vs → ds[i]? = some d → ∃ v, vs[i]? = some v ∧ Rep K c F d v
  | _, _, _, _, .nil, e => by simp at e
  | _, _, 0, _, .cons r _, e => by simp at e; subst e; exact ⟨_, rfl, r⟩
  | _, _, i + 1, d, .cons r t, e => by
    obtain ⟨v, h1, h2⟩ := RepL.get (i := i) (d := d) t (by simpa using e)
    exact ⟨v, by simpa using h1, h2⟩
theorem RepL.getV : ∀ {ds : List D} {vs : List V} {i : Nat} {v : V}, RepL K c F ds vs → vs[i]? = some v → ∃ d, ds[i]? = some d ∧ Rep K c F d v
  | _, _, _, _, .nil, e => by simp at e
  | _, _, 0, _, .cons r _, e => by simp at e; subst e; exact ⟨_, rfl, r⟩
  | _, _, i + 1, d, .cons r t, e => by
    obtain ⟨v, h1, h2⟩ := RepL.getV (i := i) (v := d) t (by simpa using e)
    exact ⟨v, by simpa using h1, h2⟩
theorem RepL.append : ∀ {ds es : List D} {vs ws : List V}, RepL K c F ds vs → RepL K c F es ws → RepL K c F (ds ++ es) (vs ++ ws)
  | _, _, _, _, .nil, s => s
  | _, _, _, _, .cons r t, s => .cons r (RepL.append t s)
theorem RepL.take : ∀ {ds : List D} {vs : List V} (n : Nat), RepL K c F ds vs → RepL K c F (ds.take n) (vs.take n)
  | _, _, 0, _ => .nil
  | _, _, _ + 1, .nil => .nil
  | _, _, n + 1, .cons r t => .cons r (RepL.take n t)
theorem RepL.drop : ∀ {ds : List D} {vs : List V} (n : Nat), RepL K c F ds vs → RepL K c F (ds.drop n) (vs.drop n)
  | _, _, 0, r => r
  | _, _, _ + 1, .nil => .nil
  | _, _, n + 1, .cons _ t => RepL.drop n t
theorem RepL.set {d : D} {v : V} (r : Rep K c F d v) : ∀ {ds : List D} {vs : List V} (i : Nat), RepL K c F ds vs → RepL K c F (ds.set i d) (vs.set i v)
  | _, _, _, .nil => .nil
  | _, _, 0, .cons _ t => .cons r t
  | _, _, i + 1, .cons q t => .cons q (RepL.set r i t)
theorem RepL.rep {ds : List D} {vs : List V} (r : RepL K c F ds vs) : ∀ n : Nat, RepL K c F (List.replicate n ds).flatten (List.replicate n vs).flatten
  | 0 => .nil
  | n + 1 => by simp only [List.replicate_succ, List.flatten_cons]; exact r.append (RepL.rep r n)
theorem RepL.ints : ∀ {ns : List Int} {vs : List V} {ds : List D}, RepL K c F ds vs → intsOf ds = some ns → vs = ns.map V.int
  | _, _, [], .nil, e => by simp [intsOf] at e; subst e; rfl
  | _, _, _ :: _, .cons r t, e => by
    cases r <;> simp [intsOf] at e
    obtain ⟨ms, h1, h2⟩ := e
    subst h2
    rw [RepL.ints t h1]; rfl
theorem RepL.bools : ∀ {ns : List Bool} {vs : List V} {ds : List D}, RepL K c F ds vs → boolsOf ds = some ns → vs = ns.map V.bl
  | _, _, [], .nil, e => by simp [boolsOf] at e; subst e; rfl
  | _, _, _ :: _, .cons r t, e => by
    cases r <;> simp [boolsOf] at e
    obtain ⟨ms, h1, h2⟩ := e
    subst h2
    rw [RepL.bools t h1]; rfl
theorem repL_ints : ∀ ns : List Int, RepL K c F (ns.map D.int) (ns.map V.int)
  | [] => .nil
  | n :: ns => .cons (.int n) (repL_ints ns)
/-- atoms need no heap -/
theorem Rep.atom {d : D} {v : V} (r : Rep K c F d v) (h : d.atom = true) : Rep K c F' d v := by
  cases r <;> first | (simp [D.atom] at h; done) | (constructor; done) | (constructor; assumption)
theorem RepL.atoms : ∀ {ds : List D} {vs : List V}, RepL K c F ds vs → ds.all D.atom = true → RepL K c F' ds vs
  | _, _, .nil, _ => .nil
  | _, _, .cons r t, h => by
    simp only [List.all_cons, Bool.and_eq_true] at h
    exact .cons (r.atom h.1) (t.atoms h.2)

/-! data as the library's data -/
mutual
theorem Rep.dp (s : Sub F H) : ∀ (d : D) (v : V) (n : Nat), Rep K c F d v → d.dat n = true → Dp K H v d.py
  | .non, _, _, .non, _ => .non
  | .bl b, _, _, .bl _, _ => .bl b
  | .int i, _, _, .int _, _ => .int i
  | .str x, _, _, .str _ _, _ => .str _
  | .tup ds, _, 0, .tup h r _, q => by simp [D.dat] at q
  | .tup ds, _, n + 1, .tup h r _, q => .tup (sqT_sub s h) (RepL.dp s ds _ n r (by simpa [D.dat] using q))
  | .lst ds, _, 0, .lst h r _, q => by simp [D.dat] at q
  | .lst ds, _, n + 1, .lst h r _, q => .lst (.inl (.inl (s _ _ h))) (RepL.dp s ds _ n r (by simpa [D.dat] using q))
  | .fn f, _, _, _, q => by simp [D.dat] at q
  | .exc _ _, _, _, _, q => by simp [D.dat] at q
  | .scr _, _, _, _, q => by simp [D.dat] at q
theorem RepL.dp (s : Sub F H) : ∀ (ds : List D) (vs : List V) (n : Nat), RepL K c F ds vs → D.datL n ds = true → DpAll K H vs (D.pyL ds)
  | [], _, _, .nil, _ => .nil
  | d :: ds, _, n, .cons r t, q => by
    simp only [D.datL, Bool.and_eq_true] at q
    exact .cons (Rep.dp s d _ n r q.1) (RepL.dp s ds _ n t q.2)
end
mutual
theorem Rep.lay : ∀ (d : D) (v : V) (n : Nat), Rep K c F d v → d.dat n = true → d.py.canLay0 = true
  | .non, _, _, _, _ => rfl
  | .bl b, _, _, _, _ => rfl
  | .int i, _, _, _, _ => rfl
  | .str x, _, _, .str _ h, _ => by
    simp only [D.py, PyData.canLay0, PySem.PyData.strOk, List.all_toArray]
    exact h
  | .tup ds, _, 0, _, q => by simp [D.dat] at q
  | .tup ds, _, n + 1, .tup _ r _, q => by
    have := RepL.lay ds _ n r (by simpa [D.dat] using q)
    simpa [D.py, PyData.canLay0] using this
  | .lst ds, _, 0, _, q => by simp [D.dat] at q
  | .lst ds, _, n + 1, .lst _ r _, q => by
    have := RepL.lay ds _ n r (by simpa [D.dat] using q)
    simpa [D.py, PyData.canLay0] using this
  | .fn f, _, _, _, q => by simp [D.dat] at q
  | .exc _ _, _, _, _, q => by simp [D.dat] at q
  | .scr _, _, _, _, q => by simp [D.dat] at q
theorem RepL.lay : ∀ (ds : List D) (vs : List V) (n : Nat), RepL K c F ds vs → D.datL n ds = true → PyData.canLayAll0 (D.pyL ds) = true
  | [], _, _, _, _ => rfl
  | d :: ds, _, n, .cons r t, q => by
    simp only [D.datL, Bool.and_eq_true] at q
    simp [D.pyL, PyData.canLayAll0, Rep.lay d _ n r q.1, RepL.lay ds _ n t q.2]
end
mutual
theorem dat_dep : ∀ (d : D) (n : Nat), d.dat n = true → d.py.depth ≤ n
  | .non, _, _ => by simp [D.py, PyData.depth]
  | .bl b, _, _ => by simp [D.py, PyData.depth]
  | .int i, _, _ => by simp [D.py, PyData.depth]
  | .str x, _, _ => by simp [D.py, PyData.depth]
  | .tup ds, 0, q => by simp [D.dat] at q
  | .tup ds, n + 1, q => by
    have := datL_dep ds n (by simpa [D.dat] using q)
    simp [D.py, PyData.depth]; omega
  | .lst ds, 0, q => by simp [D.dat] at q
  | .lst ds, n + 1, q => by
    have := datL_dep ds n (by simpa [D.dat] using q)
    simp [D.py, PyData.depth]; omega
  | .fn f, _, q => by simp [D.dat] at q
  | .exc _ _, _, q => by simp [D.dat] at q
  | .scr _, _, q => by simp [D.dat] at q
theorem datL_dep : ∀ (ds : List D) (n : Nat), D.datL n ds = true → PyData.depthAll (D.pyL ds) ≤ n
  | [], _, _ => by simp [D.pyL, PyData.depthAll]
  | d :: ds, n, q => by
    simp only [D.datL, Bool.and_eq_true] at q
    have h1 := dat_dep d n q.1
    have h2 := datL_dep ds n q.2
    simp only [D.pyL, PyData.depthAll]; omega
end
theorem Rep.shaped {d : D} {v : V} (r : Rep K c F d v) (h : d.dat 40 = true) : SeqAt.shaped d.py = true := by
  have h1 := Rep.lay d v 40 r h
  have h2 := dat_dep d 40 h
  unfold SeqAt.shaped
  rw [h1, Bool.true_and, decide_eq_true_eq]; omega
theorem RepL.shaped {ds : List D} {vs : List V} (r : RepL K c F ds vs) (h : D.datL 40 ds = true) : SeqAt.shaped (.list (D.pyL ds)) = true := by
  have h1 := RepL.lay ds vs 40 r h
  have h2 := datL_dep ds 40 h
  unfold SeqAt.shaped
  rw [Bool.and_eq_true, decide_eq_true_eq]
  exact ⟨by simpa [PyData.canLay0] using h1, by simp [PyData.depth]; omega⟩
theorem str_beq (x y : List Nat) : ((⟨x.toArray⟩ : Str) == ⟨y.toArray⟩) = (x == y) := by
  by_cases h : x = y
  · subst h; simp
  · have : (⟨x.toArray⟩ : Str) ≠ ⟨y.toArray⟩ := fun e => h (by simpa using e)
    rw [beq_eq_false_iff_ne.mpr this, beq_eq_false_iff_ne.mpr h]
mutual
theorem eqv_beq : ∀ (d e : D) (n : Nat) (m : Nat), d.dat n = true → e.dat m = true → PyData.eqv d.py e.py = D.beq d e := by
  intro d e n m hd he
  cases d <;> cases e <;> simp only [D.py, PyData.eqv, D.beq, str_beq] <;> first
    | (exfalso; simp [D.dat] at hd; done)
    | (exfalso; simp [D.dat] at he; done)
    | (rename_i xs ys
       cases n with
       | zero => simp [D.dat] at hd
       | succ n =>
         cases m with
         | zero => simp [D.dat] at he
         | succ m => exact eqv_beqL xs ys n m (by simpa [D.dat] using hd) (by simpa [D.dat] using he))
theorem eqv_beqL : ∀ (ds es : List D) (n m : Nat), D.datL n ds = true → D.datL m es = true → PyData.eqvAll (D.pyL ds) (D.pyL es) = D.beqL ds es
  | [], [], _, _, _, _ => by simp [D.pyL, PyData.eqvAll, D.beqL]
  | [], _ :: _, _, _, _, _ => by simp [D.pyL, PyData.eqvAll, D.beqL]
  | _ :: _, [], _, _, _, _ => by simp [D.pyL, PyData.eqvAll, D.beqL]
  | d :: ds, e :: es, n, m, h1, h2 => by
    simp only [D.datL, Bool.and_eq_true] at h1 h2
    simp only [D.pyL, PyData.eqvAll, D.beqL]
    rw [eqv_beq d e n m h1.1 h2.1, eqv_beqL ds es n m h1.2 h2.2]
end
end
end Ev
namespace Ev
open PySem PySem.Spec PyProof.Rows L2

/-- what an own list holds -/
def RepO (K : PySem.W.Frag) (c : RC) (F : Hp) : D → HO → Prop
  | .lst ds, .lst vs => RepL K c F ds vs ∧ ds.length ≤ LIM
  | _, _ => False
/-- read only: a value, or an own list -/
def RepP (K : PySem.W.Frag) (c : RC) (F H : Hp) (d : D) (v : V) : Prop := Rep K c F d v ∨ ∃ a o, v = .ref a ∧ H a = some o ∧ RepO K c F d o
/-- what an operation hands on, wherever the new things lie -/
def Out (K : PySem.W.Frag) (c : RC) (F H : Hp) (Q : V → Hp → Prop) : R → Prop
  | .val d => ∀ v F' H', Sub F F' → Sub H H' → Sub F' H' → (∀ a o, F' a = some o → F a = some o ∨ H a = none) → Rep K c F' d v → Q v H'
  | .tmp d => ∀ a o H', Sub H H' → H a = none → H' a = some o → RepO K c F d o → Q (.ref a) H'
  | .var _ => False
section
variable {K : PySem.W.Frag} {c : RC} {F F' H : Hp} {Q : V → Hp → Prop}
theorem RepO.sub {d : D} {o : HO} (s : Sub F F') (h : RepO K c F d o) : RepO K c F' d o := by
  cases d <;> cases o <;> first | exact h.elim | exact ⟨h.1.sub s, h.2⟩
theorem RepO.lst {d : D} {o : HO} (h : RepO K c F d o) : ∃ ds vs, d = .lst ds ∧ o = .lst vs ∧ RepL K c F ds vs ∧ ds.length ≤ LIM := by
  cases d <;> cases o <;> first | exact h.elim | exact ⟨_, _, rfl, rfl, h.1, h.2⟩
theorem RepP.of_lst {ds : List D} {v : V} (s : Sub F H) (h : RepP K c F H (.lst ds) v) : ∃ a vs, v = .ref a ∧ H a = some (.lst vs) ∧ RepL K c F ds vs ∧ ds.length ≤ LIM := by
  rcases h with h | ⟨a, o, rfl, ha, ho⟩
  · cases h with
    | lst h r l => exact ⟨_, _, rfl, s _ _ h, r, l⟩
  · obtain ⟨ds', vs, e, rfl, r, l⟩ := ho.lst
    cases e
    exact ⟨a, vs, rfl, ha, r, l⟩
theorem RepP.rep {d : D} {v : V} (h : RepP K c F H d v) (n : ∀ ds, d ≠ .lst ds) : Rep K c F d v := by
  rcases h with h | ⟨a, o, rfl, ha, ho⟩
  · exact h
  · obtain ⟨ds', vs, e, _⟩ := ho.lst
    exact absurd e (n ds')
theorem RepP.of_tup {ds : List D} {v : V} (s : Sub F H) (h : RepP K c F H (.tup ds) v) : ∃ a vs, v = .ref a ∧ SqT K H a vs ∧ RepL K c F ds vs ∧ ds.length ≤ LIM ∧ SqT K F a vs := by
  have g := h.rep (fun _ z => nomatch z)
  cases g with
  | tup g r l => exact ⟨_, _, rfl, sqT_sub s g, r, l, g⟩
theorem RepP.of_int {i : Int} {v : V} (h : RepP K c F H (.int i) v) : v = .int i := by
  cases h.rep (fun _ z => nomatch z); rfl
theorem RepP.of_bl {i : Bool} {v : V} (h : RepP K c F H (.bl i) v) : v = .bl i := by
  cases h.rep (fun _ z => nomatch z); rfl
theorem RepP.of_str {x : List Nat} {v : V} (h : RepP K c F H (.str x) v) : v = .str ⟨x.toArray⟩ ∧ x.all (fun k => decide (k < 0x110000)) = true := by
  have g := h.rep (fun _ z => nomatch z)
  cases g with
  | str _ g => exact ⟨rfl, g⟩
theorem RepP.of_non {v : V} (h : RepP K c F H .non v) : v = .non := by
  cases h.rep (fun _ z => nomatch z); rfl
theorem RepP.of_scr {ns : List Int} {v : V} (s : Sub F H) (h : RepP K c F H (.scr ns) v) : ∃ a, v = .ref a ∧ SqL K H a (ns.map V.int) ∧ ns.length ≤ LIM := by
  have g := h.rep (fun _ z => nomatch z)
  cases g with
  | scr g l => exact ⟨_, rfl, sqL_sub s g, l⟩
theorem RepP.dp {d : D} {v : V} {n : Nat} (s : Sub F H) (h : RepP K c F H d v) (q : d.dat n = true) : Dp K H v d.py := by
  rcases h with h | ⟨a, o, rfl, ha, ho⟩
  · exact h.dp s d v n q
  · obtain ⟨ds, vs, rfl, rfl, r, l⟩ := ho.lst
    cases n with
    | zero => simp [D.dat] at q
    | succ n => exact .lst (.inl (.inl ha)) (r.dp s ds vs n (by simpa [D.dat] using q))
theorem RepP.shaped {d : D} {v : V} (h : RepP K c F H d v) (q : d.dat 40 = true) : SeqAt.shaped d.py = true := by
  rcases h with h | ⟨a, o, rfl, ha, ho⟩
  · exact h.shaped q
  · obtain ⟨ds, vs, rfl, rfl, r, l⟩ := ho.lst
    have h1 := r.lay ds vs 39 (by simpa [D.dat] using q)
    have h2 := datL_dep ds 39 (by simpa [D.dat] using q)
    unfold SeqAt.shaped
    rw [Bool.and_eq_true, decide_eq_true_eq]
    exact ⟨by simpa [D.py, PyData.canLay0] using h1, by simp [D.py, PyData.depth]; omega⟩
/-- a value that needs no new thing -/
theorem Out.val {d : D} {v : V} (o : Out K c F H Q (.val d)) (s : Sub F H) (r : Rep K c F d v) : Q v H := o v F H (Sub.refl _) (Sub.refl _) s (fun _ _ h => .inl h) r
/-- a new list -/
theorem sub_upd {a : Addr} {o : HO} (n : H a = none) : Sub H (upd H a o) := fun b u h => by
  rw [upd_ne (ne_of_none h n)]; exact h
theorem Out.new {ds : List D} {vs : List V} (o : Out K c F H Q (.tmp (.lst ds))) (r : RepL K c F ds vs) (l : ds.length ≤ LIM) : ∀ p, H p = none → Q (.ref p) (upd H p (.lst vs)) :=
  fun p hp => o p (.lst vs) _ (sub_upd hp) hp upd_same ⟨r, l⟩
/-- a new tuple -/
theorem Out.newT {ds : List D} {vs : List V} (o : Out K c F H Q (.val (.tup ds))) (s : Sub F H) (r : RepL K c F ds vs) (l : ds.length ≤ LIM) : ∀ p, H p = none → Q (.ref p) (upd H p (.tup vs)) := by
  intro p hp
  have np : ∀ b u, F b = some u → b ≠ p := fun b u h e => by subst e; rw [s _ _ h] at hp; cases hp
  have hF : F p = none := by
    cases e : F p with
    | none => rfl
    | some u => exact absurd rfl (np p u e)
  refine o (.ref p) (upd F p (.tup vs)) (upd H p (.tup vs)) (sub_upd hF) (sub_upd hp) (fun b u h => ?_) (fun b u h => ?_) (.tup (.inl (.inl upd_same)) (r.sub (sub_upd hF)) l)
  · by_cases e : b = p
    · subst e; rw [upd_same] at h ⊢; exact h
    · rw [upd_ne e] at h ⊢; exact s _ _ h
  · by_cases e : b = p
    · subst e; exact .inr hp
    · rw [upd_ne e] at h; exact .inl h
end

/-! ### operators by values -/
def rBop (K : PySem.W.Frag) (c : RC) (f : D → D → Option R) : R2 := fun x y H Q => ∃ F d e r, Sub F H ∧ RepP K c F H d x ∧ RepP K c F H e y ∧ f d e = some r ∧ Out K c F H Q r
def opOf : BOp → Operator
  | .add => .Add
  | .sub => .Sub
  | .mul => .Mult
  | .fdiv => .FloorDiv
  | .mod => .Mod
  | .pow => .Pow
section
variable {X : Cx} {c : RC}
theorem add_ok : OpR X (binaryOp .Add) (rBop X.K c opAdd) := by
  intro pins s σ H x y v u Q I rx ry ⟨F, d, e, r, sF, hd, he, hr, q⟩
  unfold opAdd at hr
  split at hr
  · rename_i i j
    cases hr
    obtain rfl := hd.of_int
    obtain rfl := he.of_int
    exact op_add pins s σ H _ _ v u Q I rx ry ⟨i, j, rfl, rfl, q.val sF (.int _)⟩
  · rename_i a b
    split at hr
    · rename_i hl
      cases hr
      obtain ⟨rfl, va⟩ := hd.of_str
      obtain ⟨rfl, vb⟩ := he.of_str
      refine op_add_str pins s σ H _ _ v u Q I rx ry ⟨_, _, rfl, rfl, ?_, ?_⟩
      · rw [LIM_eq]; simpa [Str.length] using hl
      · have e1 : (⟨a.toArray⟩ : Str) ++ ⟨b.toArray⟩ = ⟨(a ++ b).toArray⟩ := by
          show Str.mk (a.toArray ++ b.toArray) = _
          simp
        rw [e1]
        exact q.val sF (.str _ (by rw [List.all_append, va, vb]; rfl))
    · cases hr
  · rename_i xs ys
    split at hr
    · rename_i hl
      cases hr
      obtain ⟨a, vs, rfl, ha, ra, la⟩ := hd.of_lst sF
      obtain ⟨b, ws, rfl, hb, rb, lb⟩ := he.of_lst sF
      refine op_cat pins s σ H _ _ v u Q I rx ry ⟨a, b, vs, ws, rfl, rfl, ha, hb, by rw [← ra.length, ← rb.length, LIM_eq]; exact hl, ?_⟩
      exact q.new (ra.append rb) (by rw [List.length_append]; exact hl)
    · cases hr
  · rename_i xs ys
    split at hr
    · rename_i hl
      cases hr
      obtain ⟨a, vs, rfl, ha, ra, la, fa⟩ := hd.of_tup sF
      obtain ⟨b, ws, rfl, hb, rb, lb, fb⟩ := he.of_tup sF
      refine op_catA pins s σ H _ _ v u Q I rx ry ⟨a, b, vs, ws, rfl, rfl, ha, hb, by rw [← ra.length, ← rb.length, LIM_eq]; exact hl, ?_, ?_, ?_⟩
      · rintro rfl
        cases ra
        exact q.val sF (.tup fb rb lb)
      · rintro _ rfl
        cases rb
        rw [List.append_nil] at q
        exact q.val sF (.tup fa ra la)
      · intro _ _
        exact q.newT sF (ra.append rb) (by rw [List.length_append]; exact hl)
    · cases hr
  · cases hr
theorem sub_ok : OpR X (binaryOp .Sub) (rBop X.K c opSub) := by
  intro pins s σ H x y v u Q I rx ry ⟨F, d, e, r, sF, hd, he, hr, q⟩
  unfold opSub at hr
  split at hr
  · rename_i i j
    cases hr
    obtain rfl := hd.of_int
    obtain rfl := he.of_int
    exact op_sub pins s σ H _ _ v u Q I rx ry ⟨i, j, rfl, rfl, q.val sF (.int _)⟩
  · cases hr
theorem mul_ok : OpR X (binaryOp .Mult) (rBop X.K c opMul) := by
  intro pins s σ H x y v u Q I rx ry ⟨F, d, e, r, sF, hd, he, hr, q⟩
  unfold opMul at hr
  split at hr
  · rename_i i j
    split at hr
    · rename_i hl
      cases hr
      obtain rfl := hd.of_int
      obtain rfl := he.of_int
      exact op_mulW pins s σ H _ _ v u Q I rx ry ⟨i, j, rfl, rfl, hl, q.val sF (.int _)⟩
    · cases hr
  · rename_i xs k
    split at hr
    · rename_i hl
      cases hr
      obtain ⟨a, vs, rfl, ha, ra, la⟩ := hd.of_lst sF
      obtain rfl := he.of_int
      have hlen : (List.replicate k.toNat xs).flatten.length ≤ LIM := by
        rw [List.length_flatten, List.map_replicate, List.sum_replicate_nat, Nat.mul_comm]
        exact hl.2.2
      refine op_rep pins s σ H _ _ v u Q I rx ry ⟨a, k, vs, rfl, rfl, ha, by omega, by omega, by rw [← ra.length, LIM_eq]; exact hl.2.2, ?_⟩
      exact q.new (ra.rep _) hlen
    · cases hr
  · cases hr
theorem fdiv_ok : OpR X (binaryOp .FloorDiv) (rBop X.K c opDiv) := by
  intro pins s σ H x y v u Q I rx ry ⟨F, d, e, r, sF, hd, he, hr, q⟩
  unfold opDiv at hr
  split at hr
  · rename_i i j
    split at hr
    · rename_i hl
      cases hr
      obtain rfl := hd.of_int
      obtain rfl := he.of_int
      exact op_fdivW pins s σ H _ _ v u Q I rx ry ⟨i, j, rfl, rfl, hl, q.val sF (.int _)⟩
    · cases hr
  · cases hr
theorem mod_ok : OpR X (binaryOp .Mod) (rBop X.K c opMod) := by
  intro pins s σ H x y v u Q I rx ry ⟨F, d, e, r, sF, hd, he, hr, q⟩
  unfold opMod at hr
  split at hr
  · rename_i i j
    split at hr
    · rename_i hl
      cases hr
      obtain rfl := hd.of_int
      obtain rfl := he.of_int
      exact op_mod pins s σ H _ _ v u Q I rx ry ⟨i, j, rfl, rfl, hl, q.val sF (.int _)⟩
    · cases hr
  · cases hr
theorem pow_ok : OpR X (binaryOp .Pow) (rBop X.K c opPow) := by
  intro pins s σ H x y v u Q I rx ry ⟨F, d, e, r, sF, hd, he, hr, q⟩
  unfold opPow at hr
  split at hr
  · rename_i i j
    split at hr
    · rename_i hl
      cases hr
      obtain rfl := hd.of_int
      obtain rfl := he.of_int
      obtain ⟨t, rfl⟩ := rx
      obtain ⟨t', rfl⟩ := ry
      exact pow_int hl.1 hl.2 ⟨.int _, H, I.tok _, ⟨_, rfl⟩, q.val sF (.int _)⟩
    · cases hr
  · cases hr
theorem bop_ok : ∀ o : BOp, OpR X (binaryOp (opOf o)) (rBop X.K c (bop o))
  | .add => add_ok
  | .sub => sub_ok
  | .mul => mul_ok
  | .fdiv => fdiv_ok
  | .mod => mod_ok
  | .pow => pow_ok
theorem neg_ok : UnR X (unaryOp .USub) (fun x H Q => ∃ F d r, Sub F H ∧ RepP X.K c F H d x ∧ opNeg d = some r ∧ Out X.K c F H Q r) := by
  intro pins s σ H x v Q I rx ⟨F, d, r, sF, hd, hr, q⟩
  unfold opNeg at hr
  split at hr
  · rename_i i
    cases hr
    obtain rfl := hd.of_int
    exact un_neg pins s σ H _ v Q I rx ⟨i, rfl, q.val sF (.int _)⟩
  · cases hr
def rCop (K : PySem.W.Frag) (c : RC) (f : D → D → Option Bool) : R2 := fun x y H Q => ∃ F d e r, Sub F H ∧ RepP K c F H d x ∧ RepP K c F H e y ∧ f d e = some r ∧ Q (.bl r) H
def copOf : COp → CmpOp
  | .eq => .Eq
  | .ne => .NotEq
  | .lt => .Lt
  | .le => .LtE
  | .gt => .Gt
  | .ge => .GtE
  | .isin => .In
  | .notin => .NotIn
  | .is => .Is
  | .isnot => .IsNot
theorem eqD_inv {d e : D} {r : Bool} (h : eqD d e = some r) : d.dat 40 = true ∧ e.dat 40 = true ∧ r = D.beq d e := by
  unfold eqD at h
  split at h
  · rename_i q
    rw [Bool.and_eq_true] at q
    cases h
    exact ⟨q.1, q.2, rfl⟩
  · cases h
theorem eq_ok (hu : X.A.units + 64 < cLine) : OpR X (compareOp .Eq) (rCop X.K c (cop .eq)) := by
  intro pins s σ H x y v u Q I rx ry ⟨F, d, e, r, sF, hd, he, hr, q⟩
  obtain ⟨h1, h2, rfl⟩ := eqD_inv hr
  exact op_eqD hu pins s σ H _ _ v u Q I rx ry ⟨d.py, e.py, hd.dp sF h1, he.dp sF h2, hd.shaped h1, he.shaped h2, by rw [eqv_beq d e 40 40 h1 h2]; exact q⟩
theorem ne_ok (hu : X.A.units + 64 < cLine) : OpR X (compareOp .NotEq) (rCop X.K c (cop .ne)) := by
  intro pins s σ H x y v u Q I rx ry ⟨F, d, e, r, sF, hd, he, hr, q⟩
  have hr' : (eqD d e).map (!·) = some r := hr
  cases e1 : eqD d e with
  | none => rw [e1] at hr'; cases hr'
  | some b =>
    rw [e1] at hr'
    cases hr'
    obtain ⟨h1, h2, rfl⟩ := eqD_inv e1
    exact op_neD hu pins s σ H _ _ v u Q I rx ry ⟨d.py, e.py, hd.dp sF h1, he.dp sF h2, hd.shaped h1, he.shaped h2, by rw [eqv_beq d e 40 40 h1 h2]; exact q⟩
theorem ltI_inv {f : Int → Int → Bool} {d e : D} {r : Bool} (h : ltI f d e = some r) : ∃ i j, d = .int i ∧ e = .int j ∧ r = f i j := by
  unfold ltI at h
  split at h
  · cases h; exact ⟨_, _, rfl, rfl, rfl⟩
  · cases h
theorem any_eqv {d : D} {n : Nat} (h : d.dat n = true) : ∀ {ds : List D} {m : Nat}, D.datL m ds = true → (D.pyL ds).any (fun z => PyData.eqv z d.py) = ds.any fun z => D.beq z d
  | [], _, _ => rfl
  | e :: ds, m, q => by
    simp only [D.datL, Bool.and_eq_true] at q
    simp only [D.pyL, List.any_cons, any_eqv h q.2, eqv_beq e d m n q.1 h]
theorem inL_inv {d : D} {ds : List D} {r : Bool} (h : inL d ds = some r) : d.dat 40 = true ∧ D.datL 40 ds = true ∧ r = ds.any fun z => D.beq z d := by
  unfold inL at h
  split at h
  · rename_i q
    rw [Bool.and_eq_true] at q
    cases h
    exact ⟨q.1, q.2, rfl⟩
  · cases h
theorem in_ok (hu : X.A.units + 65 < cLine) : OpR X (compareOp .In) (rCop X.K c (cop .isin)) := by
  intro pins s σ H x y v u Q I rx ry ⟨F, d, e, r, sF, hd, he, hr, q⟩
  have hr' : isIn d e = some r := hr
  unfold isIn at hr'
  split at hr'
  · rename_i ds
    obtain ⟨h1, h2, rfl⟩ := inL_inv hr'
    obtain ⟨a, vs, rfl, ha, ra, la⟩ := he.of_lst sF
    exact op_inD hu pins s σ H _ _ v u Q I rx ry ⟨d.py, D.pyL ds, hd.dp sF h1, .lst (.inl (.inl ha)) (ra.dp sF ds vs 40 h2), hd.shaped h1, ra.shaped h2, by rw [any_eqv h1 h2]; exact q⟩
  · cases hr'
theorem notin_ok (hu : X.A.units + 65 < cLine) : OpR X (compareOp .NotIn) (rCop X.K c (cop .notin)) := by
  intro pins s σ H x y v u Q I rx ry ⟨F, d, e, r, sF, hd, he, hr, q⟩
  have hr' : (isIn d e).map (!·) = some r := hr
  unfold isIn at hr'
  split at hr'
  · rename_i ds
    cases e1 : inL d ds with
    | none => rw [e1] at hr'; cases hr'
    | some b =>
      rw [e1] at hr'
      cases hr'
      obtain ⟨h1, h2, rfl⟩ := inL_inv e1
      obtain ⟨a, vs, rfl, ha, ra, la⟩ := he.of_lst sF
      exact op_notInD hu pins s σ H _ _ v u Q I rx ry ⟨d.py, D.pyL ds, hd.dp sF h1, .lst (.inl (.inl ha)) (ra.dp sF ds vs 40 h2), hd.shaped h1, ra.shaped h2, by rw [any_eqv h1 h2]; exact q⟩
  · cases hr'
theorem none_v {d : D} {x : V} {F H : Hp} {K : PySem.W.Frag} {r : Bool} (h : RepP K c F H d x) (hr : isNone d = some r) : r = decide (x = .non) := by
  rcases h with h | ⟨a, o, rfl, ha, ho⟩
  · cases h <;> simp [isNone] at hr <;> subst hr <;> simp
  · obtain ⟨ds, vs, rfl, rfl, _⟩ := ho.lst
    simp [isNone] at hr; subst hr; simp
theorem is_ok : OpR X (compareOp .Is) (rCop X.K c (cop .is)) := by
  intro pins s σ H x y v u Q I rx ry ⟨F, d, e, r, sF, hd, he, hr, q⟩
  cases e <;> simp [cop] at hr
  obtain rfl := he.of_non
  rw [none_v hd hr] at q
  exact op_isN pins s σ H _ _ v u Q I rx ry ⟨rfl, q⟩
theorem isnot_ok : OpR X (compareOp .IsNot) (rCop X.K c (cop .isnot)) := by
  intro pins s σ H x y v u Q I rx ry ⟨F, d, e, r, sF, hd, he, hr, q⟩
  cases e <;> simp [cop] at hr
  obtain rfl := he.of_non
  cases e1 : isNone d with
  | none => rw [e1] at hr; simp at hr
  | some b =>
    rw [e1] at hr
    simp at hr
    have e2 := none_v hd e1
    have e3 : r = !b := by rw [hr, Bool.not_not]
    rw [e3, e2] at q
    exact op_notN pins s σ H _ _ v u Q I rx ry ⟨rfl, q⟩
theorem cop_ok (hu : X.A.units + 65 < cLine) : ∀ o : COp, OpR X (compareOp (copOf o)) (rCop X.K c (cop o))
  | .eq => eq_ok (by omega)
  | .ne => ne_ok (by omega)
  | .lt => by
    intro pins s σ H x y v u Q I rx ry ⟨F, d, e, r, sF, hd, he, hr, q⟩
    obtain ⟨i, j, rfl, rfl, rfl⟩ := ltI_inv hr
    obtain rfl := hd.of_int
    obtain rfl := he.of_int
    exact op_lt pins s σ H _ _ v u Q I rx ry ⟨i, j, rfl, rfl, q⟩
  | .le => by
    intro pins s σ H x y v u Q I rx ry ⟨F, d, e, r, sF, hd, he, hr, q⟩
    obtain ⟨i, j, rfl, rfl, rfl⟩ := ltI_inv hr
    obtain rfl := hd.of_int
    obtain rfl := he.of_int
    exact op_le pins s σ H _ _ v u Q I rx ry ⟨i, j, rfl, rfl, q⟩
  | .gt => by
    intro pins s σ H x y v u Q I rx ry ⟨F, d, e, r, sF, hd, he, hr, q⟩
    obtain ⟨i, j, rfl, rfl, rfl⟩ := ltI_inv hr
    obtain rfl := hd.of_int
    obtain rfl := he.of_int
    exact op_gt pins s σ H _ _ v u Q I rx ry ⟨i, j, rfl, rfl, q⟩
  | .ge => by
    intro pins s σ H x y v u Q I rx ry ⟨F, d, e, r, sF, hd, he, hr, q⟩
    obtain ⟨i, j, rfl, rfl, rfl⟩ := ltI_inv hr
    obtain rfl := hd.of_int
    obtain rfl := he.of_int
    exact op_ge pins s σ H _ _ v u Q I rx ry ⟨i, j, rfl, rfl, q⟩
  | .isin => in_ok hu
  | .notin => notin_ok hu
  | .is => is_ok
  | .isnot => isnot_ok
end
end Ev
namespace Ev
open PySem PySem.Spec PyProof.Rows L2

/-! ### the frame and its slots -/
def Owned (env : Env) (σ : L2.St) (a : Addr) : Prop := ∃ i, (env.at i).mine = true ∧ σ[i]? = some (some (.ref a))
/-- H0: the heap at the entry; bs: the caller's list, by the slot that holds it; F: what stands still -/
structure Rel (K : PySem.W.Frag) (c : RC) (H0 : Hp) (bs : List (Nat × Addr)) (env : Env) (F : Hp) (σ : L2.St) (H : Hp) : Prop where
  sub : Sub F H
  len : env.length = σ.length
  val : ∀ i d, env.at i = .val d → ∃ v, σ[i]? = some (some v) ∧ Rep K c F d v
  own : ∀ i d, env.at i = .own d → ∃ a o, σ[i]? = some (some (.ref a)) ∧ H a = some o ∧ RepO K c F d o ∧ F a = none ∧ H0 a = none
  byr : ∀ i d, env.at i = .byr d → ∃ a o, σ[i]? = some (some (.ref a)) ∧ H a = some o ∧ RepO K c F d o ∧ F a = none ∧ (i, a) ∈ bs
  dist : ∀ i j a, (env.at i).mine = true → (env.at j).mine = true → σ[i]? = some (some (.ref a)) → σ[j]? = some (some (.ref a)) → i = j
  ext : ∀ a o, H0 a = some o → (∀ i, (i, a) ∉ bs) → H a = some o
  th : ∀ a o, H0 a = some o → ∃ u, H a = some u
/-- one expression's way: the slots stay, what stands stays -/
structure Stp (σ : L2.St) (env : Env) (F H : Hp) (env' : Env) (F' H' : Hp) : Prop where
  fsub : Sub F F'
  keep : ∀ a o, H a = some o → ¬ Owned env σ a → H' a = some o
  grow : ∀ a o, F' a = some o → F a = some o ∨ H a = none ∨ Owned env σ a
  owns : ∀ i, (env'.at i).mine = true → (env.at i).mine = true
  th : ∀ a o, H a = some o → ∃ u, H' a = some u
theorem Stp.refl {σ : L2.St} {env : Env} {F H : Hp} : Stp σ env F H env F H := ⟨Sub.refl _, fun _ _ h _ => h, fun _ _ h => .inl h, fun _ h => h, fun _ o h => ⟨o, h⟩⟩
theorem Stp.back {σ : L2.St} {env env' : Env} {F H F' H' : Hp} (s : Stp σ env F H env' F' H') {a : Addr} (h : H' a = none) : H a = none := by
  cases q : H a with
  | none => rfl
  | some o => obtain ⟨u, e⟩ := s.th a o q; rw [h] at e; cases e
theorem Stp.owned {σ : L2.St} {env env' : Env} {F H F' H' : Hp} (s : Stp σ env F H env' F' H') {a : Addr} (h : Owned env' σ a) : Owned env σ a :=
  let ⟨i, h1, h2⟩ := h; ⟨i, s.owns i h1, h2⟩
theorem Stp.trans {σ : L2.St} {env env1 env2 : Env} {F H F1 H1 F2 H2 : Hp} (a : Stp σ env F H env1 F1 H1) (b : Stp σ env1 F1 H1 env2 F2 H2) : Stp σ env F H env2 F2 H2 where
  fsub := a.fsub.trans b.fsub
  keep := fun x o h n => b.keep x o (a.keep x o h n) fun z => n (a.owned z)
  grow := fun x o h => by
    rcases b.grow x o h with h | h | h
    · exact a.grow x o h
    · by_cases n : Owned env σ x
      · exact .inr (.inr n)
      · cases e : H x with
        | none => exact .inr (.inl rfl)
        | some u => rw [a.keep x u e n] at h; cases h
    · exact .inr (.inr (a.owned h))
  owns := fun i h => a.owns i (b.owns i h)
  th := fun x o h => let ⟨u, e⟩ := a.th x o h; b.th x u e
/-- what an expression handed on; Hs: the heap ahead of it -/
def RelR (K : PySem.W.Frag) (c : RC) (Hs : Hp) (env : Env) (F : Hp) (σ : L2.St) (H : Hp) : R → V → Prop
  | .val d, v => Rep K c F d v
  | .tmp d, v => ∃ a o, v = .ref a ∧ H a = some o ∧ RepO K c F d o ∧ F a = none ∧ Hs a = none ∧ ¬ Owned env σ a
  | .var i, v => σ[i]? = some (some v)
theorem Env.at_set {e : Env} {i j : Nat} {s : Sl} (hi : i < e.length) : Env.at (e.set i s) j = if i = j then s else e.at j := by
  unfold Env.at
  rw [List.getD_eq_getElem?_getD, List.getElem?_set, List.getD_eq_getElem?_getD]
  by_cases h : i = j
  · subst h; simp [hi]
  · simp [h]
theorem Env.at_set' {e : Env} {i j : Nat} {s : Sl} : Env.at (e.set i s) j = if i = j ∧ i < e.length then s else e.at j := by
  by_cases hi : i < e.length
  · rw [Env.at_set hi]; simp [hi]
  · rw [List.set_eq_of_length_le (by omega)]; simp [hi]
theorem Env.at_lt {e : Env} {i : Nat} (h : e.at i ≠ .no) : i < e.length := by
  rcases Nat.lt_or_ge i e.length with q | q
  · exact q
  · exfalso; apply h; unfold Env.at; rw [List.getD_eq_getElem?_getD, List.getElem?_eq_none_iff.mpr q]; rfl

section
variable {K : PySem.W.Frag} {c : RC} {H0 Hs : Hp} {bs : List (Nat × Addr)} {env env' env1 env2 : Env} {F F' F1 F2 H H' H1 H2 : Hp} {σ : L2.St} {r : R} {v : V} {d : D}
/-- a later expression leaves what an earlier one handed on -/
theorem RelR.step (s : Stp σ env F H env' F' H') (h : RelR K c Hs env F σ H r v) : RelR K c Hs env' F' σ H' r v := by
  cases r with
  | val d => exact Rep.sub s.fsub h
  | tmp d =>
    obtain ⟨a, o, rfl, h1, h2, h3, h4, h5⟩ := h
    refine ⟨a, o, rfl, s.keep a o h1 h5, h2.sub s.fsub, ?_, h4, fun z => h5 (s.owned z)⟩
    cases q : F' a with
    | none => rfl
    | some u =>
      rcases s.grow a u q with z | z | z
      · rw [h3] at z; cases z
      · rw [h1] at z; cases z
      · exact absurd z h5
  | var i => exact h
/-- read only -/
theorem Rel.peek (R : Rel K c H0 bs env F σ H) (h : RelR K c Hs env F σ H r v) (e : peek r env = some d) : RepP K c F H d v := by
  cases r with
  | val d => cases e; exact .inl h
  | tmp d =>
    cases e
    obtain ⟨a, o, rfl, h1, h2, _⟩ := h
    exact .inr ⟨a, o, rfl, h1, h2⟩
  | var i =>
    have h1 : σ[i]? = some (some v) := h
    have e' : (env.at i).con = some d := e
    cases q : env.at i with
    | no => rw [q] at e'; cases e'
    | val x =>
      rw [q] at e'; cases e'
      obtain ⟨w, g1, g2⟩ := R.val i _ q
      rw [h1] at g1; cases g1
      exact .inl g2
    | own x =>
      rw [q] at e'; cases e'
      obtain ⟨a, o, g1, g2, g3, _⟩ := R.own i _ q
      rw [h1] at g1; cases g1
      exact .inr ⟨a, o, rfl, g2, g3⟩
    | byr x =>
      rw [q] at e'; cases e'
      obtain ⟨a, o, g1, g2, g3, _⟩ := R.byr i _ q
      rw [h1] at g1; cases g1
      exact .inr ⟨a, o, rfl, g2, g3⟩
/-- a list of one's own stands still from now on -/
theorem rep_of_o {a : Addr} {o : HO} (h : RepO K c F d o) (hF : F a = none) : Rep K c (upd F a o) d (.ref a) := by
  obtain ⟨ds, vs, rfl, rfl, r, l⟩ := h.lst
  exact .lst upd_same (r.sub (sub_upd hF)) l
theorem Rel.freeze (R : Rel K c H0 bs env F σ H) {a : Addr} {o : HO} (ha : H a = some o) (hF : F a = none) (no : ¬ Owned env σ a) : Rel K c H0 bs env (upd F a o) σ H := by
  have s : Sub F (upd F a o) := sub_upd hF
  have ne : ∀ b i, (env.at i).mine = true → σ[i]? = some (some (.ref b)) → b ≠ a := fun b i h1 h2 e => no ⟨i, h1, e ▸ h2⟩
  refine ⟨fun b u h => ?_, R.len, fun i d q => ?_, fun i d q => ?_, fun i d q => ?_, R.dist, R.ext, R.th⟩
  · by_cases e : b = a
    · subst e; rw [upd_same] at h; cases h; exact ha
    · rw [upd_ne e] at h; exact R.sub b u h
  · obtain ⟨w, g1, g2⟩ := R.val i d q
    exact ⟨w, g1, g2.sub s⟩
  · obtain ⟨b, u, g1, g2, g3, g4, g5⟩ := R.own i d q
    exact ⟨b, u, g1, g2, g3.sub s, by rw [upd_ne (ne b i (by rw [q]; rfl) g1)]; exact g4, g5⟩
  · obtain ⟨b, u, g1, g2, g3, g4, g5⟩ := R.byr i d q
    exact ⟨b, u, g1, g2, g3.sub s, by rw [upd_ne (ne b i (by rw [q]; rfl) g1)]; exact g4, g5⟩
theorem Rel.lt (R : Rel K c H0 bs env F σ H) {i : Nat} (h : env.at i ≠ .no) : i < σ.length := R.len ▸ Env.at_lt h
/-- a slot loses its list: it stands still from now on -/
theorem Rel.leak (R : Rel K c H0 bs env F σ H) {i : Nat} {a : Addr} {o : HO} (q : env.at i = .own d) (g1 : σ[i]? = some (some (.ref a))) (g2 : H a = some o) (g3 : RepO K c F d o) (g4 : F a = none) :
    Rel K c H0 bs (env.set i (.val d)) (upd F a o) σ H ∧ Stp σ env F H (env.set i (.val d)) (upd F a o) H ∧ Rep K c (upd F a o) d (.ref a) := by
  have hi : i < env.length := Env.at_lt (by rw [q]; intro z; cases z)
  have at' : ∀ j, Env.at (env.set i (.val d)) j = if i = j then .val d else env.at j := fun j => Env.at_set hi
  have s : Sub F (upd F a o) := sub_upd g4
  have mi : ∀ j, (Env.at (env.set i (.val d)) j).mine = true → i ≠ j ∧ (env.at j).mine = true := fun j h => by
    rw [at'] at h
    by_cases e : i = j
    · rw [if_pos e] at h; cases h
    · rw [if_neg e] at h; exact ⟨e, h⟩
  have ne : ∀ b j, i ≠ j → (env.at j).mine = true → σ[j]? = some (some (.ref b)) → b ≠ a := fun b j hj h1 h2 e => by
    subst e
    exact hj (R.dist i j _ (by rw [q]; rfl) h1 g1 h2)
  refine ⟨⟨fun b u h => ?_, by rw [List.length_set]; exact R.len, fun j x z => ?_, fun j x z => ?_, fun j x z => ?_, fun j k b h1 h2 h3 h4 => ?_, R.ext, R.th⟩, ⟨s, fun _ _ h _ => h, fun b u h => ?_, fun j h => (mi j h).2, fun _ o h => ⟨o, h⟩⟩, rep_of_o g3 g4⟩
  · by_cases e : b = a
    · subst e; rw [upd_same] at h; cases h; exact g2
    · rw [upd_ne e] at h; exact R.sub b u h
  · rw [at'] at z
    by_cases e : i = j
    · subst e; rw [if_pos rfl] at z; cases z
      exact ⟨_, g1, rep_of_o g3 g4⟩
    · rw [if_neg e] at z
      obtain ⟨w, k1, k2⟩ := R.val j x z
      exact ⟨w, k1, k2.sub s⟩
  · rw [at'] at z
    by_cases e : i = j
    · subst e; rw [if_pos rfl] at z; cases z
    · rw [if_neg e] at z
      obtain ⟨b, u, k1, k2, k3, k4, k5⟩ := R.own j x z
      exact ⟨b, u, k1, k2, k3.sub s, by rw [upd_ne (ne b j e (by rw [z]; rfl) k1)]; exact k4, k5⟩
  · rw [at'] at z
    by_cases e : i = j
    · subst e; rw [if_pos rfl] at z; cases z
    · rw [if_neg e] at z
      obtain ⟨b, u, k1, k2, k3, k4, k5⟩ := R.byr j x z
      exact ⟨b, u, k1, k2, k3.sub s, by rw [upd_ne (ne b j e (by rw [z]; rfl) k1)]; exact k4, k5⟩
  · exact R.dist j k b (mi j h1).2 (mi k h2).2 h3 h4
  · by_cases e : b = a
    · subst e; exact .inr (.inr ⟨i, by rw [q]; rfl, g1⟩)
    · rw [upd_ne e] at h; exact .inl h
/-- handed on as a value -/
theorem Rel.asVal' {envs : Env} {Fs : Hp} (R : Rel K c H0 bs env F σ H) (S : Stp σ envs Fs Hs env F H) (h : RelR K c Hs env F σ H r v) (e : asVal r env = some (d, env')) :
    ∃ F', Rel K c H0 bs env' F' σ H ∧ Stp σ envs Fs Hs env' F' H ∧ Rep K c F' d v ∧ Sub F F' ∧ (∀ r' v', RelR K c Hs env F σ H r' v' → (∀ d d', r = .tmp d → r' = .tmp d' → v ≠ v') → RelR K c Hs env' F' σ H r' v') ∧
      (∀ j, j < env.length → (env.at j).mine = true → (env'.at j) = env.at j ∨ (∃ x, env.at j = .own x ∧ env'.at j = .val x)) ∧ (∀ j, (env.at j).mine = false → env'.at j = env.at j) := by
  cases r with
  | val d => cases e; exact ⟨F, R, S, h, Sub.refl _, fun _ _ q _ => q, fun _ _ _ => .inl rfl, fun _ _ => rfl⟩
  | tmp d =>
    cases e
    obtain ⟨a, o, rfl, h1, h2, h3, h4, h5⟩ := h
    refine ⟨_, R.freeze h1 h3 h5, ⟨S.fsub.trans (sub_upd h3), S.keep, fun b u q => ?_, S.owns, S.th⟩, rep_of_o h2 h3, sub_upd h3, fun r' v' q ne => ?_, fun _ _ _ => .inl rfl, fun _ _ => rfl⟩
    · by_cases z : b = a
      · subst z; exact .inr (.inl h4)
      · rw [upd_ne z] at q; exact S.grow b u q
    · cases r' with
      | val x => exact Rep.sub (sub_upd h3) q
      | tmp x =>
        obtain ⟨b, u, rfl, g1, g2, g3, g4, g5⟩ := q
        refine ⟨b, u, rfl, g1, g2.sub (sub_upd h3), ?_, g4, g5⟩
        rw [upd_ne (fun z => ne d x rfl rfl (by rw [z]))]
        exact g3
      | var i => exact q
  | var i =>
    have h1 : σ[i]? = some (some v) := h
    have e' : (match env.at i with | .val d => some (d, env) | .own d => some (d, env.set i (.val d)) | _ => none) = some (d, env') := e
    cases q : env.at i with
    | no => rw [q] at e'; cases e'
    | byr x => rw [q] at e'; cases e'
    | val x =>
      rw [q] at e'; cases e'
      obtain ⟨w, g1, g2⟩ := R.val i _ q
      rw [h1] at g1; cases g1
      exact ⟨F, R, S, g2, Sub.refl _, fun _ _ q _ => q, fun _ _ _ => .inl rfl, fun _ _ => rfl⟩
    | own x =>
      rw [q] at e'; cases e'
      obtain ⟨a, o, g1, g2, g3, g4, g5⟩ := R.own i _ q
      rw [h1] at g1; cases g1
      obtain ⟨k1, k2, k3⟩ := R.leak q h1 g2 g3 g4
      have hi : i < env.length := Env.at_lt (by rw [q]; intro z; cases z)
      refine ⟨_, k1, S.trans k2, k3, k2.fsub, fun r' v' z _ => RelR.step k2 z, fun j hj hm => ?_, fun j hm => ?_⟩
      · rw [Env.at_set hi]
        by_cases z : i = j
        · subst z; rw [if_pos rfl]; exact .inr ⟨_, q, rfl⟩
        · rw [if_neg z]; exact .inl rfl
      · rw [Env.at_set hi]
        by_cases z : i = j
        · subst z; rw [q] at hm; cases hm
        · rw [if_neg z]
theorem Rel.asVal {envs : Env} {Fs : Hp} (R : Rel K c H0 bs env F σ H) (S : Stp σ envs Fs Hs env F H) (h : RelR K c Hs env F σ H r v) (e : asVal r env = some (d, env')) :
    ∃ F', Rel K c H0 bs env' F' σ H ∧ Stp σ envs Fs Hs env' F' H ∧ Rep K c F' d v :=
  let ⟨F', a, b, c, _⟩ := R.asVal' S h e; ⟨F', a, b, c⟩
end
end Ev
namespace Ev
open PySem PySem.Spec PyProof.Rows L2

/-- what is told of the frame around a text -/
structure Gh where
  c : RC
  H0 : Hp
  bs : List (Nat × Addr)
  W : WX
  T : Tab
  call : Call
abbrev RelG (K : PySem.W.Frag) (g : Gh) (env : Env) (F : Hp) (σ : L2.St) (H : Hp) : Prop := Rel K g.c g.H0 g.bs env F σ H
def Keep (σ : L2.St) (env : Env) (H H' : Hp) : Prop := ∀ a o, H a = some o → ¬ Owned env σ a → H' a = some o
/-- an error leaves -/
def PostX (K : PySem.W.Frag) (g : Gh) (σ : L2.St) (env : Env) (F H : Hp) (k : Nat) (d : D) : Prop :=
  ∀ (dx : Addr) (w : V) (F' H' : Hp), Sub F F' → Sub F' H' → Keep σ env H H' → H' dx = some (.xd [("value", w)]) → Rep K g.c F' d w → g.W (.ref (g.c.ca k)) (some dx) σ H'
def PostOf {α β : Type} (K : PySem.W.Frag) (g : Gh) (σ : L2.St) (env : Env) (F H : Hp) (rel : α → Env → Hp → Hp → β → Prop) (res : Res (α × Env)) (Q : β → Hp → Prop) : Prop :=
  match res with
  | .ok p => ∀ (v : β) (F' H' : Hp), RelG K g p.2 F' σ H' → Stp σ env F H p.2 F' H' → rel p.1 p.2 F' H' v → Q v H'
  | .exc k d => PostX K g σ env F H k d
  | .bad => False
abbrev Post (K : PySem.W.Frag) (g : Gh) (σ : L2.St) (env : Env) (F H : Hp) : Res (R × Env) → (V → Hp → Prop) → Prop :=
  PostOf K g σ env F H fun r e F' H' v => RelR K g.c H e F' σ H' r v
abbrev PostT (K : PySem.W.Frag) (g : Gh) (σ : L2.St) (env : Env) (F H : Hp) : Res (Bool × Env) → (Bool → Hp → Prop) → Prop :=
  PostOf K g σ env F H fun b _ _ _ v => b = v
inductive RelRs (K : PySem.W.Frag) (c : RC) (Hs : Hp) (env : Env) (F : Hp) (σ : L2.St) (H : Hp) : List R → List V → Prop
  | nil : RelRs K c Hs env F σ H [] []
  | cons {r : R} {v : V} {rs : List R} {vs : List V} : RelR K c Hs env F σ H r v → RelRs K c Hs env F σ H rs vs → (∀ (d : D) (j : Nat) (d' : D), r = R.tmp d → rs[j]? = some (R.tmp d') → vs[j]? ≠ some v) → RelRs K c Hs env F σ H (r :: rs) (v :: vs)
abbrev PostR (K : PySem.W.Frag) (g : Gh) (σ : L2.St) (env : Env) (F H : Hp) : Res (List R × Env) → (List V → Hp → Prop) → Prop :=
  PostOf K g σ env F H fun r e F' H' v => RelRs K g.c H e F' σ H' r v
abbrev PostD (K : PySem.W.Frag) (g : Gh) (σ : L2.St) (env : Env) (F H : Hp) : Res (List D × Env) → (List V → Hp → Prop) → Prop :=
  PostOf K g σ env F H fun r _ F' _ v => RepL K g.c F' r v
def ev (g : Gh) : E → Env → Res (R × Env) := evalE g.T.chg g.T.gval g.call
def tE (K : PySem.W.Frag) (g : Gh) (e : E) : TE := fun σ H Q => ∃ env F, RelG K g env F σ H ∧ Post K g σ env F H (ev g e env) Q
def tT (K : PySem.W.Frag) (g : Gh) (e : E) : TT := fun σ H Q => ∃ env F, RelG K g env F σ H ∧ PostT K g σ env F H (tst (ev g e env)) Q
def tB' (K : PySem.W.Frag) (g : Gh) (conj : Bool) (es : Es) : TT := fun σ H Q => ∃ env F, RelG K g env F σ H ∧ PostT K g σ env F H (evalB g.T.chg g.T.gval g.call conj es env) Q
def tRs (K : PySem.W.Frag) (g : Gh) (es : Es) : TA := fun σ H Q => ∃ env F, RelG K g env F σ H ∧ PostR K g σ env F H (evalRs g.T.chg g.T.gval g.call es env) Q
def tDs (K : PySem.W.Frag) (g : Gh) (es : Es) : TA := fun σ H Q => ∃ env F, RelG K g env F σ H ∧ PostD K g σ env F H (evalDs g.T.chg g.T.gval g.call es env) Q

theorem PE.mono {X : Cx} {e : Expr} {t t' : TE} (h : PE X e t) (m : ∀ σ H Q, t' σ H Q → t σ H Q) : PE X e t' := ⟨fun pins s σ H Q I q => h.run pins s σ H Q I (m σ H Q q)⟩
theorem PT.mono {X : Cx} {e : Expr} {t t' : TT} (h : PT X e t) (m : ∀ σ H Q, t' σ H Q → t σ H Q) : PT X e t' := ⟨fun pins s σ H Q I q => h.run pins s σ H Q I (m σ H Q q)⟩
theorem PW.mono {X : Cx} {e : Expr} {t t' : TT} (h : PW X e t) (m : ∀ σ H Q, t' σ H Q → t σ H Q) : PW X e t' := ⟨fun wh pins s σ H Q I q => h.run wh pins s σ H Q I (m σ H Q q)⟩
theorem PA.mono {X : Cx} {e : List Expr} {t t' : TA} (h : PA X e t) (m : ∀ σ H Q, t' σ H Q → t σ H Q) : PA X e t' := ⟨fun p pins s σ H Q I q => h.run p pins s σ H Q I (m σ H Q q)⟩
theorem PK.mono {X : Cx} {e : List Keyword} {t t' : TA} (h : PK X e t) (m : ∀ σ H Q, t' σ H Q → t σ H Q) : PK X e t' := ⟨fun p pins s σ H Q I q => h.run p pins s σ H Q I (m σ H Q q)⟩

section
variable {K : PySem.W.Frag} {g : Gh} {σ : L2.St} {env envs : Env} {F H Fs Hs F' H' : Hp}
theorem RelR.start {c : RC} {r : R} {v : V} {Fa : Hp} {enva : Env} (S : Stp σ envs Fs Hs enva Fa H) (h : RelR K c H env F σ H' r v) : RelR K c Hs env F σ H' r v := by
  cases r with
  | val d => exact h
  | tmp d =>
    obtain ⟨a, o, rfl, h1, h2, h3, h4, h5⟩ := h
    exact ⟨a, o, rfl, h1, h2, h3, S.back h4, h5⟩
  | var i => exact h
theorem PostX.from (S : Stp σ envs Fs Hs env F H) {k : Nat} {d : D} (h : PostX K g σ envs Fs Hs k d) : PostX K g σ env F H k d :=
  fun dx w F' H' s1 s2 kp h1 h2 => h dx w F' H' (S.fsub.trans s1) s2 (fun a o e n => kp a o (S.keep a o e n) fun z => n (S.owned z)) h1 h2
/-- one part, then the rest -/
theorem bindOf {α β γ δ : Type} {rel : α → Env → Hp → Hp → β → Prop} {rel2 : γ → Env → Hp → Hp → δ → Prop} {res : Res (α × Env)} {k : α × Env → Res (γ × Env)} {Q : δ → Hp → Prop} {Q' : β → Hp → Prop} (S : Stp σ envs Fs Hs env F H)
    (h : PostOf K g σ envs Fs Hs rel2 (res.bind k) Q)
    (hk : ∀ p v F1 H1, res = .ok p → RelG K g p.2 F1 σ H1 → Stp σ env F H p.2 F1 H1 → Stp σ envs Fs Hs p.2 F1 H1 → rel p.1 p.2 F1 H1 v → PostOf K g σ envs Fs Hs rel2 (k p) Q → Q' v H1) : PostOf K g σ env F H rel res Q' := by
  cases res with
  | ok p => exact fun v F1 H1 R1 S1 r1 => hk p v F1 H1 rfl R1 S1 (S.trans S1) r1 h
  | exc c d => exact PostX.from S h
  | bad => exact h.elim
theorem tE_bind {e : E} {γ δ : Type} {rel2 : γ → Env → Hp → Hp → δ → Prop} {k : R × Env → Res (γ × Env)} {Q : δ → Hp → Prop} {Q' : V → Hp → Prop} (R : RelG K g env F σ H) (S : Stp σ envs Fs Hs env F H)
    (h : PostOf K g σ envs Fs Hs rel2 ((ev g e env).bind k) Q)
    (hk : ∀ p v F1 H1, RelG K g p.2 F1 σ H1 → Stp σ env F H p.2 F1 H1 → Stp σ envs Fs Hs p.2 F1 H1 → RelR K g.c Hs p.2 F1 σ H1 p.1 v → PostOf K g σ envs Fs Hs rel2 (k p) Q → Q' v H1) : tE K g e σ H Q' :=
  ⟨env, F, R, bindOf S h fun p v F1 H1 _ R1 S1 S2 r1 h1 => hk p v F1 H1 R1 S1 S2 (RelR.start S r1) h1⟩
theorem tT_bind {e : E} {γ δ : Type} {rel2 : γ → Env → Hp → Hp → δ → Prop} {k : Bool × Env → Res (γ × Env)} {Q : δ → Hp → Prop} {Q' : Bool → Hp → Prop} (R : RelG K g env F σ H) (S : Stp σ envs Fs Hs env F H)
    (h : PostOf K g σ envs Fs Hs rel2 ((tst (ev g e env)).bind k) Q)
    (hk : ∀ p F1 H1, RelG K g p.2 F1 σ H1 → Stp σ envs Fs Hs p.2 F1 H1 → PostOf K g σ envs Fs Hs rel2 (k p) Q → Q' p.1 H1) : tT K g e σ H Q' :=
  ⟨env, F, R, bindOf S h fun p v F1 H1 _ R1 S1 S2 r1 h1 => r1 ▸ hk p F1 H1 R1 S2 h1⟩
/-- new things beside what there was -/
theorem Rel.more {c : RC} {H0 : Hp} {bs : List (Nat × Addr)} (R : Rel K c H0 bs env F σ H) (s1 : Sub F F') (s2 : Sub H H') (s3 : Sub F' H') (gr : ∀ a o, F' a = some o → F a = some o ∨ H a = none) : Rel K c H0 bs env F' σ H' where
  sub := s3
  len := R.len
  val := fun i d q => let ⟨v, g1, g2⟩ := R.val i d q; ⟨v, g1, g2.sub s1⟩
  own := fun i d q => by
    obtain ⟨a, o, g1, g2, g3, g4, g5⟩ := R.own i d q
    refine ⟨a, o, g1, s2 _ _ g2, g3.sub s1, ?_, g5⟩
    cases e : F' a with
    | none => rfl
    | some u => rcases gr a u e with z | z
                · rw [g4] at z; cases z
                · rw [g2] at z; cases z
  byr := fun i d q => by
    obtain ⟨a, o, g1, g2, g3, g4, g5⟩ := R.byr i d q
    refine ⟨a, o, g1, s2 _ _ g2, g3.sub s1, ?_, g5⟩
    cases e : F' a with
    | none => rfl
    | some u => rcases gr a u e with z | z
                · rw [g4] at z; cases z
                · rw [g2] at z; cases z
  dist := R.dist
  ext := fun a o h n => s2 _ _ (R.ext a o h n)
  th := fun a o h => let ⟨u, e⟩ := R.th a o h; ⟨u, s2 _ _ e⟩
theorem Stp.more (S : Stp σ envs Fs Hs env F H) (s1 : Sub F F') (s2 : Sub H H') (gr : ∀ a o, F' a = some o → F a = some o ∨ H a = none) : Stp σ envs Fs Hs env F' H' where
  fsub := S.fsub.trans s1
  keep := fun a o h n => s2 _ _ (S.keep a o h n)
  grow := fun a o h => by
    rcases gr a o h with z | z
    · exact S.grow a o z
    · exact .inr (.inl (S.back z))
  owns := S.owns
  th := fun a o h => let ⟨u, e⟩ := S.th a o h; ⟨u, s2 _ _ e⟩
theorem Rel.owned_some {c : RC} {H0 : Hp} {bs : List (Nat × Addr)} (R : Rel K c H0 bs env F σ H) {a : Addr} (h : Owned env σ a) : ∃ o, H a = some o := by
  obtain ⟨i, h1, h2⟩ := h
  cases q : env.at i with
  | no => rw [q] at h1; cases h1
  | val d => rw [q] at h1; cases h1
  | own d =>
    obtain ⟨b, o, g1, g2, _⟩ := R.own i d q
    rw [h2] at g1; cases g1; exact ⟨o, g2⟩
  | byr d =>
    obtain ⟨b, o, g1, g2, _⟩ := R.byr i d q
    rw [h2] at g1; cases g1; exact ⟨o, g2⟩
theorem Post.out {r : R} {Q : V → Hp → Prop} (R : RelG K g env F σ H) (S : Stp σ envs Fs Hs env F H) (h : Post K g σ envs Fs Hs (.ok (r, env)) Q) (nv : ∀ i, r ≠ .var i) : Out K g.c F H Q r := by
  cases r with
  | val d => exact fun v F' H' s1 s2 s3 gr rr => h v F' H' (R.more s1 s2 s3 gr) (S.more s1 s2 gr) rr
  | tmp d =>
    refine fun a o H' s2 hn ha ho => h (.ref a) F H' (R.more (Sub.refl _) s2 (R.sub.trans s2) fun _ _ z => .inl z) (S.more (Sub.refl _) s2 fun _ _ z => .inl z) ⟨a, o, rfl, ha, ho, ?_, S.back hn, fun z => ?_⟩
    · cases e : F a with
      | none => rfl
      | some u => rw [R.sub a u e] at hn; cases hn
    · obtain ⟨u, e⟩ := R.owned_some z
      rw [hn] at e; cases e
  | var i => exact absurd rfl (nv i)
end

/-! ### what the rules want of the texts -/
/-- the names, the scope, which names may be stored to -/
structure Ck where
  N : List Str
  sc : Scope
  st : Str → Bool
def visB (sc : Scope) (x : Str) : Bool := match sc.names.lookup x with
  | some .local => true
  | some .cell => true
  | some .free => true
  | _ => false
def glB (sc : Scope) (x : Str) : Bool := match sc.names.lookup x with
  | some .globalImplicit => true
  | _ => false
def locB (sc : Scope) (x : Str) : Bool := match sc.names.lookup x with
  | some .local => true
  | some .cell => true
  | _ => false
def okName (x : Str) : Bool := !(x == ("__debug__" : Str)) && !(x == ("__classdict__" : Str))
def Ck.inner (ck : Ck) (scope : Scope) : Ck := ⟨ck.N, relS scope ck.sc, locB scope⟩
theorem visB_ok {sc : Scope} {x : Str} (h : visB sc x = true) : Vis sc x := by
  unfold visB at h
  split at h <;> first | exact .inl (by assumption) | exact .inr (.inl (by assumption)) | exact .inr (.inr (by assumption)) | cases h
theorem glB_ok {sc : Scope} {x : Str} (h : glB sc x = true) : sc.names.lookup x = some .globalImplicit := by
  unfold glB at h
  split at h <;> first | assumption | cases h
theorem locB_ok {sc : Scope} {x : Str} (h : locB sc x = true) : sc.names.lookup x = some .local ∨ sc.names.lookup x = some .cell := by
  unfold locB at h
  split at h <;> first | exact .inl (by assumption) | exact .inr (by assumption) | cases h
theorem okName_ok {x : Str} (h : okName x = true) : (x == ("__debug__" : Str)) = false ∧ (x == ("__classdict__" : Str)) = false := by
  unfold okName at h
  rw [Bool.and_eq_true, Bool.not_eq_true', Bool.not_eq_true'] at h
  exact h
/-- a promise of a def by what the text is worth -/
def FPost (K : PySem.W.Frag) (c : RC) (F H : Hp) (m : Option Nat) (vs : List V) (res : Res (R × Option D)) (Q : VK) (E : XK) : Prop :=
  match res with
  | .ok p => ∀ (v : V) (F' H' : Hp), Sub F F' → Sub F' H' → (∀ a o, H a = some o → (∀ k, m = some k → vs[k]? ≠ some (.ref a)) → H' a = some o) → (∀ a o, H a = some o → ∃ u, H' a = some u) →
      (∀ a o, F' a = some o → F a = some o ∨ H a = none) →
      (∀ k a, m = some k → vs[k]? = some (.ref a) → ∃ d o, p.2 = some d ∧ H' a = some o ∧ RepO K c F' d o ∧ F' a = none) →
      (match p.1 with
       | .val d => Rep K c F' d v
       | .tmp d => ∃ a o, v = .ref a ∧ H' a = some o ∧ RepO K c F' d o ∧ F' a = none ∧ H a = none
       | .var _ => False) → Q v H'
  | .exc k d => ∀ (dx : Addr) (w : V) (F' H' : Hp), Sub F F' → Sub F' H' → (∀ a o, H a = some o → (∀ k, m = some k → vs[k]? ≠ some (.ref a)) → H' a = some o) → H' dx = some (.xd [("value", w)]) → Rep K c F' d w → E (.ref (c.ca k)) (some dx) H'
  | .bad => False
def ArgOk (K : PySem.W.Frag) (c : RC) (F H : Hp) (changed : Bool) (d : D) (v : V) : Prop :=
  if changed then ∃ a o, v = .ref a ∧ H a = some o ∧ RepO K c F d o ∧ F a = none else Rep K c F d v
def spF (K : PySem.W.Frag) (c : RC) (call : Call) (np : Nat) (f : Nat) (m : Option Nat) : Sp := fun vs H Q E => ∃ (F : Hp) (ds : List D), Sub F H ∧ ds.length = np ∧ vs.length = np ∧
  (∀ i d v, ds[i]? = some d → vs[i]? = some v → ArgOk K c F H (decide (m = some i)) d v) ∧ FPost K c F H m vs (call f ds) Q E
/-- parameters without a default, nothing else -/
structure Plain (fd : FuncData) (ps : List Str) : Prop where
  posonly : fd.params.posonlyargs = []
  args : fd.params.args.map (·.arg) = ps
  vararg : fd.params.vararg = none
  kwonly : fd.params.kwonlyargs = []
  kwarg : fd.params.kwarg = none
  defaults : fd.defaults = .none
  nd : ps.Nodup
def builtinNames : List Str := ["len", "int", "max", "min", "sum", "list", "tuple", "abs", "all", "any", "range", "enumerate", "zip", "isinstance", "bool", "str"]
structure ProgOk (T : Tab) (P : Program) (w : World) (K : PySem.W.Frag) (mg : Str → Option Value) (base : Heap) (c : RC) (k : Nat) (call : Call) : Prop where
  fns : ∀ f fd, T.fn f = some fd → mg (T.fname f) = some (.ref (c.fa f)) ∧ PySem.W.keepIn K (.ref (c.fa f)) = true ∧ (T.ps f).length = fd.np ∧
    ∃ fdt, Plain fdt (T.ps f) ∧ FnOk P w K mg base (CX P w) k (c.fa f) fdt (T.ps f) (spF K c call fd.np f fd.chg)
  free : ∀ x ∈ builtinNames, mg x = none
  cons : ∀ n d, T.gval n = some d → ∃ u v, mg (T.gname n) = some u ∧ RelV v u ∧ ∀ F, Rep K c F d v
structure Good (X : Cx) (g : Gh) (ck : Ck) (k : Nat) : Prop where
  N : X.N = ck.N
  sc : X.env.scope = ck.sc
  nd : ck.N.Nodup
  calm : X.calm = true
  st : ∀ x, ck.st x = true → Loc ck.sc x ∧ (X.fn x = true ∨ ck.sc.names.lookup x = some .local)
  room : Room k X.A
  pass : ∀ σ, PassesAt (CX X.prog X.w) X σ (WE g.W σ)
  prog : ProgOk g.T X.prog X.w X.K X.mg X.base g.c k g.call
end Ev
namespace Ev
open PySem PySem.Spec PyProof.Rows L2
section
variable {K : PySem.W.Frag} {g : Gh} {σ : L2.St} {env envs : Env} {F H Fs Hs F' H' : Hp}
theorem of_inv {α γ δ : Type} {rel : γ → Env → Hp → Hp → δ → Prop} {o : Option α} {k : α → Res (γ × Env)} {Q : δ → Hp → Prop} (h : PostOf K g σ env F H rel ((Res.of o).bind k) Q) : ∃ a, o = some a ∧ PostOf K g σ env F H rel (k a) Q := by
  cases o with
  | none => exact h.elim
  | some a => exact ⟨a, rfl, h⟩
theorem if_inv {p : Prop} [Decidable p] {γ δ : Type} {rel : γ → Env → Hp → Hp → δ → Prop} {r : Res (γ × Env)} {Q : δ → Hp → Prop} (h : PostOf K g σ env F H rel (if p then r else .bad) Q) : p ∧ PostOf K g σ env F H rel r Q := by
  by_cases q : p
  · rw [if_pos q] at h; exact ⟨q, h⟩
  · rw [if_neg q] at h; exact h.elim
end
section
variable {X : Cx} {g : Gh} {ck : Ck} {k : Nat} {pos : Pos}
theorem r_sl {i : Nat} {x : Str} (G : Good X g ck k) (hi : ck.N[i]? = some x) (hv : visB ck.sc x = true) (hn : okName x = true) : PE X (.Name x pos) (tE X.K g (.sl i)) := by
  refine PE.mono (pe_var (i := i) (by rw [G.N]; exact hi) (by rw [G.sc]; exact visB_ok hv) (okName_ok hn).1 (okName_ok hn).2) fun σ H Q ⟨env, F, R, h⟩ => ?_
  have h' : Post X.K g σ env F H (match env.at i with | .no => .bad | .val d => .ok (.val d, env) | _ => .ok (.var i, env)) Q := h
  cases q : env.at i with
  | no => rw [q] at h'; exact h'.elim
  | val d =>
    rw [q] at h'
    obtain ⟨v, g1, g2⟩ := R.val i d q
    exact ⟨v, g1, h' v F H R .refl g2⟩
  | own d =>
    rw [q] at h'
    obtain ⟨a, o, g1, g2, _⟩ := R.own i d q
    exact ⟨_, g1, h' (.ref a) F H R .refl g1⟩
  | byr d =>
    rw [q] at h'
    obtain ⟨a, o, g1, g2, _⟩ := R.byr i d q
    exact ⟨_, g1, h' (.ref a) F H R .refl g1⟩
def constB : D → Const → Bool
  | .non, .none => true
  | .bl b, .bool c => b == c
  | .int i, .int j => decide (i = j)
  | .str x, .str y => decide (y = ⟨x.toArray⟩) && x.all fun k => decide (k < 0x110000)
  | _, _ => false
theorem r_con {d : D} {co : Const} {j : Nat} (h : constB d co = true) : PE X (.Constant co j pos) (tE X.K g (.con d)) := by
  unfold constB at h
  split at h
  · exact PE.mono pe_non fun σ H Q ⟨env, F, R, q⟩ => q .non F H R .refl .non
  · rename_i b c
    obtain rfl : b = c := eq_of_beq h
    exact PE.mono pe_bl fun σ H Q ⟨env, F, R, q⟩ => q (.bl b) F H R .refl (.bl b)
  · rename_i a b
    obtain rfl : a = b := of_decide_eq_true h
    exact PE.mono pe_int fun σ H Q ⟨env, F, R, q⟩ => q (.int a) F H R .refl (.int a)
  · rename_i x y
    rw [Bool.and_eq_true] at h
    obtain rfl := of_decide_eq_true h.1
    exact PE.mono pe_str fun σ H Q ⟨env, F, R, q⟩ => q (.str _) F H R .refl (.str x h.2)
  · cases h
theorem r_gl {n : Nat} {x : Str} (G : Good X g ck k) (hx : g.T.gname n = x) (hg : glB ck.sc x = true) (hn : okName x = true) : PE X (.Name x pos) (tE X.K g (.gl n)) := by
  cases q : g.T.gval n with
  | none =>
    refine ⟨fun pins s σ H Q I ⟨env, F, R, h⟩ => ?_⟩
    have h' : Post X.K g σ env F H ((Res.of (g.T.gval n)).bind fun d => .ok (.val d, env)) Q := h
    rw [q] at h'
    exact h'.elim
  | some d =>
    obtain ⟨u, v, hm, r, rep⟩ := G.prog.cons n d q
    rw [hx] at hm
    refine PE.mono (pe_glob (v := v) (by show X.env.scope.names.lookup x = _; rw [G.sc]; exact glB_ok hg) hm r (okName_ok hn).1) fun σ H Q ⟨env, F, R, h⟩ => ?_
    have h' : Post X.K g σ env F H ((Res.of (g.T.gval n)).bind fun d => .ok (.val d, env)) Q := h
    rw [q] at h'
    exact h' v F H R .refl (rep F)
/-! ### operators -/
theorem nv_bop {o : BOp} {x y : D} {r : R} (h : bop o x y = some r) : ∀ i, r ≠ .var i := by
  intro i e
  subst e
  cases o <;> cases x <;> cases y <;> simp [bop, opAdd, opSub, opMul, opDiv, opMod, opPow] at h
theorem two {a b : E} {σ : L2.St} {H : Hp} {γ : Type} {δ : Type} {rel : γ → Env → Hp → Hp → δ → Prop} {env : Env} {F : Hp} {f : R × Env → R × Env → Res (γ × Env)} {Q : δ → Hp → Prop} {Q' : V → V → Hp → Prop} (R : RelG X.K g env F σ H)
    (h : PostOf X.K g σ env F H rel ((ev g a env).bind fun p => (ev g b p.2).bind fun q => f p q) Q)
    (hk : ∀ p q v w F2 H2, RelG X.K g q.2 F2 σ H2 → Stp σ env F H q.2 F2 H2 → (∀ x, peek p.1 q.2 = some x → RepP X.K g.c F2 H2 x v) → (∀ y, peek q.1 q.2 = some y → RepP X.K g.c F2 H2 y w) → PostOf X.K g σ env F H rel (f p q) Q → Q' v w H2) :
    tE X.K g a σ H fun x H1 => tE X.K g b σ H1 fun y H2 => Q' x y H2 :=
  tE_bind R .refl h fun p v F1 H1 R1 S1 S1' r1 h1 => tE_bind R1 S1' h1 fun q w F2 H2 R2 S2 S2' r2 h2 => by
    refine hk p q v w F2 H2 R2 S2' (fun x e => ?_) (fun y e => R2.peek r2 e) h2
    exact R2.peek (Hs := H) (RelR.step S2 r1) e
theorem r_op {o : BOp} {a b : E} {a' b' : Expr} (ha : PE X a' (tE X.K g a)) (hb : PE X b' (tE X.K g b)) : PE X (.BinOp a' (opOf o) b' pos) (tE X.K g (.op o a b)) := by
  refine PE.mono (pe_op (bop_ok (c := g.c) o) ha hb) fun σ H Q ⟨env, F, R, h⟩ => ?_
  refine two R h fun p q v w F2 H2 R2 S2 k1 k2 h2 => ?_
  split at h2
  · rename_i x y e1 e2
    obtain ⟨r, er, h3⟩ := of_inv h2
    exact ⟨F2, x, y, r, R2.sub, k1 x e1, k2 y e2, er, Post.out R2 S2 h3 (nv_bop er)⟩
  · exact h2.elim
theorem r_neg {a : E} {a' : Expr} (ha : PE X a' (tE X.K g a)) : PE X (.UnaryOp .USub a' pos) (tE X.K g (.neg a)) := by
  refine PE.mono (pe_un (neg_ok (c := g.c)) ha) fun σ H Q ⟨env, F, R, h⟩ => ?_
  refine tE_bind R .refl h fun p v F1 H1 R1 S1 S1' r1 h1 => ?_
  split at h1
  · rename_i x e
    obtain ⟨r, er, h3⟩ := of_inv h1
    refine ⟨F1, x, r, R1.sub, R1.peek r1 e, er, Post.out R1 S1' h3 fun i z => ?_⟩
    subst z
    cases x <;> simp [opNeg] at er
  · exact h1.elim
theorem r_cmp {o : COp} {a b : E} {a' b' : Expr} (hu : X.A.units + 65 < cLine) (ha : PE X a' (tE X.K g a)) (hb : PE X b' (tE X.K g b)) (hm : behindInMarks (copOf o) b' = false) : PE X (.Compare a' [copOf o] [b'] pos) (tE X.K g (.cmp o a b)) := by
  refine PE.mono (pe_cmpR (cop_ok (c := g.c) hu o) ha hb hm) fun σ H Q ⟨env, F, R, h⟩ => ?_
  refine two R h fun p q v w F2 H2 R2 S2 k1 k2 h2 => ?_
  split at h2
  · rename_i x y e1 e2
    obtain ⟨r, er, h3⟩ := of_inv h2
    exact ⟨F2, x, y, r, R2.sub, k1 x e1, k2 y e2, er, h3 _ F2 H2 R2 S2 (.bl r)⟩
  · exact h2.elim
/-- a test of a value that is a bool -/
theorem r_val {a : E} {a' : Expr} (ha : PE X a' (tE X.K g a)) (he : ∀ whole, isTrue a' X.env whole = (do let v ← whole; standAt a'.pos; holding [v] (truthy v))) : PT X a' (tT X.K g a) := by
  refine PT.mono (pt_val ha he) fun σ H Q ⟨env, F, R, h⟩ => ?_
  refine tE_bind R .refl h fun p v F1 H1 R1 S1 S1' r1 h1 => ?_
  split at h1
  · rename_i d e
    obtain ⟨b, eb, h3⟩ := of_inv h1
    cases d <;> simp [tru] at eb
    subst eb
    obtain rfl := (R1.peek r1 e).of_bl
    exact ⟨_, rfl, h3 _ F1 H1 R1 S1' rfl⟩
  · exact h1.elim
/-- a value from a test -/
theorem tst_bl {r : Res (Bool × Env)} : tst (r.bind fun p => .ok (R.val (.bl p.1), p.2)) = r := by
  cases r <;> rfl
theorem r_cmpT {o : COp} {a b : E} {a' b' : Expr} (hu : X.A.units + 65 < cLine) (ha : PE X a' (tE X.K g a)) (hb : PE X b' (tE X.K g b)) (hm : behindInMarks (copOf o) b' = false) : PT X (.Compare a' [copOf o] [b'] pos) (tT X.K g (.cmp o a b)) := by
  refine PT.mono (pt_cmpR (cop_ok (c := g.c) hu o) ha hb hm) fun σ H Q ⟨env, F, R, h⟩ => ?_
  have h' : PostT X.K g σ env F H ((ev g a env).bind fun p => (ev g b p.2).bind fun q => tst (match peek p.1 q.2, peek q.1 q.2 with
    | some x, some y => (Res.of (cop o x y)).bind fun r => .ok (.val (.bl r), q.2)
    | _, _ => .bad)) Q := by
    have e : tst (ev g (.cmp o a b) env) = (ev g a env).bind fun p => (ev g b p.2).bind fun q => tst (match peek p.1 q.2, peek q.1 q.2 with
      | some x, some y => (Res.of (cop o x y)).bind fun r => .ok (.val (.bl r), q.2)
      | _, _ => .bad) := by
      show tst ((ev g a env).bind fun p => (ev g b p.2).bind fun q => _) = _
      cases ev g a env with
      | ok p =>
        show tst ((ev g b p.2).bind fun q => _) = (ev g b p.2).bind fun q => _
        cases ev g b p.2 <;> rfl
      | exc _ _ => rfl
      | bad => rfl
    rw [← e]; exact h
  refine two R h' fun p q v w F2 H2 R2 S2 k1 k2 h2 => ?_
  split at h2
  · rename_i x y e1 e2
    cases er : cop o x y with
    | none => rw [er] at h2; exact h2.elim
    | some r =>
      rw [er] at h2
      exact ⟨F2, x, y, r, R2.sub, k1 x e1, k2 y e2, er, r, rfl, h2 _ F2 H2 R2 S2 rfl⟩
  · exact h2.elim
theorem r_not {a : E} {a' : Expr} (ha : PE X a' (tE X.K g a)) : PE X (.UnaryOp .Not a' pos) (tE X.K g (.not a)) := by
  refine PE.mono (pe_not ha) fun σ H Q ⟨env, F, R, h⟩ => ?_
  have h0 : Post X.K g σ env F H ((tst (ev g a env)).bind fun p => .ok (.val (.bl (!p.1)), p.2)) Q := h
  have h' : Post X.K g σ env F H ((ev g a env).bind fun p => (match peek p.1 p.2 with
    | some d => (Res.of (tru d)).bind fun b => .ok (b, p.2)
    | none => .bad : Res (Bool × Env)).bind fun p => .ok (.val (.bl (!p.1)), p.2)) Q := by
    unfold tst at h0
    cases q : ev g a env with
    | ok p => rw [q] at h0; exact h0
    | exc _ _ => rw [q] at h0; exact h0
    | bad => rw [q] at h0; exact h0
  refine tE_bind R .refl h' fun p v F1 H1 R1 S1 S1' r1 h1 => ?_
  split at h1
  · rename_i d e
    cases d <;> simp [tru, PostOf] at h1
    obtain rfl := (R1.peek r1 e).of_bl
    exact ⟨_, rfl, h1 _ F1 H1 R1 S1' (.bl _)⟩
  · exact h1.elim
theorem r_notT {a : E} {a' : Expr} (ha : PT X a' (tT X.K g a)) : PT X (.UnaryOp .Not a' pos) (tT X.K g (.not a)) := by
  refine PT.mono (pt_not ha) fun σ H Q ⟨env, F, R, h⟩ => ?_
  have h' : PostT X.K g σ env F H ((tst (ev g a env)).bind fun p => .ok (!p.1, p.2)) Q := by
    have e : tst (ev g (.not a) env) = (tst (ev g a env)).bind fun p => .ok (!p.1, p.2) := by
      show tst ((tst (ev g a env)).bind fun p => .ok (.val (.bl (!p.1)), p.2)) = _
      cases tst (ev g a env) <;> rfl
    rw [← e]; exact h
  exact tT_bind R .refl h' fun p F1 H1 R1 S1 h1 => h1 _ F1 H1 R1 S1 rfl
theorem r_ite {c a b : E} {c' a' b' : Expr} (hc : PT X c' (tT X.K g c)) (ha : PE X a' (tE X.K g a)) (hb : PE X b' (tE X.K g b)) : PE X (.IfExp c' a' b' pos) (tE X.K g (.ite c a b)) := by
  refine PE.mono (pe_ifExp hc ha hb) fun σ H Q ⟨env, F, R, h⟩ => ?_
  refine tT_bind R .refl h fun p F1 H1 R1 S1 h1 => ?_
  have h1' : Post X.K g σ env F H (if p.1 = true then ev g a p.2 else ev g b p.2) Q := h1
  cases q : p.1 with
  | true =>
    rw [q, if_pos rfl] at h1'
    rw [if_pos rfl]
    refine ⟨p.2, F1, R1, ?_⟩
    cases e : ev g a p.2 with
    | ok z => rw [e] at h1'; exact fun v F2 H2 R2 S2 r2 => h1' v F2 H2 R2 (S1.trans S2) (RelR.start S1 r2)
    | exc _ _ => rw [e] at h1'; exact PostX.from S1 h1'
    | bad => rw [e] at h1'; exact h1'.elim
  | false =>
    rw [q] at h1'
    rw [if_neg (by simp)] at h1' ⊢
    refine ⟨p.2, F1, R1, ?_⟩
    cases e : ev g b p.2 with
    | ok z => rw [e] at h1'; exact fun v F2 H2 R2 S2 r2 => h1' v F2 H2 R2 (S1.trans S2) (RelR.start S1 r2)
    | exc _ _ => rw [e] at h1'; exact PostX.from S1 h1'
    | bad => rw [e] at h1'; exact h1'.elim
end
end Ev
namespace Ev
open PySem PySem.Spec PyProof.Rows L2
section
variable {X : Cx} {g : Gh} {ck : Ck} {k : Nat} {pos : Pos}
/-! ### and, or -/
def mkB (p : Bool × Env) : Res (R × Env) := .ok (.val (.bl p.1), p.2)
def evB (g : Gh) (conj : Bool) : Es → Env → Res (Bool × Env) := evalB g.T.chg g.T.gval g.call conj
def tBv (K : PySem.W.Frag) (g : Gh) (conj : Bool) (es : Es) : TE := fun σ H Q => ∃ env F, RelG K g env F σ H ∧ Post K g σ env F H ((evB g conj es env).bind mkB) Q
def opB (conj : Bool) : BoolOp := if conj then .And else .Or
theorem evB_cons {conj : Bool} {a : E} {s : Bool} {r : Es} {e : Env} (h : r ≠ .nil) : evB g conj (.cons s a r) e = (tst (ev g a e)).bind fun p => if p.1 = conj then evB g conj r p.2 else .ok p := by
  cases r with
  | nil => exact absurd rfl h
  | cons s' a' r' => rfl
theorem tst_mk {r : Res (R × Env)} {β : Type} {k : Bool × Env → Res β} : (tst r).bind k = r.bind fun p => (match peek p.1 p.2 with
    | some d => (Res.of (tru d)).bind fun b => .ok (b, p.2)
    | none => .bad : Res (Bool × Env)).bind k := by
  cases r <;> rfl
theorem r_lg1 {conj s : Bool} {a : E} {a' : Expr} (ha : PE X a' (tE X.K g a)) : PE X (.BoolOp (opB conj) [a'] pos) (tBv X.K g conj (.cons s a .nil)) := by
  refine PE.mono (pe_one ha) fun σ H Q ⟨env, F, R, h⟩ => ?_
  have h' : Post X.K g σ env F H ((tst (ev g a env)).bind mkB) Q := h
  rw [tst_mk] at h'
  refine tE_bind R .refl h' fun p v F1 H1 R1 S1 S1' r1 h1 => ?_
  split at h1
  · rename_i d e
    cases d <;> simp [tru, PostOf] at h1
    obtain rfl := (R1.peek r1 e).of_bl
    exact h1 _ F1 H1 R1 S1' (.bl _)
  · exact h1.elim
theorem cont {K : PySem.W.Frag} {σ : L2.St} {env envs : Env} {F H Fs Hs : Hp} {res : Res (R × Env)} {Q : V → Hp → Prop} (S : Stp σ envs Fs Hs env F H) (h : Post K g σ envs Fs Hs res Q) : Post K g σ env F H res Q := by
  cases res with
  | ok z => exact fun v F2 H2 R2 S2 r2 => h v F2 H2 R2 (S.trans S2) (RelR.start S r2)
  | exc _ _ => exact PostX.from S h
  | bad => exact h.elim
theorem contT {K : PySem.W.Frag} {σ : L2.St} {env envs : Env} {F H Fs Hs : Hp} {res : Res (Bool × Env)} {Q : Bool → Hp → Prop} (S : Stp σ envs Fs Hs env F H) (h : PostT K g σ envs Fs Hs res Q) : PostT K g σ env F H res Q := by
  cases res with
  | ok z => exact fun v F2 H2 R2 S2 r2 => h v F2 H2 R2 (S.trans S2) r2
  | exc _ _ => exact PostX.from S h
  | bad => exact h.elim
theorem r_lgV {conj s : Bool} {a : E} {r : Es} {a' b' : Expr} {rest : List Expr} (hr : r ≠ .nil) (ha : PE X a' (tE X.K g a)) (hb : PE X (.BoolOp (opB conj) (b' :: rest) pos) (tBv X.K g conj r)) :
    PE X (.BoolOp (opB conj) (a' :: b' :: rest) pos) (tBv X.K g conj (.cons s a r)) := by
  have main : ∀ (σ : L2.St) (H : Hp) (Q : VK), tBv X.K g conj (.cons s a r) σ H Q → tE X.K g a σ H fun x H1 => ∃ c, x = .bl c ∧ if c = conj then tBv X.K g conj r σ H1 Q else Q (.bl c) H1 := by
    intro σ H Q ⟨env, F, R, h⟩
    rw [evB_cons hr] at h
    have h' : Post X.K g σ env F H ((tst (ev g a env)).bind fun p => (if p.1 = conj then evB g conj r p.2 else .ok p).bind mkB) Q := by
      cases q : tst (ev g a env) with
      | ok p => rw [q] at h; exact h
      | exc _ _ => rw [q] at h; exact h
      | bad => rw [q] at h; exact h
    rw [tst_mk] at h'
    refine tE_bind R .refl h' fun p v F1 H1 R1 S1 S1' r1 h1 => ?_
    split at h1
    · rename_i d e
      cases d with
      | bl c =>
        have h2 : Post X.K g σ env F H ((if c = conj then evB g conj r p.2 else .ok (c, p.2)).bind mkB) Q := h1
        obtain rfl := (R1.peek r1 e).of_bl
        refine ⟨c, rfl, ?_⟩
        by_cases z : c = conj
        · rw [if_pos z] at h2 ⊢
          exact ⟨p.2, F1, R1, cont S1' h2⟩
        · rw [if_neg z] at h2 ⊢
          exact h2 _ F1 H1 R1 S1' (.bl c)
      | _ => exact h1.elim
    · exact h1.elim
  cases conj with
  | true =>
    refine PE.mono (pe_and ha hb) fun σ H Q h => ?_
    obtain ⟨env, F, R, hp⟩ := main σ H Q h
    refine ⟨env, F, R, ?_⟩
    cases e : ev g a env with
    | ok p =>
      rw [e] at hp
      intro v F1 H1 R1 S1 r1
      obtain ⟨c, rfl, q⟩ := hp v F1 H1 R1 S1 r1
      refine ⟨c, rfl, ?_⟩
      cases c with
      | true => exact q
      | false => exact q
    | exc _ _ => rw [e] at hp; exact hp
    | bad => rw [e] at hp; exact hp
  | false =>
    refine PE.mono (pe_or ha hb) fun σ H Q h => ?_
    obtain ⟨env, F, R, hp⟩ := main σ H Q h
    refine ⟨env, F, R, ?_⟩
    cases e : ev g a env with
    | ok p =>
      rw [e] at hp
      intro v F1 H1 R1 S1 r1
      obtain ⟨c, rfl, q⟩ := hp v F1 H1 R1 S1 r1
      refine ⟨c, rfl, ?_⟩
      cases c with
      | true => exact q
      | false => exact q
    | exc _ _ => rw [e] at hp; exact hp
    | bad => rw [e] at hp; exact hp
theorem r_lgW1 {conj s : Bool} {a : E} {a' : Expr} (ha : PT X a' (tT X.K g a)) : PW X (.BoolOp (opB conj) [a'] pos) (tB' X.K g conj (.cons s a .nil)) := by
  cases conj with
  | true => exact PW.mono (pw_and1 ha) fun σ H Q h => h
  | false => exact PW.mono (pw_or1 ha) fun σ H Q h => h
theorem r_lgW {conj s : Bool} {a : E} {r : Es} {a' b' : Expr} {rest : List Expr} (hr : r ≠ .nil) (ha : PT X a' (tT X.K g a)) (hb : PW X (.BoolOp (opB conj) (b' :: rest) pos) (tB' X.K g conj r)) :
    PW X (.BoolOp (opB conj) (a' :: b' :: rest) pos) (tB' X.K g conj (.cons s a r)) := by
  have main : ∀ (σ : L2.St) (H : Hp) (Q : Bool → Hp → Prop), tB' X.K g conj (.cons s a r) σ H Q → tT X.K g a σ H fun c H1 => if c = conj then tB' X.K g conj r σ H1 Q else Q c H1 := by
    intro σ H Q ⟨env, F, R, h⟩
    have h' : PostT X.K g σ env F H ((tst (ev g a env)).bind fun p => if p.1 = conj then evB g conj r p.2 else .ok p) Q := by
      rw [← evB_cons hr]; exact h
    refine tT_bind R .refl h' fun p F1 H1 R1 S1 h1 => ?_
    by_cases z : p.1 = conj
    · rw [if_pos z] at h1 ⊢
      exact ⟨p.2, F1, R1, contT S1 h1⟩
    · rw [if_neg z] at h1 ⊢
      exact h1 p.1 F1 H1 R1 S1 rfl
  cases conj with
  | true =>
    refine PW.mono (pw_and ha hb) fun σ H Q h => ?_
    obtain ⟨env, F, R, hp⟩ := main σ H Q h
    refine ⟨env, F, R, ?_⟩
    cases e : tst (ev g a env) with
    | ok p =>
      rw [e] at hp
      intro v F1 H1 R1 S1 r1
      have q := hp v F1 H1 R1 S1 r1
      cases v with
      | true => exact q
      | false => exact q
    | exc _ _ => rw [e] at hp; exact hp
    | bad => rw [e] at hp; exact hp
  | false =>
    refine PW.mono (pw_or ha hb) fun σ H Q h => ?_
    obtain ⟨env, F, R, hp⟩ := main σ H Q h
    refine ⟨env, F, R, ?_⟩
    cases e : tst (ev g a env) with
    | ok p =>
      rw [e] at hp
      intro v F1 H1 R1 S1 r1
      have q := hp v F1 H1 R1 S1 r1
      cases v with
      | true => exact q
      | false => exact q
    | exc _ _ => rw [e] at hp; exact hp
    | bad => rw [e] at hp; exact hp
theorem r_lgE {conj : Bool} {es : Es} {e' : Expr} (h : PE X e' (tBv X.K g conj es)) : PE X e' (tE X.K g (.lg conj es)) := PE.mono h fun σ H Q q => q
theorem r_lgT {conj : Bool} {es : Es} {e' : Expr} (h : PW X e' (tB' X.K g conj es)) : PT X e' (tT X.K g (.lg conj es)) := by
  refine PT.mono h.pt fun σ H Q ⟨env, F, R, q⟩ => ⟨env, F, R, ?_⟩
  have e : tst (ev g (.lg conj es) env) = evB g conj es env := by
    exact tst_bl (r := evB g conj es env)
  rw [e] at q
  exact q
/-! ### items -/
theorem pas_nil : PA X [] (tDs X.K g .nil) := PA.mono pa_nil fun σ H Q ⟨env, F, R, h⟩ => h [] F H R .refl .nil
theorem r_item {a : E} {s : Bool} {r : Es} {σ : L2.St} {H : Hp} {Q : List V → Hp → Prop} {Q' : V → Hp → Prop} (h : tDs X.K g (.cons s a r) σ H Q)
    (hk : ∀ d v xs F2 H1 env2, spread s d = some xs → Rep X.K g.c F2 d v → RelG X.K g env2 F2 σ H1 → (∀ (Q1 : List V → Hp → Prop), (∀ ds vs F3 H3, Sub F2 F3 → Sub F3 H3 → RepL X.K g.c F3 ds vs → (∀ us, RepL X.K g.c F3 xs us → Q (us ++ vs) H3) → Q1 vs H3) → tDs X.K g r σ H1 Q1) → Q' v H1) : tE X.K g a σ H Q' := by
  obtain ⟨env, F, R, h⟩ := h
  have h' : PostD X.K g σ env F H ((ev g a env).bind fun p => (Res.of (asVal p.1 p.2)).bind fun z => (Res.of (spread s z.1)).bind fun xs => (evalDs g.T.chg g.T.gval g.call r z.2).bind fun w => .ok (xs ++ w.1, w.2)) Q := h
  refine tE_bind R .refl h' fun p v F1 H1 R1 S1 S1' r1 h1 => ?_
  obtain ⟨z, ez, h2⟩ := of_inv h1
  obtain ⟨d, env2⟩ := z
  obtain ⟨xs, exs, h2⟩ := of_inv h2
  obtain ⟨F2, R2, S2, rep⟩ := R1.asVal S1' r1 ez
  exact hk d v xs F2 H1 env2 exs rep R2 fun Q1 hq => ⟨env2, F2, R2, bindOf S2 h2 fun w vs F3 H3 _ R3 S3 S3' r3 h3 => hq w.1 vs F3 H3 S3.fsub R3.sub r3 fun us hu => h3 _ F3 H3 R3 S3' (hu.append r3)⟩
theorem pas_cons {a : E} {r : Es} {a' : Expr} {es : List Expr} (ha : PE X a' (tE X.K g a)) (hr : PA X es (tDs X.K g r)) (hs : starEach (a' :: es) X.env = (false, eval a' X.env) :: starEach es X.env) : PA X (a' :: es) (tDs X.K g (.cons false a r)) :=
  PA.mono (pa_cons ha hr hs) fun σ H Q h => r_item h fun d v xs F2 H1 env2 e rep R2 hq => hq _ fun ds vs F3 H3 s1 s2 rl hw => by
    cases e
    exact hw [v] (.cons (rep.sub s1) .nil)
theorem Rep.seq {d : D} {v : V} {xs : List D} {F H : Hp} (h : Rep X.K g.c F d v) (s : Sub F H) (e : spread true d = some xs) : ∃ p us, v = V.ref p ∧ (SqT X.K H p us ∨ SqL X.K H p us) ∧ RepL X.K g.c F xs us := by
  cases h <;> simp [spread] at e
  · subst e; exact ⟨_, _, rfl, .inl (sqT_sub s (by assumption)), by assumption⟩
  · subst e; exact ⟨_, _, rfl, .inr (SqL.of (s _ _ (by assumption))), by assumption⟩
theorem pas_star {a : E} {r : Es} {a' : Expr} {es : List Expr} {p : Pos} (ha : PE X a' (tE X.K g a)) (hr : PA X es (tDs X.K g r)) : PA X (.Starred a' p :: es) (tDs X.K g (.cons true a r)) :=
  PA.mono (StX.pa_star ha hr rfl) fun σ H Q h => r_item h fun d v xs F2 H1 env2 e rep R2 hq => by
    obtain ⟨q, us, ev, hx, hl⟩ := Rep.seq rep R2.sub e
    exact ⟨q, us, ev, hx, hq _ fun ds vs F3 H3 s1 s2 rl hw => hw us (RepL.sub s1 hl)⟩
/-- written items are a new list, a new tuple -/
theorem r_lst {es : Es} {es' : List Expr} (h : PA X es' (tDs X.K g es)) : PE X (.List es' pos) (tE X.K g (.lst es)) := by
  refine PE.mono (pe_lst h) fun σ H Q ⟨env, F, R, q⟩ => ⟨env, F, R, ?_⟩
  have q' : Post X.K g σ env F H ((evalDs g.T.chg g.T.gval g.call es env).bind fun p => if p.1.length ≤ LIM then .ok (.tmp (.lst p.1), p.2) else .bad) Q := q
  refine bindOf .refl q' fun p vs F1 H1 _ R1 S1 S1' r1 h1 => ?_
  obtain ⟨hl, h2⟩ := if_inv h1
  exact ⟨by rw [← r1.length, LIM_eq]; exact hl, (Post.out R1 S1' h2 fun i z => by cases z).new r1 hl⟩
theorem r_tup {es : Es} {es' : List Expr} {x1 : Nat} (h : PA X es' (tDs X.K g es)) : PE X (.Tuple es' x1 pos) (tE X.K g (.tup es)) := by
  refine PE.mono (pe_tup h) fun σ H Q ⟨env, F, R, q⟩ => ⟨env, F, R, ?_⟩
  have q' : Post X.K g σ env F H ((evalDs g.T.chg g.T.gval g.call es env).bind fun p => if p.1.length ≤ LIM then .ok (.val (.tup p.1), p.2) else .bad) Q := q
  refine bindOf .refl q' fun p vs F1 H1 _ R1 S1 S1' r1 h1 => ?_
  obtain ⟨hl, h2⟩ := if_inv h1
  exact ⟨by rw [← r1.length, LIM_eq]; exact hl, (Post.out R1 S1' h2 fun i z => by cases z).newT R1.sub r1 hl⟩
/-! ### arguments -/
theorem RelRs.start {K : PySem.W.Frag} {c : RC} {σ : L2.St} {env envs enva : Env} {F Fs Fa H Hs H' : Hp} {rs : List R} {vs : List V} (S : Stp σ envs Fs Hs enva Fa H) (h : RelRs K c H env F σ H' rs vs) : RelRs K c Hs env F σ H' rs vs := by
  induction h with
  | nil => exact .nil
  | cons r _ n ih => exact .cons (RelR.start S r) ih n
theorem prs_nil : PA X [] (tRs X.K g .nil) := PA.mono pa_nil fun σ H Q ⟨env, F, R, h⟩ => h [] F H R .refl .nil
theorem prk_nil : PK X [] (tRs X.K g .nil) := PK.mono pk_nil fun σ H Q ⟨env, F, R, h⟩ => h [] F H R .refl .nil
theorem RelRs.step {K : PySem.W.Frag} {c : RC} {σ : L2.St} {env env' : Env} {F F' H H' Hs : Hp} {rs : List R} {vs : List V} (S : Stp σ env F H env' F' H') (h : RelRs K c Hs env F σ H rs vs) : RelRs K c Hs env' F' σ H' rs vs := by
  induction h with
  | nil => exact .nil
  | cons r _ n ih => exact .cons (RelR.step S r) ih n
theorem RelRs.length {K : PySem.W.Frag} {c : RC} {σ : L2.St} {env : Env} {F H Hs : Hp} {rs : List R} {vs : List V} (h : RelRs K c Hs env F σ H rs vs) : rs.length = vs.length := by
  induction h with
  | nil => rfl
  | cons _ _ _ ih => simp [ih]
theorem RelRs.get {K : PySem.W.Frag} {c : RC} {σ : L2.St} {env : Env} {F H Hs : Hp} {rs : List R} {vs : List V} (h : RelRs K c Hs env F σ H rs vs) : ∀ {i : Nat} {r : R}, rs[i]? = some r → ∃ v, vs[i]? = some v ∧ RelR K c Hs env F σ H r v := by
  induction h with
  | nil => intro i r e; simp at e
  | cons r1 _ _ ih =>
    intro i r e
    cases i with
    | zero => simp at e; subst e; exact ⟨_, rfl, r1⟩
    | succ i => obtain ⟨v, h1, h2⟩ := ih (i := i) (r := r) (by simpa using e); exact ⟨v, by simpa using h1, h2⟩
theorem r_arg {a : E} {r : Es} {σ : L2.St} {H : Hp} {Q : List V → Hp → Prop} {Q' : V → Hp → Prop} (h : tRs X.K g (.cons false a r) σ H Q)
    (hk : ∀ v H1, tRs X.K g r σ H1 (fun vs H2 => Q (v :: vs) H2) → Q' v H1) : tE X.K g a σ H Q' := by
  obtain ⟨env, F, R, h⟩ := h
  have h' : PostR X.K g σ env F H ((ev g a env).bind fun p => (evalRs g.T.chg g.T.gval g.call r p.2).bind fun w => .ok (p.1 :: w.1, w.2)) Q := h
  refine tE_bind R .refl h' fun p v F1 H1 R1 S1 S1' r1 h1 => hk v H1 ⟨p.2, F1, R1, bindOf S1' h1 fun w vs F3 H3 _ R3 S3 S3' r3 h3 => ?_⟩
  refine h3 (v :: vs) F3 H3 R3 S3' (.cons (RelR.step S3 r1) (RelRs.start S1' r3) fun d j d' e1 e2 e3 => ?_)
  rw [e1] at r1
  obtain ⟨a, o, rfl, g1, _⟩ := r1
  obtain ⟨v', e4, r4⟩ := r3.get e2
  rw [e3] at e4
  cases e4
  obtain ⟨b, u, eb, _, _, _, g4, _⟩ := r4
  cases eb
  rw [g1] at g4
  cases g4
theorem prs_cons {a : E} {r : Es} {a' : Expr} {es : List Expr} (ha : PE X a' (tE X.K g a)) (hr : PA X es (tRs X.K g r)) (hs : starEach (a' :: es) X.env = (false, eval a' X.env) :: starEach es X.env) : PA X (a' :: es) (tRs X.K g (.cons false a r)) :=
  PA.mono (pa_cons ha hr hs) fun σ H Q h => r_arg h fun v H1 q => q
theorem prk_cons {a : E} {r : Es} {a' : Expr} {nm : Option Str} {kpos : Pos} {kws : List Keyword} (ha : PE X a' (tE X.K g a)) (hr : PK X kws (tRs X.K g r)) : PK X (⟨nm, a', kpos⟩ :: kws) (tRs X.K g (.cons false a r)) :=
  PK.mono (pk_cons ha hr) fun σ H Q h => r_arg h fun v H1 q => q
end
end Ev
namespace Ev
open PySem PySem.Spec PyProof.Rows L2
inductive RepPs (K : PySem.W.Frag) (c : RC) (F H : Hp) : List D → List V → Prop
  | nil : RepPs K c F H [] []
  | cons {d : D} {v : V} {ds : List D} {vs : List V} : RepP K c F H d v → RepPs K c F H ds vs → RepPs K c F H (d :: ds) (v :: vs)
theorem RepPs.inv0 {K : PySem.W.Frag} {c : RC} {F H : Hp} {vs : List V} (h : RepPs K c F H [] vs) : vs = [] := by cases h; rfl
theorem RepPs.inv1 {K : PySem.W.Frag} {c : RC} {F H : Hp} {d : D} {vs : List V} (h : RepPs K c F H [d] vs) : ∃ v, vs = [v] ∧ RepP K c F H d v := by
  cases h with
  | cons a b => cases b; exact ⟨_, rfl, a⟩
theorem RepPs.inv2 {K : PySem.W.Frag} {c : RC} {F H : Hp} {d e : D} {vs : List V} (h : RepPs K c F H [d, e] vs) : ∃ v w, vs = [v, w] ∧ RepP K c F H d v ∧ RepP K c F H e w := by
  cases h with
  | cons a b =>
    obtain ⟨w, rfl, r⟩ := b.inv1
    exact ⟨_, w, rfl, a, r⟩
theorem peeks {K : PySem.W.Frag} {c : RC} {H0 : Hp} {bs : List (Nat × Addr)} {env : Env} {F Hs H : Hp} {σ : L2.St} (R : Rel K c H0 bs env F σ H) : ∀ {rs : List Ev.R} {vs : List V} {ds : List D}, RelRs K c Hs env F σ H rs vs → rs.mapM (fun r => peek r env) = some ds → RepPs K c F H ds vs
  | [], _, ds, .nil, e => by simp at e; subst e; exact .nil
  | r :: rs, _, ds, .cons h t _, e => by
    rw [List.mapM_cons] at e
    cases q : peek r env with
    | none => rw [q] at e; cases e
    | some d =>
      rw [q] at e
      cases q2 : rs.mapM (fun r => peek r env) with
      | none => rw [q2] at e; cases e
      | some es =>
        rw [q2] at e
        cases e
        exact .cons (R.peek h q) (peeks R t q2)
def rBi (K : PySem.W.Frag) (c : RC) (b : Bi) : List V → Hp → VK → Prop := fun vs H Q => ∃ F ds r, Sub F H ∧ RepPs K c F H ds vs ∧ biOp b ds = some r ∧ Out K c F H Q r
def biName : Bi → Str
  | .len => "len"
  | .int => "int"
  | .max => "max"
  | .min => "min"
  | .sum => "sum"
  | .list => "list"
  | .tuple => "tuple"
  | .abs => "abs"
  | .all => "all"
  | .any => "any"
  | .bitlen => "bit_length"
def biVal : Bi → Value
  | .len => .builtin "len"
  | .int => .type "int"
  | .max => .builtin "max"
  | .min => .builtin "min"
  | .sum => .builtin "sum"
  | .list => .type "list"
  | .tuple => .type "tuple"
  | .abs => .builtin "abs"
  | .all => .builtin "all"
  | .any => .builtin "any"
  | .bitlen => .none
section
variable {X : Cx} {c : RC}
theorem str_len (x : List Nat) : (⟨x.toArray⟩ : Str).length = x.length := by simp [Str.length]
theorem bi_ok (hc : X.calm = true) (b : Bi) (nb : b ≠ .bitlen) : CallR X (biVal b) (rBi X.K c b) := by
  intro pins s σ H vs us Q I rv ⟨F, ds, r, sF, rep, hb, q⟩
  unfold biOp at hb
  split at hb
  · -- len of a list
    obtain ⟨v, rfl, h1⟩ := rep.inv1
    obtain ⟨a, ws, rfl, ha, ra, la⟩ := h1.of_lst sF
    cases hb
    exact call_len pins s σ H _ us Q I rv ⟨_, ws.length, rfl, .inl ⟨ws, .inl (.inl ha), rfl⟩, by rw [← ra.length]; exact q.val sF (.int _)⟩
  · obtain ⟨v, rfl, h1⟩ := rep.inv1
    obtain ⟨a, ws, rfl, ha, ra, la, _⟩ := h1.of_tup sF
    cases hb
    exact call_len pins s σ H _ us Q I rv ⟨_, ws.length, rfl, .inr ⟨ws, ha, rfl⟩, by rw [← ra.length]; exact q.val sF (.int _)⟩
  · obtain ⟨v, rfl, h1⟩ := rep.inv1
    obtain ⟨a, rfl, ha, la⟩ := h1.of_scr sF
    cases hb
    exact call_len pins s σ H _ us Q I rv ⟨_, _, rfl, .inl ⟨_, ha, rfl⟩, by rw [List.length_map]; exact q.val sF (.int _)⟩
  · split at hb
    · rename_i hl
      obtain ⟨v, rfl, h1⟩ := rep.inv1
      obtain ⟨rfl, _⟩ := h1.of_str
      cases hb
      exact call_len pins s σ H _ us Q I rv ⟨_, _, rfl, ⟨by rw [str_len, LIM_eq]; exact hl, rfl⟩, by rw [str_len]; exact q.val sF (.int _)⟩
    · cases hb
  · obtain ⟨v, rfl, h1⟩ := rep.inv1
    obtain rfl := h1.of_int
    cases hb
    exact call_int1 pins s σ H _ us Q I rv (.inl ⟨_, rfl, q.val sF (.int _)⟩)
  · obtain ⟨v, rfl, h1⟩ := rep.inv1
    obtain rfl := h1.of_bl
    cases hb
    exact call_int1 pins s σ H _ us Q I rv (.inr ⟨_, rfl, q.val sF (.int _)⟩)
  · obtain ⟨v, w, rfl, h1, h2⟩ := rep.inv2
    obtain rfl := h1.of_int
    obtain rfl := h2.of_int
    cases hb
    exact call_max2 hc pins s σ H _ us Q I rv ⟨_, _, rfl, q.val sF (.int _)⟩
  · obtain ⟨v, w, rfl, h1, h2⟩ := rep.inv2
    obtain rfl := h1.of_int
    obtain rfl := h2.of_int
    cases hb
    exact call_min2 hc pins s σ H _ us Q I rv ⟨_, _, rfl, q.val sF (.int _)⟩
  · obtain ⟨v, rfl, h1⟩ := rep.inv1
    obtain ⟨a, ws, rfl, ha, ra, la⟩ := h1.of_lst sF
    rename_i xs
    cases e : intsOf xs with
    | none => rw [e] at hb; cases hb
    | some ns =>
      rw [e] at hb
      cases hb
      have hw := ra.ints e
      subst hw
      exact cr_sum hc pins s σ H _ us Q I rv ⟨a, ns, rfl, .inl (.inl ha), q.val sF (.int _)⟩
  · obtain ⟨v, rfl, h1⟩ := rep.inv1
    obtain rfl := h1.of_int
    cases hb
    exact call_abs pins s σ H _ us Q I rv ⟨_, rfl, q.val sF (.int _)⟩
  · obtain ⟨v, rfl, h1⟩ := rep.inv1
    obtain ⟨a, ws, rfl, ha, ra, la⟩ := h1.of_lst sF
    rename_i xs
    cases e : boolsOf xs with
    | none => rw [e] at hb; cases hb
    | some ns =>
      rw [e] at hb
      cases hb
      have hw := ra.bools e
      subst hw
      exact cr_all hc pins s σ H _ us Q I rv ⟨a, ns, rfl, .inl (.inl ha), q.val sF (.bl _)⟩
  · obtain ⟨v, rfl, h1⟩ := rep.inv1
    obtain ⟨a, ws, rfl, ha, ra, la⟩ := h1.of_lst sF
    rename_i xs
    cases e : boolsOf xs with
    | none => rw [e] at hb; cases hb
    | some ns =>
      rw [e] at hb
      cases hb
      have hw := ra.bools e
      subst hw
      exact cr_any hc pins s σ H _ us Q I rv ⟨a, ns, rfl, .inl (.inl ha), q.val sF (.bl _)⟩
  · obtain ⟨v, rfl, h1⟩ := rep.inv1
    obtain ⟨a, ws, rfl, ha, ra, la⟩ := h1.of_lst sF
    cases hb
    exact call_list_of pins s σ H _ us Q I rv ⟨a, ws, rfl, .inl (.inl (.inl ha)), q.new ra la⟩
  · obtain ⟨v, rfl, h1⟩ := rep.inv1
    obtain ⟨a, ws, rfl, ha, ra, la, _⟩ := h1.of_tup sF
    cases hb
    exact call_list_of pins s σ H _ us Q I rv ⟨a, ws, rfl, .inr ha, q.new ra la⟩
  · obtain ⟨v, rfl, h1⟩ := rep.inv1
    obtain ⟨a, ws, rfl, ha, ra, la⟩ := h1.of_lst sF
    cases hb
    exact call_tuple_of pins s σ H _ us Q I rv ⟨a, ws, rfl, .inl ⟨.inl (.inl ha), q.newT sF ra la⟩⟩
  · obtain ⟨v, rfl, h1⟩ := rep.inv1
    obtain ⟨a, ws, rfl, ha, ra, la, fa⟩ := h1.of_tup sF
    cases hb
    exact call_tuple_of pins s σ H _ us Q I rv ⟨a, ws, rfl, .inr ⟨ha, q.val sF (.tup fa ra la)⟩⟩
  · exact absurd rfl nb
  · cases hb
/-! ### index and slice -/
def rIxD (K : PySem.W.Frag) (c : RC) : R2 := rBop K c opIx
theorem RepL.at {K : PySem.W.Frag} {c : RC} {F : Hp} {ds : List D} {vs : List V} {i : Int} {d : D} (r : RepL K c F ds vs) (h : atI ds i = some d) : ∃ v, atI vs i = some v ∧ Rep K c F d v := by
  unfold atI at h ⊢
  rw [r.length] at h
  cases e : L2.ixN vs.length i with
  | none => rw [e] at h; cases h
  | some j =>
    rw [e] at h
    exact r.get h
theorem ix_ok : IxR X (rIxD X.K c) := by
  intro value slice pins s σ H x y v u Q I rx ry ⟨F, d, e, r, sF, hd, he, hr, q⟩ hs
  unfold opIx at hr
  split at hr
  · rename_i xs i
    obtain rfl := he.of_int
    obtain ⟨a, ws, rfl, ha, ra, la⟩ := hd.of_lst sF
    cases e1 : atI xs i with
    | none => rw [e1] at hr; cases hr
    | some z =>
      rw [e1] at hr; cases hr
      obtain ⟨w, e2, rw'⟩ := ra.at e1
      exact ix_seq value slice pins s σ H _ _ v u Q I rx ry (.inl ⟨a, ws, i, w, rfl, rfl, .inl (.inl ha), e2, q.val sF rw'⟩) hs
  · rename_i xs i
    obtain rfl := he.of_int
    obtain ⟨a, ws, rfl, ha, ra, la, _⟩ := hd.of_tup sF
    cases e1 : atI xs i with
    | none => rw [e1] at hr; cases hr
    | some z =>
      rw [e1] at hr; cases hr
      obtain ⟨w, e2, rw'⟩ := ra.at e1
      exact ix_seq value slice pins s σ H _ _ v u Q I rx ry (.inr (.inl ⟨a, ws, i, w, rfl, rfl, ha, e2, q.val sF rw'⟩)) hs
  · rename_i ns i
    obtain rfl := he.of_int
    obtain ⟨a, rfl, ha, la⟩ := hd.of_scr sF
    cases e1 : atI ns i with
    | none => rw [e1] at hr; cases hr
    | some z =>
      rw [e1] at hr; cases hr
      have e2 : atI (ns.map V.int) i = some (.int z) := by
        unfold atI at e1 ⊢
        rw [List.length_map]
        cases e3 : L2.ixN ns.length i with
        | none => rw [e3] at e1; cases e1
        | some j => rw [e3] at e1; simp only [Option.bind_some] at e1 ⊢; rw [List.getElem?_map, e1]; rfl
      exact ix_seq value slice pins s σ H _ _ v u Q I rx ry (.inl ⟨a, _, i, _, rfl, rfl, ha, e2, q.val sF (.int _)⟩) hs
  · rename_i xs i
    split at hr
    · rename_i hl
      obtain rfl := he.of_int
      obtain ⟨rfl, va⟩ := hd.of_str
      cases e1 : atI xs i with
      | none => rw [e1] at hr; cases hr
      | some z =>
        rw [e1] at hr; cases hr
        refine ix_seq value slice pins s σ H _ _ v u Q I rx ry (.inr (.inr ⟨⟨xs.toArray⟩, i, z, rfl, rfl, by rw [str_len, LIM_eq]; exact hl, by simpa using e1, ?_⟩)) hs
        refine q.val sF (.str [z] ?_)
        unfold atI at e1
        cases e3 : L2.ixN xs.length i with
        | none => rw [e3] at e1; cases e1
        | some j =>
          rw [e3] at e1
          have hm : z ∈ xs := List.mem_of_getElem? (show xs[j]? = some z from e1)
          have := List.all_eq_true.mp va z hm
          simpa using this
    · cases hr
  · cases hr
def rSli (K : PySem.W.Frag) (c : RC) : V → Option Int → Option Int → Hp → VK → Prop := fun x lo hi H Q => ∃ F d r, Sub F H ∧ RepP K c F H d x ∧ opSli d lo hi = some r ∧ Out K c F H Q r
theorem RepL.cut {K : PySem.W.Frag} {c : RC} {F : Hp} {ds : List D} {vs : List V} (r : RepL K c F ds vs) (lo hi : Option Int) : RepL K c F (cut ds lo hi) (cutV vs lo hi) := by
  unfold Ev.cut cutV
  rw [r.length]
  exact (r.drop _).take _
theorem cut_len {α : Type} (xs : List α) (lo hi : Option Int) : (cut xs lo hi).length ≤ xs.length := by
  unfold cut
  rw [List.length_take, List.length_drop]; omega
theorem sli_ok : SlR X (rSli X.K c) := by
  intro pins s σ H x v vl vu lo hi sl Q I rx hs pl pu ⟨F, d, r, sF, hd, hr, q⟩
  cases d with
  | lst xs =>
    cases hr
    obtain ⟨a, ws, rfl, ha, ra, la⟩ := hd.of_lst sF
    exact sl_list pins s σ H _ v vl vu lo hi sl Q I rx hs pl pu ⟨a, ws, rfl, .inl (.inl ha), q.new (ra.cut lo hi) (Nat.le_trans (cut_len _ _ _) la)⟩
  | scr ns =>
    cases hr
    obtain ⟨a, rfl, ha, la⟩ := hd.of_scr sF
    refine sl_list pins s σ H _ v vl vu lo hi sl Q I rx hs pl pu ⟨a, _, rfl, ha, ?_⟩
    have e : cutV (ns.map V.int) lo hi = (cut ns lo hi).map V.int := by
      unfold cutV Ev.cut
      rw [List.length_map, List.map_take, List.map_drop]
    rw [e]
    exact q.new (repL_ints _) (by rw [List.length_map]; exact Nat.le_trans (cut_len _ _ _) la)
  | tup xs =>
    cases hr
    obtain ⟨a, ws, rfl, ha, ra, la, fa⟩ := hd.of_tup sF
    refine sl_tupA pins s σ H _ v vl vu lo hi sl Q I rx hs pl pu ⟨a, ws, rfl, ha, fun ⟨e1, e2⟩ => ?_, fun _ => q.newT sF (ra.cut lo hi) (Nat.le_trans (cut_len _ _ _) la)⟩
    have e : cut xs lo hi = xs := by
      unfold Ev.cut
      rw [ra.length, e1, e2, List.drop_zero, ← ra.length]
      simp
    rw [e] at q
    exact q.val sF (.tup fa ra la)
  | str xs =>
    have hr' : (if xs.length ≤ LIM then some (Ev.R.val (.str (cut xs lo hi))) else none) = some r := hr
    split at hr'
    · rename_i hl
      cases hr'
      obtain ⟨rfl, va⟩ := hd.of_str
      refine sl_str pins s σ H _ v vl vu lo hi sl Q I rx hs pl pu ⟨_, rfl, by rw [str_len, LIM_eq]; exact hl, ?_⟩
      have e : cutS ⟨xs.toArray⟩ lo hi = ⟨(cut xs lo hi).toArray⟩ := by
        unfold cutS Ev.cut
        rw [str_len]
      rw [e]
      refine q.val sF (.str _ ?_)
      rw [List.all_eq_true] at va ⊢
      intro z hz
      exact va z (List.mem_of_mem_drop (List.mem_of_mem_take hz))
    · cases hr'
  | _ => cases hr
end
section
variable {X : Cx} {g : Gh} {ck : Ck} {k : Nat} {pos : Pos}
theorem nv_bi {b : Bi} {ds : List D} {r : R} (h : biOp b ds = some r) : ∀ i, r ≠ .var i := by
  intro i e
  subst e
  unfold biOp at h
  split at h <;> simp [vI, vB] at h <;> (revert h; first | (cases intsOf _ <;> simp; done) | (cases boolsOf _ <;> simp; done))
theorem nv_ix {x y : D} {r : R} (h : opIx x y = some r) : ∀ i, r ≠ .var i := by
  intro i e
  subst e
  unfold opIx at h
  split at h <;> simp at h
theorem nv_sli {x : D} {a b : Option Int} {r : R} (h : opSli x a b = some r) : ∀ i, r ≠ .var i := by
  intro i e
  subst e
  unfold opSli at h
  split at h <;> simp at h
theorem r_bi {b : Bi} {es : Es} {a' : Expr} {es' : List Expr} {p : Pos} (G : Good X g ck k) (hg : glB ck.sc (biName b) = true) (nb : b ≠ .bitlen) (h : PA X (a' :: es') (tRs X.K g es))
    (he : starEach (a' :: es') X.env = (false, eval a' X.env) :: starEach es' X.env) (hpl : (backTo pos (starEach es' X.env)).any (·.1) = false) : PE X (.Call (.Name (biName b) p) (a' :: es') [] pos) (tE X.K g (.bi b es)) := by
  have hgl : Gl X (biName b) := by show X.env.scope.names.lookup _ = _; rw [G.sc]; exact glB_ok hg
  have main : PE X (.Call (.Name (biName b) p) (a' :: es') [] pos) (tCB (rBi X.K g.c b) (tRs X.K g es)) := by
    have hok := bi_ok (c := g.c) G.calm b nb
    cases b with
    | len => exact pe_callB hok hgl (G.prog.free _ (by decide)) (by decide +kernel) h (by decide) (by decide) he hpl
    | int => exact pe_callTy hok hgl (G.prog.free _ (by decide)) (by decide +kernel) h (by decide) (by decide) he hpl
    | max => exact pe_callB hok hgl (G.prog.free _ (by decide)) (by decide +kernel) h (by decide) (by decide) he hpl
    | min => exact pe_callB hok hgl (G.prog.free _ (by decide)) (by decide +kernel) h (by decide) (by decide) he hpl
    | sum => exact pe_callB hok hgl (G.prog.free _ (by decide)) (by decide +kernel) h (by decide) (by decide) he hpl
    | list => exact pe_callTy hok hgl (G.prog.free _ (by decide)) (by decide +kernel) h (by decide) (by decide) he hpl
    | tuple => exact pe_callTy hok hgl (G.prog.free _ (by decide)) (by decide +kernel) h (by decide) (by decide) he hpl
    | abs => exact pe_callB hok hgl (G.prog.free _ (by decide)) (by decide +kernel) h (by decide) (by decide) he hpl
    | all => exact pe_callB hok hgl (G.prog.free _ (by decide)) (by decide +kernel) h (by decide) (by decide) he hpl
    | any => exact pe_callB hok hgl (G.prog.free _ (by decide)) (by decide +kernel) h (by decide) (by decide) he hpl
    | bitlen => exact absurd rfl nb
  refine PE.mono main fun σ H Q ⟨env, F, R, q⟩ => ⟨env, F, R, ?_⟩
  have q' : Post X.K g σ env F H ((evalRs g.T.chg g.T.gval g.call es env).bind fun p => (Res.of (p.1.mapM fun r => peek r p.2)).bind fun ds => (Res.of (biOp b ds)).bind fun r => .ok (r, p.2)) Q := q
  refine bindOf .refl q' fun p vs F1 H1 _ R1 S1 S1' r1 h1 => ?_
  obtain ⟨ds, ed, h2⟩ := of_inv h1
  obtain ⟨r, er, h3⟩ := of_inv h2
  exact ⟨F1, ds, r, R1.sub, peeks R1 r1 ed, er, Post.out R1 S1' h3 (nv_bi er)⟩
theorem r_bits {o : E} {o' : Expr} {apos : Pos} (ho : PE X o' (tE X.K g o)) (hbase : attributeBase o' "bit_length" X.env (eval o' X.env) = eval o' X.env) (hline : (apos.endLine == pos.line) = true) :
    PE X (.Call (.Attribute o' "bit_length" apos) [] [] pos) (tE X.K g (.bi .bitlen (.cons false o .nil))) := by
  refine PE.mono (pe_bits ho hbase hline) fun σ H Q ⟨env, F, R, q⟩ => ?_
  have q' : Post X.K g σ env F H ((ev g o env).bind fun p => (Res.of ([p.1].mapM fun r => peek r p.2)).bind fun ds => (Res.of (biOp .bitlen ds)).bind fun r => .ok (r, p.2)) Q := by
    have e : ev g (.bi .bitlen (.cons false o .nil)) env = (ev g o env).bind fun p => (Res.of ([p.1].mapM fun r => peek r p.2)).bind fun ds => (Res.of (biOp .bitlen ds)).bind fun r => .ok (r, p.2) := by
      show ((ev g o env).bind fun p => Res.ok ([p.1], p.2)).bind _ = _
      cases ev g o env <;> rfl
    rw [← e]; exact q
  refine tE_bind R .refl q' fun p v F1 H1 R1 S1 S1' r1 h1 => ?_
  obtain ⟨ds, ed, h2⟩ := of_inv h1
  obtain ⟨r, er, h3⟩ := of_inv h2
  have rp : RepPs X.K g.c F1 H1 ds [v] := peeks (Hs := H) R1 (.cons r1 .nil (by intro d j d' _ e; simp at e)) ed
  cases ds with
  | nil => cases rp
  | cons d ds =>
    cases rp with
    | cons rd rt =>
      cases rt
      cases d <;> simp [biOp] at er
      rename_i i
      obtain rfl := rd.of_int
      cases er
      exact ⟨i, rfl, h3 _ F1 H1 R1 S1' (.int _)⟩
theorem r_ix {a b : E} {a' b' : Expr} (hs : PlainIx b') (ha : PE X a' (tE X.K g a)) (hb : PE X b' (tE X.K g b)) : PE X (.Subscript a' b' pos) (tE X.K g (.ix a b)) := by
  refine PE.mono (pe_ix (ix_ok (c := g.c)) ha hb hs) fun σ H Q ⟨env, F, R, h⟩ => ?_
  refine two R h fun p q v w F2 H2 R2 S2 k1 k2 h2 => ?_
  split at h2
  · rename_i x y e1 e2
    obtain ⟨r, er, h3⟩ := of_inv h2
    exact ⟨F2, x, y, r, R2.sub, k1 x e1, k2 y e2, er, Post.out R2 S2 h3 (nv_ix er)⟩
  · exact h2.elim
/-- a slice's end: nothing, or an int -/
inductive Part (X : Cx) (g : Gh) : E → Option Expr → Prop
  | none : Part X g .none_ none
  | some {a : E} {a' : Expr} : a ≠ .none_ → PE X a' (tE X.K g a) → Part X g a (some a')
def tP (K : PySem.W.Frag) (g : Gh) (a : E) : TO := fun σ H Q => ∃ env F, RelG K g env F σ H ∧ PostOf K g σ env F H (fun o _ _ _ v => o = v) (evP a (ev g a env)) Q
theorem PO.mono {X : Cx} {e : Option Expr} {t t' : TO} (h : PO X e t) (m : ∀ σ H Q, t' σ H Q → t σ H Q) : PO X e t' := ⟨fun pins s σ H Q I q => h.run pins s σ H Q I (m σ H Q q)⟩
theorem part_po {a : E} {a' : Option Expr} (hp : Part X g a a') : PO X a' (tP X.K g a) := by
  cases hp with
  | none => exact PO.mono po_none fun σ H Q ⟨env, F, R, h⟩ => h none F H R .refl rfl
  | some hn ha =>
    refine PO.mono (po_some ha) fun σ H Q ⟨env, F, R, h⟩ => ?_
    have h' : PostOf X.K g σ env F H (fun o _ _ _ v => o = v) ((ev g a env).bind fun p => match peek p.1 p.2 with
      | some (.int i) => .ok (some i, p.2)
      | _ => .bad) Q := by
      cases a <;> first | exact absurd rfl hn | exact h
    refine tE_bind R .refl h' fun p v F1 H1 R1 S1 S1' r1 h1 => ?_
    split at h1
    · rename_i i e
      obtain rfl := (R1.peek r1 e).of_int
      exact ⟨i, rfl, h1 _ F1 H1 R1 S1' rfl⟩
    · exact h1.elim
theorem r_sli {a lo hi : E} {a' : Expr} {lo' hi' : Option Expr} {p2 : Pos} (ha : PE X a' (tE X.K g a)) (hl : Part X g lo lo') (hh : Part X g hi hi') : PE X (.Subscript a' (.Slice lo' hi' none p2) pos) (tE X.K g (.sli a lo hi)) := by
  refine PE.mono (pe_slice (sli_ok (c := g.c)) ha (part_po hl) (part_po hh)) fun σ H Q ⟨env, F, R, h⟩ => ?_
  have h' : Post X.K g σ env F H ((ev g a env).bind fun p => (evP lo (ev g lo p.2)).bind fun q => (evP hi (ev g hi q.2)).bind fun s =>
    match peek p.1 s.2 with
    | some x => (Res.of (opSli x q.1 s.1)).bind fun r => .ok (r, s.2)
    | none => .bad) Q := h
  refine tE_bind R .refl h' fun p v F1 H1 R1 S1 S1' r1 h1 => ⟨p.2, F1, R1, bindOf S1' h1 fun q o F2 H2 _ R2 S2 S2' e2 h2 => ⟨q.2, F2, R2, bindOf S2' h2 fun s o' F3 H3 _ R3 S3 S3' e3 h3 => ?_⟩⟩
  subst e2 e3
  split at h3
  · rename_i x e
    obtain ⟨r, er, h4⟩ := of_inv h3
    exact ⟨F3, x, r, R3.sub, R3.peek (Hs := H) (RelR.step S3 (RelR.step S2 r1)) e, er, Post.out R3 S3' h4 (nv_sli er)⟩
  · exact h3.elim
end
end Ev
namespace Ev
open PySem PySem.Spec PyProof.Rows L2
/-! ### what a loop goes through -/
/-- new things that may be told beside what stands still -/
structure Grow (F H F' H' : Hp) : Prop where
  f : Sub F F'
  h : Sub H H'
  s : Sub F' H'
  g : ∀ a o, F' a = some o → F a = some o ∨ H a = none
theorem Grow.refl {F H : Hp} (s : Sub F H) : Grow F H F H := ⟨Sub.refl _, Sub.refl _, s, fun _ _ h => .inl h⟩
theorem Grow.tup {F H : Hp} {T : Addr} {xs : List V} (s : Sub F H) (n : H T = none) : Grow F H (upd F T (.tup xs)) (upd H T (.tup xs)) := by
  have hF : F T = none := by
    cases e : F T with
    | none => rfl
    | some u => rw [s _ _ e] at n; cases n
  refine ⟨sub_upd hF, sub_upd n, fun b u h => ?_, fun b u h => ?_⟩
  · by_cases e : b = T
    · subst e; rw [upd_same] at h ⊢; exact h
    · rw [upd_ne e] at h ⊢; exact s _ _ h
  · by_cases e : b = T
    · subst e; exact .inr n
    · rw [upd_ne e] at h; exact .inl h
/-- J gives the items one by one, while F stands -/
def Walks (K : PySem.W.Frag) (c : RC) (F : Hp) (J : L2.It) (items : List D) : Prop :=
  ∃ Y : Nat → Hp → V → Hp → Prop, Walk J items.length (fun H => Sub F H) Y ∧ ∀ i H x H', i < items.length → Y i H x H' → ∀ Fi, Sub F Fi → Sub Fi H → ∃ d F', items[i]? = some d ∧ Grow Fi H F' H' ∧ Rep K c F' d x
section
variable {K : PySem.W.Frag} {c : RC} {F : Hp}
theorem walks_list {a : Addr} {ds : List D} {vs : List V} (h : F a = some (.lst vs)) (r : RepL K c F ds vs) : Walks K c F (Itl K a) ds := by
  refine ⟨YAt vs, ?_, fun i H x H' hi ⟨e, hx⟩ Fi s1 s2 => ?_⟩
  · rw [r.length]
    exact walk_list.mono (fun H s => .inl (.inl (s _ _ h))) fun _ _ _ _ _ _ y => y
  · subst e
    obtain ⟨d, e1, e2⟩ := r.getV hx
    exact ⟨d, Fi, e1, .refl s2, e2.sub s1⟩
theorem walks_tup {a : Addr} {ds : List D} {vs : List V} (h : SqT K F a vs) (r : RepL K c F ds vs) : Walks K c F (Itt K a) ds := by
  refine ⟨YAt vs, ?_, fun i H x H' hi ⟨e, hx⟩ Fi s1 s2 => ?_⟩
  · rw [r.length]
    exact walk_tup.mono (fun H s => sqT_sub s h) fun _ _ _ _ _ _ y => y
  · subst e
    obtain ⟨d, e1, e2⟩ := r.getV hx
    exact ⟨d, Fi, e1, .refl s2, e2.sub s1⟩
theorem walks_str {x : List Nat} (h : x.all (fun k => decide (k < 0x110000)) = true) : Walks K c F (Its ⟨x.toArray⟩) (x.map fun k => .str [k]) := by
  refine ⟨fun i H v H' => H' = H ∧ ∃ k, x[i]? = some k ∧ v = .str ⟨#[k]⟩, ?_, fun i H v H' hi ⟨e, k, hk, ev⟩ Fi s1 s2 => ?_⟩
  · rw [List.length_map]
    have w := walk_str (z := ⟨x.toArray⟩)
    simp only [List.size_toArray, List.getElem?_toArray] at w
    exact w.mono (fun _ _ => trivial) fun _ _ _ _ _ _ y => y
  · subst e ev
    refine ⟨.str [k], Fi, by rw [List.getElem?_map, hk]; rfl, .refl s2, .str [k] ?_⟩
    have := List.all_eq_true.mp h k (List.mem_of_getElem? hk)
    simpa using this
theorem walks_range {lo : Int} {n : Nat} : Walks K c F (Itr lo n) ((List.range n).map fun (i : Nat) => .int (lo + (i : Int))) := by
  refine ⟨YFn fun i => .int (lo + i), ?_, fun i H v H' hi ⟨e, ev⟩ Fi s1 s2 => ?_⟩
  · rw [List.length_map, List.length_range]
    exact walk_range.mono (fun _ _ => trivial) fun _ _ _ _ _ _ y => y
  · subst e ev
    rw [List.length_map, List.length_range] at hi
    exact ⟨.int (lo + i), Fi, by rw [List.getElem?_map, List.getElem?_range hi]; rfl, .refl s2, .int _⟩
theorem walks_pair {J : L2.It} {n : Nat} {G : Hp → Prop} {xs ys : Nat → Option V} {items : List D} (w : Walk J n G (YPair xs ys)) (hG : ∀ H, Sub F H → G H) (hn : items.length = n)
    (hi : ∀ i x y, xs i = some x → ys i = some y → ∃ d e, items[i]? = some (.tup [d, e]) ∧ Rep K c F d x ∧ Rep K c F e y) : Walks K c F J items := by
  refine ⟨_, (hn ▸ w).mono hG fun _ _ _ _ _ _ y => y, fun i H v H' h ⟨T, x, y, ev, nT, eH, ex, ey⟩ Fi s1 s2 => ?_⟩
  subst ev eH
  obtain ⟨d, e, h1, h2, h3⟩ := hi i x y ex ey
  have gr := Grow.tup (xs := [x, y]) s2 nT
  exact ⟨_, _, h1, gr, .tup (.inl (.inl upd_same)) (.cons (h2.sub (s1.trans gr.f)) (.cons (h3.sub (s1.trans gr.f)) .nil)) (by simp only [List.length_cons, List.length_nil]; decide)⟩
theorem walks_enum {a : Addr} {ds : List D} {vs : List V} (h : F a = some (.lst vs)) (r : RepL K c F ds vs) : Walks K c F (Ite K a) (ds.zipIdx.map fun q => .tup [.int (q.2 : Nat), q.1]) := by
  refine walks_pair (walk_enum (xs := vs)) (fun H s => .inl (.inl (s _ _ h))) (by rw [List.length_map, List.length_zipIdx, r.length]) fun i x y e1 e2 => ?_
  cases e1
  obtain ⟨d, e3, e4⟩ := r.getV e2
  exact ⟨_, d, by rw [List.getElem?_map, List.getElem?_zipIdx, e3]; simp, .int _, e4⟩
theorem zip_get {ds es : List D} {i : Nat} {d e : D} (h1 : ds[i]? = some d) (h2 : es[i]? = some e) : ((ds.zip es).map fun q => D.tup [q.1, q.2])[i]? = some (.tup [d, e]) := by
  have h : (ds.zip es)[i]? = some (d, e) := List.getElem?_zip_eq_some.mpr ⟨h1, h2⟩
  rw [List.getElem?_map, h]; rfl
theorem walks_zip {a b : Addr} {ds es : List D} {vs ws : List V} (ha : F a = some (.lst vs)) (hb : F b = some (.lst ws)) (ra : RepL K c F ds vs) (rb : RepL K c F es ws) : Walks K c F (Itz K a b) ((ds.zip es).map fun q => .tup [q.1, q.2]) := by
  refine walks_pair (walk_zip (xs := vs) (ys := ws) rfl) (fun H s => ⟨.inl (.inl (s _ _ ha)), .inl (.inl (s _ _ hb))⟩) (by rw [List.length_map, List.length_zip, ra.length, rb.length]) fun i x y e1 e2 => ?_
  obtain ⟨d, h1, h2⟩ := ra.getV e1
  obtain ⟨e, h3, h4⟩ := rb.getV e2
  exact ⟨d, e, zip_get h1 h3, h2, h4⟩
theorem walk_zipT' {a b : Addr} {xs ys : List V} {n : Nat} (hn : n = min xs.length ys.length) : Walk (RZ.ItzT K a b) n (fun H => SqT K H a xs ∧ SqT K H b ys) (YPair (fun i => xs[i]?) (fun i => ys[i]?)) := by
  subst hn
  refine ⟨fun i H hi q => ?_, fun H q => ⟨xs, ys, q.1, q.2, by omega⟩, fun i H v H' _ q y => ?_⟩
  · have h1 : i < xs.length := by omega
    have h2 : i < ys.length := by omega
    exact ⟨xs, ys, xs[i], ys[i], q.1, q.2, by simp [h1], by simp [h2]⟩
  · obtain ⟨T, x, z, h1, h2, h3, h4, h5⟩ := y
    exact ⟨T, x, z, h1, h2, h3, h4 xs q.1, h5 ys q.2⟩
theorem walks_zipT {a b : Addr} {ds es : List D} {vs ws : List V} (ha : SqT K F a vs) (hb : SqT K F b ws) (ra : RepL K c F ds vs) (rb : RepL K c F es ws) : Walks K c F (RZ.ItzT K a b) ((ds.zip es).map fun q => .tup [q.1, q.2]) := by
  refine walks_pair (walk_zipT' (xs := vs) (ys := ws) rfl) (fun H s => ⟨sqT_sub s ha, sqT_sub s hb⟩) (by rw [List.length_map, List.length_zip, ra.length, rb.length]) fun i x y e1 e2 => ?_
  obtain ⟨d, h1, h2⟩ := ra.getV e1
  obtain ⟨e, h3, h4⟩ := rb.getV e2
  exact ⟨d, e, zip_get h1 h3, h2, h4⟩
end
def evI (g : Gh) : Ev.It → Env → Res (List D × Env) := evalIt g.T.chg g.T.gval g.call
abbrev PostI (K : PySem.W.Frag) (g : Gh) (σ : L2.St) (env : Env) (F H : Hp) : Res (List D × Env) → (L2.It → Hp → Prop) → Prop :=
  PostOf K g σ env F H fun items _ F' _ J => Walks K g.c F' J items
def tI (K : PySem.W.Frag) (g : Gh) (it : Ev.It) : TI := fun σ H R => ∃ env F, RelG K g env F σ H ∧ PostI K g σ env F H (evI g it env) R
section
variable {X : Cx} {g : Gh} {ck : Ck} {k : Nat} {pos p tpos : Pos} {tg : Expr}
theorem PI.mono {e : Expr} {t t' : TI} (h : PI X tg e t) (m : ∀ σ H Q, t' σ H Q → t σ H Q) : PI X tg e t' := ⟨fun pins s σ H Q I q => h.run pins s σ H Q I (m σ H Q q)⟩
/-- what a reading of an expression hands on, as a value that stands still -/
theorem tE_val {e : E} {σ : L2.St} {H : Hp} {env envs : Env} {F Fs Hs : Hp} {γ δ : Type} {rel2 : γ → Env → Hp → Hp → δ → Prop} {kk : D × Env → Res (γ × Env)} {Q : δ → Hp → Prop} {Q' : V → Hp → Prop} (R : RelG X.K g env F σ H) (S : Stp σ envs Fs Hs env F H)
    (h : PostOf X.K g σ envs Fs Hs rel2 ((ev g e env).bind fun p => (Res.of (asVal p.1 p.2)).bind kk) Q)
    (hk : ∀ z v F1 H1, RelG X.K g z.2 F1 σ H1 → Stp σ envs Fs Hs z.2 F1 H1 → Rep X.K g.c F1 z.1 v → PostOf X.K g σ envs Fs Hs rel2 (kk z) Q → Q' v H1) : tE X.K g e σ H Q' :=
  tE_bind R S h fun p v F1 H1 R1 S1 S1' r1 h1 => by
    obtain ⟨z, ez, h2⟩ := of_inv h1
    obtain ⟨d, env2⟩ := z
    obtain ⟨F2, R2, S2, rep⟩ := R1.asVal S1' r1 ez
    exact hk _ v F2 H1 R2 S2 rep h2
/-- .. and what stood still ahead stands on -/
theorem tE_val' {e : E} {σ : L2.St} {H : Hp} {env envs : Env} {F Fs Hs : Hp} {γ δ : Type} {rel2 : γ → Env → Hp → Hp → δ → Prop} {kk : D × Env → Res (γ × Env)} {Q : δ → Hp → Prop} {Q' : V → Hp → Prop} (R : RelG X.K g env F σ H) (S : Stp σ envs Fs Hs env F H)
    (h : PostOf X.K g σ envs Fs Hs rel2 ((ev g e env).bind fun p => (Res.of (asVal p.1 p.2)).bind kk) Q)
    (hk : ∀ z v F1 H1, RelG X.K g z.2 F1 σ H1 → Stp σ envs Fs Hs z.2 F1 H1 → Sub F F1 → Rep X.K g.c F1 z.1 v → PostOf X.K g σ envs Fs Hs rel2 (kk z) Q → Q' v H1) : tE X.K g e σ H Q' :=
  tE_bind R S h fun p v F1 H1 R1 S1 S1' r1 h1 => by
    obtain ⟨z, ez, h2⟩ := of_inv h1
    obtain ⟨d, env2⟩ := z
    obtain ⟨F2, R2, S2, rep, fs, _⟩ := R1.asVal' S1' r1 ez
    exact hk _ v F2 H1 R2 S2 (S1.fsub.trans fs) rep h2
theorem i_seq {a : E} {a' : Expr} (ha : PE X a' (tE X.K g a)) : PI X tg a' (tI X.K g (.seq a)) := by
  refine ⟨fun pins s σ H R I ⟨env, F, Rl, h⟩ => ?_⟩
  have h' : PostI X.K g σ env F H ((ev g a env).bind fun p => (Res.of (asVal p.1 p.2)).bind fun z => match z.1 with
    | .lst xs => .ok (xs, z.2)
    | .tup xs => .ok (xs, z.2)
    | .str xs => .ok (xs.map fun c => .str [c], z.2)
    | _ => .bad) R := h
  cases e1 : ev g a env with
  | bad => rw [e1] at h'; exact h'.elim
  | exc _ _ =>
    refine (pi_list ha).run pins s σ H R I ⟨env, F, Rl, ?_⟩
    rw [e1] at h' ⊢
    exact h'
  | ok p =>
    cases e2 : asVal p.1 p.2 with
    | none => rw [e1] at h'; simp only [Res.bind_ok, e2, Res.of_none, Res.bind_bad] at h'; exact h'.elim
    | some z =>
      obtain ⟨d, env2⟩ := z
      have go : ∀ {Q' : V → Hp → Prop}, (∀ v F1 H1, RelG X.K g env2 F1 σ H1 → Stp σ env F H env2 F1 H1 → Rep X.K g.c F1 d v → Q' v H1) → tE X.K g a σ H Q' := fun {Q'} hk =>
        ⟨env, F, Rl, by
          rw [e1]
          intro v F1 H1 R1 S1 r1
          obtain ⟨F2, R2, S2, rep⟩ := R1.asVal S1 r1 e2
          exact hk v F2 H1 R2 S2 rep⟩
      rw [e1] at h'
      simp only [Res.bind_ok, e2, Res.of_some] at h'
      cases d with
      | lst xs =>
        refine (pi_list ha).run pins s σ H R I (go fun v F1 H1 R1 S1 rep => ?_)
        cases rep with
        | lst hF r l => exact ⟨_, rfl, ⟨_, .inl (.inl (R1.sub _ _ hF))⟩, h' _ F1 H1 R1 S1 (walks_list hF r)⟩
      | tup xs =>
        refine (pi_tup ha).run pins s σ H R I (go fun v F1 H1 R1 S1 rep => ?_)
        cases rep with
        | tup hF r l => exact ⟨_, rfl, ⟨_, sqT_sub R1.sub hF⟩, h' _ F1 H1 R1 S1 (walks_tup hF r)⟩
      | str xs =>
        refine (pi_str ha).run pins s σ H R I (go fun v F1 H1 R1 S1 rep => ?_)
        cases rep with
        | str _ hx => exact ⟨_, rfl, h' _ F1 H1 R1 S1 (walks_str hx)⟩
      | _ => exact h'.elim
theorem pa1 {a : E} {a' : Expr} (ha : PE X a' (tE X.K g a)) (hs : starEach [a'] X.env = [(false, eval a' X.env)]) : PA X [a'] (tCons (tE X.K g a) tNil) :=
  pa_cons ha pa_nil (by rw [hs]; rfl)
theorem i_ran1 {a : E} {a' : Expr} (G : Good X g ck k) (hg : glB ck.sc "range" = true) (ha : PE X a' (tE X.K g a)) (hs : starEach [a'] X.env = [(false, eval a' X.env)]) : PI X tg (.Call (.Name "range" p) [a'] [] pos) (tI X.K g (.ran1 a)) := by
  have hgl : Gl X "range" := by show X.env.scope.names.lookup _ = _; rw [G.sc]; exact glB_ok hg
  refine PI.mono (pi_range1 hgl (G.prog.free _ (by decide)) (pa1 ha hs) hs) fun σ H Q ⟨env, F, R, q⟩ => ?_
  refine tE_bind R .refl (show PostI X.K g σ env F H ((ev g a env).bind fun p => _) Q from q) fun p v F1 H1 R1 S1 S1' r1 h1 => ?_
  split at h1
  · rename_i j e
    obtain rfl := (R1.peek r1 e).of_int
    obtain ⟨⟨c1, c2, c3⟩, h2⟩ := if_inv h1
    exact ⟨j, rfl, by omega, by omega, h2 _ F1 H1 R1 S1' walks_range⟩
  · exact h1.elim
theorem i_ran2 {a b : E} {a' b' : Expr} (G : Good X g ck k) (hg : glB ck.sc "range" = true) (ha : PE X a' (tE X.K g a)) (hb : PE X b' (tE X.K g b)) (hs : starEach [a', b'] X.env = [(false, eval a' X.env), (false, eval b' X.env)]) (hs2 : starEach [b'] X.env = [(false, eval b' X.env)]) :
    PI X tg (.Call (.Name "range" p) [a', b'] [] pos) (tI X.K g (.ran2 a b)) := by
  have hgl : Gl X "range" := by show X.env.scope.names.lookup _ = _; rw [G.sc]; exact glB_ok hg
  refine PI.mono (pi_range2 hgl (G.prog.free _ (by decide)) (pa_cons ha (pa1 hb hs2) (by rw [hs, hs2])) hs hs2) fun σ H Q ⟨env, F, R, q⟩ => ?_
  refine two R (show PostI X.K g σ env F H ((ev g a env).bind fun p => (ev g b p.2).bind fun q => _) Q from q) fun p q v w F2 H2 R2 S2 k1 k2 h2 => ?_
  split at h2
  · rename_i i j e1 e2
    obtain rfl := (k1 _ e1).of_int
    obtain rfl := (k2 _ e2).of_int
    obtain ⟨⟨c1, c2, c3, c4, c5⟩, h3⟩ := if_inv h2
    exact ⟨i, j, rfl, ⟨by omega, by omega, by omega, by omega⟩, h3 _ F2 H2 R2 S2 walks_range⟩
  · exact h2.elim
theorem i_enu {a : E} {a' : Expr} {elts : List Expr} {kk : Nat} (G : Good X g ck k) (hg : glB ck.sc "enumerate" = true) (ha : PE X a' (tE X.K g a)) (hs : starEach [a'] X.env = [(false, eval a' X.env)]) :
    PI X (.Tuple elts kk tpos) (.Call (.Name "enumerate" p) [a'] [] pos) (tI X.K g (.enu a)) := by
  have hgl : Gl X "enumerate" := by show X.env.scope.names.lookup _ = _; rw [G.sc]; exact glB_ok hg
  refine PI.mono (pi_enum hgl (G.prog.free _ (by decide)) (pa1 ha hs) hs) fun σ H Q ⟨env, F, R, q⟩ => ?_
  refine tE_val R .refl (show PostI X.K g σ env F H ((ev g a env).bind fun p => (Res.of (asVal p.1 p.2)).bind fun z => _) Q from q) fun z v F1 H1 R1 S1 rep h1 => ?_
  obtain ⟨d, env2⟩ := z
  cases rep with
  | lst hF r l => exact ⟨_, _, rfl, .inl (.inl (R1.sub _ _ hF)), h1 _ F1 H1 R1 S1 (walks_enum hF r)⟩
  | _ => exact h1.elim
theorem i_zip {a b : E} {a' b' : Expr} {elts : List Expr} {kk : Nat} (G : Good X g ck k) (hg : glB ck.sc "zip" = true) (ha : PE X a' (tE X.K g a)) (hb : PE X b' (tE X.K g b)) (hs : starEach [a', b'] X.env = (false, eval a' X.env) :: starEach [b'] X.env) (hs2 : starEach [b'] X.env = [(false, eval b' X.env)])
    (hpl : (backTo pos (starEach [b'] X.env)).any (·.1) = false) : PI X (.Tuple elts kk tpos) (.Call (.Name "zip" p) [a', b'] [] pos) (tI X.K g (.zip a b false)) := by
  have hgl : Gl X "zip" := by show X.env.scope.names.lookup _ = _; rw [G.sc]; exact glB_ok hg
  refine PI.mono (RZ.pi_zipA hgl (G.prog.free _ (by decide)) (pa_cons ha (pa1 hb hs2) hs) hs hpl) fun σ H Q ⟨env, F, R, q⟩ => ?_
  refine tE_val R .refl (show PostI X.K g σ env F H ((ev g a env).bind fun p => (Res.of (asVal p.1 p.2)).bind fun z => _) Q from q) fun z v F1 H1 R1 S1 rep h1 => ?_
  refine tE_val' R1 S1 (show PostI X.K g σ env F H ((ev g b z.2).bind fun q => (Res.of (asVal q.1 q.2)).bind fun w => _) Q from h1) fun w u F2 H2 R2 S2 fs rep2 h2 => ?_
  obtain ⟨d, env2⟩ := z
  obtain ⟨e, env3⟩ := w
  have rep1 := rep.sub fs
  cases rep1 with
  | lst ha ra la =>
    cases rep2 with
    | lst hb rb lb =>
      have h3 := h2
      simp only [Bool.false_eq_true, false_and, if_false] at h3
      exact ⟨_, _, _, _, rfl, .inl ⟨.inl (.inl (R2.sub _ _ ha)), .inl (.inl (R2.sub _ _ hb)), h3 _ F2 H2 R2 S2 (walks_zip ha hb ra rb)⟩⟩
    | _ => exact h2.elim
  | tup ha ra la =>
    cases rep2 with
    | tup hb rb lb =>
      have h3 := h2
      simp only [Bool.false_eq_true, false_and, if_false] at h3
      exact ⟨_, _, _, _, rfl, .inr ⟨sqT_sub R2.sub ha, sqT_sub R2.sub hb, h3 _ F2 H2 R2 S2 (walks_zipT ha hb ra rb)⟩⟩
    | _ => exact h2.elim
  | _ => exact h2.elim
end
end Ev
namespace Ev
open PySem PySem.Spec PyProof.Rows L2
/-! ### arguments, in the parameters' order -/
structure RelI (K : PySem.W.Frag) (c : RC) (Hs : Hp) (env : Env) (F : Hp) (σ : L2.St) (H : Hp) (rs : List R) (vs : List V) : Prop where
  len : rs.length = vs.length
  get : ∀ (i : Nat) (r : R) (v : V), rs[i]? = some r → vs[i]? = some v → RelR K c Hs env F σ H r v
  dis : ∀ (i j : Nat) (d d' : D) (v v' : V), i ≠ j → rs[i]? = some (R.tmp d) → rs[j]? = some (R.tmp d') → vs[i]? = some v → vs[j]? = some v' → v ≠ v'
section
variable {K : PySem.W.Frag} {c : RC} {H0 Hs : Hp} {bs : List (Nat × Addr)} {env env' envs : Env} {F F' Fs H H' : Hp} {σ : L2.St} {r : R} {v : V}
theorem RelRs.relI {rs : List R} {vs : List V} (h : RelRs K c Hs env F σ H rs vs) : RelI K c Hs env F σ H rs vs := by
  induction h with
  | nil => exact ⟨rfl, fun i r v h => by simp at h, fun i j d d' v v' _ h => by simp at h⟩
  | cons r1 _ n ih =>
    refine ⟨by simp [ih.len], fun i r v h1 h2 => ?_, fun i j d d' v v' hij h1 h2 h3 h4 => ?_⟩
    · cases i with
      | zero => simp at h1 h2; subst h1 h2; exact r1
      | succ i => exact ih.get i r v (by simpa using h1) (by simpa using h2)
    · cases i with
      | zero =>
        cases j with
        | zero => exact absurd rfl hij
        | succ j =>
          simp at h1 h2 h3 h4
          subst h1 h3
          intro e
          subst e
          exact n d j d' rfl h2 h4
      | succ i =>
        cases j with
        | zero =>
          simp at h1 h2 h3 h4
          subst h2 h4
          intro e
          subst e
          exact n d' i d rfl h1 h3
        | succ j => exact ih.dis i j d d' v v' (by omega) (by simpa using h1) (by simpa using h2) (by simpa using h3) (by simpa using h4)
theorem RelI.step {rs : List R} {vs : List V} (S : Stp σ env F H env' F' H') (h : RelI K c Hs env F σ H rs vs) : RelI K c Hs env' F' σ H' rs vs :=
  ⟨h.len, fun i r v h1 h2 => RelR.step S (h.get i r v h1 h2), h.dis⟩
theorem RelI.start {Fa : Hp} {enva : Env} {rs : List R} {vs : List V} (S : Stp σ envs Fs Hs enva Fa H) (h : RelI K c H env F σ H' rs vs) : RelI K c Hs env F σ H' rs vs :=
  ⟨h.len, fun i r v h1 h2 => RelR.start S (h.get i r v h1 h2), h.dis⟩
/-- some, and later ones -/
theorem RelI.append {rs ss : List R} {vs ws : List V} {H1 F1 : Hp} {env1 : Env} (h : RelI K c Hs env1 F1 σ H1 rs vs) (S : Stp σ env1 F1 H1 env F H) (h2 : RelI K c H1 env F σ H ss ws) (S0 : Stp σ envs Fs Hs env1 F1 H1) : RelI K c Hs env F σ H (rs ++ ss) (vs ++ ws) := by
  have a := h.step S
  have b := h2.start S0
  have key : ∀ (i j : Nat) (d d' : D) (v v' : V), rs[i]? = some (R.tmp d) → ss[j]? = some (R.tmp d') → vs[i]? = some v → ws[j]? = some v' → v ≠ v' := by
    intro i j d d' v v' h1 h2' h3 h4 e
    subst e
    have r1 := h.get i _ v h1 h3
    have r2 := h2.get j _ v h2' h4
    obtain ⟨x, o, rfl, g1, _⟩ := r1
    obtain ⟨y, u, ey, _, _, _, g4, _⟩ := r2
    cases ey
    rw [g1] at g4
    cases g4
  refine ⟨by simp [a.len, b.len], fun i r v h1 h2' => ?_, fun i j d d' v v' hij h1 h2' h3 h4 => ?_⟩
  · rcases Nat.lt_or_ge i rs.length with q | q
    · rw [List.getElem?_append_left q] at h1
      rw [List.getElem?_append_left (a.len ▸ q)] at h2'
      exact a.get i r v h1 h2'
    · rw [List.getElem?_append_right q] at h1
      rw [List.getElem?_append_right (a.len ▸ q), ← a.len] at h2'
      exact b.get _ r v h1 h2'
  · rcases Nat.lt_or_ge i rs.length with q | q <;> rcases Nat.lt_or_ge j rs.length with q' | q'
    · rw [List.getElem?_append_left q] at h1
      rw [List.getElem?_append_left q'] at h2'
      rw [List.getElem?_append_left (a.len ▸ q)] at h3
      rw [List.getElem?_append_left (a.len ▸ q')] at h4
      exact a.dis i j d d' v v' hij h1 h2' h3 h4
    · rw [List.getElem?_append_left q] at h1
      rw [List.getElem?_append_right q'] at h2'
      rw [List.getElem?_append_left (a.len ▸ q)] at h3
      rw [List.getElem?_append_right (a.len ▸ q'), ← a.len] at h4
      exact key i _ d d' v v' h1 h2' h3 h4
    · rw [List.getElem?_append_right q] at h1
      rw [List.getElem?_append_left q'] at h2'
      rw [List.getElem?_append_right (a.len ▸ q), ← a.len] at h3
      rw [List.getElem?_append_left (a.len ▸ q')] at h4
      exact (key j _ d' d v' v h2' h1 h4 h3).symm
    · rw [List.getElem?_append_right q] at h1
      rw [List.getElem?_append_right q'] at h2'
      rw [List.getElem?_append_right (a.len ▸ q), ← a.len] at h3
      rw [List.getElem?_append_right (a.len ▸ q'), ← a.len] at h4
      exact b.dis _ _ d d' v v' (by omega) h1 h2' h3 h4
theorem nd_ix {α : Type} : ∀ {p : List α} {i j : Nat} {x : α}, p.Nodup → p[i]? = some x → p[j]? = some x → i = j
  | [], i, _, _, _, h, _ => by simp at h
  | y :: p, 0, 0, _, _, _, _ => rfl
  | y :: p, 0, j + 1, x, n, h1, h2 => by
    simp at h1 h2
    subst h1
    exact absurd (List.mem_of_getElem? h2) (List.nodup_cons.mp n).1
  | y :: p, i + 1, 0, x, n, h1, h2 => by
    simp at h1 h2
    subst h2
    exact absurd (List.mem_of_getElem? h1) (List.nodup_cons.mp n).1
  | y :: p, i + 1, j + 1, x, n, h1, h2 => by
    have := nd_ix (List.nodup_cons.mp n).2 (show p[i]? = some x by simpa using h1) (show p[j]? = some x by simpa using h2)
    omega
/-- values in another order -/
def arrange {α : Type} (p : List Nat) (xs : List α) : List α := match p with
  | [] => xs
  | p => p.filterMap fun j => xs[j]?
theorem mapM_get {α : Type} {xs ys : List α} : ∀ {p : List Nat}, p.mapM (fun j => xs[j]?) = some ys → ys.length = p.length ∧ p.filterMap (fun j => xs[j]?) = ys ∧ ∀ (i : Nat) (y : α), ys[i]? = some y → ∃ j : Nat, p[i]? = some j ∧ xs[j]? = some y
  | [], e => by simp at e; subst e; exact ⟨rfl, rfl, fun i y h => by simp at h⟩
  | j :: p, e => by
    rw [List.mapM_cons] at e
    cases q : xs[j]? with
    | none => rw [q] at e; cases e
    | some x =>
      rw [q] at e
      cases q2 : p.mapM (fun j => xs[j]?) with
      | none => rw [q2] at e; cases e
      | some zs =>
        rw [q2] at e
        cases e
        obtain ⟨h1, h2, h3⟩ := mapM_get q2
        refine ⟨by simp [h1], by simp [List.filterMap_cons, q, h2], fun i y h => ?_⟩
        cases i with
        | zero => simp at h; subst h; exact ⟨j, rfl, q⟩
        | succ i => obtain ⟨j', a, b⟩ := h3 i y (by simpa using h); exact ⟨j', by simpa using a, b⟩
theorem mapM_some {α β : Type} {xs : List α} {ys : List β} (hl : xs.length = ys.length) : ∀ {p : List Nat} {zs : List α}, p.mapM (fun j => xs[j]?) = some zs → ∃ ws, p.mapM (fun j => ys[j]?) = some ws
  | [], _, _ => ⟨[], rfl⟩
  | j :: p, zs, e => by
    rw [List.mapM_cons] at e
    cases q : xs[j]? with
    | none => rw [q] at e; cases e
    | some x =>
      rw [q] at e
      cases q2 : p.mapM (fun j => xs[j]?) with
      | none => rw [q2] at e; cases e
      | some us =>
        obtain ⟨ws, hw⟩ := mapM_some hl q2
        have hj : j < ys.length := hl ▸ (List.getElem?_eq_some_iff.mp q).1
        exact ⟨ys[j] :: ws, by rw [List.mapM_cons, List.getElem?_eq_getElem hj, hw]; rfl⟩
theorem RelI.permute {rs rs' : List R} {vs : List V} {p : List Nat} (h : RelI K c Hs env F σ H rs vs) (hp : p.Nodup) (e : permute rs p = some rs') : RelI K c Hs env F σ H rs' (arrange p vs) := by
  cases p with
  | nil => cases e; exact h
  | cons j p =>
    have e' : (j :: p).mapM (fun j => rs[j]?) = some rs' := e
    obtain ⟨ws, hw⟩ := mapM_some h.len e'
    obtain ⟨a1, a2, a3⟩ := mapM_get e'
    obtain ⟨b1, b2, b3⟩ := mapM_get hw
    have ea : arrange (j :: p) vs = ws := b2
    rw [ea]
    refine ⟨by rw [a1, b1], fun i r v h1 h2 => ?_, fun i i' d d' v v' hii h1 h2 h3 h4 => ?_⟩
    · obtain ⟨x, x1, x2⟩ := a3 i r h1
      obtain ⟨y, y1, y2⟩ := b3 i v h2
      rw [x1] at y1; cases y1
      exact h.get x r v x2 y2
    · obtain ⟨x, x1, x2⟩ := a3 i _ h1
      obtain ⟨y, y1, y2⟩ := b3 i v h3
      obtain ⟨x', x1', x2'⟩ := a3 i' _ h2
      obtain ⟨y', y1', y2'⟩ := b3 i' v' h4
      rw [x1] at y1; cases y1
      rw [x1'] at y1'; cases y1'
      refine h.dis x x' d d' v v' (fun e => hii ?_) x2 x2' y2 y2'
      subst e
      exact nd_ix hp x1 x1'
theorem RelI.head {rs : List R} {vs : List V} (h : RelI K c Hs env F σ H (r :: rs) (v :: vs)) : RelR K c Hs env F σ H r v := h.get 0 r v rfl rfl
theorem RelI.tail {rs : List R} {vs : List V} (h : RelI K c Hs env F σ H (r :: rs) (v :: vs)) : RelI K c Hs env F σ H rs vs :=
  ⟨by simpa using h.len, fun i r' v' h1 h2 => h.get (i + 1) r' v' (by simpa using h1) (by simpa using h2), fun i j d d' w w' hij h1 h2 h3 h4 => h.dis (i + 1) (j + 1) d d' w w' (by omega) (by simpa using h1) (by simpa using h2) (by simpa using h3) (by simpa using h4)⟩
/-- how far the slots may change when arguments are handed on -/
def Leaks (env env' : Env) : Prop := (∀ j, env'.at j = env.at j ∨ ∃ x, env.at j = .own x ∧ env'.at j = .val x) ∧ env'.length = env.length
theorem Leaks.refl (env : Env) : Leaks env env := ⟨fun _ => .inl rfl, rfl⟩
theorem Leaks.trans {e1 e2 e3 : Env} (a : Leaks e1 e2) (b : Leaks e2 e3) : Leaks e1 e3 := by
  refine ⟨fun j => ?_, b.2.trans a.2⟩
  rcases b.1 j with h | ⟨x, h1, h2⟩
  · rcases a.1 j with g | ⟨x, g1, g2⟩
    · exact .inl (h.trans g)
    · exact .inr ⟨x, g1, h.trans g2⟩
  · rcases a.1 j with g | ⟨y, g1, g2⟩
    · exact .inr ⟨x, g ▸ h1, h2⟩
    · rw [g2] at h1; cases h1
theorem asVal_leaks {d : D} (R : Rel K c H0 bs env F σ H) (e : asVal r env = some (d, env')) : Leaks env env' := by
  cases r with
  | val d => cases e; exact .refl _
  | tmp d => cases e; exact .refl _
  | var i =>
    have e' : (match env.at i with | .val d => some (d, env) | .own d => some (d, env.set i (.val d)) | _ => none) = some (d, env') := e
    cases q : env.at i with
    | no => rw [q] at e'; cases e'
    | byr x => rw [q] at e'; cases e'
    | val x => rw [q] at e'; cases e'; exact .refl _
    | own x =>
      rw [q] at e'; cases e'
      have hi : i < env.length := Env.at_lt (by rw [q]; intro z; cases z)
      refine ⟨fun j => ?_, by simp⟩
      rw [Env.at_set hi]
      by_cases z : i = j
      · subst z; rw [if_pos rfl]; exact .inr ⟨_, q, rfl⟩
      · rw [if_neg z]; exact .inl rfl
theorem passVals_ok {m : Option Nat} : ∀ {rs : List R} {vs : List V} {k : Nat} {ods : List (Option D)} {env env' : Env} {F : Hp}, Rel K c H0 bs env F σ H → Stp σ envs Fs Hs env F H → RelI K c Hs env F σ H rs vs → passVals m k rs env = some (ods, env') →
    ∃ F', Rel K c H0 bs env' F' σ H ∧ Stp σ envs Fs Hs env' F' H ∧ Sub F F' ∧ Leaks env env' ∧ ods.length = rs.length ∧
      (∀ (i : Nat) (d : D) (v : V), ods[i]? = some (some d) → vs[i]? = some v → Rep K c F' d v) ∧ (∀ i : Nat, i < rs.length → (ods[i]? = some none ↔ m = some (k + i))) ∧
      (∀ (i : Nat) (r : R) (v : V), m = some (k + i) → rs[i]? = some r → vs[i]? = some v → RelR K c Hs env' F' σ H r v) ∧
      (∀ (r' : R) (v' : V), RelR K c Hs env F σ H r' v' → (∀ (d' : D) (j : Nat) (d : D) (w : V), r' = .tmp d' → rs[j]? = some (R.tmp d) → vs[j]? = some w → w ≠ v') → RelR K c Hs env' F' σ H r' v')
  | [], vs, k, ods, env, env', F, R, S, h, e => by
    cases e
    exact ⟨F, R, S, Sub.refl _, .refl _, rfl, fun i d v h => by simp at h, fun i h => by simp at h, fun i r v _ h => by simp at h, fun _ _ q _ => q⟩
  | r :: rs, [], _, _, _, _, _, _, _, h, _ => by have := h.len; simp at this
  | r :: rs, v :: vs, k, ods, env, env', F, R, S, h, e => by
    by_cases hm : m = some k
    · have e' : (passVals m (k + 1) rs env).map (fun p => (none :: p.1, p.2)) = some (ods, env') := by
        simpa [passVals, hm] using e
      cases q : passVals m (k + 1) rs env with
      | none => rw [q] at e'; cases e'
      | some p =>
        obtain ⟨os, env2⟩ := p
        rw [q] at e'
        cases e'
        obtain ⟨F', R', S', s', lk, hl, h1, h2, h3, h4⟩ := passVals_ok R S h.tail q
        refine ⟨F', R', S', s', lk, by simp [hl], fun i d w g1 g2 => ?_, fun i hi => ?_, fun i r' v' g1 g2 g3 => ?_, fun r' v' g1 g2 => h4 r' v' g1 fun d' j d w a b c' => g2 d' (j + 1) d w a (by simpa using b) (by simpa using c')⟩
        · cases i with
          | zero => simp at g1
          | succ i => exact h1 i d w (by simpa using g1) (by simpa using g2)
        · cases i with
          | zero => simp [hm]
          | succ i =>
            have := h2 i (by simpa using hi)
            rw [show k + (i + 1) = k + 1 + i by omega]
            simpa using this
        · cases i with
          | zero =>
            simp at g2 g3
            subst g2 g3
            exact h4 r v h.head fun d' j d w a b c' => by
              subst a
              exact fun z => h.dis 0 (j + 1) d' d v w (by omega) rfl (by simpa using b) rfl (by simpa using c') z.symm
          | succ i => rw [hm] at g1; cases g1
    · have e' : ((asVal r env).bind fun q => (passVals m (k + 1) rs q.2).map fun p => (some q.1 :: p.1, p.2)) = some (ods, env') := by
        simpa [passVals, hm] using e
      cases qa : asVal r env with
      | none => rw [qa] at e'; cases e'
      | some p =>
        obtain ⟨d, env1⟩ := p
        rw [qa] at e'
        simp only [Option.bind_some] at e'
        cases q : passVals m (k + 1) rs env1 with
        | none => rw [q] at e'; cases e'
        | some p =>
          obtain ⟨os, env2⟩ := p
          rw [q] at e'
          cases e'
          obtain ⟨F1, R1, S1, rep, s1, oth, _, _⟩ := R.asVal' S h.head qa
          have ht : RelI K c Hs env1 F1 σ H rs vs := ⟨h.tail.len, fun i r' v' g1 g2 => oth r' v' (h.tail.get i r' v' g1 g2) fun x y a b => by
            subst a b
            exact h.dis 0 (i + 1) x y v v' (by omega) rfl (by simpa using g1) rfl (by simpa using g2), h.tail.dis⟩
          obtain ⟨F', R', S', s', lk, hl, h1, h2, h3, h4⟩ := passVals_ok R1 S1 ht q
          refine ⟨F', R', S', s1.trans s', (asVal_leaks R qa).trans lk, by simp [hl], fun i x w g1 g2 => ?_, fun i hi => ?_, fun i r' v' g1 g2 g3 => ?_, fun r' v' g1 g2 => h4 r' v' (oth r' v' g1 fun x y a b => ?_) fun d' j d w a b c' => g2 d' (j + 1) d w a (by simpa using b) (by simpa using c')⟩
          · cases i with
            | zero => simp at g1 g2; subst g1 g2; exact rep.sub s'
            | succ i => exact h1 i x w (by simpa using g1) (by simpa using g2)
          · cases i with
            | zero => simp; exact hm
            | succ i =>
              have := h2 i (by simpa using hi)
              rw [show k + (i + 1) = k + 1 + i by omega]
              simpa using this
          · cases i with
            | zero => exact absurd (by simpa using g1) hm
            | succ i => exact h3 i r' v' (by rw [g1]; congr 1; omega) (by simpa using g2) (by simpa using g3)
          · subst a b
            exact g2 y 0 x v rfl rfl rfl
end
end Ev
namespace Ev
open PySem PySem.Spec PyProof.Rows L2
/-! ### how a call binds -/
theorem kw_loop {ps : List Str} {f : (Str × Value) → (List (Str × Value) × List (Str × Value)) → Sem (ForInStep (List (Str × Value) × List (Str × Value)))}
    (hf : ∀ x s, ps.contains x.1 = true → (List.lookup x.1 s.1).isSome = false → f x s = pure (.yield (s.1 ++ [(x.1, x.2)], s.2))) :
    ∀ (kw : List (Str × Value)) (s : List (Str × Value) × List (Str × Value)), (∀ x ∈ kw, ps.contains x.1 = true) → (kw.map (·.1)).Nodup → (∀ x ∈ kw, List.lookup x.1 s.1 = none) → forIn kw s f = pure (s.1 ++ kw, s.2)
  | [], s, _, _, _ => by simp
  | x :: kw, s, h1, h2, h3 => by
    rw [List.forIn_cons, hf x s (h1 x (List.mem_cons_self ..)) (by rw [h3 x (List.mem_cons_self ..)]; rfl), pure_bind]
    simp only [List.map_cons, List.nodup_cons] at h2
    have := kw_loop hf kw (s.1 ++ [(x.1, x.2)], s.2) (fun y hy => h1 y (List.mem_cons_of_mem _ hy)) h2.2 fun y hy => by
      rw [List.lookup_append, h3 y (List.mem_cons_of_mem _ hy)]
      have ne : y.1 ≠ x.1 := fun e => h2.1 (by rw [← e]; exact List.mem_map_of_mem hy)
      simp [List.lookup_cons, beq_eq_false_iff_ne.mpr ne]
    refine Eq.trans this ?_
    rw [List.append_assoc]
    rfl
theorem lookup_zip_none {ps : List Str} {us : List Value} {x : Str} (h : x ∉ ps.take us.length) : List.lookup x (ps.zip us) = none := by
  rw [List.lookup_eq_none_iff]
  intro p hp
  have : p.1 ∈ ps.take us.length := by
    rw [List.zip_eq_zip_take_min] at hp
    have h1 := (List.of_mem_zip hp).1
    rw [Nat.min_comm] at h1
    exact List.mem_of_mem_take (i := ps.length) (by rw [List.take_take, Nat.min_comm]; exact h1)
  have ne : x ≠ p.1 := fun e => h (by rw [e]; exact this)
  simpa using ne
theorem bind_plain {fd : FuncData} {ps ks : List Str} {us ws xs : List Value} (P : Plain fd ps) (hn : us.length ≤ ps.length) (hk : ks.Nodup) (hin : ∀ k ∈ ks, k ∈ ps ∧ k ∉ ps.take us.length) (hl : ks.length = ws.length)
    (hx : xs.length = ps.length) (hv : ∀ (i : Nat) (x : Str) (v : Value), ps[i]? = some x → xs[i]? = some v → List.lookup x (ps.zip us ++ ks.zip ws) = some v) : bindArgs fd ⟨us, ks.zip ws⟩ = pure (ps.zip xs) := by
  obtain ⟨h1, h2, h3, h4, h5, h6, h7⟩ := P
  have all : ∀ x ∈ ps, (List.lookup x (ps.zip us ++ ks.zip ws)).isNone = false := fun x hx' => by
    obtain ⟨i, hi, e⟩ := List.mem_iff_getElem.mp hx'
    rw [hv i x (xs[i]'(by omega)) (by rw [List.getElem?_eq_getElem hi, e]) (List.getElem?_eq_getElem _)]; rfl
  unfold bindArgs
  simp only [h1, h2, h3, h4, h5, h6, List.map_nil, List.nil_append, List.append_nil, Option.isNone_none, Bool.and_true, Option.isSome_none, List.contains_nil, Bool.or_false]
  rw [kw_loop (ps := ps) (fun x s a b => by rw [if_pos a, if_neg (by rw [b]; simp)]) (ks.zip ws) (ps.zip us, []) ?_ ?_ ?_]
  · rw [pure_bind]
    show (seqItems? Value.none >>= _) = _
    rw [show seqItems? Value.none = pure none from rfl, pure_bind]
    simp only [Option.getD_none, List.length_nil, Nat.zero_sub, List.drop_nil, Nat.sub_zero, List.take_length, List.drop_length, List.zip_nil_left]
    rw [if_neg (by simp; omega)]
    have hf : List.filter (fun n => (List.lookup n (ps.zip us ++ ks.zip ws)).isNone) ps = [] := List.filter_eq_nil_iff.mpr fun x hx => by rw [all x hx]; simp
    rw [hf]
    simp only [List.isEmpty_nil, Bool.not_true, Bool.false_eq_true, if_false, List.forIn_nil, pure_bind]
    congr 1
    apply List.ext_getElem?
    intro i
    have e : ∀ (qs : List Str) (ys : List Value), ys.length = qs.length → (∀ (i : Nat) (x : Str) (v : Value), qs[i]? = some x → ys[i]? = some v → List.lookup x (ps.zip us ++ ks.zip ws) = some v) →
        List.filterMap (fun n => Option.map (fun x => (n, x)) (List.lookup n (ps.zip us ++ ks.zip ws))) qs = qs.zip ys := by
      intro qs
      induction qs with
      | nil => intro ys _ _; rfl
      | cons q qs ih =>
        intro ys hy hv'
        cases ys with
        | nil => simp at hy
        | cons y ys =>
          rw [List.filterMap_cons, hv' 0 q y rfl rfl]
          simp only [Option.map_some, List.zip_cons_cons, List.cons.injEq, true_and]
          exact ih ys (by simpa using hy) fun i x v a b => hv' (i + 1) x v (by simpa using a) (by simpa using b)
    rw [e ps xs hx hv]
  · intro x hx'
    have := (hin x.1 (List.of_mem_zip hx').1).1
    simpa using this
  · rw [List.map_fst_zip (by omega)]; exact hk
  · intro x hx'
    exact lookup_zip_none (hin x.1 (List.of_mem_zip hx').1).2
end Ev
namespace Ev
open PySem PySem.Spec PyProof.Rows L2
/-- n written arguments, keywords named ks, parameters ps: p tells where each parameter's value stands -/
def kwB (n : Nat) (ks ps : List Str) (p : List Nat) : Bool :=
  match ks with
  | [] => p.isEmpty && decide (n = ps.length)
  | _ => decide (p.length = ps.length) && decide (n ≤ ps.length) && decide ks.Nodup && decide p.Nodup && (List.range ps.length).all (fun i => match p[i]? with
    | some j => if i < n then decide (j = i) else decide (n ≤ j) && decide (ks[j - n]? = ps[i]?)
    | none => false) && ks.all fun x => decide (x ∈ ps) && decide (x ∉ ps.take n)
theorem lookup_zip {ps : List Str} {us : List Value} {i : Nat} {x : Str} {v : Value} : ∀ (_ : ps.Nodup) (_ : ps[i]? = some x) (_ : us[i]? = some v), List.lookup x (ps.zip us) = some v := by
  induction ps generalizing us i with
  | nil => intro _ h; simp at h
  | cons p ps ih =>
    intro nd h1 h2
    cases us with
    | nil => simp at h2
    | cons u us =>
      cases i with
      | zero => simp at h1 h2; subst h1 h2; simp
      | succ i =>
        have h1' : ps[i]? = some x := by simpa using h1
        have ne : x ≠ p := fun e => (List.nodup_cons.mp nd).1 (e ▸ List.mem_of_getElem? h1')
        rw [List.zip_cons_cons, List.lookup_cons, beq_eq_false_iff_ne.mpr ne]
        exact ih (List.nodup_cons.mp nd).2 h1' (by simpa using h2)
theorem arrange_len {α : Type} {n m : Nat} {ks ps : List Str} {p : List Nat} (h : kwB n ks ps p = true) {us ws : List α} (hu : us.length = n) (hw : ws.length = ks.length) : (arrange p (us ++ ws)).length = ps.length ∧ ∀ i, i < ps.length → ∃ j, (arrange p (us ++ ws))[i]? = (us ++ ws)[j]? ∧ (ks = [] ∧ j = i ∨ ks ≠ [] ∧ p[i]? = some j) := by
  cases ks with
  | nil =>
    simp only [kwB, Bool.and_eq_true, List.isEmpty_iff, decide_eq_true_eq] at h
    obtain ⟨rfl, e⟩ := h
    have hw' : ws = [] := List.eq_nil_of_length_eq_zero hw
    subst hw'
    exact ⟨by simp [arrange, hu, e], fun i hi => ⟨i, by simp [arrange], .inl ⟨rfl, rfl⟩⟩⟩
  | cons k ks =>
    simp only [kwB, Bool.and_eq_true, decide_eq_true_eq] at h
    obtain ⟨⟨⟨⟨⟨h1, h2⟩, h3⟩, h4⟩, h5⟩, h6⟩ := h
    have inb : ∀ j ∈ p, j < (us ++ ws).length := by
      intro j hj
      obtain ⟨i, hi, e⟩ := List.mem_iff_getElem.mp hj
      have := List.all_eq_true.mp h5 i (List.mem_range.mpr (h1 ▸ hi))
      rw [List.getElem?_eq_getElem hi, e] at this
      simp only at this
      rw [List.length_append, hu, hw]
      by_cases z : i < n
      · rw [if_pos z] at this
        have := of_decide_eq_true this
        omega
      · rw [if_neg z] at this
        simp only [Bool.and_eq_true, decide_eq_true_eq] at this
        obtain ⟨a, b⟩ := this
        have hb : (k :: ks)[j - n]? ≠ none := by
          rw [b, List.getElem?_eq_getElem (h1 ▸ hi)]; intro z; cases z
        rcases Nat.lt_or_ge (j - n) (k :: ks).length with q | q
        · omega
        · exact absurd (List.getElem?_eq_none q) hb
    have key : ∀ (q : List Nat), (∀ j ∈ q, j < (us ++ ws).length) → (q.filterMap fun j => (us ++ ws)[j]?).length = q.length ∧ ∀ i, i < q.length → ∃ j, (q.filterMap fun j => (us ++ ws)[j]?)[i]? = (us ++ ws)[j]? ∧ q[i]? = some j := by
      intro q
      induction q with
      | nil => intro _; exact ⟨rfl, fun i hi => absurd hi (Nat.not_lt_zero _)⟩
      | cons a q ih =>
        intro hq
        obtain ⟨l, g⟩ := ih fun j hj => hq j (List.mem_cons_of_mem _ hj)
        have ea : (us ++ ws)[a]? = some ((us ++ ws)[a]'(hq a (List.mem_cons_self ..))) := List.getElem?_eq_getElem _
        rw [List.filterMap_cons, ea]
        refine ⟨by simp [l], fun i hi => ?_⟩
        cases i with
        | zero => exact ⟨a, by rw [ea]; rfl, rfl⟩
        | succ i =>
          obtain ⟨j, e1, e2⟩ := g i (by simpa using hi)
          exact ⟨j, by simpa using e1, by simpa using e2⟩
    cases p with
    | nil =>
      have : ps = [] := List.eq_nil_of_length_eq_zero h1.symm
      subst this
      have := List.all_eq_true.mp h6 k (List.mem_cons_self ..)
      simp at this
    | cons a q =>
      obtain ⟨l, g⟩ := key (a :: q) inb
      refine ⟨by rw [← h1]; exact l, fun i hi => ?_⟩
      obtain ⟨j, e1, e2⟩ := g i (by rw [h1]; exact hi)
      exact ⟨j, e1, .inr ⟨by simp, e2⟩⟩
theorem binds_ok {fd : FuncData} {ps ks : List Str} {p : List Nat} {s : Shared} {us ws : List Value} (P : Plain fd ps) (h : kwB us.length ks ps p = true) (hl : ws.length = ks.length) : BindsTo s fd ⟨us, ks.zip ws⟩ (ps.zip (arrange p (us ++ ws))) := by
  obtain ⟨al, ag⟩ := arrange_len (m := 0) h rfl hl
  refine BindsTo.of_eq ?_
  cases ks with
  | nil =>
    have hw' : ws = [] := List.eq_nil_of_length_eq_zero hl
    subst hw'
    simp only [kwB, Bool.and_eq_true, List.isEmpty_iff, decide_eq_true_eq] at h
    obtain ⟨rfl, e⟩ := h
    refine bind_plain (ks := []) (ws := []) P (by omega) (by simp) (by simp) rfl al fun i x v h1 h2 => ?_
    simp only [arrange, List.append_nil] at h2
    rw [List.lookup_append, lookup_zip P.nd h1 h2]; rfl
  | cons k ks =>
    have h0 := h
    simp only [kwB, Bool.and_eq_true, decide_eq_true_eq] at h
    obtain ⟨⟨⟨⟨⟨h1, h2⟩, h3⟩, h4⟩, h5⟩, h6⟩ := h
    refine bind_plain P h2 h3 (fun x hx => ?_) hl.symm al fun i x v g1 g2 => ?_
    · have := List.all_eq_true.mp h6 x hx
      simpa using this
    · have hi : i < ps.length := (List.getElem?_eq_some_iff.mp g1).1
      obtain ⟨j, e1, e2⟩ := ag i hi
      rcases e2 with ⟨z, _⟩ | ⟨_, e2⟩
      · cases z
      · have c := List.all_eq_true.mp h5 i (List.mem_range.mpr hi)
        rw [e2] at c
        simp only at c
        rw [g2] at e1
        by_cases z : i < us.length
        · rw [if_pos z] at c
          obtain rfl := of_decide_eq_true c
          rw [List.getElem?_append_left z] at e1
          rw [List.lookup_append, lookup_zip P.nd g1 e1.symm]; rfl
        · rw [if_neg z] at c
          simp only [Bool.and_eq_true, decide_eq_true_eq] at c
          obtain ⟨c1, c2⟩ := c
          rw [List.getElem?_append_right c1] at e1
          have nx : x ∉ ps.take us.length := by
            intro hx
            obtain ⟨i', hi', e'⟩ := List.mem_iff_getElem.mp hx
            rw [List.length_take] at hi'
            have : ps[i']? = some x := by
              rw [List.getElem_take] at e'
              rw [List.getElem?_eq_getElem (by omega), e']
            have := nd_ix P.nd this g1
            omega
          rw [List.lookup_append, lookup_zip_none nx, Option.none_or]
          exact lookup_zip h3 (c2.trans g1) e1.symm
/-! ### the call of a def -/
def tCallG (n m : Nat) (p : List Nat) (sp : Sp) (E : L2.St → XK) (ta tk : TA) : TE := fun σ H Q => ta σ H fun vs H1 => tk σ H1 fun zs H2 => vs.length = n ∧ zs.length = m ∧ sp (arrange p (vs ++ zs)) H2 Q (E σ)
section
variable {X : Cx} {CX : CXT} {k : Nat} {f : Addr} {fd : FuncData} {ps : List Str} {sp : Sp} {E : L2.St → XK} {x : Str} {p pos : Pos} {es : List Expr} {kws : List Keyword} {ta tk : TA} {pm : List Nat}
theorem vals_arrange {pm : List Nat} : ∀ {vs : List V} {us : List Value}, Vals vs us → Vals (arrange pm vs) (arrange pm us) := by
  intro vs us r
  cases pm with
  | nil => exact r
  | cons a q =>
    have key : ∀ (q : List Nat), Vals (q.filterMap fun j => vs[j]?) (q.filterMap fun j => us[j]?) := by
      intro q
      induction q with
      | nil => exact .nil
      | cons a q ih =>
        rw [List.filterMap_cons, List.filterMap_cons]
        cases e : vs[a]? with
        | none => rw [r.none_of e]; exact ih
        | some v =>
          obtain ⟨u, e2, rv⟩ := r.get e
          rw [e2]
          exact .cons rv ih
    exact key (a :: q)
theorem run_fnG {pins : List (Addr × Obj)} {σ : L2.St} {H : Hp} {s : Shared} {Q : VK} {us ws : List Value} {vs zs : List V} {ks : List Str} (F : FnOk X.prog X.w X.K X.mg X.base CX k f fd ps sp) (hr : Room k X.A) (P : Plain fd ps) (hx : PassesAt CX X σ (E σ))
    (I : Inv X pins σ H s) (r : Vals vs us) (rz : Vals zs ws) (hb : kwB us.length ks ps pm = true) (hl : ws.length = ks.length) (h : sp (arrange pm (vs ++ zs)) H Q (E σ)) : wpAny (model X.prog X.w) X.A (call (.ref f) us (ks.zip ws)) (EP X pins σ Q) X.xe s := by
  refine wpAny_call (codeAny_mono (F.run X.A X.stack s H ⟨us, ks.zip ws⟩ (arrange pm (us ++ ws)) (arrange pm (vs ++ zs)) Q (E σ) hr I.env0 (binds_ok P hb hl) (vals_arrange (r.append rz)) h) fun r s' hq => ?_)
  cases r with
  | error e => exact hx pins H s e s' I hq
  | ok fl =>
    cases fl with
    | ret u => exact I.after hq
    | next => exact False.elim hq
    | brk => exact False.elim hq
    | cont => exact False.elim hq
theorem pe_callG (F : FnOk X.prog X.w X.K X.mg X.base CX k f fd ps sp) (hr : Room k X.A) (hg : Gl X x) (hm : X.mg x = some (.ref f)) (hk : PySem.W.keepIn X.K (.ref f) = true) (P : Plain fd ps) (hx : ∀ σ, PassesAt CX X σ (E σ)) (ks : List Str) (hb : kwB es.length ks ps pm = true)
    (ha : PA X es ta) (h0 : es = [] → ∀ σ H Q, ta σ H Q → Q [] H) (hkw : PK X kws tk) (hall : (backToKw pos (keywordEach kws X.env)).all (·.1.isSome) = true) (hks : (backToKw pos (keywordEach kws X.env)).filterMap (·.1) = ks) (hdb : (x == ("__debug__" : Str)) = false)
    (he : ∀ e r, es = e :: r → starEach es X.env = (false, eval e X.env) :: starEach r X.env) (hpl : ((backTo pos (starEach es X.env)).any (·.1) || (backToKw pos (keywordEach kws X.env)).any (·.1.isNone)) = false) :
    PE X (.Call (.Name x p) es kws pos) (tCallG es.length ks.length pm sp E ta tk) := by
  refine ⟨fun pins s σ H Q I h => ?_⟩
  refine wpAny_Call_Name_kw (ld_glob I hg hm ?_ hdb)
  cases es with
  | nil =>
    have q1 := h0 rfl σ H _ h
    refine PySem.W.callWith_KW0 (h₀ := X.base) I.ok.mod.kin hk hall (thn (hkw.run pos pins s σ H _ I q1) fun ws s2 ⟨zs, H2, I2, rz, l1, l2, q2⟩ => ⟨I2.kIn, ?_⟩) hpl
    rw [hks]
    exact run_fnG (ks := ks) F hr P (hx σ) I2 .nil rz hb (by rw [← rz.length]; exact l2) q2
  | cons e r =>
    refine PySem.W.callWith_KW (h₀ := X.base) I.ok.mod.kin hk hall (thn (ha.run pos pins s σ H _ I h) fun us s1 ⟨vs, H1, I1, r1, q1⟩ => ?_) hpl (he e r rfl)
    refine thn (hkw.run pos pins s1 σ H1 _ I1 q1) fun ws s2 ⟨zs, H2, I2, rz, l1, l2, q2⟩ => ⟨I2.kIn, ?_⟩
    rw [hks]
    exact run_fnG (ks := ks) F hr P (hx σ) I2 r1 rz (by rw [List.nil_append, ← r1.length, l1]; exact hb) (by rw [← rz.length]; exact l2) q2
end
end Ev
namespace Ev
open PySem PySem.Spec PyProof.Rows L2
section
variable {K : PySem.W.Frag} {c : RC} {H0 Hs : Hp} {bs : List (Nat × Addr)} {env env' envs : Env} {F F' Fs H H' : Hp} {σ : L2.St} {r : R} {v : V}
theorem atom_flat {d : D} (h : (d.flat && (match d with | .lst _ => false | _ => true)) = true) : d.atom = true := by
  cases d <;> simp [D.flat] at h ⊢ <;> exact h
theorem RepO.flat {d : D} {o : HO} (h : RepO K c F d o) (f : d.flat = true) : RepO K c F' d o := by
  obtain ⟨ds, vs, rfl, rfl, r, l⟩ := h.lst
  exact ⟨r.atoms (by simpa [D.flat] using f), l⟩
/-- the slots behind a call: kept but for the changed one -/
theorem Rel.after (R : Rel K c H0 bs env F σ H) (fs : Sub F F') (s : Sub F' H') (ma : Option Addr) (kp : ∀ a o, H a = some o → ma ≠ some a → H' a = some o) (th : ∀ a o, H a = some o → ∃ u, H' a = some u)
    (gr : ∀ a o, F' a = some o → F a = some o ∨ H a = none) (slot : Option Nat) (out : Option D)
    (h1 : ∀ i, slot = some i → ∃ a d o, (env.at i).mine = true ∧ σ[i]? = some (some (.ref a)) ∧ ma = some a ∧ out = some d ∧ H' a = some o ∧ RepO K c F' d o ∧ F' a = none)
    (h2 : slot = none → ∀ a, ma = some a → ¬ Owned env σ a ∧ H0 a = none) (hb : back env slot out = some env') : Rel K c H0 bs env' F' σ H' := by
  have nF : ∀ a, F a = none → (∃ o, H a = some o) → F' a = none := fun a h1 ⟨o, h2⟩ => by
    cases e : F' a with
    | none => rfl
    | some u =>
      rcases gr a u e with z | z
      · rw [h1] at z; cases z
      · rw [h2] at z; cases z
  have ma0 : ∀ a, ma = some a → (∃ o, H0 a = some o) → ∃ i, (i, a) ∈ bs := by
    intro a e ⟨o, h0⟩
    cases slot with
    | none => have := (h2 rfl a e).2; rw [h0] at this; cases this
    | some i =>
      obtain ⟨b, d, u, g1, g2, g3, _⟩ := h1 i rfl
      rw [e] at g3; cases g3
      cases q : env.at i with
      | no => rw [q] at g1; cases g1
      | val x => rw [q] at g1; cases g1
      | own x =>
        obtain ⟨b', _, k1, _, _, _, k5⟩ := R.own i x q
        rw [g2] at k1; cases k1
        rw [h0] at k5; cases k5
      | byr x =>
        obtain ⟨b', _, k1, _, _, _, k5⟩ := R.byr i x q
        rw [g2] at k1; cases k1
        exact ⟨i, k5⟩
  have other : ∀ j a, (env.at j).mine = true → σ[j]? = some (some (.ref a)) → slot ≠ some j → ma ≠ some a := by
    intro j a hm hs hne e
    cases slot with
    | none => exact (h2 rfl a e).1 ⟨j, hm, hs⟩
    | some i =>
      obtain ⟨b, d, u, g1, g2, g3, _⟩ := h1 i rfl
      rw [e] at g3; cases g3
      exact hne (by rw [R.dist i j a g1 hm g2 hs])
  have hat : ∀ j, env'.at j = if slot = some j then out.elim (env.at j) (env.at j).put else env.at j := by
    intro j
    cases slot with
    | none => cases hb; simp
    | some i =>
      cases out with
      | none => cases hb
      | some d =>
        cases hb
        obtain ⟨b, _, _, g1, _⟩ := h1 i rfl
        have hi : i < env.length := Env.at_lt (by intro z; rw [z] at g1; cases g1)
        rw [Env.at_set hi]
        by_cases z : i = j
        · subst z; simp
        · simp [z]
  have hlen : env'.length = env.length := by
    cases slot with
    | none => cases hb; rfl
    | some i =>
      cases out with
      | none => cases hb
      | some d => cases hb; simp
  have mineEq : ∀ j, (env'.at j).mine = (env.at j).mine := by
    intro j
    rw [hat]
    by_cases z : slot = some j
    · rw [if_pos z]
      cases out with
      | none => rfl
      | some d => cases env.at j <;> rfl
    · rw [if_neg z]
  refine ⟨s, hlen.trans R.len, fun i d q => ?_, fun i d q => ?_, fun i d q => ?_, fun i j a g1 g2 => R.dist i j a (mineEq i ▸ g1) (mineEq j ▸ g2), fun a o g1 g2 => ?_, fun a o g => ?_⟩
  · rw [hat] at q
    by_cases z : slot = some i
    · rw [if_pos z] at q
      obtain ⟨b, x, u, g1, _, _, e, _⟩ := h1 i z
      subst e
      cases w : env.at i <;> rw [w] at q g1 <;> first | (simp [Sl.mine] at g1; done) | (simp [Sl.put] at q; done)
    · rw [if_neg z] at q
      obtain ⟨v, g1, g2⟩ := R.val i d q
      exact ⟨v, g1, g2.sub fs⟩
  · rw [hat] at q
    by_cases z : slot = some i
    · rw [if_pos z] at q
      obtain ⟨a, x, u, g1, g2, g3, e, g4, g5, g6⟩ := h1 i z
      subst e
      cases w : env.at i with
      | own y =>
        rw [w] at q
        cases q
        obtain ⟨b, _, k1, _, _, _, k5⟩ := R.own i y w
        rw [g2] at k1; cases k1
        exact ⟨a, u, g2, g4, g5, g6, k5⟩
      | _ => rw [w] at q; cases q
    · rw [if_neg z] at q
      obtain ⟨a, o, k1, k2, k3, k4, k5⟩ := R.own i d q
      exact ⟨a, o, k1, kp a o k2 (other i a (by rw [q]; rfl) k1 z), k3.sub fs, nF a k4 ⟨o, k2⟩, k5⟩
  · rw [hat] at q
    by_cases z : slot = some i
    · rw [if_pos z] at q
      obtain ⟨a, x, u, g1, g2, g3, e, g4, g5, g6⟩ := h1 i z
      subst e
      cases w : env.at i with
      | byr y =>
        rw [w] at q
        cases q
        obtain ⟨b, _, k1, _, _, _, k5⟩ := R.byr i y w
        rw [g2] at k1; cases k1
        exact ⟨a, u, g2, g4, g5, g6, k5⟩
      | _ => rw [w] at q; cases q
    · rw [if_neg z] at q
      obtain ⟨a, o, k1, k2, k3, k4, k5⟩ := R.byr i d q
      exact ⟨a, o, k1, kp a o k2 (other i a (by rw [q]; rfl) k1 z), k3.sub fs, nF a k4 ⟨o, k2⟩, k5⟩
  · refine kp a o (R.ext a o g1 g2) fun e => ?_
    obtain ⟨i, hi⟩ := ma0 a e ⟨o, g1⟩
    exact g2 i hi
  · obtain ⟨u, e⟩ := R.th a o g
    exact th a u e
end
theorem back_mine {env env' : Env} {slot : Option Nat} {out : Option D} (h : back env slot out = some env') (j : Nat) : (env'.at j).mine = (env.at j).mine := by
  cases slot with
  | none => cases h; rfl
  | some i =>
    cases out with
    | none => cases h
    | some d =>
      cases h
      rw [Env.at_set']
      split
      · rename_i z
        obtain ⟨rfl, _⟩ := z
        cases env.at i <;> rfl
      · rfl
section
variable {X : Cx} {g : Gh} {ck : Ck} {k : Nat} {pos p : Pos}
theorem fillIn_len (d : D) : ∀ ods : List (Option D), (fillIn d ods).length = ods.length
  | [] => rfl
  | none :: r => by simp [fillIn, fillIn_len d r]
  | some x :: r => by simp [fillIn, fillIn_len d r]
theorem fillIn_get (d : D) : ∀ (ods : List (Option D)) (i : Nat) (x : D), (fillIn d ods)[i]? = some x → ods[i]? = some (some x) ∨ (ods[i]? = some none ∧ x = d)
  | [], i, x, h => by simp [fillIn] at h
  | none :: r, 0, x, h => by simp [fillIn] at h; subst h; exact .inr ⟨rfl, rfl⟩
  | none :: r, i + 1, x, h => by simpa using fillIn_get d r i x (by simpa [fillIn] using h)
  | some y :: r, 0, x, h => by simp [fillIn] at h; subst h; exact .inl rfl
  | some y :: r, i + 1, x, h => by simpa using fillIn_get d r i x (by simpa [fillIn] using h)
theorem filterMap_all : ∀ (ods : List (Option D)), (∀ i, i < ods.length → ods[i]? ≠ some none) → (ods.filterMap id).length = ods.length ∧ ∀ (i : Nat) (x : D), (ods.filterMap id)[i]? = some x → ods[i]? = some (some x)
  | [], _ => ⟨rfl, fun i x h => by simp at h⟩
  | none :: r, h => absurd rfl (h 0 (by simp))
  | some y :: r, h => by
    obtain ⟨a, b⟩ := filterMap_all r fun i hi => by have := h (i + 1) (by simpa using hi); simpa using this
    refine ⟨by simp [a], fun i x e => ?_⟩
    cases i with
    | zero => simp at e; subst e; rfl
    | succ i => have := b i x (by simpa using e); simpa using this
/-- what the call of a def is worth -/
theorem call_sp {f : Nat} {fd : Fn} {σ : L2.St} {env envs : Env} {F Fs H Hs : Hp} {rs : List R} {vs : List V} {Q : VK} (hf : g.T.fn f = some fd) (R : RelG X.K g env F σ H) (S : Stp σ envs Fs Hs env F H) (I : RelI X.K g.c Hs env F σ H rs vs) (hl : rs.length = fd.np) (th0 : ∀ a o, g.H0 a = some o → ∃ u, Hs a = some u)
    (h : Post X.K g σ envs Fs Hs (callWith g.T.chg g.call f rs env) Q) : spF X.K g.c g.call fd.np f fd.chg vs H Q (WE g.W σ) := by
  have hc : g.T.chg f = some fd.chg := by unfold Tab.chg; rw [hf]; rfl
  unfold callWith at h
  rw [hc] at h
  simp only at h
  cases e1 : passVals fd.chg 0 rs env with
  | none => rw [e1] at h; exact h.elim
  | some q =>
    obtain ⟨ods, env2⟩ := q
    rw [e1] at h
    simp only at h
    obtain ⟨F2, R2, S2, fs2, lk, ol, od1, od2, od3, _⟩ := passVals_ok R S I e1
    have hvl : vs.length = fd.np := by rw [← I.len]; exact hl
    cases hm : fd.chg with
    | none =>
      rw [hm] at h e1
      simp only at h
      obtain ⟨fl, fg⟩ := filterMap_all ods fun i hi z => by
        have := (od2 i (ol ▸ hi)).mp z
        rw [hm] at this; cases this
      refine ⟨F2, ods.filterMap id, R2.sub, by rw [fl, ol, hl], hvl, fun i d v g1 g2 => ?_, ?_⟩
      · have := od1 i d v (fg i d g1) g2
        unfold ArgOk
        rw [if_neg (by simp)]
        exact this
      · cases e3 : g.call f (ods.filterMap id) with
        | bad => rw [e3] at h; exact h.elim
        | exc kx dx =>
          rw [e3] at h
          intro d w F' H' s1 s2 kp hx rep
          exact h d w F' H' (S2.fsub.trans s1) s2 (fun a o ea na => kp a o (S2.keep a o ea na) fun _ z => nomatch z) hx rep
        | ok p =>
          rw [e3] at h
          simp only [Res.bind_ok] at h
          intro v F' H' s1 s2 kp th gr _ hr
          have kp' : ∀ a o, H a = some o → (none : Option Addr) ≠ some a → H' a = some o := fun a o e _ => kp a o e fun _ z => nomatch z
          by_cases fl : flatR p.1 = true
          · rw [if_pos fl] at h
            have R' : RelG X.K g env F σ H' := R.after (Sub.refl _) (fun a o e => kp a o (R.sub a o e) fun _ z => nomatch z) none kp' th (fun a o e => .inl e) none none (fun _ z => nomatch z) (fun _ _ z => nomatch z) rfl
            have S' : Stp σ envs Fs Hs env F H' := ⟨S.fsub, fun a o ea na => kp a o (S.keep a o ea na) fun _ z => (nomatch z), S.grow, S.owns, fun a o ea => let ⟨u, eu⟩ := S.th a o ea; th a u eu⟩
            refine h v F H' R' S' ?_
            cases er : p.1 with
            | val d => rw [er] at fl hr; exact Rep.atom hr (atom_flat fl)
            | tmp d =>
              rw [er] at fl hr
              obtain ⟨a, o, rfl, k1, k2, k3, k4⟩ := hr
              refine ⟨a, o, rfl, k1, k2.flat fl, ?_, S.back k4, fun z => ?_⟩
              · cases eF : F a with
                | none => rfl
                | some u => rw [R.sub a u eF] at k4; cases k4
              · obtain ⟨u, eu⟩ := R.owned_some z
                rw [k4] at eu; cases eu
            | var i => rw [er] at hr; exact hr.elim
          · rw [if_neg fl] at h
            have R' : RelG X.K g env2 F' σ H' := R2.after s1 s2 none kp' th gr none none (fun _ z => nomatch z) (fun _ _ z => nomatch z) rfl
            have S' : Stp σ envs Fs Hs env2 F' H' := ⟨S2.fsub.trans s1, fun a o ea na => kp a o (S2.keep a o ea na) fun _ z => (nomatch z), fun a o ea => by
              rcases gr a o ea with z | z
              · exact S2.grow a o z
              · exact .inr (.inl (S2.back z)), S2.owns, fun a o ea => let ⟨u, eu⟩ := S2.th a o ea; th a u eu⟩
            refine h v F' H' R' S' ?_
            cases er : p.1 with
            | val d => rw [er] at hr; exact hr
            | tmp d =>
              rw [er] at hr
              obtain ⟨a, o, rfl, k1, k2, k3, k4⟩ := hr
              refine ⟨a, o, rfl, k1, k2, k3, S2.back k4, fun z => ?_⟩
              obtain ⟨u, eu⟩ := R2.owned_some z
              rw [k4] at eu; cases eu
            | var i => rw [er] at hr; exact hr.elim
    | some m =>
      rw [hm] at h e1
      simp only at h
      cases e2 : rs[m]? with
      | none => rw [e2] at h; exact h.elim
      | some rm =>
        rw [e2] at h
        simp only [Option.bind_some] at h
        have mlt : m < rs.length := (List.getElem?_eq_some_iff.mp e2).1
        obtain ⟨vm, evm⟩ : ∃ vm, vs[m]? = some vm := ⟨vs[m]'(I.len ▸ mlt), List.getElem?_eq_getElem _⟩
        have rrm := od3 m rm vm (by rw [hm, Nat.zero_add]) e2 evm
        cases e4 : passMut rm env2 with
        | none => rw [e4] at h; exact h.elim
        | some q =>
          obtain ⟨d, slot⟩ := q
          rw [e4] at h
          simp only at h
          -- where the changed list stands
          obtain ⟨am, om, evm', hom, rom, fom, hslot⟩ : ∃ a o, vm = .ref a ∧ H a = some o ∧ RepO X.K g.c F2 d o ∧ F2 a = none ∧ ((slot = none ∧ ¬ Owned env2 σ a ∧ ¬ Owned env σ a ∧ Hs a = none) ∨ ∃ i, slot = some i ∧ (env2.at i).mine = true ∧ (env.at i).mine = true ∧ σ[i]? = some (some (.ref a))) := by
            cases rm with
            | val x => cases e4
            | tmp x =>
              cases e4
              obtain ⟨a, o, rfl, k1, k2, k3, k4, k5⟩ := rrm
              obtain ⟨a', o', ea, j1, j2, j3, j4, j5⟩ := I.get m _ _ e2 evm
              cases ea
              exact ⟨a, o, rfl, k1, k2, k3, .inl ⟨rfl, k5, j5, k4⟩⟩
            | var i =>
              have hs : σ[i]? = some (some vm) := rrm
              have e4' : (match env2.at i with | .own d => some (d, some i) | .byr d => some (d, some i) | _ => none) = some (d, slot) := e4
              have back1 : (env2.at i).mine = true → (env.at i).mine = true := fun z => by
                rcases lk.1 i with y | ⟨x, y1, y2⟩
                · rw [← y]; exact z
                · rw [y1]; rfl
              cases q : env2.at i with
              | no => rw [q] at e4'; cases e4'
              | val x => rw [q] at e4'; cases e4'
              | own x =>
                rw [q] at e4'; cases e4'
                obtain ⟨a, o, k1, k2, k3, k4, _⟩ := R2.own i _ q
                rw [hs] at k1; cases k1
                exact ⟨a, o, rfl, k2, k3, k4, .inr ⟨i, rfl, by rw [q]; rfl, back1 (by rw [q]; rfl), hs⟩⟩
              | byr x =>
                rw [q] at e4'; cases e4'
                obtain ⟨a, o, k1, k2, k3, k4, _⟩ := R2.byr i _ q
                rw [hs] at k1; cases k1
                exact ⟨a, o, rfl, k2, k3, k4, .inr ⟨i, rfl, by rw [q]; rfl, back1 (by rw [q]; rfl), hs⟩⟩
          subst evm'
          refine ⟨F2, fillIn d ods, R2.sub, by rw [fillIn_len, ol, hl], hvl, fun i x v g1 g2 => ?_, ?_⟩
          · unfold ArgOk
            by_cases z : m = i
            · subst z
              rw [if_pos (by simp)]
              rw [evm] at g2
              cases g2
              rcases fillIn_get d ods m x g1 with w | ⟨w, rfl⟩
              · have := (od2 m mlt).mpr (by rw [hm, Nat.zero_add])
                rw [this] at w
                cases w
              · exact ⟨am, om, rfl, hom, rom, fom⟩
            · rw [if_neg (by simp [z])]
              rcases fillIn_get d ods i x g1 with w | ⟨w, rfl⟩
              · exact od1 i x v w g2
              · have hi : i < rs.length := by rw [← ol]; exact (List.getElem?_eq_some_iff.mp w).1
                have := (od2 i hi).mp w
                rw [hm, Nat.zero_add] at this
                exact absurd (Option.some.inj this) z
          · have vk : ∀ a, (∀ kk, some m = some kk → vs[kk]? ≠ some (.ref a)) ↔ am ≠ a := fun a => ⟨fun z e => by
              subst e
              exact z m rfl evm, fun z kk e w => by
              obtain rfl := Option.some.inj e
              rw [evm] at w
              cases w
              exact z rfl⟩
            cases e3 : g.call f (fillIn d ods) with
            | bad => rw [e3] at h; exact h.elim
            | exc kx dx =>
              rw [e3] at h
              intro d' w F' H' s1 s2 kp hx rep
              refine h d' w F' H' (S2.fsub.trans s1) s2 (fun a o ea na => kp a o (S2.keep a o ea na) ((vk a).mpr fun e => ?_)) hx rep
              subst e
              rcases hslot with ⟨_, _, _, z⟩ | ⟨i, _, z1, _, z2⟩
              · rw [ea] at z; cases z
              · exact na ⟨i, S2.owns i z1, z2⟩
            | ok p =>
              rw [e3] at h
              simp only [Res.bind_ok] at h
              intro v F' H' s1 s2 kp th gr ho hr
              obtain ⟨dm, o', eo, ho1, ho2, ho3⟩ := ho m am rfl evm
              have kp' : ∀ a o, H a = some o → some am ≠ some a → H' a = some o := fun a o e n => kp a o e ((vk a).mpr fun z => n (by rw [z]))
              have keepS : ∀ {E : Env} {Fx : Hp}, Stp σ envs Fs Hs E Fx H → (∀ a, Owned E σ a → Owned envs σ a) → ((slot = none ∧ Hs am = none) ∨ Owned E σ am) → ∀ a o, Hs a = some o → ¬ Owned envs σ a → H' a = some o := fun {E Fx} SS ow hh a o ea na => by
                refine kp a o (SS.keep a o ea na) ((vk a).mpr fun e => ?_)
                subst e
                rcases hh with ⟨_, z⟩ | z
                · rw [ea] at z; cases z
                · exact na (ow _ z)
              by_cases fl : (flatR p.1 && flatO p.2) = true
              · rw [if_pos fl] at h
                rw [Bool.and_eq_true] at fl
                cases eb : back env slot p.2 with
                | none => rw [eb] at h; exact h.elim
                | some env3 =>
                  rw [eb] at h
                  have fm : dm.flat = true := by have := fl.2; rw [eo] at this; exact this
                  have sF : Sub F H' := fun a o e => by
                    refine kp' a o (R.sub a o e) fun z => ?_
                    cases z
                    have := fs2 _ _ e
                    rw [fom] at this; cases this
                  have nFm : F am = none := by
                    cases eF : F am with
                    | none => rfl
                    | some u => rw [fs2 _ _ eF] at fom; cases fom
                  have R' : RelG X.K g env3 F σ H' := R.after (Sub.refl _) sF (some am) kp' th (fun a o e => .inl e) slot p.2 (fun i ei => by
                    rcases hslot with ⟨z, _⟩ | ⟨j, z, _, z2, z3⟩
                    · rw [z] at ei; cases ei
                    · rw [z] at ei; cases ei
                      exact ⟨am, dm, o', z2, z3, rfl, eo, ho1, ho2.flat fm, nFm⟩) (fun en a ea => by
                    cases ea
                    rcases hslot with ⟨_, _, z2, z3⟩ | ⟨j, z, _⟩
                    · refine ⟨z2, ?_⟩
                      cases q0 : g.H0 am with
                      | none => rfl
                      | some u =>
                        exfalso
                        obtain ⟨u', e'⟩ := th0 am u q0
                        rw [z3] at e'; cases e'
                    · rw [z] at en; cases en) eb
                  have me := back_mine eb
                  have ow : ∀ a, Owned env3 σ a → Owned env σ a := fun a ⟨i, z1, z2⟩ => ⟨i, me i ▸ z1, z2⟩
                  have S' : Stp σ envs Fs Hs env3 F H' := ⟨S.fsub, keepS S (fun a z => S.owned z) (by
                    rcases hslot with ⟨z, _, _, z3⟩ | ⟨i, _, _, z1, z2⟩
                    · exact .inl ⟨z, z3⟩
                    · exact .inr ⟨i, z1, z2⟩), S.grow, fun i z => S.owns i (me i ▸ z), fun a o ea => let ⟨u, eu⟩ := S.th a o ea; th a u eu⟩
                  refine h v F H' R' S' ?_
                  cases er : p.1 with
                  | val d =>
                    have fl1 := fl.1
                    rw [er] at fl1 hr
                    exact Rep.atom hr (atom_flat fl1)
                  | tmp d =>
                    have fl1 := fl.1
                    rw [er] at fl1 hr
                    obtain ⟨a, o, rfl, k1, k2, k3, k4⟩ := hr
                    refine ⟨a, o, rfl, k1, k2.flat fl1, ?_, S.back k4, fun z => ?_⟩
                    · cases eF : F a with
                      | none => rfl
                      | some u => rw [R.sub a u eF] at k4; cases k4
                    · obtain ⟨u, eu⟩ := R.owned_some (ow _ z)
                      rw [k4] at eu; cases eu
                  | var i => rw [er] at hr; exact hr.elim
              · rw [if_neg fl] at h
                cases eb : back env2 slot p.2 with
                | none => rw [eb] at h; exact h.elim
                | some env3 =>
                  rw [eb] at h
                  have R' : RelG X.K g env3 F' σ H' := R2.after s1 s2 (some am) kp' th gr slot p.2 (fun i ei => by
                    rcases hslot with ⟨z, _⟩ | ⟨j, z, z1, z2, z3⟩
                    · rw [z] at ei; cases ei
                    · rw [z] at ei; cases ei
                      exact ⟨am, dm, o', z1, z3, rfl, eo, ho1, ho2, ho3⟩) (fun en a ea => by
                    cases ea
                    rcases hslot with ⟨_, z1, z2, z3⟩ | ⟨j, z, _⟩
                    · refine ⟨z1, ?_⟩
                      cases q0 : g.H0 am with
                      | none => rfl
                      | some u =>
                        exfalso
                        obtain ⟨u', e'⟩ := th0 am u q0
                        rw [z3] at e'; cases e'
                    · rw [z] at en; cases en) eb
                  have me := back_mine eb
                  have ow : ∀ a, Owned env3 σ a → Owned env2 σ a := fun a ⟨i, z1, z2⟩ => ⟨i, me i ▸ z1, z2⟩
                  have S' : Stp σ envs Fs Hs env3 F' H' := ⟨S2.fsub.trans s1, keepS S2 (fun a z => S2.owned z) (by
                    rcases hslot with ⟨z, _, _, z3⟩ | ⟨i, _, z1, _, z2⟩
                    · exact .inl ⟨z, z3⟩
                    · exact .inr ⟨i, z1, z2⟩), fun a o ea => by
                    rcases gr a o ea with z | z
                    · exact S2.grow a o z
                    · exact .inr (.inl (S2.back z)), fun i z => S2.owns i (me i ▸ z), fun a o ea => let ⟨u, eu⟩ := S2.th a o ea; th a u eu⟩
                  refine h v F' H' R' S' ?_
                  cases er : p.1 with
                  | val d => rw [er] at hr; exact hr
                  | tmp d =>
                    rw [er] at hr
                    obtain ⟨a, o, rfl, k1, k2, k3, k4⟩ := hr
                    refine ⟨a, o, rfl, k1, k2, k3, S2.back k4, fun z => ?_⟩
                    obtain ⟨u, eu⟩ := R2.owned_some (ow _ z)
                    rw [k4] at eu; cases eu
                  | var i => rw [er] at hr; exact hr.elim
end
end Ev
namespace Ev
open PySem PySem.Spec PyProof.Rows L2
section
variable {X : Cx} {g : Gh} {ck : Ck} {k : Nat} {pos p : Pos}
/-! ### a op b op' c -/
theorem tT_tE {e : E} {σ : L2.St} {H : Hp} {Q : Bool → Hp → Prop} (h : tT X.K g e σ H Q) : tE X.K g e σ H fun x H' => ∃ k, x = .bl k ∧ Q k H' := by
  obtain ⟨env, F, R, h⟩ := h
  refine tE_bind R .refl h fun p v F1 H1 R1 S1 S1' r1 h1 => ?_
  split at h1
  · rename_i d e
    obtain ⟨b, eb, h3⟩ := of_inv h1
    cases d <;> simp [tru] at eb
    subst eb
    obtain rfl := (R1.peek r1 e).of_bl
    exact ⟨_, rfl, h3 _ F1 H1 R1 S1' rfl⟩
  · exact h1.elim
theorem chain_main {o o' : COp} {a b c : E} (σ : L2.St) (H : Hp) (Q : VK) (h : tE X.K g (.cmp2 o o' a b c) σ H Q) : tChain (rCop X.K g.c (cop o)) (rCop X.K g.c (cop o')) (tE X.K g a) (tE X.K g b) (tE X.K g c) σ H Q := by
  obtain ⟨env, F, R, h⟩ := h
  refine tE_bind R .refl h fun p v F1 H1 R1 S1 S1' r1 h1 => ?_
  refine tE_bind R1 S1' h1 fun q w F2 H2 R2 S2 S2' r2 h2 => ?_
  have r1' := RelR.step S2 r1
  split at h2
  · rename_i x y e1 e2
    obtain ⟨r, er, h3⟩ := of_inv h2
    refine ⟨F2, x, y, r, R2.sub, R2.peek r1' e1, R2.peek r2 e2, er, r, rfl, ?_⟩
    cases r with
    | false => exact h3 _ F2 H2 R2 S2' (.bl false)
    | true =>
      rw [if_pos rfl]
      refine tE_bind R2 S2' h3 fun s z F3 H3 R3 S3 S3' r3 h4 => ?_
      have r2' := RelR.step S3 r2
      split at h4
      · rename_i y' z' e3 e4
        obtain ⟨r', er', h5⟩ := of_inv h4
        exact ⟨F3, _, _, r', R3.sub, R3.peek r2' e3, R3.peek r3 e4, er', h5 _ F3 H3 R3 S3' (.bl r')⟩
      · exact h4.elim
  · exact h2.elim
theorem r_cmp2 {o o' : COp} {a b c : E} {a' b' c' : Expr} (hu : X.A.units + 65 < cLine) (ha : PE X a' (tE X.K g a)) (hb : PE X b' (tE X.K g b)) (hc : PE X c' (tE X.K g c)) (hm : behindInMarks (copOf o') c' = false) :
    PE X (.Compare a' [copOf o, copOf o'] [b', c'] pos) (tE X.K g (.cmp2 o o' a b c)) :=
  PE.mono (pe_chain (cop_ok (c := g.c) hu o) (cop_ok (c := g.c) hu o') ha hb hc hm) chain_main
theorem r_cmp2T {o o' : COp} {a b c : E} {a' b' c' : Expr} (hu : X.A.units + 65 < cLine) (ha : PE X a' (tE X.K g a)) (hb : PE X b' (tE X.K g b)) (hc : PE X c' (tE X.K g c)) (hm : behindInMarks (copOf o') c' = false) :
    PT X (.Compare a' [copOf o, copOf o'] [b', c'] pos) (tT X.K g (.cmp2 o o' a b c)) :=
  PT.mono (pt_chain (cop_ok (c := g.c) hu o) (cop_ok (c := g.c) hu o') ha hb hc hm) fun σ H Q h => chain_main σ H _ (tT_tE h)
/-! ### the call -/
def noStar : Es → Bool
  | .nil => true
  | .cons s _ r => !s && noStar r
def Es.len : Es → Nat
  | .nil => 0
  | .cons _ _ r => r.len + 1
theorem evalRs_len {T : Nat → Option (Option Nat)} {G : Nat → Option D} {call : Call} : ∀ {es : Es} {e : Env} {p : List R × Env}, evalRs T G call es e = .ok p → p.1.length = es.len
  | .nil, e, p, h => by cases h; rfl
  | .cons s a r, e, p, h => by
    unfold evalRs at h
    split at h
    · cases h
    · cases q : evalE T G call a e with
      | ok z =>
        rw [q] at h
        simp only [Res.bind_ok] at h
        cases q2 : evalRs T G call r z.2 with
        | ok w =>
          rw [q2] at h
          simp only [Res.bind_ok] at h
          cases h
          simp [Es.len, evalRs_len q2]
        | exc _ _ => rw [q2] at h; cases h
        | bad => rw [q2] at h; cases h
      | exc _ _ => rw [q] at h; cases h
      | bad => rw [q] at h; cases h
theorem permute_len {rs rs' : List R} {p : List Nat} (h : permute rs p = some rs') : rs'.length = if p.isEmpty then rs.length else p.length := by
  cases p with
  | nil => cases h; rfl
  | cons j p => exact (mapM_get (show (j :: p).mapM (fun j => rs[j]?) = some rs' from h)).1
theorem kwB_nd {n : Nat} {ks ps : List Str} {pm : List Nat} (h : kwB n ks ps pm = true) : pm.Nodup ∧ (if pm.isEmpty then n + ks.length else pm.length) = ps.length := by
  have al := (arrange_len (m := 0) (α := Nat) h (us := List.replicate n 0) (ws := List.replicate ks.length 0) (by simp) (by simp)).1
  cases ks with
  | nil =>
    simp only [kwB, Bool.and_eq_true, List.isEmpty_iff, decide_eq_true_eq] at h
    obtain ⟨rfl, e⟩ := h
    exact ⟨.nil, by simp [e]⟩
  | cons k ks =>
    have h0 := h
    simp only [kwB, Bool.and_eq_true, decide_eq_true_eq] at h
    obtain ⟨⟨⟨⟨⟨h1, h2⟩, h3⟩, h4⟩, h5⟩, h6⟩ := h
    refine ⟨h4, ?_⟩
    cases pm with
    | nil => simpa [arrange] using al
    | cons a b => simpa using h1
theorem r_call {f : Nat} {es kw : Es} {pm : List Nat} {x : Str} {es' : List Expr} {kws : List Keyword} {ks : List Str} {fd : Fn} (G : Good X g ck k) (hf : g.T.fn f = some fd) (hx : g.T.fname f = x) (hg : glB ck.sc x = true) (hn : okName x = true)
    (he : PA X es' (tRs X.K g es)) (hkw : PK X kws (tRs X.K g kw)) (hl : es'.length = es.len) (hkl : ks.length = kw.len) (hb : kwB es'.length ks (g.T.ps f) pm = true)
    (hall : (backToKw pos (keywordEach kws X.env)).all (·.1.isSome) = true) (hks : (backToKw pos (keywordEach kws X.env)).filterMap (·.1) = ks)
    (hs : ∀ e r, es' = e :: r → starEach es' X.env = (false, eval e X.env) :: starEach r X.env) (hpl : ((backTo pos (starEach es' X.env)).any (·.1) || (backToKw pos (keywordEach kws X.env)).any (·.1.isNone)) = false) :
    PE X (.Call (.Name x p) es' kws pos) (tE X.K g (.call f es kw pm)) := by
  obtain ⟨hm, hk, hps, fdt, P, FO⟩ := G.prog.fns f fd hf
  subst hx
  obtain ⟨nd, pl⟩ := kwB_nd hb
  refine PE.mono (pe_callG FO G.room (by show X.env.scope.names.lookup _ = _; rw [G.sc]; exact glB_ok hg) hm hk P G.pass ks hb he (fun e σ H Q h => ?_) hkw hall hks (okName_ok hn).1 hs hpl) fun σ H Q ⟨env, F, R, h⟩ => ?_
  · subst e
    cases es with
    | nil =>
      obtain ⟨env, F, R, h⟩ := h
      exact h [] F H R .refl .nil
    | cons s a r => simp [Es.len] at hl
  · have h' : Post X.K g σ env F H ((evalRs g.T.chg g.T.gval g.call es env).bind fun p => (evalRs g.T.chg g.T.gval g.call kw p.2).bind fun q => (Res.of (permute (p.1 ++ q.1) pm)).bind fun rs => callWith g.T.chg g.call f rs q.2) Q := h
    refine ⟨env, F, R, bindOf .refl h' fun q vs F1 H1 e1 R1 S1 S1' r1 h1 => ⟨q.2, F1, R1, bindOf S1' h1 fun q2 zs F2 H2 e2 R2 S2 S2' r2 h2 => ?_⟩⟩
    obtain ⟨rs, e3, h3⟩ := of_inv h2
    have I1 := r1.relI
    have I2 := (I1.append S2 r2.relI S1').permute nd e3
    have l1 := evalRs_len e1
    have l2 := evalRs_len e2
    have lv : vs.length = es'.length := by rw [← r1.length, l1, hl]
    have lz : zs.length = ks.length := by rw [← r2.length, l2, hkl]
    refine ⟨lv, lz, call_sp hf R2 S2' I2 ?_ (fun a o e => R.th a o e) h3⟩
    rw [permute_len e3, List.length_append, l1, l2, ← hl, ← hkl, pl, hps]
/-! ### isinstance -/
def tyName : Ty → String
  | .int => "int"
  | .bool => "bool"
  | .str => "str"
  | .list => "list"
  | .tuple => "tuple"
def tyStr : Ty → Str
  | .int => "int"
  | .bool => "bool"
  | .str => "str"
  | .list => "list"
  | .tuple => "tuple"
theorem isi_k {K : PySem.W.Frag} {c : RC} {F H : Hp} {d : D} {v : V} {t : Ty} {b : Bool} (s : Sub F H) (h : RepP K c F H d v) (e : isT t d = some b) : ∃ n, TyX K H v (.type n) ∧ kitB n (tyName t) = some b := by
  rcases h with h | ⟨a, o, rfl, h1, h2⟩
  · cases h with
    | non => exact ⟨_, .base .non, by cases t <;> cases e <;> decide +kernel⟩
    | bl x => exact ⟨_, .base (.bl x), by cases t <;> cases e <;> decide +kernel⟩
    | int i => exact ⟨_, .base (.int i), by cases t <;> cases e <;> decide +kernel⟩
    | str x hx => exact ⟨_, .base (.str _), by cases t <;> cases e <;> decide +kernel⟩
    | tup hs hl hz =>
      refine ⟨"tuple", ?_, by cases t <;> cases e <;> decide +kernel⟩
      rcases sqT_sub s hs with z | ⟨o, its, n, hk, hc, _⟩
      · rcases z with z | ⟨o, z⟩
        · exact .base (.tup z)
        · exact .fTuple z
      · exact .kTuple hk hc
    | lst hs hl hz => exact ⟨"list", .base (.lst (s _ _ hs)), by cases t <;> cases e <;> decide +kernel⟩
    | fn f => cases t <;> cases e
    | exc _ _ _ => cases t <;> cases e
    | scr hs hl =>
      refine ⟨"list", ?_, by cases t <;> cases e <;> decide +kernel⟩
      rcases hs with z | ⟨o, its, n, hk, hc, _⟩
      · rcases z with z | ⟨o, z⟩
        · exact .base (.lst (s _ _ z))
        · exact .base (.frz (s _ _ z))
      · exact .kList hk hc
  · obtain ⟨ds, vs, rfl, rfl, _⟩ := h2.lst
    exact ⟨"list", .base (.lst h1), by cases t <;> cases e <;> decide +kernel⟩
theorem boot_ty (t : Ty) : bootBuiltins (tyStr t) = some (.type (tyName t)) := by cases t <;> decide +kernel
theorem r_isi {t : Ty} {e : E} {e' : Expr} {p2 : Pos} (G : Good X g ck k) (hg : glB ck.sc "isinstance" = true) (hg2 : glB ck.sc (tyStr t) = true) (he : PE X e' (tE X.K g e)) (hs : ∀ es, starEach (e' :: es) X.env = (false, eval e' X.env) :: starEach es X.env) :
    PE X (.Call (.Name "isinstance" p) [e', .Name (tyStr t) p2] [] pos) (tE X.K g (.isi t e)) := by
  have hgl : Gl X "isinstance" := by show X.env.scope.names.lookup _ = _; rw [G.sc]; exact glB_ok hg
  have hgt : Gl X (tyStr t) := by show X.env.scope.names.lookup _ = _; rw [G.sc]; exact glB_ok hg2
  have ht : PE X (.Name (tyStr t) p2) (tC (.ty (tyName t))) := pe_bltn hgt (G.prog.free _ (by cases t <;> decide)) (boot_ty t) rfl (by cases t <;> decide) (by cases t <;> decide)
  refine PE.mono (pe_callB call_isi hgl (G.prog.free _ (by decide)) (by decide +kernel) (pa_cons he (pa_cons ht pa_nil) (hs _)) (by decide) (by decide) (hs _) rfl) fun σ H Q ⟨env, F, R, h⟩ => ?_
  have h' : Post X.K g σ env F H ((ev g e env).bind fun p => match peek p.1 p.2 with
    | some x => (Res.of (isT t x)).bind fun b => .ok (.val (.bl b), p.2)
    | none => .bad) Q := h
  refine tE_bind R .refl h' fun p v F1 H1 R1 S1 S1' r1 h1 => ?_
  split at h1
  · rename_i x ex
    obtain ⟨b, eb, h3⟩ := of_inv h1
    obtain ⟨n, k1, k2⟩ := isi_k R1.sub (R1.peek r1 ex) eb
    exact ⟨v, .ty (tyName t), .type n, .type (tyName t), b, rfl, .ty _, k1, kit_ty k2, h3 _ F1 H1 R1 S1' (.bl b)⟩
  · exact h1.elim
end
end Ev
namespace Ev
open PySem PySem.Spec PyProof.Rows L2
section
variable {K : PySem.W.Frag} {c : RC} {H0 : Hp} {bs : List (Nat × Addr)} {env env' : Env} {F H : Hp} {σ σ' : L2.St}
/-- other slots, or forgotten, or with what stands still -/
theorem Rel.change (R : Rel K c H0 bs env F σ H) (hl : env'.length = σ'.length)
    (h : ∀ j, (env'.at j = env.at j ∧ ∀ v, σ[j]? = some (some v) → σ'[j]? = some (some v)) ∨ env'.at j = .no ∨ ∃ d v, env'.at j = .val d ∧ σ'[j]? = some (some v) ∧ Rep K c F d v) : Rel K c H0 bs env' F σ' H := by
  have own1 : ∀ i, (env'.at i).mine = true → env'.at i = env.at i ∧ ∃ a, σ[i]? = some (some (.ref a)) ∧ σ'[i]? = some (some (.ref a)) := by
    intro i hm
    rcases h i with ⟨h1, h2⟩ | h1 | ⟨d, v, h1, _⟩
    · refine ⟨h1, ?_⟩
      rw [h1] at hm
      cases q : env.at i with
      | no => rw [q] at hm; cases hm
      | val x => rw [q] at hm; cases hm
      | own x => obtain ⟨a, _, g1, _⟩ := R.own i x q; exact ⟨a, g1, h2 _ g1⟩
      | byr x => obtain ⟨a, _, g1, _⟩ := R.byr i x q; exact ⟨a, g1, h2 _ g1⟩
    · rw [h1] at hm; cases hm
    · rw [h1] at hm; cases hm
  refine ⟨R.sub, hl, fun i d q => ?_, fun i d q => ?_, fun i d q => ?_, fun i j a g1 g2 g3 g4 => ?_, R.ext, R.th⟩
  · rcases h i with ⟨h1, h2⟩ | h1 | ⟨d', v, h1, h2, h3⟩
    · obtain ⟨v, g1, g2⟩ := R.val i d (h1 ▸ q)
      exact ⟨v, h2 _ g1, g2⟩
    · rw [h1] at q; cases q
    · rw [h1] at q; cases q; exact ⟨v, h2, h3⟩
  · obtain ⟨h1, a, g1, g2⟩ := own1 i (by rw [q]; rfl)
    obtain ⟨b, o, k1, k2⟩ := R.own i d (h1 ▸ q)
    rw [g1] at k1; cases k1
    exact ⟨a, o, g2, k2⟩
  · obtain ⟨h1, a, g1, g2⟩ := own1 i (by rw [q]; rfl)
    obtain ⟨b, o, k1, k2⟩ := R.byr i d (h1 ▸ q)
    rw [g1] at k1; cases k1
    exact ⟨a, o, g2, k2⟩
  · obtain ⟨h1, b, k1, k2⟩ := own1 i g1
    obtain ⟨h2, b', k3, k4⟩ := own1 j g2
    rw [g3] at k2; cases k2
    rw [g4] at k4; cases k4
    exact R.dist i j a (h1 ▸ g1) (h2 ▸ g2) k1 k3
theorem Rel.store {i : Nat} {d : D} {v : V} (R : Rel K c H0 bs env F σ H) (hi : i < env.length) (r : Rep K c F d v) : Rel K c H0 bs (env.set i (.val d)) F (σ.set i (some v)) H := by
  refine R.change (by simp [R.len]) fun j => ?_
  rw [Env.at_set hi]
  by_cases z : i = j
  · subst z; rw [if_pos rfl]
    exact .inr (.inr ⟨d, v, rfl, by rw [List.getElem?_set_self (R.len ▸ hi)], r⟩)
  · rw [if_neg z]; exact .inl ⟨rfl, fun v h => by rw [List.getElem?_set_ne z]; exact h⟩
theorem Rel.storeO {i : Nat} {d : D} {a : Addr} {o : HO} (R : Rel K c H0 bs env F σ H) (hi : i < env.length) (h1 : H a = some o) (h2 : RepO K c F d o) (h3 : F a = none) (h4 : H0 a = none) (h5 : ∀ j, j ≠ i → (env.at j).mine = true → σ[j]? ≠ some (some (.ref a))) : Rel K c H0 bs (env.set i (.own d)) F (σ.set i (some (.ref a))) H := by
  have hs : i < σ.length := R.len ▸ hi
  refine ⟨R.sub, by simp [R.len], fun j x q => ?_, fun j x q => ?_, fun j x q => ?_, fun j l b g1 g2 g3 g4 => ?_, R.ext, R.th⟩
  · rw [Env.at_set hi] at q
    by_cases z : i = j
    · rw [if_pos z] at q; cases q
    · rw [if_neg z] at q; rw [List.getElem?_set_ne z]; exact R.val j x q
  · rw [Env.at_set hi] at q
    by_cases z : i = j
    · rw [if_pos z] at q; cases q; subst z
      exact ⟨a, o, by rw [List.getElem?_set_self hs], h1, h2, h3, h4⟩
    · rw [if_neg z] at q; rw [List.getElem?_set_ne z]; exact R.own j x q
  · rw [Env.at_set hi] at q
    by_cases z : i = j
    · rw [if_pos z] at q; cases q
    · rw [if_neg z] at q; rw [List.getElem?_set_ne z]; exact R.byr j x q
  · rw [Env.at_set hi] at g1 g2
    by_cases z : i = j <;> by_cases z' : i = l
    · exact z.symm.trans z'
    · subst z
      rw [if_neg z'] at g2
      rw [List.getElem?_set_self hs] at g3
      cases g3
      rw [List.getElem?_set_ne z'] at g4
      exact absurd g4 (h5 l (fun e => z' e.symm) g2)
    · subst z'
      rw [if_neg z] at g1
      rw [List.getElem?_set_self hs] at g4
      cases g4
      rw [List.getElem?_set_ne z] at g3
      exact absurd g3 (h5 j (fun e => z e.symm) g1)
    · rw [if_neg z] at g1
      rw [if_neg z'] at g2
      rw [List.getElem?_set_ne z] at g3
      rw [List.getElem?_set_ne z'] at g4
      exact R.dist j l b g1 g2 g3 g4
theorem wipeE_len (e : Env) : ∀ vs : List Nat, (wipeE e vs).length = e.length
  | [] => rfl
  | v :: vs => by unfold wipeE; rw [List.length_set, wipeE_len e vs]
theorem wipeE_at (e : Env) : ∀ (vs : List Nat) (j : Nat), (wipeE e vs).at j = if j ∈ vs then .no else e.at j
  | [], j => by simp [wipeE]
  | v :: vs, j => by
    unfold wipeE
    rw [Env.at_set', wipeE_at e vs j]
    by_cases z : v = j
    · subst z
      by_cases q : v < (wipeE e vs).length
      · simp [q]
      · rw [if_neg (by simp [q])]
        have : e.at v = .no := by
          unfold Env.at
          rw [List.getD_eq_getElem?_getD, List.getElem?_eq_none (by rw [wipeE_len] at q; omega)]; rfl
        simp [this]
    · have : ¬ j = v := fun e => z e.symm
      simp [z, this]
theorem wipe_get {σ : L2.St} : ∀ {vs : List Nat} {j : Nat}, j ∉ vs → (wipe σ vs)[j]? = σ[j]?
  | [], _, _ => rfl
  | v :: vs, j, h => by
    simp only [List.mem_cons, not_or] at h
    unfold wipe
    rw [List.getElem?_set_ne (fun e => h.1 e.symm)]
    exact wipe_get h.2
theorem wipe_in {σ : L2.St} : ∀ {vs : List Nat} {j : Nat}, j ∈ vs → (wipe σ vs)[j]? = if j < σ.length then some none else none
  | v :: vs, j, h => by
    unfold wipe
    rw [List.getElem?_set, wipe_length]
    by_cases z : v = j
    · subst z; simp
    · rw [if_neg z]
      rw [List.mem_cons] at h
      exact wipe_in (h.resolve_left fun e => z e.symm)
theorem wipe_eq {σ σ' : L2.St} {vs : List Nat} (hl : σ'.length = σ.length) (h : ∀ j, j ∉ vs → σ'[j]? = σ[j]?) : wipe σ' vs = wipe σ vs := by
  apply List.ext_getElem?
  intro j
  by_cases z : j ∈ vs
  · rw [wipe_in z, wipe_in z, hl]
  · rw [wipe_get z, wipe_get z]; exact h j z
theorem Rel.wipe (R : Rel K c H0 bs env F σ H) (vs : List Nat) : Rel K c H0 bs (wipeE env vs) F (wipe σ vs) H := by
  refine R.change (by rw [wipeE_len, wipe_length, R.len]) fun j => ?_
  rw [wipeE_at]
  by_cases z : j ∈ vs
  · rw [if_pos z]; exact .inr (.inl rfl)
  · rw [if_neg z]; exact .inl ⟨rfl, fun v h => by rw [wipe_get z]; exact h⟩
theorem Rel.forget (R : Rel K c H0 bs env F σ H) (vs : List Nat) : Rel K c H0 bs (wipeE env vs) F σ H := by
  refine R.change (by rw [wipeE_len, R.len]) fun j => ?_
  rw [wipeE_at]
  by_cases z : j ∈ vs
  · rw [if_pos z]; exact .inr (.inl rfl)
  · rw [if_neg z]; exact .inl ⟨rfl, fun v h => h⟩
theorem Rel.unwipe {vs : List Nat} (R : Rel K c H0 bs env F (L2.wipe σ vs) H) : Rel K c H0 bs env F σ H :=
  R.change (by rw [R.len, wipe_length]) fun j => .inl ⟨rfl, fun v h => (wipe_some h).1⟩
end
/-! ### targets -/
mutual
def slotsT : Tg → List Nat
  | .one i => [i]
  | .tup ts => slotsTs ts
def slotsTs : List Tg → List Nat
  | [] => []
  | t :: ts => slotsT t ++ slotsTs ts
end
mutual
def gD (K : PySem.W.Frag) : Tg → TG
  | .one i => gName i
  | .tup ts => gTup K ts.length (gDs K ts)
def gDs (K : PySem.W.Frag) : List Tg → TGs
  | [] => gNil
  | t :: ts => gCons (gD K t) (gDs K ts)
end
/-- the slots after a target: only its own are other, and they hold what stands still -/
structure Aft (t : List Nat) (env env' : Env) (σ σ' : L2.St) : Prop where
  len : σ'.length = σ.length
  other : ∀ j, j ∉ t → σ'[j]? = σ[j]?
  mine : ∀ j, (env'.at j).mine = true → (env.at j).mine = true ∧ σ'[j]? = σ[j]?
  elen : env'.length = env.length
theorem assignTs_len : ∀ {ts : List Tg} {ds : List D} {e e' : Env}, assignTs ts ds e = some e' → ts.length = ds.length
  | [], [], _, _, _ => rfl
  | t :: ts, d :: ds, e, e', h => by
    unfold assignTs at h
    cases q : assignT t d e with
    | none => rw [q] at h; cases h
    | some e1 => rw [q] at h; simp [assignTs_len (show assignTs ts ds e1 = some e' from h)]
  | [], _ :: _, _, _, h => by unfold assignTs at h; cases h
  | _ :: _, [], _, _, h => by unfold assignTs at h; cases h
section
variable {K : PySem.W.Frag} {c : RC} {H0 : Hp} {bs : List (Nat × Addr)} {F H : Hp}
mutual
theorem gD_ok : ∀ (t : Tg) (d : D) (v : V) (env env' : Env) (σ : L2.St) (Q : L2.St → Hp → Prop), Rel K c H0 bs env F σ H → Rep K c F d v → assignT t d env = some env' →
    (∀ σ', Rel K c H0 bs env' F σ' H → Aft (slotsT t) env env' σ σ' → Q σ' H) → gD K t v σ H Q
  | .one i, d, v, env, env', σ, Q, R, r, e, hq => by
    simp only [assignT] at e
    split at e
    · rename_i hi
      obtain rfl := Option.some.inj e
      have hi : i < env.length := by rw [Bool.and_eq_true] at hi; exact of_decide_eq_true hi.1
      unfold gD gName
      refine hq _ (R.store hi r) ⟨by simp, fun j hj => ?_, fun j hm => ?_, by simp⟩
      · simp only [slotsT, List.mem_singleton] at hj
        rw [List.getElem?_set_ne (fun e => hj e.symm)]
      · rw [Env.at_set hi] at hm
        by_cases z : i = j
        · rw [if_pos z] at hm; cases hm
        · rw [if_neg z] at hm; exact ⟨hm, by rw [List.getElem?_set_ne z]⟩
    · cases e
  | .tup ts, d, v, env, env', σ, Q, R, r, e, hq => by
    cases d with
    | tup ds =>
      have e' : assignTs ts ds env = some env' := by unfold assignT at e; exact e
      cases r with
      | tup h1 h2 h3 =>
        unfold gD gTup
        exact ⟨_, _, rfl, sqT_sub R.sub h1, by rw [← h2.length, assignTs_len e'], gDs_ok ts ds _ env env' σ Q R h2 e' hq⟩
    | _ => unfold assignT at e; cases e
theorem gDs_ok : ∀ (ts : List Tg) (ds : List D) (vs : List V) (env env' : Env) (σ : L2.St) (Q : L2.St → Hp → Prop), Rel K c H0 bs env F σ H → RepL K c F ds vs → assignTs ts ds env = some env' →
    (∀ σ', Rel K c H0 bs env' F σ' H → Aft (slotsTs ts) env env' σ σ' → Q σ' H) → gDs K ts vs σ H Q
  | [], [], vs, env, env', σ, Q, R, r, e, hq => by
    unfold assignTs at e
    cases e
    cases r
    exact ⟨rfl, hq σ R ⟨rfl, fun _ _ => rfl, fun _ h => ⟨h, rfl⟩, rfl⟩⟩
  | t :: ts, d :: ds, vs, env, env', σ, Q, R, r, e, hq => by
    unfold assignTs at e
    cases q : assignT t d env with
    | none => rw [q] at e; cases e
    | some e1 =>
      rw [q] at e
      cases r with
      | cons r1 r2 =>
        refine ⟨_, _, rfl, gD_ok t d _ env e1 σ _ R r1 q fun σ1 R1 A1 => ?_⟩
        refine gDs_ok ts ds _ e1 env' σ1 Q R1 r2 e fun σ2 R2 A2 => hq σ2 R2 ⟨A2.len.trans A1.len, fun j hj => ?_, fun j hm => ?_, A2.elen.trans A1.elen⟩
        · simp only [slotsTs, List.mem_append, not_or] at hj
          exact (A2.other j hj.2).trans (A1.other j hj.1)
        · obtain ⟨m1, m2⟩ := A2.mine j hm
          obtain ⟨m3, m4⟩ := A1.mine j m1
          exact ⟨m3, m2.trans m4⟩
  | [], _ :: _, _, _, _, _, _, _, _, e, _ => by unfold assignTs at e; cases e
  | _ :: _, [], _, _, _, _, _, _, _, e, _ => by unfold assignTs at e; cases e
end
end
end Ev
namespace Ev
open PySem PySem.Spec PyProof.Rows L2
section
variable {K : PySem.W.Frag} {c : RC} {H0 : Hp} {bs : List (Nat × Addr)} {env env' env2 env2' : Env} {F F' H H' : Hp} {σ σ2 : L2.St}
theorem Stp.under (S : Stp σ2 env2 F H env' F' H') (ow : ∀ a, Owned env2 σ2 a → Owned env σ a) (mi : ∀ i, (env2'.at i).mine = true → (env.at i).mine = true) : Stp σ env F H env2' F' H' where
  fsub := S.fsub
  keep := fun a o h n => S.keep a o h fun z => n (ow a z)
  grow := fun a o h => by
    rcases S.grow a o h with z | z | z
    · exact .inl z
    · exact .inr (.inl z)
    · exact .inr (.inr (ow a z))
  owns := mi
  th := S.th
theorem Rel.updD {D : Addr} {o : HO} (R : Rel K c H0 bs env F σ H) (h1 : F D = none) (h2 : ¬ Owned env σ D) (h3 : H0 D = none) : Rel K c H0 bs env F σ (upd H D o) where
  sub := fun a u e => by
    have : a ≠ D := fun z => by subst z; rw [h1] at e; cases e
    rw [upd_ne this]; exact R.sub a u e
  len := R.len
  val := R.val
  own := fun i d q => by
    obtain ⟨a, u, g1, g2, g3⟩ := R.own i d q
    have : a ≠ D := fun z => h2 ⟨i, by rw [q]; rfl, z ▸ g1⟩
    exact ⟨a, u, g1, by rw [upd_ne this]; exact g2, g3⟩
  byr := fun i d q => by
    obtain ⟨a, u, g1, g2, g3⟩ := R.byr i d q
    have : a ≠ D := fun z => h2 ⟨i, by rw [q]; rfl, z ▸ g1⟩
    exact ⟨a, u, g1, by rw [upd_ne this]; exact g2, g3⟩
  dist := R.dist
  ext := fun a u e n => by
    have : a ≠ D := fun z => by subst z; rw [h3] at e; cases e
    rw [upd_ne this]; exact R.ext a u e n
  th := fun a u e => by
    have : a ≠ D := fun z => by subst z; rw [h3] at e; cases e
    obtain ⟨w, q⟩ := R.th a u e
    exact ⟨w, by rw [upd_ne this]; exact q⟩
theorem owned_wipe {vs : List Nat} {a : Addr} (h : Owned (wipeE env vs) (L2.wipe σ vs) a) : Owned env σ a := by
  obtain ⟨i, h1, h2⟩ := h
  refine ⟨i, ?_, (wipe_some h2).1⟩
  rw [wipeE_at] at h1
  split at h1
  · cases h1
  · exact h1
theorem mine_wipe {vs : List Nat} {i : Nat} (h : ((wipeE env vs).at i).mine = true) : (env.at i).mine = true := by
  rw [wipeE_at] at h
  split at h
  · cases h
  · exact h
end
section
variable {X : Cx} {g : Gh} {ck : Ck} {k : Nat} {pos p : Pos}
/-- no error may leave -/
def Gh.deaf (g : Gh) : Gh := { g with W := fun _ _ _ _ => False }
theorem Good.blk (G : Good X g ck k) (s : Shared) (H : Hp) (scope : Scope) (cl : List (Str × Addr)) (C : Addr) (fp : List Addr) : Good (X.blk s H scope (compEnvC scope cl C X.env) fp) g.deaf (ck.inner scope) k where
  N := G.N
  sc := by
    show relS scope X.env.scope = relS scope ck.sc
    rw [G.sc]
  nd := G.nd
  calm := G.calm
  st := fun x h => by
    have q : ∀ kk, kk ≠ .free → scope.names.lookup x = some kk → (relS scope ck.sc).names.lookup x = some kk := fun kk n e => lookup_relS_keep n e
    rcases locB_ok (show locB scope x = true from h) with z | z
    · exact ⟨.inl (q _ (by decide) z), .inr (q _ (by decide) z)⟩
    · exact ⟨.inr (q _ (by decide) z), .inl (by show (scope.names.lookup x == some NameKind.cell) = true; rw [z]; rfl)⟩
  room := G.room
  pass := fun σ pins H s e s' I c => by
    obtain ⟨_, _, _, _, _, _, _, _, _, _, _, _, w⟩ := c
    exact w.elim
  prog := G.prog
def tCond (K : PySem.W.Frag) (g : Gh) : Option E → TT
  | none => tYes
  | some c => tT K g c
def evC (g : Gh) : Option E → Env → Res (Bool × Env) := evalC g.T.chg g.T.gval g.call
theorem comp_main {elt : E} {tg : Tg} {it : Ev.It} {cond : Option E} {own : List Nat} (hs : ∀ i ∈ slotsT tg, i ∈ own) (σ : L2.St) (H : Hp) (Q : VK) (h : tE X.K g (.comp elt tg it cond own) σ H Q) :
    tLc (tI X.K g it) (gD X.K tg) (tCond X.K g.deaf cond) (tE X.K g.deaf elt) own σ H Q := by
  obtain ⟨env, F, R, h⟩ := h
  have h' : Post X.K g σ env F H ((evI g it env).bind fun p => if p.1.length ≤ LIM then (noExc (compL tg (evC g cond) (ev g elt) own p.1 (wipeE p.2 own))).bind fun w => .ok (.tmp (.lst w.1), w.2) else .bad) Q := h
  refine ⟨env, F, R, bindOf .refl h' fun q J F1 H1 e1 R1 S1 S1' wk h1 D hD => ?_⟩
  obtain ⟨hl, h2⟩ := if_inv h1
  obtain ⟨w, ew, h3⟩ : ∃ w, compL tg (evC g cond) (ev g elt) own q.1 (wipeE q.2 own) = .ok w ∧ Post X.K g σ env F H (.ok (.tmp (.lst w.1), w.2)) Q := by
    cases z : compL tg (evC g cond) (ev g elt) own q.1 (wipeE q.2 own) with
    | ok w => rw [z] at h2; exact ⟨w, rfl, h2⟩
    | exc _ _ => rw [z] at h2; exact h2.elim
    | bad => rw [z] at h2; exact h2.elim
  obtain ⟨Y, walk, yy⟩ := wk
  have hF1 : F1 D = none := by
    cases e : F1 D with
    | none => rfl
    | some u => rw [R1.sub D u e] at hD; cases hD
  have hH0 : g.H0 D = none := by
    cases e : g.H0 D with
    | none => rfl
    | some u => obtain ⟨u', e'⟩ := R1.th D u e; rw [hD] at e'; cases e'
  have nO : ¬ Owned (wipeE q.2 own) (wipe σ own) D := fun z => by
    obtain ⟨u, e⟩ := R1.owned_some (owned_wipe z)
    rw [hD] at e; cases e
  refine lc_it walk (Qd := Q (.ref D)) (fun i Hc => ∃ (envi : Env) (Fi : Hp) (ds : List Ev.D) (vs : List V) (w' : List Ev.D × Env), RelG X.K g envi Fi (wipe σ own) Hc ∧ Stp (wipe σ own) (wipeE q.2 own) F1 H1 envi Fi Hc ∧ Hc D = some (.lst vs) ∧
    RepL X.K g.c Fi ds vs ∧ Fi D = none ∧ ds.length ≤ i ∧ compL tg (evC g cond) (ev g elt) own (q.1.drop i) envi = .ok w' ∧ ds ++ w'.1 = w.1 ∧ w'.2 = w.2) ?_ ?_ ?_ ?_
  · exact ⟨wipeE q.2 own, F1, [], [], w, (R1.wipe own).more (Sub.refl _) (sub_upd hD) (R1.sub.trans (sub_upd hD)) (fun _ _ z => .inl z), Stp.refl.more (Sub.refl _) (sub_upd hD) (fun _ _ z => .inl z), upd_same, .nil, hF1, Nat.le_refl _, ew, rfl, rfl⟩
  · exact fun i Hc _ ⟨envi, Fi, ds, vs, w', Ri, Si, _⟩ => Si.fsub.trans Ri.sub
  · intro i x Hc H' hi ⟨envi, Fi, ds, vs, w', Ri, Si, cD, rl, fD, dl, ec, ed1, ed2⟩ hY
    obtain ⟨d, F', ed, gr, rep⟩ := yy i Hc x H' hi hY Fi Si.fsub Ri.sub
    have hdrop : q.1.drop i = d :: q.1.drop (i + 1) := by
      obtain ⟨hlt, e⟩ := List.getElem?_eq_some_iff.mp ed
      rw [List.drop_eq_getElem_cons hlt, e]
    have R' := Ri.more gr.f gr.h gr.s gr.g
    have S' := Si.more gr.f gr.h gr.g
    rw [hdrop] at ec
    have ec' : ((Res.of (assignT tg d envi)).bind fun e1 => (evC g cond e1).bind fun p =>
      if p.1 then (ev g elt p.2).bind fun q' => (Res.of (asVal q'.1 q'.2)).bind fun z => (compL tg (evC g cond) (ev g elt) own (q.1.drop (i + 1)) (wipeE z.2 own)).bind fun w => .ok (z.1 :: w.1, w.2)
      else compL tg (evC g cond) (ev g elt) own (q.1.drop (i + 1)) (wipeE p.2 own)) = .ok w' := ec
    cases ea : assignT tg d envi with
    | none => rw [ea] at ec'; cases ec'
    | some e1 =>
      rw [ea] at ec'
      simp only [Res.of_some, Res.bind_ok] at ec'
      cases eb : evC g cond e1 with
      | exc _ _ => rw [eb] at ec'; cases ec'
      | bad => rw [eb] at ec'; cases ec'
      | ok p =>
        rw [eb] at ec'
        simp only [Res.bind_ok] at ec'
        refine gD_ok tg d x envi e1 _ _ R' rep ea fun σ2 R2 A => ?_
        have hw : wipe σ2 own = wipe σ own := by
          rw [wipe_eq A.len fun j hj => A.other j fun z => hj (hs j z)]
          exact wipe_eq (by rw [wipe_length]) fun j hj => wipe_get hj
        refine ⟨hw, ?_⟩
        have nO2 : ¬ Owned e1 σ2 D := fun ⟨j, m1, m2⟩ => by
          obtain ⟨m3, m4⟩ := A.mine j m1
          exact nO (S'.owned ⟨j, m3, m4 ▸ m2⟩)
        have under : ∀ {E' : Env} {F5 H5 : Hp}, Stp σ2 e1 F' H' E' F5 H5 → Stp (wipe σ own) (wipeE q.2 own) F1 H1 (wipeE E' own) F5 H5 := fun {E' F5 H5} T =>
          S'.trans (T.under (fun a ⟨j, m1, m2⟩ => by
            obtain ⟨m3, m4⟩ := A.mine j m1
            exact ⟨j, m3, m4 ▸ m2⟩) fun j m => (A.mine j (T.owns j (mine_wipe m))).1)
        have hD' : H' D = some (.lst vs) := gr.h D _ cD
        have fD' : F' D = none := by
          cases e : F' D with
          | none => rfl
          | some u =>
            rcases gr.g D u e with z | z
            · rw [fD] at z; cases z
            · rw [cD] at z; cases z
        have noF : ∀ {E' : Env} {F5 H5 : Hp}, Stp σ2 e1 F' H' E' F5 H5 → F5 D = none := fun {E' F5 H5} T => by
          cases e : F5 D with
          | none => rfl
          | some u =>
            rcases T.grow D u e with z | z | z
            · rw [fD'] at z; cases z
            · rw [hD'] at z; cases z
            · exact absurd z nO2
        have key : ∀ (Fp H3 : Hp), RelG X.K g p.2 Fp σ2 H3 → Stp σ2 e1 F' H' p.2 Fp H3 → (if p.1 = true then tE X.K g.deaf elt σ2 H3 fun y H4 => ∃ acc, H4 D = some (.lst acc) ∧ acc.length < sizeLine ∧ (∃ (envi : Env) (Fi : Hp) (ds : List Ev.D) (vs : List V) (w' : List Ev.D × Env), RelG X.K g envi Fi (wipe σ own) (upd H4 D (.lst (acc ++ [y]))) ∧ Stp (wipe σ own) (wipeE q.2 own) F1 H1 envi Fi (upd H4 D (.lst (acc ++ [y]))) ∧ upd H4 D (.lst (acc ++ [y])) D = some (.lst vs) ∧
            RepL X.K g.c Fi ds vs ∧ Fi D = none ∧ ds.length ≤ i + 1 ∧ compL tg (evC g cond) (ev g elt) own (q.1.drop (i + 1)) envi = .ok w' ∧ ds ++ w'.1 = w.1 ∧ w'.2 = w.2)
            else ∃ (envi : Env) (Fi : Hp) (ds : List Ev.D) (vs : List V) (w' : List Ev.D × Env), RelG X.K g envi Fi (wipe σ own) H3 ∧ Stp (wipe σ own) (wipeE q.2 own) F1 H1 envi Fi H3 ∧ H3 D = some (.lst vs) ∧
            RepL X.K g.c Fi ds vs ∧ Fi D = none ∧ ds.length ≤ i + 1 ∧ compL tg (evC g cond) (ev g elt) own (q.1.drop (i + 1)) envi = .ok w' ∧ ds ++ w'.1 = w.1 ∧ w'.2 = w.2) := by
          intro Fp H3 Rp Sp'
          have h3D := Sp'.keep D _ hD' nO2
          by_cases hb : p.1 = true
          · rw [if_pos hb] at ec' ⊢
            refine ⟨p.2, Fp, Rp, ?_⟩
            show Post X.K g.deaf σ2 p.2 Fp H3 (ev g elt p.2) _
            cases ee : ev g elt p.2 with
            | exc _ _ => rw [ee] at ec'; cases ec'
            | bad => rw [ee] at ec'; cases ec'
            | ok r =>
              rw [ee] at ec'
              simp only [Res.bind_ok] at ec'
              intro y F4 H4 R4 S4 r4
              cases ez : asVal r.1 r.2 with
              | none => rw [ez] at ec'; cases ec'
              | some z =>
                rw [ez] at ec'
                simp only [Res.of_some, Res.bind_ok] at ec'
                obtain ⟨dz, env5⟩ := z
                obtain ⟨F5, R5, S5, rep5, _⟩ := Rel.asVal' R4 S4 r4 ez
                cases ef : compL tg (evC g cond) (ev g elt) own (q.1.drop (i + 1)) (wipeE env5 own) with
                | exc _ _ => simp only [ef] at ec'; cases ec'
                | bad => simp only [ef] at ec'; cases ec'
                | ok w2 =>
                  simp only [ef, Res.bind_ok] at ec'
                  cases ec'
                  have T := Sp'.trans S5
                  have h4D := T.keep D _ hD' nO2
                  have f5 := noF T
                  refine ⟨vs, h4D, ?_, wipeE env5 own, F5, ds ++ [dz], vs ++ [y], w2, ?_, ?_, upd_same, (rl.sub ?_).append (.cons rep5 .nil), f5, by simp; omega, ef, by rw [List.append_assoc]; exact ed1, ed2⟩
                  · rw [← rl.length]
                    have := Nat.lt_of_le_of_lt dl hi
                    have := Nat.lt_of_lt_of_le this hl
                    rw [LIM_eq]; exact this
                  · rw [← hw]
                    exact (R5.updD f5 (fun z => nO2 (T.owned z)) hH0).wipe own
                  · have U := under T
                    exact ⟨U.fsub, fun a o e n => by
                      have : a ≠ D := fun z => by subst z; rw [hD] at e; cases e
                      rw [upd_ne this]; exact U.keep a o e n, U.grow, U.owns, fun a o e => by
                      have : a ≠ D := fun z => by subst z; rw [hD] at e; cases e
                      obtain ⟨u, q⟩ := U.th a o e
                      exact ⟨u, by rw [upd_ne this]; exact q⟩⟩
                  · exact gr.f.trans T.fsub
          · rw [if_neg hb] at ec' ⊢
            refine ⟨wipeE p.2 own, Fp, ds, vs, w', ?_, under Sp', h3D, rl.sub (gr.f.trans Sp'.fsub), noF Sp', by omega, ec', ed1, ed2⟩
            rw [← hw]
            exact Rp.wipe own
        cases cond with
        | none =>
          have ep : p = (true, e1) := by
            have : (Res.ok (true, e1) : Res (Bool × Env)) = .ok p := eb
            cases this; rfl
          subst ep
          exact key F' H' R2 .refl
        | some cc =>
          refine ⟨e1, F', R2, ?_⟩
          show PostT X.K g.deaf σ2 e1 F' H' (tst (ev g cc e1)) _
          have eb' : tst (ev g cc e1) = .ok p := eb
          rw [eb']
          intro b F3 H3 R3 S3 hb
          cases hb
          exact key F3 H3 R3 S3
  · intro Hn ⟨envi, Fi, ds, vs, w', Ri, Si, cD, rl, fD, dl, ec, ed1, ed2⟩
    rw [List.drop_length] at ec
    cases ec
    subst ed2
    rw [List.append_nil] at ed1
    subst ed1
    have Su : Stp σ q.2 F1 H1 w.2 Fi Hn := Si.under (fun a z => owned_wipe z) fun j m => mine_wipe (Si.owns j m)
    have nOf : ¬ Owned w.2 σ D := fun z => by
      obtain ⟨u, e⟩ := R1.owned_some (Su.owned z)
      rw [hD] at e; cases e
    exact h3 (.ref D) Fi Hn Ri.unwipe (S1'.trans Su) ⟨D, _, rfl, cD, ⟨rl, Nat.le_trans dl hl⟩, fD, S1'.back hD, nOf⟩
end
end Ev
namespace Ev
open PySem PySem.Spec PyProof.Rows L2
/-! ### statements -/
/-- the slots between statements; F0: what stood still at the entry -/
structure RelS (K : PySem.W.Frag) (g : Gh) (F0 : Hp) (env : Env) (F : Hp) (σ : L2.St) (H : Hp) : Prop where
  rel : RelG K g env F σ H
  sub : Sub F0 F
  bk : ∀ a o, F a = some o → F0 a = some o ∨ g.H0 a = none ∨ ∃ i, (i, a) ∈ g.bs
/-- an error may leave -/
def XS (K : PySem.W.Frag) (g : Gh) (F0 : Hp) (k : Nat) (d : D) : Prop :=
  ∀ (σ : L2.St) (dx : Addr) (w : V) (F' H' : Hp), Sub F0 F' → Sub F' H' → (∀ a o, g.H0 a = some o → (∀ i, (i, a) ∉ g.bs) → H' a = some o) → H' dx = some (.xd [("value", w)]) → Rep K g.c F' d w → g.W (.ref (g.c.ca k)) (some dx) σ H'
def PostS (K : PySem.W.Frag) (g : Gh) (F0 : Hp) (D : Ends) : Res Fl → Prop
  | .ok (.nx e) => ∀ σ' F' H', RelS K g F0 e F' σ' H' → D.nx σ' H'
  | .ok (.brk e) => ∀ σ' F' H', RelS K g F0 e F' σ' H' → D.bk σ' H'
  | .ok (.ct e) => ∀ σ' F' H', RelS K g F0 e F' σ' H' → D.ct σ' H'
  | .ok (.ret r e) => ∀ σ' v F' H', RelS K g F0 e F' σ' H' → RelR K g.c g.H0 e F' σ' H' r v → D.rt v H'
  | .exc k d => XS K g F0 k d
  | .bad => False
def evS (g : Gh) : S → Env → Res Fl := evalS g.T.chg g.T.gval g.call
def evSs (g : Gh) : Ss → Env → Res Fl := evalSs g.T.chg g.T.gval g.call
def tS (K : PySem.W.Frag) (g : Gh) (s : S) : TS := fun D σ H => ∃ F0 env F, RelS K g F0 env F σ H ∧ PostS K g F0 D (evS g s env)
def tSs (K : PySem.W.Frag) (g : Gh) (s : Ss) : TS := fun D σ H => ∃ F0 env F, RelS K g F0 env F σ H ∧ PostS K g F0 D (evSs g s env)
theorem PS.mono {X : Cx} {e : Stmt} {t t' : TS} (h : PS X e t) (m : ∀ D σ H, t' D σ H → t D σ H) : PS X e t' := ⟨fun pins s σ H D I q => h.run pins s σ H D I (m D σ H q)⟩
theorem PSs.mono {X : Cx} {e : List Stmt} {t t' : TS} (h : PSs X e t) (m : ∀ D σ H, t' D σ H → t D σ H) : PSs X e t' := ⟨fun pins s σ H D I q => h.run pins s σ H D I (m D σ H q)⟩
section
variable {K : PySem.W.Frag} {g : Gh} {F0 F F' H H' : Hp} {σ : L2.St} {env env' : Env} {D : Ends}
theorem RelS.step (R : RelS K g F0 env F σ H) (S : Stp σ env F H env' F' H') (R' : RelG K g env' F' σ H') : RelS K g F0 env' F' σ H' := by
  refine ⟨R', R.sub.trans S.fsub, fun a o e => ?_⟩
  have old : H a = none → g.H0 a = none := fun z => by
    cases q : g.H0 a with
    | none => rfl
    | some u => obtain ⟨w, e⟩ := R.rel.th a u q; rw [z] at e; cases e
  rcases S.grow a o e with z | z | ⟨i, z1, z2⟩
  · exact R.bk a o z
  · exact .inr (.inl (old z))
  · cases q : env.at i with
    | no => rw [q] at z1; cases z1
    | val x => rw [q] at z1; cases z1
    | own x =>
      obtain ⟨b, _, k1, _, _, _, k5⟩ := R.rel.own i x q
      rw [z2] at k1; cases k1
      exact .inr (.inl k5)
    | byr x =>
      obtain ⟨b, _, k1, _, _, _, k5⟩ := R.rel.byr i x q
      rw [z2] at k1; cases k1
      exact .inr (.inr ⟨i, k5⟩)
theorem RelS.none (R : RelS K g F0 env F σ H) {a : Addr} (z : H a = none) : g.H0 a = none := by
  cases q : g.H0 a with
  | none => rfl
  | some u => obtain ⟨w, e⟩ := R.rel.th a u q; rw [z] at e; cases e
theorem RelS.x (R : RelS K g F0 env F σ H) {k : Nat} {d : Ev.D} (h : XS K g F0 k d) : PostX K g σ env F H k d := by
  intro dx w F' H' s1 s2 kp hx rep
  refine h σ dx w F' H' (R.sub.trans s1) s2 (fun a o e n => kp a o (R.rel.ext a o e n) fun ⟨i, z1, z2⟩ => ?_) hx rep
  cases q : env.at i with
  | no => rw [q] at z1; cases z1
  | val x => rw [q] at z1; cases z1
  | own x =>
    obtain ⟨b, _, k1, _, _, _, k5⟩ := R.rel.own i x q
    rw [z2] at k1; cases k1
    rw [e] at k5; cases k5
  | byr x =>
    obtain ⟨b, _, k1, _, _, _, k5⟩ := R.rel.byr i x q
    rw [z2] at k1; cases k1
    exact n i k5
theorem RelS.forget (R : RelS K g F0 env F σ H) (vs : List Nat) : RelS K g F0 (wipeE env vs) F σ H := ⟨R.rel.forget vs, R.sub, R.bk⟩
theorem bindS {α β : Type} {rel : α → Env → Hp → Hp → β → Prop} {res : Res (α × Env)} {k : α × Env → Res Fl} {Q' : β → Hp → Prop} (R : RelS K g F0 env F σ H) (h : PostS K g F0 D (res.bind k))
    (hk : ∀ p v F1 H1, res = .ok p → RelS K g F0 p.2 F1 σ H1 → Stp σ env F H p.2 F1 H1 → rel p.1 p.2 F1 H1 v → PostS K g F0 D (k p) → Q' v H1) : PostOf K g σ env F H rel res Q' := by
  cases res with
  | ok p => exact fun v F1 H1 R1 S1 r1 => hk p v F1 H1 rfl (R.step S1 R1) S1 r1 h
  | exc c d => exact R.x h
  | bad => exact h.elim
theorem tE_s {e : E} {k : R × Env → Res Fl} {Q' : V → Hp → Prop} (R : RelS K g F0 env F σ H) (h : PostS K g F0 D ((ev g e env).bind k))
    (hk : ∀ p v F1 H1, RelS K g F0 p.2 F1 σ H1 → Stp σ env F H p.2 F1 H1 → RelR K g.c H p.2 F1 σ H1 p.1 v → PostS K g F0 D (k p) → Q' v H1) : tE K g e σ H Q' :=
  ⟨env, F, R.rel, bindS R h fun p v F1 H1 _ R1 S1 r1 h1 => hk p v F1 H1 R1 S1 r1 h1⟩
theorem ofS {α : Type} {o : Option α} {k : α → Res Fl} (h : PostS K g F0 D ((Res.of o).bind k)) : ∃ a, o = some a ∧ PostS K g F0 D (k a) := by
  cases o with
  | none => exact h.elim
  | some a => exact ⟨a, rfl, h⟩
theorem tE_sv {e : E} {k : Ev.D × Env → Res Fl} {Q' : V → Hp → Prop} (R : RelS K g F0 env F σ H) (h : PostS K g F0 D ((ev g e env).bind fun p => (Res.of (asVal p.1 p.2)).bind k))
    (hk : ∀ z v F1 H1, RelS K g F0 z.2 F1 σ H1 → Stp σ env F H z.2 F1 H1 → Rep K g.c F1 z.1 v → PostS K g F0 D (k z) → Q' v H1) : tE K g e σ H Q' :=
  tE_s R h fun p v F1 H1 R1 S1 r1 h1 => by
    obtain ⟨z, ez, h2⟩ := ofS h1
    obtain ⟨d, env2⟩ := z
    obtain ⟨F2, R2, S2, rep, _⟩ := Rel.asVal' R1.rel S1 r1 ez
    exact hk _ v F2 H1 (R.step S2 R2) S2 rep h2
theorem tT_s {e : E} {k : Bool × Env → Res Fl} {Q' : Bool → Hp → Prop} (R : RelS K g F0 env F σ H) (h : PostS K g F0 D ((tst (ev g e env)).bind k))
    (hk : ∀ p F1 H1, RelS K g F0 p.2 F1 σ H1 → Stp σ env F H p.2 F1 H1 → PostS K g F0 D (k p) → Q' p.1 H1) : tT K g e σ H Q' :=
  ⟨env, F, R.rel, bindS R h fun p v F1 H1 _ R1 S1 r1 h1 => r1 ▸ hk p F1 H1 R1 S1 h1⟩
/-- a name takes it -/
theorem store_ok1 {Hs : Hp} {x : Nat} {r : R} {v : V} (R : RelS K g F0 env F σ H) (r1 : RelR K g.c Hs env F σ H r v) (hs : ∀ a, Hs a = none → g.H0 a = none) (e : store x r env = some env') :
    ∃ F', Sub F F' ∧ RelS K g F0 env' F' (σ.set x (some v)) H := by
  unfold store at e
  split at e
  · rename_i hx
    split at e
    · cases e
    · cases r with
      | val d =>
        cases e
        exact ⟨F, Sub.refl _, R.rel.store hx r1, R.sub, R.bk⟩
      | tmp d =>
        cases e
        obtain ⟨a, o, rfl, h1, h2, h3, h4, h5⟩ := r1
        exact ⟨F, Sub.refl _, R.rel.storeO hx h1 h2 h3 (hs a h4) (fun j _ hm he => h5 ⟨j, hm, he⟩), R.sub, R.bk⟩
      | var i =>
        cases q : asVal (.var i) env with
        | none => simp only [q] at e; cases e
        | some p =>
          simp only [q] at e
          cases e
          obtain ⟨d, env2⟩ := p
          obtain ⟨F', R', S', rep, _⟩ := Rel.asVal' (Hs := H) R.rel (Stp.refl) (r := .var i) (v := v) r1 q
          have hx2 : x < env2.length := by rw [R'.len, ← R.rel.len]; exact hx
          have R2 := R.step S' R'
          exact ⟨F', S'.fsub, R2.rel.store hx2 rep, R2.sub, R2.bk⟩
  · cases e
theorem resolve_ok {envs : Env} {Fs Hs : Hp} : ∀ {rs rs' : List Ev.R} {vs : List V} {env env' : Env} {F : Hp}, RelG K g env F σ H → Stp σ envs Fs Hs env F H → RelI K g.c Hs env F σ H rs vs → resolve rs env = some (rs', env') →
    ∃ F', RelG K g env' F' σ H ∧ Stp σ envs Fs Hs env' F' H ∧ (∀ r v, RelR K g.c Hs env F σ H r v → RelR K g.c Hs env' F' σ H r v) ∧ RelI K g.c Hs env' F' σ H rs' vs ∧ (∀ r ∈ rs', ∀ i, r ≠ .var i) ∧ ∀ (i : Nat) (d : Ev.D), rs'[i]? = some (.tmp d) → rs[i]? = some (.tmp d)
  | [], rs', vs, env, env', F, R, S, I, e => by
    cases e
    exact ⟨F, R, S, fun _ _ h => h, I, fun _ h => (nomatch h), fun i d h => by simp at h⟩
  | r :: rs, rs', vs, env, env', F, R, S, I, e => by
    cases vs with
    | nil => have := I.len; simp at this
    | cons v vs =>
      -- the rest, the head taken as r'
      have plain : ∀ (r1 : Ev.R) (env1 : Env) (F1 : Hp), (∀ i, r1 ≠ .var i) → (∀ d, r1 = .tmp d → r = .tmp d) → RelG K g env1 F1 σ H → Stp σ envs Fs Hs env1 F1 H → (∀ r v, RelR K g.c Hs env F σ H r v → RelR K g.c Hs env1 F1 σ H r v) → RelR K g.c Hs env1 F1 σ H r1 v →
          (resolve rs env1).map (fun q => (r1 :: q.1, q.2)) = some (rs', env') → ∃ F', RelG K g env' F' σ H ∧ Stp σ envs Fs Hs env' F' H ∧ (∀ r v, RelR K g.c Hs env F σ H r v → RelR K g.c Hs env' F' σ H r v) ∧ RelI K g.c Hs env' F' σ H rs' (v :: vs) ∧ (∀ r ∈ rs', ∀ i, r ≠ .var i) ∧ ∀ (i : Nat) (d : Ev.D), rs'[i]? = some (.tmp d) → (r :: rs)[i]? = some (.tmp d) := by
        intro r1 env1 F1 nv ht R1 S1 kp h1 e
        cases q : resolve rs env1 with
        | none => rw [q] at e; cases e
        | some z =>
          rw [q] at e
          cases e
          obtain ⟨F', R', S', k1, I', n', t'⟩ := resolve_ok R1 S1 (⟨I.tail.len, fun i r v a b => kp r v (I.tail.get i r v a b), I.tail.dis⟩ : RelI K g.c Hs env1 F1 σ H rs vs) q
          have old : ∀ (i : Nat) (d : Ev.D), (r1 :: z.1)[i]? = some (.tmp d) → (r :: rs)[i]? = some (.tmp d) := fun i d h => by
            cases i with
            | zero => simp at h; simp [ht d h]
            | succ i => simpa using t' i d (by simpa using h)
          refine ⟨F', R', S', fun r v h => k1 r v (kp r v h), ⟨by simp [I'.len], fun i r' v' h1' h2 => ?_, fun i j d d' w w' hij h1 h2 h3 h4 => I.dis i j d d' w w' hij (old i d h1) (old j d' h2) h3 h4⟩, fun r' hr => ?_, old⟩
          · cases i with
            | zero => simp at h1' h2; subst h1' h2; exact k1 _ _ h1
            | succ i => exact I'.get i r' v' (by simpa using h1') (by simpa using h2)
          · rcases List.mem_cons.mp hr with h | h
            · subst h; exact nv
            · exact n' r' h
      cases r with
      | val d => exact plain (.val d) env F (fun i h => by cases h) (fun d h => by cases h) R S (fun _ _ h => h) I.head e
      | tmp d => exact plain (.tmp d) env F (fun i h => by cases h) (fun d h => h) R S (fun _ _ h => h) I.head e
      | var i =>
        have e' : ((asVal (.var i) env).bind fun p => (resolve rs p.2).map fun q => (Ev.R.val p.1 :: q.1, q.2)) = some (rs', env') := e
        cases q : asVal (.var i) env with
        | none => rw [q] at e'; cases e'
        | some p =>
          rw [q] at e'
          simp only [Option.bind_some] at e'
          obtain ⟨d, env1⟩ := p
          obtain ⟨F1, R1, S1, rep, _, oth, _⟩ := Rel.asVal' R S I.head q
          exact plain (.val d) env1 F1 (fun i h => by cases h) (fun d h => by cases h) R1 S1 (fun r v h => oth r v h fun _ _ z => by cases z) rep e'
def setAll (σ : L2.St) : List Nat → List V → L2.St
  | x :: xs, v :: vs => setAll (σ.set x (some v)) xs vs
  | _, _ => σ
theorem stores_ok {Hs : Hp} (hs : ∀ a, Hs a = none → g.H0 a = none) : ∀ {xs : List Nat} {rs : List Ev.R} {vs : List V} {env env' : Env} {σ : L2.St}, RelS K g F0 env F σ H → RelI K g.c Hs env F σ H rs vs → (∀ r ∈ rs, ∀ i, r ≠ .var i) → stores xs rs env = some env' →
    RelS K g F0 env' F (setAll σ xs vs) H
  | [], [], vs, env, env', σ, R, I, nv, e => by cases e; cases vs <;> exact R
  | x :: xs, r :: rs, vs, env, env', σ, R, I, nv, e => by
    cases vs with
    | nil => have := I.len; simp at this
    | cons v vs =>
      have e' : ((store x r env).bind fun e1 => stores xs rs e1) = some env' := e
      cases q : store x r env with
      | none => rw [q] at e'; cases e'
      | some env1 =>
        rw [q] at e'
        have hx : x < env.length := by
          unfold store at q
          split at q
          · assumption
          · cases q
        have R1 : RelS K g F0 env1 F (σ.set x (some v)) H ∧ ∀ a, Owned env1 (σ.set x (some v)) a → Owned env σ a ∨ ∃ d, r = .tmp d ∧ v = .ref a := by
          unfold store at q
          rw [if_pos hx] at q
          split at q
          · cases q
          · cases r with
            | var i => exact absurd rfl (nv _ (List.mem_cons_self ..) i)
            | val d =>
              cases q
              refine ⟨⟨R.rel.store hx I.head, R.sub, R.bk⟩, fun a ⟨j, m1, m2⟩ => .inl ⟨j, ?_⟩⟩
              rw [Env.at_set hx] at m1
              by_cases z : x = j
              · rw [if_pos z] at m1; cases m1
              · rw [if_neg z] at m1; rw [List.getElem?_set_ne z] at m2; exact ⟨m1, m2⟩
            | tmp d =>
              cases q
              obtain ⟨a, o, rfl, h1, h2, h3, h4, h5⟩ := I.head
              refine ⟨⟨R.rel.storeO hx h1 h2 h3 (hs a h4) (fun j _ hm he => h5 ⟨j, hm, he⟩), R.sub, R.bk⟩, fun b ⟨j, m1, m2⟩ => ?_⟩
              rw [Env.at_set hx] at m1
              by_cases z : x = j
              · subst z
                rw [List.getElem?_set_self (R.rel.len ▸ hx)] at m2
                cases m2
                exact .inr ⟨d, rfl, rfl⟩
              · rw [if_neg z] at m1; rw [List.getElem?_set_ne z] at m2; exact .inl ⟨j, m1, m2⟩
        show RelS K g F0 env' F (setAll (σ.set x (some v)) xs vs) H
        refine stores_ok hs R1.1 ⟨I.tail.len, fun i r' v' h1 h2 => ?_, I.tail.dis⟩ (fun r' hr => nv r' (List.mem_cons_of_mem _ hr)) e'
        have old := I.tail.get i r' v' h1 h2
        cases r' with
        | val d => exact old
        | var i => exact absurd rfl (nv _ (List.mem_cons_of_mem _ (List.mem_of_getElem? h1)) i)
        | tmp d =>
          obtain ⟨a, o, rfl, k1, k2, k3, k4, k5⟩ := old
          refine ⟨a, o, rfl, k1, k2, k3, k4, fun z => ?_⟩
          rcases R1.2 a z with z | ⟨d', rfl, rfl⟩
          · exact k5 z
          · exact I.dis 0 (i + 1) d' d _ _ (by omega) rfl (by simpa using h1) rfl (by simpa using h2) rfl
  | [], _ :: _, _, _, _, _, _, _, _, e => by cases e
  | _ :: _, [], _, _, _, _, _, _, _, e => by cases e
end
end Ev
namespace Ev
open PySem PySem.Spec PyProof.Rows L2
section
variable {X : Cx} {g : Gh} {ck : Ck} {k : Nat} {pos pos' p : Pos}
theorem Good.loc (G : Good X g ck k) {x : Str} (h : ck.st x = true) : Loc X.env.scope x ∧ (X.fn x = true ∨ X.env.scope.names.lookup x = some .local) := by
  have q := G.st x h
  rw [← G.sc] at q
  exact q
/-! ### blocks -/
theorem ss_nil : PSs X [] (tSs X.K g .nil) := PSs.mono pss_nil fun D σ H ⟨F0, env, F, R, h⟩ => h σ F H R
theorem ss_cons {s : S} {r : Ss} {s' : Stmt} {r' : List Stmt} (h1 : PS X s' (tS X.K g s)) (h2 : PSs X r' (tSs X.K g r)) : PSs X (s' :: r') (tSs X.K g (.cons s r)) := by
  refine PSs.mono (pss_cons h1 h2) fun D σ H ⟨F0, env, F, R, h⟩ => ⟨F0, env, F, R, ?_⟩
  have h' : PostS X.K g F0 D ((evS g s env).bind fun f => match f with
    | .nx e1 => evSs g r e1
    | fl => .ok fl) := h
  cases e : evS g s env with
  | bad => rw [e] at h'; exact h'.elim
  | exc _ _ => rw [e] at h'; exact h'
  | ok f =>
    rw [e] at h'
    cases f with
    | nx e1 => exact fun σ' F' H' R' => ⟨F0, e1, F', R', h'⟩
    | ret r e1 => exact h'
    | brk e1 => exact h'
    | ct e1 => exact h'
/-! ### small statements -/
theorem s_pass : PS X (.Pass pos) (tS X.K g .pass) := PS.mono ps_pass fun D σ H ⟨F0, env, F, R, h⟩ => h σ F H R
theorem s_cont : PS X (.Continue pos) (tS X.K g .cont) := PS.mono ps_continue fun D σ H ⟨F0, env, F, R, h⟩ => h σ F H R
theorem s_brk : PS X (.Break pos) (tS X.K g .brk) := PS.mono ps_break fun D σ H ⟨F0, env, F, R, h⟩ => h σ F H R
theorem s_never {st : Stmt} : PS X st (tS X.K g .never) := PS.mono ps_never fun D σ H ⟨F0, env, F, R, h⟩ => h
theorem s_doc {x j pos pos'} : PS X (.Expr (.Constant (.str x) j pos) pos') (tS X.K g .pass) := PS.mono ps_doc fun D σ H ⟨F0, env, F, R, h⟩ => h σ F H R
theorem RelR.back {K : PySem.W.Frag} {c : RC} {env : Env} {F H Hs H0 : Hp} {σ : L2.St} {r : R} {v : V} (h : RelR K c Hs env F σ H r v) (hs : ∀ a, Hs a = none → H0 a = none) : RelR K c H0 env F σ H r v := by
  cases r with
  | val d => exact h
  | var i => exact h
  | tmp d => obtain ⟨a, o, h1, h2, h3, h4, h5, h6⟩ := h; exact ⟨a, o, h1, h2, h3, h4, hs a h5, h6⟩
theorem s_ret {e : E} {e' : Expr} (he : PE X e' (tE X.K g e)) : PS X (.Return (some e') pos) (tS X.K g (.ret e)) :=
  PS.mono (ps_ret he) fun D σ H ⟨F0, env, F, R, h⟩ => tE_s (D := D) (k := fun p => .ok (.ret p.1 p.2)) R h fun p v F1 H1 R1 S1 r1 h1 => h1 σ v F1 H1 R1 (r1.back fun a z => R.none z)
theorem s_retN : PS X (.Return none pos) (tS X.K g .retN) := PS.mono ps_retN fun D σ H ⟨F0, env, F, R, h⟩ => h σ .non F H R .non
theorem s_expr {e : E} {e' : Expr} (he : PE X e' (tE X.K g e)) (hs : swapsWith e' none pos.line X.env = pure false) : PS X (.Expr e' pos) (tS X.K g (.expr e)) :=
  PS.mono (ps_expr he hs) fun D σ H ⟨F0, env, F, R, h⟩ => tE_s (D := D) (k := fun p => .ok (.nx p.2)) R h fun p v F1 H1 R1 S1 r1 h1 => h1 σ F1 H1 R1
theorem set_k {e : E} {i : Nat} {D : Ends} {σ : L2.St} {H : Hp} (h : tS X.K g (.asg (.one i) e) D σ H) : tE X.K g e σ H fun v H1 => D.nx (σ.set i (some v)) H1 := by
  obtain ⟨F0, env, F, R, h⟩ := h
  refine tE_s (D := D) (k := fun p => (Res.of (store i p.1 p.2)).bind fun e1 => .ok (.nx e1)) R h fun p v F1 H1 R1 S1 r1 h1 => ?_
  obtain ⟨e1, ee, h2⟩ := ofS h1
  obtain ⟨F', _, R2⟩ := store_ok1 R1 r1 (fun a z => R.none z) ee
  exact h2 _ F' H1 R2
theorem s_set {e : E} {e' : Expr} {i : Nat} {x : Str} (G : Good X g ck k) (hi : ck.N[i]? = some x) (hst : ck.st x = true) (he : PE X e' (tE X.K g e)) (hs : swapsWith e' (some (.Name x pos')) pos.line X.env = pure false) :
    PS X (.Assign [.Name x pos'] e' pos) (tS X.K g (.asg (.one i) e)) :=
  PS.mono (ps_set (by rw [G.N]; exact G.nd) (by rw [G.N]; exact hi) (G.loc hst).1 he hs (G.loc hst).2) fun D σ H h => set_k h
theorem s_setLc {elt : E} {tg : Tg} {it : Ev.It} {cond : Option E} {own : List (Str × Nat)} {elt' tg' iter' : Expr} {ifs : List Expr} {scope : Scope} {cpos : Pos} {i : Nat} {x : Str} (G : Good X g ck k) (hi : ck.N[i]? = some x) (hl : ck.sc.names.lookup x = some .local)
    (hsw : swapsWith (.ListComp elt' [⟨tg', iter', ifs, 0⟩] scope cpos) (some (.Name x pos')) pos.line X.env = pure true) (hit : PI X tg' iter' (tI X.K g it)) (ok : blkC ck.N ck.sc scope own = true) (hs : ∀ i ∈ slotsT tg, i ∈ own.map (·.2))
    (hg : ∀ (s : Shared) (H : Hp) (C : Addr) (cl : List (Str × Addr)) (fp : List Addr), PG (X.blk s H scope (compEnvC scope cl C X.env) fp) tg' (gD X.K tg)) (ht : ∀ (s : Shared) (H : Hp) (C : Addr) (cl : List (Str × Addr)) (fp : List Addr), PTs (X.blk s H scope (compEnvC scope cl C X.env) fp) ifs (tCond X.K g.deaf cond))
    (he : ∀ (s : Shared) (H : Hp) (C : Addr) (cl : List (Str × Addr)) (fp : List Addr), PE (X.blk s H scope (compEnvC scope cl C X.env) fp) elt' (tE X.K g.deaf elt)) (hf : ∀ x, foldedSetIterable iter' X.env x = pure x) :
    PS X (.Assign [.Name x pos'] (.ListComp elt' [⟨tg', iter', ifs, 0⟩] scope cpos) pos) (tS X.K g (.asg (.one i) (.comp elt tg it cond (own.map (·.2))))) :=
  PS.mono (ps_setLc G.calm (by rw [G.N]; exact G.nd) (by rw [G.N]; exact hi) (by rw [G.sc]; exact hl) hsw hit (by rw [G.N, G.sc]; exact blkOk_by ok) hg ht he hf) fun D σ H h => comp_main hs σ H _ (set_k h)
theorem r_comp {elt : E} {tg : Tg} {it : Ev.It} {cond : Option E} {own : List (Str × Nat)} {elt' tg' iter' : Expr} {ifs : List Expr} {scope : Scope} {cpos : Pos} (G : Good X g ck k)
    (hit : PI X tg' iter' (tI X.K g it)) (ok : blkC ck.N ck.sc scope own = true) (hs : ∀ i ∈ slotsT tg, i ∈ own.map (·.2))
    (hg : ∀ (s : Shared) (H : Hp) (C : Addr) (cl : List (Str × Addr)) (fp : List Addr), PG (X.blk s H scope (compEnvC scope cl C X.env) fp) tg' (gD X.K tg)) (ht : ∀ (s : Shared) (H : Hp) (C : Addr) (cl : List (Str × Addr)) (fp : List Addr), PTs (X.blk s H scope (compEnvC scope cl C X.env) fp) ifs (tCond X.K g.deaf cond))
    (he : ∀ (s : Shared) (H : Hp) (C : Addr) (cl : List (Str × Addr)) (fp : List Addr), PE (X.blk s H scope (compEnvC scope cl C X.env) fp) elt' (tE X.K g.deaf elt)) (hf : ∀ x, foldedSetIterable iter' X.env x = pure x) :
    PE X (.ListComp elt' [⟨tg', iter', ifs, 0⟩] scope cpos) (tE X.K g (.comp elt tg it cond (own.map (·.2)))) :=
  PE.mono (pe_lc G.calm (by rw [G.N]; exact G.nd) hit (by rw [G.N, G.sc]; exact blkOk_by ok) hg ht he hf) (comp_main hs)
theorem s_asgT {e : E} {e' tg' : Expr} {ts : List Tg} (he : PE X e' (tE X.K g e)) (hg : PG X tg' (gD X.K (.tup ts))) (hs : swapsWithSole [tg'] e' pos.line X.env = pure false) (hw : swappedStores [tg'] e' X.env = pure none) (h1 : (assignEach [tg'] X.env).map (·.2) = [assign tg' X.env]) :
    PS X (.Assign [tg'] e' pos) (tS X.K g (.asg (.tup ts) e)) :=
  PS.mono (ps_asg he hg hs hw h1) fun D σ H ⟨F0, env, F, R, h⟩ => tE_sv (D := D) (k := fun z => (Res.of (assignT (.tup ts) z.1 z.2)).bind fun e1 => .ok (.nx e1)) R h fun z v F1 H1 R1 S1 rep h1 => by
    obtain ⟨e1, ee, h2⟩ := ofS h1
    exact gD_ok (.tup ts) z.1 v z.2 e1 σ _ R1.rel rep ee fun σ2 R2 A => h2 σ2 F1 H1 ⟨R2, R1.sub, R1.bk⟩
theorem par_k {xs : List Nat} {es : Es} {D : Ends} {σ : L2.St} {H : Hp} {Q : List V → Hp → Prop} (h : tS X.K g (.par xs es) D σ H) (hq : ∀ vs H1, vs.length = xs.length → D.nx (setAll σ xs vs) H1 → Q vs H1) : tRs X.K g es σ H Q := by
  obtain ⟨F0, env, F, R, h⟩ := h
  have h' : PostS X.K g F0 D ((evalRs g.T.chg g.T.gval g.call es env).bind fun p => (Res.of (resolve p.1 p.2)).bind fun q => (Res.of (stores xs q.1 q.2)).bind fun e1 => .ok (.nx e1)) := h
  refine ⟨env, F, R.rel, bindS R h' fun p vs F1 H1 _ R1 S1 r1 h1 => ?_⟩
  obtain ⟨q, e1, h2⟩ := ofS h1
  obtain ⟨e2, e3, h3⟩ := ofS h2
  obtain ⟨rs', env2⟩ := q
  obtain ⟨F2, R2, S2, _, I2, nv, _⟩ := resolve_ok R1.rel S1 r1.relI e1
  have R2' := R.step S2 R2
  have R3 := stores_ok (fun a z => R.none z) R2' I2 nv e3
  have sl : ∀ (xs : List Nat) (rs : List Ev.R) (env e2 : Env), stores xs rs env = some e2 → rs.length = xs.length := by
    intro xs
    induction xs with
    | nil => intro rs env e2 h; cases rs with
             | nil => rfl
             | cons a b => cases h
    | cons x xs ih => intro rs env e2 h; cases rs with
                      | nil => cases h
                      | cons a b =>
                        have h' : ((store x a env).bind fun e1 => stores xs b e1) = some e2 := h
                        cases q : store x a env with
                        | none => rw [q] at h'; cases h'
                        | some e1 => rw [q] at h'; simp [ih b e1 e2 h']
  exact hq vs H1 (by rw [← I2.len]; exact sl xs rs' env2 e2 e3) (h3 _ F2 H1 R3)
theorem RelS.more {K : PySem.W.Frag} {env : Env} {F F' H H' F0 : Hp} {σ : L2.St} (R : RelS K g F0 env F σ H) (G : Grow F H F' H') : RelS K g F0 env F' σ H' :=
  ⟨R.rel.more G.f G.h G.s G.g, R.sub.trans G.f, fun a o e => by
    rcases G.g a o e with z | z
    · exact R.bk a o z
    · exact .inr (.inl (R.none z))⟩
/-- .. unpacked from a new tuple -/
theorem par_kT {xs : List Nat} {es : Es} {D : Ends} {σ : L2.St} {H : Hp} (h : tS X.K g (.par xs es) D σ H) : tRs X.K g es σ H fun vs H1 => vs.length = xs.length ∧ ∀ T, H1 T = none → D.nx (setAll σ xs vs) (upd H1 T (.tup vs)) := by
  obtain ⟨F0, env, F, R, h⟩ := h
  have h' : PostS X.K g F0 D ((evalRs g.T.chg g.T.gval g.call es env).bind fun p => (Res.of (resolve p.1 p.2)).bind fun q => (Res.of (stores xs q.1 q.2)).bind fun e1 => .ok (.nx e1)) := h
  refine ⟨env, F, R.rel, bindS R h' fun p vs F1 H1 _ R1 S1 r1 h1 => ?_⟩
  obtain ⟨q, e1, h2⟩ := ofS h1
  obtain ⟨e2, e3, h3⟩ := ofS h2
  obtain ⟨rs', env2⟩ := q
  obtain ⟨F2, R2, S2, _, I2, nv, _⟩ := resolve_ok R1.rel S1 r1.relI e1
  have R2' := R.step S2 R2
  have sl : ∀ (xs : List Nat) (rs : List Ev.R) (env e2 : Env), stores xs rs env = some e2 → rs.length = xs.length := by
    intro xs
    induction xs with
    | nil => intro rs env e2 h; cases rs with
             | nil => rfl
             | cons a b => cases h
    | cons x xs ih => intro rs env e2 h; cases rs with
                      | nil => cases h
                      | cons a b =>
                        have h' : ((store x a env).bind fun e1 => stores xs b e1) = some e2 := h
                        cases q : store x a env with
                        | none => rw [q] at h'; cases h'
                        | some e1 => rw [q] at h'; simp [ih b e1 e2 h']
  refine ⟨by rw [← I2.len]; exact sl xs rs' env2 e2 e3, fun T hT => ?_⟩
  have up : Sub H1 (upd H1 T (.tup vs)) := sub_upd hT
  have R3 : RelS X.K g F0 env2 F2 σ (upd H1 T (.tup vs)) := R2'.more ⟨Sub.refl _, up, R2'.rel.sub.trans up, fun _ _ z => .inl z⟩
  have I3 : RelI X.K g.c H env2 F2 σ (upd H1 T (.tup vs)) rs' vs := ⟨I2.len, fun i r v a b => by
    have := I2.get i r v a b
    cases r with
    | val d => exact this
    | var i => exact this
    | tmp d => obtain ⟨a, o, k1, k2, k3⟩ := this; exact ⟨a, o, k1, up _ _ k2, k3⟩, I2.dis⟩
  exact h3 _ F2 _ (stores_ok (fun a z => R.none z) R3 I3 nv e3)
theorem gDs_names {K : PySem.W.Frag} : ∀ (xs : List Nat) (vs : List V) (σ : L2.St) (H : Hp) (Q : L2.St → Hp → Prop), vs.length = xs.length → Q (setAll σ xs vs) H → gDs K (xs.map .one) vs σ H Q
  | [], [], σ, H, Q, _, q => ⟨rfl, q⟩
  | x :: xs, v :: vs, σ, H, Q, hl, q => ⟨v, vs, rfl, gDs_names xs vs _ H Q (by simpa using hl) q⟩
  | [], _ :: _, _, _, _, hl, _ => by simp at hl
  | _ :: _, [], _, _, _, hl, _ => by simp at hl
theorem s_parT {xs : List Nat} {es : Es} {ts' vs' : List Expr} {kt k2 : Nat} {pt p2 : Pos} (G : Good X g ck k) (ha : PA X vs' (tRs X.K g es)) (hl : es.len ≤ 1000) (hvl : es.len = xs.length) (hg : PG X (.Tuple ts' kt pt) (gD X.K (.tup (xs.map .one)))) (hw : swappedStores [.Tuple ts' kt pt] (.Tuple vs' k2 p2) X.env = pure none) :
    PS X (.Assign [.Tuple ts' kt pt] (.Tuple vs' k2 p2) pos) (tS X.K g (.par xs es)) := by
  refine PS.mono (ps_asg (pe_tup ha) hg rfl hw rfl) fun D σ H h => ?_
  obtain ⟨env, F, R, q⟩ := par_kT h
  refine ⟨env, F, R, ?_⟩
  cases e : evalRs g.T.chg g.T.gval g.call es env with
  | bad => rw [e] at q; exact q
  | exc _ _ => rw [e] at q; exact q
  | ok p =>
    rw [e] at q
    intro vs F1 H1 R1 S1 r1
    obtain ⟨h1, h2⟩ := q vs F1 H1 R1 S1 r1
    refine ⟨by rw [h1, ← hvl, sizeLine_eq]; omega, fun T hT => ?_⟩
    refine ⟨T, vs, rfl, SqT.of upd_same, by rw [h1]; simp, ?_⟩
    exact gDs_names xs vs σ _ _ h1 (h2 T hT)
theorem s_par {es : Es} {a b : Expr} {i j : Nat} {x y : Str} {px py pt : Pos} {kt k2 pt2} (G : Good X g ck k) (hi : ck.N[i]? = some x) (hj : ck.N[j]? = some y) (hij : i ≠ j) (hx : ck.sc.names.lookup x = some .local) (hy : ck.sc.names.lookup y = some .local)
    (ha : PA X [a, b] (tRs X.K g es)) (hw : swappedStores [.Tuple [.Name x px, .Name y py] kt pt] (.Tuple [a, b] k2 pt2) X.env = pure (some [x, y])) :
    PS X (.Assign [.Tuple [.Name x px, .Name y py] kt pt] (.Tuple [a, b] k2 pt2) pos) (tS X.K g (.par [i, j] es)) :=
  PS.mono (ps_par G.calm (by rw [G.N]; exact G.nd) (by rw [G.N]; exact hi) (by rw [G.N]; exact hj) hij (by rw [G.sc]; exact hx) (by rw [G.sc]; exact hy) ha hw) fun D σ H h => par_k h fun vs H1 hl q => by
    obtain ⟨v, w, rfl⟩ : ∃ v w, vs = [v, w] := by
      match vs, hl with
      | [v, w], _ => exact ⟨v, w, rfl⟩
    exact ⟨v, w, rfl, q⟩
theorem s_par3 {es : Es} {a b c : Expr} {i j l : Nat} {x y z : Str} {px py pz pt : Pos} {kt k2 pt2} (G : Good X g ck k) (hi : ck.N[i]? = some x) (hj : ck.N[j]? = some y) (hl : ck.N[l]? = some z) (hij : i ≠ j) (hil : i ≠ l) (hjl : j ≠ l) (hx : ck.sc.names.lookup x = some .local) (hy : ck.sc.names.lookup y = some .local) (hz : ck.sc.names.lookup z = some .local)
    (ha : PA X [a, b, c] (tRs X.K g es)) (hw : swappedStores [.Tuple [.Name x px, .Name y py, .Name z pz] kt pt] (.Tuple [a, b, c] k2 pt2) X.env = pure (some [x, y, z])) :
    PS X (.Assign [.Tuple [.Name x px, .Name y py, .Name z pz] kt pt] (.Tuple [a, b, c] k2 pt2) pos) (tS X.K g (.par [i, j, l] es)) :=
  PS.mono (ps_par3 G.calm (by rw [G.N]; exact G.nd) (by rw [G.N]; exact hi) (by rw [G.N]; exact hj) (by rw [G.N]; exact hl) hij hil hjl (by rw [G.sc]; exact hx) (by rw [G.sc]; exact hy) (by rw [G.sc]; exact hz) ha hw) fun D σ H h => par_k h fun vs H1 hl q => by
    obtain ⟨u, v, w, rfl⟩ : ∃ u v w, vs = [u, v, w] := by
      match vs, hl with
      | [u, v, w], _ => exact ⟨u, v, w, rfl⟩
    exact ⟨u, v, w, rfl, q⟩
theorem s_if {c : E} {a b : Ss} {c' : Expr} {a' b' : List Stmt} (hc : PT X c' (tT X.K g c)) (ha : PSs X a' (tSs X.K g a)) (hb : PSs X b' (tSs X.K g b)) : PS X (.If c' a' b' pos) (tS X.K g (.iff c a b)) :=
  PS.mono (ps_if hc ha hb) fun D σ H ⟨F0, env, F, R, h⟩ => tT_s (D := D) (k := fun p => if p.1 then evSs g a p.2 else evSs g b p.2) R h fun p F1 H1 R1 S1 h1 => by
    cases e : p.1 with
    | true => rw [if_pos rfl]; rw [e, if_pos rfl] at h1; exact ⟨F0, p.2, F1, R1, h1⟩
    | false => rw [if_neg (by simp)]; rw [e, if_neg (by simp)] at h1; exact ⟨F0, p.2, F1, R1, h1⟩
/-! ### loops -/
/-- what stood still at a later place -/
theorem RelS.up {K : PySem.W.Frag} {env env1 : Env} {F F1 F0 H H1 : Hp} {σ σ1 : L2.St} (R1 : RelS K g F0 env1 F1 σ1 H1) (R : RelS K g F1 env F σ H) : RelS K g F0 env F σ H :=
  ⟨R.rel, R1.sub.trans R.sub, fun a o e => by
    rcases R.bk a o e with z | z
    · exact R1.bk a o z
    · exact .inr z⟩
/-- a turn of a loop -/
theorem turn_k {K : PySem.W.Frag} {D : Ends} {gone : List Nat} {N : L2.St → Hp → Prop} {res : Res Fl} {nxt : Env → Res Fl} {F0 F1 H1 : Hp} {env1 : Env} {σ1 : L2.St} (R1 : RelS K g F0 env1 F1 σ1 H1)
    (hN : ∀ e σ F H, RelS K g F1 e F σ H → PostS K g F0 D (nxt e) → N σ H)
    (h : PostS K g F0 D (res.bind fun f => match f with
      | .nx e2 => nxt (wipeE e2 gone)
      | .ct e2 => nxt (wipeE e2 gone)
      | .brk e2 => .ok (.nx (wipeE e2 gone))
      | .ret r e2 => .ok (.ret r e2))) : PostS K g F1 { D with nx := N, ct := N, bk := D.nx } res := by
  cases res with
  | bad => exact h.elim
  | exc _ _ => exact fun σ dx w F' H' s1 => h σ dx w F' H' (R1.sub.trans s1)
  | ok f =>
    cases f with
    | nx e2 => exact fun σ' F' H' R' => hN _ σ' F' H' (R'.forget gone) h
    | ct e2 => exact fun σ' F' H' R' => hN _ σ' F' H' (R'.forget gone) h
    | brk e2 => exact fun σ' F' H' R' => h σ' F' H' ((R1.up R').forget gone)
    | ret r e2 => exact fun σ' v F' H' R' => h σ' v F' H' (R1.up R')
theorem RelS.refl {K : PySem.W.Frag} {env : Env} {F F0 H : Hp} {σ : L2.St} (R : RelS K g F0 env F σ H) : RelS K g F env F σ H := ⟨R.rel, Sub.refl _, fun _ _ e => .inl e⟩
theorem s_for {tg : Tg} {it : Ev.It} {body : Ss} {gone : List Nat} {tg' iter' : Expr} {body' : List Stmt} (G : Good X g ck k) (hp : PassesOwn (model X.prog X.w) X.A X.env X.xe) (hi : PI X tg' iter' (tI X.K g it)) (hg : PG X tg' (gD X.K tg)) (hb : PSs X body' (tSs X.K g body))
    (hs : ∀ x, foldedSetIterable iter' X.env x = pure x) : PS X (.For tg' iter' body' [] pos) (tS X.K g (.for_ tg it body gone)) := by
  refine PS.mono (ps_for hp G.calm hi hg hb hs) fun D σ H ⟨F0, env, F, R, h⟩ => ?_
  have h' : PostS X.K g F0 D ((evI g it env).bind fun p => forL tg (evSs g body) gone p.1 (wipeE p.2 gone)) := h
  refine ⟨env, F, R.rel, bindS R h' fun q J F1 H1 _ R1 S1 wk h1 => ?_⟩
  obtain ⟨Y, walk, yy⟩ := wk
  refine for_it walk (fun i σ2 Hc => ∃ envi Fi, RelS X.K g F1 envi Fi σ2 Hc ∧ PostS X.K g F0 D (forL tg (evSs g body) gone (q.1.drop i) envi)) ?_ ?_ ?_ ?_
  · exact ⟨_, F1, R1.refl.forget gone, h1⟩
  · exact fun i σ2 Hc _ ⟨envi, Fi, Ri, _⟩ => Ri.sub.trans Ri.rel.sub
  · intro i x σ2 Hc H' hi' ⟨envi, Fi, Ri, hq⟩ hY
    obtain ⟨d, F', ed, gr, rep⟩ := yy i Hc x H' hi' hY Fi Ri.sub Ri.rel.sub
    have hdrop : q.1.drop i = d :: q.1.drop (i + 1) := by
      obtain ⟨hlt, e⟩ := List.getElem?_eq_some_iff.mp ed
      rw [List.drop_eq_getElem_cons hlt, e]
    rw [hdrop] at hq
    have hq' : PostS X.K g F0 D ((Res.of (assignT tg d envi)).bind fun e1 => (evSs g body e1).bind fun f => match f with
      | .nx e2 => forL tg (evSs g body) gone (q.1.drop (i + 1)) (wipeE e2 gone)
      | .ct e2 => forL tg (evSs g body) gone (q.1.drop (i + 1)) (wipeE e2 gone)
      | .brk e2 => .ok (.nx (wipeE e2 gone))
      | .ret r e2 => .ok (.ret r e2)) := hq
    obtain ⟨e1, ea, hq2⟩ := ofS hq'
    have R' := Ri.more gr
    exact gD_ok tg d x envi e1 σ2 _ R'.rel rep ea fun σ3 R3 A => ⟨F1, e1, F', ⟨R3, R'.sub, R'.bk⟩, turn_k (nxt := fun e => forL tg (evSs g body) gone (q.1.drop (i + 1)) e) R1 (fun e σ4 F4 H4 R4 hq => ⟨e, F4, R4, hq⟩) hq2⟩
  · intro σ2 Hn ⟨envi, Fi, Ri, hq⟩
    rw [List.drop_length] at hq
    exact hq σ2 Fi Hn (R1.up Ri)
theorem s_while {c : E} {body : Ss} {gone : List Nat} {c' : Expr} {body' : List Stmt} (hp : PassesOwn (model X.prog X.w) X.A X.env X.xe) (hc : PT X c' (tT X.K g c)) (hb : PSs X body' (tSs X.K g body)) : PS X (.While c' body' [] pos) (tS X.K g (.whl c body gone)) := by
  refine PS.mono (ps_while hp hc hb) fun D σ H ⟨F0, env, F, R, h⟩ => ?_
  refine ⟨fun n σ2 Hc => ∃ envi Fi, RelS X.K g F0 envi Fi σ2 Hc ∧ PostS X.K g F0 D (whlL (fun e => tst (ev g c e)) (evSs g body) gone n envi), ⟨FUEL, _, F, R.forget gone, h⟩, ?_⟩
  rintro n σ2 Hc ⟨envi, Fi, Ri, hq⟩
  cases n with
  | zero => exact hq.elim
  | succ n =>
    have hq' : PostS X.K g F0 D ((tst (ev g c envi)).bind fun p => if p.1 then (evSs g body p.2).bind fun f => match f with
      | .nx e2 => whlL (fun e => tst (ev g c e)) (evSs g body) gone n (wipeE e2 gone)
      | .ct e2 => whlL (fun e => tst (ev g c e)) (evSs g body) gone n (wipeE e2 gone)
      | .brk e2 => .ok (.nx (wipeE e2 gone))
      | .ret r e2 => .ok (.ret r e2)
      else .ok (.nx p.2)) := hq
    refine tT_s Ri hq' fun p F1 H1 R1 S1 h1 => ?_
    cases e : p.1 with
    | false =>
      rw [if_neg (by simp)]
      rw [e, if_neg (by simp)] at h1
      exact h1 σ2 F1 H1 R1
    | true =>
      rw [if_pos rfl]
      rw [e, if_pos rfl] at h1
      refine ⟨fun σ' H' => ∃ envi Fi, RelS X.K g F0 envi Fi σ' H' ∧ PostS X.K g F0 D (whlL (fun e => tst (ev g c e)) (evSs g body) gone n envi), fun σ' H' h => ⟨n, Nat.lt_succ_self n, h⟩, F1, p.2, F1, R1.refl, ?_⟩
      exact turn_k (nxt := fun e => whlL (fun e => tst (ev g c e)) (evSs g body) gone n e) R1 (fun e σ4 F4 H4 R4 hq => ⟨e, F4, R1.up R4, hq⟩) h1
/-! ### a list's item, an item more -/
theorem upd_rel {K : PySem.W.Frag} {F0 F H : Hp} {env : Env} {σ : L2.St} {x : Nat} {d d' : Ev.D} {a : Addr} {o : HO} (R : RelS K g F0 env F σ H) (hx : env.at x = .own d ∨ env.at x = .byr d) (hs : σ[x]? = some (some (.ref a))) (ho : RepO K g.c F d' o) :
    RelS K g F0 (env.set x ((env.at x).put d')) F σ (upd H a o) := by
  have hm : (env.at x).mine = true := by rcases hx with h | h <;> rw [h] <;> rfl
  obtain ⟨o0, h1, h3⟩ : ∃ o, H a = some o ∧ F a = none := by
    rcases hx with h | h
    · obtain ⟨b, o, k1, k2, k3, k4, _⟩ := R.rel.own x _ h
      rw [hs] at k1; cases k1; exact ⟨o, k2, k4⟩
    · obtain ⟨b, o, k1, k2, k3, k4, _⟩ := R.rel.byr x _ h
      rw [hs] at k1; cases k1; exact ⟨o, k2, k4⟩
  refine ⟨R.rel.after (Sub.refl _) (fun b u e => ?_) (some a) (fun b u e n => by rw [upd_ne (fun z => n (by rw [z]))]; exact e) (fun b u e => ?_) (fun b u e => .inl e) (some x) (some d') (fun i e => ?_) (fun e => nomatch e) rfl, R.sub, R.bk⟩
  · have : b ≠ a := fun z => by subst z; rw [h3] at e; cases e
    rw [upd_ne this]; exact R.rel.sub b u e
  · by_cases z : b = a
    · subst z; exact ⟨_, upd_same⟩
    · exact ⟨u, by rw [upd_ne z]; exact e⟩
  · cases e
    exact ⟨a, d', o, hm, hs, rfl, rfl, upd_same, ho, h3⟩
theorem s_app {e : E} {e' : Expr} {i : Nat} {x : Str} {apos cpos : Pos} (G : Good X g ck k) (hi : ck.N[i]? = some x) (hv : visB ck.sc x = true) (hn : okName x = true) (he : PE X e' (tE X.K g e)) (hs : starEach [e'] X.env = [(false, eval e' X.env)])
    (hline : (apos.endLine == cpos.line) = true) : PS X (.Expr (.Call (.Attribute (.Name x p) "append" apos) [e'] [] cpos) pos) (tS X.K g (.app i e)) := by
  have hx : PE X (.Name x p) (tVar i) := pe_var (by rw [G.N]; exact hi) (by rw [G.sc]; exact visB_ok hv) (okName_ok hn).1 (okName_ok hn).2
  have hm := pe_bm (r := rAppend) PySem.F.plainAttrs_list PySem.F.slot_list_append PySem.F.type_list_append mt_append hx (pa1 he hs) rfl (by rw [hs]; rfl) hline (by rw [hs]; rfl) (by rfl)
  refine PS.mono (ps_expr hm rfl) fun D σ H ⟨F0, env, F, R, h⟩ => ?_
  have h' : PostS X.K g F0 D (match env.at i with
    | .own _ => (ev g e env).bind fun p => (Res.of (asVal p.1 p.2)).bind fun z => (match z.2.at i with
      | .own (.lst ds) => if ds.length < LIM then .ok (.nx (z.2.set i (.own (.lst (ds ++ [z.1]))))) else .bad
      | _ => .bad)
    | _ => .bad) := h
  cases q : env.at i with
  | no => rw [q] at h'; exact h'.elim
  | val d => rw [q] at h'; exact h'.elim
  | byr d => rw [q] at h'; exact h'.elim
  | own d =>
    rw [q] at h'
    obtain ⟨a, o, g1, g2, g3, _⟩ := R.rel.own i d q
    obtain ⟨ds0, vs0, rfl, rfl, _⟩ := g3.lst
    refine ⟨_, g1, .inl ⟨rfl, vs0, SqL.of g2⟩, ?_⟩
    refine tE_sv R h' fun z v F1 H1 R1 S1 rep h1 => ?_
    cases q2 : z.2.at i with
    | no => rw [q2] at h1; exact h1.elim
    | val d => rw [q2] at h1; exact h1.elim
    | byr d => rw [q2] at h1; exact h1.elim
    | own d =>
      rw [q2] at h1
      obtain ⟨b, o, k1, k2, k3, _⟩ := R1.rel.own i d q2
      rw [g1] at k1; cases k1
      obtain ⟨ds, vs, rfl, rfl, rl, ll⟩ := k3.lst
      have h2 : PostS X.K g F0 D (if ds.length < LIM then .ok (.nx (z.2.set i (.own (.lst (ds ++ [z.1]))))) else .bad) := h1
      by_cases hl : ds.length < LIM
      · rw [if_pos hl] at h2
        refine ⟨a, vs, v, rfl, rfl, k2, by rw [← rl.length, LIM_eq]; exact hl, ?_⟩
        have := upd_rel (d' := .lst (ds ++ [z.1])) (o := .lst (vs ++ [v])) R1 (.inl q2) g1 ⟨rl.append (.cons rep .nil), by simp; omega⟩
        rw [q2] at this
        exact h2 σ F1 _ this
      · rw [if_neg hl] at h2; exact h2.elim
theorem sw_sub {v' o i : Expr} {ip : Pos} {l : Nat} {env : PySem.Env} : swapsWithSole [.Subscript o i ip] v' l env = pure false := by cases v' <;> rfl
theorem st_sub {v' o i : Expr} {ip : Pos} {env : PySem.Env} : swappedStores [.Subscript o i ip] v' env = pure none := by cases v' <;> rfl
theorem s_put {v ix : E} {v' ix' : Expr} {i : Nat} {x : Str} {ipos : Pos} (G : Good X g ck k) (hi : ck.N[i]? = some x) (hv : visB ck.sc x = true) (hn : okName x = true) (hev : PE X v' (tE X.K g v)) (hei : PE X ix' (tE X.K g ix))
    (ha : ∀ v, assign (.Subscript (.Name x p) ix' ipos) X.env v = (do
      let ov ← holding [v] (eval (.Name x p) X.env)
      let iv ← holding [v, ov] (eval ix' X.env)
      standAt ipos
      holding [v, ov, iv] (setItem ov iv v)
      release [v, ov, iv] [])) : PS X (.Assign [.Subscript (.Name x p) ix' ipos] v' pos) (tS X.K g (.put i ix v)) := by
  have hx : PE X (.Name x p) (tVar i) := pe_var (by rw [G.N]; exact hi) (by rw [G.sc]; exact visB_ok hv) (okName_ok hn).1 (okName_ok hn).2
  refine PS.mono (ps_asg hev (pg_sub hx hei set_list ha) sw_sub st_sub rfl) fun D σ H ⟨F0, env, F, R, h⟩ => ?_
  have h' : PostS X.K g F0 D ((ev g v env).bind fun p => (Res.of (asVal p.1 p.2)).bind fun z => if (z.2.at i).mine = true then (ev g ix z.2).bind fun q =>
    match q.2.at i, peek q.1 q.2 with
    | .own (.lst ds), some (.int k) => (match L2.ixN ds.length k with
      | some j => .ok (.nx (q.2.set i (.own (.lst (ds.set j z.1)))))
      | none => .bad)
    | .byr (.lst ds), some (.int k) => (match L2.ixN ds.length k with
      | some j => .ok (.nx (q.2.set i (.byr (.lst (ds.set j z.1)))))
      | none => .bad)
    | _, _ => .bad
    else .bad) := h
  refine tE_sv R h' fun z w F1 H1 R1 S1 rep h1 => ?_
  -- the name is read ahead of the index: what it holds is what it held
  have known : ∀ (E1 : Env) (F2 H2 : Hp), RelS X.K g F0 E1 F2 σ H2 → (E1.at i).mine = true → ∃ a, σ[i]? = some (some (.ref a)) := fun E1 F2 H2 R2 hm => by
    cases q : E1.at i with
    | no => rw [q] at hm; cases hm
    | val x => rw [q] at hm; cases hm
    | own x => obtain ⟨a, _, g1, _⟩ := R2.rel.own i x q; exact ⟨a, g1⟩
    | byr x => obtain ⟨a, _, g1, _⟩ := R2.rel.byr i x q; exact ⟨a, g1⟩
  show ∃ v, σ[i]? = some (some v) ∧ _
  by_cases hm : (z.2.at i).mine = true
  · rw [if_pos hm] at h1
    obtain ⟨a, g1⟩ := known _ _ _ R1 hm
    refine ⟨.ref a, g1, ?_⟩
    refine tE_s R1 h1 fun q u F2 H2 R2 S2 r2 h2 => ?_
    have fin : ∀ (ds : List Ev.D) (kk : Int) (o : Ev.D → Sl), q.2.at i = o (.lst ds) → (∀ d, o d = .own d ∨ o d = .byr d) → (∀ d d', (o d).put d' = o d') → peek q.1 q.2 = some (.int kk) → PostS X.K g F0 D (match L2.ixN ds.length kk with
      | some j => .ok (.nx (q.2.set i (o (.lst (ds.set j z.1)))))
      | none => .bad) → rSetL (.ref a) u w H2 (fun H3 => D.nx σ H3) := by
      intro ds kk o ho hoo hop hp h3
      obtain rfl := (R2.rel.peek r2 hp).of_int
      have hoo' : q.2.at i = .own (.lst ds) ∨ q.2.at i = .byr (.lst ds) := by rw [ho]; exact hoo _
      obtain ⟨vs, k2, rl, ll⟩ : ∃ vs, H2 a = some (.lst vs) ∧ RepL X.K g.c F2 ds vs ∧ ds.length ≤ LIM := by
        rcases hoo' with e | e
        · obtain ⟨b, o', k1, k2, k3, _⟩ := R2.rel.own i _ e
          rw [g1] at k1; cases k1
          obtain ⟨ds', vs, e1, rfl, rl, ll⟩ := k3.lst
          cases e1
          exact ⟨vs, k2, rl, ll⟩
        · obtain ⟨b, o', k1, k2, k3, _⟩ := R2.rel.byr i _ e
          rw [g1] at k1; cases k1
          obtain ⟨ds', vs, e1, rfl, rl, ll⟩ := k3.lst
          cases e1
          exact ⟨vs, k2, rl, ll⟩
      cases q3 : L2.ixN ds.length kk with
      | none => rw [q3] at h3; exact h3.elim
      | some j =>
        rw [q3] at h3
        refine ⟨a, vs, kk, j, rfl, rfl, k2, by rw [← rl.length]; exact q3, ?_⟩
        have := upd_rel (d' := .lst (ds.set j z.1)) (o := .lst (vs.set j w)) R2 hoo' g1 ⟨rl.set (rep.sub S2.fsub) j, by simp; exact ll⟩
        rw [ho, hop] at this
        exact h3 σ F2 _ this
    split at h2
    · rename_i ds kk e1 e2
      exact fin ds kk .own e1 (fun d => .inl rfl) (fun _ _ => rfl) e2 h2
    · rename_i ds kk e1 e2
      exact fin ds kk .byr e1 (fun d => .inr rfl) (fun _ _ => rfl) e2 h2
    · exact h2.elim
  · rw [if_neg hm] at h1
    exact h1.elim
theorem s_aug {e : E} {e' : Expr} {i : Nat} {x : Str} (G : Good X g ck k) (hi : ck.N[i]? = some x) (hst : ck.st x = true) (he : PE X e' (tE X.K g e)) : PS X (.AugAssign (.Name x pos') .Add e' pos) (tS X.K g (.aug i .add e)) := by
  refine PS.mono (ps_aug (by rw [G.N]; exact G.nd) (by rw [G.N]; exact hi) (G.loc hst).1 he ip_add (G.loc hst).2) fun D σ H ⟨F0, env, F, R, h⟩ => ?_
  have h' : PostS X.K g F0 D (match env.at i with
    | .val d => (ev g e env).bind fun p => (match p.2.at i, peek p.1 p.2 with
      | .val _, some y => (match d, y with
        | .int a, .int b => .ok (.nx (p.2.set i (.val (.int (a + b)))))
        | _, _ => .bad)
      | _, _ => .bad)
    | _ => .bad) := h
  cases q : env.at i with
  | no => rw [q] at h'; exact h'.elim
  | own d => rw [q] at h'; exact h'.elim
  | byr d => rw [q] at h'; exact h'.elim
  | val d =>
    rw [q] at h'
    obtain ⟨v, g1, g2⟩ := R.rel.val i d q
    refine ⟨v, g1, tE_s R h' fun p w F1 H1 R1 S1 r1 h1 => ?_⟩
    split at h1
    · rename_i e1 e2
      split at h1
      · rename_i a b
        cases g2
        obtain rfl := (R1.rel.peek r1 e2).of_int
        refine ⟨a, b, rfl, rfl, h1 _ F1 H1 ⟨R1.rel.store (Env.at_lt (by rw [e1]; intro z; cases z)) (.int _), R1.sub, R1.bk⟩⟩
      · exact h1.elim
    · exact h1.elim
end
end Ev
namespace Ev
open PySem PySem.Spec PyProof.Rows L2
/-! ### which text stands for which -/
def isIf : Expr → Bool
  | .IfExp _ _ _ _ => true
  | _ => false
def isTup : Expr → Bool
  | .Tuple _ _ _ => true
  | _ => false
def bopB : BOp → Operator → Bool
  | .add, .Add => true
  | .sub, .Sub => true
  | .mul, .Mult => true
  | .fdiv, .FloorDiv => true
  | .mod, .Mod => true
  | .pow, .Pow => true
  | _, _ => false
theorem bopB_ok {o : BOp} {p : Operator} (h : bopB o p = true) : p = opOf o := by cases o <;> cases p <;> first | rfl | cases h
def copB : COp → CmpOp → Bool
  | .eq, .Eq => true
  | .ne, .NotEq => true
  | .lt, .Lt => true
  | .le, .LtE => true
  | .gt, .Gt => true
  | .ge, .GtE => true
  | .isin, .In => true
  | .notin, .NotIn => true
  | .is, .Is => true
  | .isnot, .IsNot => true
  | _, _ => false
theorem copB_ok {o : COp} {p : CmpOp} (h : copB o p = true) : p = copOf o := by cases o <;> cases p <;> first | rfl | cases h
def boB : Bool → BoolOp → Bool
  | true, .And => true
  | false, .Or => true
  | _, _ => false
theorem boB_ok {c : Bool} {p : BoolOp} (h : boB c p = true) : p = opB c := by cases c <;> cases p <;> first | rfl | cases h
mutual
def chkTg (ck : Ck) : Tg → Expr → Bool
  | .one i, e => match e with
    | .Name x _ => decide (ck.N[i]? = some x) && ck.st x
    | _ => false
  | .tup ts, e => match e with
    | .Tuple es _ _ => chkTgs ck ts es
    | _ => false
def chkTgs (ck : Ck) : List Tg → List Expr → Bool
  | [], [] => true
  | t :: ts, e :: es => chkTg ck t e && chkTgs ck ts es
  | _, _ => false
end
def notSlice : Expr → Bool
  | .Slice _ _ _ _ => false
  | _ => true
def isNone_ : E → Bool
  | .none_ => true
  | _ => false
mutual
def chkE (T : Tab) : E → Ck → Expr → Bool
  | .isi t a, ck, e => match e with
    | .Call (.Name x _) [a', .Name y _] [] _ => decide (x = "isinstance") && decide (tyStr t = y) && glB ck.sc x && glB ck.sc y && chkE T a ck a'
    | _ => false
  | .sl i, ck, e => match e with
    | .Name x _ => decide (ck.N[i]? = some x) && visB ck.sc x && okName x
    | _ => false
  | .con d, _, e => match e with
    | .Constant co _ _ => constB d co
    | _ => false
  | .gl n, ck, e => match e with
    | .Name x _ => decide (T.gname n = x) && glB ck.sc x && okName x
    | _ => false
  | .lst es, ck, e => match e with
    | .List es' _ => chkDs T es ck es'
    | _ => false
  | .tup es, ck, e => match e with
    | .Tuple es' _ _ => chkDs T es ck es'
    | _ => false
  | .op o a b, ck, e => match e with
    | .BinOp a' o' b' _ => bopB o o' && chkE T a ck a' && chkE T b ck b'
    | _ => false
  | .neg a, ck, e => match e with
    | .UnaryOp o a' _ => (match o with | .USub => true | _ => false) && chkE T a ck a'
    | _ => false
  | .not a, ck, e => match e with
    | .UnaryOp o a' _ => (match o with | .Not => true | _ => false) && !isIf a' && chkE T a ck a'
    | _ => false
  | .lg conj es, ck, e => match e with
    | .BoolOp o vs _ => boB conj o && chkLg T es ck vs
    | _ => false
  | .cmp o a b, ck, e => match e with
    | .Compare a' [o'] [b'] _ => copB o o' && !behindInMarks o' b' && chkE T a ck a' && chkE T b ck b'
    | _ => false
  | .cmp2 o p a b c, ck, e => match e with
    | .Compare a' [o', p'] [b', c'] _ => copB o o' && copB p p' && !behindInMarks p' c' && chkE T a ck a' && chkE T b ck b' && chkE T c ck c'
    | _ => false
  | .ite c a b, ck, e => match e with
    | .IfExp c' a' b' _ => !isIf c' && chkE T c ck c' && chkE T a ck a' && chkE T b ck b'
    | _ => false
  | .call f es kw pm, ck, e => match e with
    | .Call (.Name x _) es' kws _ => (T.fn f).isSome && decide (T.fname f = x) && glB ck.sc x && okName x && chkRs T es ck es' && chkKw T kw ck kws && kwB es'.length (kws.filterMap (·.arg)) (T.ps f) pm
    | _ => false
  | .bi b es, ck, e => match e with
    | .Call (.Name x _) (a' :: es') [] _ => (match b with | .bitlen => false | _ => true) && decide (biName b = x) && glB ck.sc x && chkRs T es ck (a' :: es')
    | .Call (.Attribute o' nm apos) [] [] pos => (match b with | .bitlen => true | _ => false) && decide (nm = "bit_length") && (apos.endLine == pos.line) && (match o' with | .Call _ _ _ _ => false | _ => true) && chkRs T es ck [o']
    | _ => false
  | .ix a i, ck, e => match e with
    | .Subscript a' i' _ => notSlice i' && chkE T a ck a' && chkE T i ck i'
    | _ => false
  | .sli a lo hi, ck, e => match e with
    | .Subscript a' (.Slice lo' hi' none _) _ => chkE T a ck a' && (match lo' with
        | none => isNone_ lo
        | some l => !isNone_ lo && chkE T lo ck l) && (match hi' with
        | none => isNone_ hi
        | some l => !isNone_ hi && chkE T hi ck l)
    | _ => false
  | .none_, _, _ => false
  | .comp elt tg it cond own, ck, e => match e with
    | .ListComp elt' [⟨tg', iter', ifs, 0⟩] scope _ => chkIt T it ck tg' iter' && blkC ck.N ck.sc scope (own.map fun i => (ck.N.getD i ⟨#[]⟩, i)) && (slotsT tg).all (fun i => decide (i ∈ own)) && chkTg (ck.inner scope) tg tg' &&
        chkC T cond (ck.inner scope) ifs && chkE T elt (ck.inner scope) elt'
    | _ => false
/-- a comprehension's test -/
def chkC (T : Tab) : Option E → Ck → List Expr → Bool
  | none, _, ifs => ifs.isEmpty
  | some c, ck, ifs => match ifs with
    | [c'] => !isIf c' && chkE T c ck c'
    | _ => false
def chkLg (T : Tab) : Es → Ck → List Expr → Bool
  | .nil, _, _ => false
  | .cons _ a r, ck, es => match es with
    | [] => false
    | e :: es' => !isIf e && chkE T a ck e && (match r, es' with
      | .nil, [] => true
      | .nil, _ => false
      | _, [] => false
      | _, _ => chkLg T r ck es')
def chkDs (T : Tab) : Es → Ck → List Expr → Bool
  | .nil, _, es => es.isEmpty
  | .cons s a r, ck, es => match es with
    | [] => false
    | e :: es' => (match s with
      | true => (match e with
        | .Starred e' _ => chkE T a ck e'
        | _ => false)
      | false => chkE T a ck e) && chkDs T r ck es'
def chkRs (T : Tab) : Es → Ck → List Expr → Bool
  | .nil, _, es => es.isEmpty
  | .cons s a r, ck, es => match es with
    | [] => false
    | e :: es' => !s && chkE T a ck e && chkRs T r ck es'
def chkKw (T : Tab) : Es → Ck → List Keyword → Bool
  | .nil, _, es => es.isEmpty
  | .cons s a r, ck, es => match es with
    | [] => false
    | ⟨nm, e, _⟩ :: es' => !s && nm.isSome && chkE T a ck e && chkKw T r ck es'
def chkIt (T : Tab) : Ev.It → Ck → Expr → Expr → Bool
  | .seq a, ck, _, e => (match e with | .Set _ _ _ => false | _ => true) && chkE T a ck e
  | .ran1 a, ck, _, e => match e with
    | .Call (.Name x _) [a'] [] _ => decide (x = "range") && glB ck.sc x && chkE T a ck a'
    | _ => false
  | .ran2 a b, ck, _, e => match e with
    | .Call (.Name x _) [a', b'] [] _ => decide (x = "range") && glB ck.sc x && chkE T a ck a' && chkE T b ck b'
    | _ => false
  | .enu a, ck, tg, e => match e with
    | .Call (.Name x _) [a'] [] _ => isTup tg && decide (x = "enumerate") && glB ck.sc x && chkE T a ck a'
    | _ => false
  | .zip a b s, ck, tg, e => match e with
    | .Call (.Name x _) [a', b'] [] _ => !s && isTup tg && decide (x = "zip") && glB ck.sc x && chkE T a ck a' && chkE T b ck b'
    | _ => false
end
section
variable {T : Tab}
theorem chkE_star {e : E} {ck : Ck} {e' : Expr} {p : Pos} : chkE T e ck (.Starred e' p) = false := by cases e <;> rfl
theorem chkE_slice {e : E} {ck : Ck} {a b c} {p : Pos} : chkE T e ck (.Slice a b c p) = false := by cases e <;> rfl
theorem star1 {e : E} {ck : Ck} {e' : Expr} {es : List Expr} {env : PySem.Env} (h : chkE T e ck e' = true) : starEach (e' :: es) env = (false, eval e' env) :: starEach es env := by
  cases e' <;> first | rfl | (rw [chkE_star] at h; cases h)
theorem slice1 {e : E} {ck : Ck} {e' : Expr} (h : chkE T e ck e' = true) : PlainIx e' := by
  cases e' <;> first | (intro _ _; rfl) | (rw [chkE_slice] at h; cases h)
theorem plainRs : ∀ {es : Es} {ck : Ck} {es' : List Expr} {pos : Pos} {env : PySem.Env}, chkRs T es ck es' = true → (backTo pos (starEach es' env)).any (·.1) = false ∧ es'.length = es.len
  | .nil, ck, es', pos, env, h => by
    rw [chkRs, List.isEmpty_iff] at h
    subst h
    exact ⟨rfl, rfl⟩
  | .cons s a r, ck, es', pos, env, h => by
    unfold chkRs at h
    split at h
    · cases h
    · simp only [Bool.and_eq_true] at h
      obtain ⟨⟨h1, h2⟩, h3⟩ := h
      obtain ⟨k1, k2⟩ := plainRs (pos := pos) (env := env) h3
      rw [star1 h2]
      refine ⟨?_, by simp [Es.len, k2]⟩
      show ((false : Bool) || (backTo pos (starEach _ env)).any (·.1)) = false
      rw [k1]; rfl
theorem plainKw : ∀ {es : Es} {ck : Ck} {es' : List Keyword} {pos : Pos} {env : PySem.Env}, chkKw T es ck es' = true → (backToKw pos (keywordEach es' env)).all (·.1.isSome) = true ∧ (backToKw pos (keywordEach es' env)).any (·.1.isNone) = false ∧ (backToKw pos (keywordEach es' env)).filterMap (·.1) = es'.filterMap (·.arg) ∧ (es'.filterMap (·.arg)).length = es.len
  | .nil, ck, es', pos, env, h => by
    rw [chkKw, List.isEmpty_iff] at h
    subst h
    exact ⟨rfl, rfl, rfl, rfl⟩
  | .cons s a r, ck, es', pos, env, h => by
    unfold chkKw at h
    split at h
    · cases h
    · rename_i nm e kp es'
      simp only [Bool.and_eq_true] at h
      obtain ⟨⟨⟨h1, h4⟩, h2⟩, h3⟩ := h
      obtain ⟨k1, k2, k3, k4⟩ := plainKw (pos := pos) (env := env) h3
      cases nm with
      | none => cases h4
      | some n =>
        refine ⟨?_, ?_, ?_, by simp [Es.len, k4]⟩
        · show ((true : Bool) && (backToKw pos (keywordEach es' env)).all (·.1.isSome)) = true
          rw [k1]; rfl
        · show ((false : Bool) || (backToKw pos (keywordEach es' env)).any (·.1.isNone)) = false
          rw [k2]; rfl
        · show n :: (backToKw pos (keywordEach es' env)).filterMap (·.1) = n :: es'.filterMap (·.arg)
          rw [k3]
end
section
variable {X : Cx} {g : Gh} {ck : Ck} {k : Nat}
theorem chkTg_star {t : Tg} {e' : Expr} {p : Pos} : chkTg ck t (.Starred e' p) = false := by cases t <;> rfl
theorem tgEach : ∀ {ts : List Tg} {es : List Expr} {env : PySem.Env}, chkTgs ck ts es = true → assignEach es env = es.map (fun e => (false, assign e env)) ∧ es.length = ts.length
  | [], [], env, h => ⟨rfl, rfl⟩
  | t :: ts, e :: es, env, h => by
    rw [chkTgs, Bool.and_eq_true] at h
    obtain ⟨k1, k2⟩ := tgEach (env := env) h.2
    refine ⟨?_, by simp [k2]⟩
    cases e <;> first | (rw [chkTg_star] at h; cases h.1) | (show (false, _) :: assignEach es env = _; rw [k1]; rfl)
  | [], _ :: _, env, h => by rw [chkTgs] at h <;> first | cases h | (intros; contradiction)
  | _ :: _, [], env, h => by rw [chkTgs] at h <;> first | cases h | (intros; contradiction)
mutual
theorem chkTg_ok (G : Good X g ck k) : ∀ (t : Tg) (e : Expr), chkTg ck t e = true → PG X e (gD X.K t)
  | .one i, e, h => by
    unfold chkTg at h
    split at h
    · simp only [Bool.and_eq_true, decide_eq_true_eq] at h
      have q := G.st _ h.2
      rw [← G.sc] at q
      exact pg_name (by rw [G.N]; exact G.nd) (by rw [G.N]; exact h.1) q.1 q.2
    · cases h
  | .tup ts, e, h => by
    unfold chkTg at h
    split at h
    · obtain ⟨k1, k2⟩ := tgEach (env := X.env) h
      refine pg_tup G.calm (chkTgs_ok G ts _ h) (by rw [k1, List.length_map, k2]) ?_
      rw [k1, List.findIdx?_eq_none_iff]
      intro x hx
      obtain ⟨_, _, rfl⟩ := List.mem_map.mp hx
      rfl
    · cases h
theorem chkTgs_ok (G : Good X g ck k) : ∀ (ts : List Tg) (es : List Expr), chkTgs ck ts es = true → PGs X es (gDs X.K ts)
  | [], [], h => pgs_nil
  | t :: ts, e :: es, h => by
    have h0 := h
    rw [chkTgs, Bool.and_eq_true] at h
    refine pgs_cons (chkTg_ok G t e h.1) (chkTgs_ok G ts es h.2) ?_
    obtain ⟨k1, _⟩ := tgEach (env := X.env) h0
    obtain ⟨k2, _⟩ := tgEach (env := X.env) h.2
    rw [k1, k2]; rfl
  | [], _ :: _, h => by rw [chkTgs] at h <;> first | cases h | (intros; contradiction)
  | _ :: _, [], h => by rw [chkTgs] at h <;> first | cases h | (intros; contradiction)
end
end
end Ev
namespace Ev
open PySem PySem.Spec PyProof.Rows L2
variable {T : Tab}
theorem hu_of {X : Cx} {k : Nat} (r : Room k X.A) : X.A.units + 65 < cLine := by have := r.un; omega
def Both (X : Cx) (g : Gh) (e : E) (e' : Expr) : Prop := PE X e' (tE X.K g e) ∧ (isIf e' = false → PT X e' (tT X.K g e))
theorem Both.val {X : Cx} {g : Gh} {e : E} {e' : Expr} (h : PE X e' (tE X.K g e)) (he : ∀ whole, isTrue e' X.env whole = (do let v ← whole; standAt e'.pos; holding [v] (truthy v))) : Both X g e e' := ⟨h, fun _ => r_val h he⟩
theorem Both.of {X : Cx} {g : Gh} {e : E} {e' : Expr} (h : PE X e' (tE X.K g e)) (hi : PT X e' (tT X.K g e)) : Both X g e e' := ⟨h, fun _ => hi⟩
theorem mem_own {own : List Nat} {N : List Str} : (own.map fun i => (N.getD i ⟨#[]⟩, i)).map (·.2) = own := by
  induction own with
  | nil => rfl
  | cons a r ih => rw [List.map_cons, List.map_cons, ih]
theorem notNone {a : E} (h : isNone_ a = false) : a ≠ .none_ := by intro e; subst e; cases h
theorem base_ok {o' : Expr} {nm : Str} {env : PySem.Env} {w : Sem Value} (h : (match o' with | .Call _ _ _ _ => false | _ => true) = true) : attributeBase o' nm env w = w := by
  cases o' <;> first | rfl | cases h
mutual
theorem chkE_ok : ∀ (e : E) {X : Cx} {g : Gh} {ck : Ck} {k : Nat} (e' : Expr), g.T = T → Good X g ck k → chkE T e ck e' = true → Both X g e e'
  | .sl i, X, g, ck, k, e', hT, G, h => by
    unfold chkE at h
    split at h
    · simp only [Bool.and_eq_true, decide_eq_true_eq] at h
      exact .val (r_sl G h.1.1 h.1.2 h.2) fun _ => rfl
    · cases h
  | .isi t a, X, g, ck, k, e', hT, G, h => by
    unfold chkE at h
    split at h
    · simp only [Bool.and_eq_true, decide_eq_true_eq] at h
      obtain ⟨⟨⟨⟨rfl, rfl⟩, h1⟩, h2⟩, h3⟩ := h
      exact .val (r_isi G h1 h2 (chkE_ok a _ hT G h3).1 fun es => star1 h3) fun _ => rfl
    · cases h
  | .con d, X, g, ck, k, e', hT, G, h => by
    unfold chkE at h
    split at h
    · exact .val (r_con h) fun _ => rfl
    · cases h
  | .gl n, X, g, ck, k, e', hT, G, h => by
    subst hT
    unfold chkE at h
    split at h
    · simp only [Bool.and_eq_true, decide_eq_true_eq] at h
      exact .val (r_gl G h.1.1 h.1.2 h.2) fun _ => rfl
    · cases h
  | .lst es, X, g, ck, k, e', hT, G, h => by
    unfold chkE at h
    split at h
    · exact .val (r_lst (chkDs_ok es _ hT G h)) fun _ => rfl
    · cases h
  | .tup es, X, g, ck, k, e', hT, G, h => by
    unfold chkE at h
    split at h
    · exact .val (r_tup (chkDs_ok es _ hT G h)) fun _ => rfl
    · cases h
  | .op o a b, X, g, ck, k, e', hT, G, h => by
    unfold chkE at h
    split at h
    · simp only [Bool.and_eq_true] at h
      obtain rfl := bopB_ok h.1.1
      exact .val (r_op (chkE_ok a _ hT G h.1.2).1 (chkE_ok b _ hT G h.2).1) fun _ => rfl
    · cases h
  | .neg a, X, g, ck, k, e', hT, G, h => by
    unfold chkE at h
    split at h
    · simp only [Bool.and_eq_true] at h
      rename_i o a' pos
      cases o <;> first | cases h.1 | skip
      exact .val (r_neg (chkE_ok a _ hT G h.2).1) fun _ => rfl
    · cases h
  | .not a, X, g, ck, k, e', hT, G, h => by
    unfold chkE at h
    split at h
    · simp only [Bool.and_eq_true, Bool.not_eq_true'] at h
      rename_i o a' pos
      cases o <;> first | cases h.1.1 | skip
      have q := chkE_ok a _ hT G h.2
      exact .of (r_not q.1) (r_notT (q.2 h.1.2))
    · cases h
  | .lg conj es, X, g, ck, k, e', hT, G, h => by
    unfold chkE at h
    split at h
    · simp only [Bool.and_eq_true] at h
      obtain rfl := boB_ok h.1
      have q := chkLg_ok es conj _ hT G h.2
      exact .of (r_lgE (q _).1) (r_lgT (q _).2)
    · cases h
  | .cmp o a b, X, g, ck, k, e', hT, G, h => by
    unfold chkE at h
    split at h
    · simp only [Bool.and_eq_true, Bool.not_eq_true'] at h
      obtain ⟨⟨⟨h1, h2⟩, h3⟩, h4⟩ := h
      obtain rfl := copB_ok h1
      exact .of (r_cmp (hu_of G.room) (chkE_ok a _ hT G h3).1 (chkE_ok b _ hT G h4).1 h2) (r_cmpT (hu_of G.room) (chkE_ok a _ hT G h3).1 (chkE_ok b _ hT G h4).1 h2)
    · cases h
  | .cmp2 o p a b c, X, g, ck, k, e', hT, G, h => by
    unfold chkE at h
    split at h
    · simp only [Bool.and_eq_true, Bool.not_eq_true'] at h
      obtain ⟨⟨⟨⟨⟨h1, h0⟩, h2⟩, h3⟩, h4⟩, h5⟩ := h
      obtain rfl := copB_ok h1
      obtain rfl := copB_ok h0
      have qa := (chkE_ok a _ hT G h3).1
      have qb := (chkE_ok b _ hT G h4).1
      have qc := (chkE_ok c _ hT G h5).1
      exact .of (r_cmp2 (hu_of G.room) qa qb qc h2) (r_cmp2T (hu_of G.room) qa qb qc h2)
    · cases h
  | .ite c a b, X, g, ck, k, e', hT, G, h => by
    unfold chkE at h
    split at h
    · simp only [Bool.and_eq_true, Bool.not_eq_true'] at h
      obtain ⟨⟨⟨h1, h2⟩, h3⟩, h4⟩ := h
      exact ⟨r_ite ((chkE_ok c _ hT G h2).2 h1) (chkE_ok a _ hT G h3).1 (chkE_ok b _ hT G h4).1, fun z => by cases z⟩
    · cases h
  | .call f es kw pm, X, g, ck, k, e', hT, G, h => by
    unfold chkE at h
    split at h
    · simp only [Bool.and_eq_true, decide_eq_true_eq] at h
      obtain ⟨⟨⟨⟨⟨⟨h1, h2⟩, h3⟩, h4⟩, h5⟩, h6⟩, h7⟩ := h
      rename_i x xp es' kws pos
      obtain ⟨fd, hf⟩ := Option.isSome_iff_exists.mp h1
      have p1 := plainRs (pos := pos) (env := X.env) h5
      have p2 := plainKw (pos := pos) (env := X.env) h6
      have q5 := chkRs_ok es _ hT G h5
      have q6 := chkKw_ok kw _ hT G h6
      subst hT
      refine .val (r_call G hf h2 h3 h4 q5 q6 p1.2 p2.2.2.2 h7 p2.1 p2.2.2.1 (fun e r er => ?_) (by rw [p1.1, p2.2.1]; rfl)) fun _ => rfl
      subst er
      cases es with
      | nil => unfold chkRs at h5; cases h5
      | cons s a r' =>
        unfold chkRs at h5
        simp only [Bool.and_eq_true] at h5
        exact star1 h5.1.2
    · cases h
  | .bi b es, X, g, ck, k, e', hT, G, h => by
    unfold chkE at h
    split at h
    · simp only [Bool.and_eq_true, decide_eq_true_eq] at h
      obtain ⟨⟨⟨h1, rfl⟩, h3⟩, h4⟩ := h
      have h5 := h4
      rename_i a' es' pos
      cases es with
      | nil => unfold chkRs at h4; cases h4
      | cons s a r =>
        unfold chkRs at h4
        simp only [Bool.and_eq_true] at h4
        exact .val (r_bi G h3 (by intro z; subst z; cases h1) (chkRs_ok _ _ hT G h5) (star1 h4.1.2) (plainRs h4.2).1) fun _ => rfl
    · simp only [Bool.and_eq_true, decide_eq_true_eq] at h
      obtain ⟨⟨⟨⟨h1, rfl⟩, h3⟩, h4⟩, h5⟩ := h
      cases b <;> first | cases h1 | skip
      cases es with
      | nil => unfold chkRs at h5; cases h5
      | cons s a r =>
        unfold chkRs at h5
        simp only [Bool.and_eq_true, Bool.not_eq_true'] at h5
        obtain ⟨⟨h6, h7⟩, h8⟩ := h5
        subst h6
        cases r with
        | nil => exact .val (r_bits (chkE_ok a _ hT G h7).1 (base_ok h4) h3) fun _ => rfl
        | cons _ _ _ => unfold chkRs at h8; cases h8
    · cases h
  | .ix a i, X, g, ck, k, e', hT, G, h => by
    unfold chkE at h
    split at h
    · simp only [Bool.and_eq_true] at h
      obtain ⟨⟨h1, h2⟩, h3⟩ := h
      exact .val (r_ix (slice1 h3) (chkE_ok a _ hT G h2).1 (chkE_ok i _ hT G h3).1) fun _ => rfl
    · cases h
  | .sli a lo hi, X, g, ck, k, e', hT, G, h => by
    unfold chkE at h
    split at h
    · simp only [Bool.and_eq_true] at h
      obtain ⟨⟨h1, h2⟩, h3⟩ := h
      rename_i a' lo' hi' p2 pos
      refine .val (r_sli (chkE_ok a _ hT G h1).1 ?_ ?_) fun _ => rfl
      · cases lo' with
        | none =>
          cases lo <;> first | exact .none | cases h2
        | some l =>
          simp only [Bool.and_eq_true, Bool.not_eq_true'] at h2
          exact .some (notNone h2.1) (chkE_ok lo _ hT G h2.2).1
      · cases hi' with
        | none =>
          cases hi <;> first | exact .none | cases h3
        | some l =>
          simp only [Bool.and_eq_true, Bool.not_eq_true'] at h3
          exact .some (notNone h3.1) (chkE_ok hi _ hT G h3.2).1
    · cases h
  | .none_, X, g, ck, k, e', hT, G, h => by
    unfold chkE at h
    cases h
  | .comp elt tg it cond own, X, g, ck, k, e', hT, G, h => by
    unfold chkE at h
    split at h
    · simp only [Bool.and_eq_true, List.all_eq_true, decide_eq_true_eq] at h
      obtain ⟨⟨⟨⟨⟨h1, h2⟩, h3⟩, h4⟩, h5⟩, h6⟩ := h
      rename_i elt' tg' iter' ifs scope pos
      obtain ⟨q1, q2⟩ := chkIt_ok it tg' iter' hT G h1
      have hdT : g.deaf.T = T := hT
      have z := r_comp (cpos := pos) (elt := elt) (cond := cond) (tg := tg) G q1 h2 (by rw [mem_own]; exact h3) (fun s H C cl fp => chkTg_ok (G.blk s H scope cl C fp) tg tg' h4) (fun s H C cl fp => chkC_ok cond ifs hdT (G.blk s H scope cl C fp) h5)
        (fun s H C cl fp => (chkE_ok elt elt' hdT (G.blk s H scope cl C fp) h6).1) q2
      rw [mem_own] at z
      exact .val z fun _ => rfl
    · cases h
theorem chkC_ok : ∀ (c : Option E) {X : Cx} {g : Gh} {ck : Ck} {k : Nat} (ifs : List Expr), g.T = T → Good X g ck k → chkC T c ck ifs = true → PTs X ifs (tCond X.K g c)
  | none, X, g, ck, k, ifs, hT, G, h => by
    unfold chkC at h
    rw [List.isEmpty_iff] at h
    subst h
    exact pts_nil
  | some c, X, g, ck, k, ifs, hT, G, h => by
    unfold chkC at h
    split at h
    · simp only [Bool.and_eq_true, Bool.not_eq_true'] at h
      exact pts_one ((chkE_ok c _ hT G h.2).2 h.1)
    · cases h
theorem chkLg_ok : ∀ (es : Es) (conj : Bool) {X : Cx} {g : Gh} {ck : Ck} {k : Nat} (vs : List Expr), g.T = T → Good X g ck k → chkLg T es ck vs = true → ∀ pos, PE X (.BoolOp (opB conj) vs pos) (tBv X.K g conj es) ∧ PW X (.BoolOp (opB conj) vs pos) (tB' X.K g conj es)
  | .nil, conj, X, g, ck, k, vs, hT, G, h => by
    unfold chkLg at h
    cases h
  | .cons s a r, conj, X, g, ck, k, vs, hT, G, h => by
    intro pos
    unfold chkLg at h
    split at h
    · cases h
    · rename_i e es'
      simp only [Bool.and_eq_true, Bool.not_eq_true'] at h
      obtain ⟨⟨h1, h2⟩, h3⟩ := h
      have q := chkE_ok a _ hT G h2
      cases r with
      | nil =>
        cases es' with
        | nil => exact ⟨r_lg1 q.1, r_lgW1 (q.2 h1)⟩
        | cons _ _ => cases h3
      | cons s' a' r' =>
        cases es' with
        | nil => cases h3
        | cons b' rest =>
          have z := chkLg_ok (.cons s' a' r') conj _ hT G h3 pos
          exact ⟨r_lgV (by intro e; cases e) q.1 z.1, r_lgW (by intro e; cases e) (q.2 h1) z.2⟩
theorem chkDs_ok : ∀ (es : Es) {X : Cx} {g : Gh} {ck : Ck} {k : Nat} (vs : List Expr), g.T = T → Good X g ck k → chkDs T es ck vs = true → PA X vs (tDs X.K g es)
  | .nil, X, g, ck, k, vs, hT, G, h => by
    unfold chkDs at h
    rw [List.isEmpty_iff] at h
    subst h
    exact pas_nil
  | .cons s a r, X, g, ck, k, vs, hT, G, h => by
    unfold chkDs at h
    split at h
    · cases h
    · rename_i e es'
      simp only [Bool.and_eq_true] at h
      cases s with
      | true =>
        have h1 := h.1
        simp only at h1
        split at h1
        · exact pas_star (chkE_ok a _ hT G h1).1 (chkDs_ok r _ hT G h.2)
        · cases h1
      | false => exact pas_cons (chkE_ok a _ hT G h.1).1 (chkDs_ok r _ hT G h.2) (star1 h.1)
theorem chkRs_ok : ∀ (es : Es) {X : Cx} {g : Gh} {ck : Ck} {k : Nat} (vs : List Expr), g.T = T → Good X g ck k → chkRs T es ck vs = true → PA X vs (tRs X.K g es)
  | .nil, X, g, ck, k, vs, hT, G, h => by
    unfold chkRs at h
    rw [List.isEmpty_iff] at h
    subst h
    exact prs_nil
  | .cons s a r, X, g, ck, k, vs, hT, G, h => by
    unfold chkRs at h
    split at h
    · cases h
    · simp only [Bool.and_eq_true, Bool.not_eq_true'] at h
      obtain ⟨⟨h1, h2⟩, h3⟩ := h
      subst h1
      exact prs_cons (chkE_ok a _ hT G h2).1 (chkRs_ok r _ hT G h3) (star1 h2)
theorem chkKw_ok : ∀ (es : Es) {X : Cx} {g : Gh} {ck : Ck} {k : Nat} (vs : List Keyword), g.T = T → Good X g ck k → chkKw T es ck vs = true → PK X vs (tRs X.K g es)
  | .nil, X, g, ck, k, vs, hT, G, h => by
    unfold chkKw at h
    rw [List.isEmpty_iff] at h
    subst h
    exact prk_nil
  | .cons s a r, X, g, ck, k, vs, hT, G, h => by
    unfold chkKw at h
    split at h
    · cases h
    · simp only [Bool.and_eq_true, Bool.not_eq_true'] at h
      obtain ⟨⟨⟨h1, h4⟩, h2⟩, h3⟩ := h
      subst h1
      exact prk_cons (chkE_ok a _ hT G h2).1 (chkKw_ok r _ hT G h3)
theorem chkIt_ok : ∀ (it : Ev.It) {X : Cx} {g : Gh} {ck : Ck} {k : Nat} (tg' e' : Expr), g.T = T → Good X g ck k → chkIt T it ck tg' e' = true → PI X tg' e' (tI X.K g it) ∧ ∀ x, foldedSetIterable e' X.env x = pure x
  | .seq a, X, g, ck, k, tg', e', hT, G, h => by
    unfold chkIt at h
    simp only [Bool.and_eq_true] at h
    refine ⟨i_seq (chkE_ok a _ hT G h.2).1, fun x => ?_⟩
    cases e' <;> first | rfl | cases h.1
  | .ran1 a, X, g, ck, k, tg', e', hT, G, h => by
    unfold chkIt at h
    split at h
    · simp only [Bool.and_eq_true, decide_eq_true_eq] at h
      obtain ⟨⟨rfl, h2⟩, h3⟩ := h
      exact ⟨i_ran1 G h2 (chkE_ok a _ hT G h3).1 (star1 h3), fun _ => rfl⟩
    · cases h
  | .ran2 a b, X, g, ck, k, tg', e', hT, G, h => by
    unfold chkIt at h
    split at h
    · simp only [Bool.and_eq_true, decide_eq_true_eq] at h
      obtain ⟨⟨⟨rfl, h2⟩, h3⟩, h4⟩ := h
      exact ⟨i_ran2 G h2 (chkE_ok a _ hT G h3).1 (chkE_ok b _ hT G h4).1 (by rw [star1 h3, star1 h4]; rfl) (star1 h4), fun _ => rfl⟩
    · cases h
  | .enu a, X, g, ck, k, tg', e', hT, G, h => by
    unfold chkIt at h
    split at h
    · simp only [Bool.and_eq_true, decide_eq_true_eq] at h
      obtain ⟨⟨⟨h1, rfl⟩, h2⟩, h3⟩ := h
      cases tg' <;> first | cases h1 | skip
      exact ⟨i_enu G h2 (chkE_ok a _ hT G h3).1 (star1 h3), fun _ => rfl⟩
    · cases h
  | .zip a b s, X, g, ck, k, tg', e', hT, G, h => by
    unfold chkIt at h
    split at h
    · simp only [Bool.and_eq_true, decide_eq_true_eq, Bool.not_eq_true'] at h
      obtain ⟨⟨⟨⟨⟨h0, h1⟩, rfl⟩, h2⟩, h3⟩, h4⟩ := h
      subst h0
      cases tg' <;> first | cases h1 | skip
      exact ⟨i_zip G h2 (chkE_ok a _ hT G h3).1 (chkE_ok b _ hT G h4).1 (star1 h3) (star1 h4) (by rw [star1 h4]; rfl), fun _ => rfl⟩
    · cases h
end
end Ev
namespace Ev
open PySem PySem.Spec PyProof.Rows L2
variable {T : Tab}
def notComp : Expr → Bool
  | .ListComp _ _ _ _ => false
  | .SetComp _ _ _ _ => false
  | .DictComp _ _ _ _ _ => false
  | _ => true
theorem sw_no {e : Expr} {t : Option Expr} {l : Nat} {env : PySem.Env} (h : notComp e = true) : swapsWith e t l env = pure false := by
  cases e <;> first | rfl | cases h
def swB (sc : Scope) (t : Str) (px vp : Pos) (scope : Scope) : Bool := decide (sc.names.lookup t = some .local) && (px.line == vp.line) && !(scope.names.any fun (n, k) => n == t && (k == .local || k == .cell))
theorem bk_fn {env : PySem.Env} (h : env.scope.kind = .function) : env.blockKind = .function := by
  unfold Env.blockKind
  rw [h]; rfl
theorem sw_lc {elt : Expr} {gs : List Comprehension} {scope : Scope} {px vp : Pos} {t : Str} {l : Nat} {env : PySem.Env} (hk : env.scope.kind = .function) :
    swapsWith (.ListComp elt gs scope vp) (some (.Name t px)) l env = pure (swB env.scope t px vp scope) := by
  unfold swapsWith swB
  have e : env.kindOf t = env.scope.names.lookup t := rfl
  simp only [bk_fn hk, e, Expr.pos]
  show pure _ = pure _
  congr 1
  have : (env.scope.names.lookup t == some NameKind.local) = decide (env.scope.names.lookup t = some .local) := by
    cases z : env.scope.names.lookup t with
    | none => rfl
    | some k => cases k <;> rfl
  rw [this]
  rfl
def isStar : Expr → Bool
  | .Starred _ _ => true
  | _ => false
/-- the names that a pair's stores exchange; none: no ruling -/
def swN (sc : Scope) (ts vs : List Expr) : Option (Option (List Str)) :=
  if !(ts.length == 2 || ts.length == 3) || vs.length != ts.length then some none
  else if vs.any isStar then some none
  else
    let line := (ts.head?.map (·.pos.line)).getD 0
    let names := ts.filterMap fun
      | .Name id pos => if sc.names.lookup id == some .local && pos.line == line then some id else none
      | _ => none
    if names.length != ts.length || names.eraseDups.length != names.length then some none
    else if vs.all (foldedForSure 8) then some none
    else if vs.all (constantsAlone 8) then none
    else some (some names)
theorem sw_stores {env : PySem.Env} {ts vs : List Expr} {kt k2 : Nat} {pt p2 : Pos} {r : Option (List Str)} (hk : env.scope.kind = .function) (h : swN env.scope ts vs = some r) : swappedStores [.Tuple ts kt pt] (.Tuple vs k2 p2) env = pure r := by
  have hst : (vs.any fun | .Starred .. => true | _ => false) = vs.any isStar := rfl
  have e : ∀ t, env.kindOf t = env.scope.names.lookup t := fun _ => rfl
  unfold swN at h
  unfold swappedStores
  simp only [bk_fn hk, e]
  by_cases h1 : (!(ts.length == 2 || ts.length == 3) || vs.length != ts.length) = true
  · rw [if_pos h1] at h
    cases h
    rw [if_pos (by rw [h1]; rfl)]
  · rw [if_neg h1] at h
    have h1' : ((!(ts.length == 2 || ts.length == 3) || vs.length != ts.length) || (ScopeKind.function != ScopeKind.function)) = false := by
      rw [Bool.not_eq_true] at h1
      rw [h1]; rfl
    by_cases h2 : vs.any isStar = true
    · rw [if_pos h2] at h
      cases h
      rw [if_neg (by rw [h1']; simp)]
      rw [if_pos (by exact h2)]
    · rw [if_neg h2] at h
      rw [if_neg (by rw [h1']; simp)]
      rw [if_neg (by exact h2)]
      dsimp only at h
      split at h
      · rename_i h3
        cases h
        rw [if_pos (by exact h3)]
      · rename_i h3
        rw [if_neg (by exact h3)]
        split at h
        · rename_i h4
          cases h
          rw [if_pos (by exact h4)]
        · rename_i h4
          rw [if_neg (by exact h4)]
          split at h
          · cases h
          · rename_i h5
            cases h
            rw [if_neg (by exact h5)]
            rfl
def noneN : Option (Option (List Str)) → Bool
  | some none => true
  | _ => false
def isN (ns : List Str) : Option (Option (List Str)) → Bool
  | some (some xs) => decide (xs = ns)
  | _ => false
mutual
def chkS (T : Tab) : S → Ck → Stmt → Bool
  | .asg t e, ck, st => match t, st with
    | .one i, .Assign [.Name x px] e' _ => decide (ck.N[i]? = some x) && ck.st x && chkE T e ck e' && (match e' with
      | .ListComp _ _ scope vp => !(swB ck.sc x px vp scope) || (match e with | .comp _ _ _ _ _ => true | _ => false)
      | .SetComp _ _ _ _ => false
      | .DictComp _ _ _ _ _ => false
      | _ => true)
    | .tup ts, .Assign [.Tuple ts' kt pt] e' _ => chkTg ck (.tup ts) (.Tuple ts' kt pt) && chkE T e ck e' && (match e' with
      | .Tuple vs _ _ => noneN (swN ck.sc ts' vs)
      | _ => true)
    | _, _ => false
  | .par is es, ck, st => (match st with
    | .Assign [.Tuple ts' kt pt] (.Tuple vs k2 p2) _ => decide (es.len ≤ 1000) && decide (es.len = is.length) && chkTg ck (.tup (is.map .one)) (.Tuple ts' kt pt) && chkRs T es ck vs && noneN (swN ck.sc ts' vs)
    | _ => false) || match is, st with
    | [i, j], .Assign [.Tuple [.Name x px, .Name y py] kt pt] (.Tuple [a, b] k2 p2) _ => decide (ck.N[i]? = some x) && decide (ck.N[j]? = some y) && decide (i ≠ j) && decide (ck.sc.names.lookup x = some .local) && decide (ck.sc.names.lookup y = some .local) &&
        chkRs T es ck [a, b] && isN [x, y] (swN ck.sc [.Name x px, .Name y py] [a, b])
    | [i, j, l], .Assign [.Tuple [.Name x px, .Name y py, .Name z pz] kt pt] (.Tuple [a, b, c] k2 p2) _ => decide (ck.N[i]? = some x) && decide (ck.N[j]? = some y) && decide (ck.N[l]? = some z) && (decide (i ≠ j) && decide (i ≠ l) && decide (j ≠ l)) &&
        decide (ck.sc.names.lookup x = some .local) && decide (ck.sc.names.lookup y = some .local) && decide (ck.sc.names.lookup z = some .local) &&
        chkRs T es ck [a, b, c] && isN [x, y, z] (swN ck.sc [.Name x px, .Name y py, .Name z pz] [a, b, c])
    | _, _ => false
  | .put i ix v, ck, st => match st with
    | .Assign [.Subscript (.Name x _) ix' _] v' _ => decide (ck.N[i]? = some x) && visB ck.sc x && okName x && chkE T v ck v' && chkE T ix ck ix'
    | _ => false
  | .putAug _ _ _ _, _, _ => false
  | .aug i o e, ck, st => match st with
    | .AugAssign (.Name x _) o' e' _ => (match o, o' with | .add, .Add => true | _, _ => false) && decide (ck.N[i]? = some x) && ck.st x && chkE T e ck e'
    | _ => false
  | .expr e, ck, st => match st with
    | .Expr e' _ => notComp e' && chkE T e ck e'
    | _ => false
  | .app i e, ck, st => match st with
    | .Expr (.Call (.Attribute (.Name x _) nm apos) [e'] [] cpos) _ => decide (nm = "append") && decide (ck.N[i]? = some x) && visB ck.sc x && okName x && chkE T e ck e' && (apos.endLine == cpos.line)
    | _ => false
  | .iff c a b, ck, st => match st with
    | .If c' a' b' _ => !isIf c' && chkE T c ck c' && chkSs T a ck a' && chkSs T b ck b'
    | _ => false
  | .for_ tg it body _, ck, st => match st with
    | .For tg' iter' body' [] _ => chkTg ck tg tg' && chkIt T it ck tg' iter' && chkSs T body ck body'
    | _ => false
  | .whl c body _, ck, st => match st with
    | .While c' body' [] _ => !isIf c' && chkE T c ck c' && chkSs T body ck body'
    | _ => false
  | .ret e, ck, st => match st with
    | .Return (some e') _ => chkE T e ck e'
    | _ => false
  | .retN, ck, st => match st with
    | .Return none _ => true
    | _ => false
  | .pass, ck, st => match st with
    | .Pass _ => true
    | .Expr (.Constant (.str _) _ _) _ => true
    | _ => false
  | .cont, ck, st => match st with
    | .Continue _ => true
    | _ => false
  | .brk, ck, st => match st with
    | .Break _ => true
    | _ => false
  | .never, _, _ => true
def chkSs (T : Tab) : Ss → Ck → List Stmt → Bool
  | .nil, _, sts => sts.isEmpty
  | .cons s r, ck, sts => match sts with
    | [] => false
    | st :: sts' => chkS T s ck st && chkSs T r ck sts'
end
theorem noneN_ok {o : Option (Option (List Str))} (h : noneN o = true) : o = some none := by
  cases o with
  | none => cases h
  | some p => cases p <;> first | rfl | cases h
theorem isN_ok {o : Option (Option (List Str))} {ns : List Str} (h : isN ns o = true) : o = some (some ns) := by
  cases o with
  | none => cases h
  | some p =>
    cases p with
    | none => cases h
    | some q => rw [show q = ns from of_decide_eq_true h]
mutual
theorem chkS_ok : ∀ (s : S) {X : Cx} {g : Gh} {ck : Ck} {k : Nat} (st : Stmt), g.T = T → Good X g ck k → PassesOwn (model X.prog X.w) X.A X.env X.xe → ck.sc.kind = .function → chkS T s ck st = true → PS X st (tS X.K g s)
  | .asg t e, X, g, ck, k, st, hT, G, hp, hk, h => by
    unfold chkS at h
    split at h
    · rename_i i x px e' pos
      simp only [Bool.and_eq_true, decide_eq_true_eq] at h
      obtain ⟨⟨⟨h1, h2⟩, h3⟩, h4⟩ := h
      have hkX : X.env.scope.kind = .function := by rw [G.sc]; exact hk
      have reg : swapsWith e' (some (.Name x px)) pos.line X.env = pure false → PS X (.Assign [.Name x px] e' pos) (tS X.K g (.asg (.one i) e)) := fun hs => s_set G h1 h2 (chkE_ok e _ hT G h3).1 hs
      split at h4
      · rename_i elt' gs scope vp
        have sw := sw_lc (elt := elt') (gs := gs) (scope := scope) (px := px) (vp := vp) (t := x) (l := pos.line) hkX
        rw [G.sc] at sw
        cases q : swB ck.sc x px vp scope with
        | false => rw [q] at sw; exact reg sw
        | true =>
          rw [q] at sw
          rw [q] at h4
          cases e <;> first | cases h4 | skip
          rename_i elt tg it cond own
          unfold chkE at h3
          split at h3
          · rename_i elt' tg' iter' ifs scope' pos' he'
            cases he'
            simp only [Bool.and_eq_true, List.all_eq_true, decide_eq_true_eq] at h3
            obtain ⟨⟨⟨⟨⟨k1, k2⟩, k3⟩, k4⟩, k5⟩, k6⟩ := h3
            obtain ⟨q1, q2⟩ := chkIt_ok it tg' iter' hT G k1
            have hdT : g.deaf.T = T := hT
            have hl : ck.sc.names.lookup x = some .local := by
              unfold swB at q
              simp only [Bool.and_eq_true, decide_eq_true_eq] at q
              exact q.1.1
            have z := s_setLc (pos := pos) (pos' := px) (elt := elt) (cond := cond) (tg := tg) (it := it) G h1 hl sw q1 k2 (by rw [mem_own]; exact k3) (fun s H C cl fp => chkTg_ok (G.blk s H scope cl C fp) tg tg' k4) (fun s H C cl fp => chkC_ok cond ifs hdT (G.blk s H scope cl C fp) k5)
              (fun s H C cl fp => (chkE_ok elt elt' hdT (G.blk s H scope cl C fp) k6).1) q2
            rw [mem_own] at z
            exact z
          · cases h3
      · cases h4
      · cases h4
      · rename_i n1 n2 n3
        refine reg (sw_no ?_)
        cases e' <;> first | rfl | exact absurd rfl (n1 _ _ _ _) | exact absurd rfl (n2 _ _ _ _) | exact absurd rfl (n3 _ _ _ _ _)
    · rename_i ts ts' kt pt e' pos
      simp only [Bool.and_eq_true] at h
      obtain ⟨⟨h1, h2⟩, h3⟩ := h
      refine s_asgT (chkE_ok e _ hT G h2).1 (chkTg_ok G _ _ h1) ?_ ?_ rfl
      · cases e' <;> rfl
      · split at h3
        · exact sw_stores (by rw [G.sc]; exact hk) (by rw [G.sc]; exact noneN_ok h3)
        · rename_i n1
          cases e' <;> first | rfl | exact absurd rfl (n1 _ _ _)
    · cases h
  | .par is es, X, g, ck, k, st, hT, G, hp, hk, h => by
    unfold chkS at h
    rw [Bool.or_eq_true] at h
    rcases h with h | h
    · split at h
      · simp only [Bool.and_eq_true, decide_eq_true_eq] at h
        obtain ⟨⟨⟨⟨h1, h2⟩, h3⟩, h4⟩, h5⟩ := h
        exact s_parT G (chkRs_ok es _ hT G h4) h1 h2 (chkTg_ok G _ _ h3) (sw_stores (by rw [G.sc]; exact hk) (by rw [G.sc]; exact noneN_ok h5))
      · cases h
    · split at h
      · simp only [Bool.and_eq_true, decide_eq_true_eq] at h
        obtain ⟨⟨⟨⟨⟨⟨h1, h2⟩, h3⟩, h4⟩, h5⟩, h6⟩, h7⟩ := h
        exact s_par G h1 h2 h3 h4 h5 (chkRs_ok es _ hT G h6) (sw_stores (by rw [G.sc]; exact hk) (by rw [G.sc]; exact isN_ok h7))
      · simp only [Bool.and_eq_true, decide_eq_true_eq] at h
        obtain ⟨⟨⟨⟨⟨⟨⟨⟨h1, h2⟩, h3⟩, ⟨⟨h4, h5⟩, h6⟩⟩, h7⟩, h8⟩, h9⟩, h10⟩, h11⟩ := h
        exact s_par3 G h1 h2 h3 h4 h5 h6 h7 h8 h9 (chkRs_ok es _ hT G h10) (sw_stores (by rw [G.sc]; exact hk) (by rw [G.sc]; exact isN_ok h11))
      · cases h
  | .put i ix v, X, g, ck, k, st, hT, G, hp, hk, h => by
    unfold chkS at h
    split at h
    · simp only [Bool.and_eq_true, decide_eq_true_eq] at h
      obtain ⟨⟨⟨⟨h1, h2⟩, h3⟩, h4⟩, h5⟩ := h
      rename_i x xp ix' ip v' pos
      refine s_put G h1 h2 h3 (chkE_ok v _ hT G h4).1 (chkE_ok ix _ hT G h5).1 fun u => ?_
      cases ix' <;> first | rfl | (rw [chkE_slice] at h5; cases h5)
    · cases h
  | .putAug _ _ _ _, X, g, ck, k, st, hT, G, hp, hk, h => by
    unfold chkS at h
    cases h
  | .aug i o e, X, g, ck, k, st, hT, G, hp, hk, h => by
    unfold chkS at h
    split at h
    · simp only [Bool.and_eq_true, decide_eq_true_eq] at h
      obtain ⟨⟨⟨h1, h2⟩, h3⟩, h4⟩ := h
      split at h1
      · exact s_aug G h2 h3 (chkE_ok e _ hT G h4).1
      · cases h1
    · cases h
  | .expr e, X, g, ck, k, st, hT, G, hp, hk, h => by
    unfold chkS at h
    split at h
    · simp only [Bool.and_eq_true] at h
      exact s_expr (chkE_ok e _ hT G h.2).1 (sw_no h.1)
    · cases h
  | .app i e, X, g, ck, k, st, hT, G, hp, hk, h => by
    unfold chkS at h
    split at h
    · simp only [Bool.and_eq_true, decide_eq_true_eq] at h
      obtain ⟨⟨⟨⟨⟨rfl, h2⟩, h3⟩, h4⟩, h5⟩, h6⟩ := h
      exact s_app G h2 h3 h4 (chkE_ok e _ hT G h5).1 (star1 h5) h6
    · cases h
  | .iff c a b, X, g, ck, k, st, hT, G, hp, hk, h => by
    unfold chkS at h
    split at h
    · simp only [Bool.and_eq_true, Bool.not_eq_true'] at h
      obtain ⟨⟨⟨h1, h2⟩, h3⟩, h4⟩ := h
      exact s_if ((chkE_ok c _ hT G h2).2 h1) (chkSs_ok a _ hT G hp hk h3) (chkSs_ok b _ hT G hp hk h4)
    · cases h
  | .for_ tg it body gone, X, g, ck, k, st, hT, G, hp, hk, h => by
    unfold chkS at h
    split at h
    · simp only [Bool.and_eq_true] at h
      obtain ⟨⟨h1, h2⟩, h3⟩ := h
      obtain ⟨q1, q2⟩ := chkIt_ok it _ _ hT G h2
      exact s_for G hp q1 (chkTg_ok G _ _ h1) (chkSs_ok body _ hT G hp hk h3) q2
    · cases h
  | .whl c body gone, X, g, ck, k, st, hT, G, hp, hk, h => by
    unfold chkS at h
    split at h
    · simp only [Bool.and_eq_true, Bool.not_eq_true'] at h
      obtain ⟨⟨h1, h2⟩, h3⟩ := h
      exact s_while hp ((chkE_ok c _ hT G h2).2 h1) (chkSs_ok body _ hT G hp hk h3)
    · cases h
  | .ret e, X, g, ck, k, st, hT, G, hp, hk, h => by
    unfold chkS at h
    split at h
    · exact s_ret (chkE_ok e _ hT G h).1
    · cases h
  | .retN, X, g, ck, k, st, hT, G, hp, hk, h => by
    unfold chkS at h
    split at h
    · exact s_retN
    · cases h
  | .pass, X, g, ck, k, st, hT, G, hp, hk, h => by
    unfold chkS at h
    split at h
    · exact s_pass
    · exact s_doc
    · cases h
  | .cont, X, g, ck, k, st, hT, G, hp, hk, h => by
    unfold chkS at h
    split at h
    · exact s_cont
    · cases h
  | .brk, X, g, ck, k, st, hT, G, hp, hk, h => by
    unfold chkS at h
    split at h
    · exact s_brk
    · cases h
  | .never, X, g, ck, k, st, hT, G, hp, hk, h => s_never
theorem chkSs_ok : ∀ (s : Ss) {X : Cx} {g : Gh} {ck : Ck} {k : Nat} (sts : List Stmt), g.T = T → Good X g ck k → PassesOwn (model X.prog X.w) X.A X.env X.xe → ck.sc.kind = .function → chkSs T s ck sts = true → PSs X sts (tSs X.K g s)
  | .nil, X, g, ck, k, sts, hT, G, hp, hk, h => by
    unfold chkSs at h
    rw [List.isEmpty_iff] at h
    subst h
    exact ss_nil
  | .cons s r, X, g, ck, k, sts, hT, G, hp, hk, h => by
    unfold chkSs at h
    split at h
    · cases h
    · simp only [Bool.and_eq_true] at h
      exact ss_cons (chkS_ok s _ hT G hp hk h.1) (chkSs_ok r _ hT G hp hk h.2)
end
end Ev
namespace Ev
open PySem PySem.Spec PyProof.Rows L2
section
variable {P : Program} {w : World} {K : PySem.W.Frag} {mg : Str → Option Value} {base : Heap} {c : RC} {k : Nat} {T : Tab}
theorem start_len {chg : Option Nat} {ns : Nat} {ds : List D} (h : ds.length ≤ ns) : (Ev.start chg ns ds).length = ns := by
  unfold Ev.start
  simp only [List.length_append, List.length_map, List.length_zipIdx, List.length_replicate]
  omega
theorem start_at {chg : Option Nat} {ns : Nat} {ds : List D} (i : Nat) : (Ev.start chg ns ds).at i = match ds[i]? with
  | some d => if chg = some i then .byr d else .val d
  | none => .no := by
  unfold Env.at Ev.start
  rw [List.getD_eq_getElem?_getD]
  rcases Nat.lt_or_ge i ds.length with h | h
  · rw [List.getElem?_append_left (by simpa using h), List.getElem?_map, List.getElem?_zipIdx, List.getElem?_eq_getElem h]
    simp
  · rw [List.getElem?_append_right (by simpa using h), List.getElem?_eq_none h, List.getElem?_replicate]
    split <;> rfl
theorem fn_rule {x qual : Str} {params : Arguments} {body : List Stmt} {scope : Scope} {f : Nat} {fdt : FuncData} {N ps : List Str} {fd : Fn} (FF : FunD K x qual params body scope [] [] (c.fa f) fdt) (S : FnScope N ps scope) (hf : T.fn f = some fd)
    (hnp : fd.np = ps.length) (hns : fd.ns = N.length) (hchg : ∀ m, fd.chg = some m → m < fd.np) (hle : fd.np ≤ fd.ns) (h : chkSs T fd.body ⟨N, scope, locB scope⟩ body = true) (PO : ProgOk T P w K mg base c k (callF T k)) :
    FnOk P w K mg base (L2.CX P w) (k + 1) (c.fa f) fdt ps (spF K c (callF T (k + 1)) fd.np f fd.chg) := by
  refine FF.ok S (fun vs H Q E ⟨_, _, _, _, hl, _⟩ => hl.trans hnp) fun cdv A outer s H vs Q E hr ⟨F, ds, sub, dl, vl, args, post⟩ => ?_
  -- the caller's list
  obtain ⟨bs, hbs, hbs2⟩ : ∃ bs : List (Nat × Addr), (∀ m a, fd.chg = some m → vs[m]? = some (.ref a) → (m, a) ∈ bs) ∧ ∀ i a, (i, a) ∈ bs → fd.chg = some i ∧ vs[i]? = some (.ref a) := by
    cases e : fd.chg with
    | none => exact ⟨[], fun m a z => (by cases z), fun i a z => (by cases z)⟩
    | some m =>
      cases e2 : vs[m]? with
      | none => exact ⟨[], fun m' a z z2 => (by cases z; rw [e2] at z2; cases z2), fun i a z => (by cases z)⟩
      | some v =>
        cases v with
        | ref a =>
          refine ⟨[(m, a)], fun m' a' z z2 => ?_, fun i a' z => ?_⟩
          · cases z; rw [e2] at z2; cases z2; exact List.mem_singleton.mpr rfl
          · have := List.mem_singleton.mp z; cases this; exact ⟨rfl, e2⟩
        | _ => exact ⟨[], fun m' a z z2 => (by cases z; rw [e2] at z2; cases z2), fun i a z => (by cases z)⟩
  let g : Gh := { c := c, H0 := H, bs := bs, W := fun cls d _ H => E cls d H, T := T, call := callF T k }
  have kp : ∀ a : Addr, (∀ i, (i, a) ∉ bs) → ∀ kk, fd.chg = some kk → vs[kk]? ≠ some (.ref a) := fun a n kk e e2 => n kk (hbs kk a e e2)
  have G : Good (cxOf (L2.CX P w) P w K mg base N qual scope (c.fa f) cdv A outer s H E) g ⟨N, scope, locB scope⟩ k := by
    refine ⟨rfl, rfl, S.nd, rfl, fun y hy => ⟨locB_ok hy, .inl rfl⟩, hr, fun σ => ?_, PO⟩
    exact passAt (takes_of rfl rfl rfl rfl) σ
  refine ⟨tSs K g fd.body, chkSs_ok fd.body body rfl G (passes_of rfl) S.kind h, F, Ev.start fd.chg fd.ns ds, F, ?_, ?_⟩
  · have hat := fun i => start_at (chg := fd.chg) (ns := fd.ns) (ds := ds) i
    have hs : ∀ (i : Nat) (v : V), vs[i]? = some v → (L2.start N vs)[i]? = some (some v) := fun i v e => by
      unfold L2.start
      rw [List.getElem?_append_left (by rw [List.length_map]; exact (List.getElem?_eq_some_iff.mp e).1), List.getElem?_map, e]; rfl
    have get : ∀ (i : Nat) (d : D), ds[i]? = some d → ∃ v, vs[i]? = some v ∧ ArgOk K c F H (decide (fd.chg = some i)) d v := fun i d e => by
      have hi : i < vs.length := by rw [vl, ← dl]; exact (List.getElem?_eq_some_iff.mp e).1
      exact ⟨vs[i], List.getElem?_eq_getElem hi, args i d _ e (List.getElem?_eq_getElem hi)⟩
    refine ⟨⟨sub, ?_, fun i d q => ?_, fun i d q => ?_, fun i d q => ?_, fun i j a g1 g2 g3 g4 => ?_, fun a o e _ => e, fun a o e => ⟨o, e⟩⟩, Sub.refl _, fun a o e => .inl e⟩
    · rw [start_len (by rw [dl]; exact hle), hns]
      unfold L2.start
      simp only [List.length_append, List.length_map, List.length_replicate]
      omega
    · rw [hat] at q
      cases e : ds[i]? with
      | none => rw [e] at q; cases q
      | some d' =>
        rw [e] at q
        simp only at q
        split at q
        · cases q
        · rename_i hn
          cases q
          obtain ⟨v, e1, e2⟩ := get i d e
          unfold ArgOk at e2
          rw [if_neg (by simp [hn])] at e2
          exact ⟨v, hs i v e1, e2⟩
    · rw [hat] at q
      cases e : ds[i]? with
      | none => rw [e] at q; cases q
      | some d' => rw [e] at q; simp only at q; split at q <;> cases q
    · rw [hat] at q
      cases e : ds[i]? with
      | none => rw [e] at q; cases q
      | some d' =>
        rw [e] at q
        simp only at q
        split at q
        · rename_i hn
          cases q
          obtain ⟨v, e1, e2⟩ := get i d e
          unfold ArgOk at e2
          rw [if_pos (by simp [hn])] at e2
          obtain ⟨a, o, rfl, k1, k2, k3⟩ := e2
          exact ⟨a, o, hs i _ e1, k1, k2, k3, hbs i a hn e1⟩
        · cases q
    · have key : ∀ i, ((Ev.start fd.chg fd.ns ds).at i).mine = true → fd.chg = some i := fun i hm => by
        rw [hat] at hm
        cases e : ds[i]? with
        | none => rw [e] at hm; cases hm
        | some d' =>
          rw [e] at hm
          simp only at hm
          split at hm
          · assumption
          · cases hm
      have a1 := key i g1
      have a2 := key j g2
      rw [a1] at a2; cases a2; rfl
  · -- what it hands back
    have post' : FPost K c F H fd.chg vs (if ds.length = fd.np ∧ fd.np ≤ fd.ns then
        (evSs g fd.body (Ev.start fd.chg fd.ns ds)).bind fun
          | .ret r e => (match handBack r e, left fd.chg e with
            | some r', some o => .ok (r', o)
            | _, _ => .bad)
          | .nx e => (match left fd.chg e with
            | some o => .ok (.val .non, o)
            | none => .bad)
          | _ => .bad
      else .bad) Q E := by
      have e : callF T (k + 1) f ds = match T.fn f with
        | none => .bad
        | some fd => if ds.length = fd.np ∧ fd.np ≤ fd.ns then
            (evalSs T.chg T.gval (callF T k) fd.body (Ev.start fd.chg fd.ns ds)).bind fun
              | .ret r e => (match handBack r e, left fd.chg e with
                | some r', some o => .ok (r', o)
                | _, _ => .bad)
              | .nx e => (match left fd.chg e with
                | some o => .ok (.val .non, o)
                | none => .bad)
              | _ => .bad
          else .bad := rfl
      rw [e, hf] at post
      exact post
    rw [if_pos ⟨dl, hle⟩] at post'
    -- the changed list at the end
    have fin : ∀ (e : Env) (F' H' : Hp) (σ' : L2.St) (o : Option D), RelS K g F e F' σ' H' → left fd.chg e = some o → Sub F F' ∧ Sub F' H' ∧ (∀ a o, H a = some o → (∀ k, fd.chg = some k → vs[k]? ≠ some (.ref a)) → H' a = some o) ∧ (∀ a o, H a = some o → ∃ u, H' a = some u) ∧
        (∀ a o, F' a = some o → F a = some o ∨ H a = none) ∧ (∀ k a, fd.chg = some k → vs[k]? = some (.ref a) → ∃ d u, o = some d ∧ H' a = some u ∧ RepO K c F' d u ∧ F' a = none) := by
      intro e F' H' σ' o R hl
      have byr : ∀ m, fd.chg = some m → ∃ d a u, o = some d ∧ H' a = some u ∧ RepO K c F' d u ∧ F' a = none ∧ vs[m]? = some (.ref a) := fun m em => by
        rw [em] at hl
        cases q : e.at m with
        | byr d =>
          simp only [left, q] at hl
          cases hl
          obtain ⟨a, u, _, k2, k3, k4, k5⟩ := R.rel.byr m d q
          exact ⟨d, a, u, rfl, k2, k3, k4, (hbs2 m a k5).2⟩
        | _ => simp only [left, q] at hl; cases hl
      refine ⟨R.sub, R.rel.sub, fun a u e1 n => R.rel.ext a u e1 fun i hi => n i (hbs2 i a hi).1 (hbs2 i a hi).2, R.rel.th, fun a u e1 => ?_, fun m a em ev => ?_⟩
      · rcases R.bk a u e1 with z | z | ⟨i, z⟩
        · exact .inl z
        · exact .inr z
        · obtain ⟨m1, m2⟩ := hbs2 i a z
          obtain ⟨d, b, u', _, _, _, k4, k5⟩ := byr i m1
          rw [m2] at k5; cases k5
          rw [e1] at k4; cases k4
      · obtain ⟨d, b, u', k1, k2, k3, k4, k5⟩ := byr m em
        rw [ev] at k5; cases k5
        exact ⟨d, u', k1, k2, k3, k4⟩
    cases er : evSs g fd.body (Ev.start fd.chg fd.ns ds) with
    | bad => rw [er] at post'; exact post'.elim
    | exc kk d =>
      rw [er] at post'
      intro σ dx w' F' H' s1 s2 keep hx rep
      exact post' dx w' F' H' s1 s2 (fun a o e n => keep a o e fun i hi => n i (hbs2 i a hi).1 (hbs2 i a hi).2) hx rep
    | ok fl =>
      rw [er] at post'
      simp only [Res.bind_ok] at post'
      cases fl with
      | brk e => exact post'.elim
      | ct e => exact post'.elim
      | nx e =>
        intro σ' F' H' R
        simp only at post'
        cases el : left fd.chg e with
        | none => rw [el] at post'; exact post'.elim
        | some o =>
          rw [el] at post'
          obtain ⟨f1, f2, f3, f4, f5, f6⟩ := fin e F' H' σ' o R el
          exact post' .non F' H' f1 f2 f3 f4 f5 f6 .non
      | ret r e =>
        intro σ' v F' H' R rr
        simp only at post'
        cases eh : handBack r e with
        | none => rw [eh] at post'; exact post'.elim
        | some r' =>
          rw [eh] at post'
          cases el : left fd.chg e with
          | none => rw [el] at post'; exact post'.elim
          | some o =>
            rw [el] at post'
            obtain ⟨f1, f2, f3, f4, f5, f6⟩ := fin e F' H' σ' o R el
            refine post' v F' H' f1 f2 f3 f4 f5 f6 ?_
            cases r with
            | val d => cases eh; exact rr
            | tmp d =>
              cases eh
              obtain ⟨a, u, rfl, k1, k2, k3, k4, _⟩ := rr
              exact ⟨a, u, rfl, k1, k2, k3, k4⟩
            | var i =>
              have rr' : σ'[i]? = some (some v) := rr
              cases q : e.at i with
              | no => simp only [handBack, q] at eh; cases eh
              | byr d => simp only [handBack, q] at eh; cases eh
              | val d =>
                simp only [handBack, q] at eh
                cases eh
                obtain ⟨u, k1, k2⟩ := R.rel.val i d q
                rw [rr'] at k1; cases k1
                exact k2
              | own d =>
                simp only [handBack, q] at eh
                cases eh
                obtain ⟨a, u, k1, k2, k3, k4, k5⟩ := R.rel.own i d q
                rw [rr'] at k1; cases k1
                exact ⟨a, u, rfl, k2, k3, k4, k5⟩
end
end Ev
namespace Ev
open PySem PySem.Spec PyProof.Rows L2
/-! ### a program's defs -/
structure FD where
  name : Str
  st : Stmt
  N : List Str
  ps : List Str
  fn : Fn
def tabOf (L : List FD) (cs : List (Str × D)) : Tab where
  fn := fun f => (L[f]?).map (·.fn)
  fname := fun f => match L[f]? with
    | some d => d.name
    | none => ⟨#[]⟩
  ps := fun f => match L[f]? with
    | some d => d.ps
    | none => []
  gname := fun n => match cs[n]? with
    | some q => q.1
    | none => ⟨#[]⟩
  gval := fun n => (cs[n]?).map (·.2)
def scB (N ps : List Str) (sc : Scope) : Bool := (match sc.kind with | .function => true | _ => false) && !sc.isCoroutine && !sc.isGenerator && decide N.Nodup && decide (N.take ps.length = ps) && (ps.all fun x => locB sc x) && sc.names.all fun y => match y.2 with | .free => false | _ => true
theorem scB_ok {N ps : List Str} {sc : Scope} (h : scB N ps sc = true) : FnScope N ps sc := by
  unfold scB at h
  simp only [Bool.and_eq_true, Bool.not_eq_true', decide_eq_true_eq, List.all_eq_true] at h
  obtain ⟨⟨⟨⟨⟨⟨h1, h2⟩, h3⟩, h4⟩, h5⟩, h6⟩, h7⟩ := h
  refine ⟨?_, h2, h3, h4, h5, fun x hx => locB_ok (h6 x hx), fun y hy e => ?_⟩
  · split at h1
    · assumption
    · cases h1
  · have := h7 y hy
    rw [e] at this; cases this
def argB (ps : List Str) (a : Arguments) : Bool := a.posonlyargs.isEmpty && decide (a.args.map (·.arg) = ps) && a.vararg.isNone && a.kwonlyargs.isEmpty && a.kwarg.isNone && decide ps.Nodup
def FD.ok (T : Tab) (d : FD) : Bool := scB d.N d.ps (defScope d.st) && argB d.ps (defArgs d.st) && decide (d.fn.np = d.ps.length) && decide (d.fn.ns = d.N.length) && decide (d.fn.np ≤ d.fn.ns) && (match d.fn.chg with | none => true | some m => decide (m < d.fn.np)) &&
  chkSs T d.fn.body ⟨d.N, defScope d.st, locB (defScope d.st)⟩ (defBody d.st)
def FD.dd (d : FD) : He.DefD := ⟨(d.name, none), d.name, d.name, defArgs d.st, defBody d.st, defScope d.st, [], []⟩
/-- where the defs stand -/
def rcOf (K : PySem.W.Frag) (T : Tab) (cls : Nat → Str) : RC := ⟨fun f => He.ga K (T.fname f), fun n => He.ga K (cls n)⟩
section
variable {P : Program} {w : World} {K : PySem.W.Frag} {mg : Str → Option Value} {base : Heap}
theorem plain_of {x qual : Str} {params : Arguments} {body : List Stmt} {scope : Scope} {f : Addr} {fdt : FuncData} {ps : List Str} (F : FunD K x qual params body scope [] [] f fdt) (h : argB ps params = true) : Plain fdt ps := by
  obtain ⟨oc, od, dV, kV, doc, pm, an, cdv, ct, osl, rfl, lk, hcd, hD, hK⟩ := F.ex
  unfold argB at h
  simp only [Bool.and_eq_true, decide_eq_true_eq, List.isEmpty_iff, Option.isNone_iff_eq_none] at h
  obtain ⟨⟨⟨⟨⟨h1, h2⟩, h3⟩, h4⟩, h5⟩, h6⟩ := h
  rcases hD with ⟨_, rfl⟩ | ⟨e, _⟩
  · exact ⟨h1, h2, h3, h4, h5, rfl, h6⟩
  · exact absurd rfl e
theorem prog_ok {L : List FD} {cs : List (Str × D)} {cls : Nat → Str} (defs : ∀ d ∈ L, mg d.name = some (.ref (He.ga K d.name)) ∧ ∃ fdt, FunD K d.name d.name (defArgs d.st) (defBody d.st) (defScope d.st) [] [] (He.ga K d.name) fdt)
    (free : ∀ x ∈ builtinNames, mg x = none) (cons : ∀ n d, (tabOf L cs).gval n = some d → ∃ u v, mg ((tabOf L cs).gname n) = some u ∧ RelV v u ∧ ∀ F, Rep K (rcOf K (tabOf L cs) cls) F d v)
    (ok : ∀ d ∈ L, FD.ok (tabOf L cs) d = true) : ∀ k, ProgOk (tabOf L cs) P w K mg base (rcOf K (tabOf L cs) cls) k (callF (tabOf L cs) k) := by
  have facts : ∀ f fd, (tabOf L cs).fn f = some fd → ∃ d ∈ L, L[f]? = some d ∧ d.fn = fd ∧ (tabOf L cs).fname f = d.name ∧ (tabOf L cs).ps f = d.ps := fun f fd h => by
    cases e : L[f]? with
    | none => simp only [tabOf, e] at h; cases h
    | some d =>
      simp only [tabOf, e] at h
      cases h
      exact ⟨d, List.mem_of_getElem? e, rfl, rfl, by simp only [tabOf, e], by simp only [tabOf, e]⟩
  have base1 : ∀ k, (∀ f fd, (tabOf L cs).fn f = some fd → ∀ d ∈ L, L[f]? = some d → d.fn = fd → (tabOf L cs).fname f = d.name → (tabOf L cs).ps f = d.ps → ∀ fdt, FunD K d.name d.name (defArgs d.st) (defBody d.st) (defScope d.st) [] [] (He.ga K d.name) fdt →
      FnOk P w K mg base (L2.CX P w) k (He.ga K d.name) fdt d.ps (spF K (rcOf K (tabOf L cs) cls) (callF (tabOf L cs) k) fd.np f fd.chg)) → ProgOk (tabOf L cs) P w K mg base (rcOf K (tabOf L cs) cls) k (callF (tabOf L cs) k) := by
    intro k hk
    refine ⟨fun f fd h => ?_, free, cons⟩
    obtain ⟨d, hd, e1, e2, e3, e4⟩ := facts f fd h
    obtain ⟨hm, fdt, F⟩ := defs d hd
    have o := ok d hd
    unfold FD.ok at o
    simp only [Bool.and_eq_true, decide_eq_true_eq] at o
    obtain ⟨⟨⟨⟨⟨⟨o1, o2⟩, o3⟩, o4⟩, o5⟩, o6⟩, o7⟩ := o
    have ef : (rcOf K (tabOf L cs) cls).fa f = He.ga K d.name := by show He.ga K ((tabOf L cs).fname f) = _; rw [e3]
    rw [e3, ef, e4]
    refine ⟨hm, F.kp, by rw [← e2, o3], fdt, plain_of F o2, hk f fd h d hd e1 e2 e3 e4 fdt F⟩
  intro k
  induction k with
  | zero =>
    refine base1 0 fun f fd h d hd e1 e2 e3 e4 fdt F => ⟨fun vs H Q E ⟨_, _, _, _, _, _, z⟩ => z.elim, fun A outer s H args us vs Q E _ _ _ _ ⟨_, _, _, _, _, _, z⟩ => z.elim⟩
  | succ k ih =>
    refine base1 (k + 1) fun f fd h d hd e1 e2 e3 e4 fdt F => ?_
    have o := ok d hd
    unfold FD.ok at o
    simp only [Bool.and_eq_true, decide_eq_true_eq] at o
    obtain ⟨⟨⟨⟨⟨⟨o1, o2⟩, o3⟩, o4⟩, o5⟩, o6⟩, o7⟩ := o
    have ef : (rcOf K (tabOf L cs) cls).fa f = He.ga K d.name := by show He.ga K ((tabOf L cs).fname f) = _; rw [e3]
    subst e2
    have F' : FunD K d.name d.name (defArgs d.st) (defBody d.st) (defScope d.st) [] [] ((rcOf K (tabOf L cs) cls).fa f) fdt := by rw [ef]; exact F
    have z := fn_rule (c := rcOf K (tabOf L cs) cls) (T := tabOf L cs) (f := f) (fd := d.fn) (N := d.N) (ps := d.ps) (P := P) (w := w) (mg := mg) (base := base) F' (scB_ok o1) h o3 o4 (fun m em => by rw [em] at o6; exact of_decide_eq_true o6) o5 o7 ih
    rw [ef] at z
    exact z
/-- the first def, whatever the heap at the entry -/
theorem prog_law {L : List FD} {cs : List (Str × D)} {cls : Nat → Str} {d : FD} (hL : L[0]? = some d) (defs : ∀ d ∈ L, mg d.name = some (.ref (He.ga K d.name)) ∧ ∃ fdt, FunD K d.name d.name (defArgs d.st) (defBody d.st) (defScope d.st) [] [] (He.ga K d.name) fdt)
    (free : ∀ x ∈ builtinNames, mg x = none) (cons : ∀ n d, (tabOf L cs).gval n = some d → ∃ u v, mg ((tabOf L cs).gname n) = some u ∧ RelV v u ∧ ∀ F, Rep K (rcOf K (tabOf L cs) cls) F d v)
    (ok : ∀ d ∈ L, FD.ok (tabOf L cs) d = true) : ∃ fdt, Plain fdt d.ps ∧ ∀ (k : Nat) (base : Heap), FnOk P w K mg base (L2.CX P w) (k + 1) (He.ga K d.name) fdt d.ps (spF K (rcOf K (tabOf L cs) cls) (callF (tabOf L cs) (k + 1)) d.fn.np 0 d.fn.chg) := by
  have hd := List.mem_of_getElem? hL
  obtain ⟨hm, fdt, F⟩ := defs d hd
  have o := ok d hd
  unfold FD.ok at o
  simp only [Bool.and_eq_true, decide_eq_true_eq] at o
  obtain ⟨⟨⟨⟨⟨⟨o1, o2⟩, o3⟩, o4⟩, o5⟩, o6⟩, o7⟩ := o
  refine ⟨fdt, plain_of F o2, fun k base => ?_⟩
  have PK : ProgOk (tabOf L cs) P w K mg base (rcOf K (tabOf L cs) cls) k (callF (tabOf L cs) k) := prog_ok defs free cons ok k
  have ef : (rcOf K (tabOf L cs) cls).fa 0 = He.ga K d.name := by show He.ga K ((tabOf L cs).fname 0) = _; simp only [tabOf, hL]
  have hfn : (tabOf L cs).fn 0 = some d.fn := by simp only [tabOf, hL]; rfl
  have F' : FunD K d.name d.name (defArgs d.st) (defBody d.st) (defScope d.st) [] [] ((rcOf K (tabOf L cs) cls).fa 0) fdt := by rw [ef]; exact F
  have z := fn_rule (c := rcOf K (tabOf L cs) cls) (T := tabOf L cs) (f := 0) (fd := d.fn) (N := d.N) (ps := d.ps) (P := P) (w := w) (mg := mg) (base := base) F' (scB_ok o1) hfn o3 o4 (fun m em => by rw [em] at o6; exact of_decide_eq_true o6) o5 o7 PK
  rw [ef] at z
  exact z
theorem plain_binds {fdt : FuncData} {x : Str} (P : Plain fdt [x]) (s : Shared) (u : Value) : BindsTo s fdt ⟨[u], []⟩ [(x, u)] :=
  binds_ok (ks := []) (p := []) (us := [u]) (ws := []) P rfl rfl
/-- what may leave, whatever the program and the world -/
def CXu : CXT := fun outer H s E u s' => ∃ P w, L2.CX P w outer H s E u s'
theorem FnOk.cx {CX CX' : CXT} {k : Nat} {f : Addr} {fd : FuncData} {ps : List Str} {sp : Sp} (h : ∀ outer H s E e s', CX outer H s E e s' → CX' outer H s E e s') (F : FnOk P w K mg base CX k f fd ps sp) : FnOk P w K mg base CX' k f fd ps sp :=
  ⟨F.len, fun A outer s H args us vs Q E hr e b v hs => codeAny_mono (F.run A outer s H args us vs Q E hr e b v hs) fun r s' hq => by
    cases r with
    | error e => exact h _ _ _ _ _ _ hq
    | ok fl => cases fl <;> exact hq⟩
theorem FnOk.u {k : Nat} {f : Addr} {fd : FuncData} {ps : List Str} {sp : Sp} (F : FnOk P w K mg base (L2.CX P w) k f fd ps sp) : FnOk P w K mg base CXu k f fd ps sp := FnOk.cx (fun _ _ _ _ _ _ z => ⟨P, w, z⟩) F
theorem CXu_no (H : Hp) (s : Shared) (e : Value) (s' : Shared) (z : CXu [] H s (fun _ _ _ => False) e s') : False := by
  obtain ⟨_, _, _, _, _, _, _, _, _, _, _, _, _, _, w⟩ := z
  exact w
/-- a law's def, by its data -/
theorem law_sp {c : RC} {T : Tab} {k f : Nat} {np : Nat} {H : Hp} {a : Addr} {ns : List Int} (hnp : np = 1) (hS : SqL K H a (ns.map V.int)) (hl : ns.length ≤ LIM) (h : callF T k f [.scr ns] = .ok (.val (.bl true), none)) : spF K c (callF T k) np f none [.ref a] H (fun v _ => v = .bl true) fun _ _ _ => False := by
  subst hnp
  refine ⟨H, [.scr ns], Sub.refl _, rfl, rfl, fun i d v e1 e2 => ?_, ?_⟩
  · cases i with
    | zero =>
      simp at e1 e2
      subst e1 e2
      exact Rep.scr hS hl
    | succ i => simp at e1
  · rw [h]
    intro v F' H' _ _ _ _ _ _ hr
    cases hr
    rfl
end
end Ev
namespace Ev
/-! ### what a call is worth, by its body -/
def fin (chg : Option Nat) : Fl → Res (R × Option D)
  | .ret r e => (match handBack r e, left chg e with
    | some r', some o => .ok (r', o)
    | _, _ => .bad)
  | .nx e => (match left chg e with
    | some o => .ok (.val .non, o)
    | none => .bad)
  | _ => .bad
theorem callF_succ {T : Tab} {k f : Nat} {fd : Fn} {ds : List D} (hf : T.fn f = some fd) (h : ds.length = fd.np ∧ fd.np ≤ fd.ns) : callF T (k + 1) f ds = (evalSs T.chg T.gval (callF T k) fd.body (start fd.chg fd.ns ds)).bind (fin fd.chg) := by
  have e : callF T (k + 1) f ds = match T.fn f with
    | none => .bad
    | some fd => if ds.length = fd.np ∧ fd.np ≤ fd.ns then (evalSs T.chg T.gval (callF T k) fd.body (start fd.chg fd.ns ds)).bind (fin fd.chg) else .bad := rfl
  rw [e, hf]
  exact if_pos h
/-- a comprehension that gives f of each item, the slots as they were -/
theorem compL_map {tg : Tg} {cond : Env → Res (Bool × Env)} {elt : Env → Res (R × Env)} {own : List Nat} {f : D → D} {e0 : Env} : ∀ {xs : List D}, (∀ x ∈ xs, ∃ e1 e2 r e3 e4, assignT tg x e0 = some e1 ∧ cond e1 = .ok (true, e2) ∧ elt e2 = .ok (r, e3) ∧ asVal r e3 = some (f x, e4) ∧ wipeE e4 own = e0) →
    compL tg cond elt own xs e0 = .ok (xs.map f, e0)
  | [], _ => rfl
  | x :: xs, h => by
    obtain ⟨e1, e2, r, e3, e4, h1, h2, h3, h4, h5⟩ := h x (List.mem_cons_self ..)
    have ih := compL_map (xs := xs) fun y hy => h y (List.mem_cons_of_mem _ hy)
    unfold compL
    simp only [h1, h2, h3, h4, h5, ih, Res.of_some, Res.bind_ok, if_true, List.map_cons]
/-- .. of each item that a test lets -/
theorem compL_filter {tg : Tg} {cond : Env → Res (Bool × Env)} {elt : Env → Res (R × Env)} {own : List Nat} {f : D → D} {p : D → Bool} {e0 : Env} : ∀ {xs : List D}, (∀ x ∈ xs, ∃ e1 e2, assignT tg x e0 = some e1 ∧ cond e1 = .ok (p x, e2) ∧ (p x = false → wipeE e2 own = e0) ∧ (p x = true → ∃ r e3 e4, elt e2 = .ok (r, e3) ∧ asVal r e3 = some (f x, e4) ∧ wipeE e4 own = e0)) →
    compL tg cond elt own xs e0 = .ok ((xs.filter p).map f, e0)
  | [], _ => rfl
  | x :: xs, h => by
    obtain ⟨e1, e2, h1, h2, h3, h4⟩ := h x (List.mem_cons_self ..)
    have ih := compL_filter (xs := xs) fun y hy => h y (List.mem_cons_of_mem _ hy)
    unfold compL
    cases hp : p x with
    | false =>
      rw [hp] at h2
      simp only [h1, h2, h3 hp, ih, Res.of_some, Res.bind_ok, List.filter_cons, hp]
      rfl
    | true =>
      rw [hp] at h2
      obtain ⟨r, e3, e4, h5, h6, h7⟩ := h4 hp
      simp only [h1, h2, h5, h6, h7, ih, Res.of_some, Res.bind_ok, List.filter_cons, hp]
      rfl
/-- a for that goes through: I holds of the items taken and the slots -/
theorem forL_inv {tg : Tg} {body : Env → Res Fl} (I : Nat → Env → Prop) {xs : List D} (step : ∀ (i : Nat) (x : D) (e : Env), xs[i]? = some x → I i e → ∃ e1, assignT tg x e = some e1 ∧ ((∃ e2, body e1 = .ok (.nx e2) ∧ I (i + 1) e2) ∨ ∃ e2, body e1 = .ok (.ct e2) ∧ I (i + 1) e2)) :
    ∀ (n i : Nat) (e : Env), n + i = xs.length → I i e → ∃ e', forL tg body [] (xs.drop i) e = .ok (.nx e') ∧ I xs.length e'
  | 0, i, e, hn, hI => by
    have : i = xs.length := by omega
    subst this
    exact ⟨e, by rw [List.drop_length]; rfl, hI⟩
  | n + 1, i, e, hn, hI => by
    have hi : i < xs.length := by omega
    rw [List.drop_eq_getElem_cons hi]
    obtain ⟨e1, h1, h2⟩ := step i xs[i] e (List.getElem?_eq_getElem hi) hI
    have go : ∀ e2, I (i + 1) e2 → ∃ e', forL tg body [] (xs.drop (i + 1)) (wipeE e2 []) = .ok (.nx e') ∧ I xs.length e' := fun e2 h => forL_inv I step n (i + 1) e2 (by omega) h
    rcases h2 with ⟨e2, h2, h3⟩ | ⟨e2, h2, h3⟩
    · obtain ⟨e', h4, h5⟩ := go e2 h3
      refine ⟨e', ?_, h5⟩
      unfold forL
      simp only [h1, h2, Res.of_some, Res.bind_ok]
      exact h4
    · obtain ⟨e', h4, h5⟩ := go e2 h3
      refine ⟨e', ?_, h5⟩
      unfold forL
      simp only [h1, h2, Res.of_some, Res.bind_ok]
      exact h4
/-- a for as a fold: the slots are a function of a state -/
theorem forL_fold {α β : Type} {tg : Tg} {body : Env → Res Fl} (enc : α → D) (st : β → Env) (f : β → α → β) (P : Nat → β → Prop) : ∀ (xs : List α) (i : Nat) (b : β), P i b →
    (∀ (j : Nat) (x : α) (b : β), x ∈ xs → P j b → ∃ e1, assignT tg (enc x) (st b) = some e1 ∧ body e1 = .ok (.nx (st (f b x))) ∧ P (j + 1) (f b x)) → forL tg body [] (xs.map enc) (st b) = .ok (.nx (st (xs.foldl f b))) ∧ P (i + xs.length) (xs.foldl f b)
  | [], i, b, hp, _ => ⟨rfl, hp⟩
  | x :: xs, i, b, hp, h => by
    obtain ⟨e1, h1, h2, h3⟩ := h i x b (List.mem_cons_self ..) hp
    obtain ⟨k1, k2⟩ := forL_fold enc st f P xs (i + 1) (f b x) h3 fun j y c hy hc => h j y c (List.mem_cons_of_mem _ hy) hc
    refine ⟨?_, by rw [List.length_cons, List.foldl_cons]; rw [show i + (xs.length + 1) = i + 1 + xs.length by omega]; exact k2⟩
    rw [List.map_cons]
    unfold forL
    simp only [h1, h2, Res.of_some, Res.bind_ok]
    exact k1
end Ev
namespace Ev
/-! ### how the evaluator steps: the head first, what comes after it untouched -/
theorem bind_head {α β : Type} {a a' : Res α} {k : α → Res β} (h : a = a') : a.bind k = a'.bind k := by rw [h]
theorem forL_head {tg : Tg} {body : Env → Res Fl} {gone : List Nat} {xs xs' : List D} {e e' : Env} (h : xs = xs') (h2 : e = e') : forL tg body gone xs e = forL tg body gone xs' e' := by rw [h, h2]
theorem compL_head {tg : Tg} {cond : Env → Res (Bool × Env)} {elt : Env → Res (R × Env)} {own : List Nat} {xs xs' : List D} {e e' : Env} (h : xs = xs') (h2 : e = e') : compL tg cond elt own xs e = compL tg cond elt own xs' e' := by rw [h, h2]
theorem whlL_head {cond : Env → Res (Bool × Env)} {body : Env → Res Fl} {gone : List Nat} {n n' : Nat} {e e' : Env} (h : n = n') (h2 : e = e') : whlL cond body gone n e = whlL cond body gone n' e' := by rw [h, h2]
section
variable {o' : Option Nat} {d : D} {e : Env} {i j : Int} {n : Nat} {xs ys : List D} {x y : List Nat} {b b' : Bool} {ns : List Int} {r : R} {rs : List R} {k : Nat} {m : Nat} {o : Option D}
theorem peek_v : peek (.val d) e = some d := rfl
theorem peek_t : peek (.tmp d) e = some d := rfl
theorem peek_i : peek (.var n) e = (e.at n).con := rfl
theorem con_v : (Sl.val d).con = some d := rfl
theorem con_o : (Sl.own d).con = some d := rfl
theorem con_b : (Sl.byr d).con = some d := rfl
theorem asVal_v : asVal (.val d) e = some (d, e) := rfl
theorem asVal_t : asVal (.tmp d) e = some (d, e) := rfl
theorem asVal_iv (h : e.at n = .val d) : asVal (.var n) e = some (d, e) := by simp only [asVal, h]
theorem asVal_io (h : e.at n = .own d) : asVal (.var n) e = some (d, e.set n (.val d)) := by simp only [asVal, h]
theorem add_ii : bop .add (.int i) (.int j) = some (.val (.int (i + j))) := rfl
theorem sub_ii : bop .sub (.int i) (.int j) = some (.val (.int (i - j))) := rfl
theorem add_ll (h : xs.length + ys.length ≤ LIM) : bop .add (.lst xs) (.lst ys) = some (.tmp (.lst (xs ++ ys))) := if_pos h
theorem mod_ii (h : 0 < j) : bop .mod (.int i) (.int j) = some (.val (.int (i % j))) := if_pos h
theorem div_ii (h : 0 < j) (h2 : j.natAbs < 2 ^ 200) : bop .fdiv (.int i) (.int j) = some (.val (.int (i / j))) := if_pos ⟨h, by
  by_cases z : j.natAbs = 0
  · rw [z]; decide
  · exact Nat.lt_trans ((Nat.log2_lt z).mpr h2) (by decide)⟩
theorem mul_ii (h : i.natAbs < 2 ^ 200) (h2 : j.natAbs < 2 ^ 200) : bop .mul (.int i) (.int j) = some (.val (.int (i * j))) := by
  have q : ∀ a : Int, a.natAbs < 2 ^ 200 → a.natAbs.log2 < 300 := fun a h => by
    by_cases z : a.natAbs = 0
    · rw [z]; decide
    · exact Nat.lt_trans ((Nat.log2_lt z).mpr h) (by decide)
  have h1 := q i h
  have h3 := q j h2
  exact if_pos (by omega)
theorem pow_ii (h : 0 ≤ j ∧ (PySem.Builtin.Int.intBits i : Int) * j ≤ 2 ^ 27) : bop .pow (.int i) (.int j) = some (.val (.int (i ^ j.toNat))) := if_pos h
theorem mod_if : bop .mod (.int i) (.int j) = if 0 < j then some (.val (.int (i % j))) else none := rfl
theorem lt_ii : cop .lt (.int i) (.int j) = some (decide (i < j)) := rfl
theorem le_ii : cop .le (.int i) (.int j) = some (decide (i ≤ j)) := rfl
theorem gt_ii : cop .gt (.int i) (.int j) = some (decide (j < i)) := rfl
theorem ge_ii : cop .ge (.int i) (.int j) = some (decide (j ≤ i)) := rfl
theorem eq_ii : cop .eq (.int i) (.int j) = some (decide (i = j)) := by
  show some (i == j) = _
  congr 1
theorem ne_ii : cop .ne (.int i) (.int j) = some (!decide (i = j)) := by
  show some (!(i == j)) = _
  congr 2
theorem tru_b : tru (.bl b) = some b := rfl
theorem ix_l : opIx (.lst xs) (.int i) = (L2.atI xs i).map .val := rfl
theorem len_l : biOp .len [.lst xs] = some (.val (.int xs.length)) := rfl
theorem len_s : biOp .len [.scr ns] = some (.val (.int ns.length)) := rfl
theorem int_i : biOp .int [.int i] = some (.val (.int i)) := rfl
theorem max_ii : biOp .max [.int i, .int j] = some (.val (.int (if j > i then j else i))) := rfl
theorem min_ii : biOp .min [.int i, .int j] = some (.val (.int (if j < i then j else i))) := rfl
theorem bitlen_i : biOp .bitlen [.int i] = some (.val (.int (PySem.Builtin.Int.intBits i : Nat))) := rfl
theorem list_l : biOp .list [.lst xs] = some (.tmp (.lst xs)) := rfl
theorem at_0 {s : Sl} {l : Env} : Env.at (s :: l) 0 = s := rfl
theorem at_s {s : Sl} {l : Env} : Env.at (s :: l) (n + 1) = Env.at l n := rfl
theorem flat_i : flatR (.val (.int i)) = true := rfl
theorem flat_b : flatR (.val (.bl b)) = true := rfl
theorem flat_n : flatR (.val .non) = true := rfl
theorem flatO_n : flatO none = true := rfl
theorem mine_v : (Sl.val d).mine = false := rfl
theorem mine_o : (Sl.own d).mine = true := rfl
theorem mine_b : (Sl.byr d).mine = true := rfl
theorem mine_n : Sl.no.mine = false := rfl
theorem free_v : (Sl.val d).free = true := rfl
theorem free_o : (Sl.own d).free = true := rfl
theorem free_n : Sl.no.free = true := rfl
theorem put_o {d' : D} : (Sl.own d).put d' = .own d' := rfl
theorem put_b {d' : D} : (Sl.byr d).put d' = .byr d' := rfl
theorem back_n : back e none o = some e := rfl
theorem back_s : back e (some n) (some d) = some (e.set n ((e.at n).put d)) := rfl
theorem hb_v : handBack (.val d) e = some (.val d) := rfl
theorem hb_t : handBack (.tmp d) e = some (.tmp d) := rfl
theorem left_n : left none e = some none := rfl
theorem left_s (h : e.at n = .byr d) : left (some n) e = some (some d) := by unfold left; simp only [h]
theorem fin_r : fin o' (.ret r e) = (match handBack r e, left o' e with
  | some r', some o => .ok (r', o)
  | _, _ => .bad) := rfl
theorem fin_nx : fin o' (.nx e) = (match left o' e with
  | some o => .ok (.val .non, o)
  | none => .bad) := rfl
theorem pv_nil : passVals o' m [] e = some ([], e) := rfl
theorem pv_n : passVals none m (r :: rs) e = (asVal r e).bind fun q => (passVals none (m + 1) rs q.2).map fun p => (some q.1 :: p.1, p.2) := rfl
theorem pv_s : passVals (some k) m (r :: rs) e = if some k = some m then (passVals (some k) (m + 1) rs e).map fun p => (none :: p.1, p.2) else (asVal r e).bind fun q => (passVals (some k) (m + 1) rs q.2).map fun p => (some q.1 :: p.1, p.2) := rfl
theorem pm_t : passMut (.tmp d) e = some (d, none) := rfl
theorem pm_o (h : e.at n = .own d) : passMut (.var n) e = some (d, some n) := by unfold passMut; simp only [h]
theorem pm_b (h : e.at n = .byr d) : passMut (.var n) e = some (d, some n) := by unfold passMut; simp only [h]
theorem fi_nil : fillIn d [] = [] := rfl
theorem fi_n {l : List (Option D)} : fillIn d (none :: l) = d :: fillIn d l := rfl
theorem fi_s {d' : D} {l : List (Option D)} : fillIn d (some d' :: l) = d' :: fillIn d l := rfl
theorem permute_nil : permute rs [] = some rs := rfl
theorem atI_0 {α : Type} {a : α} {l : List α} : L2.atI (a :: l) 0 = some a := by simp [L2.atI, L2.ixN]
theorem atI_n {α : Type} {l : List α} {n : Nat} : L2.atI l (n : Int) = l[n]? := by
  unfold L2.atI L2.ixN
  rw [if_pos (by omega)]
  by_cases h : (n : Int) < (l.length : Int)
  · rw [if_pos h]; simp
  · rw [if_neg h, List.getElem?_eq_none (by omega)]; rfl
theorem atI_1 {α : Type} {a b : α} {l : List α} : L2.atI (a :: b :: l) 1 = some b := atI_n (n := 1)
theorem atI_2 {α : Type} {a b c : α} {l : List α} : L2.atI (a :: b :: c :: l) 2 = some c := atI_n (n := 2)
theorem ixN_0 {n : Nat} : L2.ixN (n + 1) 0 = some 0 := by
  unfold L2.ixN
  rw [if_pos (by omega), if_pos (by omega)]; rfl
theorem ixN_n {n m : Nat} (h : m < n) : L2.ixN n (m : Int) = some m := by
  unfold L2.ixN
  rw [if_pos (by omega), if_pos (by omega)]; simp
theorem ixN_30 : L2.ixN 3 0 = some 0 := rfl
theorem ixN_31 : L2.ixN 3 1 = some 1 := rfl
theorem ixN_32 : L2.ixN 3 2 = some 2 := rfl
theorem wipe_nil : wipeE e [] = e := rfl
theorem wipe_cons {v : Nat} {vs : List Nat} : wipeE e (v :: vs) = (wipeE e vs).set v .no := rfl
theorem as_one : assignT (.one n) d e = if (decide (n < e.length) && (e.at n).free) = true then some (e.set n (.val d)) else none := by simp only [assignT]
theorem st_v : store n (.val d) e = if (decide (n < e.length) && (e.at n).free) = true then some (e.set n (.val d)) else none := by
  unfold store
  by_cases h : n < e.length
  · rw [if_pos h]
    simp only [h, decide_true, Bool.true_and]
    cases q : e.at n <;> rfl
  · rw [if_neg h]
    simp only [h, decide_false, Bool.false_and]
    rfl
theorem st_t : store n (.tmp d) e = if (decide (n < e.length) && (e.at n).free) = true then some (e.set n (.own d)) else none := by
  unfold store
  by_cases h : n < e.length
  · rw [if_pos h]
    simp only [h, decide_true, Bool.true_and]
    cases q : e.at n <;> rfl
  · rw [if_neg h]
    simp only [h, decide_false, Bool.false_and]
    rfl
theorem st_i : store n (.var m) e = if (decide (n < e.length) && (e.at n).free) = true then (asVal (.var m) e).map fun p => p.2.set n (.val p.1) else none := by
  unfold store
  by_cases h : n < e.length
  · rw [if_pos h]
    simp only [h, decide_true, Bool.true_and]
    cases q : e.at n <;> rfl
  · rw [if_neg h]
    simp only [h, decide_false, Bool.false_and]
    rfl
theorem asVal_i : asVal (.var n) e = (match e.at n with
  | .val d => some (d, e)
  | .own d => some (d, e.set n (.val d))
  | _ => none) := rfl
theorem pm_i : passMut (.var n) e = (match e.at n with
  | .own d => some (d, some n)
  | .byr d => some (d, some n)
  | _ => none) := rfl
theorem left_i : left (some n) e = (match e.at n with
  | .byr d => some (some d)
  | _ => none) := rfl
theorem hb_i : handBack (.var n) e = (match e.at n with
  | .val d => some (.val d)
  | .own d => some (.tmp d)
  | _ => none) := rfl
theorem free_b : (Sl.byr d).free = false := rfl
theorem stores_nil : stores [] [] e = some e := rfl
theorem stores_cons {x : Nat} {l : List Nat} : stores (x :: l) (r :: rs) e = (store x r e).bind fun e1 => stores l rs e1 := rfl
theorem res_nil : resolve [] e = some ([], e) := rfl
theorem res_v : resolve (.val d :: rs) e = (resolve rs e).map fun q => (.val d :: q.1, q.2) := rfl
theorem res_t : resolve (.tmp d :: rs) e = (resolve rs e).map fun q => (.tmp d :: q.1, q.2) := rfl
theorem res_i : resolve (.var n :: rs) e = (asVal (.var n) e).bind fun p => (resolve rs p.2).map fun q => (.val p.1 :: q.1, q.2) := rfl
theorem tst_ok {p : R × Env} : tst (.ok p) = (match peek p.1 p.2 with
  | some d => (Res.of (tru d)).bind fun b => .ok (b, p.2)
  | none => .bad) := rfl
theorem sp_f : spread false d = some [d] := rfl
theorem sp_l : spread true (.lst xs) = some xs := rfl
theorem sli_s {a c : Option Int} : opSli (.scr ns) a c = some (.tmp (.lst ((cut ns a c).map .int))) := rfl
theorem sli_l {a c : Option Int} : opSli (.lst xs) a c = some (.tmp (.lst (cut xs a c))) := rfl
theorem intsOf_map : ∀ ns : List Int, intsOf (ns.map .int) = some ns
  | [] => rfl
  | n :: ns => by simp only [List.map_cons, intsOf, intsOf_map ns, Option.map_some]
theorem sum_l : biOp .sum [.lst (ns.map .int)] = some (.val (.int ns.sum)) := by
  show (intsOf (ns.map .int)).bind (fun ns => vI ns.sum) = _
  rw [intsOf_map]; rfl
theorem ix_s : opIx (.scr ns) (.int i) = (L2.atI ns i).map fun n => .val (.int n) := rfl
theorem flat_t : flatR (.tmp d) = d.flat := rfl
theorem isT_l : isT .list (.lst xs) = some true := rfl
theorem all_t : ∀ {α : Type} (l : List α), biOp .all [.lst (l.map fun _ => .bl true)] = some (.val (.bl true)) := by
  intro α l
  have h : ∀ l : List α, boolsOf (l.map fun _ => D.bl true) = some (l.map fun _ => true) := by
    intro l
    induction l with
    | nil => rfl
    | cons x l ih => simp only [List.map_cons, boolsOf, ih, Option.map_some]
  show (boolsOf (l.map fun _ => D.bl true)).bind (fun bs => vB (bs.all id)) = _
  rw [h]
  show vB ((l.map fun _ => true).all id) = _
  have : (l.map fun _ => true).all id = true := by simp
  rw [this]; rfl
theorem noExc_ok {α : Type} {a : α} : noExc (.ok a) = .ok a := rfl
theorem range_1 : List.range 1 = [0] := rfl
theorem cw_n {T : Nat → Option (Option Nat)} {call : Call} {f : Nat} (h : T f = some none) : callWith T call f rs e = (match passVals none 0 rs e with
    | none => .bad
    | some (ds, e2) => (call f (ds.filterMap id)).bind fun p => .ok (p.1, if flatR p.1 then e else e2)) := by
  simp only [callWith, h]; try rfl
theorem cw_s {T : Nat → Option (Option Nat)} {call : Call} {f k : Nat} (h : T f = some (some k)) : callWith T call f rs e = (match passVals (some k) 0 rs e with
    | none => .bad
    | some (ds, e2) =>
        match (rs[k]?).bind fun r => passMut r e2 with
        | none => .bad
        | some (d, slot) => (call f (fillIn d ds)).bind fun p => Res.of ((back (if flatR p.1 && flatO p.2 then e else e2) slot p.2).map fun e3 => (p.1, e3))) := by
  simp only [callWith, h]; try rfl
end
end Ev
namespace Ev
/-! ### lists of numbers as data -/
abbrev eI (l : List Int) : D := .lst (l.map .int)
abbrev eM (m : List (List Int)) : D := .lst (m.map eI)
theorem datL_int : ∀ (n : Nat) (l : List Int), D.datL n (l.map .int) = true
  | n, [] => by cases n <;> rfl
  | n, x :: l => by
    have := datL_int n l
    cases n <;> simp only [List.map_cons, D.datL, D.dat, Bool.true_and] <;> exact this
theorem dat_eI (n : Nat) (l : List Int) : (eI l).dat (n + 1) = true := datL_int n l
theorem datL_eM : ∀ (n : Nat) (m : List (List Int)), D.datL (n + 1) (m.map eI) = true
  | n, [] => rfl
  | n, x :: m => by
    have h := datL_eM n m
    have h2 := dat_eI n x
    simp only [List.map_cons, D.datL, Bool.and_eq_true]
    exact ⟨h2, h⟩
theorem dat_eM (n : Nat) (m : List (List Int)) : (eM m).dat (n + 2) = true := datL_eM n m
theorem beqL_int : ∀ (l l' : List Int), D.beqL (l.map .int) (l'.map .int) = decide (l = l')
  | [], [] => rfl
  | [], _ :: _ => rfl
  | _ :: _, [] => rfl
  | x :: l, y :: l' => by
    simp only [List.map_cons, D.beqL, D.beq, beqL_int l l']
    rw [Bool.eq_iff_iff]; simp
theorem beq_eI (l l' : List Int) : D.beq (eI l) (eI l') = decide (l = l') := beqL_int l l'
theorem beqL_eM : ∀ (m m' : List (List Int)), D.beqL (m.map eI) (m'.map eI) = decide (m = m')
  | [], [] => rfl
  | [], _ :: _ => rfl
  | _ :: _, [] => rfl
  | x :: l, y :: l' => by
    simp only [List.map_cons, D.beqL, beqL_eM l l']
    rw [show D.beq (.lst (x.map .int)) (.lst (y.map .int)) = decide (x = y) from beq_eI x y]
    rw [Bool.eq_iff_iff]; simp
theorem eq_eI (l l' : List Int) : cop .eq (eI l) (eI l') = some (decide (l = l')) := by
  show eqD (eI l) (eI l') = _
  unfold eqD
  rw [dat_eI 39, dat_eI 39, beq_eI]; rfl
theorem eq_nil (l : List Int) : cop .eq (.lst (l.map .int)) (.lst []) = some (decide (l = [])) := eq_eI l []
theorem in_any (p : List Int) (m : List (List Int)) : (m.map eI).any (fun z => D.beq z (eI p)) = decide (p ∈ m) := by
  induction m with
  | nil => rfl
  | cons x m ih =>
    rw [List.map_cons, List.any_cons, ih, beq_eI, Bool.eq_iff_iff]
    simp only [Bool.or_eq_true, decide_eq_true_eq, List.mem_cons]
    constructor
    · rintro (h | h)
      · exact .inl h.symm
      · exact .inr h
    · rintro (h | h)
      · exact .inl h.symm
      · exact .inr h
theorem in_eM (p : List Int) (m : List (List Int)) : cop .isin (eI p) (eM m) = some (decide (p ∈ m)) := by
  show inL (eI p) (m.map eI) = _
  unfold inL
  rw [dat_eI 39, datL_eM 39, in_any]; rfl
theorem notin_eM (p : List Int) (m : List (List Int)) : cop .notin (eI p) (eM m) = some (!decide (p ∈ m)) := by
  show (inL (eI p) (m.map eI)).map (!·) = _
  have := in_eM p m
  rw [show inL (eI p) (m.map eI) = some (decide (p ∈ m)) from this]; rfl
theorem cut_from {α : Type} (xs : List α) (n : Nat) : cut xs (some (n : Int)) none = xs.drop n := by
  unfold cut
  rw [HT.sIx_nat, HT.sIx_none]
  rcases Nat.le_total n xs.length with h | h
  · rw [Nat.min_eq_left h, List.take_of_length_le (by simp)]
  · rw [Nat.min_eq_right h, List.drop_of_length_le h, List.drop_length]
    simp
theorem cut_upto {α : Type} (xs : List α) (n : Nat) : cut xs none (some (n : Int)) = xs.take n := by
  unfold cut
  rw [HT.sIx_nat, HT.sIx_none, List.drop_zero, Nat.sub_zero]
  rcases Nat.le_total n xs.length with h | h
  · rw [Nat.min_eq_left h]
  · rw [Nat.min_eq_right h, List.take_length, List.take_of_length_le h]
theorem cut_tail {α : Type} {x : α} {xs : List α} : cut (x :: xs) (some 1) none = xs := cut_from (x :: xs) 1
/-- a grid's lists, by hand -/
def LOS : List Int → Int → List (List Int)
  | [], t => if t = 0 then [[]] else []
  | d :: ds, t => (List.range (min d t + 1).toNat).flatMap fun (i : Nat) => (LOS ds (t - (i : Int))).map fun q => (i : Int) :: q
theorem LOS_len : ∀ (ds : List Int) (t : Int) (p : List Int), p ∈ LOS ds t → p.length = ds.length
  | [], t, p, h => by
    unfold LOS at h
    split at h
    · simp at h; subst h; rfl
    · simp at h
  | d :: ds, t, p, h => by
    unfold LOS at h
    obtain ⟨i, hi, h⟩ := List.mem_flatMap.mp h
    obtain ⟨q, hq, rfl⟩ := List.mem_map.mp h
    simp [LOS_len ds _ q hq]
/-- in a grid's lists: within the degrees, of that sum -/
theorem LOS_mem : ∀ (ds : List Int) (t : Int) (p : List Int), p ∈ LOS ds t ↔ p.length = ds.length ∧ (∀ q ∈ p.zip ds, 0 ≤ q.1 ∧ q.1 ≤ q.2) ∧ p.sum = t ∧ ∀ x ∈ p, 0 ≤ x
  | [], t, p => by
    unfold LOS
    constructor
    · intro h
      split at h
      · rename_i z
        simp at h
        subst h
        simp [z]
      · simp at h
    · rintro ⟨h1, _, h3, _⟩
      have : p = [] := List.eq_nil_of_length_eq_zero h1
      subst this
      simp at h3
      simp [← h3]
  | d :: ds, t, p => by
    unfold LOS
    rw [List.mem_flatMap]
    constructor
    · rintro ⟨i, hi, h⟩
      obtain ⟨q, hq, rfl⟩ := List.mem_map.mp h
      obtain ⟨k1, k2, k3, k4⟩ := (LOS_mem ds _ q).mp hq
      rw [List.mem_range] at hi
      refine ⟨by simp [k1], fun z hz => ?_, by simp [k3]; omega, fun x hx => ?_⟩
      · simp only [List.zip_cons_cons, List.mem_cons] at hz
        rcases hz with rfl | hz
        · exact ⟨by simp, by show (i : Int) ≤ d; omega⟩
        · exact k2 z hz
      · rcases List.mem_cons.mp hx with rfl | hx
        · omega
        · exact k4 x hx
    · rintro ⟨h1, h2, h3, h4⟩
      cases p with
      | nil => simp at h1
      | cons x q =>
        have hx : 0 ≤ x ∧ x ≤ d := h2 (x, d) (by simp)
        have hq0 : ∀ y ∈ q, 0 ≤ y := fun y hy => h4 y (List.mem_cons_of_mem _ hy)
        have hs : 0 ≤ q.sum := by
          clear h1 h2 h3 h4
          induction q with
          | nil => simp
          | cons y q ih =>
            have := ih fun z hz => hq0 z (List.mem_cons_of_mem _ hz)
            have := hq0 y (List.mem_cons_self ..)
            simp; omega
        simp only [List.sum_cons] at h3
        refine ⟨x.toNat, List.mem_range.mpr (by omega), List.mem_map.mpr ⟨q, (LOS_mem ds _ q).mpr ⟨by simpa using h1, fun z hz => h2 z (by simp [hz]), by omega, hq0⟩, ?_⟩⟩
        rw [Int.toNat_of_nonneg hx.1]
end Ev
namespace Ev
/-! ### one turn of a loop -/
def turnC (tg : Tg) (cond : Env → Res (Bool × Env)) (elt : Env → Res (R × Env)) (own : List Nat) (x : D) (e : Env) : Res (Option D × Env) :=
  (Res.of (assignT tg x e)).bind fun e1 => (cond e1).bind fun p => if p.1 then (elt p.2).bind fun q => (Res.of (asVal q.1 q.2)).bind fun z => .ok (some z.1, wipeE z.2 own) else .ok (none, wipeE p.2 own)
def addTo : Option D → List D → List D
  | some d, l => d :: l
  | none, l => l
theorem compL_cons {tg : Tg} {cond : Env → Res (Bool × Env)} {elt : Env → Res (R × Env)} {own : List Nat} {x : D} {xs : List D} {e : Env} :
    compL tg cond elt own (x :: xs) e = (turnC tg cond elt own x e).bind fun p => (compL tg cond elt own xs p.2).bind fun w => .ok (addTo p.1 w.1, w.2) := by
  unfold turnC
  conv => lhs; unfold compL
  cases assignT tg x e with
  | none => rfl
  | some e1 =>
    simp only [Res.of_some, Res.bind_ok]
    cases cond e1 with
    | bad => rfl
    | exc c d => rfl
    | ok p =>
      obtain ⟨b, e2⟩ := p
      cases b with
      | false =>
        simp only [Res.bind_ok, Bool.false_eq_true, if_false]
        cases compL tg cond elt own xs (wipeE e2 own) <;> rfl
      | true =>
        simp only [Res.bind_ok, if_true]
        cases elt e2 with
        | bad => rfl
        | exc c d => rfl
        | ok q =>
          simp only [Res.bind_ok]
          cases asVal q.1 q.2 with
          | none => rfl
          | some z => rfl
theorem compL_nil {tg : Tg} {cond : Env → Res (Bool × Env)} {elt : Env → Res (R × Env)} {own : List Nat} {e : Env} : compL tg cond elt own [] e = .ok ([], e) := rfl
section
variable {tg : Tg} {cond : Env → Res (Bool × Env)} {elt : Env → Res (R × Env)} {own : List Nat} {α : Type}
/-- a comprehension that keeps I of the slots -/
theorem compL_keep (enc : α → D) (f : α → D) (I : Env → Prop) : ∀ (xs : List α), (∀ x ∈ xs, ∀ e, I e → ∃ e', turnC tg cond elt own (enc x) e = .ok (some (f x), e') ∧ I e') → ∀ e, I e → ∃ e', compL tg cond elt own (xs.map enc) e = .ok (xs.map f, e') ∧ I e'
  | [], _, e, h => ⟨e, rfl, h⟩
  | x :: xs, hx, e, h => by
    obtain ⟨e1, h1, h2⟩ := hx x (List.mem_cons_self ..) e h
    obtain ⟨e2, h3, h4⟩ := compL_keep enc f I xs (fun y hy => hx y (List.mem_cons_of_mem _ hy)) e1 h2
    refine ⟨e2, ?_, h4⟩
    rw [List.map_cons, compL_cons, h1, Res.bind_ok, h3]
    rfl
/-- the slots stay as they are; some items are left out -/
theorem compL_some (enc : α → D) (f : α → Option D) {e0 : Env} : ∀ {xs : List α}, (∀ x ∈ xs, turnC tg cond elt own (enc x) e0 = .ok (f x, e0)) → compL tg cond elt own (xs.map enc) e0 = .ok (xs.filterMap f, e0)
  | [], _ => rfl
  | x :: xs, h => by
    rw [List.map_cons, compL_cons, h x (List.mem_cons_self ..), Res.bind_ok, compL_some enc f fun y hy => h y (List.mem_cons_of_mem _ hy)]
    simp only [Res.bind_ok, List.filterMap_cons]
    cases f x <;> rfl
/-- the slots stay as they are -/
theorem compL_all (enc : α → D) (f : α → D) {e0 : Env} : ∀ {xs : List α}, (∀ x ∈ xs, turnC tg cond elt own (enc x) e0 = .ok (some (f x), e0)) → compL tg cond elt own (xs.map enc) e0 = .ok (xs.map f, e0)
  | [], _ => rfl
  | x :: xs, h => by
    rw [List.map_cons, compL_cons, h x (List.mem_cons_self ..), Res.bind_ok, compL_all enc f fun y hy => h y (List.mem_cons_of_mem _ hy)]
    rfl
end
/-! ### one turn of a for -/
def turnF (tg : Tg) (body : Env → Res Fl) (x : D) (e : Env) : Res Fl := (Res.of (assignT tg x e)).bind body
def goOn (k : Env → Res Fl) : Fl → Res Fl
  | .nx e => k e
  | .ct e => k e
  | .brk e => .ok (.nx e)
  | .ret r e => .ok (.ret r e)
theorem forL_cons {tg : Tg} {body : Env → Res Fl} {x : D} {xs : List D} {e : Env} : forL tg body [] (x :: xs) e = (turnF tg body x e).bind (goOn fun e => forL tg body [] xs e) := by
  unfold turnF
  conv => lhs; unfold forL
  cases assignT tg x e with
  | none => rfl
  | some e1 =>
    simp only [Res.of_some, Res.bind_ok]
    cases body e1 with
    | bad => rfl
    | exc c d => rfl
    | ok f => cases f <;> rfl
/-- a for that goes through all items: the slots by a relation to a state -/
theorem forL_go {α β : Type} {tg : Tg} {body : Env → Res Fl} (enc : α → D) (I : β → Env → Prop) (f : β → α → β) : ∀ (xs : List α) (b : β) (e : Env), I b e →
    (∀ x ∈ xs, ∀ b e, I b e → ∃ e', (turnF tg body (enc x) e = .ok (.nx e') ∨ turnF tg body (enc x) e = .ok (.ct e')) ∧ I (f b x) e') → ∃ e', forL tg body [] (xs.map enc) e = .ok (.nx e') ∧ I (xs.foldl f b) e'
  | [], b, e, h, _ => ⟨e, rfl, h⟩
  | x :: xs, b, e, h, hx => by
    obtain ⟨e1, h1, h2⟩ := hx x (List.mem_cons_self ..) b e h
    obtain ⟨e2, h3, h4⟩ := forL_go enc I f xs (f b x) e1 h2 fun y hy => hx y (List.mem_cons_of_mem _ hy)
    refine ⟨e2, ?_, h4⟩
    rw [List.map_cons, forL_cons]
    rcases h1 with h1 | h1
    · rw [h1, Res.bind_ok]; exact h3
    · rw [h1, Res.bind_ok]; exact h3
/-- .. the invariant speaks of how many are done -/
theorem forL_nth {α : Type} {tg : Tg} {body : Env → Res Fl} (enc : α → D) (I : Nat → Env → Prop) : ∀ (xs : List α) (i : Nat) (e : Env), I i e →
    (∀ (j : Nat) (h : j < xs.length), ∀ e, I (i + j) e → ∃ e', (turnF tg body (enc xs[j]) e = .ok (.nx e') ∨ turnF tg body (enc xs[j]) e = .ok (.ct e')) ∧ I (i + j + 1) e') → ∃ e', forL tg body [] (xs.map enc) e = .ok (.nx e') ∧ I (i + xs.length) e'
  | [], i, e, h, _ => ⟨e, rfl, h⟩
  | x :: xs, i, e, h, hx => by
    obtain ⟨e1, h1, h2⟩ := hx 0 (by simp) e h
    obtain ⟨e2, h3, h4⟩ := forL_nth enc I xs (i + 1) e1 h2 fun j hj e he => by
      have := hx (j + 1) (by simp; omega) e (by rw [show i + (j + 1) = i + 1 + j by omega]; exact he)
      rw [show i + (j + 1) + 1 = i + 1 + j + 1 by omega] at this
      simpa using this
    refine ⟨e2, ?_, by rw [List.length_cons, show i + (xs.length + 1) = i + 1 + xs.length by omega]; exact h4⟩
    rw [List.map_cons, forL_cons]
    rcases h1 with h1 | h1
    · rw [show turnF tg body (enc x) e = _ from h1, Res.bind_ok]; exact h3
    · rw [show turnF tg body (enc x) e = _ from h1, Res.bind_ok]; exact h3
theorem as_tup {ts : List Tg} {ds : List D} {e : Env} : assignT (.tup ts) (.tup ds) e = assignTs ts ds e := by simp only [assignT]
theorem as_nil {e : Env} : assignTs [] [] e = some e := by simp only [assignTs]
theorem as_cons {t : Tg} {ts : List Tg} {d : D} {ds : List D} {e : Env} : assignTs (t :: ts) (d :: ds) e = (assignT t d e).bind fun e1 => assignTs ts ds e1 := by simp only [assignTs]
theorem turnC_def {tg : Tg} {cond : Env → Res (Bool × Env)} {elt : Env → Res (R × Env)} {own : List Nat} {x : D} {e : Env} : turnC tg cond elt own x e = (Res.of (assignT tg x e)).bind fun e1 => (cond e1).bind fun p => if p.1 then (elt p.2).bind fun q => (Res.of (asVal q.1 q.2)).bind fun z => .ok (some z.1, wipeE z.2 own) else .ok (none, wipeE p.2 own) := rfl
theorem turnF_def {tg : Tg} {body : Env → Res Fl} {x : D} {e : Env} : turnF tg body x e = (Res.of (assignT tg x e)).bind body := rfl
end Ev
namespace K16
open PySem PySem.Spec PyProof.Rows L2 Ev
def top (i : Nat) : Stmt := PySem.Challenge.pw_figuresproved_k16_whole_least_grids_suff.main.body.getD i (.Pass ⟨0, 0, 0, 0⟩)
/-- law -/
def b0 : Ss := (.cons (.for_ (.one 1) (.ran1 (.con (.int 3))) (.cons (.asg (.one 2) (.call 1 (.cons false (.sl 0) (.cons false (.sl 1) .nil)) .nil [])) (.cons (.for_ (.one 3) (.ran1 (.con (.int 3))) (.cons (.iff (.not (.call 2 (.cons false (.sl 2) .nil) .nil [])) (.cons (.ret (.con (.bl false))) .nil) .nil) .nil) []) .nil)) []) (.cons (.ret (.con (.bl true))) .nil))
def f0 : FD := ⟨"law", top 25, ["script", "index", "generator", "turn"], ["script"], ⟨1, 4, none, b0⟩⟩
/-- _law_generator -/
def b1 : Ss := (.cons (.asg (.one 2) (.call 3 (.cons false (.sl 0) (.cons false (.sl 1) .nil)) .nil [])) (.cons (.ret (.lst (.cons false (.op .mod (.bi .int (.cons false (.bi .max (.cons false (.op .sub (.sl 2) (.op .pow (.con (.int 10)) (.con (.int 18)))) (.cons false (.con (.int 0)) .nil))) .nil)) (.op .pow (.op .pow (.con (.int 10)) (.con (.int 60))) (.con (.int 10)))) (.cons false (.op .mod (.bi .int (.cons false (.sl 2) .nil)) (.con (.int 2147483647))) (.cons false (.op .mul (.con (.int 1000)) (.sl 1)) .nil))))) .nil))
def f1 : FD := ⟨"_law_generator", top 21, ["script", "index", "seed"], ["script", "index"], ⟨2, 3, none, b1⟩⟩
/-- _law_right -/
def b2 : Ss := (.cons (.par [8, 9] (.cons false (.comp (.call 4 (.cons false (.sl 0) (.cons false (.con (.int 4)) .nil)) .nil []) (.one 16) (.ran1 (.op .add (.con (.int 1)) (.call 4 (.cons false (.sl 0) (.cons false (.con (.int 3)) .nil)) .nil []))) none [16]) (.cons false (.call 4 (.cons false (.sl 0) (.cons false (.con (.int 6)) .nil)) .nil []) .nil))) (.cons (.asg (.one 1) (.call 5 (.cons false (.sl 8) (.cons false (.sl 9) .nil)) .nil [])) (.cons (.iff (.cmp .ne (.bi .len (.cons false (.sl 1) .nil)) (.call 6 (.cons false (.sl 8) (.cons false (.sl 9) .nil)) .nil [])) (.cons (.ret (.con (.bl false))) .nil) .nil) (.cons (.iff (.cmp .gt (.bi .len (.cons false (.sl 1) .nil)) (.con (.int 30))) (.cons (.ret (.con (.bl true))) .nil) .nil) (.cons (.asg (.one 2) (.comp (.comp (.call 7 (.cons false (.sl 12) (.cons false (.sl 7) .nil)) .nil []) (.one 12) (.seq (.sl 1)) none [12]) (.one 7) (.seq (.sl 1)) none [7])) (.cons (.iff (.not (.call 8 (.cons false (.sl 2) (.cons false (.con (.int 101)) .nil)) .nil [])) (.cons (.ret (.con (.bl false))) .nil) .nil) (.cons (.asg (.one 3) (.comp (.op .sub (.call 4 (.cons false (.sl 0) (.cons false (.con (.int 7)) .nil)) .nil []) (.con (.int 3))) (.one 12) (.seq (.sl 1)) none [12])) (.cons (.asg (.one 4) (.comp (.bi .sum (.cons false (.comp (.op .mul (.sl 17) (.sl 15)) (.tup [(.one 17), (.one 15)]) (.zip (.sl 3) (.sl 13) false) none [15, 17]) .nil)) (.one 13) (.seq (.sl 2)) none [13])) (.cons (.iff (.cmp .ne (.cmp .eq (.comp (.sl 15) (.one 15) (.seq (.sl 4)) (some (.cmp .ne (.sl 15) (.con (.int 0)))) [15]) (.lst .nil)) (.cmp .eq (.comp (.sl 15) (.one 15) (.seq (.sl 3)) (some (.cmp .ne (.sl 15) (.con (.int 0)))) [15]) (.lst .nil))) (.cons (.ret (.con (.bl false))) .nil) .nil) (.cons (.asg (.one 5) (.call 4 (.cons false (.sl 0) (.cons false (.bi .len (.cons false (.sl 8) .nil)) .nil)) .nil [])) (.cons (.asg (.one 6) (.op .add (.op .add (.sli (.sl 8) .none_ (.sl 5)) (.lst (.cons false (.op .add (.ix (.sl 8) (.sl 5)) (.con (.int 1))) .nil))) (.sli (.sl 8) (.op .add (.sl 5) (.con (.int 1))) .none_))) (.cons (.par [10, 11] (.cons false (.call 5 (.cons false (.sl 6) (.cons false (.sl 9) .nil)) .nil []) (.cons false (.call 5 (.cons false (.sl 8) (.cons false (.op .add (.sl 9) (.con (.int 1))) .nil)) .nil []) .nil))) (.cons (.iff (.cmp .ne (.comp (.sl 7) (.one 7) (.seq (.sl 1)) (some (.lg false (.cons false (.cmp .notin (.sl 7) (.sl 10)) (.cons false (.cmp .notin (.sl 7) (.sl 11)) .nil)))) [7]) (.lst .nil)) (.cons (.ret (.con (.bl false))) .nil) .nil) (.cons (.for_ (.one 7) (.seq (.sl 1)) (.cons (.for_ (.tup [(.one 14), (.one 15)]) (.enu (.sl 7)) (.cons (.iff (.lg true (.cons false (.cmp .gt (.sl 15) (.con (.int 0))) (.cons false (.cmp .notin (.op .add (.op .add (.sli (.sl 7) .none_ (.sl 14)) (.lst (.cons false (.op .sub (.sl 15) (.con (.int 1))) .nil))) (.sli (.sl 7) (.op .add (.sl 14) (.con (.int 1))) .none_)) (.sl 1)) .nil))) (.cons (.ret (.con (.bl false))) .nil) .nil) .nil) []) .nil) []) (.cons (.ret (.con (.bl true))) .nil)))))))))))))))
def f2 : FD := ⟨"_law_right", top 24, ["generator", "grid", "rows", "numbers", "values", "at", "more", "point", "degrees", "total", "wide", "deep", "powers", "row", "place", "one", "turn", "number"], ["generator"], ⟨1, 18, some 0, b2⟩⟩
/-- _law_cell -/
def b3 : Ss := (.cons (.iff (.cmp .lt (.sl 1) (.bi .len (.cons false (.sl 0) .nil))) (.cons (.ret (.ix (.sl 0) (.sl 1))) .nil) .nil) (.cons (.ret (.op .mod (.bi .sum (.cons false (.sli (.sl 0) .none_ (.con (.int 1))) .nil)) (.con (.int 1000003)))) .nil))
def f3 : FD := ⟨"_law_cell", top 20, ["script", "index"], ["script", "index"], ⟨2, 2, none, b3⟩⟩
/-- _law_random -/
def b4 : Ss := (.cons (.iff (.cmp .gt (.ix (.sl 0) (.con (.int 0))) (.con (.int 0))) (.cons (.asg (.one 2) (.op .mod (.bi .int (.cons false (.ix (.sl 0) (.con (.int 0))) .nil)) (.sl 1))) (.cons (.put 0 (.con (.int 0)) (.op .fdiv (.ix (.sl 0) (.con (.int 0))) (.sl 1))) (.cons (.ret (.sl 2)) .nil))) .nil) (.cons (.asg (.one 2) (.con (.int 0))) (.cons (.for_ (.one 3) (.ran1 (.op .add (.con (.int 1)) (.op .fdiv (.bi .bitlen (.cons false (.sl 1) .nil)) (.con (.int 30))))) (.cons (.put 0 (.con (.int 2)) (.op .add (.ix (.sl 0) (.con (.int 2))) (.con (.int 1)))) (.cons (.asg (.one 2) (.op .add (.op .mul (.sl 2) (.con (.int 2147483587))) (.call 9 (.cons false (.ix (.sl 0) (.con (.int 1))) (.cons false (.ix (.sl 0) (.con (.int 2))) .nil)) .nil []))) .nil)) []) (.cons (.ret (.op .mod (.bi .int (.cons false (.sl 2) .nil)) (.sl 1))) .nil))))
def f4 : FD := ⟨"_law_random", top 19, ["generator", "bound", "drawn", "turn"], ["generator", "bound"], ⟨2, 4, some 0, b4⟩⟩
/-- least_grid -/
def b5 : Ss := (.cons (.expr (.call 10 (.cons false (.sl 0) (.cons false (.sl 1) .nil)) .nil [])) (.cons (.iff (.cmp .gt (.call 11 (.cons false (.sl 0) (.cons false (.sl 1) .nil)) .nil []) (.gl 0)) (.cons .never .nil) .nil) (.cons (.ret (.call 12 (.cons false (.sl 0) (.cons false (.sl 1) .nil)) .nil [])) .nil)))
def f5 : FD := ⟨"least_grid", top 16, ["degrees", "total"], ["degrees", "total"], ⟨2, 2, none, b5⟩⟩
/-- grid_size -/
def b6 : Ss := (.cons (.expr (.call 10 (.cons false (.sl 0) (.cons false (.sl 1) .nil)) .nil [])) (.cons (.ret (.call 11 (.cons false (.sl 0) (.cons false (.sl 1) .nil)) .nil [])) .nil))
def f6 : FD := ⟨"grid_size", top 15, ["degrees", "total"], ["degrees", "total"], ⟨2, 2, none, b6⟩⟩
/-- _law_value -/
def b7 : Ss := (.cons (.asg (.one 2) (.con (.int 1))) (.cons (.for_ (.tup [(.one 3), (.one 4)]) (.zip (.sl 0) (.sl 1) false) (.cons (.for_ (.one 5) (.ran1 (.sl 3)) (.cons (.asg (.one 2) (.op .mul (.sl 2) (.sl 4))) .nil) []) .nil) []) (.cons (.ret (.sl 2)) .nil)))
def f7 : FD := ⟨"_law_value", top 22, ["powers", "point", "found", "power", "number", "turn"], ["powers", "point"], ⟨2, 6, none, b7⟩⟩
/-- _law_independent -/
def b8 : Ss := (.cons (.par [0, 3] (.cons false (.comp (.comp (.op .mod (.bi .int (.cons false (.sl 10) .nil)) (.sl 1)) (.one 10) (.seq (.sl 8)) none [10]) (.one 8) (.seq (.sl 0)) none [8]) (.cons false (.bi .len (.cons false (.sl 0) .nil)) .nil))) (.cons (.for_ (.one 2) (.ran1 (.sl 3)) (.cons (.asg (.one 4) (.comp (.sl 9) (.one 9) (.ran2 (.sl 2) (.sl 3)) (some (.cmp .ne (.ix (.ix (.sl 0) (.sl 9)) (.sl 2)) (.con (.int 0)))) [9])) (.cons (.iff (.cmp .eq (.sl 4) (.lst .nil)) (.cons (.ret (.con (.bl false))) .nil) .nil) (.cons (.par [6, 7] (.cons false (.ix (.sl 0) (.ix (.sl 4) (.con (.int 0)))) (.cons false (.ix (.sl 0) (.sl 2)) .nil))) (.cons (.put 0 (.ix (.sl 4) (.con (.int 0))) (.sl 7)) (.cons (.asg (.one 5) (.ix (.comp (.sl 11) (.one 11) (.ran2 (.con (.int 1)) (.sl 1)) (some (.cmp .eq (.op .mod (.bi .int (.cons false (.op .mul (.sl 11) (.ix (.sl 6) (.sl 2))) .nil)) (.sl 1)) (.con (.int 1)))) [11]) (.con (.int 0)))) (.cons (.asg (.one 6) (.comp (.op .mod (.bi .int (.cons false (.op .mul (.sl 10) (.sl 5)) .nil)) (.sl 1)) (.one 10) (.seq (.sl 6)) none [10])) (.cons (.asg (.one 0) (.comp (.ite (.cmp .gt (.sl 9) (.sl 2)) (.comp (.op .mod (.bi .int (.cons false (.op .sub (.sl 12) (.op .mul (.ix (.sl 8) (.sl 2)) (.sl 13))) .nil)) (.sl 1)) (.tup [(.one 12), (.one 13)]) (.zip (.sl 8) (.sl 6) false) none [12, 13]) (.sl 8)) (.tup [(.one 9), (.one 8)]) (.enu (.sl 0)) none [8, 9])) (.cons (.put 0 (.sl 2) (.sl 6)) .nil)))))))) []) (.cons (.ret (.con (.bl true))) .nil)))
def f8 : FD := ⟨"_law_independent", top 23, ["rows", "prime", "column", "size", "leads", "back", "lead", "other", "row", "at", "one", "number", "mine", "yours"], ["rows", "prime"], ⟨2, 14, none, b8⟩⟩
/-- _law_hash -/
def b9 : Ss := (.cons (.asg (.one 2) (.op .mod (.bi .int (.cons false (.op .add (.op .add (.op .mul (.sl 0) (.con (.int 48271))) (.op .mul (.sl 1) (.con (.int 69621)))) (.con (.int 11))) .nil)) (.con (.int 2147483647)))) (.cons (.asg (.one 2) (.op .mod (.bi .int (.cons false (.op .add (.op .add (.op .mul (.sl 2) (.sl 2)) (.op .mul (.con (.int 62089)) (.sl 1))) (.con (.int 131))) .nil)) (.con (.int 2147483629)))) (.cons (.ret (.op .mod (.bi .int (.cons false (.op .mul (.sl 2) (.op .add (.sl 2) (.con (.int 40692)))) .nil)) (.con (.int 2147483587)))) .nil)))
def f9 : FD := ⟨"_law_hash", top 18, ["seed", "index", "mixed"], ["seed", "index"], ⟨2, 3, none, b9⟩⟩
/-- check_degrees -/
def b10 : Ss := (.cons (.iff (.not (.call 13 (.cons false (.sl 0) .nil) .nil [])) (.cons .never .nil) .nil) (.cons (.iff (.lg false (.cons false (.not (.call 14 (.cons false (.sl 1) .nil) .nil [])) (.cons false (.cmp .gt (.sl 1) (.con (.int 9999))) .nil))) (.cons .never .nil) .nil) .nil))
def f10 : FD := ⟨"check_degrees", top 14, ["degrees", "total"], ["degrees", "total"], ⟨2, 2, none, b10⟩⟩
/-- how_many -/
def b11 : Ss := (.cons (.asg (.one 2) (.lst (.cons false (.con (.int 1)) .nil))) (.cons (.for_ (.one 3) (.seq (.sl 0)) (.cons (.par [5, 6] (.cons false (.lst .nil) (.cons false (.con (.int 0)) .nil))) (.cons (.for_ (.one 4) (.ran1 (.op .add (.bi .min (.cons false (.sl 1) (.cons false (.op .add (.op .sub (.bi .len (.cons false (.sl 2) .nil)) (.con (.int 1))) (.sl 3)) .nil))) (.con (.int 1)))) (.cons (.asg (.one 6) (.op .add (.sl 6) (.bi .sum (.cons false (.sli (.sl 2) (.sl 4) (.op .add (.sl 4) (.con (.int 1)))) .nil)))) (.cons (.asg (.one 6) (.op .sub (.sl 6) (.ite (.cmp .gt (.sl 4) (.sl 3)) (.bi .sum (.cons false (.sli (.sl 2) (.op .sub (.op .sub (.sl 4) (.sl 3)) (.con (.int 1))) (.op .sub (.sl 4) (.sl 3))) .nil)) (.con (.int 0))))) (.cons (.app 5 (.sl 6)) .nil))) []) (.cons (.asg (.one 2) (.sl 5)) .nil))) []) (.cons (.ret (.bi .sum (.cons false (.sl 2) .nil))) .nil)))
def f11 : FD := ⟨"how_many", top 11, ["degrees", "total", "counts", "degree", "place", "late", "inside"], ["degrees", "total"], ⟨2, 7, none, b11⟩⟩
/-- grid_by -/
def b12 : Ss := (.cons (.asg (.one 2) (.lst .nil)) (.cons (.for_ (.one 3) (.ran1 (.op .add (.bi .min (.cons false (.sl 1) (.cons false (.bi .sum (.cons false (.sl 0) .nil)) .nil))) (.con (.int 1)))) (.cons (.asg (.one 2) (.op .add (.sl 2) (.call 15 (.cons false (.sl 0) (.cons false (.sl 3) .nil)) .nil []))) .nil) []) (.cons (.ret (.sl 2)) .nil)))
def f12 : FD := ⟨"grid_by", top 12, ["degrees", "total", "found", "one"], ["degrees", "total"], ⟨2, 4, none, b12⟩⟩
/-- are_counts -/
def b13 : Ss := (.cons (.iff (.lg false (.cons false (.not (.isi .list (.sl 0))) (.cons false (.cmp .gt (.bi .len (.cons false (.sl 0) .nil)) (.con (.int 8))) .nil))) (.cons (.ret (.con (.bl false))) .nil) .nil) (.cons (.ret (.bi .all (.cons false (.comp (.lg true (.cons false (.call 14 (.cons false (.sl 1) .nil) .nil []) (.cons false (.cmp .le (.sl 1) (.con (.int 999))) .nil))) (.one 1) (.seq (.sl 0)) none [1]) .nil))) .nil))
def f13 : FD := ⟨"are_counts", top 13, ["value", "one"], ["value"], ⟨1, 2, none, b13⟩⟩
/-- is_count -/
def b14 : Ss := (.cons (.ret (.lg true (.cons false (.call 16 (.cons false (.sl 0) .nil) .nil []) (.cons false (.cmp .ge (.sl 0) (.con (.int 0))) .nil)))) .nil)
def f14 : FD := ⟨"is_count", top 7, ["value"], ["value"], ⟨1, 1, none, b14⟩⟩
/-- lists_of_sum -/
def b15 : Ss := (.cons (.iff (.cmp .eq (.sl 0) (.lst .nil)) (.cons (.ret (.ite (.cmp .eq (.sl 1) (.con (.int 0))) (.lst (.cons false (.lst .nil) .nil)) (.lst .nil))) .nil) .nil) (.cons (.asg (.one 2) (.lst .nil)) (.cons (.for_ (.one 3) (.ran1 (.op .add (.bi .min (.cons false (.ix (.sl 0) (.con (.int 0))) (.cons false (.sl 1) .nil))) (.con (.int 1)))) (.cons (.asg (.one 2) (.op .add (.sl 2) (.comp (.lst (.cons false (.sl 3) (.cons true (.sl 4) .nil))) (.one 4) (.seq (.call 15 (.cons false (.sli (.sl 0) (.con (.int 1)) .none_) (.cons false (.op .sub (.sl 1) (.sl 3)) .nil)) .nil [])) none [4]))) .nil) []) (.cons (.ret (.sl 2)) .nil))))
def f15 : FD := ⟨"lists_of_sum", top 10, ["degrees", "total", "found", "one", "rest"], ["degrees", "total"], ⟨2, 5, none, b15⟩⟩
/-- is_whole -/
def b16 : Ss := (.cons (.ret (.lg true (.cons false (.isi .int (.sl 0)) (.cons false (.not (.isi .bool (.sl 0))) .nil)))) .nil)
def f16 : FD := ⟨"is_whole", top 6, ["value"], ["value"], ⟨1, 1, none, b16⟩⟩
def L : List FD := [f0, f1, f2, f3, f4, f5, f6, f7, f8, f9, f10, f11, f12, f13, f14, f15, f16]
def cs : List (Str × D) := [("MOST_POINTS", (.int 20000))]
def T : Ev.Tab := tabOf L cs
theorem defs_ok : ∀ d ∈ L, FD.ok T d = true := List.all_eq_true.mp (by decide +kernel)
def fa : List He.Fa := (L.map fun d => .glo d.name) ++ (builtinNames.map .free) ++ [.int "MOST_POINTS" 20000]
def fn : List He.DefD := L.map FD.dd
abbrev R : PySem.W.OpenRow := PySem.W.OpenLaw.row PySem.Challenge.rw_figuresproved_k16_whole_least_grids_suff
abbrev hk : PySem.W.Hook := He.hookD 4 fa fn
def ob (s : PySem.W.SharedT) : He.AlD := He.obsDG 4 fa fn (HandSHeadRun.getT s)
theorem ob_eq (s : PySem.W.SharedT) : ob s = hk.obs s.abs := He.obsDG_eq (HandSHeadRun.getT_eq s)
def loose0 : List Str := ["FigureError", "InvalidNumber", "InvalidList", "TooMany", "is_whole", "is_count", "MOST_POINTS", "lists_of_sum", "how_many", "grid_by", "are_counts", "check_degrees", "grid_size", "least_grid", "_law_hash", "_law_random", "_law_cell", "_law_generator", "_law_value", "_law_independent", "_law_right"]
def loose : List Str := loose0
theorem run (w : World) : HandSHeadRun.RunEq R (PySem.W.view R.prog [25]) hk ob 4000 loose w := by
  intro os
  kernel_rfl
theorem cons {K : PySem.W.Frag} {h : Heap} {mg : Str → Option Value} (X : K.In h) (G : h.Ns mainGlobals mg) (c : He.SaysD fa fn K) : ∀ n d, T.gval n = some d → ∃ u v, mg (T.gname n) = some u ∧ RelV v u ∧ ∀ F, Rep K (rcOf K T fun _ => ⟨#[]⟩) F d v := by
  intro n d e
  by_cases h0 : n = 0
  · subst h0
    cases (Option.some.inj (show some (D.int 20000) = some d from e))
    obtain ⟨t, ht⟩ := He.int_ok X G (c.facts (f := .int "MOST_POINTS" 20000) (by unfold fa; simp))
    exact ⟨_, .int 20000, ht, ⟨t, rfl⟩, fun F => .int _⟩
  have z : cs[n]? = none := List.getElem?_eq_none (by show 1 ≤ n; omega)
  have e' : (cs[n]?).map (·.2) = some d := e
  rw [z] at e'
  cases e'
theorem facts (P : Program) (w : World) {K : PySem.W.Frag} {h : Heap} {mg : Str → Option Value} (X : K.In h) (G : h.Ns mainGlobals mg) (c : He.SaysD fa fn K) : ∃ fdt, Plain fdt f0.ps ∧ ∀ (k : Nat) (base : Heap), FnOk P w K mg base (L2.CX P w) (k + 1) (He.ga K f0.name) fdt f0.ps (spF K (rcOf K T fun _ => ⟨#[]⟩) (callF T (k + 1)) f0.fn.np 0 f0.fn.chg) :=
  prog_law (L := L) (cs := cs) rfl (fun d hd => ⟨He.glo_ok X G (c.facts (List.mem_append_left _ (List.mem_append_left _ (List.mem_map_of_mem hd)))), c.defs (List.mem_map_of_mem hd)⟩)
    (fun x hx => He.free_ok X G (c.facts (List.mem_append_left _ (List.mem_append_right _ (List.mem_map_of_mem hx))))) (cons X G c) defs_ok

end K16
namespace K16
open Ev
theorem cw0 {call : Call} {rs : List Ev.R} {e : Env} : callWith T.chg call 0 rs e = (match passVals none 0 rs e with
    | none => .bad
    | some (ds, e2) => (call 0 (ds.filterMap id)).bind fun p => .ok (p.1, if flatR p.1 then e else e2)) := cw_n rfl
theorem cw1 {call : Call} {rs : List Ev.R} {e : Env} : callWith T.chg call 1 rs e = (match passVals none 0 rs e with
    | none => .bad
    | some (ds, e2) => (call 1 (ds.filterMap id)).bind fun p => .ok (p.1, if flatR p.1 then e else e2)) := cw_n rfl
theorem cw2 {call : Call} {rs : List Ev.R} {e : Env} : callWith T.chg call 2 rs e = (match passVals (some 0) 0 rs e with
    | none => .bad
    | some (ds, e2) =>
        match (rs[0]?).bind fun r => passMut r e2 with
        | none => .bad
        | some (d, slot) => (call 2 (fillIn d ds)).bind fun p => Res.of ((back (if flatR p.1 && flatO p.2 then e else e2) slot p.2).map fun e3 => (p.1, e3))) := cw_s rfl
theorem cw3 {call : Call} {rs : List Ev.R} {e : Env} : callWith T.chg call 3 rs e = (match passVals none 0 rs e with
    | none => .bad
    | some (ds, e2) => (call 3 (ds.filterMap id)).bind fun p => .ok (p.1, if flatR p.1 then e else e2)) := cw_n rfl
theorem cw4 {call : Call} {rs : List Ev.R} {e : Env} : callWith T.chg call 4 rs e = (match passVals (some 0) 0 rs e with
    | none => .bad
    | some (ds, e2) =>
        match (rs[0]?).bind fun r => passMut r e2 with
        | none => .bad
        | some (d, slot) => (call 4 (fillIn d ds)).bind fun p => Res.of ((back (if flatR p.1 && flatO p.2 then e else e2) slot p.2).map fun e3 => (p.1, e3))) := cw_s rfl
theorem cw5 {call : Call} {rs : List Ev.R} {e : Env} : callWith T.chg call 5 rs e = (match passVals none 0 rs e with
    | none => .bad
    | some (ds, e2) => (call 5 (ds.filterMap id)).bind fun p => .ok (p.1, if flatR p.1 then e else e2)) := cw_n rfl
theorem cw6 {call : Call} {rs : List Ev.R} {e : Env} : callWith T.chg call 6 rs e = (match passVals none 0 rs e with
    | none => .bad
    | some (ds, e2) => (call 6 (ds.filterMap id)).bind fun p => .ok (p.1, if flatR p.1 then e else e2)) := cw_n rfl
theorem cw7 {call : Call} {rs : List Ev.R} {e : Env} : callWith T.chg call 7 rs e = (match passVals none 0 rs e with
    | none => .bad
    | some (ds, e2) => (call 7 (ds.filterMap id)).bind fun p => .ok (p.1, if flatR p.1 then e else e2)) := cw_n rfl
theorem cw8 {call : Call} {rs : List Ev.R} {e : Env} : callWith T.chg call 8 rs e = (match passVals none 0 rs e with
    | none => .bad
    | some (ds, e2) => (call 8 (ds.filterMap id)).bind fun p => .ok (p.1, if flatR p.1 then e else e2)) := cw_n rfl
theorem cw9 {call : Call} {rs : List Ev.R} {e : Env} : callWith T.chg call 9 rs e = (match passVals none 0 rs e with
    | none => .bad
    | some (ds, e2) => (call 9 (ds.filterMap id)).bind fun p => .ok (p.1, if flatR p.1 then e else e2)) := cw_n rfl
theorem cw10 {call : Call} {rs : List Ev.R} {e : Env} : callWith T.chg call 10 rs e = (match passVals none 0 rs e with
    | none => .bad
    | some (ds, e2) => (call 10 (ds.filterMap id)).bind fun p => .ok (p.1, if flatR p.1 then e else e2)) := cw_n rfl
theorem cw11 {call : Call} {rs : List Ev.R} {e : Env} : callWith T.chg call 11 rs e = (match passVals none 0 rs e with
    | none => .bad
    | some (ds, e2) => (call 11 (ds.filterMap id)).bind fun p => .ok (p.1, if flatR p.1 then e else e2)) := cw_n rfl
theorem cw12 {call : Call} {rs : List Ev.R} {e : Env} : callWith T.chg call 12 rs e = (match passVals none 0 rs e with
    | none => .bad
    | some (ds, e2) => (call 12 (ds.filterMap id)).bind fun p => .ok (p.1, if flatR p.1 then e else e2)) := cw_n rfl
theorem cw13 {call : Call} {rs : List Ev.R} {e : Env} : callWith T.chg call 13 rs e = (match passVals none 0 rs e with
    | none => .bad
    | some (ds, e2) => (call 13 (ds.filterMap id)).bind fun p => .ok (p.1, if flatR p.1 then e else e2)) := cw_n rfl
theorem cw14 {call : Call} {rs : List Ev.R} {e : Env} : callWith T.chg call 14 rs e = (match passVals none 0 rs e with
    | none => .bad
    | some (ds, e2) => (call 14 (ds.filterMap id)).bind fun p => .ok (p.1, if flatR p.1 then e else e2)) := cw_n rfl
theorem cw15 {call : Call} {rs : List Ev.R} {e : Env} : callWith T.chg call 15 rs e = (match passVals none 0 rs e with
    | none => .bad
    | some (ds, e2) => (call 15 (ds.filterMap id)).bind fun p => .ok (p.1, if flatR p.1 then e else e2)) := cw_n rfl
theorem cw16 {call : Call} {rs : List Ev.R} {e : Env} : callWith T.chg call 16 rs e = (match passVals none 0 rs e with
    | none => .bad
    | some (ds, e2) => (call 16 (ds.filterMap id)).bind fun p => .ok (p.1, if flatR p.1 then e else e2)) := cw_n rfl
local macro_rules | `(tactic| decreasing_trivial_pre_omega) => `(tactic| simp -implicitDefEqProofs -dsimp only [*, cw0, cw1, cw2, cw3, cw4, cw5, cw6, cw7, cw8, cw9, cw10, cw11, cw12, cw13, cw14, cw15, cw16, evalSs, evalS, evalE, evalB, evalRs, evalDs, evalIt, evalC, evP, peek_v, peek_t, peek_i, con_v, con_o, con_b, asVal_v, asVal_t, asVal_i, add_ii, sub_ii, add_ll, mod_if, lt_ii, le_ii, gt_ii, ge_ii, eq_ii, ne_ii, tru_b, ix_l, ix_s, sli_s, sli_l, sum_l, atI_n, len_l, len_s, int_i, max_ii, min_ii, bitlen_i, list_l, at_0, at_s, noExc_ok, Function.comp_def, flat_t, ite_self, isT_l, all_t, List.length_map, List.map_map, flat_i, flat_b, flat_n, flatO_n, mine_v, mine_o, mine_b, mine_n, free_v, free_o, free_n, put_o, put_b, back_n, back_s, hb_v, hb_t, left_n, left_i, hb_i, fin_r, fin_nx, pv_nil, pv_n, pv_s, pm_t, pm_i, fi_nil, fi_n, fi_s, permute_nil, atI_0, atI_1, atI_2, ixN_30, ixN_31, ixN_32, wipe_nil, wipe_cons, as_one, st_v, st_t, st_i, free_b, stores_nil, stores_cons, res_nil, res_v, res_t, res_i, tst_ok, sp_f, sp_l, isT, List.set_cons_zero, List.set_cons_succ, Ev.start, List.zipIdx_cons, List.zipIdx_nil, List.map_cons, List.map_nil, List.length_cons, List.length_nil, List.cons_append, List.nil_append, List.append_nil, Res.bind_ok, Res.bind_exc, Res.bind_bad, Res.of_some, Option.bind_some, Option.map_some, List.mapM_cons, List.mapM_nil, List.filterMap_cons, List.filterMap_nil, id, List.getElem?_cons_zero, List.getElem?_cons_succ, reduceIte, forL, LIM, range_1, Int.reduceToNat, Int.reduceNeg, Int.reduceDiv, Int.reduceMod, Int.ofNat_zero, Int.zero_add, Int.add_zero, Int.cast_ofNat_Int, Option.pure_def, Option.bind_eq_bind, Nat.zero_add, Nat.reduceAdd, Nat.reduceSub, Nat.reduceLeDiff, Nat.reduceLT, Nat.reduceEqDiff, Int.reduceLT, Int.reduceLE, Int.reduceAdd, Int.reduceMul, Int.reduceSub, Bool.true_and, Bool.and_true, Bool.false_and, Bool.and_false, Bool.and_self, decide_true, decide_false, Bool.false_eq_true, Bool.not_true, Bool.not_false, reduceCtorEq, Option.some.injEq, and_true, true_and, false_and, and_false, if_false, ↓reduceIte, and_self, or_true, true_or, List.replicate])
theorem whole_val (k : Nat) (i : Int) : callF T (k + 1) 16 [.int i] = .ok (.val (.bl true), none) := by
  rw [callF_succ (fd := f16.fn) rfl ⟨rfl, by decide⟩]
  simp only [f16, b16]
  decreasing_trivial_pre_omega
theorem hash_val (k : Nat) (s i : Int) (hs : 0 ≤ s ∧ s < 2147483647) (hi : 0 ≤ i ∧ i < 1000000) : ∃ h : Int, callF T (k + 1) 9 [.int s, .int i] = .ok (.val (.int h), none) ∧ 0 ≤ h ∧ h < 2147483587 := by
  rw [callF_succ (fd := f9.fn) rfl ⟨rfl, by decide⟩]
  simp only [f9, b9]
  have e1 := mul_ii (i := s) (j := 48271) (by omega) (by decide)
  have e2 := mul_ii (i := i) (j := 69621) (by omega) (by decide)
  obtain ⟨m, hm, h1, h2⟩ : ∃ m, (s * 48271 + i * 69621 + 11) % 2147483647 = m ∧ 0 ≤ m ∧ m < 2147483647 := ⟨_, rfl, by omega, by omega⟩
  have e3 := mul_ii (i := m) (j := m) (by omega) (by omega)
  have e4 := mul_ii (i := 62089) (j := i) (by decide) (by omega)
  obtain ⟨q, hq⟩ : ∃ q, m * m = q := ⟨_, rfl⟩
  obtain ⟨n, hn, h3, h4⟩ : ∃ n, (q + 62089 * i + 131) % 2147483629 = n ∧ 0 ≤ n ∧ n < 2147483629 := ⟨_, rfl, by omega, by omega⟩
  have e5 := mul_ii (i := n) (j := n + 40692) (by omega) (by omega)
  obtain ⟨r, hr⟩ : ∃ r, n * (n + 40692) = r := ⟨_, rfl⟩
  refine ⟨r % 2147483587, ?_, by omega, by omega⟩
  decreasing_trivial_pre_omega
def gD3 (a b c : Int) : D := .lst [.int a, .int b, .int c]
theorem bits7 {n : Int} (h : 1 ≤ n ∧ n ≤ 7) : ((PySem.Builtin.Int.intBits n : Nat) : Int) / 30 = 0 := by
  have : n = 1 ∨ n = 2 ∨ n = 3 ∨ n = 4 ∨ n = 5 ∨ n = 6 ∨ n = 7 := by omega
  rcases this with h | h | h | h | h | h | h <;> subst h <;> decide +kernel
theorem random_val (k : Nat) (a b c n : Int) (ha : 0 ≤ a) (hb : 0 ≤ b ∧ b < 2147483647) (hc : 0 ≤ c ∧ c < 999999) (hn : 1 ≤ n ∧ n ≤ 7) :
    ∃ d a' c', callF T (k + 2) 4 [gD3 a b c, .int n] = .ok (.val (.int d), some (gD3 a' b c')) ∧ 0 ≤ d ∧ d < n ∧ 0 ≤ a' ∧ c ≤ c' ∧ c' ≤ c + 1 := by
  rw [callF_succ (fd := f4.fn) rfl ⟨rfl, by decide⟩]
  have hn0 : 0 < n := by omega
  have hn2 : n.natAbs < 2 ^ 200 := by omega
  by_cases h : 0 < a
  · refine ⟨a % n, a / n, c, ?_, Int.emod_nonneg _ (by omega), Int.emod_lt_of_pos _ hn0, Int.ediv_nonneg ha (by omega), by omega, by omega⟩
    have e1 : bop .mod (.int a) (.int n) = some (.val (.int (a % n))) := mod_ii hn0
    have e2 : bop .fdiv (.int a) (.int n) = some (.val (.int (a / n))) := div_ii hn0 hn2
    simp only [f4, b4, gD3]
    decreasing_trivial_pre_omega
  · obtain ⟨hh, e3, h1, h2⟩ := hash_val k b (c + 1) hb (by omega)
    refine ⟨hh % n, a, c + 1, ?_, Int.emod_nonneg _ (by omega), Int.emod_lt_of_pos _ hn0, ha, by omega, by omega⟩
    have e1 : bop .mod (.int hh) (.int n) = some (.val (.int (hh % n))) := mod_ii hn0
    have e4 := bits7 hn
    have e5 : bop .fdiv (.int ((PySem.Builtin.Int.intBits n : Nat) : Int)) (.int 30) = some (.val (.int 0)) := by
      rw [← e4]
      exact div_ii (by decide) (by decide)
    have e6 : bop .mul (.int 0) (.int 2147483587) = some (.val (.int 0)) := by rw [mul_ii (by decide) (by decide), Int.zero_mul]
    simp only [f4, b4, gD3]
    decreasing_trivial_pre_omega
theorem cell_val (k : Nat) (ns : List Int) (i : Nat) : ∃ s : Int, callF T (k + 1) 3 [.scr ns, .int i] = .ok (.val (.int s), none) := by
  by_cases h : (i : Int) < ns.length
  · have hi : i < ns.length := by omega
    have e : ns[i]? = some ns[i] := List.getElem?_eq_getElem hi
    refine ⟨ns[i], ?_⟩
    rw [callF_succ (fd := f3.fn) rfl ⟨rfl, by decide⟩]
    simp only [f3, b3]
    decreasing_trivial_pre_omega
  · refine ⟨(cut ns none (some 1)).sum % 1000003, ?_⟩
    rw [callF_succ (fd := f3.fn) rfl ⟨rfl, by decide⟩]
    simp only [f3, b3]
    decreasing_trivial_pre_omega
theorem gen_val (k : Nat) (ns : List Int) (i : Nat) (hi : i < 100) : ∃ a b : Int, callF T (k + 2) 1 [.scr ns, .int i] = .ok (.tmp (gD3 a b (1000 * i)), none) ∧ 0 ≤ a ∧ 0 ≤ b ∧ b < 2147483647 := by
  obtain ⟨s, e0⟩ := cell_val k ns i
  obtain ⟨A, p1⟩ : ∃ A, bop .pow (.int 10) (.int 18) = some (.val (.int A)) := ⟨_, pow_ii (by decide +kernel)⟩
  obtain ⟨B, p2, hB⟩ : ∃ B : Int, bop .pow (.int 10) (.int 60) = some (.val (.int B)) ∧ B = 10 ^ (60 : Int).toNat := ⟨_, pow_ii (by decide +kernel), rfl⟩
  obtain ⟨M, p3, hM⟩ : ∃ M, bop .pow (.int B) (.int 10) = some (.val (.int M)) ∧ 0 < M := by
    subst hB
    exact ⟨_, pow_ii (by decide +kernel), Int.pow_pos (Int.pow_pos (by decide))⟩
  clear hB
  have e1 := mul_ii (i := 1000) (j := (i : Int)) (by decide) (by omega)
  refine ⟨(if 0 > s - A then 0 else s - A) % M, s % 2147483647, ?_, Int.emod_nonneg _ (by omega), by omega, by omega⟩
  rw [callF_succ (fd := f1.fn) rfl ⟨rfl, by decide⟩]
  simp only [f1, b1, gD3]
  decreasing_trivial_pre_omega
theorem set_no {rest : Env} {t : Nat} {s : Sl} (h : t < rest.length) (h2 : rest.at t = .no) : (rest.set t s).set t .no = rest := by
  rw [List.set_set]
  apply List.ext_getElem?
  intro j
  rw [List.getElem?_set]
  by_cases z : t = j
  · subst z
    rw [if_pos rfl, if_pos h, List.getElem?_eq_getElem h]
    congr 1
    unfold Env.at at h2
    rw [List.getD_eq_getElem?_getD, List.getElem?_eq_getElem h] at h2
    exact h2.symm
  · rw [if_neg z]
theorem draws_L {elt : Env → Res (Ev.R × Env)} {P : Int → Prop} {b : Int} (helt : ∀ (a c : Int) (rest : Env), 0 ≤ a → 0 ≤ c → c < 999999 → ∃ d a' c', elt (.byr (gD3 a b c) :: rest) = .ok (.val (.int d), .byr (gD3 a' b c') :: rest) ∧ P d ∧ 0 ≤ a' ∧ c ≤ c' ∧ c' ≤ c + 1)
    {cond : Env → Res (Bool × Env)} (hcond : ∀ e, cond e = .ok (true, e)) {t : Nat} {rest : Env} (ht : t < rest.length) (hr : rest.at t = .no) : ∀ (xs : List D) (a c : Int), 0 ≤ a → 0 ≤ c → c + xs.length < 999999 →
    ∃ (ds : List Int) (a' c' : Int), compL (.one (t + 1)) cond elt [t + 1] xs (.byr (gD3 a b c) :: rest) = .ok (ds.map .int, .byr (gD3 a' b c') :: rest) ∧ ds.length = xs.length ∧ (∀ d ∈ ds, P d) ∧ 0 ≤ a' ∧ c ≤ c' ∧ c' ≤ c + xs.length
  | [], a, c, ha, hc, hl => ⟨[], a, c, rfl, rfl, by simp, ha, Int.le_refl _, by simp⟩
  | x :: xs, a, c, ha, hc, hl => by
    have hl' : c + (xs.length : Int) + 1 < 999999 := by simp -dsimp only [List.length_cons] at hl; omega
    obtain ⟨d, a1, c1, h1, h2, h3, h4, h5⟩ := helt a c (rest.set t (.val x)) ha hc (by omega)
    obtain ⟨ds, a2, c2, k1, k2, k3, k4, k5, k6⟩ := draws_L helt hcond ht hr xs a1 c1 h3 (by omega) (by omega)
    have e1 : assignT (.one (t + 1)) x (.byr (gD3 a b c) :: rest) = some (.byr (gD3 a b c) :: rest.set t (.val x)) := by
      rw [as_one]
      have : Env.at (.byr (gD3 a b c) :: rest) (t + 1) = rest.at t := at_s
      rw [this, hr, if_pos (by simp -dsimp only [List.length_cons, free_n, Bool.and_true, decide_eq_true_eq]; omega)]
      rfl
    have e2 : wipeE (.byr (gD3 a1 b c1) :: rest.set t (.val x)) [t + 1] = .byr (gD3 a1 b c1) :: rest := by
      show Sl.byr (gD3 a1 b c1) :: (rest.set t (.val x)).set t .no = _
      rw [set_no ht hr]
    refine ⟨d :: ds, a2, c2, ?_, by simp [k2], ?_, k4, by omega, by simp -dsimp only [List.length_cons]; omega⟩
    · unfold compL
      simp -dsimp only [e1, hcond, h1, asVal_v, e2, k1, Res.of_some, Res.bind_ok, if_true, List.map_cons]
    · intro y hy
      rcases List.mem_cons.mp hy with z | z
      · subst z; exact h2
      · exact k3 y z
theorem count_val (k : Nat) (i : Int) (h : 0 ≤ i) : callF T (k + 2) 14 [.int i] = .ok (.val (.bl true), none) := by
  have e1 := whole_val k i
  rw [callF_succ (fd := f14.fn) rfl ⟨rfl, by decide⟩]
  simp only [f14, b14]
  decreasing_trivial_pre_omega
theorem counts_val (k : Nat) (ds : List Int) (h : ∀ d ∈ ds, 0 ≤ d ∧ d ≤ 999) (hl : ds.length ≤ 8) : callF T (k + 3) 13 [.lst (ds.map .int)] = .ok (.val (.bl true), none) := by
  have e1 : ¬ ((8 : Int) < (ds.length : Int)) := by omega
  have e2 : ds.length ≤ 16777216 := by omega
  rw [callF_succ (fd := f13.fn) rfl ⟨rfl, by decide⟩]
  simp only [f13, b13]
  decreasing_trivial_pre_omega
  rw [compL_map (f := fun _ => .bl true)]
  · decreasing_trivial_pre_omega
  · intro x hx
    obtain ⟨i, hi, rfl⟩ := List.mem_map.mp hx
    have e3 := count_val k i (h i hi).1
    have e4 := (h i hi).2
    refine ⟨[.val (.lst (ds.map .int)), .val (.int i)], [.val (.lst (ds.map .int)), .val (.int i)], .val (.bl true), [.val (.lst (ds.map .int)), .val (.int i)], [.val (.lst (ds.map .int)), .val (.int i)], ?_, ?_, ?_, ?_, ?_⟩
    all_goals clear h
    all_goals decreasing_trivial_pre_omega
theorem check_val (k : Nat) (ds : List Int) (t : Int) (h : ∀ d ∈ ds, 0 ≤ d ∧ d ≤ 999) (hl : ds.length ≤ 8) (ht : 0 ≤ t ∧ t ≤ 9999) : callF T (k + 4) 10 [.lst (ds.map .int), .int t] = .ok (.val .non, none) := by
  have e1 := counts_val k ds h hl
  have e2 := count_val (k + 1) t ht.1
  have e3 : ¬ ((9999 : Int) < t) := by omega
  rw [callF_succ (fd := f10.fn) rfl ⟨rfl, by decide⟩]
  simp only [f10, b10]
  clear h
  decreasing_trivial_pre_omega
theorem len_flat {α β : Type} {g : α → List β} {B : Nat} : ∀ (l : List α), (∀ x ∈ l, (g x).length ≤ B) → (l.flatMap g).length ≤ l.length * B
  | [], _ => by simp
  | x :: l, h => by
    have h1 := len_flat l fun y hy => h y (List.mem_cons_of_mem _ hy)
    have h2 := h x (List.mem_cons_self ..)
    simp -dsimp only [List.flatMap_cons, List.length_append, List.length_cons, Nat.add_mul, Nat.one_mul]
    omega
theorem LOS_le : ∀ (ds : List Int) (t : Int), (∀ d ∈ ds, 0 ≤ d ∧ d ≤ 4) → (LOS ds t).length ≤ 5 ^ ds.length
  | [], t, _ => by
    unfold LOS
    split <;> simp
  | d :: ds, t, h => by
    unfold LOS
    have hd := h d (List.mem_cons_self ..)
    refine Nat.le_trans (len_flat (B := 5 ^ ds.length) _ fun i hi => ?_) ?_
    · rw [List.length_map]
      exact LOS_le ds _ fun x hx => h x (List.mem_cons_of_mem _ hx)
    · rw [List.length_range, List.length_cons, Nat.pow_succ, Nat.mul_comm]
      exact Nat.mul_le_mul_left _ (by omega)
def lastS : Nat → Sl
  | 0 => .no
  | i + 1 => .val (.int ((i : Nat) : Int))
theorem lastS_free : ∀ i, (lastS i).free = true
  | 0 => rfl
  | _ + 1 => rfl
def consD (i : Int) : D → D
  | .lst xs => .lst (.int i :: xs)
  | d => d
theorem los_for {D0 D1 : D} {body : Env → Res Fl} {g : Nat → List (List Int)} {B n : Nat} (hg : ∀ i, i < n → (g i).length ≤ B)
    (hb : ∀ (i : Nat) (f : List (List Int)) , i < n → f.length ≤ i * B → body [.val D0, .val D1, .own (eM f), .val (.int ((i : Nat) : Int)), .no] = .ok (.nx [.val D0, .val D1, .own (eM (f ++ g i)), .val (.int ((i : Nat) : Int)), .no])) :
    forL (.one 3) body [] ((List.range n).map fun (i : Nat) => .int ((i : Nat) : Int)) [.val D0, .val D1, .own (.lst []), .no, .no] = .ok (.nx [.val D0, .val D1, .own (eM ((List.range n).flatMap g)), lastS n, .no]) := by
  have z := forL_inv (tg := .one 3) (body := body) (xs := (List.range n).map fun (i : Nat) => D.int ((i : Nat) : Int)) (fun i e => e = [.val D0, .val D1, .own (eM ((List.range i).flatMap g)), lastS i, .no]) (fun i x e hx he => by
    subst he
    rw [List.getElem?_map] at hx
    have hi : i < n := by
      rcases Nat.lt_or_ge i n with q | q
      · exact q
      · rw [List.getElem?_eq_none (by simpa using q)] at hx; cases hx
    rw [List.getElem?_range hi] at hx
    cases hx
    refine ⟨[.val D0, .val D1, .own (eM ((List.range i).flatMap g)), .val (.int ((i : Nat) : Int)), .no], ?_, .inl ⟨_, hb i _ hi ?_, ?_⟩⟩
    · rw [as_one, if_pos (by show (true && (lastS i).free) = true; rw [lastS_free]; rfl)]; rfl
    · have := len_flat (B := B) (g := g) (List.range i) fun x hx => hg x (by have := List.mem_range.mp hx; omega)
      rw [List.length_range] at this
      exact this
    · rw [List.range_succ, List.flatMap_append]
      simp [lastS]) n 0 [.val D0, .val D1, .own (.lst []), .no, .no] (by simp) rfl
  obtain ⟨e', h1, h2⟩ := z
  rw [List.drop_zero] at h1
  simp -dsimp only [List.length_map, List.length_range] at h2
  rw [h1, h2]
theorem los_val : ∀ (ds : List Int) (k : Nat) (t : Int), (∀ d ∈ ds, 0 ≤ d ∧ d ≤ 4) → ds.length ≤ 4 → 0 ≤ t → callF T (k + ds.length + 1) 15 [eI ds, .int t] = .ok (.tmp (eM (LOS ds t)), none)
  | [], k, t, h, hl, ht => by
    have e0 : cop .eq (.lst []) (.lst []) = some true := rfl
    have e1 : LOS [] t = if t = 0 then [[]] else [] := by unfold LOS; rfl
    rw [callF_succ (fd := f15.fn) rfl ⟨rfl, by decide⟩]
    simp only [f15, b15, eI, eM, List.map_nil]
    by_cases z : t = 0
    · subst z
      rw [if_pos rfl] at e1
      clear h
      decreasing_trivial_pre_omega
      rfl
    · rw [if_neg z] at e1
      clear h
      decreasing_trivial_pre_omega
  | d :: ds, k, t, h, hl, ht => by
    have hd := h d (List.mem_cons_self ..)
    have ih := fun (t' : Int) (h' : 0 ≤ t') => los_val ds k t' (fun x hx => h x (List.mem_cons_of_mem _ hx)) (by simp at hl; omega) h'
    have lb := fun (t' : Int) => LOS_le ds t' fun x hx => h x (List.mem_cons_of_mem _ hx)
    have e0 : cop .eq (.lst (.int d :: ds.map .int)) (.lst []) = some false := eq_nil (d :: ds)
    obtain ⟨M, hM⟩ : ∃ M, (if t < d then t else d) = M := ⟨_, rfl⟩
    have hM2 : min d t = M := by rw [← hM]; split <;> omega
    have c1 : M + 1 < 1000000000 := by omega
    have c2 : -1000000000 < M + 1 := by omega
    have c3 : (M + 1).toNat ≤ 16777216 := by omega
    have e1 : LOS (d :: ds) t = (List.range (M + 1).toNat).flatMap fun (i : Nat) => (LOS ds (t - (i : Int))).map fun q => (i : Int) :: q := by rw [← hM2]; rfl
    have hl2 : ds.length ≤ 3 := by simp at hl; omega
    have hp : 5 ^ ds.length ≤ 125 := by
      have : ds.length = 0 ∨ ds.length = 1 ∨ ds.length = 2 ∨ ds.length = 3 := by omega
      rcases this with h | h | h | h <;> rw [h] <;> decide
    rw [e1]
    show callF T ((k + ds.length + 1) + 1) 15 [eI (d :: ds), .int t] = _
    rw [callF_succ (fd := f15.fn) rfl ⟨rfl, by decide⟩]
    simp only [f15, b15, eI, List.map_cons]
    have e2 : cut (D.int d :: ds.map .int) (some 1) none = ds.map .int := cut_tail
    clear h
    obtain ⟨G, hG⟩ : ∃ G : Nat → List (List Int), (fun (i : Nat) => (LOS ds (t - (i : Int))).map fun q => (i : Int) :: q) = G := ⟨_, rfl⟩
    rw [hG]
    have hg : ∀ i, i < (M + 1).toNat → (G i).length ≤ 125 := fun i _ => by
      rw [← hG, List.length_map]
      exact Nat.le_trans (lb _) hp
    clear e1 lb hM2
    decreasing_trivial_pre_omega
    rw [los_for (g := G) (B := 125) hg ?_]
    · decreasing_trivial_pre_omega
    · intro i f hi hf
      have hMt : M ≤ t := by
        rw [← hM]
        split <;> omega
      have e3 : callF T (k + ds.length + 1) 15 [.lst (ds.map .int), .int (t - (i : Int))] = .ok (.tmp (.lst ((LOS ds (t - (i : Int))).map eI)), none) := ih (t - (i : Int)) (by omega)
      have e4 := LOS_len ds (t - (i : Int))
      have e6 : (LOS ds (t - (i : Int))).length ≤ 16777216 := by
        have := hg i hi
        rw [← hG, List.length_map] at this
        omega
      have e7 : f.length + (LOS ds (t - (i : Int))).length ≤ 16777216 := by
        have := hg i hi
        rw [← hG, List.length_map] at this
        omega
      rw [← hG]
      clear ih hg hG hi hf
      obtain ⟨L', hL'⟩ : ∃ L', LOS ds (t - (i : Int)) = L' := ⟨_, rfl⟩
      rw [hL'] at e3 e4 e6 e7
      simp -dsimp only [hL']
      clear hL'
      decreasing_trivial_pre_omega
      rw [compL_map (f := consD (i : Int))]
      · have e9 : (L'.map eI).map (consD (i : Int)) = (L'.map fun q => (i : Int) :: q).map eI := by
          rw [List.map_map, List.map_map]; rfl
        rw [e9]
        obtain ⟨N, hN⟩ : ∃ N, (L'.map fun q => (i : Int) :: q) = N := ⟨_, rfl⟩
        have hNl : N.length = L'.length := by rw [← hN, List.length_map]
        rw [hN]
        have e8 : bop .add (.lst (f.map eI)) (.lst (N.map eI)) = some (.tmp (.lst ((f ++ N).map eI))) := by
          rw [add_ll (by rw [List.length_map, List.length_map, hNl]; exact e7), List.map_append]
        clear e9 hN
        simp -dsimp only [eM]
        decreasing_trivial_pre_omega
      · intro x hx
        obtain ⟨q, hq, rfl⟩ := List.mem_map.mp hx
        have h4 := e4 q hq
        have h5 : q.length + 1 ≤ 16777216 := by omega
        have h6 : 0 + 1 + q.length ≤ 16777216 := by omega
        clear e4 hx hq
        refine ⟨[.val (.lst (.int d :: ds.map .int)), .val (.int t), .own (eM f), .val (.int (i : Int)), .val (eI q)], [.val (.lst (.int d :: ds.map .int)), .val (.int t), .own (eM f), .val (.int (i : Int)), .val (eI q)], .tmp (.lst (.int (i : Int) :: q.map .int)), [.val (.lst (.int d :: ds.map .int)), .val (.int t), .own (eM f), .val (.int (i : Int)), .val (eI q)], [.val (.lst (.int d :: ds.map .int)), .val (.int t), .own (eM f), .val (.int (i : Int)), .val (eI q)], ?_, ?_, ?_, ?_, ?_⟩
        · decreasing_trivial_pre_omega
        · rfl
        · simp -dsimp only [eI]
          decreasing_trivial_pre_omega
          rw [if_pos (by omega)]
        · rfl
        · rfl
theorem grid_for {D0 D1 : D} {body : Env → Res Fl} {g : Nat → List (List Int)} {B n : Nat} (hg : ∀ i, i < n → (g i).length ≤ B)
    (hb : ∀ (i : Nat) (f : List (List Int)) , i < n → f.length ≤ i * B → body [.val D0, .val D1, .own (eM f), .val (.int ((i : Nat) : Int))] = .ok (.nx [.val D0, .val D1, .own (eM (f ++ g i)), .val (.int ((i : Nat) : Int))])) :
    forL (.one 3) body [] ((List.range n).map fun (i : Nat) => .int ((i : Nat) : Int)) [.val D0, .val D1, .own (.lst []), .no] = .ok (.nx [.val D0, .val D1, .own (eM ((List.range n).flatMap g)), lastS n]) := by
  have z := forL_inv (tg := .one 3) (body := body) (xs := (List.range n).map fun (i : Nat) => D.int ((i : Nat) : Int)) (fun i e => e = [.val D0, .val D1, .own (eM ((List.range i).flatMap g)), lastS i]) (fun i x e hx he => by
    subst he
    rw [List.getElem?_map] at hx
    have hi : i < n := by
      rcases Nat.lt_or_ge i n with q | q
      · exact q
      · rw [List.getElem?_eq_none (by simpa using q)] at hx; cases hx
    rw [List.getElem?_range hi] at hx
    cases hx
    refine ⟨[.val D0, .val D1, .own (eM ((List.range i).flatMap g)), .val (.int ((i : Nat) : Int))], ?_, .inl ⟨_, hb i _ hi ?_, ?_⟩⟩
    · rw [as_one, if_pos (by show (true && (lastS i).free) = true; rw [lastS_free]; rfl)]; rfl
    · have := len_flat (B := B) (g := g) (List.range i) fun x hx => hg x (by have := List.mem_range.mp hx; omega)
      rw [List.length_range] at this
      exact this
    · rw [List.range_succ, List.flatMap_append]
      simp [lastS]) n 0 [.val D0, .val D1, .own (.lst []), .no] (by simp) rfl
  obtain ⟨e', h1, h2⟩ := z
  rw [List.drop_zero] at h1
  simp -dsimp only [List.length_map, List.length_range] at h2
  rw [h1, h2]
def GRID (ds : List Int) (t : Int) : List (List Int) := (List.range (min t ds.sum + 1).toNat).flatMap fun (i : Nat) => LOS ds i
theorem grid_val (ds : List Int) (k : Nat) (t : Int) (h : ∀ d ∈ ds, 0 ≤ d ∧ d ≤ 4) (hl : ds.length ≤ 4) (ht : 0 ≤ t ∧ t ≤ 100) : callF T (k + ds.length + 2) 12 [eI ds, .int t] = .ok (.tmp (eM (GRID ds t)), none) := by
  have ih := fun (i : Nat) => los_val ds k (i : Int) h hl (by omega)
  have lb := fun (t' : Int) => LOS_le ds t' h
  have hs : 0 ≤ ds.sum := by
    clear hl ih lb
    induction ds with
    | nil => simp
    | cons y q ih =>
      have := ih fun z hz => h z (List.mem_cons_of_mem _ hz)
      have := (h y (List.mem_cons_self ..)).1
      simp; omega
  have hp : 5 ^ ds.length ≤ 625 := by
    have : ds.length = 0 ∨ ds.length = 1 ∨ ds.length = 2 ∨ ds.length = 3 ∨ ds.length = 4 := by omega
    rcases this with h | h | h | h | h <;> rw [h] <;> decide
  obtain ⟨M, hM⟩ : ∃ M, (if ds.sum < t then ds.sum else t) = M := ⟨_, rfl⟩
  have hM2 : min t ds.sum = M := by rw [← hM]; split <;> omega
  have hM3 : 0 ≤ M ∧ M ≤ 100 := by omega
  have c1 : M + 1 < 1000000000 := by omega
  have c2 : -1000000000 < M + 1 := by omega
  have c3 : (M + 1).toNat ≤ 16777216 := by omega
  obtain ⟨G, hG⟩ : ∃ G : Nat → List (List Int), (fun (i : Nat) => LOS ds (i : Int)) = G := ⟨_, rfl⟩
  have e1 : GRID ds t = (List.range (M + 1).toNat).flatMap G := by rw [← hM2, ← hG]; rfl
  have hg : ∀ i, i < (M + 1).toNat → (G i).length ≤ 625 := fun i _ => by
    rw [← hG]
    exact Nat.le_trans (lb _) hp
  rw [e1]
  show callF T ((k + ds.length + 1) + 1) 12 [eI ds, .int t] = _
  rw [callF_succ (fd := f12.fn) rfl ⟨rfl, by decide⟩]
  simp only [f12, b12, eI]
  clear e1 lb hM2 h
  decreasing_trivial_pre_omega
  rw [grid_for (g := G) (B := 625) hg ?_]
  · decreasing_trivial_pre_omega
  · intro i f hi hf
    have e3 : callF T (k + ds.length + 1) 15 [.lst (ds.map .int), .int (i : Int)] = .ok (.tmp (.lst ((G i).map eI)), none) := by
      rw [← hG]; exact ih i
    have e8 : bop .add (.lst (f.map eI)) (.lst ((G i).map eI)) = some (.tmp (.lst ((f ++ G i).map eI))) := by
      rw [add_ll (by
        have := hg i hi
        rw [List.length_map, List.length_map]
        show _ ≤ 16777216
        omega), List.map_append]
    clear ih hg hG hi hf
    simp -dsimp only [eM]
    decreasing_trivial_pre_omega
def lastP (P : Sl) : Nat → Sl
  | 0 => P
  | i + 1 => .val (.int (i : Int))
theorem lastP_free {P : Sl} (h : P.free = true) : ∀ i, (lastP P i).free = true
  | 0 => h
  | _ + 1 => rfl
/-- the inner turns of how_many: what is added at a place -/
def hmAt (cs : List Int) (d : Int) (p : Nat) : Int := (cut cs (some (p : Int)) (some ((p : Int) + 1))).sum - (if d < (p : Int) then (cut cs (some ((p : Int) - d - 1)) (some ((p : Int) - d))).sum else 0)
def hmSum (cs : List Int) (d : Int) (n : Nat) : Int := ((List.range n).map (hmAt cs d)).sum
def hmLate (cs : List Int) (d : Int) (n : Nat) : List Int := (List.range n).map fun p => hmSum cs d (p + 1)
theorem hmSum_succ (cs : List Int) (d : Int) (n : Nat) : hmSum cs d (n + 1) = hmSum cs d n + hmAt cs d n := by
  unfold hmSum
  rw [List.range_succ, List.map_append, List.sum_append]
  simp
theorem hmLate_succ (cs : List Int) (d : Int) (n : Nat) : hmLate cs d (n + 1) = hmLate cs d n ++ [hmSum cs d (n + 1)] := by
  unfold hmLate
  rw [List.range_succ, List.map_append]
  simp
theorem hm_for {D0 D1 : D} {S2 P : Sl} {d : Int} {cs : List Int} {body : Env → Res Fl} {n : Nat} (hP : P.free = true)
    (hb : ∀ (i : Nat), i < n → body [.val D0, .val D1, S2, .val (.int d), .val (.int (i : Int)), .own (eI (hmLate cs d i)), .val (.int (hmSum cs d i))] = .ok (.nx [.val D0, .val D1, S2, .val (.int d), .val (.int (i : Int)), .own (eI (hmLate cs d (i + 1))), .val (.int (hmSum cs d (i + 1)))])) :
    forL (.one 4) body [] ((List.range n).map fun (i : Nat) => .int (i : Int)) [.val D0, .val D1, S2, .val (.int d), P, .own (.lst []), .val (.int 0)] = .ok (.nx [.val D0, .val D1, S2, .val (.int d), lastP P n, .own (eI (hmLate cs d n)), .val (.int (hmSum cs d n))]) := by
  have z := forL_inv (tg := .one 4) (body := body) (xs := (List.range n).map fun (i : Nat) => D.int (i : Int)) (fun i e => e = [.val D0, .val D1, S2, .val (.int d), lastP P i, .own (eI (hmLate cs d i)), .val (.int (hmSum cs d i))]) (fun i x e hx he => by
    subst he
    rw [List.getElem?_map] at hx
    have hi : i < n := by
      rcases Nat.lt_or_ge i n with q | q
      · exact q
      · rw [List.getElem?_eq_none (by simpa using q)] at hx; cases hx
    rw [List.getElem?_range hi] at hx
    cases hx
    refine ⟨[.val D0, .val D1, S2, .val (.int d), .val (.int (i : Int)), .own (eI (hmLate cs d i)), .val (.int (hmSum cs d i))], ?_, .inl ⟨_, hb i hi, rfl⟩⟩
    rw [as_one, if_pos (by show (true && (lastP P i).free) = true; rw [lastP_free hP]; rfl)]; rfl) n 0 [.val D0, .val D1, S2, .val (.int d), P, .own (.lst []), .val (.int 0)] (by simp) rfl
  obtain ⟨e', h1, h2⟩ := z
  rw [List.drop_zero] at h1
  simp -dsimp only [List.length_map, List.length_range] at h2
  rw [h1, h2]
def hmN (cs : List Int) (d t : Int) : Nat := ((if (cs.length : Int) - 1 + d < t then (cs.length : Int) - 1 + d else t) + 1).toNat
def HMl : List Int → List Int → Int → List Int
  | [], cs, _ => cs
  | d :: ds, cs, t => HMl ds (hmLate cs d (hmN cs d t)) t
theorem hmLate_len (cs : List Int) (d : Int) (n : Nat) : (hmLate cs d n).length = n := by simp [hmLate]
theorem cut_map {α β : Type} {f : α → β} {xs : List α} (a b : Option Int) : cut (xs.map f) a b = (cut xs a b).map f := by
  unfold cut
  rw [List.length_map, List.map_take, List.map_drop]
theorem hm_out {D0 : D} {t : Int} {body : Env → Res Fl} (ht : 0 ≤ t ∧ t ≤ 100)
    (hb : ∀ (d : Int) (cs : List Int) (S2 S4 S5 S6 : Sl), 0 ≤ d → d ≤ 4 → 1 ≤ cs.length → cs.length ≤ 200 → (S2 = .own (eI cs) ∨ S2 = .val (eI cs)) → S4.free = true → S5.free = true → S6.free = true →
      ∃ S4' S5' S6', body [.val D0, .val (.int t), S2, .val (.int d), S4, S5, S6] = .ok (.nx [.val D0, .val (.int t), .val (eI (hmLate cs d (hmN cs d t))), .val (.int d), S4', S5', S6']) ∧ S4'.free = true ∧ S5'.free = true ∧ S6'.free = true) :
    ∀ (ds cs : List Int) (S2 S3 S4 S5 S6 : Sl), (∀ d ∈ ds, 0 ≤ d ∧ d ≤ 4) → 1 ≤ cs.length → cs.length ≤ 200 → (S2 = .own (eI cs) ∨ S2 = .val (eI cs)) → S3.free = true → S4.free = true → S5.free = true → S6.free = true →
      ∃ S2' S3' S4' S5' S6', forL (.one 3) body [] (ds.map .int) [.val D0, .val (.int t), S2, S3, S4, S5, S6] = .ok (.nx [.val D0, .val (.int t), S2', S3', S4', S5', S6']) ∧ (S2' = .own (eI (HMl ds cs t)) ∨ S2' = .val (eI (HMl ds cs t)))
  | [], cs, S2, S3, S4, S5, S6, _, _, _, h2, _, _, _, _ => ⟨S2, S3, S4, S5, S6, rfl, h2⟩
  | d :: ds, cs, S2, S3, S4, S5, S6, hd, hc, hc2, h2, h3, h4, h5, h6 => by
    have hd0 := hd d (List.mem_cons_self ..)
    obtain ⟨S4', S5', S6', e1, k4, k5, k6⟩ := hb d cs S2 S4 S5 S6 hd0.1 hd0.2 hc hc2 h2 h4 h5 h6
    have n1 : 1 ≤ hmN cs d t ∧ hmN cs d t ≤ 101 := by
      unfold hmN
      split <;> omega
    obtain ⟨a, b, c, e, f, e2, e3⟩ := hm_out ht hb ds (hmLate cs d (hmN cs d t)) (.val (eI (hmLate cs d (hmN cs d t)))) (.val (.int d)) S4' S5' S6' (fun x hx => hd x (List.mem_cons_of_mem _ hx)) (by rw [hmLate_len]; omega) (by rw [hmLate_len]; omega) (.inr rfl) rfl k4 k5 k6
    refine ⟨a, b, c, e, f, ?_, e3⟩
    rw [List.map_cons]
    unfold forL
    have as : assignT (.one 3) (.int d) [.val D0, .val (.int t), S2, S3, S4, S5, S6] = some [.val D0, .val (.int t), S2, .val (.int d), S4, S5, S6] := by
      rw [as_one, if_pos (by show (true && S3.free) = true; rw [h3]; rfl)]; rfl
    simp -dsimp only [as, e1, Res.of_some, Res.bind_ok, wipe_nil]
    exact e2
theorem howmany_val (ds : List Int) (k : Nat) (t : Int) (h : ∀ d ∈ ds, 0 ≤ d ∧ d ≤ 4) (ht : 0 ≤ t ∧ t ≤ 100) : callF T (k + 1) 11 [eI ds, .int t] = .ok (.val (.int (HMl ds [1] t).sum), none) := by
  rw [callF_succ (fd := f11.fn) rfl ⟨rfl, by decide⟩]
  simp only [f11, b11, eI]
  have go := fun body hb => hm_out (D0 := .lst (ds.map .int)) (body := body) ht hb ds [1] (.own (.lst [.int 1])) .no .no .no .no h (by decide) (by decide) (.inl rfl) rfl rfl rfl rfl
  have pre : ∀ (X : Res Fl), (evalSs T.chg T.gval (callF T k) b11 [.val (.lst (ds.map .int)), .val (.int t), .no, .no, .no, .no, .no]) = X → True := fun _ _ => trivial
  clear h pre
  revert go
  decreasing_trivial_pre_omega
  intro go
  refine Exists.elim (go ?body ?hb) ?k
  case k =>
    rintro S2' ⟨S3', S4', S5', S6', e2, e3⟩
    refine (bind_head (bind_head e2)).trans ?_
    clear go e2
    rcases e3 with e3 | e3 <;> subst e3 <;> simp -dsimp only [eI] <;> decreasing_trivial_pre_omega
  case hb =>
    clear go
    intro d cs S2 S4 S5 S6 hd0 hd4 hc hc2 h2 h4 h5 h6
    obtain ⟨M, hM⟩ : ∃ M, (if (cs.length : Int) - 1 + d < t then (cs.length : Int) - 1 + d else t) = M := ⟨_, rfl⟩
    have hM2 : hmN cs d t = (M + 1).toNat := by unfold hmN; rw [hM]
    have hM3 : 0 ≤ M ∧ M ≤ 100 := by rw [← hM]; split <;> omega
    have c1 : M + 1 < 1000000000 := by omega
    have c2 : -1000000000 < M + 1 := by omega
    have c3 : (M + 1).toNat ≤ 16777216 := by omega
    rw [hM2]
    refine ⟨lastP S4 (M + 1).toNat, .val (eI (hmLate cs d (M + 1).toNat)), .val (.int (hmSum cs d (M + 1).toNat)), ?_, lastP_free h4 _, rfl, rfl⟩
    have inner : ∀ (S2 : Sl), (S2 = .own (eI cs) ∨ S2 = .val (eI cs)) → ∀ {body : Env → Res Fl}, (∀ (i : Nat), i < (M + 1).toNat → body [.val (.lst (ds.map .int)), .val (.int t), S2, .val (.int d), .val (.int (i : Int)), .own (eI (hmLate cs d i)), .val (.int (hmSum cs d i))] = .ok (.nx [.val (.lst (ds.map .int)), .val (.int t), S2, .val (.int d), .val (.int (i : Int)), .own (eI (hmLate cs d (i + 1))), .val (.int (hmSum cs d (i + 1)))])) → True := fun _ _ _ _ => trivial
    clear inner
    rcases h2 with h2 | h2 <;> subst h2 <;> simp -dsimp only [eI]
    · decreasing_trivial_pre_omega
      rw [hm_for (cs := cs) (P := S4) h4 ?_]
      · simp -dsimp only [eI]
        decreasing_trivial_pre_omega
      · intro i hi
        have e9 : ∀ a b : Option Int, cut (cs.map D.int) a b = (cut cs a b).map D.int := fun a b => cut_map a b
        have e11 : (hmLate cs d i).length < 16777216 := by rw [hmLate_len]; omega
        obtain ⟨A, hA⟩ : ∃ A, (cut cs (some (i : Int)) (some ((i : Int) + 1))).sum = A := ⟨_, rfl⟩
        obtain ⟨S, hS⟩ : ∃ S, hmSum cs d i = S := ⟨_, rfl⟩
        obtain ⟨L, hL⟩ : ∃ L, hmLate cs d i = L := ⟨_, rfl⟩
        by_cases hdi : d < (i : Int)
        · obtain ⟨B, hB⟩ : ∃ B, (cut cs (some ((i : Int) - d - 1)) (some ((i : Int) - d))).sum = B := ⟨_, rfl⟩
          have e10 : hmSum cs d (i + 1) = S + A - B := by
            rw [hmSum_succ, hS]
            unfold hmAt
            rw [if_pos hdi, hA, hB]
            omega
          rw [hmLate_succ, e10, hS, hL]
          rw [hL] at e11
          clear e10 hL hS h4 h5 h6 c1 c2 c3 hM hM2 hM3
          simp -dsimp only [eI, List.map_append]
          decreasing_trivial_pre_omega
        · have e10 : hmSum cs d (i + 1) = S + A - 0 := by
            rw [hmSum_succ, hS]
            unfold hmAt
            rw [if_neg hdi, hA]
            omega
          rw [hmLate_succ, e10, hS, hL]
          rw [hL] at e11
          clear e10 hL hS h4 h5 h6 c1 c2 c3 hM hM2 hM3
          simp -dsimp only [eI, List.map_append]
          decreasing_trivial_pre_omega
    · decreasing_trivial_pre_omega
      rw [hm_for (cs := cs) (P := S4) h4 ?_]
      · simp -dsimp only [eI]
        decreasing_trivial_pre_omega
      · intro i hi
        have e9 : ∀ a b : Option Int, cut (cs.map D.int) a b = (cut cs a b).map D.int := fun a b => cut_map a b
        have e11 : (hmLate cs d i).length < 16777216 := by rw [hmLate_len]; omega
        obtain ⟨A, hA⟩ : ∃ A, (cut cs (some (i : Int)) (some ((i : Int) + 1))).sum = A := ⟨_, rfl⟩
        obtain ⟨S, hS⟩ : ∃ S, hmSum cs d i = S := ⟨_, rfl⟩
        obtain ⟨L, hL⟩ : ∃ L, hmLate cs d i = L := ⟨_, rfl⟩
        by_cases hdi : d < (i : Int)
        · obtain ⟨B, hB⟩ : ∃ B, (cut cs (some ((i : Int) - d - 1)) (some ((i : Int) - d))).sum = B := ⟨_, rfl⟩
          have e10 : hmSum cs d (i + 1) = S + A - B := by
            rw [hmSum_succ, hS]
            unfold hmAt
            rw [if_pos hdi, hA, hB]
            omega
          rw [hmLate_succ, e10, hS, hL]
          rw [hL] at e11
          clear e10 hL hS h4 h5 h6 c1 c2 c3 hM hM2 hM3
          simp -dsimp only [eI, List.map_append]
          decreasing_trivial_pre_omega
        · have e10 : hmSum cs d (i + 1) = S + A - 0 := by
            rw [hmSum_succ, hS]
            unfold hmAt
            rw [if_neg hdi, hA]
            omega
          rw [hmLate_succ, e10, hS, hL]
          rw [hL] at e11
          clear e10 hL hS h4 h5 h6 c1 c2 c3 hM hM2 hM3
          simp -dsimp only [eI, List.map_append]
          decreasing_trivial_pre_omega
theorem size_val (ds : List Int) (k : Nat) (t : Int) (h : ∀ d ∈ ds, 0 ≤ d ∧ d ≤ 4) (hl : ds.length ≤ 4) (ht : 0 ≤ t ∧ t ≤ 100) : callF T (k + 5) 6 [eI ds, .int t] = .ok (.val (.int (HMl ds [1] t).sum), none) := by
  have e1 := check_val k ds t (fun d hd => by have := h d hd; omega) (by omega) (by omega)
  have e2 := howmany_val ds (k + 3) t h ht
  clear h
  rw [callF_succ (fd := f6.fn) rfl ⟨rfl, by decide⟩]
  simp only [f6, b6, eI]
  simp -dsimp only [eI] at e2
  decreasing_trivial_pre_omega
theorem least_val (ds : List Int) (k : Nat) (t : Int) (h : ∀ d ∈ ds, 0 ≤ d ∧ d ≤ 4) (hl : ds.length ≤ 4) (ht : 0 ≤ t ∧ t ≤ 100) (hm : (HMl ds [1] t).sum ≤ 20000) : callF T (k + 10) 5 [eI ds, .int t] = .ok (.tmp (eM (GRID ds t)), none) := by
  have e1 := check_val (k + 5) ds t (fun d hd => by have := h d hd; omega) (by omega) (by omega)
  have e2 := howmany_val ds (k + 8) t h ht
  have e3 : callF T (k + 9) 12 [eI ds, .int t] = .ok (.tmp (eM (GRID ds t)), none) := by
    obtain ⟨j, hj⟩ : ∃ j, k + 9 = j + ds.length + 2 := ⟨k + 7 - ds.length, by omega⟩
    rw [hj]
    exact grid_val ds j t h hl ht
  have e4 : T.gval 0 = some (.int 20000) := rfl
  have e5 : ¬ (20000 < (HMl ds [1] t).sum) := by omega
  clear h
  rw [callF_succ (fd := f5.fn) rfl ⟨rfl, by decide⟩]
  simp only [f5, b5, eI]
  simp -dsimp only [eI] at e2 e3
  decreasing_trivial_pre_omega
def VALz : Int → List (Int × Int) → Int
  | a, [] => a
  | a, z :: zs => VALz (a * z.2 ^ z.1.toNat) zs
def VAL (p q : List Int) : Int := VALz 1 (p.zip q)
theorem pow_for {D0 D1 : D} {P : Sl} {a p n : Int} {body : Env → Res Fl} (hP : P.free = true)
    (hb : ∀ (i : Nat), i < p.toNat → body [.val D0, .val D1, .val (.int (a * n ^ i)), .val (.int p), .val (.int n), .val (.int (i : Int))] = .ok (.nx [.val D0, .val D1, .val (.int (a * n ^ (i + 1))), .val (.int p), .val (.int n), .val (.int (i : Int))])) :
    forL (.one 5) body [] ((List.range p.toNat).map fun (i : Nat) => .int (i : Int)) [.val D0, .val D1, .val (.int a), .val (.int p), .val (.int n), P] = .ok (.nx [.val D0, .val D1, .val (.int (a * n ^ p.toNat)), .val (.int p), .val (.int n), lastP P p.toNat]) := by
  have z := forL_inv (tg := .one 5) (body := body) (xs := (List.range p.toNat).map fun (i : Nat) => D.int (i : Int)) (fun i e => e = [.val D0, .val D1, .val (.int (a * n ^ i)), .val (.int p), .val (.int n), lastP P i]) (fun i x e hx he => by
    subst he
    rw [List.getElem?_map] at hx
    have hi : i < p.toNat := by
      rcases Nat.lt_or_ge i p.toNat with q | q
      · exact q
      · rw [List.getElem?_eq_none (by simpa using q)] at hx; cases hx
    rw [List.getElem?_range hi] at hx
    cases hx
    refine ⟨[.val D0, .val D1, .val (.int (a * n ^ i)), .val (.int p), .val (.int n), .val (.int (i : Int))], ?_, .inl ⟨_, hb i hi, rfl⟩⟩
    rw [as_one, if_pos (by show (true && (lastP P i).free) = true; rw [lastP_free hP]; rfl)]; rfl) p.toNat 0 [.val D0, .val D1, .val (.int a), .val (.int p), .val (.int n), P] (by simp) (by simp [lastP])
  obtain ⟨e', h1, h2⟩ := z
  rw [List.drop_zero] at h1
  simp -dsimp only [List.length_map, List.length_range] at h2
  rw [h1, h2]
theorem pow_bd {n : Int} (h : 0 ≤ n ∧ n ≤ 4) : ∀ i : Nat, i ≤ 4 → 0 ≤ n ^ i ∧ n ^ i ≤ 256 := by
  have : n = 0 ∨ n = 1 ∨ n = 2 ∨ n = 3 ∨ n = 4 := by omega
  intro i hi
  have : i = 0 ∨ i = 1 ∨ i = 2 ∨ i = 3 ∨ i = 4 := by omega
  rcases this with rfl | rfl | rfl | rfl | rfl <;> rcases ‹n = 0 ∨ _› with rfl | rfl | rfl | rfl | rfl <;> decide
theorem val_out {D0 D1 : D} {body : Env → Res Fl}
    (hb : ∀ (a p n : Int) (S5 : Sl), S5.free = true → 0 ≤ a → a ≤ 256 ^ 4 → (0 ≤ p ∧ p ≤ 4) → (0 ≤ n ∧ n ≤ 4) → ∃ S5', body [.val D0, .val D1, .val (.int a), .val (.int p), .val (.int n), S5] = .ok (.nx [.val D0, .val D1, .val (.int (a * n ^ p.toNat)), .val (.int p), .val (.int n), S5']) ∧ S5'.free = true) :
    ∀ (zs : List (Int × Int)) (j : Nat) (a : Int) (S3 S4 S5 : Sl), j + zs.length ≤ 4 → 0 ≤ a → a ≤ 256 ^ j → S3.free = true → S4.free = true → S5.free = true → (∀ z ∈ zs, (0 ≤ z.1 ∧ z.1 ≤ 4) ∧ 0 ≤ z.2 ∧ z.2 ≤ 4) →
      ∃ S3' S4' S5', forL (.tup [.one 3, .one 4]) body [] (zs.map fun z => .tup [.int z.1, .int z.2]) [.val D0, .val D1, .val (.int a), S3, S4, S5] = .ok (.nx [.val D0, .val D1, .val (.int (VALz a zs)), S3', S4', S5'])
  | [], j, a, S3, S4, S5, _, _, _, _, _, _, _ => ⟨S3, S4, S5, rfl⟩
  | z :: zs, j, a, S3, S4, S5, hj, ha, ha2, h3, h4, h5, hz => by
    have hz0 := hz z (List.mem_cons_self ..)
    have hj' : j + zs.length + 1 ≤ 4 := by simp -dsimp only [List.length_cons] at hj; omega
    have hpow : (256 : Int) ^ j ≤ 256 ^ 4 := by
      have : j = 0 ∨ j = 1 ∨ j = 2 ∨ j = 3 := by omega
      rcases this with rfl | rfl | rfl | rfl <;> decide
    obtain ⟨S5', e1, k5⟩ := hb a z.1 z.2 S5 h5 ha (by omega) hz0.1 hz0.2
    have b := pow_bd hz0.2 z.1.toNat (by omega)
    have nn : 0 ≤ a * z.2 ^ z.1.toNat := Int.mul_nonneg ha b.1
    have up : a * z.2 ^ z.1.toNat ≤ 256 ^ (j + 1) := by
      rw [Int.pow_succ]
      exact Int.mul_le_mul ha2 b.2 b.1 (Int.le_trans ha ha2)
    obtain ⟨a3, a4, a5, e2⟩ := val_out hb zs (j + 1) (a * z.2 ^ z.1.toNat) (.val (.int z.1)) (.val (.int z.2)) S5' (by omega) nn up rfl rfl k5 fun y hy => hz y (List.mem_cons_of_mem _ hy)
    refine ⟨a3, a4, a5, ?_⟩
    rw [List.map_cons]
    unfold forL
    have as : assignT (.tup [.one 3, .one 4]) (.tup [.int z.1, .int z.2]) [.val D0, .val D1, .val (.int a), S3, S4, S5] = some [.val D0, .val D1, .val (.int a), .val (.int z.1), .val (.int z.2), S5] := by
      simp -dsimp only [assignT, assignTs]
      rw [if_pos (by show (true && S3.free) = true; rw [h3]; rfl)]
      show ((if (true && S4.free) = true then _ else none) : Option Env).bind _ = _
      rw [h4]; rfl
    simp -dsimp only [as, e1, Res.of_some, Res.bind_ok, wipe_nil]
    exact e2
theorem zip_map (p q : List Int) : ((p.map D.int).zip (q.map D.int)).map (fun z => D.tup [z.1, z.2]) = (p.zip q).map fun z => .tup [.int z.1, .int z.2] := by
  rw [List.zip_map, List.map_map]; rfl
theorem value_val (k : Nat) (p q : List Int) (hp : ∀ x ∈ p, 0 ≤ x ∧ x ≤ 4) (hq : ∀ x ∈ q, 0 ≤ x ∧ x ≤ 4) (hl : p.length ≤ 4) : callF T (k + 1) 7 [eI p, eI q] = .ok (.val (.int (VAL p q)), none) := by
  have hz : ∀ z ∈ p.zip q, (0 ≤ z.1 ∧ z.1 ≤ 4) ∧ 0 ≤ z.2 ∧ z.2 ≤ 4 := fun z hz => ⟨hp _ (List.of_mem_zip hz).1, hq _ (List.of_mem_zip hz).2⟩
  have hzl : 0 + (p.zip q).length ≤ 4 := by rw [List.length_zip]; omega
  have zm := zip_map p q
  rw [callF_succ (fd := f7.fn) rfl ⟨rfl, by decide⟩]
  simp only [f7, b7, eI]
  have go := fun body hb => val_out (D0 := .lst (p.map .int)) (D1 := .lst (q.map .int)) (body := body) hb (p.zip q) 0 1 .no .no .no hzl (by decide) (by decide) rfl rfl rfl hz
  clear hp hq hz
  revert go
  decreasing_trivial_pre_omega
  intro go
  refine Exists.elim (go ?body ?hb) ?k
  case k =>
    rintro S3' ⟨S4', S5', e2⟩
    refine (bind_head (bind_head e2)).trans ?_
    clear go e2
    unfold VAL
    decreasing_trivial_pre_omega
  case hb =>
    clear go
    intro a p' n S5 h5 ha ha2 hp' hn
    have c1 : p' < 1000000000 := by omega
    have c2 : -1000000000 < p' := by omega
    have c3 : p'.toNat ≤ 16777216 := by omega
    refine ⟨lastP S5 p'.toNat, ?_, lastP_free h5 _⟩
    decreasing_trivial_pre_omega
    rw [pow_for (P := S5) h5 ?_]
    · decreasing_trivial_pre_omega
    · intro i hi
      have b := pow_bd hn i (by omega)
      have nn : 0 ≤ a * n ^ i := Int.mul_nonneg ha b.1
      have up : a * n ^ i ≤ 256 ^ 4 * 256 := Int.mul_le_mul ha2 b.2 b.1 (by decide)
      have e9 : bop .mul (.int (a * n ^ i)) (.int n) = some (.val (.int (a * n ^ (i + 1)))) := by
        rw [mul_ii (by omega) (by omega), Int.pow_succ, Int.mul_assoc]
      clear b nn up c1 c2 c3 hp' hn ha ha2 hzl zm h5 hl
      decreasing_trivial_pre_omega
end K16
namespace K16
open Ev
local macro_rules | `(tactic| decreasing_trivial_pre_omega) => `(tactic| simp -implicitDefEqProofs -dsimp only [*, cw0, cw1, cw2, cw3, cw4, cw5, cw6, cw7, cw8, cw9, cw10, cw11, cw12, cw13, cw14, cw15, cw16, evalSs, evalS, evalE, evalB, evalRs, evalDs, evalIt, evalC, evP, peek_v, peek_t, peek_i, con_v, con_o, con_b, asVal_v, asVal_t, asVal_i, add_ii, sub_ii, add_ll, mod_if, lt_ii, le_ii, gt_ii, ge_ii, eq_ii, ne_ii, tru_b, ix_l, ix_s, sli_s, sli_l, sum_l, atI_n, len_l, len_s, int_i, max_ii, min_ii, bitlen_i, list_l, at_0, at_s, noExc_ok, Function.comp_def, flat_t, ite_self, isT_l, all_t, List.length_map, List.length_range, List.map_map, flat_i, flat_b, flat_n, flatO_n, mine_v, mine_o, mine_b, mine_n, free_v, free_o, free_n, put_o, put_b, back_n, back_s, hb_v, hb_t, left_n, left_i, hb_i, fin_r, fin_nx, pv_nil, pv_n, pv_s, pm_t, pm_i, fi_nil, fi_n, fi_s, permute_nil, atI_0, atI_1, atI_2, ixN_30, ixN_31, ixN_32, wipe_nil, wipe_cons, as_one, st_v, st_t, st_i, free_b, stores_nil, stores_cons, res_nil, res_v, res_t, res_i, tst_ok, sp_f, sp_l, isT, List.set_cons_zero, List.set_cons_succ, Ev.start, List.zipIdx_cons, List.zipIdx_nil, List.map_cons, List.map_nil, List.length_cons, List.length_nil, List.cons_append, List.nil_append, List.append_nil, Res.bind_ok, Res.bind_exc, Res.bind_bad, Res.of_some, Option.bind_some, Option.map_some, List.mapM_cons, List.mapM_nil, List.filterMap_cons, List.filterMap_nil, id, List.getElem?_cons_zero, List.getElem?_cons_succ, reduceIte, forL, LIM, range_1, Int.reduceToNat, Int.reduceNeg, Int.reduceDiv, Int.reduceMod, Int.ofNat_zero, Int.zero_add, Int.add_zero, Int.cast_ofNat_Int, Option.pure_def, Option.bind_eq_bind, Nat.zero_add, Nat.reduceAdd, Nat.reduceSub, Nat.reduceLeDiff, Nat.reduceLT, Nat.reduceEqDiff, Int.reduceLT, Int.reduceLE, Int.reduceAdd, Int.reduceMul, Int.reduceSub, Bool.true_and, Bool.and_true, Bool.false_and, Bool.and_false, Bool.and_self, decide_true, decide_false, Bool.false_eq_true, Bool.not_true, Bool.not_false, reduceCtorEq, Option.some.injEq, and_true, true_and, false_and, and_false, if_false, ↓reduceIte, and_self, or_true, true_or, List.replicate])
/-! ### elimination -/
def colAt (rows : List (List Int)) (c a : Nat) : Int := (rows.getD a []).getD c 0
def leadsOf (rows : List (List Int)) (n c : Nat) : List Nat := ((List.range (n - c)).map (c + ·)).filter fun a => decide (colAt rows c a ≠ 0)
def sq (rows : List (List Int)) (n : Nat) : Prop := rows.length = n ∧ ∀ r ∈ rows, r.length = n
def pAt (rows : List (List Int)) (c : Nat) : D → Bool
  | .int a => decide (colAt rows c a.toNat ≠ 0)
  | _ => false
theorem row_at {rows : List (List Int)} {n a : Nat} (h : sq rows n) (ha : a < n) : (rows.map eI)[a]? = some (eI (rows.getD a [])) := by
  rw [List.getElem?_map, List.getD_eq_getElem?_getD, List.getElem?_eq_getElem (by rw [h.1]; exact ha)]
  rfl
theorem row_len {rows : List (List Int)} {n a : Nat} (h : sq rows n) (ha : a < n) : (rows.getD a []).length = n := by
  rw [List.getD_eq_getElem?_getD, List.getElem?_eq_getElem (by rw [h.1]; exact ha)]
  exact h.2 _ (List.getElem_mem _)
theorem col_at {rows : List (List Int)} {n a c : Nat} (h : sq rows n) (ha : a < n) (hc : c < n) : ((rows.getD a []).map D.int)[c]? = some (.int (colAt rows c a)) := by
  have hl := row_len h ha
  unfold colAt
  rw [List.getElem?_map, List.getD_eq_getElem?_getD (l := rows.getD a []), List.getElem?_eq_getElem (by rw [hl]; exact hc)]
  rfl
theorem leads_eval {call : Call} {rows : List (List Int)} {n c : Nat} {p : D} {S4 S5 S6 S7 : Sl} (h : sq rows n) (hc : c < n) (hn : n ≤ 100) (h4 : S4.free = true) :
    evalS T.chg T.gval call (.asg (.one 4) (.comp (.sl 9) (.one 9) (.ran2 (.sl 2) (.sl 3)) (some (.cmp .ne (.ix (.ix (.sl 0) (.sl 9)) (.sl 2)) (.con (.int 0)))) [9])) [.own (eM rows), .val p, .val (.int (c : Int)), .val (.int (n : Int)), S4, S5, S6, S7, .no, .no, .no, .no, .no, .no] =
      .ok (.nx [.own (eM rows), .val p, .val (.int (c : Int)), .val (.int (n : Int)), .own (.lst ((leadsOf rows n c).map fun (a : Nat) => .int (a : Int))), S5, S6, S7, .no, .no, .no, .no, .no, .no]) := by
  have c1 : (n : Int) < 1000000000 := by omega
  have c2 : -1000000000 < (n : Int) := by omega
  have c3 : (c : Int) < 1000000000 := by omega
  have c4 : -1000000000 < (c : Int) := by omega
  have e0 : ((n : Int) - (c : Int)).toNat = n - c := by omega
  have c5 : n - c ≤ 16777216 := by omega
  simp -dsimp only [eM]
  decreasing_trivial_pre_omega
  rw [compL_filter (f := id) (p := pAt rows c)]
  · have e1 : (((List.range (n - c)).map fun (k : Nat) => D.int ((c : Int) + (k : Int))).filter (pAt rows c)).map id = (leadsOf rows n c).map fun (a : Nat) => .int (a : Int) := by
      unfold leadsOf
      have f1 : (fun (k : Nat) => D.int ((c : Int) + (k : Int))) = (fun (a : Nat) => D.int (a : Int)) ∘ (c + ·) := funext fun k => by simp [Int.natCast_add]
      have f2 : (pAt rows c ∘ fun (k : Nat) => D.int ((c : Int) + (k : Int))) = (fun a => decide (colAt rows c a ≠ 0)) ∘ (c + ·) := funext fun k => by
        show decide (colAt rows c ((c : Int) + (k : Int)).toNat ≠ 0) = decide (colAt rows c (c + k) ≠ 0)
        have : ((c : Int) + (k : Int)).toNat = c + k := by omega
        rw [this]
      rw [List.map_id, List.filter_map, List.filter_map, List.map_map, f2, f1]
    rw [e1]
    decreasing_trivial_pre_omega
  · intro x hx
    obtain ⟨j, hj, rfl⟩ := List.mem_map.mp hx
    have hj' := List.mem_range.mp hj
    have hcj : c + j < n := by omega
    have r1 := row_at h hcj
    have r2 := col_at h hcj hc
    have e2 : (c : Int) + (j : Int) = ((c + j : Nat) : Int) := by omega
    have e3 : pAt rows c (.int ((c : Int) + (j : Int))) = !decide (colAt rows c (c + j) = 0) := by
      show decide (colAt rows c ((c : Int) + (j : Int)).toNat ≠ 0) = _
      have : ((c : Int) + (j : Int)).toNat = c + j := by omega
      rw [this, decide_not]
    obtain ⟨E, hE⟩ : ∃ E : Env, E = [.own (eM rows), .val p, .val (.int (c : Int)), .val (.int (n : Int)), S4, S5, S6, S7, .no, .val (.int ((c : Int) + (j : Int))), .no, .no, .no, .no] := ⟨_, rfl⟩
    refine ⟨E, E, ?_, ?_, fun _ => ?_, fun _ => ⟨.val (.int ((c : Int) + (j : Int))), E, E, ?_, rfl, ?_⟩⟩
    · subst hE
      rfl
    · rw [e3]
      subst hE
      have r3 : L2.atI (rows.map eI) ((c : Int) + (j : Int)) = some (eI (rows.getD (c + j) [])) := by rw [e2, atI_n]; exact r1
      simp -dsimp only [eM, eI] at r3 ⊢
      clear e2 e3 r1
      decreasing_trivial_pre_omega
    · subst hE
      rfl
    · subst hE
      rfl
    · subst hE
      rfl
theorem pick_eval {call : Call} {rows : List (List Int)} {n c l : Nat} {ls : List Nat} {p : D} {S5 S6 S7 : Sl} (h : sq rows n) (hc : c < n) (hl : l < n) (h6 : S6.free = true) (h7 : S7.free = true) :
    evalS T.chg T.gval call (.par [6, 7] (.cons false (.ix (.sl 0) (.ix (.sl 4) (.con (.int 0)))) (.cons false (.ix (.sl 0) (.sl 2)) .nil))) [.own (eM rows), .val p, .val (.int (c : Int)), .val (.int (n : Int)), .own (.lst (.int (l : Int) :: ls.map fun (a : Nat) => .int (a : Int))), S5, S6, S7, .no, .no, .no, .no, .no, .no] =
      .ok (.nx [.own (eM rows), .val p, .val (.int (c : Int)), .val (.int (n : Int)), .own (.lst (.int (l : Int) :: ls.map fun (a : Nat) => .int (a : Int))), S5, .val (eI (rows.getD l [])), .val (eI (rows.getD c [])), .no, .no, .no, .no, .no, .no]) := by
  have r1 := row_at h hl
  have r2 := row_at h hc
  simp -dsimp only [eM, eI] at r1 r2 ⊢
  clear h hc hl
  decreasing_trivial_pre_omega
theorem swap_eval {call : Call} {rows : List (List Int)} {n c l : Nat} {ls : List Nat} {p : D} {S5 S6 : Sl} {r : List Int} (h : sq rows n) (hl : l < n) :
    evalS T.chg T.gval call (.put 0 (.ix (.sl 4) (.con (.int 0))) (.sl 7)) [.own (eM rows), .val p, .val (.int (c : Int)), .val (.int (n : Int)), .own (.lst (.int (l : Int) :: ls.map fun (a : Nat) => .int (a : Int))), S5, S6, .val (eI r), .no, .no, .no, .no, .no, .no] =
      .ok (.nx [.own (eM (rows.set l r)), .val p, .val (.int (c : Int)), .val (.int (n : Int)), .own (.lst (.int (l : Int) :: ls.map fun (a : Nat) => .int (a : Int))), S5, S6, .val (eI r), .no, .no, .no, .no, .no, .no]) := by
  have e1 : L2.ixN (rows.map eI).length (l : Int) = some l := ixN_n (by rw [List.length_map, h.1]; exact hl)
  rw [List.length_map] at e1
  have e2 : (rows.map eI).set l (eI r) = (rows.set l r).map eI := List.map_set.symm
  simp -dsimp only [eM, eI] at e2 ⊢
  clear h hl
  decreasing_trivial_pre_omega
def pBack (x : Int) : D → Bool
  | .int b => decide (b * x % 101 = 1)
  | _ => false
def backsOf (x : Int) : List Int := ((List.range 100).map fun (k : Nat) => 1 + (k : Int)).filter fun b => decide (b * x % 101 = 1)
theorem back_eval {call : Call} {D0 : D} {n c : Nat} {S4 S5 S7 : Sl} {r : List Int} {x b : Int} {bs : List Int} (hx : (r.map D.int)[c]? = some (.int x)) (hx2 : 0 ≤ x ∧ x < 101) (hb : backsOf x = b :: bs) (h5 : S5.free = true) :
    evalS T.chg T.gval call (.asg (.one 5) (.ix (.comp (.sl 11) (.one 11) (.ran2 (.con (.int 1)) (.sl 1)) (some (.cmp .eq (.op .mod (.bi .int (.cons false (.op .mul (.sl 11) (.ix (.sl 6) (.sl 2))) .nil)) (.sl 1)) (.con (.int 1)))) [11]) (.con (.int 0)))) [.own D0, .val (.int 101), .val (.int (c : Int)), .val (.int (n : Int)), S4, S5, .val (eI r), S7, .no, .no, .no, .no, .no, .no] =
      .ok (.nx [.own D0, .val (.int 101), .val (.int (c : Int)), .val (.int (n : Int)), S4, .val (.int b), .val (eI r), S7, .no, .no, .no, .no, .no, .no]) := by
  simp -dsimp only [eI]
  have c1 : (100 : Nat) ≤ 16777216 := by decide
  decreasing_trivial_pre_omega
  rw [compL_filter (f := id) (p := pBack x)]
  · have e1 : (((List.range 100).map fun (k : Nat) => D.int (1 + (k : Int))).filter (pBack x)).map id = (backsOf x).map .int := by
      unfold backsOf
      have f1 : (fun (k : Nat) => D.int (1 + (k : Int))) = D.int ∘ (fun (k : Nat) => 1 + (k : Int)) := rfl
      rw [List.map_id, f1, ← List.map_map, List.filter_map]
      rfl
    rw [e1, hb]
    decreasing_trivial_pre_omega
  · intro y hy
    obtain ⟨j, hj, rfl⟩ := List.mem_map.mp hy
    have hj' := List.mem_range.mp hj
    obtain ⟨B, hB⟩ : ∃ B, 1 + (j : Int) = B := ⟨_, rfl⟩
    have hB2 : 0 ≤ B ∧ B ≤ 200 := by omega
    rw [hB]
    have e9 : bop .mul (.int B) (.int x) = some (.val (.int (B * x))) := mul_ii (by omega) (by omega)
    have r3 : L2.atI (r.map D.int) (c : Int) = some (.int x) := by rw [atI_n]; exact hx
    obtain ⟨E, hE⟩ : ∃ E : Env, E = [.own D0, .val (.int 101), .val (.int (c : Int)), .val (.int (n : Int)), S4, S5, .val (.lst (r.map .int)), S7, .no, .no, .no, .val (.int B), .no, .no] := ⟨_, rfl⟩
    refine ⟨E, E, ?_, ?_, fun _ => ?_, fun _ => ⟨.val (.int B), E, E, ?_, rfl, ?_⟩⟩
    · subst hE; rfl
    · show _ = Res.ok (decide (B * x % 101 = 1), E)
      subst hE
      clear hb hy hj hx hB hj' hB2 hx2 h5
      decreasing_trivial_pre_omega
    · subst hE; rfl
    · subst hE; rfl
    · subst hE; rfl
theorem compL_ints {tg : Tg} {cond : Env → Res (Bool × Env)} {elt : Env → Res (Ev.R × Env)} {own : List Nat} {f : Int → Int} {e0 : Env} {r : List Int} (h : ∀ x ∈ r, ∃ e1 e2 r' e3 e4, assignT tg (.int x) e0 = some e1 ∧ cond e1 = .ok (true, e2) ∧ elt e2 = .ok (r', e3) ∧ asVal r' e3 = some (.int (f x), e4) ∧ wipeE e4 own = e0) :
    compL tg cond elt own (r.map D.int) e0 = .ok ((r.map f).map D.int, e0) := by
  rw [compL_map (f := fun d => match d with | .int y => D.int (f y) | d => d)]
  · rw [List.map_map, List.map_map]; rfl
  · intro x hx
    obtain ⟨y, hy, rfl⟩ := List.mem_map.mp hx
    exact h y hy
def norm (b : Int) (r : List Int) : List Int := r.map fun x => x * b % 101
theorem norm_eval {call : Call} {D0 : D} {n c : Nat} {S4 S7 : Sl} {r : List Int} {b : Int} (hr : ∀ x ∈ r, 0 ≤ x ∧ x < 101) (hl : r.length ≤ 100) (hb : 0 ≤ b ∧ b ≤ 200) :
    evalS T.chg T.gval call (.asg (.one 6) (.comp (.op .mod (.bi .int (.cons false (.op .mul (.sl 10) (.sl 5)) .nil)) (.sl 1)) (.one 10) (.seq (.sl 6)) none [10])) [.own D0, .val (.int 101), .val (.int (c : Int)), .val (.int (n : Int)), S4, .val (.int b), .val (eI r), S7, .no, .no, .no, .no, .no, .no] =
      .ok (.nx [.own D0, .val (.int 101), .val (.int (c : Int)), .val (.int (n : Int)), S4, .val (.int b), .own (eI (norm b r)), S7, .no, .no, .no, .no, .no, .no]) := by
  have c1 : r.length ≤ 16777216 := by omega
  simp -dsimp only [eI, norm]
  have hr' : ∀ x ∈ r, bop .mul (.int x) (.int b) = some (.val (.int (x * b))) := fun x hx => mul_ii (by have := hr x hx; omega) (by omega)
  clear hr
  revert hr'
  decreasing_trivial_pre_omega
  intro hr'
  rw [compL_ints (f := fun x => x * b % 101)]
  · clear hr'
    decreasing_trivial_pre_omega
  · intro x hx
    have e9 := hr' x hx
    obtain ⟨E, hE⟩ : ∃ E : Env, E = [.own D0, .val (.int 101), .val (.int (c : Int)), .val (.int (n : Int)), S4, .val (.int b), .val (.lst (r.map .int)), S7, .no, .no, .val (.int x), .no, .no, .no] := ⟨_, rfl⟩
    refine ⟨E, E, .val (.int (x * b % 101)), E, E, ?_, rfl, ?_, rfl, ?_⟩
    · subst hE; rfl
    · subst hE
      clear hr' hx hb c1
      decreasing_trivial_pre_omega
    · subst hE; rfl
end K16
namespace K16
open Ev
local macro_rules | `(tactic| decreasing_trivial_pre_omega) => `(tactic| simp -implicitDefEqProofs -dsimp only [*, turnC_def, turnF_def, as_tup, as_nil, as_cons, cw0, cw1, cw2, cw3, cw4, cw5, cw6, cw7, cw8, cw9, cw10, cw11, cw12, cw13, cw14, cw15, cw16, evalSs, evalS, evalE, evalB, evalRs, evalDs, evalIt, evalC, evP, peek_v, peek_t, peek_i, con_v, con_o, con_b, asVal_v, asVal_t, asVal_i, add_ii, sub_ii, add_ll, mod_if, lt_ii, le_ii, gt_ii, ge_ii, eq_ii, ne_ii, tru_b, ix_l, ix_s, sli_s, sli_l, sum_l, atI_n, len_l, len_s, int_i, max_ii, min_ii, bitlen_i, list_l, at_0, at_s, noExc_ok, Function.comp_def, flat_t, ite_self, isT_l, all_t, List.length_map, List.length_range, List.map_map, flat_i, flat_b, flat_n, flatO_n, mine_v, mine_o, mine_b, mine_n, free_v, free_o, free_n, put_o, put_b, back_n, back_s, hb_v, hb_t, left_n, left_i, hb_i, fin_r, fin_nx, pv_nil, pv_n, pv_s, pm_t, pm_i, fi_nil, fi_n, fi_s, permute_nil, atI_0, atI_1, atI_2, ixN_30, ixN_31, ixN_32, wipe_nil, wipe_cons, as_one, st_v, st_t, st_i, free_b, stores_nil, stores_cons, res_nil, res_v, res_t, res_i, tst_ok, sp_f, sp_l, isT, List.set_cons_zero, List.set_cons_succ, Ev.start, List.zipIdx_cons, List.zipIdx_nil, List.map_cons, List.map_nil, List.length_cons, List.length_nil, List.cons_append, List.nil_append, List.append_nil, Res.bind_ok, Res.bind_exc, Res.bind_bad, Res.of_some, Option.bind_some, Option.map_some, List.mapM_cons, List.mapM_nil, List.filterMap_cons, List.filterMap_nil, id, List.getElem?_cons_zero, List.getElem?_cons_succ, reduceIte, forL, LIM, range_1, Int.reduceToNat, Int.reduceNeg, Int.reduceDiv, Int.reduceMod, Int.ofNat_zero, Int.zero_add, Int.add_zero, Int.cast_ofNat_Int, Option.pure_def, Option.bind_eq_bind, Nat.zero_add, Nat.reduceAdd, Nat.reduceSub, Nat.reduceLeDiff, Nat.reduceLT, Nat.reduceEqDiff, Int.reduceLT, Int.reduceLE, Int.reduceAdd, Int.reduceMul, Int.reduceSub, Bool.true_and, Bool.and_true, Bool.false_and, Bool.and_false, Bool.and_self, decide_true, decide_false, Bool.false_eq_true, Bool.not_true, Bool.not_false, reduceCtorEq, Option.some.injEq, and_true, true_and, false_and, and_false, if_false, ↓reduceIte, and_self, or_true, true_or, List.replicate])
def upd (r lead : List Int) (x : Int) : List Int := (r.zip lead).map fun z => (z.1 - x * z.2) % 101
def sweep (c : Nat) (lead : List Int) (rows : List (List Int)) : List (List Int) := rows.zipIdx.map fun q => if c < q.2 then upd q.1 lead (q.1.getD c 0) else q.1
theorem enu_rows (rows : List (List Int)) : (rows.map eI).zipIdx.map (fun q => D.tup [.int (q.2 : Nat), q.1]) = rows.zipIdx.map fun q => D.tup [.int (q.2 : Nat), eI q.1] := by
  rw [List.zipIdx_map, List.map_map]; rfl
theorem upd_eval {call : Call} {D0 : D} {n c a : Nat} {S4 S6 S7 : Sl} {B : D} {r lead : List Int} {x : Int} (h6 : S6 = .own (eI lead) ∨ S6 = .val (eI lead)) (hx : (r.map D.int)[c]? = some (.int x)) (hx2 : 0 ≤ x ∧ x < 101) (hl : ∀ y ∈ lead, 0 ≤ y ∧ y < 101) (hll : lead.length ≤ 100) (hrl : r.length ≤ 100) :
    evalE T.chg T.gval call (.comp (.op .mod (.bi .int (.cons false (.op .sub (.sl 12) (.op .mul (.ix (.sl 8) (.sl 2)) (.sl 13))) .nil)) (.sl 1)) (.tup [(.one 12), (.one 13)]) (.zip (.sl 8) (.sl 6) false) none [12, 13]) [.val D0, .val (.int 101), .val (.int (c : Int)), .val (.int (n : Int)), S4, .val B, S6, S7, .val (eI r), .val (.int (a : Int)), .no, .no, .no, .no] =
      .ok (.tmp (eI (upd r lead x)), [.val D0, .val (.int 101), .val (.int (c : Int)), .val (.int (n : Int)), S4, .val B, .val (eI lead), S7, .val (eI r), .val (.int (a : Int)), .no, .no, .no, .no]) := by
  have zm := zip_map r lead
  have zl : (r.zip lead).length ≤ 16777216 := by rw [List.length_zip]; omega
  have r3 : L2.atI (r.map D.int) (c : Int) = some (.int x) := by rw [atI_n]; exact hx
  have e9 : ∀ z ∈ r.zip lead, bop .mul (.int x) (.int z.2) = some (.val (.int (x * z.2))) := fun z hz => by
    have hz2 := hl z.2 (List.of_mem_zip (b := z.2) (a := z.1) hz).2
    exact mul_ii (by omega) (by omega)
  clear hx hl
  unfold upd
  simp -dsimp only [eI]
  rcases h6 with h6 | h6 <;> subst h6
  all_goals
    revert r3 e9
    decreasing_trivial_pre_omega
    intro r3 e9
    rw [compL_all (fun z : Int × Int => .tup [.int z.1, .int z.2]) (fun z => .int ((z.1 - x * z.2) % 101))]
    · clear e9 r3
      decreasing_trivial_pre_omega
    · intro z hz
      have e8 := e9 z hz
      clear e9 hz zm zl
      decreasing_trivial_pre_omega
theorem sweep_eval {call : Call} {n c : Nat} {S4 S7 : Sl} {B : D} {rows : List (List Int)} {lead : List Int} (h : sq rows n) (hc : c < n) (hn : n ≤ 100) (hr : ∀ r ∈ rows, ∀ x ∈ r, 0 ≤ x ∧ x < 101) (hl : ∀ y ∈ lead, 0 ≤ y ∧ y < 101) (hll : lead.length ≤ 100) :
    ∃ S6', (S6' = .own (eI lead) ∨ S6' = .val (eI lead)) ∧ evalS T.chg T.gval call (.asg (.one 0) (.comp (.ite (.cmp .gt (.sl 9) (.sl 2)) (.comp (.op .mod (.bi .int (.cons false (.op .sub (.sl 12) (.op .mul (.ix (.sl 8) (.sl 2)) (.sl 13))) .nil)) (.sl 1)) (.tup [(.one 12), (.one 13)]) (.zip (.sl 8) (.sl 6) false) none [12, 13]) (.sl 8)) (.tup [(.one 9), (.one 8)]) (.enu (.sl 0)) none [8, 9])) [.own (eM rows), .val (.int 101), .val (.int (c : Int)), .val (.int (n : Int)), S4, .val B, .own (eI lead), S7, .no, .no, .no, .no, .no, .no] =
      .ok (.nx [.own (eM (sweep c lead rows)), .val (.int 101), .val (.int (c : Int)), .val (.int (n : Int)), S4, .val B, S6', S7, .no, .no, .no, .no, .no, .no]) := by
  have c1 : (rows.map eI).length ≤ 16777216 := by rw [List.length_map, h.1]; omega
  have go := compL_keep (tg := .tup [(.one 9), (.one 8)]) (cond := evalC T.chg T.gval call none) (elt := evalE T.chg T.gval call (.ite (.cmp .gt (.sl 9) (.sl 2)) (.comp (.op .mod (.bi .int (.cons false (.op .sub (.sl 12) (.op .mul (.ix (.sl 8) (.sl 2)) (.sl 13))) .nil)) (.sl 1)) (.tup [(.one 12), (.one 13)]) (.zip (.sl 8) (.sl 6) false) none [12, 13]) (.sl 8))) (own := [8, 9]) (fun q : List Int × Nat => .tup [.int (q.2 : Nat), eI q.1]) (fun q => eI (if c < q.2 then upd q.1 lead (q.1.getD c 0) else q.1))
    (fun e => ∃ S6, (S6 = .own (eI lead) ∨ S6 = .val (eI lead)) ∧ e = [.val (eM rows), .val (.int 101), .val (.int (c : Int)), .val (.int (n : Int)), S4, .val B, S6, S7, .no, .no, .no, .no, .no, .no]) rows.zipIdx (by
      rintro ⟨r, a⟩ hq e ⟨S6, h6, rfl⟩
      have hr1 := List.mem_zipIdx hq
      have hrm : r ∈ rows := by rw [hr1.2.2]; exact List.getElem_mem _
      have hrl := h.2 r hrm
      have hxr := hr r hrm
      by_cases hca : c < a
      · have hx : (r.map D.int)[c]? = some (.int (r.getD c 0)) := by
          rw [List.getElem?_map, List.getD_eq_getElem?_getD, List.getElem?_eq_getElem (by omega)]; rfl
        have hx2 : 0 ≤ r.getD c 0 ∧ r.getD c 0 < 101 := by
          rw [List.getD_eq_getElem?_getD, List.getElem?_eq_getElem (by omega)]
          exact hxr _ (List.getElem_mem _)
        have e1 := upd_eval (call := call) (D0 := eM rows) (n := n) (a := a) (S4 := S4) (S7 := S7) (B := B) h6 hx hx2 hl hll (by omega)
        refine ⟨_, ?_, .val (eI lead), .inr rfl, rfl⟩
        have c2 : (c : Int) < (a : Int) := by omega
        generalize hX : E.comp (.op .mod (.bi .int (.cons false (.op .sub (.sl 12) (.op .mul (.ix (.sl 8) (.sl 2)) (.sl 13))) .nil)) (.sl 1)) (.tup [(.one 12), (.one 13)]) (.zip (.sl 8) (.sl 6) false) none [12, 13] = X at e1 ⊢
        simp -dsimp only [eI, eM] at e1 ⊢
        clear hq hX hx hx2 hl hll hr1 hrm hrl hxr h6 h hr
        decreasing_trivial_pre_omega
      · have c2 : ¬ (c : Int) < (a : Int) := by omega
        refine ⟨_, ?_, S6, h6, rfl⟩
        generalize E.comp (.op .mod (.bi .int (.cons false (.op .sub (.sl 12) (.op .mul (.ix (.sl 8) (.sl 2)) (.sl 13))) .nil)) (.sl 1)) (.tup [(.one 12), (.one 13)]) (.zip (.sl 8) (.sl 6) false) none [12, 13] = X
        simp -dsimp only [eI, eM]
        clear hq hl hll hr1 hrm hrl hxr h6 h hr
        decreasing_trivial_pre_omega)
  have er := enu_rows rows
  obtain ⟨e', g1, S6', g2, g3⟩ := go [.val (eM rows), .val (.int 101), .val (.int (c : Int)), .val (.int (n : Int)), S4, .val B, .own (eI lead), S7, .no, .no, .no, .no, .no, .no] ⟨_, .inl rfl, rfl⟩
  refine ⟨S6', g2, ?_⟩
  subst g3
  clear go g2 hr hl hll h
  generalize E.ite (.cmp .gt (.sl 9) (.sl 2)) (.comp (.op .mod (.bi .int (.cons false (.op .sub (.sl 12) (.op .mul (.ix (.sl 8) (.sl 2)) (.sl 13))) .nil)) (.sl 1)) (.tup [(.one 12), (.one 13)]) (.zip (.sl 8) (.sl 6) false) none [12, 13]) (.sl 8) = X at g1 ⊢
  have sw : (sweep c lead rows).map eI = rows.zipIdx.map (fun q => eI (if c < q.2 then upd q.1 lead (q.1.getD c 0) else q.1)) := by unfold sweep; rw [List.map_map]; rfl
  simp -dsimp only [eM, sw]
  simp -dsimp only [evalS, evalE, evalIt, eM] at g1 ⊢
  simp -dsimp only [asVal_i, at_0, Res.of_some, Res.bind_ok, er, List.set_cons_zero, wipe_cons, wipe_nil, List.set_cons_succ, List.length_map, List.length_zipIdx]
  simp -dsimp only [List.length_map] at c1
  rw [if_pos c1, g1]
  simp -dsimp only [noExc_ok, Res.bind_ok, st_t, at_0, free_v, List.length_cons, List.set_cons_zero]
  rfl
theorem putlead_eval {call : Call} {n c : Nat} {S4 S6 S7 : Sl} {B P : D} {rows : List (List Int)} {lead : List Int} (h : rows.length = n) (hc : c < n) (h6 : S6 = .own (eI lead) ∨ S6 = .val (eI lead)) :
    evalS T.chg T.gval call (.put 0 (.sl 2) (.sl 6)) [.own (eM rows), .val P, .val (.int (c : Int)), .val (.int (n : Int)), S4, .val B, S6, S7, .no, .no, .no, .no, .no, .no] =
      .ok (.nx [.own (eM (rows.set c lead)), .val P, .val (.int (c : Int)), .val (.int (n : Int)), S4, .val B, .val (eI lead), S7, .no, .no, .no, .no, .no, .no]) := by
  have e1 : L2.ixN (rows.map eI).length (c : Int) = some c := ixN_n (by rw [List.length_map, h]; exact hc)
  rw [List.length_map] at e1
  have e2 : (rows.map eI).set c (eI lead) = (rows.set c lead).map eI := List.map_set.symm
  simp -dsimp only [eM, eI] at e2 ⊢
  clear h hc
  rcases h6 with h6 | h6 <;> subst h6 <;> simp -dsimp only [eI] <;> decreasing_trivial_pre_omega
/-- one column of the elimination -/
def indStep (rows : List (List Int)) (n c : Nat) : Option (List (List Int)) :=
  match leadsOf rows n c with
  | [] => none
  | l :: _ =>
    match backsOf (colAt rows c l) with
    | [] => none
    | b :: _ => some ((sweep c (norm b (rows.getD l [])) (rows.set l (rows.getD c []))).set c (norm b (rows.getD l [])))
def good (rows : List (List Int)) (n : Nat) : Prop := sq rows n ∧ ∀ r ∈ rows, ∀ x ∈ r, 0 ≤ x ∧ x < 101
theorem mod_bd (x : Int) : 0 ≤ x % 101 ∧ x % 101 < 101 := by omega
theorem norm_good {b : Int} {r : List Int} : (norm b r).length = r.length ∧ ∀ x ∈ norm b r, 0 ≤ x ∧ x < 101 := by
  unfold norm
  refine ⟨List.length_map .., fun x hx => ?_⟩
  obtain ⟨y, _, rfl⟩ := List.mem_map.mp hx
  exact mod_bd _
theorem set_good {rows : List (List Int)} {n l : Nat} {r : List Int} (h : good rows n) (hr : r.length = n ∧ ∀ x ∈ r, 0 ≤ x ∧ x < 101) : good (rows.set l r) n := by
  refine ⟨⟨by rw [List.length_set]; exact h.1.1, fun q hq => ?_⟩, fun q hq => ?_⟩
  · rcases List.mem_or_eq_of_mem_set hq with hq | hq
    · exact h.1.2 q hq
    · rw [hq]; exact hr.1
  · rcases List.mem_or_eq_of_mem_set hq with hq | hq
    · exact h.2 q hq
    · rw [hq]; exact hr.2
theorem row_good {rows : List (List Int)} {n l : Nat} (h : good rows n) (hl : l < n) : (rows.getD l []).length = n ∧ ∀ x ∈ rows.getD l [], 0 ≤ x ∧ x < 101 := by
  refine ⟨row_len h.1 hl, ?_⟩
  rw [List.getD_eq_getElem?_getD, List.getElem?_eq_getElem (by rw [h.1.1]; exact hl)]
  exact h.2 _ (List.getElem_mem _)
theorem sweep_good {rows : List (List Int)} {n c : Nat} {lead : List Int} (h : good rows n) (hl : lead.length = n) : good (sweep c lead rows) n := by
  refine ⟨⟨by unfold sweep; rw [List.length_map, List.length_zipIdx]; exact h.1.1, fun q hq => ?_⟩, fun q hq => ?_⟩
  · unfold sweep at hq
    obtain ⟨⟨r, a⟩, hz, rfl⟩ := List.mem_map.mp hq
    have hr1 := List.mem_zipIdx hz
    have hrm : r ∈ rows := by rw [hr1.2.2]; exact List.getElem_mem _
    split
    · unfold upd
      rw [List.length_map, List.length_zip, h.1.2 r hrm, hl, Nat.min_self]
    · exact h.1.2 r hrm
  · unfold sweep at hq
    obtain ⟨⟨r, a⟩, hz, rfl⟩ := List.mem_map.mp hq
    have hr1 := List.mem_zipIdx hz
    have hrm : r ∈ rows := by rw [hr1.2.2]; exact List.getElem_mem _
    split
    · unfold upd
      intro x hx
      obtain ⟨y, _, rfl⟩ := List.mem_map.mp hx
      exact mod_bd _
    · exact h.2 r hrm
theorem lead_lt {rows : List (List Int)} {n c l : Nat} {ls : List Nat} (h : leadsOf rows n c = l :: ls) : l < n ∧ c ≤ l := by
  have : l ∈ leadsOf rows n c := by rw [h]; exact List.mem_cons_self ..
  unfold leadsOf at this
  have h2 := (List.mem_filter.mp this).1
  obtain ⟨j, hj, rfl⟩ := List.mem_map.mp h2
  rw [List.mem_range] at hj
  omega
theorem backs_bd {x b : Int} {bs : List Int} (h : backsOf x = b :: bs) : 1 ≤ b ∧ b ≤ 100 := by
  have : b ∈ backsOf x := by rw [h]; exact List.mem_cons_self ..
  unfold backsOf at this
  have h2 := (List.mem_filter.mp this).1
  obtain ⟨j, hj, rfl⟩ := List.mem_map.mp h2
  rw [List.mem_range] at hj
  omega
theorem step_good {rows rows' : List (List Int)} {n c : Nat} (h : good rows n) (hc : c < n) (hs : indStep rows n c = some rows') : good rows' n := by
  unfold indStep at hs
  split at hs
  · cases hs
  · rename_i l ls hl
    split at hs
    · cases hs
    · rename_i b bs hb
      cases hs
      have hll := lead_lt hl
      have k1 := row_good h hll.1
      have k2 := row_good h hc
      have k3 := norm_good (b := b) (r := rows.getD l [])
      refine set_good (sweep_good (set_good h k2) (by rw [k3.1]; exact k1.1)) ⟨by rw [k3.1]; exact k1.1, k3.2⟩
end K16
namespace K16
open Ev
local macro_rules | `(tactic| decreasing_trivial_pre_omega) => `(tactic| simp -implicitDefEqProofs -dsimp only [*, turnC_def, turnF_def, as_tup, as_nil, as_cons, cw0, cw1, cw2, cw3, cw4, cw5, cw6, cw7, cw8, cw9, cw10, cw11, cw12, cw13, cw14, cw15, cw16, evalSs, evalS, evalE, evalB, evalRs, evalDs, evalIt, evalC, evP, peek_v, peek_t, peek_i, con_v, con_o, con_b, asVal_v, asVal_t, asVal_i, add_ii, sub_ii, add_ll, mod_if, lt_ii, le_ii, gt_ii, ge_ii, eq_ii, ne_ii, tru_b, ix_l, ix_s, sli_s, sli_l, sum_l, atI_n, len_l, len_s, int_i, max_ii, min_ii, bitlen_i, list_l, at_0, at_s, noExc_ok, Function.comp_def, flat_t, ite_self, isT_l, all_t, List.length_map, List.length_range, List.map_map, flat_i, flat_b, flat_n, flatO_n, mine_v, mine_o, mine_b, mine_n, free_v, free_o, free_n, put_o, put_b, back_n, back_s, hb_v, hb_t, left_n, left_i, hb_i, fin_r, fin_nx, pv_nil, pv_n, pv_s, pm_t, pm_i, fi_nil, fi_n, fi_s, permute_nil, atI_0, atI_1, atI_2, ixN_30, ixN_31, ixN_32, wipe_nil, wipe_cons, as_one, st_v, st_t, st_i, free_b, stores_nil, stores_cons, res_nil, res_v, res_t, res_i, tst_ok, sp_f, sp_l, isT, List.set_cons_zero, List.set_cons_succ, Ev.start, List.zipIdx_cons, List.zipIdx_nil, List.map_cons, List.map_nil, List.length_cons, List.length_nil, List.cons_append, List.nil_append, List.append_nil, Res.bind_ok, Res.bind_exc, Res.bind_bad, Res.of_some, Option.bind_some, Option.map_some, List.mapM_cons, List.mapM_nil, List.filterMap_cons, List.filterMap_nil, id, List.getElem?_cons_zero, List.getElem?_cons_succ, reduceIte, forL, LIM, range_1, Int.reduceToNat, Int.reduceNeg, Int.reduceDiv, Int.reduceMod, Int.ofNat_zero, Int.zero_add, Int.add_zero, Int.cast_ofNat_Int, Option.pure_def, Option.bind_eq_bind, Nat.zero_add, Nat.reduceAdd, Nat.reduceSub, Nat.reduceLeDiff, Nat.reduceLT, Nat.reduceEqDiff, Int.reduceLT, Int.reduceLE, Int.reduceAdd, Int.reduceMul, Int.reduceSub, Bool.true_and, Bool.and_true, Bool.false_and, Bool.and_false, Bool.and_self, decide_true, decide_false, Bool.false_eq_true, Bool.not_true, Bool.not_false, reduceCtorEq, Option.some.injEq, and_true, true_and, false_and, and_false, if_false, ↓reduceIte, and_self, or_true, true_or, List.replicate])
theorem ss_nx {call : Call} {s : Ev.S} {r : Ss} {e e1 : Env} (h : evalS T.chg T.gval call s e = .ok (.nx e1)) : evalSs T.chg T.gval call (.cons s r) e = evalSs T.chg T.gval call r e1 := by
  simp -dsimp only [evalSs, h, Res.bind_ok]
abbrev bInd : Ss := (.cons (.asg (.one 4) (.comp (.sl 9) (.one 9) (.ran2 (.sl 2) (.sl 3)) (some (.cmp .ne (.ix (.ix (.sl 0) (.sl 9)) (.sl 2)) (.con (.int 0)))) [9])) (.cons (.iff (.cmp .eq (.sl 4) (.lst .nil)) (.cons (.ret (.con (.bl false))) .nil) .nil) (.cons (.par [6, 7] (.cons false (.ix (.sl 0) (.ix (.sl 4) (.con (.int 0)))) (.cons false (.ix (.sl 0) (.sl 2)) .nil))) (.cons (.put 0 (.ix (.sl 4) (.con (.int 0))) (.sl 7)) (.cons (.asg (.one 5) (.ix (.comp (.sl 11) (.one 11) (.ran2 (.con (.int 1)) (.sl 1)) (some (.cmp .eq (.op .mod (.bi .int (.cons false (.op .mul (.sl 11) (.ix (.sl 6) (.sl 2))) .nil)) (.sl 1)) (.con (.int 1)))) [11]) (.con (.int 0)))) (.cons (.asg (.one 6) (.comp (.op .mod (.bi .int (.cons false (.op .mul (.sl 10) (.sl 5)) .nil)) (.sl 1)) (.one 10) (.seq (.sl 6)) none [10])) (.cons (.asg (.one 0) (.comp (.ite (.cmp .gt (.sl 9) (.sl 2)) (.comp (.op .mod (.bi .int (.cons false (.op .sub (.sl 12) (.op .mul (.ix (.sl 8) (.sl 2)) (.sl 13))) .nil)) (.sl 1)) (.tup [(.one 12), (.one 13)]) (.zip (.sl 8) (.sl 6) false) none [12, 13]) (.sl 8)) (.tup [(.one 9), (.one 8)]) (.enu (.sl 0)) none [8, 9])) (.cons (.put 0 (.sl 2) (.sl 6)) .nil))))))))
theorem turn_eval {call : Call} {rows rows' : List (List Int)} {n c : Nat} {P S4 S5 S6 S7 : Sl} (h : good rows n) (hc : c < n) (hn : n ≤ 100) (hP : P.free = true) (h4 : S4.free = true) (h5 : S5.free = true) (h6 : S6.free = true) (h7 : S7.free = true) (hs : indStep rows n c = some rows') :
    ∃ S4' S5' S6' S7', turnF (.one 2) (evalSs T.chg T.gval call bInd) (.int (c : Int)) [.own (eM rows), .val (.int 101), P, .val (.int (n : Int)), S4, S5, S6, S7, .no, .no, .no, .no, .no, .no] = .ok (.nx [.own (eM rows'), .val (.int 101), .val (.int (c : Int)), .val (.int (n : Int)), S4', S5', S6', S7', .no, .no, .no, .no, .no, .no]) ∧ S4'.free = true ∧ S5'.free = true ∧ S6'.free = true ∧ S7'.free = true := by
  have a1 : assignT (.one 2) (.int (c : Int)) [.own (eM rows), .val (.int 101), P, .val (.int (n : Int)), S4, S5, S6, S7, .no, .no, .no, .no, .no, .no] = some [.own (eM rows), .val (.int 101), .val (.int (c : Int)), .val (.int (n : Int)), S4, S5, S6, S7, .no, .no, .no, .no, .no, .no] := by
    rw [as_one, if_pos (by show (true && P.free) = true; rw [hP]; rfl)]; rfl
  unfold indStep at hs
  split at hs
  · cases hs
  · rename_i l ls hl
    split at hs
    · cases hs
    · rename_i b bs hb
      cases hs
      have hll := lead_lt hl
      have k1 := row_good h hll.1
      have k2 := row_good h hc
      have k3 := norm_good (b := b) (r := rows.getD l [])
      have k4 := set_good (l := l) h k2
      have k5 := backs_bd hb
      have hx := col_at h.1 hll.1 hc
      have hx2 : 0 ≤ colAt rows c l ∧ colAt rows c l < 101 := by
        refine k1.2 _ ?_
        unfold colAt
        rw [List.getD_eq_getElem?_getD (l := rows.getD l []), List.getElem?_eq_getElem (by rw [k1.1]; exact hc)]
        exact List.getElem_mem _
      have t1 := leads_eval (call := call) (p := .int 101) (S4 := S4) (S5 := S5) (S6 := S6) (S7 := S7) h.1 hc hn h4
      rw [hl, List.map_cons] at t1
      have t2 : evalS T.chg T.gval call (.iff (.cmp .eq (.sl 4) (.lst .nil)) (.cons (.ret (.con (.bl false))) .nil) .nil) [.own (eM rows), .val (.int 101), .val (.int (c : Int)), .val (.int (n : Int)), .own (.lst (.int (l : Int) :: ls.map fun (a : Nat) => .int (a : Int))), S5, S6, S7, .no, .no, .no, .no, .no, .no] = .ok (.nx [.own (eM rows), .val (.int 101), .val (.int (c : Int)), .val (.int (n : Int)), .own (.lst (.int (l : Int) :: ls.map fun (a : Nat) => .int (a : Int))), S5, S6, S7, .no, .no, .no, .no, .no, .no]) := by
        have q := eq_nil ((l : Int) :: ls.map fun (a : Nat) => (a : Int))
        rw [List.map_cons, List.map_map] at q
        have q2 : cop .eq (.lst (.int (l : Int) :: ls.map fun (a : Nat) => .int (a : Int))) (.lst []) = some false := by
          have e : (ls.map (D.int ∘ fun (a : Nat) => (a : Int))) = ls.map fun (a : Nat) => D.int (a : Int) := rfl
          rw [e] at q
          rw [q]; rfl
        simp -dsimp only [eM]
        clear q t1 a1 hl hb hx hx2 k1 k2 k3 k4 k5 h hll hc hn hP h4 h5 h6 h7
        decreasing_trivial_pre_omega
      have t3 := pick_eval (call := call) (p := .int 101) (ls := ls) (S5 := S5) h.1 hc hll.1 h6 h7
      have t4 := swap_eval (call := call) (c := c) (p := .int 101) (ls := ls) (S5 := S5) (S6 := .val (eI (rows.getD l []))) (r := rows.getD c []) h.1 hll.1
      have t5 := back_eval (call := call) (D0 := eM (rows.set l (rows.getD c []))) (n := n) (c := c) (S4 := .own (.lst (.int (l : Int) :: ls.map fun (a : Nat) => .int (a : Int)))) (S7 := .val (eI (rows.getD c []))) hx hx2 hb h5
      have t6 := norm_eval (call := call) (D0 := eM (rows.set l (rows.getD c []))) (n := n) (c := c) (S4 := .own (.lst (.int (l : Int) :: ls.map fun (a : Nat) => .int (a : Int)))) (S7 := .val (eI (rows.getD c []))) (r := rows.getD l []) (b := b) k1.2 (by omega) (by omega)
      obtain ⟨S6', q6, t7⟩ := sweep_eval (call := call) (S4 := .own (.lst (.int (l : Int) :: ls.map fun (a : Nat) => .int (a : Int)))) (S7 := .val (eI (rows.getD c []))) (B := .int b) k4.1 hc hn k4.2 k3.2 (by rw [k3.1]; omega)
      have k6 := sweep_good (c := c) k4 (by rw [k3.1]; exact k1.1)
      have t8 := putlead_eval (call := call) (n := n) (c := c) (S4 := .own (.lst (.int (l : Int) :: ls.map fun (a : Nat) => .int (a : Int)))) (S7 := .val (eI (rows.getD c []))) (B := .int b) (P := .int 101) k6.1.1 hc q6
      refine ⟨.own (.lst (.int (l : Int) :: ls.map fun (a : Nat) => .int (a : Int))), .val (.int b), .val (eI (norm b (rows.getD l []))), .val (eI (rows.getD c [])), ?_, rfl, rfl, rfl, rfl⟩
      rw [turnF_def, a1, Res.of_some, Res.bind_ok, bInd]
      rw [ss_nx t1, ss_nx t2, ss_nx t3, ss_nx t4, ss_nx t5, ss_nx t6, ss_nx t7, ss_nx t8]
      simp -dsimp only [evalSs]
def indGo (n : Nat) : Nat → List (List Int) → Option (List (List Int))
  | 0, rows => some rows
  | k + 1, rows => (indGo n k rows).bind fun r => indStep r n k
def mod101 (M : List (List Int)) : List (List Int) := M.map fun r => r.map fun x => x % 101
theorem mod_good {M : List (List Int)} {n : Nat} (h : sq M n) : good (mod101 M) n := by
  unfold mod101
  refine ⟨⟨by rw [List.length_map]; exact h.1, fun q hq => ?_⟩, fun q hq x hx => ?_⟩
  · obtain ⟨r, hr, rfl⟩ := List.mem_map.mp hq
    rw [List.length_map]; exact h.2 r hr
  · obtain ⟨r, hr, rfl⟩ := List.mem_map.mp hq
    obtain ⟨y, _, rfl⟩ := List.mem_map.mp hx
    exact mod_bd y
theorem par_eval {call : Call} {M : List (List Int)} {n : Nat} (h : sq M n) (hn : n ≤ 100) :
    evalS T.chg T.gval call (.par [0, 3] (.cons false (.comp (.comp (.op .mod (.bi .int (.cons false (.sl 10) .nil)) (.sl 1)) (.one 10) (.seq (.sl 8)) none [10]) (.one 8) (.seq (.sl 0)) none [8]) (.cons false (.bi .len (.cons false (.sl 0) .nil)) .nil))) [.val (eM M), .val (.int 101), .no, .no, .no, .no, .no, .no, .no, .no, .no, .no, .no, .no] =
      .ok (.nx [.own (eM (mod101 M)), .val (.int 101), .no, .val (.int (n : Int)), .no, .no, .no, .no, .no, .no, .no, .no, .no, .no]) := by
  have c1 : M.length ≤ 16777216 := by rw [h.1]; omega
  have c2 : ∀ r ∈ M, r.length ≤ 16777216 := fun r hr => by rw [h.2 r hr]; omega
  have c3 : (M.length : Int) = n := by rw [h.1]
  have e1 : ∀ r ∈ M, ∀ e0 : Env, (e0 = [.val (eM M), .val (.int 101), .no, .no, .no, .no, .no, .no, .val (eI r), .no, .no, .no, .no, .no]) → evalE T.chg T.gval call (.comp (.op .mod (.bi .int (.cons false (.sl 10) .nil)) (.sl 1)) (.one 10) (.seq (.sl 8)) none [10]) e0 = .ok (.tmp (eI (r.map fun x => x % 101)), e0) := by
    intro r hr e0 he
    subst he
    have c2' := c2 r hr
    clear c1 c2 c3 hr h
    simp -dsimp only [eM, eI]
    decreasing_trivial_pre_omega
    rw [compL_all D.int (fun x => .int (x % 101))]
    · decreasing_trivial_pre_omega
    · intro x hx
      clear c2' hx
      decreasing_trivial_pre_omega
  generalize E.comp (.op .mod (.bi .int (.cons false (.sl 10) .nil)) (.sl 1)) (.one 10) (.seq (.sl 8)) none [10] = X at e1 ⊢
  have e2 : compL (.one 8) (evalC T.chg T.gval call none) (evalE T.chg T.gval call X) [8] (M.map eI) [.val (eM M), .val (.int 101), .no, .no, .no, .no, .no, .no, .no, .no, .no, .no, .no, .no] = .ok ((mod101 M).map eI, [.val (eM M), .val (.int 101), .no, .no, .no, .no, .no, .no, .no, .no, .no, .no, .no, .no]) := by
    rw [compL_all eI (fun r => eI (r.map fun x => x % 101))]
    · unfold mod101; rw [List.map_map]; rfl
    · intro r hr
      have := e1 r hr _ rfl
      clear e1 hr c1 c2 c3 h
      simp -dsimp only [eM, eI] at this ⊢
      decreasing_trivial_pre_omega
  clear e1 h c2
  simp -dsimp only [evalS, evalRs, evalE, evalIt, eM] at e2 ⊢
  simp -dsimp only [evalRs, evalE, asVal_v, at_0, Res.of_some, Res.bind_ok, wipe_cons, wipe_nil, List.set_cons_succ, List.set_cons_zero, List.length_map, c1, if_true, e2, noExc_ok, peek_v, len_l, List.mapM_cons, List.mapM_nil, Option.pure_def, Option.bind_eq_bind, Option.bind_some, Bool.false_eq_true, if_false, res_t, res_v, res_nil, Option.map_some, stores_cons, stores_nil, st_t, st_v, List.length_cons, List.length_nil, free_v, free_n, at_s, c3]
  rfl
theorem indGo_good {M : List (List Int)} {n : Nat} (h : good M n) : ∀ (k : Nat) (r : List (List Int)), k ≤ n → indGo n k M = some r → good r n
  | 0, r, _, e => by cases e; exact h
  | k + 1, r, hk, e => by
    unfold indGo at e
    obtain ⟨r0, e1, e2⟩ := Option.bind_eq_some_iff.mp e
    exact step_good (indGo_good h k r0 (by omega) e1) (by omega) e2
theorem indGo_le {M R : List (List Int)} {n : Nat} : ∀ (d j : Nat), indGo n (j + d) M = some R → ∃ r, indGo n j M = some r
  | 0, j, h => ⟨R, h⟩
  | d + 1, j, h => by
    obtain ⟨r, e⟩ := indGo_le d (j + 1) (by rw [show j + 1 + d = j + (d + 1) by omega]; exact h)
    unfold indGo at e
    obtain ⟨r0, e1, e2⟩ := Option.bind_eq_some_iff.mp e
    exact ⟨r0, e1⟩
theorem ind_val (k : Nat) {M R : List (List Int)} {n : Nat} (h : sq M n) (hn : n ≤ 100) (hg : indGo n n (mod101 M) = some R) : callF T (k + 1) 8 [eM M, .int 101] = .ok (.val (.bl true), none) := by
  have hm := mod_good h
  rw [callF_succ (fd := f8.fn) rfl ⟨rfl, by decide⟩]
  have q1 := par_eval (call := callF T k) h hn
  have some_at : ∀ j, j ≤ n → ∃ r, indGo n j (mod101 M) = some r := by
    intro j hj
    exact indGo_le (n - j) j (by rw [show j + (n - j) = n by omega]; exact hg)
  obtain ⟨e', g1, g2⟩ := forL_nth (tg := .one 2) (body := evalSs T.chg T.gval (callF T k) bInd) (fun (i : Nat) => D.int (i : Int)) (fun i e => ∃ rows P S4 S5 S6 S7, indGo n i (mod101 M) = some rows ∧ P.free = true ∧ S4.free = true ∧ S5.free = true ∧ S6.free = true ∧ S7.free = true ∧ e = [.own (eM rows), .val (.int 101), P, .val (.int (n : Int)), S4, S5, S6, S7, .no, .no, .no, .no, .no, .no]) (List.range n) 0 [.own (eM (mod101 M)), .val (.int 101), .no, .val (.int (n : Int)), .no, .no, .no, .no, .no, .no, .no, .no, .no, .no] ⟨mod101 M, .no, .no, .no, .no, .no, rfl, rfl, rfl, rfl, rfl, rfl, rfl⟩ (by
      rintro j hj e ⟨rows, P, S4, S5, S6, S7, e1, hP, h4, h5, h6, h7, rfl⟩
      rw [List.length_range] at hj
      rw [Nat.zero_add] at e1 ⊢
      obtain ⟨rows', e2⟩ := some_at (j + 1) (by omega)
      have e3 : indStep rows n j = some rows' := by
        unfold indGo at e2
        rw [e1] at e2; exact e2
      obtain ⟨S4', S5', S6', S7', t, k4, k5, k6, k7⟩ := turn_eval (call := callF T k) (indGo_good hm j rows (by omega) e1) hj hn hP h4 h5 h6 h7 e3
      rw [List.getElem_range]
      exact ⟨_, .inl t, rows', .val (.int (j : Int)), S4', S5', S6', S7', e2, rfl, k4, k5, k6, k7, rfl⟩)
  have c1 : (n : Int) < 1000000000 := by omega
  have c2 : -1000000000 < (n : Int) := by omega
  have c3 : n ≤ 16777216 := by omega
  obtain ⟨rows, P, S4, S5, S6, S7, _, _, _, _, _, _, rfl⟩ := g2
  simp only [f8, b8]
  simp -implicitDefEqProofs -dsimp only [Ev.start, List.zipIdx_cons, List.zipIdx_nil, List.map_cons, List.map_nil, reduceCtorEq, if_false, List.length_cons, List.length_nil, Nat.zero_add, Nat.reduceAdd, Nat.reduceSub, List.cons_append, List.nil_append, List.replicate]
  rw [ss_nx q1]
  have q2 : evalS T.chg T.gval (callF T k) (.for_ (.one 2) (.ran1 (.sl 3)) bInd []) [.own (eM (mod101 M)), .val (.int 101), .no, .val (.int (n : Int)), .no, .no, .no, .no, .no, .no, .no, .no, .no, .no] = .ok (.nx [.own (eM rows), .val (.int 101), P, .val (.int (n : Int)), S4, S5, S6, S7, .no, .no, .no, .no, .no, .no]) := by
    clear q1 hm hg some_at h
    simp -implicitDefEqProofs -dsimp only [evalS, evalIt, evalE, at_s, at_0, Res.bind_ok, peek_v, c1, c2, true_and, Int.toNat_natCast, c3, if_true, wipe_nil, Int.zero_add]
    exact g1
  rw [ss_nx q2]
  clear q1 q2 g1 hm hg some_at h
  decreasing_trivial_pre_omega
end K16
namespace K16
open Ev
def MAT (G : List (List Int)) : List (List Int) := G.map fun p => G.map fun q => VAL q p
def tri (R : List (List Int)) : Bool := (List.range R.length).all fun c => ((R.getD c []).take c).all (fun x => x == 0) && ((R.getD c []).getD c 0 == 1)
def chkI (G : List (List Int)) : Bool :=
  if G.length ≤ 30 then match indGo G.length G.length (mod101 (MAT G)) with
    | some R => tri R
    | none => false else true
def chkS (ds : List Int) (t : Int) : Bool := decide ((HMl ds [1] t).sum = ((GRID ds t).length : Int)) && decide (1 ≤ (GRID ds t).length) && decide ((GRID ds t).length ≤ 20000)
def upto (n : Nat) : List Int := (List.range n).map fun (i : Nat) => (i : Int)
def allDs (n : Nat) : List (List Int) := ((upto n).map fun a => [a]) ++ ((upto n).flatMap fun a => (upto n).map fun b => [a, b]) ++ ((upto n).flatMap fun a => (upto n).flatMap fun b => (upto n).map fun c => [a, b, c])
theorem upto_mem {n : Nat} {x : Int} (h : 0 ≤ x ∧ x < n) : x ∈ upto n := by
  unfold upto
  exact List.mem_map.mpr ⟨x.toNat, List.mem_range.mpr (by omega), Int.toNat_of_nonneg h.1⟩
theorem allDs_mem {n : Nat} {ds : List Int} (h : ∀ d ∈ ds, 0 ≤ d ∧ d < n) (hl : 1 ≤ ds.length ∧ ds.length ≤ 3) : ds ∈ allDs n := by
  unfold allDs
  match ds, hl, h with
  | [a], _, h =>
    refine List.mem_append_left _ (List.mem_append_left _ ?_)
    exact List.mem_map.mpr ⟨a, upto_mem (h a (by simp)), rfl⟩
  | [a, b], _, h =>
    refine List.mem_append_left _ (List.mem_append_right _ ?_)
    exact List.mem_flatMap.mpr ⟨a, upto_mem (h a (by simp)), List.mem_map.mpr ⟨b, upto_mem (h b (by simp)), rfl⟩⟩
  | [a, b, c], _, h =>
    refine List.mem_append_right _ ?_
    exact List.mem_flatMap.mpr ⟨a, upto_mem (h a (by simp)), List.mem_flatMap.mpr ⟨b, upto_mem (h b (by simp)), List.mem_map.mpr ⟨c, upto_mem (h c (by simp)), rfl⟩⟩⟩
  | [], hl, _ => simp at hl
  | a :: b :: c :: d :: e, hl, _ => simp at hl
theorem chkS_all : ((allDs 5).all fun ds => (upto 7).all fun t => chkS ds t) = true := by decide +kernel
def chkC (a b : Nat) : Bool := (((allDs 4).drop a).take b).all fun ds => ((upto 6).filter fun t => decide (t ≤ ds.sum)).all fun t => chkI (GRID ds t)
theorem chkC_0 : chkC 0 7 = true := by decide +kernel
theorem chkC_7 : chkC 7 7 = true := by decide +kernel
theorem chkC_14 : chkC 14 7 = true := by decide +kernel
theorem chkC_21 : chkC 21 7 = true := by decide +kernel
theorem chkC_28 : chkC 28 7 = true := by decide +kernel
theorem chkC_35 : chkC 35 7 = true := by decide +kernel
theorem chkC_42 : chkC 42 7 = true := by decide +kernel
theorem chkC_49 : chkC 49 7 = true := by decide +kernel
theorem chkC_56 : chkC 56 7 = true := by decide +kernel
theorem chkC_63 : chkC 63 7 = true := by decide +kernel
theorem chkC_70 : chkC 70 7 = true := by decide +kernel
theorem chkC_77 : chkC 77 7 = true := by decide +kernel
theorem all_from {α : Type} {p : α → Bool} {l : List α} {a b : Nat} (h1 : ((l.drop a).take b).all p = true) (h2 : (l.drop (a + b)).all p = true) : (l.drop a).all p = true := by
  rw [List.all_eq_true] at *
  intro x hx
  rw [← List.take_append_drop b (l.drop a), List.drop_drop] at hx
  rcases List.mem_append.mp hx with h | h
  · exact h1 x h
  · exact h2 x h
theorem chkI_1 : ((allDs 4).all fun ds => ((upto 6).filter fun t => decide (t ≤ ds.sum)).all fun t => chkI (GRID ds t)) = true := by
  have e : ((allDs 4).drop 84).all (fun ds => ((upto 6).filter fun t => decide (t ≤ ds.sum)).all fun t => chkI (GRID ds t)) = true := by
    rw [List.drop_of_length_le (by decide)]; rfl
  have e := all_from (a := 77) (b := 7) chkC_77 e
  have e := all_from (a := 70) (b := 7) chkC_70 e
  have e := all_from (a := 63) (b := 7) chkC_63 e
  have e := all_from (a := 56) (b := 7) chkC_56 e
  have e := all_from (a := 49) (b := 7) chkC_49 e
  have e := all_from (a := 42) (b := 7) chkC_42 e
  have e := all_from (a := 35) (b := 7) chkC_35 e
  have e := all_from (a := 28) (b := 7) chkC_28 e
  have e := all_from (a := 21) (b := 7) chkC_21 e
  have e := all_from (a := 14) (b := 7) chkC_14 e
  have e := all_from (a := 7) (b := 7) chkC_7 e
  have e := all_from (a := 0) (b := 7) chkC_0 e
  exact e
theorem GRID_min (ds : List Int) (t : Int) : GRID ds (min t ds.sum) = GRID ds t := by
  unfold GRID
  rw [show min (min t ds.sum) ds.sum = min t ds.sum by omega]
theorem chkS_of {ds : List Int} {t : Int} (h : ∀ d ∈ ds, 0 ≤ d ∧ d ≤ 4) (hl : 1 ≤ ds.length ∧ ds.length ≤ 3) (ht : 0 ≤ t ∧ t ≤ 6) : (HMl ds [1] t).sum = ((GRID ds t).length : Int) ∧ 1 ≤ (GRID ds t).length ∧ (GRID ds t).length ≤ 20000 := by
  have a := List.all_eq_true.mp (List.all_eq_true.mp chkS_all ds (allDs_mem (fun d hd => by have := h d hd; omega) hl)) t (upto_mem (by omega))
  unfold chkS at a
  simp -dsimp only [Bool.and_eq_true, decide_eq_true_eq] at a
  exact ⟨a.1.1, a.1.2, a.2⟩
theorem chkI_of {ds : List Int} {t : Int} (h : ∀ d ∈ ds, 0 ≤ d ∧ d ≤ 3) (hl : 1 ≤ ds.length ∧ ds.length ≤ 3) (ht : 0 ≤ t ∧ t ≤ 5) : chkI (GRID ds t) = true := by
  have hs : 0 ≤ ds.sum := by
    have : ∀ l : List Int, (∀ d ∈ l, 0 ≤ d ∧ d ≤ 3) → 0 ≤ l.sum := by
      intro l
      induction l with
      | nil => simp
      | cons x l ih => intro h; have := ih fun d hd => h d (List.mem_cons_of_mem _ hd); have := h x (List.mem_cons_self ..); simp; omega
    exact this ds h
  rw [← GRID_min]
  have a := List.all_eq_true.mp chkI_1 ds (allDs_mem (n := 4) (fun d hd => by have := h d hd; omega) hl)
  exact List.all_eq_true.mp a (min t ds.sum) (List.mem_filter.mpr ⟨upto_mem (by omega), by simp -dsimp only [decide_eq_true_eq]; omega⟩)
theorem zip_ix {p ds : List Int} {P : Int → Int → Prop} : (∀ q ∈ p.zip ds, P q.1 q.2) ↔ ∀ (i : Nat) (h1 : i < p.length) (h2 : i < ds.length), P p[i] ds[i] := by
  constructor
  · intro h i h1 h2
    refine h (p[i], ds[i]) ?_
    rw [List.mem_iff_getElem]
    exact ⟨i, by rw [List.length_zip]; omega, by simp⟩
  · intro h q hq
    obtain ⟨i, hi, rfl⟩ := List.mem_iff_getElem.mp hq
    rw [List.length_zip] at hi
    simpa using h i (by omega) (by omega)
theorem sum_zip_le : ∀ (p ds : List Int), p.length = ds.length → (∀ q ∈ p.zip ds, 0 ≤ q.1 ∧ q.1 ≤ q.2) → p.sum ≤ ds.sum ∧ 0 ≤ p.sum
  | [], [], _, _ => by simp
  | x :: p, d :: ds, hl, h => by
    have h1 := sum_zip_le p ds (by simpa using hl) fun q hq => h q (by simp [hq])
    have h2 := h (x, d) (by simp)
    simp only [List.sum_cons]
    omega
  | [], _ :: _, hl, _ => by simp at hl
  | _ :: _, [], hl, _ => by simp at hl
theorem GRID_mem {ds : List Int} {t : Int} {p : List Int} : p ∈ GRID ds t ↔ p.length = ds.length ∧ (∀ (i : Nat) (h1 : i < p.length) (h2 : i < ds.length), 0 ≤ p[i] ∧ p[i] ≤ ds[i]) ∧ p.sum ≤ t := by
  rw [← zip_ix (P := fun a b => 0 ≤ a ∧ a ≤ b)]
  unfold GRID
  rw [List.mem_flatMap]
  constructor
  · rintro ⟨i, hi, hp⟩
    obtain ⟨h1, h2, h3, h4⟩ := (LOS_mem ds i p).mp hp
    rw [List.mem_range] at hi
    exact ⟨h1, h2, by omega⟩
  · rintro ⟨h1, h2, h3⟩
    have h4 := sum_zip_le p ds h1 h2
    refine ⟨p.sum.toNat, List.mem_range.mpr (by omega), (LOS_mem ds _ p).mpr ⟨h1, h2, by omega, ?_⟩⟩
    intro x hx
    obtain ⟨i, hi, rfl⟩ := List.mem_iff_getElem.mp hx
    have := (zip_ix (P := fun a b => 0 ≤ a ∧ a ≤ b)).mp h2 i hi (by omega)
    exact this.1
theorem sum_set : ∀ (l : List Int) (j : Nat) (x : Int) (h : j < l.length), (l.set j x).sum = l.sum - l[j] + x
  | a :: l, 0, x, _ => by simp; omega
  | a :: l, j + 1, x, h => by
    have := sum_set l j x (by simpa using h)
    simp [this]; omega
theorem grid_wide {ds : List Int} {t : Int} {p : List Int} {j : Nat} (hj : j < ds.length) (h : p ∈ GRID ds t) : p ∈ GRID (ds.set j (ds[j] + 1)) t := by
  rw [GRID_mem] at h ⊢
  refine ⟨by rw [List.length_set]; exact h.1, fun i h1 h2 => ?_, h.2.2⟩
  have := h.2.1 i h1 (by simpa using h2)
  rw [List.getElem_set]
  split
  · rename_i e; subst e; omega
  · exact this
theorem grid_deep {ds : List Int} {t : Int} {p : List Int} (h : p ∈ GRID ds t) : p ∈ GRID ds (t + 1) := by
  rw [GRID_mem] at h ⊢
  exact ⟨h.1, h.2.1, by omega⟩
theorem grid_less {ds : List Int} {t : Int} {p : List Int} {j : Nat} (hj : j < p.length) (h0 : 0 < p[j]) (h : p ∈ GRID ds t) : p.set j (p[j] - 1) ∈ GRID ds t := by
  rw [GRID_mem] at h ⊢
  refine ⟨by rw [List.length_set]; exact h.1, fun i h1 h2 => ?_, by rw [sum_set _ _ _ hj]; omega⟩
  have := h.2.1 i (by simpa using h1) h2
  rw [List.getElem_set]
  split
  · rename_i e; subst e; omega
  · exact this
theorem grid_len {ds : List Int} {t : Int} {p : List Int} (h : p ∈ GRID ds t) : p.length = ds.length := (GRID_mem.mp h).1
theorem grid_bd {ds : List Int} {t B : Int} {p : List Int} (hd : ∀ d ∈ ds, d ≤ B) (h : p ∈ GRID ds t) : ∀ x ∈ p, 0 ≤ x ∧ x ≤ B := by
  intro x hx
  obtain ⟨i, hi, rfl⟩ := List.mem_iff_getElem.mp hx
  have hl := grid_len h
  have h1 := (GRID_mem.mp h).2.1 i hi (by omega)
  have h2 := hd ds[i] (List.getElem_mem _)
  omega
theorem take_drop_set {α : Type} {l : List α} {j : Nat} (h : j < l.length) (x : α) : l.take j ++ [x] ++ l.drop (j + 1) = l.set j x := by
  rw [List.set_eq_take_append_cons_drop, if_pos h, List.append_assoc]; rfl
/-! no combination is 0 but the empty one -/
def dot (r v : List Int) : Int := ((r.zip v).map fun z => z.1 * z.2).sum
theorem dot_nil (v : List Int) : dot [] v = 0 := rfl
theorem dot_cons (x y : Int) (r v : List Int) : dot (x :: r) (y :: v) = x * y + dot r v := by simp [dot]
def orth (v r : List Int) : Prop := dot r v % 101 = 0
theorem emod_mul (a b : Int) : (a % 101) * b % 101 = a * b % 101 := by
  rw [Int.mul_emod, Int.emod_emod_of_dvd _ (Int.dvd_refl 101), ← Int.mul_emod]
theorem dot_mod : ∀ (r v : List Int), dot (r.map fun x => x % 101) v % 101 = dot r v % 101
  | [], v => by simp [dot]
  | x :: r, [] => by simp [dot]
  | x :: r, y :: v => by
    have ih := dot_mod r v
    rw [List.map_cons, dot_cons, dot_cons, Int.add_emod, ih, emod_mul, ← Int.add_emod]
theorem dot_norm (b : Int) : ∀ (r v : List Int), dot (norm b r) v % 101 = b * dot r v % 101
  | [], v => by simp [dot, norm]
  | x :: r, [] => by simp [dot, norm]
  | x :: r, y :: v => by
    have ih := dot_norm b r v
    rw [show norm b (x :: r) = (x * b % 101) :: norm b r from rfl, dot_cons, dot_cons, Int.add_emod, ih, emod_mul, ← Int.add_emod, Int.mul_add]
    congr 1
    rw [Int.mul_comm x b, Int.mul_assoc]
theorem dot_upd (c : Int) : ∀ (r l v : List Int), r.length = l.length → dot (upd r l c) v % 101 = (dot r v - c * dot l v) % 101
  | [], [], v, _ => by simp [dot, upd]
  | x :: r, z :: l, [], _ => by simp [dot, upd]
  | x :: r, z :: l, y :: v, h => by
    have ih := dot_upd c r l v (by simpa using h)
    rw [show upd (x :: r) (z :: l) c = ((x - c * z) % 101) :: upd r l c from rfl, dot_cons, dot_cons, dot_cons, Int.add_emod, ih, emod_mul, ← Int.add_emod]
    congr 1
    rw [Int.sub_mul, Int.mul_add, Int.mul_assoc]
    omega
  | [], _ :: _, v, h => by simp at h
  | _ :: _, [], v, h => by simp at h
def orths (v : List Int) (M : List (List Int)) : Prop := ∀ r ∈ M, orth v r
theorem orth_norm {v r : List Int} {b : Int} (h : orth v r) : orth v (norm b r) := by
  unfold orth at *
  rw [dot_norm, Int.mul_emod, h]; simp
theorem orth_step {M M' : List (List Int)} {n c : Nat} {v : List Int} (hg : good M n) (hc : c < n) (h : orths v M) (hs : indStep M n c = some M') : orths v M' := by
  unfold indStep at hs
  split at hs
  · cases hs
  · rename_i l ls hl
    split at hs
    · cases hs
    · rename_i b bs hb
      cases hs
      have hll := lead_lt hl
      have getO : ∀ a, a < n → orth v (M.getD a []) := fun a ha => by
        rw [List.getD_eq_getElem?_getD, List.getElem?_eq_getElem (by rw [hg.1.1]; exact ha)]
        exact h _ (List.getElem_mem _)
      have o1 := orth_norm (b := b) (getO l hll.1)
      have o2 := getO c hc
      intro r hr
      rcases List.mem_or_eq_of_mem_set hr with hr | hr
      · unfold sweep at hr
        obtain ⟨⟨q, a⟩, hz, rfl⟩ := List.mem_map.mp hr
        have hr1 := List.mem_zipIdx hz
        have hrm : q ∈ M.set l (M.getD c []) := by rw [hr1.2.2]; exact List.getElem_mem _
        have hq : orth v q ∧ q.length = n := by
          rcases List.mem_or_eq_of_mem_set hrm with hq | hq
          · exact ⟨h q hq, hg.1.2 q hq⟩
          · rw [hq]; exact ⟨o2, (row_good hg hc).1⟩
        split
        · unfold orth at *
          rw [dot_upd _ _ _ _ (by rw [hq.2, norm_good.1, (row_good hg hll.1).1]), Int.sub_emod, hq.1, Int.mul_emod, o1]
          simp
        · exact hq.1
      · rw [hr]; exact o1
theorem orth_go {M : List (List Int)} {n : Nat} {v : List Int} (hg : good M n) (h : orths v M) : ∀ (k : Nat) (r : List (List Int)), k ≤ n → indGo n k M = some r → orths v r
  | 0, r, _, e => by cases e; exact h
  | k + 1, r, hk, e => by
    unfold indGo at e
    obtain ⟨r0, e1, e2⟩ := Option.bind_eq_some_iff.mp e
    exact orth_step (indGo_good hg k r0 (by omega) e1) (by omega) (orth_go hg h k r0 (by omega) e1) e2
theorem dot_zero : ∀ (r v : List Int), (∀ y ∈ v, y % 101 = 0) → dot r v % 101 = 0
  | [], v, _ => by simp [dot]
  | x :: r, [], _ => by simp [dot]
  | x :: r, y :: v, h => by
    have ih := dot_zero r v fun z hz => h z (List.mem_cons_of_mem _ hz)
    have h0 := h y (List.mem_cons_self ..)
    rw [dot_cons, Int.add_emod, ih, Int.mul_emod, h0]
    simp
theorem tri_row : ∀ (c : Nat) (r v : List Int), c < r.length → r.length = v.length → (r.take c).all (fun x => x == 0) = true → r.getD c 0 = 1 → (∀ y ∈ v.drop (c + 1), y % 101 = 0) → dot r v % 101 = v.getD c 0 % 101
  | 0, x :: r, y :: v, _, _, _, h1, h2 => by
    have hx : x = 1 := by simpa using h1
    have := dot_zero r v (by simpa using h2)
    rw [dot_cons, hx]
    simp only [List.getD_cons_zero]
    omega
  | c + 1, x :: r, y :: v, hc, hl, ht, h1, h2 => by
    have hx : x = 0 := by
      rw [List.take_succ_cons, List.all_cons, Bool.and_eq_true] at ht
      simpa using ht.1
    have ht2 : (r.take c).all (fun x => x == 0) = true := by
      rw [List.take_succ_cons, List.all_cons, Bool.and_eq_true] at ht
      exact ht.2
    have ih := tri_row c r v (by simpa using hc) (by simpa using hl) ht2 (by simpa using h1) (by simpa using h2)
    rw [dot_cons, hx, List.getD_cons_succ]
    simpa using ih
  | _, [], _, hc, _, _, _, _ => by simp at hc
  | _, x :: r, [], hc, hl, _, _, _ => by simp at hl
theorem tri_zero {R : List (List Int)} {n : Nat} {v : List Int} (hg : good R n) (ht : tri R = true) (hv : v.length = n) (ho : orths v R) : ∀ y ∈ v, y % 101 = 0 := by
  have key : ∀ k, k ≤ n → ∀ y ∈ v.drop (n - k), y % 101 = 0 := by
    intro k
    induction k with
    | zero => intro _ y hy; rw [List.drop_of_length_le (by omega)] at hy; simp at hy
    | succ k ih =>
      intro hk y hy
      have hc : n - (k + 1) < n := by omega
      have h1 := List.all_eq_true.mp ht (n - (k + 1)) (List.mem_range.mpr (by rw [hg.1.1]; exact hc))
      rw [Bool.and_eq_true] at h1
      have rg := row_good hg hc
      have ro : orth v (R.getD (n - (k + 1)) []) := by
        rw [List.getD_eq_getElem?_getD, List.getElem?_eq_getElem (by rw [hg.1.1]; exact hc)]
        exact ho _ (List.getElem_mem _)
      have e1 : n - (k + 1) + 1 = n - k := by omega
      have t := tri_row (n - (k + 1)) _ v (by rw [rg.1]; exact hc) (by rw [rg.1, hv]) h1.1 (by simpa using h1.2) (by rw [e1]; exact ih (by omega))
      unfold orth at ro
      rw [ro] at t
      rw [List.drop_eq_getElem_cons (by omega)] at hy
      rcases List.mem_cons.mp hy with hy | hy
      · rw [hy]
        rw [List.getD_eq_getElem?_getD, List.getElem?_eq_getElem (by omega)] at t
        exact t.symm
      · rw [e1] at hy
        exact ih (by omega) y hy
  have := key n (Nat.le_refl n)
  rw [Nat.sub_self] at this
  exact this
theorem dot_comm : ∀ (r v : List Int), dot r v = dot v r
  | [], [] => rfl
  | [], _ :: _ => rfl
  | _ :: _, [] => rfl
  | x :: r, y :: v => by rw [dot_cons, dot_cons, dot_comm r v, Int.mul_comm]
theorem orth_mod {v : List Int} {M : List (List Int)} (h : orths v M) : orths v (mod101 M) := by
  intro r hr
  unfold mod101 at hr
  obtain ⟨q, hq, rfl⟩ := List.mem_map.mp hr
  unfold orth
  rw [dot_mod]
  exact h q hq
theorem MAT_sq (G : List (List Int)) : sq (MAT G) G.length := by
  unfold MAT
  refine ⟨List.length_map .., fun r hr => ?_⟩
  obtain ⟨p, _, rfl⟩ := List.mem_map.mp hr
  exact List.length_map ..
theorem dot_zeros : ∀ (v r : List Int), (∀ y ∈ v, y = 0) → dot v r = 0
  | [], r, _ => by simp [dot]
  | x :: v, [], _ => by simp [dot]
  | x :: v, y :: r, h => by
    rw [dot_cons, dot_zeros v r fun z hz => h z (List.mem_cons_of_mem _ hz), h x (List.mem_cons_self ..)]
    simp
/-- the numbers are all 0 just if the values are -/
theorem both_zero {G : List (List Int)} {v : List Int} (hc : chkI G = true) (hG : G.length ≤ 30) (hv : v.length = G.length) (hb : ∀ y ∈ v, -3 ≤ y ∧ y ≤ 3) :
    (∃ R, indGo G.length G.length (mod101 (MAT G)) = some R) ∧ ((∀ y ∈ (MAT G).map (dot v), y = 0) ↔ ∀ y ∈ v, y = 0) := by
  unfold chkI at hc
  rw [if_pos hG] at hc
  split at hc
  · rename_i R hR
    refine ⟨⟨R, hR⟩, fun h => ?_, fun h y hy => ?_⟩
    · have o : orths v (MAT G) := fun r hr => by
        unfold orth
        rw [dot_comm, h (dot v r) (List.mem_map.mpr ⟨r, hr, rfl⟩)]
        rfl
      have g := mod_good (MAT_sq G)
      have z := tri_zero (indGo_good g G.length R (Nat.le_refl _) hR) hc hv (orth_go g (orth_mod o) G.length R (Nat.le_refl _) hR)
      intro y hy
      have := z y hy
      have := hb y hy
      omega
    · obtain ⟨r, _, rfl⟩ := List.mem_map.mp hy
      exact dot_zeros v r h
  · cases hc
end K16
namespace K16
open Ev
local macro_rules | `(tactic| decreasing_trivial_pre_omega) => `(tactic| simp -implicitDefEqProofs -dsimp only [*, turnC_def, turnF_def, as_tup, as_nil, as_cons, cw0, cw1, cw2, cw3, cw4, cw5, cw6, cw7, cw8, cw9, cw10, cw11, cw12, cw13, cw14, cw15, cw16, evalSs, evalS, evalE, evalB, evalRs, evalDs, evalIt, evalC, evP, peek_v, peek_t, peek_i, con_v, con_o, con_b, asVal_v, asVal_t, asVal_i, add_ii, sub_ii, add_ll, mod_if, lt_ii, le_ii, gt_ii, ge_ii, eq_ii, ne_ii, tru_b, ix_l, ix_s, sli_s, sli_l, sum_l, atI_n, len_l, len_s, int_i, max_ii, min_ii, bitlen_i, list_l, at_0, at_s, noExc_ok, Function.comp_def, flat_t, ite_self, isT_l, all_t, List.length_map, List.length_range, List.map_map, flat_i, flat_b, flat_n, flatO_n, mine_v, mine_o, mine_b, mine_n, free_v, free_o, free_n, put_o, put_b, back_n, back_s, hb_v, hb_t, left_n, left_i, hb_i, fin_r, fin_nx, pv_nil, pv_n, pv_s, pm_t, pm_i, fi_nil, fi_n, fi_s, permute_nil, atI_0, atI_1, atI_2, ixN_30, ixN_31, ixN_32, wipe_nil, wipe_cons, as_one, st_v, st_t, st_i, free_b, stores_nil, stores_cons, res_nil, res_v, res_t, res_i, tst_ok, sp_f, sp_l, isT, List.set_cons_zero, List.set_cons_succ, Ev.start, List.zipIdx_cons, List.zipIdx_nil, List.map_cons, List.map_nil, List.length_cons, List.length_nil, List.cons_append, List.nil_append, List.append_nil, Res.bind_ok, Res.bind_exc, Res.bind_bad, Res.of_some, Option.bind_some, Option.map_some, List.mapM_cons, List.mapM_nil, List.filterMap_cons, List.filterMap_nil, id, List.getElem?_cons_zero, List.getElem?_cons_succ, reduceIte, forL, LIM, range_1, Int.reduceToNat, Int.reduceNeg, Int.reduceDiv, Int.reduceMod, Int.ofNat_zero, Int.zero_add, Int.add_zero, Int.cast_ofNat_Int, Option.pure_def, Option.bind_eq_bind, Nat.zero_add, Nat.reduceAdd, Nat.reduceSub, Nat.reduceLeDiff, Nat.reduceLT, Nat.reduceEqDiff, Int.reduceLT, Int.reduceLE, Int.reduceAdd, Int.reduceMul, Int.reduceSub, Bool.true_and, Bool.and_true, Bool.false_and, Bool.and_false, Bool.and_self, decide_true, decide_false, Bool.false_eq_true, Bool.not_true, Bool.not_false, reduceCtorEq, Option.some.injEq, and_true, true_and, false_and, and_false, if_false, ↓reduceIte, and_self, or_true, true_or, List.replicate])
theorem draw_eval (k : Nat) {a b c n : Int} {rest : Env} {X : E} (hX : evalE T.chg T.gval (callF T (k + 2)) X (.byr (gD3 a b c) :: rest) = .ok (.val (.int n), .byr (gD3 a b c) :: rest)) (ha : 0 ≤ a) (hb : 0 ≤ b ∧ b < 2147483647) (hc : 0 ≤ c ∧ c < 999999) (hn : 1 ≤ n ∧ n ≤ 7) :
    ∃ d a' c', evalE T.chg T.gval (callF T (k + 2)) (.call 4 (.cons false (.sl 0) (.cons false X .nil)) .nil []) (.byr (gD3 a b c) :: rest) = .ok (.val (.int d), .byr (gD3 a' b c') :: rest) ∧ 0 ≤ d ∧ d < n ∧ 0 ≤ a' ∧ c ≤ c' ∧ c' ≤ c + 1 := by
  obtain ⟨d, a', c', h1, h2⟩ := random_val k a b c n ha hb hc hn
  refine ⟨d, a', c', ?_, h2⟩
  clear h2 hn hc hb ha
  generalize gD3 a b c = g1 at *
  generalize gD3 a' b c' = g2 at *
  generalize callF T (k + 2) = call at *
  decreasing_trivial_pre_omega
/-- the degrees and the total -/
theorem st1_eval (k : Nat) {a b c : Int} (ha : 0 ≤ a) (hb : 0 ≤ b ∧ b < 2147483647) (hc : 0 ≤ c ∧ c < 900000) :
    ∃ (ds : List Int) (t a' c' : Int), evalS T.chg T.gval (callF T (k + 2)) (.par [8, 9] (.cons false (.comp (.call 4 (.cons false (.sl 0) (.cons false (.con (.int 4)) .nil)) .nil []) (.one 16) (.ran1 (.op .add (.con (.int 1)) (.call 4 (.cons false (.sl 0) (.cons false (.con (.int 3)) .nil)) .nil []))) none [16]) (.cons false (.call 4 (.cons false (.sl 0) (.cons false (.con (.int 6)) .nil)) .nil []) .nil))) (.byr (gD3 a b c) :: [.no, .no, .no, .no, .no, .no, .no, .no, .no, .no, .no, .no, .no, .no, .no, .no, .no]) =
      .ok (.nx (.byr (gD3 a' b c') :: [.no, .no, .no, .no, .no, .no, .no, .own (eI ds), .val (.int t), .no, .no, .no, .no, .no, .no, .no, .no])) ∧ (1 ≤ ds.length ∧ ds.length ≤ 3) ∧ (∀ d ∈ ds, 0 ≤ d ∧ d ≤ 3) ∧ (0 ≤ t ∧ t ≤ 5) ∧ 0 ≤ a' ∧ c ≤ c' ∧ c' ≤ c + 5 := by
  obtain ⟨n, a1, c1, e1, q1, q2, q3, q4, q5⟩ := draw_eval k (a := a) (b := b) (c := c) (n := 3) (rest := [.no, .no, .no, .no, .no, .no, .no, .no, .no, .no, .no, .no, .no, .no, .no, .no, .no]) (X := .con (.int 3)) (by simp -dsimp only [evalE]) ha hb (by omega) (by omega)
  have cc := draws_L (elt := evalE T.chg T.gval (callF T (k + 2)) (.call 4 (.cons false (.sl 0) (.cons false (.con (.int 4)) .nil)) .nil [])) (P := fun d => 0 ≤ d ∧ d ≤ 3) (b := b) (fun a c rest ha hc hc2 => by
    obtain ⟨d, a', c', e, h1, h2, h3⟩ := draw_eval k (a := a) (b := b) (c := c) (n := 4) (rest := rest) (X := .con (.int 4)) (by simp -dsimp only [evalE]) ha hb ⟨hc, hc2⟩ (by omega)
    exact ⟨d, a', c', e, ⟨h1, by omega⟩, h3⟩) (cond := evalC T.chg T.gval (callF T (k + 2)) none) (fun e => by simp -dsimp only [evalC]) (t := 15) (rest := [.no, .no, .no, .no, .no, .no, .no, .no, .no, .no, .no, .no, .no, .no, .no, .no, .no]) (by decide) rfl
    ((List.range (1 + n).toNat).map fun (i : Nat) => .int (0 + (i : Int))) a1 c1 q3 (by omega) (by rw [List.length_map, List.length_range]; omega)
  obtain ⟨ds, a2, c2, e2, r1, r2, r3, r4, r5⟩ := cc
  rw [List.length_map, List.length_range] at r1 r5
  obtain ⟨t, a3, c3, e3, s1, s2, s3, s4, s5⟩ := draw_eval k (a := a2) (b := b) (c := c2) (n := 6) (rest := [.no, .no, .no, .no, .no, .no, .no, .no, .no, .no, .no, .no, .no, .no, .no, .no, .no]) (X := .con (.int 6)) (by simp -dsimp only [evalE]) r3 hb (by omega) (by omega)
  refine ⟨ds, t, a3, c3, ?_, by omega, r2, by omega, s3, by omega, by omega⟩
  have d1 : 1 + n < 1000000000 ∧ -1000000000 < 1 + n ∧ (1 + n).toNat ≤ LIM := ⟨by omega, by omega, by show _ ≤ 16777216; omega⟩
  have d2 : (1 + n).toNat ≤ LIM := d1.2.2
  generalize E.call 4 (.cons false (.sl 0) (.cons false (.con (.int 3)) .nil)) .nil [] = X1 at *
  generalize E.call 4 (.cons false (.sl 0) (.cons false (.con (.int 4)) .nil)) .nil [] = X2 at *
  generalize E.call 4 (.cons false (.sl 0) (.cons false (.con (.int 6)) .nil)) .nil [] = X3 at *
  generalize callF T (k + 2) = call at *
  generalize gD3 a b c = g1 at *
  generalize gD3 a1 b c1 = g2 at *
  generalize gD3 a2 b c2 = g3 at *
  generalize gD3 a3 b c3 = g4 at *
  simp -implicitDefEqProofs -dsimp only [evalS, evalRs, evalE, evalIt, e1, e3, Res.bind_ok, peek_v, add_ii, Res.of_some, d1, and_self, if_true, List.length_map, List.length_range, wipe_cons, wipe_nil, List.set_cons_succ, List.set_cons_zero, e2, noExc_ok, Bool.false_eq_true, if_false, res_t, res_v, res_nil, Option.map_some, stores_cons, stores_nil, st_t, st_v, List.length_cons, List.length_nil, free_v, free_n, at_s, at_0, Option.bind_some]
  decreasing_trivial_pre_omega
end K16
namespace K16
open Ev
local macro_rules | `(tactic| decreasing_trivial_pre_omega) => `(tactic| simp -implicitDefEqProofs -dsimp only [*, turnC_def, turnF_def, as_tup, as_nil, as_cons, cw0, cw1, cw2, cw3, cw4, cw5, cw6, cw7, cw8, cw9, cw10, cw11, cw12, cw13, cw14, cw15, cw16, evalSs, evalS, evalE, evalB, evalRs, evalDs, evalIt, evalC, evP, peek_v, peek_t, peek_i, con_v, con_o, con_b, asVal_v, asVal_t, asVal_i, add_ii, sub_ii, add_ll, mod_if, lt_ii, le_ii, gt_ii, ge_ii, eq_ii, ne_ii, tru_b, ix_l, ix_s, sli_s, sli_l, sum_l, atI_n, len_l, len_s, int_i, max_ii, min_ii, bitlen_i, list_l, at_0, at_s, noExc_ok, Function.comp_def, flat_t, ite_self, isT_l, all_t, List.length_map, List.length_range, List.map_map, flat_i, flat_b, flat_n, flatO_n, mine_v, mine_o, mine_b, mine_n, free_v, free_o, free_n, put_o, put_b, back_n, back_s, hb_v, hb_t, left_n, left_i, hb_i, fin_r, fin_nx, pv_nil, pv_n, pv_s, pm_t, pm_i, fi_nil, fi_n, fi_s, permute_nil, atI_0, atI_1, atI_2, ixN_30, ixN_31, ixN_32, wipe_nil, wipe_cons, as_one, st_v, st_t, st_i, free_b, stores_nil, stores_cons, res_nil, res_v, res_t, res_i, tst_ok, sp_f, sp_l, isT, List.set_cons_zero, List.set_cons_succ, Ev.start, List.zipIdx_cons, List.zipIdx_nil, List.map_cons, List.map_nil, List.length_cons, List.length_nil, List.cons_append, List.nil_append, List.append_nil, Res.bind_ok, Res.bind_exc, Res.bind_bad, Res.of_some, Option.bind_some, Option.map_some, List.mapM_cons, List.mapM_nil, List.filterMap_cons, List.filterMap_nil, id, List.getElem?_cons_zero, List.getElem?_cons_succ, reduceIte, forL, LIM, range_1, Int.reduceToNat, Int.reduceNeg, Int.reduceDiv, Int.reduceMod, Int.ofNat_zero, Int.zero_add, Int.add_zero, Int.cast_ofNat_Int, Option.pure_def, Option.bind_eq_bind, Nat.zero_add, Nat.reduceAdd, Nat.reduceSub, Nat.reduceLeDiff, Nat.reduceLT, Nat.reduceEqDiff, Int.reduceLT, Int.reduceLE, Int.reduceAdd, Int.reduceMul, Int.reduceSub, Bool.true_and, Bool.and_true, Bool.false_and, Bool.and_false, Bool.and_self, decide_true, decide_false, Bool.false_eq_true, Bool.not_true, Bool.not_false, reduceCtorEq, Option.some.injEq, and_true, true_and, false_and, and_false, if_false, ↓reduceIte, and_self, or_true, true_or, List.replicate])
theorem flat_eM {G : List (List Int)} (h : 1 ≤ G.length) : (D.lst (G.map fun l => D.lst (l.map .int))).flat = false := by
  cases G with
  | nil => simp at h
  | cons x G => rfl
theorem st2_eval (k : Nat) {g : D} {ds : List Int} {t : Int} (hd : ∀ d ∈ ds, 0 ≤ d ∧ d ≤ 3) (hl : 1 ≤ ds.length ∧ ds.length ≤ 3) (ht : 0 ≤ t ∧ t ≤ 5) {r : Ss} :
    evalSs T.chg T.gval (callF T (k + 10)) (.cons (.asg (.one 1) (.call 5 (.cons false (.sl 8) (.cons false (.sl 9) .nil)) .nil [])) (.cons (.iff (.cmp .ne (.bi .len (.cons false (.sl 1) .nil)) (.call 6 (.cons false (.sl 8) (.cons false (.sl 9) .nil)) .nil [])) (.cons (.ret (.con (.bl false))) .nil) .nil) (.cons (.iff (.cmp .gt (.bi .len (.cons false (.sl 1) .nil)) (.con (.int 30))) (.cons (.ret (.con (.bl true))) .nil) .nil) r)))
      (.byr g :: [.no, .no, .no, .no, .no, .no, .no, .own (eI ds), .val (.int t), .no, .no, .no, .no, .no, .no, .no, .no]) =
      if 30 < (GRID ds t).length then .ok (.ret (.val (.bl true)) (.byr g :: [.own (eM (GRID ds t)), .no, .no, .no, .no, .no, .no, .val (eI ds), .val (.int t), .no, .no, .no, .no, .no, .no, .no, .no])) else
        evalSs T.chg T.gval (callF T (k + 10)) r (.byr g :: [.own (eM (GRID ds t)), .no, .no, .no, .no, .no, .no, .val (eI ds), .val (.int t), .no, .no, .no, .no, .no, .no, .no, .no]) := by
  have hd' : ∀ d ∈ ds, 0 ≤ d ∧ d ≤ 4 := fun d h => by have := hd d h; omega
  obtain ⟨f1, f2, f3⟩ := chkS_of hd' hl (t := t) (by omega)
  have e1 := least_val ds k t hd' (by omega) (by omega) (by omega)
  have e2 := size_val ds (k + 5) t hd' (by omega) (by omega)
  rw [f1] at e2
  have e3 := flat_eM f2
  have e4 : cop .ne (.int ((GRID ds t).length : Int)) (.int ((GRID ds t).length : Int)) = some false := by rw [ne_ii]; simp
  clear hd hd' hl ht f1 f2 f3
  generalize callF T (k + 10) = call at *
  have e5 : ((30 : Int) < ((GRID ds t).length : Int)) ↔ (30 < (GRID ds t).length) := by omega
  generalize GRID ds t = G at *
  simp -dsimp only [eI, eM] at *
  by_cases h : 30 < G.length
  · have h' : (30 : Int) < (G.length : Int) := e5.mpr h
    clear e5
    decreasing_trivial_pre_omega
  · have h' : ¬ (30 : Int) < (G.length : Int) := fun q => h (e5.mp q)
    clear e5
    decreasing_trivial_pre_omega
theorem st5_eval (k : Nat) {g : D} {ds : List Int} {t : Int} {G : List (List Int)} (hG : ∀ p ∈ G, (∀ x ∈ p, 0 ≤ x ∧ x ≤ 4) ∧ p.length ≤ 4) (hl : G.length ≤ 100) :
    evalS T.chg T.gval (callF T (k + 1)) (.asg (.one 2) (.comp (.comp (.call 7 (.cons false (.sl 12) (.cons false (.sl 7) .nil)) .nil []) (.one 12) (.seq (.sl 1)) none [12]) (.one 7) (.seq (.sl 1)) none [7]))
      (.byr g :: [.own (eM G), .no, .no, .no, .no, .no, .no, .val (eI ds), .val (.int t), .no, .no, .no, .no, .no, .no, .no, .no]) =
      .ok (.nx (.byr g :: [.val (eM G), .own (eM (MAT G)), .no, .no, .no, .no, .no, .val (eI ds), .val (.int t), .no, .no, .no, .no, .no, .no, .no, .no])) := by
  have c1 : G.length ≤ 16777216 := by omega
  have e1 : ∀ p ∈ G, ∀ e0 : Env, (e0 = (.byr g :: [.val (eM G), .no, .no, .no, .no, .no, .val (eI p), .val (eI ds), .val (.int t), .no, .no, .no, .no, .no, .no, .no, .no])) → evalE T.chg T.gval (callF T (k + 1)) (.comp (.call 7 (.cons false (.sl 12) (.cons false (.sl 7) .nil)) .nil []) (.one 12) (.seq (.sl 1)) none [12]) e0 = .ok (.tmp (eI (G.map fun q => VAL q p)), e0) := by
    intro p hp e0 he
    subst he
    have hv := fun q hq => value_val k q p (hG q hq).1 (hG p hp).1 (hG q hq).2
    clear hp hG hl
    generalize callF T (k + 1) = call at *
    simp -dsimp only [eM, eI] at *
    revert hv
    decreasing_trivial_pre_omega
    intro hv
    rw [compL_all eI (fun q => .int (VAL q p))]
    · clear hv
      decreasing_trivial_pre_omega
    · intro q hq
      have hv' := hv q hq
      clear hv hq c1
      simp -dsimp only [eI]
      decreasing_trivial_pre_omega
  generalize E.comp (.call 7 (.cons false (.sl 12) (.cons false (.sl 7) .nil)) .nil []) (.one 12) (.seq (.sl 1)) none [12] = X at e1 ⊢
  have e2 : compL (.one 7) (evalC T.chg T.gval (callF T (k + 1)) none) (evalE T.chg T.gval (callF T (k + 1)) X) [7] (G.map eI) (.byr g :: [.val (eM G), .no, .no, .no, .no, .no, .no, .val (eI ds), .val (.int t), .no, .no, .no, .no, .no, .no, .no, .no]) = .ok ((MAT G).map eI, (.byr g :: [.val (eM G), .no, .no, .no, .no, .no, .no, .val (eI ds), .val (.int t), .no, .no, .no, .no, .no, .no, .no, .no])) := by
    rw [compL_all eI (fun p => eI (G.map fun q => VAL q p))]
    · unfold MAT; rw [List.map_map]; rfl
    · intro p hp
      have := e1 p hp _ rfl
      clear e1 hp hG hl c1
      generalize callF T (k + 1) = call at *
      simp -dsimp only [eM, eI] at this ⊢
      decreasing_trivial_pre_omega
  clear e1 hG hl
  generalize callF T (k + 1) = call at *
  simp -dsimp only [eM] at e2 ⊢
  simp -implicitDefEqProofs -dsimp only [evalS, evalE, evalIt, asVal_i, at_s, at_0, Res.of_some, Res.bind_ok, wipe_cons, wipe_nil, List.set_cons_succ, List.set_cons_zero, List.length_map, c1, if_true, e2, noExc_ok, st_t, List.length_cons, List.length_nil, free_n]
  rfl
theorem st6_eval (k : Nat) {g : D} {rest : Env} {S1 : Sl} {M R : List (List Int)} {n : Nat} (h : sq M n) (hn : n ≤ 100) (hg : indGo n n (mod101 M) = some R) :
    evalS T.chg T.gval (callF T (k + 1)) (.iff (.not (.call 8 (.cons false (.sl 2) (.cons false (.con (.int 101)) .nil)) .nil [])) (.cons (.ret (.con (.bl false))) .nil) .nil) (.byr g :: S1 :: .own (eM M) :: rest) = .ok (.nx (.byr g :: S1 :: .own (eM M) :: rest)) := by
  have e1 := ind_val k h hn hg
  clear h hn hg
  generalize callF T (k + 1) = call at *
  decreasing_trivial_pre_omega
end K16
namespace K16
open Ev
local macro_rules | `(tactic| decreasing_trivial_pre_omega) => `(tactic| simp -implicitDefEqProofs -dsimp only [*, turnC_def, turnF_def, as_tup, as_nil, as_cons, cw0, cw1, cw2, cw3, cw4, cw5, cw6, cw7, cw8, cw9, cw10, cw11, cw12, cw13, cw14, cw15, cw16, evalSs, evalS, evalE, evalB, evalRs, evalDs, evalIt, evalC, evP, peek_v, peek_t, peek_i, con_v, con_o, con_b, asVal_v, asVal_t, asVal_i, add_ii, sub_ii, add_ll, mod_if, lt_ii, le_ii, gt_ii, ge_ii, eq_ii, ne_ii, tru_b, ix_l, ix_s, sli_s, sli_l, sum_l, atI_n, len_l, len_s, int_i, max_ii, min_ii, bitlen_i, list_l, at_0, at_s, noExc_ok, Function.comp_def, flat_t, ite_self, isT_l, all_t, List.length_map, List.length_range, List.map_map, flat_i, flat_b, flat_n, flatO_n, mine_v, mine_o, mine_b, mine_n, free_v, free_o, free_n, put_o, put_b, back_n, back_s, hb_v, hb_t, left_n, left_i, hb_i, fin_r, fin_nx, pv_nil, pv_n, pv_s, pm_t, pm_i, fi_nil, fi_n, fi_s, permute_nil, atI_0, atI_1, atI_2, ixN_30, ixN_31, ixN_32, wipe_nil, wipe_cons, as_one, st_v, st_t, st_i, free_b, stores_nil, stores_cons, res_nil, res_v, res_t, res_i, tst_ok, sp_f, sp_l, isT, List.set_cons_zero, List.set_cons_succ, Ev.start, List.zipIdx_cons, List.zipIdx_nil, List.map_cons, List.map_nil, List.length_cons, List.length_nil, List.cons_append, List.nil_append, List.append_nil, Res.bind_ok, Res.bind_exc, Res.bind_bad, Res.of_some, Option.bind_some, Option.map_some, List.mapM_cons, List.mapM_nil, List.filterMap_cons, List.filterMap_nil, id, List.getElem?_cons_zero, List.getElem?_cons_succ, reduceIte, forL, LIM, range_1, Int.reduceToNat, Int.reduceNeg, Int.reduceDiv, Int.reduceMod, Int.ofNat_zero, Int.zero_add, Int.add_zero, Int.cast_ofNat_Int, Option.pure_def, Option.bind_eq_bind, Nat.zero_add, Nat.reduceAdd, Nat.reduceSub, Nat.reduceLeDiff, Nat.reduceLT, Nat.reduceEqDiff, Int.reduceLT, Int.reduceLE, Int.reduceAdd, Int.reduceMul, Int.reduceSub, Bool.true_and, Bool.and_true, Bool.false_and, Bool.and_false, Bool.and_self, decide_true, decide_false, Bool.false_eq_true, Bool.not_true, Bool.not_false, reduceCtorEq, Option.some.injEq, and_true, true_and, false_and, and_false, if_false, ↓reduceIte, and_self, or_true, true_or, List.replicate])
theorem VALz_bd : ∀ (zs : List (Int × Int)) (a : Int), (∀ z ∈ zs, (0 ≤ z.1 ∧ z.1 ≤ 4) ∧ 0 ≤ z.2 ∧ z.2 ≤ 4) → 0 ≤ a → 0 ≤ VALz a zs ∧ VALz a zs ≤ a * 256 ^ zs.length
  | [], a, _, ha => by simp [VALz]; exact ha
  | z :: zs, a, h, ha => by
    have hz := h z (List.mem_cons_self ..)
    have b := pow_bd hz.2 z.1.toNat (by omega)
    have ih := VALz_bd zs (a * z.2 ^ z.1.toNat) (fun y hy => h y (List.mem_cons_of_mem _ hy)) (Int.mul_nonneg ha b.1)
    refine ⟨ih.1, Int.le_trans ih.2 ?_⟩
    rw [List.length_cons, Int.pow_succ, Int.mul_comm (256 ^ zs.length) 256, ← Int.mul_assoc]
    have h3 : (0 : Int) ≤ 256 ^ zs.length := Int.pow_nonneg (by decide)
    exact Int.mul_le_mul_of_nonneg_right (Int.mul_le_mul_of_nonneg_left b.2 ha) h3
theorem MAT_bd {G : List (List Int)} (hG : ∀ p ∈ G, (∀ x ∈ p, 0 ≤ x ∧ x ≤ 4) ∧ p.length ≤ 4) : ∀ r ∈ MAT G, ∀ y ∈ r, 0 ≤ y ∧ y ≤ 4294967296 := by
  intro r hr y hy
  unfold MAT at hr
  obtain ⟨p, hp, rfl⟩ := List.mem_map.mp hr
  obtain ⟨q, hq, rfl⟩ := List.mem_map.mp hy
  have h := VALz_bd (q.zip p) 1 (fun z hz => ⟨(hG q hq).1 _ (List.of_mem_zip hz).1, (hG p hp).1 _ (List.of_mem_zip hz).2⟩) (by decide)
  refine ⟨h.1, Int.le_trans h.2 ?_⟩
  have l1 := (hG q hq).2
  have l2 : (q.zip p).length ≤ 4 := by rw [List.length_zip]; omega
  generalize (q.zip p).length = m at *
  have : m = 0 ∨ m = 1 ∨ m = 2 ∨ m = 3 ∨ m = 4 := by omega
  rcases this with rfl | rfl | rfl | rfl | rfl <;> decide
/-- the drawn numbers -/
theorem st7_eval (k : Nat) {a b c : Int} {G : List (List Int)} {S2 S8 S9 : Sl} (hl : G.length ≤ 100) (ha : 0 ≤ a) (hb : 0 ≤ b ∧ b < 2147483647) (hc : 0 ≤ c ∧ c < 900000) :
    ∃ (v : List Int) (a' c' : Int), evalS T.chg T.gval (callF T (k + 2)) (.asg (.one 3) (.comp (.op .sub (.call 4 (.cons false (.sl 0) (.cons false (.con (.int 7)) .nil)) .nil []) (.con (.int 3))) (.one 12) (.seq (.sl 1)) none [12])) (.byr (gD3 a b c) :: [.val (eM G), S2, .no, .no, .no, .no, .no, S8, S9, .no, .no, .no, .no, .no, .no, .no, .no]) =
      .ok (.nx (.byr (gD3 a' b c') :: [.val (eM G), S2, .own (eI v), .no, .no, .no, .no, S8, S9, .no, .no, .no, .no, .no, .no, .no, .no])) ∧ v.length = G.length ∧ (∀ y ∈ v, -3 ≤ y ∧ y ≤ 3) ∧ 0 ≤ a' ∧ c ≤ c' ∧ c' ≤ c + 100 := by
  have cc := draws_L (elt := evalE T.chg T.gval (callF T (k + 2)) (.op .sub (.call 4 (.cons false (.sl 0) (.cons false (.con (.int 7)) .nil)) .nil []) (.con (.int 3)))) (P := fun d => -3 ≤ d ∧ d ≤ 3) (b := b) (fun a c rest ha hc hc2 => by
    obtain ⟨d, a', c', e, h1, h2, h3⟩ := draw_eval k (a := a) (b := b) (c := c) (n := 7) (rest := rest) (X := .con (.int 7)) (by simp -dsimp only [evalE]) ha hb ⟨hc, hc2⟩ (by omega)
    refine ⟨d - 3, a', c', ?_, ⟨by omega, by omega⟩, h3⟩
    clear h1 h2 h3 hc2 hc ha
    generalize E.call 4 (.cons false (.sl 0) (.cons false (.con (.int 7)) .nil)) .nil [] = X at *
    generalize callF T (k + 2) = call at *
    decreasing_trivial_pre_omega) (cond := evalC T.chg T.gval (callF T (k + 2)) none) (fun e => by simp -dsimp only [evalC]) (t := 11) (rest := [.val (eM G), S2, .no, .no, .no, .no, .no, S8, S9, .no, .no, .no, .no, .no, .no, .no, .no]) (by show 11 < 17; decide) rfl
    (G.map eI) a c ha (by omega) (by rw [List.length_map]; omega)
  obtain ⟨v, a2, c2, e2, r1, r2, r3, r5, r6⟩ := cc
  rw [List.length_map] at r1 r6
  refine ⟨v, a2, c2, ?_, r1, r2, r3, r5, by omega⟩
  have c1 : G.length ≤ 16777216 := by omega
  generalize E.op .sub (.call 4 (.cons false (.sl 0) (.cons false (.con (.int 7)) .nil)) .nil []) (.con (.int 3)) = X at *
  generalize callF T (k + 2) = call at *
  generalize gD3 a b c = g1 at *
  generalize gD3 a2 b c2 = g2 at *
  clear r1 r2 r3 r5 r6 hl ha hb hc
  simp -dsimp only [eM] at e2 ⊢
  simp -implicitDefEqProofs -dsimp only [evalS, evalE, evalIt, asVal_v, at_s, at_0, Res.of_some, Res.bind_ok, wipe_cons, wipe_nil, List.length_map, c1, if_true, e2, noExc_ok, st_t, List.length_cons, List.length_nil, free_n, List.set_cons_succ, List.set_cons_zero]
  rfl
theorem val_row {call : Call} {g : D} {G M : List (List Int)} {S3 : Sl} {v r : List Int} {S8 S9 : Sl} (h3 : S3 = .own (eI v) ∨ S3 = .val (eI v)) (hv : ∀ y ∈ v, -3 ≤ y ∧ y ≤ 3) (hr : ∀ y ∈ r, 0 ≤ y ∧ y ≤ 4294967296) (hl : v.length ≤ 100) :
    evalE T.chg T.gval call (.bi .sum (.cons false (.comp (.op .mul (.sl 17) (.sl 15)) (.tup [(.one 17), (.one 15)]) (.zip (.sl 3) (.sl 13) false) none [15, 17]) .nil)) (.byr g :: [.val (eM G), .val (eM M), S3, .no, .no, .no, .no, S8, S9, .no, .no, .no, .val (eI r), .no, .no, .no, .no]) =
      .ok (.val (.int (dot v r)), .byr g :: [.val (eM G), .val (eM M), .val (eI v), .no, .no, .no, .no, S8, S9, .no, .no, .no, .val (eI r), .no, .no, .no, .no]) := by
  have zm := zip_map v r
  have zl : (v.zip r).length ≤ 16777216 := by rw [List.length_zip]; omega
  have e9 : ∀ z ∈ v.zip r, bop .mul (.int z.1) (.int z.2) = some (.val (.int (z.1 * z.2))) := fun z hz => by
    have z1 := hv z.1 (List.of_mem_zip (b := z.2) (a := z.1) hz).1
    have z2 := hr z.2 (List.of_mem_zip (b := z.2) (a := z.1) hz).2
    exact mul_ii (by omega) (by omega)
  have sm : biOp .sum [.lst ((v.zip r).map fun z => D.int (z.1 * z.2))] = some (.val (.int ((v.zip r).map fun z => z.1 * z.2).sum)) := by
    rw [show (v.zip r).map (fun z => D.int (z.1 * z.2)) = ((v.zip r).map fun z => z.1 * z.2).map D.int by rw [List.map_map]; rfl]
    exact sum_l
  clear hv hr hl
  unfold dot
  simp -dsimp only [eI, eM]
  rcases h3 with h3 | h3 <;> subst h3
  all_goals
    revert e9
    decreasing_trivial_pre_omega
    intro e9
    rw [compL_all (fun z : Int × Int => .tup [.int z.1, .int z.2]) (fun z => .int (z.1 * z.2))]
    · clear e9
      decreasing_trivial_pre_omega
    · intro z hz
      have e8 := e9 z hz
      clear e9 hz zm zl sm
      decreasing_trivial_pre_omega
end K16
namespace K16
open Ev
local macro_rules | `(tactic| decreasing_trivial_pre_omega) => `(tactic| simp -implicitDefEqProofs -dsimp only [*, turnC_def, turnF_def, as_tup, as_nil, as_cons, cw0, cw1, cw2, cw3, cw4, cw5, cw6, cw7, cw8, cw9, cw10, cw11, cw12, cw13, cw14, cw15, cw16, evalSs, evalS, evalE, evalB, evalRs, evalDs, evalIt, evalC, evP, peek_v, peek_t, peek_i, con_v, con_o, con_b, asVal_v, asVal_t, asVal_i, add_ii, sub_ii, add_ll, mod_if, lt_ii, le_ii, gt_ii, ge_ii, eq_ii, ne_ii, tru_b, ix_l, ix_s, sli_s, sli_l, sum_l, atI_n, len_l, len_s, int_i, max_ii, min_ii, bitlen_i, list_l, at_0, at_s, noExc_ok, Function.comp_def, flat_t, ite_self, isT_l, all_t, List.length_map, List.length_range, List.map_map, flat_i, flat_b, flat_n, flatO_n, mine_v, mine_o, mine_b, mine_n, free_v, free_o, free_n, put_o, put_b, back_n, back_s, hb_v, hb_t, left_n, left_i, hb_i, fin_r, fin_nx, pv_nil, pv_n, pv_s, pm_t, pm_i, fi_nil, fi_n, fi_s, permute_nil, atI_0, atI_1, atI_2, ixN_30, ixN_31, ixN_32, wipe_nil, wipe_cons, as_one, st_v, st_t, st_i, free_b, stores_nil, stores_cons, res_nil, res_v, res_t, res_i, tst_ok, sp_f, sp_l, isT, List.set_cons_zero, List.set_cons_succ, Ev.start, List.zipIdx_cons, List.zipIdx_nil, List.map_cons, List.map_nil, List.length_cons, List.length_nil, List.cons_append, List.nil_append, List.append_nil, Res.bind_ok, Res.bind_exc, Res.bind_bad, Res.of_some, Option.bind_some, Option.map_some, List.mapM_cons, List.mapM_nil, List.filterMap_cons, List.filterMap_nil, id, List.getElem?_cons_zero, List.getElem?_cons_succ, reduceIte, forL, LIM, range_1, Int.reduceToNat, Int.reduceNeg, Int.reduceDiv, Int.reduceMod, Int.ofNat_zero, Int.zero_add, Int.add_zero, Int.cast_ofNat_Int, Option.pure_def, Option.bind_eq_bind, Nat.zero_add, Nat.reduceAdd, Nat.reduceSub, Nat.reduceLeDiff, Nat.reduceLT, Nat.reduceEqDiff, Int.reduceLT, Int.reduceLE, Int.reduceAdd, Int.reduceMul, Int.reduceSub, Bool.true_and, Bool.and_true, Bool.false_and, Bool.and_false, Bool.and_self, decide_true, decide_false, Bool.false_eq_true, Bool.not_true, Bool.not_false, reduceCtorEq, Option.some.injEq, and_true, true_and, false_and, and_false, if_false, ↓reduceIte, and_self, or_true, true_or, List.replicate])
theorem st8_eval {call : Call} {g : D} {G M : List (List Int)} {v : List Int} {S8 S9 : Sl} (hv : ∀ y ∈ v, -3 ≤ y ∧ y ≤ 3) (hM : ∀ r ∈ M, ∀ y ∈ r, 0 ≤ y ∧ y ≤ 4294967296) (hl : v.length ≤ 100) (hml : M.length ≤ 100) :
    ∃ S3', (S3' = .own (eI v) ∨ S3' = .val (eI v)) ∧ evalS T.chg T.gval call (.asg (.one 4) (.comp (.bi .sum (.cons false (.comp (.op .mul (.sl 17) (.sl 15)) (.tup [(.one 17), (.one 15)]) (.zip (.sl 3) (.sl 13) false) none [15, 17]) .nil)) (.one 13) (.seq (.sl 2)) none [13]))
      (.byr g :: [.val (eM G), .own (eM M), .own (eI v), .no, .no, .no, .no, S8, S9, .no, .no, .no, .no, .no, .no, .no, .no]) =
      .ok (.nx (.byr g :: [.val (eM G), .val (eM M), S3', .own (eI (M.map (dot v))), .no, .no, .no, S8, S9, .no, .no, .no, .no, .no, .no, .no, .no])) := by
  have c1 : M.length ≤ 16777216 := by omega
  have vr := fun (S3 : Sl) (r : List Int) (hr : r ∈ M) (h3 : S3 = .own (eI v) ∨ S3 = .val (eI v)) => val_row (call := call) (g := g) (G := G) (M := M) (S8 := S8) (S9 := S9) h3 hv (hM r hr) hl
  generalize E.bi .sum (.cons false (.comp (.op .mul (.sl 17) (.sl 15)) (.tup [(.one 17), (.one 15)]) (.zip (.sl 3) (.sl 13) false) none [15, 17]) .nil) = X at *
  obtain ⟨e', g1, S3', g2, g3⟩ := compL_keep (tg := .one 13) (cond := evalC T.chg T.gval call none) (elt := evalE T.chg T.gval call X) (own := [13]) eI (fun r => .int (dot v r))
    (fun e => ∃ S3, (S3 = .own (eI v) ∨ S3 = .val (eI v)) ∧ e = (.byr g :: [.val (eM G), .val (eM M), S3, .no, .no, .no, .no, S8, S9, .no, .no, .no, .no, .no, .no, .no, .no])) M (by
      rintro r hr e ⟨S3, h3, rfl⟩
      have e1 := vr S3 r hr h3
      refine ⟨_, ?_, .val (eI v), .inr rfl, rfl⟩
      clear vr hr h3 hM hv hl hml c1
      simp -dsimp only [eI, eM] at e1 ⊢
      decreasing_trivial_pre_omega) (.byr g :: [.val (eM G), .val (eM M), .own (eI v), .no, .no, .no, .no, S8, S9, .no, .no, .no, .no, .no, .no, .no, .no]) ⟨_, .inl rfl, rfl⟩
  refine ⟨S3', g2, ?_⟩
  subst g3
  have mm : M.map (fun r => D.int (dot v r)) = (M.map (dot v)).map .int := by rw [List.map_map]; rfl
  rw [mm] at g1
  clear vr g2 hM hv hl hml mm
  simp -dsimp only [eM] at g1 ⊢
  simp -implicitDefEqProofs -dsimp only [evalS, evalE, evalIt, asVal_i, at_s, at_0, Res.of_some, Res.bind_ok, wipe_cons, wipe_nil, List.length_map, c1, if_true, g1, noExc_ok, st_t, List.length_cons, List.length_nil, free_n, List.set_cons_succ, List.set_cons_zero]
  rfl
def nz (v : List Int) : List Int := v.filter fun y => decide (y ≠ 0)
theorem nz_nil {v : List Int} : nz v = [] ↔ ∀ y ∈ v, y = 0 := by
  unfold nz
  rw [List.filter_eq_nil_iff]
  simp
theorem nz_some (v : List Int) : v.filterMap (fun y => if decide (y = 0) = false then some (D.int y) else none) = (nz v).map .int := by
  unfold nz
  induction v with
  | nil => rfl
  | cons x v ih =>
    rw [List.filterMap_cons, List.filter_cons, ih]
    by_cases h : x = 0 <;> simp [h]
theorem ne_bb {x y : Bool} : cop .ne (.bl x) (.bl y) = some (x != y) := rfl
theorem st9_eval {call : Call} {g : D} {G M : List (List Int)} {v w : List Int} {S3 S8 S9 : Sl} (h3 : S3 = .own (eI v) ∨ S3 = .val (eI v)) (hl : v.length ≤ 100) (hml : w.length ≤ 100) (hz : nz w = [] ↔ nz v = []) :
    evalS T.chg T.gval call (.iff (.cmp .ne (.cmp .eq (.comp (.sl 15) (.one 15) (.seq (.sl 4)) (some (.cmp .ne (.sl 15) (.con (.int 0)))) [15]) (.lst .nil)) (.cmp .eq (.comp (.sl 15) (.one 15) (.seq (.sl 3)) (some (.cmp .ne (.sl 15) (.con (.int 0)))) [15]) (.lst .nil))) (.cons (.ret (.con (.bl false))) .nil) .nil)
      (.byr g :: [.val (eM G), .val (eM M), S3, .own (eI w), .no, .no, .no, S8, S9, .no, .no, .no, .no, .no, .no, .no, .no]) =
      .ok (.nx (.byr g :: [.val (eM G), .val (eM M), .val (eI v), .val (eI w), .no, .no, .no, S8, S9, .no, .no, .no, .no, .no, .no, .no, .no])) := by
  have turn : ∀ (S3 : Sl) (l : List Int) (e0 : Env), (e0 = (.byr g :: [.val (eM G), .val (eM M), S3, .val (eI w), .no, .no, .no, S8, S9, .no, .no, .no, .no, .no, .no, .no, .no])) → compL (.one 15) (evalC T.chg T.gval call (some (.cmp .ne (.sl 15) (.con (.int 0))))) (evalE T.chg T.gval call (.sl 15)) [15] (l.map .int) e0 = .ok ((nz l).map .int, e0) := by
    intro S3 l e0 he
    rw [← nz_some]
    refine compL_some D.int (fun y => if decide (y = 0) = false then some (.int y) else none) fun y hy => ?_
    subst he
    clear hz
    by_cases h : y = 0
    · subst h
      have : cop .ne (.int 0) (.int 0) = some false := rfl
      clear h3
      decreasing_trivial_pre_omega
    · have : cop .ne (.int y) (.int 0) = some true := by rw [ne_ii]; simp [h]
      clear h3
      decreasing_trivial_pre_omega
  have t1 := turn S3 w _ rfl
  have t2 := turn (.val (eI v)) v _ rfl
  have c1 : w.length ≤ 16777216 := by omega
  have c2 : v.length ≤ 16777216 := by omega
  have q1 := eq_nil (nz w)
  have q2 := eq_nil (nz v)
  have q3 : (decide (nz w = []) != decide (nz v = [])) = false := by
    have : decide (nz w = []) = decide (nz v = []) := by
      by_cases h : nz v = []
      · rw [decide_eq_true h, decide_eq_true (hz.mpr h)]
      · rw [decide_eq_false h, decide_eq_false fun q => h (hz.mp q)]
    rw [this]; simp
  clear turn hl hml hz
  generalize hC : some (E.cmp .ne (.sl 15) (.con (.int 0))) = C at *
  have hsl : ∃ X, X = E.sl 15 := ⟨_, rfl⟩
  obtain ⟨X, hX⟩ := hsl
  rw [← hX] at t1 t2 ⊢
  clear hX hC
  rcases h3 with h3 | h3 <;> subst h3
  all_goals
    simp -dsimp only [eI] at *
    simp -implicitDefEqProofs -dsimp only [evalS, evalE, evalDs, evalIt, asVal_i, asVal_v, at_s, at_0, Res.of_some, Res.bind_ok, wipe_cons, wipe_nil, List.length_map, c1, c2, if_true, t1, t2, noExc_ok, List.length_cons, List.length_nil, List.set_cons_succ, List.set_cons_zero, peek_t, q1, q2, peek_v, ne_bb, q3, tst_ok, tru_b, Bool.false_eq_true, if_false, evalSs, LIM, Nat.zero_le]
theorem st10_eval (k : Nat) {a b c : Int} {A1 A2 A3 A4 S9 : Sl} {ds : List Int} (hl : 1 ≤ ds.length ∧ ds.length ≤ 3) (ha : 0 ≤ a) (hb : 0 ≤ b ∧ b < 2147483647) (hc : 0 ≤ c ∧ c < 900000) :
    ∃ (j : Nat) (a' c' : Int), evalS T.chg T.gval (callF T (k + 2)) (.asg (.one 5) (.call 4 (.cons false (.sl 0) (.cons false (.bi .len (.cons false (.sl 8) .nil)) .nil)) .nil [])) (.byr (gD3 a b c) :: [A1, A2, A3, A4, .no, .no, .no, .val (eI ds), S9, .no, .no, .no, .no, .no, .no, .no, .no]) =
      .ok (.nx (.byr (gD3 a' b c') :: [A1, A2, A3, A4, .val (.int (j : Int)), .no, .no, .val (eI ds), S9, .no, .no, .no, .no, .no, .no, .no, .no])) ∧ j < ds.length ∧ 0 ≤ a' ∧ c ≤ c' ∧ c' ≤ c + 1 := by
  obtain ⟨d, a1, c1, e1, q1, q2, q3, q4, q5⟩ := draw_eval k (a := a) (b := b) (c := c) (n := (ds.length : Int)) (rest := [A1, A2, A3, A4, .no, .no, .no, .val (eI ds), S9, .no, .no, .no, .no, .no, .no, .no, .no]) (X := .bi .len (.cons false (.sl 8) .nil)) (by
    generalize callF T (k + 2) = call
    generalize gD3 a b c = g
    clear ha hb hc hl
    simp -dsimp only [eI]
    decreasing_trivial_pre_omega) ha hb (by omega) (by omega)
  refine ⟨d.toNat, a1, c1, ?_, by omega, q3, q4, q5⟩
  have e2 : ((d.toNat : Nat) : Int) = d := by omega
  rw [e2]
  generalize E.call 4 (.cons false (.sl 0) (.cons false (.bi .len (.cons false (.sl 8) .nil)) .nil)) .nil [] = X at *
  generalize callF T (k + 2) = call at *
  generalize gD3 a b c = g1 at *
  generalize gD3 a1 b c1 = g2 at *
  clear hl ha hb hc q1 q2 q3 q4 q5 e2
  decreasing_trivial_pre_omega
theorem st11_eval {call : Call} {A0 A1 A2 A3 A4 S9 : Sl} {ds : List Int} {j : Nat} (hj : j < ds.length) (hl : ds.length ≤ 3) :
    evalS T.chg T.gval call (.asg (.one 6) (.op .add (.op .add (.sli (.sl 8) .none_ (.sl 5)) (.lst (.cons false (.op .add (.ix (.sl 8) (.sl 5)) (.con (.int 1))) .nil))) (.sli (.sl 8) (.op .add (.sl 5) (.con (.int 1))) .none_))) (A0 :: [A1, A2, A3, A4, .val (.int (j : Int)), .no, .no, .val (eI ds), S9, .no, .no, .no, .no, .no, .no, .no, .no]) =
      .ok (.nx (A0 :: [A1, A2, A3, A4, .val (.int (j : Int)), .own (eI (ds.set j (ds[j] + 1))), .no, .val (eI ds), S9, .no, .no, .no, .no, .no, .no, .no, .no])) := by
  have k1 : cut (ds.map D.int) none (some (j : Int)) = (ds.take j).map .int := by rw [cut_upto, List.map_take]
  have k2 : cut (ds.map D.int) (some ((j : Int) + 1)) none = (ds.drop (j + 1)).map .int := by
    rw [show ((j : Int) + 1) = ((j + 1 : Nat) : Int) by omega, cut_from, List.map_drop]
  have k3 : L2.atI (ds.map D.int) (j : Int) = some (.int ds[j]) := by rw [atI_n, List.getElem?_map, List.getElem?_eq_getElem hj]; rfl
  have k4 : bop .add (.lst ((ds.take j).map .int)) (.lst [.int (ds[j] + 1)]) = some (.tmp (.lst ((ds.take j ++ [ds[j] + 1]).map .int))) := by
    rw [List.map_append]
    exact add_ll (by simp; show _ ≤ 16777216; omega)
  have k5 : bop .add (.lst ((ds.take j ++ [ds[j] + 1]).map .int)) (.lst ((ds.drop (j + 1)).map .int)) = some (.tmp (.lst ((ds.set j (ds[j] + 1)).map .int))) := by
    rw [← take_drop_set hj, List.map_append (l₁ := ds.take j ++ [ds[j] + 1])]
    exact add_ll (by simp; show _ ≤ 16777216; omega)
  generalize ds[j] = x at *
  clear hj hl
  simp -dsimp only [eI] at *
  simp -implicitDefEqProofs -dsimp only [evalS, evalE, evalDs, at_s, at_0, Res.of_some, Res.bind_ok, evP, peek_v, peek_t, sli_l, k1, k2, k3, k4, k5, ix_l, Option.map_some, add_ii, asVal_v, sp_f, List.cons_append, List.nil_append, List.append_nil, List.length_cons, List.length_nil, LIM, Nat.reduceLeDiff, Nat.zero_add, if_true, st_t, free_n, Bool.and_true, List.set_cons_succ, List.set_cons_zero, Nat.reduceAdd, Nat.reduceLT, decide_true]
theorem st12_eval (k : Nat) {A0 A1 A2 A3 A4 A5 A7 : Sl} {ds ms : List Int} {t : Int} (hd : ∀ d ∈ ds, 0 ≤ d ∧ d ≤ 3) (hl : 1 ≤ ds.length ∧ ds.length ≤ 3) (ht : 0 ≤ t ∧ t ≤ 5) (hm : ∀ d ∈ ms, 0 ≤ d ∧ d ≤ 4) (hml : ms.length = ds.length) :
    evalS T.chg T.gval (callF T (k + 10)) (.par [10, 11] (.cons false (.call 5 (.cons false (.sl 6) (.cons false (.sl 9) .nil)) .nil []) (.cons false (.call 5 (.cons false (.sl 8) (.cons false (.op .add (.sl 9) (.con (.int 1))) .nil)) .nil []) .nil))) (A0 :: [A1, A2, A3, A4, A5, .own (eI ms), A7, .val (eI ds), .val (.int t), .no, .no, .no, .no, .no, .no, .no, .no]) =
      .ok (.nx (A0 :: [A1, A2, A3, A4, A5, .val (eI ms), A7, .val (eI ds), .val (.int t), .own (eM (GRID ms t)), .own (eM (GRID ds (t + 1))), .no, .no, .no, .no, .no, .no])) := by
  have hd' : ∀ d ∈ ds, 0 ≤ d ∧ d ≤ 4 := fun d h => by have := hd d h; omega
  obtain ⟨f1, f2, f3⟩ := chkS_of hd' hl (t := t + 1) (by omega)
  obtain ⟨g1, g2, g3⟩ := chkS_of hm (by omega) (t := t) (by omega)
  have e1 := least_val ms k t hm (by omega) (by omega) (by omega)
  have e2 := least_val ds k (t + 1) hd' (by omega) (by omega) (by omega)
  have e3 := flat_eM f2
  have e4 := flat_eM g2
  clear hd hd' hl ht f1 f2 f3 g1 g2 g3 hm hml
  generalize callF T (k + 10) = call at *
  generalize GRID ms t = G1 at *
  generalize GRID ds (t + 1) = G2 at *
  simp -dsimp only [eI, eM] at *
  decreasing_trivial_pre_omega
theorem st13_eval {call : Call} {A0 A2 A3 A4 A5 A6 S8 S9 : Sl} {G W V : List (List Int)} (hl : G.length ≤ 100) (h1 : ∀ p ∈ G, p ∈ W) (h2 : ∀ p ∈ G, p ∈ V) :
    evalS T.chg T.gval call (.iff (.cmp .ne (.comp (.sl 7) (.one 7) (.seq (.sl 1)) (some (.lg false (.cons false (.cmp .notin (.sl 7) (.sl 10)) (.cons false (.cmp .notin (.sl 7) (.sl 11)) .nil)))) [7]) (.lst .nil)) (.cons (.ret (.con (.bl false))) .nil) .nil) (A0 :: [.val (eM G), A2, A3, A4, A5, A6, .no, S8, S9, .own (eM W), .own (eM V), .no, .no, .no, .no, .no, .no]) =
      .ok (.nx (A0 :: [.val (eM G), A2, A3, A4, A5, A6, .no, S8, S9, .own (eM W), .own (eM V), .no, .no, .no, .no, .no, .no])) := by
  have c1 : G.length ≤ 16777216 := by omega
  have t1 : compL (.one 7) (evalC T.chg T.gval call (some (.lg false (.cons false (.cmp .notin (.sl 7) (.sl 10)) (.cons false (.cmp .notin (.sl 7) (.sl 11)) .nil))))) (evalE T.chg T.gval call (.sl 7)) [7] (G.map eI) (A0 :: [.val (eM G), A2, A3, A4, A5, A6, .no, S8, S9, .own (eM W), .own (eM V), .no, .no, .no, .no, .no, .no]) = .ok ([], (A0 :: [.val (eM G), A2, A3, A4, A5, A6, .no, S8, S9, .own (eM W), .own (eM V), .no, .no, .no, .no, .no, .no])) := by
    rw [compL_some eI (fun _ => none)]
    · congr 2
      clear h1 h2 hl c1
      induction G with
      | nil => rfl
      | cons x G ih => rw [List.filterMap_cons]
                       exact ih
    · intro p hp
      have q1 : cop .notin (eI p) (eM W) = some false := by rw [notin_eM, decide_eq_true (h1 p hp)]; rfl
      have q2 : cop .notin (eI p) (eM V) = some false := by rw [notin_eM, decide_eq_true (h2 p hp)]; rfl
      clear h1 h2 hp hl c1
      simp -dsimp only [eI, eM] at *
      decreasing_trivial_pre_omega
  have q : cop .ne (.lst []) (.lst []) = some false := rfl
  generalize hC : some (E.lg false (.cons false (.cmp .notin (.sl 7) (.sl 10)) (.cons false (.cmp .notin (.sl 7) (.sl 11)) .nil))) = C at *
  obtain ⟨X, hX⟩ : ∃ X, X = E.sl 7 := ⟨_, rfl⟩
  rw [← hX] at t1 ⊢
  clear hX hC h1 h2 hl
  simp -dsimp only [eM] at *
  simp -implicitDefEqProofs -dsimp only [evalS, evalE, evalDs, evalIt, asVal_i, asVal_v, at_s, at_0, Res.of_some, Res.bind_ok, wipe_cons, wipe_nil, List.length_map, c1, if_true, t1, noExc_ok, List.length_cons, List.length_nil, List.set_cons_succ, List.set_cons_zero, peek_t, q, peek_v, tst_ok, tru_b, Bool.false_eq_true, if_false, evalSs, LIM, Nat.zero_le]
end K16
namespace K16
open Ev
local macro_rules | `(tactic| decreasing_trivial_pre_omega) => `(tactic| simp -implicitDefEqProofs -dsimp only [*, turnC_def, turnF_def, as_tup, as_nil, as_cons, cw0, cw1, cw2, cw3, cw4, cw5, cw6, cw7, cw8, cw9, cw10, cw11, cw12, cw13, cw14, cw15, cw16, evalSs, evalS, evalE, evalB, evalRs, evalDs, evalIt, evalC, evP, peek_v, peek_t, peek_i, con_v, con_o, con_b, asVal_v, asVal_t, asVal_i, add_ii, sub_ii, add_ll, mod_if, lt_ii, le_ii, gt_ii, ge_ii, eq_ii, ne_ii, tru_b, ix_l, ix_s, sli_s, sli_l, sum_l, atI_n, len_l, len_s, int_i, max_ii, min_ii, bitlen_i, list_l, at_0, at_s, noExc_ok, Function.comp_def, flat_t, ite_self, isT_l, all_t, List.length_map, List.length_range, List.map_map, flat_i, flat_b, flat_n, flatO_n, mine_v, mine_o, mine_b, mine_n, free_v, free_o, free_n, put_o, put_b, back_n, back_s, hb_v, hb_t, left_n, left_i, hb_i, fin_r, fin_nx, pv_nil, pv_n, pv_s, pm_t, pm_i, fi_nil, fi_n, fi_s, permute_nil, atI_0, atI_1, atI_2, ixN_30, ixN_31, ixN_32, wipe_nil, wipe_cons, as_one, st_v, st_t, st_i, free_b, stores_nil, stores_cons, res_nil, res_v, res_t, res_i, tst_ok, sp_f, sp_l, isT, List.set_cons_zero, List.set_cons_succ, Ev.start, List.zipIdx_cons, List.zipIdx_nil, List.map_cons, List.map_nil, List.length_cons, List.length_nil, List.cons_append, List.nil_append, List.append_nil, Res.bind_ok, Res.bind_exc, Res.bind_bad, Res.of_some, Option.bind_some, Option.map_some, List.mapM_cons, List.mapM_nil, List.filterMap_cons, List.filterMap_nil, id, List.getElem?_cons_zero, List.getElem?_cons_succ, reduceIte, forL, LIM, range_1, Int.reduceToNat, Int.reduceNeg, Int.reduceDiv, Int.reduceMod, Int.ofNat_zero, Int.zero_add, Int.add_zero, Int.cast_ofNat_Int, Option.pure_def, Option.bind_eq_bind, Nat.zero_add, Nat.reduceAdd, Nat.reduceSub, Nat.reduceLeDiff, Nat.reduceLT, Nat.reduceEqDiff, Int.reduceLT, Int.reduceLE, Int.reduceAdd, Int.reduceMul, Int.reduceSub, Bool.true_and, Bool.and_true, Bool.false_and, Bool.and_false, Bool.and_self, decide_true, decide_false, Bool.false_eq_true, Bool.not_true, Bool.not_false, reduceCtorEq, Option.some.injEq, and_true, true_and, false_and, and_false, if_false, ↓reduceIte, and_self, or_true, true_or, List.replicate])
abbrev bIn : Ss := (.cons (.iff (.lg true (.cons false (.cmp .gt (.sl 15) (.con (.int 0))) (.cons false (.cmp .notin (.op .add (.op .add (.sli (.sl 7) .none_ (.sl 14)) (.lst (.cons false (.op .sub (.sl 15) (.con (.int 1))) .nil))) (.sli (.sl 7) (.op .add (.sl 14) (.con (.int 1))) .none_)) (.sl 1)) .nil))) (.cons (.ret (.con (.bl false))) .nil) .nil) .nil)
theorem enu_ints (p : List Int) : (p.map D.int).zipIdx.map (fun q => D.tup [.int (q.2 : Nat), q.1]) = p.zipIdx.map fun q => D.tup [.int (q.2 : Nat), .int q.1] := by
  rw [List.zipIdx_map, List.map_map]; rfl
theorem in_turn {call : Call} {A0 A2 A3 A4 A5 A6 A8 A9 A10 A11 S14 S15 : Sl} {G : List (List Int)} {p : List Int} {j : Nat} (hj : j < p.length) (hl : p.length ≤ 3) (h14 : S14.free = true) (h15 : S15.free = true) (hin : 0 < p[j] → p.set j (p[j] - 1) ∈ G) :
    turnF (.tup [.one 14, .one 15]) (evalSs T.chg T.gval call bIn) (.tup [.int (j : Int), .int p[j]]) (A0 :: [.val (eM G), A2, A3, A4, A5, A6, .val (eI p), A8, A9, A10, A11, .no, .no, S14, S15, .no, .no]) =
      .ok (.nx (A0 :: [.val (eM G), A2, A3, A4, A5, A6, .val (eI p), A8, A9, A10, A11, .no, .no, .val (.int (j : Int)), .val (.int p[j]), .no, .no])) := by
  have a1 : assignT (.tup [.one 14, .one 15]) (.tup [.int (j : Int), .int p[j]]) (A0 :: [.val (eM G), A2, A3, A4, A5, A6, .val (eI p), A8, A9, A10, A11, .no, .no, S14, S15, .no, .no]) = some (A0 :: [.val (eM G), A2, A3, A4, A5, A6, .val (eI p), A8, A9, A10, A11, .no, .no, .val (.int (j : Int)), .val (.int p[j]), .no, .no]) := by
    simp -dsimp only [as_tup, as_cons, as_nil, as_one]
    rw [if_pos (by show (true && S14.free) = true; rw [h14]; rfl)]
    show ((if (true && S15.free) = true then _ else none) : Option Env).bind _ = _
    rw [h15]; rfl
  rw [turnF_def, a1, Res.of_some, Res.bind_ok]
  have k1 : cut (p.map D.int) none (some (j : Int)) = (p.take j).map .int := by rw [cut_upto, List.map_take]
  have k2 : cut (p.map D.int) (some ((j : Int) + 1)) none = (p.drop (j + 1)).map .int := by
    rw [show ((j : Int) + 1) = ((j + 1 : Nat) : Int) by omega, cut_from, List.map_drop]
  have k4 : bop .add (.lst ((p.take j).map .int)) (.lst [.int (p[j] - 1)]) = some (.tmp (.lst ((p.take j ++ [p[j] - 1]).map .int))) := by
    rw [List.map_append]
    exact add_ll (by simp; show _ ≤ 16777216; omega)
  have k5 : bop .add (.lst ((p.take j ++ [p[j] - 1]).map .int)) (.lst ((p.drop (j + 1)).map .int)) = some (.tmp (.lst ((p.set j (p[j] - 1)).map .int))) := by
    rw [← take_drop_set hj, List.map_append (l₁ := p.take j ++ [p[j] - 1])]
    exact add_ll (by simp; show _ ≤ 16777216; omega)
  have k6 := notin_eM (p.set j (p[j] - 1)) G
  by_cases h0 : 0 < p[j]
  · rw [decide_eq_true (hin h0)] at k6
    generalize p[j] = x at *
    clear hin hj hl a1
    simp -dsimp only [eI, eM] at *
    simp -implicitDefEqProofs -dsimp only [evalS, evalSs, evalB, evalE, evalDs, at_s, at_0, Res.of_some, Res.bind_ok, evP, peek_v, peek_t, sli_l, k1, k2, k4, k5, k6, sub_ii, add_ii, asVal_v, sp_f, List.cons_append, List.nil_append, List.append_nil, List.length_cons, List.length_nil, LIM, Nat.reduceLeDiff, Nat.zero_add, if_true, gt_ii, tst_ok, tru_b, h0, decide_true, Bool.not_true, Bool.false_eq_true, if_false]
  · generalize p[j] = x at *
    clear hin hj hl a1 k1 k2 k4 k5 k6
    simp -implicitDefEqProofs -dsimp only [evalS, evalSs, evalB, evalE, evalDs, at_s, at_0, Res.of_some, Res.bind_ok, peek_v, gt_ii, tst_ok, tru_b, h0, decide_false, Bool.false_eq_true, if_false]
theorem st14_eval {call : Call} {A0 A2 A3 A4 A5 A6 A8 A9 A10 A11 : Sl} {G : List (List Int)} (hG : ∀ p ∈ G, p.length ≤ 3) (hin : ∀ p ∈ G, ∀ (j : Nat) (hj : j < p.length), 0 < p[j] → p.set j (p[j] - 1) ∈ G) :
    ∃ e', evalS T.chg T.gval call (.for_ (.one 7) (.seq (.sl 1)) (.cons (.for_ (.tup [(.one 14), (.one 15)]) (.enu (.sl 7)) bIn []) .nil) []) (A0 :: [.val (eM G), A2, A3, A4, A5, A6, .no, A8, A9, A10, A11, .no, .no, .no, .no, .no, .no]) = .ok (.nx (A0 :: e')) := by
  obtain ⟨e', g1, S7, S14, S15, _, _, _, g2⟩ := forL_nth (tg := .one 7) (body := evalSs T.chg T.gval call (.cons (.for_ (.tup [(.one 14), (.one 15)]) (.enu (.sl 7)) bIn []) .nil)) eI (fun _ e => ∃ S7 S14 S15, S7.free = true ∧ S14.free = true ∧ S15.free = true ∧ e = (A0 :: [.val (eM G), A2, A3, A4, A5, A6, S7, A8, A9, A10, A11, .no, .no, S14, S15, .no, .no])) G 0 _ ⟨.no, .no, .no, rfl, rfl, rfl, rfl⟩ (by
      rintro i hi e ⟨S7, S14, S15, h7, h14, h15, rfl⟩
      have hp : G[i] ∈ G := List.getElem_mem _
      generalize G[i] = p at *
      obtain ⟨e1, q1, S14', S15', h14', h15', q2⟩ := forL_nth (tg := .tup [(.one 14), (.one 15)]) (body := evalSs T.chg T.gval call bIn) (fun q : Int × Nat => .tup [.int (q.2 : Nat), .int q.1]) (fun _ e => ∃ S14 S15, S14.free = true ∧ S15.free = true ∧ e = (A0 :: [.val (eM G), A2, A3, A4, A5, A6, .val (eI p), A8, A9, A10, A11, .no, .no, S14, S15, .no, .no])) p.zipIdx 0 _ ⟨S14, S15, h14, h15, rfl⟩ (by
          rintro j hj e ⟨S14, S15, h14, h15, rfl⟩
          rw [List.length_zipIdx] at hj
          have := in_turn (call := call) (A0 := A0) (A2 := A2) (A3 := A3) (A4 := A4) (A5 := A5) (A6 := A6) (A8 := A8) (A9 := A9) (A10 := A10) (A11 := A11) hj (hG p hp) h14 h15 (hin p hp j hj)
          refine ⟨_, .inl ?_, .val (.int (j : Int)), .val (.int p[j]), rfl, rfl, rfl⟩
          rw [List.getElem_zipIdx]
          show turnF _ _ (.tup [.int ((0 + j : Nat) : Int), .int p[j]]) _ = _
          rw [Nat.zero_add]
          exact this)
      have a1 : assignT (.one 7) (eI p) (A0 :: [.val (eM G), A2, A3, A4, A5, A6, S7, A8, A9, A10, A11, .no, .no, S14, S15, .no, .no]) = some (A0 :: [.val (eM G), A2, A3, A4, A5, A6, .val (eI p), A8, A9, A10, A11, .no, .no, S14, S15, .no, .no]) := by
        rw [as_one, if_pos (by show (true && S7.free) = true; rw [h7]; rfl)]; rfl
      subst q2
      refine ⟨_, .inl ?_, .val (eI p), S14', S15', rfl, h14', h15', rfl⟩
      rw [turnF_def, a1, Res.of_some, Res.bind_ok]
      have er := enu_ints p
      have hb : ∃ X, X = bIn := ⟨_, rfl⟩
      obtain ⟨X, hX⟩ := hb
      rw [← hX] at q1 ⊢
      clear hG hin hp hX
      simp -dsimp only [eI, eM] at *
      simp -implicitDefEqProofs -dsimp only [evalSs, evalS, evalE, evalIt, asVal_v, at_s, at_0, Res.of_some, Res.bind_ok, wipe_nil, er, q1])
  subst g2
  refine ⟨[.val (eM G), A2, A3, A4, A5, A6, S7, A8, A9, A10, A11, .no, .no, S14, S15, .no, .no], ?_⟩
  · have hb : ∃ X, X = (Ss.cons (.for_ (.tup [(.one 14), (.one 15)]) (.enu (.sl 7)) bIn []) .nil) := ⟨_, rfl⟩
    obtain ⟨X, hX⟩ := hb
    rw [← hX] at g1 ⊢
    clear hG hin hX
    simp -dsimp only [eM] at *
    simp -implicitDefEqProofs -dsimp only [evalSs, evalS, evalE, evalIt, asVal_v, at_s, at_0, Res.of_some, Res.bind_ok, wipe_nil]
    exact g1
end K16
namespace K16
open Ev
local macro_rules | `(tactic| decreasing_trivial_pre_omega) => `(tactic| simp -implicitDefEqProofs -dsimp only [*, turnC_def, turnF_def, as_tup, as_nil, as_cons, cw0, cw1, cw2, cw3, cw4, cw5, cw6, cw7, cw8, cw9, cw10, cw11, cw12, cw13, cw14, cw15, cw16, evalSs, evalS, evalE, evalB, evalRs, evalDs, evalIt, evalC, evP, peek_v, peek_t, peek_i, con_v, con_o, con_b, asVal_v, asVal_t, asVal_i, add_ii, sub_ii, add_ll, mod_if, lt_ii, le_ii, gt_ii, ge_ii, eq_ii, ne_ii, tru_b, ix_l, ix_s, sli_s, sli_l, sum_l, atI_n, len_l, len_s, int_i, max_ii, min_ii, bitlen_i, list_l, at_0, at_s, noExc_ok, Function.comp_def, flat_t, ite_self, isT_l, all_t, List.length_map, List.length_range, List.map_map, flat_i, flat_b, flat_n, flatO_n, mine_v, mine_o, mine_b, mine_n, free_v, free_o, free_n, put_o, put_b, back_n, back_s, hb_v, hb_t, left_n, left_i, hb_i, fin_r, fin_nx, pv_nil, pv_n, pv_s, pm_t, pm_i, fi_nil, fi_n, fi_s, permute_nil, atI_0, atI_1, atI_2, ixN_30, ixN_31, ixN_32, wipe_nil, wipe_cons, as_one, st_v, st_t, st_i, free_b, stores_nil, stores_cons, res_nil, res_v, res_t, res_i, tst_ok, sp_f, sp_l, isT, List.set_cons_zero, List.set_cons_succ, Ev.start, List.zipIdx_cons, List.zipIdx_nil, List.map_cons, List.map_nil, List.length_cons, List.length_nil, List.cons_append, List.nil_append, List.append_nil, Res.bind_ok, Res.bind_exc, Res.bind_bad, Res.of_some, Option.bind_some, Option.map_some, List.mapM_cons, List.mapM_nil, List.filterMap_cons, List.filterMap_nil, id, List.getElem?_cons_zero, List.getElem?_cons_succ, reduceIte, forL, LIM, range_1, Int.reduceToNat, Int.reduceNeg, Int.reduceDiv, Int.reduceMod, Int.ofNat_zero, Int.zero_add, Int.add_zero, Int.cast_ofNat_Int, Option.pure_def, Option.bind_eq_bind, Nat.zero_add, Nat.reduceAdd, Nat.reduceSub, Nat.reduceLeDiff, Nat.reduceLT, Nat.reduceEqDiff, Int.reduceLT, Int.reduceLE, Int.reduceAdd, Int.reduceMul, Int.reduceSub, Bool.true_and, Bool.and_true, Bool.false_and, Bool.and_false, Bool.and_self, decide_true, decide_false, Bool.false_eq_true, Bool.not_true, Bool.not_false, reduceCtorEq, Option.some.injEq, and_true, true_and, false_and, and_false, if_false, ↓reduceIte, and_self, or_true, true_or, List.replicate])
theorem start2 (g : D) : Ev.start (some 0) 18 [g] = .byr g :: [.no, .no, .no, .no, .no, .no, .no, .no, .no, .no, .no, .no, .no, .no, .no, .no, .no] := by
  simp -implicitDefEqProofs -dsimp only [Ev.start, List.zipIdx_cons, List.zipIdx_nil, List.map_cons, List.map_nil, if_true, List.length_cons, List.length_nil, Nat.zero_add, Nat.reduceAdd, Nat.reduceSub, List.cons_append, List.nil_append, List.replicate]
theorem fin_byr {g : D} {v : D} {e : Env} : fin (some 0) (.ret (.val v) (.byr g :: e)) = .ok (.val v, some g) := by
  simp -dsimp only [fin, handBack, left, at_0]
theorem right_val (k : Nat) {a b c : Int} (ha : 0 ≤ a) (hb : 0 ≤ b ∧ b < 2147483647) (hc : 0 ≤ c ∧ c < 800000) :
    ∃ a' c' : Int, callF T (k + 11) 2 [gD3 a b c] = .ok (.val (.bl true), some (gD3 a' b c')) ∧ 0 ≤ a' ∧ c ≤ c' ∧ c' ≤ c + 200 := by
  rw [callF_succ (fd := f2.fn) rfl ⟨rfl, by decide⟩]
  simp only [f2, b2]
  rw [start2]
  obtain ⟨ds, t, a1, c1, e1, hl, hd, ht, ha1, hc1, hc1'⟩ := st1_eval (k + 8) ha hb (c := c) (by omega)
  rw [ss_nx e1, st2_eval k hd hl ht]
  by_cases hG : 30 < (GRID ds t).length
  · rw [if_pos hG, Res.bind_ok, fin_byr]
    exact ⟨a1, c1, rfl, ha1, hc1, by omega⟩
  · rw [if_neg hG]
    have hpt : ∀ p ∈ GRID ds t, (∀ x ∈ p, 0 ≤ x ∧ x ≤ 4) ∧ p.length ≤ 4 := fun p hp => ⟨fun x hx => by
      have := grid_bd (B := 3) (fun d h => (hd d h).2) hp x hx
      omega, by rw [grid_len hp]; omega⟩
    have ck := chkI_of hd hl ht
    have f5 := st5_eval (k + 9) (g := gD3 a1 b c1) (ds := ds) (t := t) hpt (by omega)
    rw [ss_nx f5]
    obtain ⟨v, a2, c2, f7, hv, hv2, ha2, hc2, hc2'⟩ := st7_eval (k + 8) (G := GRID ds t) (S2 := .own (eM (MAT (GRID ds t)))) (S8 := .val (eI ds)) (S9 := .val (.int t)) (by omega) ha1 hb (c := c1) (by omega)
    obtain ⟨⟨R, hR⟩, hz⟩ := both_zero (v := v) ck (by omega) hv hv2
    have f6 := st6_eval (k + 9) (g := gD3 a1 b c1) (S1 := .val (eM (GRID ds t))) (rest := [.no, .no, .no, .no, .no, .val (eI ds), .val (.int t), .no, .no, .no, .no, .no, .no, .no, .no]) (MAT_sq (GRID ds t)) (by omega) hR
    rw [ss_nx f6, ss_nx f7]
    have hml : (MAT (GRID ds t)).length ≤ 100 := by rw [(MAT_sq _).1]; omega
    obtain ⟨S3, h3, f8⟩ := st8_eval (call := callF T (k + 10)) (g := gD3 a2 b c2) (G := GRID ds t) (M := MAT (GRID ds t)) (S8 := .val (eI ds)) (S9 := .val (.int t)) hv2 (MAT_bd hpt) (by omega) hml
    rw [ss_nx f8]
    have f9 := st9_eval (call := callF T (k + 10)) (g := gD3 a2 b c2) (G := GRID ds t) (M := MAT (GRID ds t)) (w := (MAT (GRID ds t)).map (dot v)) (S8 := .val (eI ds)) (S9 := .val (.int t)) h3 (by omega) (by rw [List.length_map]; exact hml) (by rw [nz_nil, nz_nil]; exact hz)
    rw [ss_nx f9]
    obtain ⟨j, a3, c3, f10, hj, ha3, hc3, hc3'⟩ := st10_eval (k + 8) (ds := ds) (A1 := .val (eM (GRID ds t))) (A2 := .val (eM (MAT (GRID ds t)))) (A3 := .val (eI v)) (A4 := .val (eI ((MAT (GRID ds t)).map (dot v)))) (S9 := .val (.int t)) hl ha2 hb (c := c2) (by omega)
    rw [ss_nx f10]
    have f11 := st11_eval (call := callF T (k + 10)) (A0 := .byr (gD3 a3 b c3)) (A1 := .val (eM (GRID ds t))) (A2 := .val (eM (MAT (GRID ds t)))) (A3 := .val (eI v)) (A4 := .val (eI ((MAT (GRID ds t)).map (dot v)))) (S9 := .val (.int t)) hj (by omega)
    rw [ss_nx f11]
    have hm : ∀ d ∈ ds.set j (ds[j] + 1), 0 ≤ d ∧ d ≤ 4 := by
      intro d h
      rcases List.mem_or_eq_of_mem_set h with h | h
      · have := hd d h; omega
      · have := hd ds[j] (List.getElem_mem _); omega
    have f12 := st12_eval k (A0 := .byr (gD3 a3 b c3)) (A1 := .val (eM (GRID ds t))) (A2 := .val (eM (MAT (GRID ds t)))) (A3 := .val (eI v)) (A4 := .val (eI ((MAT (GRID ds t)).map (dot v)))) (A5 := .val (.int (j : Int))) (A7 := .no) hd hl ht hm (by rw [List.length_set])
    rw [ss_nx f12]
    have f13 := st13_eval (call := callF T (k + 10)) (A0 := .byr (gD3 a3 b c3)) (A2 := .val (eM (MAT (GRID ds t)))) (A3 := .val (eI v)) (A4 := .val (eI ((MAT (GRID ds t)).map (dot v)))) (A5 := .val (.int (j : Int))) (A6 := .val (eI (ds.set j (ds[j] + 1)))) (S8 := .val (eI ds)) (S9 := .val (.int t)) (G := GRID ds t) (W := GRID (ds.set j (ds[j] + 1)) t) (V := GRID ds (t + 1)) (by omega) (fun p hp => grid_wide hj hp) (fun p hp => grid_deep hp)
    rw [ss_nx f13]
    obtain ⟨e', f14⟩ := st14_eval (call := callF T (k + 10)) (A0 := .byr (gD3 a3 b c3)) (A2 := .val (eM (MAT (GRID ds t)))) (A3 := .val (eI v)) (A4 := .val (eI ((MAT (GRID ds t)).map (dot v)))) (A5 := .val (.int (j : Int))) (A6 := .val (eI (ds.set j (ds[j] + 1)))) (A8 := .val (eI ds)) (A9 := .val (.int t)) (A10 := .own (eM (GRID (ds.set j (ds[j] + 1)) t))) (A11 := .own (eM (GRID ds (t + 1)))) (G := GRID ds t) (fun p hp => by rw [grid_len hp]; omega) (fun p hp j hj h0 => grid_less hj h0 hp)
    rw [ss_nx f14]
    refine ⟨a3, c3, ?_, ha3, by omega, by omega⟩
    have : evalSs T.chg T.gval (callF T (k + 10)) (.cons (.ret (.con (.bl true))) .nil) (.byr (gD3 a3 b c3) :: e') = .ok (.ret (.val (.bl true)) (.byr (gD3 a3 b c3) :: e')) := by
      simp -dsimp only [evalSs, evalS, evalE, Res.bind_ok]
    rw [this, Res.bind_ok, fin_byr]
theorem law_eq (ns : List Int) : callF T 30 0 [.scr ns] = .ok (.val (.bl true), none) := by
  have hr := fun (a b c : Int) ha hb hc => right_val 18 (a := a) (b := b) (c := c) ha hb hc
  have inner : ∀ (i : Nat) (a b : Int) (S3 : Sl), i < 3 → S3.free = true → 0 ≤ a → (0 ≤ b ∧ b < 2147483647) → ∃ g S3', S3'.free = true ∧ forL (.one 3) (evalSs T.chg T.gval (callF T 29) (.cons (.iff (.not (.call 2 (.cons false (.sl 2) .nil) .nil [])) (.cons (.ret (.con (.bl false))) .nil) .nil) .nil)) [] ((List.range 3).map fun (i : Nat) => .int (i : Int)) [.val (.scr ns), .val (.int (i : Int)), .own (gD3 a b (1000 * i)), S3] = .ok (.nx [.val (.scr ns), .val (.int (i : Int)), .own g, S3']) := by
    intro i a b S3 hi h3 ha hb
    obtain ⟨e', g1, a', c', S3', h3', ha', hc', hc2', rfl⟩ := forL_nth (tg := .one 3) (body := evalSs T.chg T.gval (callF T 29) (.cons (.iff (.not (.call 2 (.cons false (.sl 2) .nil) .nil [])) (.cons (.ret (.con (.bl false))) .nil) .nil) .nil)) (fun (i : Nat) => D.int (i : Int)) (fun j e => ∃ a c S3, S3.free = true ∧ 0 ≤ a ∧ 0 ≤ c ∧ c ≤ 2000 + 200 * (j : Int) ∧ e = [.val (.scr ns), .val (.int (i : Int)), .own (gD3 a b c), S3]) (List.range 3) 0 [.val (.scr ns), .val (.int (i : Int)), .own (gD3 a b (1000 * i)), S3] ⟨a, 1000 * i, S3, h3, ha, by omega, by omega, rfl⟩ (by
        rintro j hj e ⟨a, c, S3, h3, ha, hc, hc2, rfl⟩
        rw [List.length_range] at hj
        obtain ⟨a', c', e1, ha', hc', hc2'⟩ := hr a b c ha hb (by omega)
        have a1 : ∀ d, assignT (.one 3) d [.val (.scr ns), .val (.int (i : Int)), .own (gD3 a b c), S3] = some [.val (.scr ns), .val (.int (i : Int)), .own (gD3 a b c), .val d] := by
          intro d
          rw [as_one, if_pos (by show (true && S3.free) = true; rw [h3]; rfl)]; rfl
        refine ⟨_, .inl ?_, a', c', .val (.int (((List.range 3)[j]'(by rw [List.length_range]; exact hj) : Nat) : Int)), rfl, ha', by omega, by omega, rfl⟩
        rw [turnF_def, a1, Res.of_some, Res.bind_ok]
        generalize gD3 a b c = g1 at *
        generalize gD3 a' b c' = g2 at *
        rw [show 18 + 11 = 29 from rfl] at e1
        generalize callF T 29 = call at *
        clear hr hi ha hb hc hc2 h3 ha' hc' hc2' a1
        decreasing_trivial_pre_omega)
    exact ⟨_, S3', h3', g1⟩
  have turn : ∀ (i : Nat) (S1 S2 S3 : Sl), i < 3 → S1.free = true → S2.free = true → S3.free = true → ∃ S2' S3', S2'.free = true ∧ S3'.free = true ∧ turnF (.one 1) (evalSs T.chg T.gval (callF T 29) (.cons (.asg (.one 2) (.call 1 (.cons false (.sl 0) (.cons false (.sl 1) .nil)) .nil [])) (.cons (.for_ (.one 3) (.ran1 (.con (.int 3))) (.cons (.iff (.not (.call 2 (.cons false (.sl 2) .nil) .nil [])) (.cons (.ret (.con (.bl false))) .nil) .nil) .nil) []) .nil))) (.int (i : Int)) [.val (.scr ns), S1, S2, S3] = .ok (.nx [.val (.scr ns), .val (.int (i : Int)), S2', S3']) := by
    intro i S1 S2 S3 hi h1 h2 h3
    obtain ⟨a, b, e1, ha, hb⟩ := gen_val 27 ns i (by omega)
    obtain ⟨g, S3', h3', e2⟩ := inner i a b S3 hi h3 ha hb
    have a1 : assignT (.one 1) (.int (i : Int)) [.val (.scr ns), S1, S2, S3] = some [.val (.scr ns), .val (.int (i : Int)), S2, S3] := by
      rw [as_one, if_pos (by show (true && S1.free) = true; rw [h1]; rfl)]; rfl
    refine ⟨.own g, S3', rfl, h3', ?_⟩
    rw [turnF_def, a1, Res.of_some, Res.bind_ok]
    rw [show 27 + 2 = 29 from rfl] at e1
    have fl : flatR (.tmp (gD3 a b (1000 * i))) = true := rfl
    generalize gD3 a b (1000 * i) = g1 at *
    generalize callF T 29 = call at *
    have rg : (List.range (3 : Int).toNat).map (fun (i : Nat) => D.int (0 + (i : Int))) = (List.range 3).map fun (i : Nat) => D.int (i : Int) := by
      rw [show (3 : Int).toNat = 3 from rfl]
      congr 1
      funext i
      rw [Int.zero_add]
    generalize hB : (Ss.cons (.iff (.not (.call 2 (.cons false (.sl 2) .nil) .nil [])) (.cons (.ret (.con (.bl false))) .nil) .nil) .nil) = B at *
    clear hr inner hi h1 h3 h3' a1 hB ha hb
    have q : evalS T.chg T.gval call (.asg (.one 2) (.call 1 (.cons false (.sl 0) (.cons false (.sl 1) .nil)) .nil [])) [.val (.scr ns), .val (.int (i : Int)), S2, S3] = .ok (.nx [.val (.scr ns), .val (.int (i : Int)), .own g1, S3]) := by
      clear e2 rg
      decreasing_trivial_pre_omega
    rw [ss_nx q]
    have q2 : evalS T.chg T.gval call (.for_ (.one 3) (.ran1 (.con (.int 3))) B []) [.val (.scr ns), .val (.int (i : Int)), .own g1, S3] = .ok (.nx [.val (.scr ns), .val (.int (i : Int)), .own g, S3']) := by
      have c : (3 : Int) < 1000000000 ∧ -1000000000 < (3 : Int) ∧ (3 : Int).toNat ≤ LIM := by decide
      simp -implicitDefEqProofs -dsimp only [evalS, evalIt, evalE, Res.bind_ok, peek_v, c, and_self, if_true, wipe_nil, rg, e2]
    rw [ss_nx q2]
    simp -dsimp only [evalSs]
  obtain ⟨e', g1, S1, S2, S3, _, _, _, rfl⟩ := forL_nth (tg := .one 1) (body := evalSs T.chg T.gval (callF T 29) (.cons (.asg (.one 2) (.call 1 (.cons false (.sl 0) (.cons false (.sl 1) .nil)) .nil [])) (.cons (.for_ (.one 3) (.ran1 (.con (.int 3))) (.cons (.iff (.not (.call 2 (.cons false (.sl 2) .nil) .nil [])) (.cons (.ret (.con (.bl false))) .nil) .nil) .nil) []) .nil))) (fun (i : Nat) => D.int (i : Int)) (fun j e => ∃ S1 S2 S3, S1.free = true ∧ S2.free = true ∧ S3.free = true ∧ e = [.val (.scr ns), S1, S2, S3]) (List.range 3) 0 [.val (.scr ns), .no, .no, .no] ⟨.no, .no, .no, rfl, rfl, rfl, rfl⟩ (by
      rintro j hj e ⟨S1, S2, S3, h1, h2, h3, rfl⟩
      rw [List.length_range] at hj
      obtain ⟨S2', S3', h2', h3', e1⟩ := turn j S1 S2 S3 hj h1 h2 h3
      rw [List.getElem_range]
      exact ⟨_, .inl e1, _, S2', S3', rfl, h2', h3', rfl⟩)
  rw [callF_succ (fd := f0.fn) rfl ⟨rfl, by decide⟩]
  simp only [f0, b0]
  have rg : (List.range (3 : Int).toNat).map (fun (i : Nat) => D.int (0 + (i : Int))) = (List.range 3).map fun (i : Nat) => D.int (i : Int) := by
    rw [show (3 : Int).toNat = 3 from rfl]
    congr 1
    funext i
    rw [Int.zero_add]
  have c : (3 : Int) < 1000000000 ∧ -1000000000 < (3 : Int) ∧ (3 : Int).toNat ≤ LIM := by decide
  clear turn inner hr
  generalize callF T 29 = call at *
  generalize (Ss.cons (.asg (.one 2) (.call 1 (.cons false (.sl 0) (.cons false (.sl 1) .nil)) .nil [])) (.cons (.for_ (.one 3) (.ran1 (.con (.int 3))) (.cons (.iff (.not (.call 2 (.cons false (.sl 2) .nil) .nil [])) (.cons (.ret (.con (.bl false))) .nil) .nil) .nil) []) .nil)) = B at *
  simp -implicitDefEqProofs -dsimp only [Ev.start, List.zipIdx_cons, List.zipIdx_nil, List.map_cons, List.map_nil, reduceCtorEq, if_false, List.length_cons, List.length_nil, Nat.zero_add, Nat.reduceAdd, Nat.reduceSub, List.cons_append, List.nil_append, List.replicate]
  have q : evalS T.chg T.gval call (.for_ (.one 1) (.ran1 (.con (.int 3))) B []) [.val (.scr ns), .no, .no, .no] = .ok (.nx [.val (.scr ns), S1, S2, S3]) := by
    simp -implicitDefEqProofs -dsimp only [evalS, evalIt, evalE, Res.bind_ok, peek_v, c, and_self, if_true, wipe_nil, rg, g1]
  rw [ss_nx q]
  simp -implicitDefEqProofs -dsimp only [evalSs, evalS, evalE, Res.bind_ok, fin, handBack, left]
end K16
namespace K16
open Ev
theorem law_val (ns : List Int) (hl : ns.length ≤ 63) : callF T 30 0 [.scr ns] = .ok (.val (.bl true), none) := law_eq ns
end K16
open PySem PySem.W PySem.Calls PyProof.Rows
theorem PySem.Challenge.cw_figuresproved_k16_whole_least_grids_suff_holds : PySem.Challenge.rw_figuresproved_k16_whole_least_grids_suff.Holds := by
  w_on; o_law
  refine HandSHeadRun.head_any (r := OpenLaw.row PySem.Challenge.rw_figuresproved_k16_whole_least_grids_suff) (q := view (OpenLaw.row PySem.Challenge.rw_figuresproved_k16_whole_least_grids_suff).prog [25]) (H := K16.hk) (ob := K16.ob) (M := 4000) (loose := K16.loose) (d := HandSHeadRun.topDef (OpenLaw.row PySem.Challenge.rw_figuresproved_k16_whole_least_grids_suff).prog 25) (kwd := []) K16.ob_eq
    (by kernel_rfl) (fun s => by kernel_rfl) K16.run (by kernel_rfl) (by kernel_rfl) (by kernel_rfl) (by rfl) (by first | assumption | decide +kernel) (by decide +kernel) ⟨rfl, rfl, rfl, rfl, rfl, by decide +kernel⟩ ?hw ?hc
  case hw => w_witness2
  case hc =>
    refine L2.walk_ofE (l := PySem.Challenge.rw_figuresproved_k16_whole_least_grids_suff) (n := 63) (k := 30) (x := "script") (CX := Ev.CXu) rfl (by decide) (by kernel_rfl) ⟨rfl, by decide, by decide⟩ ?F Ev.CXu_no
    intro w mg fa h Y G hmg0
    obtain ⟨K, KX, c⟩ := Y
    have hmg : mg ("law" : PySem.Str) = some (.ref fa) := by
      have e : (HandSHeadRun.topDef (OpenLaw.row PySem.Challenge.rw_figuresproved_k16_whole_least_grids_suff).prog 25).name = ("law" : PySem.Str) := by kernel_rfl
      rw [← e]
      exact hmg0
    obtain ⟨fdt, P, hF⟩ := K16.facts (PySem.Challenge.rw_figuresproved_k16_whole_least_grids_suff).prog w KX G c
    have e2 := hmg.symm.trans (He.glo_ok KX G (c.facts (f := .glo "law") (List.mem_append_left _ (List.mem_append_left _ (List.mem_map_of_mem (List.mem_cons_self ..))))))
    cases e2
    exact ⟨K, fdt, _, KX, fun s u => Ev.plain_binds P s u, fun H a ns hl _ hS => Ev.law_sp rfl hS (by show ns.length ≤ 16777216; omega) (K16.law_val ns hl), fun base _ _ => Ev.FnOk.u (hF 29 base)⟩
